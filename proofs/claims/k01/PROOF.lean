import PyProof.Rows.All
import Wide.All
import OpenK.AllK
import Wide.FinOn
import HandS.ForMost
import HandS.Zip
import HandS.Rev
import HandS.Wide
import HandS.SortRule
import HandS.Style
import HandS.NoneIn
import HandS.TupAny
import HandS.IsInst
import HandS.Strs
import HandS.Defaults
import HandS.Ends
import PySem.Challenge.RW_drawntold_k01_fractions_made_and_summed
set_option Elab.async false
set_option linter.all false
set_option exponentiation.threshold 20000
set_option maxRecDepth 100000
set_option maxHeartbeats 4000000
namespace Mn
open PySem PySem.Spec PyProof.Rows
open L2 hiding It
/-! Mini 1: data as trees, shared things by number, and how they lie in the abstract heap. -/

/-- a value of the program: numbers, texts, tuples and lists as trees; ref n: the n-th shared thing that may still be written -/
inductive D where
  | non | bl (b : Bool) | int (i : Int) | str (x : Str)
  | tup (xs : List D) | lst (xs : List D) | ref (n : Nat)
  /-- a tuple that a walk hands out (enumerate, zip) -/
  | wtup (xs : List D)

/-- a shared thing -/
inductive MO where
  | lst (xs : List D)
  | gone
abbrev Hm := List MO
abbrev Sg := List (Option D)

/-- a tuple, a list as it lies: tracked and not written any more, or the module's own -/
def LieT (K : PySem.W.Frag) (H : Hp) (M : Addr → Prop) (a : Addr) (vs : List V) : Prop :=
  (∃ o, H a = some (.frz o (.tup vs)) ∧ o.dict = none ∧ ¬ M a) ∨
    ∃ (o : Obj) (its : Array Value) (n : Nat), K.lookup a = some o ∧ o.cls = .type "tuple" ∧ o.dict = none ∧ o.data = .seq its n ∧ its.size ≤ sizeLine ∧ Vals vs its.toList
def LieW (K : PySem.W.Frag) (H : Hp) (M : Addr → Prop) (a : Addr) (vs : List V) : Prop := Rd H a (.tup vs) ∧ ¬ M a
def LieL (K : PySem.W.Frag) (H : Hp) (M : Addr → Prop) (a : Addr) (vs : List V) : Prop :=
  (Rd H a (.lst vs) ∧ ¬ M a) ∨
    ∃ (o : Obj) (its : Array Value) (n : Nat), K.lookup a = some o ∧ o.cls = .type "list" ∧ o.dict = none ∧ o.data = .seq its n ∧ its.size ≤ sizeLine ∧ Vals vs its.toList
theorem LieT.sq {K : PySem.W.Frag} {H : Hp} {M : Addr → Prop} {a : Addr} {vs : List V} (h : LieT K H M a vs) : SqT K H a vs := by
  rcases h with ⟨o, h, _, _⟩ | ⟨o, its, n, h1, h2, _, h3, h4, h5⟩
  · exact .inl (.inr ⟨o, h⟩)
  · exact .inr ⟨o, its, n, h1, h2, h3, h4, h5⟩
theorem LieW.sq {K : PySem.W.Frag} {H : Hp} {M : Addr → Prop} {a : Addr} {vs : List V} (h : LieW K H M a vs) : SqT K H a vs := .inl h.1
theorem LieL.sq {K : PySem.W.Frag} {H : Hp} {M : Addr → Prop} {a : Addr} {vs : List V} (h : LieL K H M a vs) : SqL K H a vs := h.imp (·.1) id

mutual
inductive RD (K : PySem.W.Frag) (H : Hp) (ρ : List Addr) (M : Addr → Prop) : D → V → Prop
  | non : RD K H ρ M .non .non
  | bl (b : Bool) : RD K H ρ M (.bl b) (.bl b)
  | int (i : Int) : RD K H ρ M (.int i) (.int i)
  | str (x : Str) : RD K H ρ M (.str x) (.str x)
  | tup {a : Addr} {xs : List D} {vs : List V} : LieT K H M a vs → RDs K H ρ M xs vs → RD K H ρ M (.tup xs) (.ref a)
  | lst {a : Addr} {xs : List D} {vs : List V} : LieL K H M a vs → RDs K H ρ M xs vs → RD K H ρ M (.lst xs) (.ref a)
  | ref {n : Nat} {a : Addr} : ρ[n]? = some a → RD K H ρ M (.ref n) (.ref a)
  | wtup {a : Addr} {xs : List D} {vs : List V} : LieW K H M a vs → RDs K H ρ M xs vs → RD K H ρ M (.wtup xs) (.ref a)
inductive RDs (K : PySem.W.Frag) (H : Hp) (ρ : List Addr) (M : Addr → Prop) : List D → List V → Prop
  | nil : RDs K H ρ M [] []
  | cons {d : D} {v : V} {ds : List D} {vs : List V} : RD K H ρ M d v → RDs K H ρ M ds vs → RDs K H ρ M (d :: ds) (v :: vs)
end

section
variable {K : PySem.W.Frag} {H H' : Hp} {ρ ρ' : List Addr} {M M' : Addr → Prop}
/-- what keeps all that lies -/
structure Kps (H : Hp) (ρ : List Addr) (M : Addr → Prop) (H' : Hp) (ρ' : List Addr) (M' : Addr → Prop) : Prop where
  obj : ∀ a o, H a = some o → ¬ M a → H' a = some o ∧ ¬ M' a
  ref : ∀ (n : Nat) (a : Addr), ρ[n]? = some a → ρ'[n]? = some a
theorem Kps.rd (k : Kps H ρ M H' ρ' M') {a : Addr} {u : HO} (h : Rd H a u) (n : ¬ M a) : Rd H' a u ∧ ¬ M' a := by
  rcases h with h | ⟨o, h⟩
  · obtain ⟨h1, h2⟩ := k.obj _ _ h n
    exact ⟨.inl h1, h2⟩
  · obtain ⟨h1, h2⟩ := k.obj _ _ h n
    exact ⟨.inr ⟨o, h1⟩, h2⟩
theorem LieT.mono (k : Kps H ρ M H' ρ' M') {a : Addr} {vs : List V} (h : LieT K H M a vs) : LieT K H' M' a vs := by
  rcases h with ⟨o, h, d, n⟩ | h
  · obtain ⟨h1, h2⟩ := k.obj _ _ h n
    exact .inl ⟨o, h1, d, h2⟩
  · exact .inr h
theorem LieW.mono (k : Kps H ρ M H' ρ' M') {a : Addr} {vs : List V} (h : LieW K H M a vs) : LieW K H' M' a vs := k.rd h.1 h.2
theorem LieL.mono (k : Kps H ρ M H' ρ' M') {a : Addr} {vs : List V} (h : LieL K H M a vs) : LieL K H' M' a vs := by
  rcases h with ⟨h, n⟩ | h
  · exact .inl (k.rd h n)
  · exact .inr h
mutual
theorem RD.mono (k : Kps H ρ M H' ρ' M') : ∀ {d : D} {v : V}, RD K H ρ M d v → RD K H' ρ' M' d v
  | .non, _, h => by cases h; exact .non
  | .bl _, _, h => by cases h; exact .bl _
  | .int _, _, h => by cases h; exact .int _
  | .str _, _, h => by cases h; exact .str _
  | .tup xs, _, h => by
    cases h with
    | tup l r => exact .tup (l.mono k) (RDs.mono k r)
  | .lst xs, _, h => by
    cases h with
    | lst l r => exact .lst (l.mono k) (RDs.mono k r)
  | .ref n, _, h => by
    cases h with
    | ref e => exact .ref (k.ref _ _ e)
  | .wtup xs, _, h => by
    cases h with
    | wtup l r => exact .wtup (l.mono k) (RDs.mono k r)
theorem RDs.mono (k : Kps H ρ M H' ρ' M') : ∀ {ds : List D} {vs : List V}, RDs K H ρ M ds vs → RDs K H' ρ' M' ds vs
  | [], _, h => by cases h; exact .nil
  | d :: ds, _, h => by
    cases h with
    | cons a b => exact .cons (RD.mono k a) (RDs.mono k b)
end
theorem RDs.length : ∀ {ds : List D} {vs : List V}, RDs K H ρ M ds vs → ds.length = vs.length
  | [], _, h => by cases h; rfl
  | d :: ds, _, h => by
    cases h with
    | cons a b => simp [RDs.length b]
theorem RDs.get : ∀ {ds : List D} {vs : List V} {i : Nat} {d : D}, RDs K H ρ M ds vs → ds[i]? = some d → ∃ v, vs[i]? = some v ∧ RD K H ρ M d v
  | [], _, _, _, _, e => by simp at e
  | d :: ds, _, 0, _, h, e => by
    cases h with
    | cons a b =>
      have e' : d = _ := Option.some.inj e
      subst e'
      exact ⟨_, rfl, a⟩
  | d :: ds, _, i + 1, _, h, e => by
    cases h with
    | cons a b =>
      obtain ⟨v, h1, h2⟩ := RDs.get (i := i) b (by simpa using e)
      exact ⟨v, by simpa using h1, h2⟩
theorem RDs.get' : ∀ {ds : List D} {vs : List V} {i : Nat} {v : V}, RDs K H ρ M ds vs → vs[i]? = some v → ∃ d, ds[i]? = some d ∧ RD K H ρ M d v
  | _, [], _, _, _, e => by simp at e
  | _, v :: vs, 0, _, h, e => by
    cases h with
    | cons a b =>
      have e' : v = _ := Option.some.inj e
      subst e'
      exact ⟨_, rfl, a⟩
  | _, v :: vs, i + 1, _, h, e => by
    cases h with
    | cons a b =>
      obtain ⟨d, h1, h2⟩ := RDs.get' (i := i) b (by simpa using e)
      exact ⟨d, by simpa using h1, h2⟩
theorem RDs.append : ∀ {ds es : List D} {vs ws : List V}, RDs K H ρ M ds vs → RDs K H ρ M es ws → RDs K H ρ M (ds ++ es) (vs ++ ws)
  | [], _, _, _, h, g => by cases h; exact g
  | d :: ds, _, _, _, h, g => by
    cases h with
    | cons a b => exact .cons a (RDs.append b g)
theorem RDs.take : ∀ {ds : List D} {vs : List V} (n : Nat), RDs K H ρ M ds vs → RDs K H ρ M (ds.take n) (vs.take n)
  | _, _, 0, _ => by simp; exact .nil
  | [], _, _ + 1, h => by cases h; exact .nil
  | d :: ds, _, n + 1, h => by
    cases h with
    | cons a b => exact .cons a (RDs.take n b)
theorem RDs.drop : ∀ {ds : List D} {vs : List V} (n : Nat), RDs K H ρ M ds vs → RDs K H ρ M (ds.drop n) (vs.drop n)
  | _, _, 0, h => h
  | [], _, _ + 1, h => by cases h; exact .nil
  | d :: ds, _, n + 1, h => by
    cases h with
    | cons a b => exact RDs.drop n b
theorem RDs.set : ∀ {ds : List D} {vs : List V} (i : Nat) {d : D} {v : V}, RDs K H ρ M ds vs → RD K H ρ M d v → RDs K H ρ M (ds.set i d) (vs.set i v)
  | [], _, _, _, _, h, _ => by cases h; exact .nil
  | x :: ds, _, 0, _, _, h, r => by
    cases h with
    | cons a b => exact .cons r b
  | x :: ds, _, i + 1, _, _, h, r => by
    cases h with
    | cons a b => exact .cons a (RDs.set i b r)
theorem RDs.reverse : ∀ {ds : List D} {vs : List V}, RDs K H ρ M ds vs → RDs K H ρ M ds.reverse vs.reverse
  | [], _, h => by cases h; exact .nil
  | d :: ds, _, h => by
    cases h with
    | cons a b =>
      rw [List.reverse_cons, List.reverse_cons]
      exact RDs.append (RDs.reverse b) (.cons a .nil)
end

/-! ### the state -/
/-- what may still be written -/
def Mu (ρ : List Addr) (h : Hm) : Addr → Prop := fun a => ∃ (n : Nat) (o : MO), ρ[n]? = some a ∧ h[n]? = some o ∧ o ≠ MO.gone
def RO (K : PySem.W.Frag) (H : Hp) (ρ : List Addr) (M : Addr → Prop) : MO → Addr → Prop
  | .lst xs, a => ∃ vs, H a = some (.lst vs) ∧ RDs K H ρ M xs vs
  | .gone, a => ∃ u, H a = some u
structure HR (K : PySem.W.Frag) (h : Hm) (ρ : List Addr) (H : Hp) : Prop where
  len : ρ.length = h.length
  nd : ρ.Nodup
  obj : ∀ (n : Nat) (o : MO) (a : Addr), h[n]? = some o → ρ[n]? = some a → RO K H ρ (Mu ρ h) o a
/-- the slots -/
structure SlR (K : PySem.W.Frag) (H : Hp) (ρ : List Addr) (M : Addr → Prop) (σ : Sg) (σV : L2.St) : Prop where
  len : σ.length = σV.length
  get : ∀ (i : Nat) (d : D), σ[i]? = some (some d) → ∃ v, σV[i]? = some (some v) ∧ RD K H ρ M d v
structure SR (K : PySem.W.Frag) (σ : Sg) (h : Hm) (ρ : List Addr) (σV : L2.St) (H : Hp) : Prop where
  hp : HR K h ρ H
  sl : SlR K H ρ (Mu ρ h) σ σV
abbrev Rel (K : PySem.W.Frag) (h : Hm) (ρ : List Addr) (H : Hp) : D → V → Prop := RD K H ρ (Mu ρ h)
abbrev Rels (K : PySem.W.Frag) (h : Hm) (ρ : List Addr) (H : Hp) : List D → List V → Prop := RDs K H ρ (Mu ρ h)
abbrev Kp (h : Hm) (ρ : List Addr) (H : Hp) (h' : Hm) (ρ' : List Addr) (H' : Hp) : Prop := Kps H ρ (Mu ρ h) H' ρ' (Mu ρ' h')
theorem Kps.refl {H : Hp} {ρ : List Addr} {M : Addr → Prop} : Kps H ρ M H ρ M := ⟨fun _ _ h n => ⟨h, n⟩, fun _ _ h => h⟩
theorem Kps.trans {H1 H2 H3 : Hp} {ρ1 ρ2 ρ3 : List Addr} {M1 M2 M3 : Addr → Prop} (a : Kps H1 ρ1 M1 H2 ρ2 M2) (b : Kps H2 ρ2 M2 H3 ρ3 M3) : Kps H1 ρ1 M1 H3 ρ3 M3 :=
  ⟨fun c o h n => let ⟨x, y⟩ := a.obj c o h n; b.obj c o x y, fun n c h => b.ref n c (a.ref n c h)⟩
theorem SlR.mono {K : PySem.W.Frag} {H H' : Hp} {ρ ρ' : List Addr} {M M' : Addr → Prop} {σ : Sg} {σV : L2.St} (k : Kps H ρ M H' ρ' M') (h : SlR K H ρ M σ σV) : SlR K H' ρ' M' σ σV :=
  ⟨h.len, fun i d e => let ⟨v, a, b⟩ := h.get i d e; ⟨v, a, b.mono k⟩⟩
theorem SlR.set {K : PySem.W.Frag} {H : Hp} {ρ : List Addr} {M : Addr → Prop} {σ : Sg} {σV : L2.St} {i : Nat} {d : D} {v : V} (h : SlR K H ρ M σ σV) (r : RD K H ρ M d v) : SlR K H ρ M (σ.set i (some d)) (σV.set i (some v)) := by
  refine ⟨by simp [h.len], fun j e hj => ?_⟩
  by_cases hij : i = j
  · subst hij
    rw [List.getElem?_set] at hj
    simp only [if_true] at hj
    split at hj
    · rename_i hl
      have e' : d = e := by simpa using hj
      subst e'
      exact ⟨v, by rw [List.getElem?_set_self (by rw [← h.len]; exact hl)], r⟩
    · cases hj
  · rw [List.getElem?_set_ne hij] at hj
    obtain ⟨w, a, b⟩ := h.get j e hj
    exact ⟨w, by rw [List.getElem?_set_ne hij]; exact a, b⟩
/-- slots forgotten -/
def wipeD (σ : Sg) : List Nat → Sg
  | [] => σ
  | v :: vs => (wipeD σ vs).set v none
theorem SlR.none {K : PySem.W.Frag} {H : Hp} {ρ : List Addr} {M : Addr → Prop} {σ : Sg} {σV : L2.St} {i : Nat} (h : SlR K H ρ M σ σV) : SlR K H ρ M (σ.set i none) (σV.set i none) := by
  refine ⟨by simp [h.len], fun j e hj => ?_⟩
  by_cases hij : i = j
  · subst hij
    rw [List.getElem?_set] at hj
    simp only [if_true] at hj
    split at hj <;> simp at hj
  · rw [List.getElem?_set_ne hij] at hj
    obtain ⟨w, a, b⟩ := h.get j e hj
    exact ⟨w, by rw [List.getElem?_set_ne hij]; exact a, b⟩
theorem SlR.wipe {K : PySem.W.Frag} {H : Hp} {ρ : List Addr} {M : Addr → Prop} {σ : Sg} {σV : L2.St} (h : SlR K H ρ M σ σV) : ∀ vs : List Nat, SlR K H ρ M (wipeD σ vs) (L2.wipe σV vs)
  | [] => h
  | v :: vs => by
    unfold wipeD L2.wipe
    exact (SlR.wipe h vs).none

/-! ### steps of the heap -/
section
variable {K : PySem.W.Frag} {H : Hp} {ρ : List Addr} {h : Hm}
theorem HR.mu {a : Addr} (r : HR K h ρ H) (m : Mu ρ h a) : ∃ vs, H a = some (.lst vs) := by
  obtain ⟨n, o, e1, e2, e3⟩ := m
  have z := r.obj n o a e2 e1
  cases o with
  | gone => exact absurd rfl e3
  | lst xs =>
    obtain ⟨vs, e, _⟩ := z
    exact ⟨vs, e⟩
theorem HR.fresh {p : Addr} (r : HR K h ρ H) (e : H p = none) : ¬ Mu ρ h p := fun m => by
  obtain ⟨vs, q⟩ := r.mu m
  rw [e] at q; cases q
/-- a new thing that is never written -/
theorem Kp.new {p : Addr} {o : HO} (r : HR K h ρ H) (e : H p = none) : Kp h ρ H h ρ (upd H p o) :=
  ⟨fun a u q n => ⟨by rw [upd_ne (ne_of_none q e)]; exact q, n⟩, fun _ _ q => q⟩
theorem ix_of_nodup {l : List Addr} (nd : l.Nodup) {i j : Nat} {a : Addr} (h1 : l[i]? = some a) (h2 : l[j]? = some a) : i = j := by
  obtain ⟨q1, e1⟩ := List.getElem?_eq_some_iff.mp h1
  obtain ⟨q2, e2⟩ := List.getElem?_eq_some_iff.mp h2
  exact (List.getElem_inj nd).mp (e1.trans e2.symm)
theorem mu_gone {n : Nat} {a : Addr} (nd : ρ.Nodup) (e1 : h[n]? = some .gone) (e2 : ρ[n]? = some a) : ¬ Mu ρ h a := by
  rintro ⟨m, o, q1, q2, q3⟩
  have := ix_of_nodup nd q1 e2
  subst this
  rw [e1] at q2
  cases q2
  exact q3 rfl
theorem HR.mono {H' : Hp} (r : HR K h ρ H) (k : Kp h ρ H h ρ H') (kl : ∀ a vs, Mu ρ h a → H a = some (.lst vs) → H' a = some (.lst vs)) : HR K h ρ H' := by
  refine ⟨r.len, r.nd, fun n o a e1 e2 => ?_⟩
  have z := r.obj n o a e1 e2
  cases o with
  | gone =>
    obtain ⟨u, q⟩ := z
    exact ⟨u, (k.obj a u q (mu_gone r.nd e1 e2)).1⟩
  | lst xs =>
    obtain ⟨vs, e, q⟩ := z
    exact ⟨vs, kl a vs ⟨n, _, e2, e1, by intro z; cases z⟩ e, q.mono k⟩
theorem HR.new {p : Addr} {o : HO} (r : HR K h ρ H) (e : H p = none) : HR K h ρ (upd H p o) :=
  r.mono (Kp.new r e) fun a vs _ q => by rw [upd_ne (ne_of_none q e)]; exact q
theorem SR.new {σ : Sg} {σV : L2.St} {p : Addr} {o : HO} (s : SR K σ h ρ σV H) (e : H p = none) : SR K σ h ρ σV (upd H p o) := ⟨s.hp.new e, s.sl.mono (Kp.new s.hp e)⟩
/-- a new thing that may be written -/
theorem mu_push {p a : Addr} {o : MO} (hl : ρ.length = h.length) (m : Mu (ρ ++ [p]) (h ++ [o]) a) : Mu ρ h a ∨ a = p := by
  obtain ⟨n, u, e1, e2, e3⟩ := m
  by_cases hn : n < h.length
  · rw [List.getElem?_append_left (by omega)] at e1
    rw [List.getElem?_append_left hn] at e2
    exact .inl ⟨n, u, e1, e2, e3⟩
  · right
    rw [List.getElem?_append_right (by omega)] at e1
    have : n - ρ.length = 0 := by
      cases k : n - ρ.length with
      | zero => rfl
      | succ k' => rw [k] at e1; simp at e1
    rw [this] at e1
    exact (Option.some.inj e1).symm
theorem Kp.push {p : Addr} {xs : List D} {vs : List V} (r : HR K h ρ H) (e : H p = none) : Kp h ρ H (h ++ [.lst xs]) (ρ ++ [p]) (upd H p (.lst vs)) := by
  refine ⟨fun a u q n => ⟨by rw [upd_ne (ne_of_none q e)]; exact q, fun m => ?_⟩, fun n a q => ?_⟩
  · rcases mu_push r.len m with m | rfl
    · exact n m
    · rw [e] at q; cases q
  · have hn : n < ρ.length := (List.getElem?_eq_some_iff.mp q).1
    rw [List.getElem?_append_left hn]
    exact q
theorem HR.notin {p : Addr} (r : HR K h ρ H) (e : H p = none) : p ∉ ρ := fun m => by
  obtain ⟨n, hn⟩ := List.getElem?_of_mem m
  have hl : n < h.length := by rw [← r.len]; exact (List.getElem?_eq_some_iff.mp hn).1
  have z := r.obj n h[n] p (by simp [hl]) hn
  cases k : h[n] with
  | gone =>
    rw [k] at z
    obtain ⟨u, q⟩ := z
    rw [e] at q; cases q
  | lst xs =>
    rw [k] at z
    obtain ⟨vs, q, _⟩ := z
    rw [e] at q; cases q
theorem HR.push {p : Addr} {xs : List D} {vs : List V} (r : HR K h ρ H) (e : H p = none) (q : Rels K h ρ H xs vs) : HR K (h ++ [.lst xs]) (ρ ++ [p]) (upd H p (.lst vs)) := by
  have kp : Kp h ρ H (h ++ [.lst xs]) (ρ ++ [p]) (upd H p (.lst vs)) := Kp.push r e
  refine ⟨by simp [r.len], ?_, fun n o a e1 e2 => ?_⟩
  · rw [List.nodup_append]
    exact ⟨r.nd, by simp, fun a ha b hb z => by
      have hb' : b = p := by simpa using hb
      subst z
      subst hb'
      exact r.notin e ha⟩
  · by_cases hn : n < h.length
    · rw [List.getElem?_append_left hn] at e1
      rw [List.getElem?_append_left (by rw [r.len]; exact hn)] at e2
      have z := r.obj n o a e1 e2
      cases o with
      | gone =>
        obtain ⟨u, z⟩ := z
        exact ⟨u, by rw [upd_ne (ne_of_none z e)]; exact z⟩
      | lst ys =>
        obtain ⟨ws, z, z2⟩ := z
        exact ⟨ws, by rw [upd_ne (ne_of_none z e)]; exact z, z2.mono kp⟩
    · rw [List.getElem?_append_right (by omega)] at e1
      rw [List.getElem?_append_right (by rw [r.len]; omega)] at e2
      have hz : n - h.length = 0 := by
        cases k : n - h.length with
        | zero => rfl
        | succ k' => rw [k] at e1; simp at e1
      rw [hz] at e1
      rw [r.len, hz] at e2
      have ea : p = a := by simpa using e2
      have eo : MO.lst xs = o := by simpa using e1
      subst ea
      subst eo
      exact ⟨vs, upd_same, q.mono kp⟩
theorem mu_set {n : Nat} {o : MO} {a b : Addr} (e : ρ[n]? = some a) (h1 : ∃ o', h[n]? = some o' ∧ o' ≠ .gone) (m : Mu ρ (h.set n o) b) : Mu ρ h b := by
  obtain ⟨k, u, q1, q2, q3⟩ := m
  by_cases hk : n = k
  · subst hk
    obtain ⟨o', z1, z2⟩ := h1
    exact ⟨n, o', q1, z1, z2⟩
  · rw [List.getElem?_set_ne hk] at q2
    exact ⟨k, u, q1, q2, q3⟩
/-- a shared thing is written -/
theorem Kp.write {n : Nat} {a : Addr} {xs ys : List D} {ws : List V} (e : ρ[n]? = some a) (h1 : h[n]? = some (.lst xs)) : Kp h ρ H (h.set n (.lst ys)) ρ (upd H a (.lst ws)) := by
  refine ⟨fun b u q m => ⟨?_, fun z => m (mu_set e ⟨_, h1, by intro z; cases z⟩ z)⟩, fun _ _ q => q⟩
  rw [upd_ne]
  · exact q
  · rintro rfl
    exact m ⟨n, _, e, h1, by intro z; cases z⟩
theorem HR.write {n : Nat} {a : Addr} {xs ys : List D} {ws : List V} (r : HR K h ρ H) (e : ρ[n]? = some a) (h1 : h[n]? = some (.lst xs)) (q : Rels K h ρ H ys ws) : HR K (h.set n (.lst ys)) ρ (upd H a (.lst ws)) := by
  have kp : Kp h ρ H (h.set n (.lst ys)) ρ (upd H a (.lst ws)) := Kp.write e h1
  refine ⟨by simp [r.len], r.nd, fun k o b e1 e2 => ?_⟩
  by_cases hk : n = k
  · subst hk
    rw [e] at e2
    cases e2
    have hn : n < h.length := (List.getElem?_eq_some_iff.mp h1).1
    rw [List.getElem?_set_self hn] at e1
    cases e1
    exact ⟨ws, upd_same, q.mono kp⟩
  · rw [List.getElem?_set_ne hk] at e1
    have ne : b ≠ a := fun z => by
      subst z
      exact hk (ix_of_nodup r.nd e e2)
    have z := r.obj k o b e1 e2
    cases o with
    | gone =>
      obtain ⟨u, z⟩ := z
      exact ⟨u, by rw [upd_ne ne]; exact z⟩
    | lst zs =>
      obtain ⟨us, z, z2⟩ := z
      exact ⟨us, by rw [upd_ne ne]; exact z, z2.mono kp⟩
/-- a shared thing is closed: never written again -/
theorem Kp.close {n : Nat} {a : Addr} {xs : List D} (e : ρ[n]? = some a) (h1 : h[n]? = some (.lst xs)) : Kp h ρ H (h.set n .gone) ρ H :=
  ⟨fun b u q m => ⟨q, fun z => m (mu_set e ⟨_, h1, by intro z; cases z⟩ z)⟩, fun _ _ q => q⟩
theorem HR.close {n : Nat} {a : Addr} {xs : List D} (r : HR K h ρ H) (e : ρ[n]? = some a) (h1 : h[n]? = some (.lst xs)) : HR K (h.set n .gone) ρ H ∧ Rel K (h.set n .gone) ρ H (.lst xs) (.ref a) := by
  have kp : Kp h ρ H (h.set n .gone) ρ H := Kp.close e h1
  have hn : n < h.length := (List.getElem?_eq_some_iff.mp h1).1
  obtain ⟨vs, q1, q2⟩ := r.obj n _ a h1 e
  refine ⟨⟨by simp [r.len], r.nd, fun k o b e1 e2 => ?_⟩, .lst (.inl ⟨.inl q1, ?_⟩) (q2.mono kp)⟩
  · by_cases hk : n = k
    · subst hk
      rw [e] at e2
      cases e2
      rw [List.getElem?_set_self hn] at e1
      cases e1
      exact ⟨_, q1⟩
    · rw [List.getElem?_set_ne hk] at e1
      have z := r.obj k o b e1 e2
      cases o with
      | gone => exact z
      | lst zs =>
        obtain ⟨us, z, z2⟩ := z
        exact ⟨us, z, z2.mono kp⟩
  · exact mu_gone r.nd (by rw [List.getElem?_set_self hn]) e
end

/-! Mini 2: the small language, and what its parts come to. -/

inductive Res (α : Type) where
  | ok (a : α) (h : Hm)
  | stuck
def Res.bind {α β : Type} : Res α → (α → Hm → Res β) → Res β
  | .ok a h, f => f a h
  | .stuck, _ => .stuck
@[simp] theorem Res.bind_ok {α β : Type} (a : α) (h : Hm) (f : α → Hm → Res β) : (Res.ok a h).bind f = f a h := rfl
@[simp] theorem Res.bind_stuck {α β : Type} (f : α → Hm → Res β) : (Res.stuck : Res α).bind f = .stuck := rfl
def Res.guard {α : Type} (b : Bool) (r : Res α) : Res α := match b with | true => r | false => .stuck
@[simp] theorem Res.guard_true {α : Type} (r : Res α) : Res.guard true r = r := rfl
@[simp] theorem Res.guard_false {α : Type} (r : Res α) : Res.guard false r = .stuck := rfl

inductive Op2 where
  | add | sub | mul | fdiv | mod | pow | addM
  deriving DecidableEq
inductive Cm where
  | lt | le | gt | ge | eq | ne
  deriving DecidableEq
inductive Ty where
  | int | bool | str | tuple | list
  deriving DecidableEq
inductive Bi where
  | len | abs | int | tuple | list | all | any | sum | max2 | min2 | str | sorted
  deriving DecidableEq
inductive Mt where
  | append | popAt | index
  deriving DecidableEq

inductive Tg where
  | v (i : Nat)
  | tup (is : List Nat)

mutual
inductive Ex where
  | v (i : Nat)
  | non | bl (b : Bool) | int (i : Int) | str (x : Str)
  | glob (g : Nat)
  | op2 (o : Op2) (a b : Ex)
  | neg (a : Ex)
  | cmp (o : Cm) (a b : Ex)
  | chain (o1 o2 : Cm) (a b c : Ex)
  | isN (a : Ex) | notN (a : Ex)
  | isB (ng : Bool) (a : Ex) (b : Bool)
  | band (a b : Ex) | bor (a b : Ex) | bnot (a : Ex)
  | ifx (c a b : Ex)
  | tup (es : Exs) | lst (es : Exs) | lstM (es : Exs)
  | ix (a i : Ex)
  | slice (a : Ex) (lo hi : Eo)
  | rev (a : Ex)
  | call (f : Nat) (es : Exs)
  | callk (f : Nat) (es kes : Exs) (perm : List Nat)
  | isi (a : Ex) (t : Ty)
  | isiT (a : Ex) (ts : List Ty)
  | bi (b : Bi) (es : Exs)
  | meth (m : Mt) (r : Ex) (es : Exs)
  | comp (mu : Bool) (own : List (Str × Nat)) (tg : Tg) (it : It) (cond : Exs) (elt : Ex)
inductive Exs where
  | nil
  | cons (e : Ex) (es : Exs)
/-- what is walked -/
inductive It where
  | ex (e : Ex) | rng1 (a : Ex) | rng2 (a b : Ex) | rvs (e : Ex) | enm (e : Ex) | zp (a b : Ex)
/-- an end of a slice -/
inductive Eo where
  | none
  | some (e : Ex)
end

mutual
inductive Stm where
  | set (i : Nat) (e : Ex)
  | asg (is : List Nat) (e : Ex)
  | par (i j : Nat) (a b : Ex)
  | setix (o i : Ex) (e : Ex)
  | ex (e : Ex)
  | ret (e : Ex)
  | ife (c : Ex) (a b : Blk)
  | for_ (tg : Tg) (it : It) (b : Blk)
  | while_ (c : Ex) (b : Blk)
  | brk | cont | pass
  | freeze (i : Nat)
  | never
inductive Blk where
  | nil
  | cons (s : Stm) (b : Blk)
end

/-! ### plain data -/
mutual
def toPy : D → Option PyData
  | .non => some .none
  | .bl b => some (.bool b)
  | .int i => some (.int i)
  | .str x => some (.str x)
  | .tup xs => (toPys xs).map .tuple
  | .lst xs => (toPys xs).map .list
  | .ref _ => none
  | .wtup _ => none
def toPys : List D → Option (List PyData)
  | [] => some []
  | x :: xs => match toPy x, toPys xs with
    | some p, some ps => some (p :: ps)
    | _, _ => none
end
def listOf? (h : Hm) (n : Nat) : Option (List D) := match h[n]? with
  | some (.lst xs) => some xs
  | _ => none
def toPyH (h : Hm) : D → Option PyData
  | .ref n => ((listOf? h n).bind toPys).map .list
  | d => toPy d
/-- the items of a list or tuple -/
def itemsOf (h : Hm) : D → Option (List D)
  | .tup xs => some xs
  | .lst xs => some xs
  | .ref n => listOf? h n
  | _ => none
abbrev LIM : Nat := 16777216

def mulOk (i j : Int) : Bool := decide (i.natAbs.log2 + j.natAbs.log2 < 1000000) || (decide (-(2 ^ 64) < i) && decide (i < 2 ^ 64)) || (decide (-(2 ^ 64) < j) && decide (j < 2 ^ 64))
def divOk (j : Int) : Bool := decide (j ≠ 0) && decide (j.natAbs.log2 < 9000)
def powOk (i j : Int) : Bool := decide (0 ≤ j) && decide (j ≤ 1000000) && decide (i.natAbs < 2 ^ 64)

/-- the items of a list -/
def lstOf (h : Hm) : D → Option (List D)
  | .lst xs => some xs
  | .ref n => listOf? h n
  | _ => none
def tupOf : D → Option (List D)
  | .tup xs => some xs
  | _ => none
/-- list + list, tuple + tuple -/
def catD (mu : Bool) (d e : D) (h : Hm) : Res D := match lstOf h d, lstOf h e with
  | some xs, some ys => .guard (decide (xs.length + ys.length ≤ LIM)) (match mu with
    | true => .ok (.ref h.length) (h ++ [.lst (xs ++ ys)])
    | false => .ok (.lst (xs ++ ys)) h)
  | _, _ => match tupOf d, tupOf e with
    | some xs, some ys => .guard (!mu && decide (xs.length + ys.length ≤ LIM)) (.ok (.tup (xs ++ ys)) h)
    | _, _ => .stuck
def opD : Op2 → D → D → Hm → Res D
  | .add, .int i, .int j, h => .ok (.int (i + j)) h
  | .add, .str x, .str y, h => .guard (decide (x.length + y.length ≤ LIM)) (.ok (.str (x ++ y)) h)
  | .add, d, e, h => catD false d e h
  | .addM, d, e, h => catD true d e h
  | .sub, .int i, .int j, h => .ok (.int (i - j)) h
  | .mul, .int i, .int j, h => .guard (mulOk i j) (.ok (.int (i * j)) h)
  | .fdiv, .int i, .int j, h => .guard (divOk j) (.ok (.int (i.fdiv j)) h)
  | .mod, .int i, .int j, h => .guard (decide (0 < j)) (.ok (.int (i % j)) h)
  | .pow, .int i, .int j, h => .guard (powOk i j) (.ok (.int (i ^ j.toNat)) h)
  | _, _, _, _ => .stuck

def eqD (a b : D) (h : Hm) : Res Bool := match toPyH h a, toPyH h b with
  | some p, some q => .guard (SeqAt.shaped p && SeqAt.shaped q) (.ok (PyData.eqv p q) h)
  | _, _ => .stuck
def cmpD : Cm → D → D → Hm → Res Bool
  | .eq, a, b, h => eqD a b h
  | .ne, a, b, h => (eqD a b h).bind fun c h => .ok (!c) h
  | .lt, .int i, .int j, h => .ok (decide (i < j)) h
  | .le, .int i, .int j, h => .ok (decide (i ≤ j)) h
  | .gt, .int i, .int j, h => .ok (decide (j < i)) h
  | .ge, .int i, .int j, h => .ok (decide (j ≤ i)) h
  | _, _, _, _ => .stuck
def isNonD : D → Bool
  | .non => true
  | _ => false
def trD : D → Hm → Res Bool
  | .bl b, h => .ok b h
  | _, _ => .stuck
def tyD : Ty → D → Bool
  | .int, .int _ => true
  | .int, .bl _ => true
  | .bool, .bl _ => true
  | .str, .str _ => true
  | .tuple, .tup _ => true
  | .tuple, .wtup _ => true
  | .list, .lst _ => true
  | .list, .ref _ => true
  | _, _ => false
def ixD : D → D → Hm → Res D
  | .str x, .int i, h => match atI x.cps.toList i with
    | some c => .guard (decide (x.length ≤ LIM)) (.ok (.str ⟨#[c]⟩) h)
    | none => .stuck
  | d, .int i, h => match itemsOf h d with
    | some xs => match atI xs i with
      | some y => .ok y h
      | none => .stuck
    | none => .stuck
  | _, _, _ => .stuck
/-- a value whose type may be asked -/
def openD (h : Hm) : D → Bool
  | .ref n => (listOf? h n).isSome
  | _ => true
def boolsOf : List D → Option (List Bool)
  | [] => some []
  | .bl b :: r => (boolsOf r).map (b :: ·)
  | _ :: _ => none
def intsOf : List D → Option (List Int)
  | [] => some []
  | .int b :: r => (intsOf r).map (b :: ·)
  | _ :: _ => none

/-- pairs of ints -/
def pairsOf : List D → Option (List (Int × Int))
  | [] => some []
  | .tup [.int i, .int j] :: r => (pairsOf r).map ((i, j) :: ·)
  | _ :: _ => none
def unpairs (ps : List (Int × Int)) : List D := ps.map fun p => .tup [.int p.1, .int p.2]
def insP (p : Int × Int) : List (Int × Int) → List (Int × Int)
  | [] => [p]
  | q :: r => if SrtO.lexB q p then q :: insP p r else p :: q :: r
def sortP : List (Int × Int) → List (Int × Int)
  | [] => []
  | p :: r => insP p (sortP r)
def biD : Bi → List D → Hm → Res D
  | .len, [.str x], h => .guard (decide (x.length ≤ LIM)) (.ok (.int x.length) h)
  | .len, [d], h => match itemsOf h d with
    | some xs => .ok (.int xs.length) h
    | none => .stuck
  | .abs, [.int i], h => .ok (.int (if i < 0 then -i else i)) h
  | .int, [.int i], h => .ok (.int i) h
  | .int, [.bl b], h => .ok (.int (if b then 1 else 0)) h
  | .tuple, [.tup xs], h => .ok (.tup xs) h
  | .tuple, [d], h => match itemsOf h d with
    | some xs => .ok (.tup xs) h
    | none => .stuck
  | .list, [d], h => match itemsOf h d with
    | some xs => .ok (.lst xs) h
    | none => .stuck
  | .all, [d], h => match (lstOf h d).bind boolsOf with
    | some bs => .ok (.bl (bs.all id)) h
    | none => .stuck
  | .any, [d], h => match (lstOf h d).bind boolsOf with
    | some bs => .ok (.bl (bs.any id)) h
    | none => .stuck
  | .sum, [d], h => match (lstOf h d).bind intsOf with
    | some bs => .ok (.int bs.sum) h
    | none => .stuck
  | .sorted, [d], h => match (lstOf h d).bind pairsOf with
    | some ps => .ok (.lst (unpairs (sortP ps))) h
    | none => .stuck
  | .max2, [.int i, .int j], h => .ok (.int (if j > i then j else i)) h
  | .min2, [.int i, .int j], h => .ok (.int (if j < i then j else i)) h
  | .str, [.int i], h => .guard (decide (i.natAbs.log2 < 1920)) (.ok (.str (Str.ofString (toString i))) h)
  | _, _, _ => .stuck

def strsOf : List D → Option (List Str)
  | [] => some []
  | .str b :: r => (strsOf r).map (b :: ·)
  | _ :: _ => none
/-- the first place -/
def idxOf (x : Str) : List Str → Option Nat
  | [] => none
  | y :: ys => if y = x then some 0 else (idxOf x ys).map (· + 1)
def mtD : Mt → D → List D → Hm → Res D
  | .append, .ref n, [x], h => match listOf? h n with
    | some xs => .guard (decide (xs.length < LIM)) (.ok .non (h.set n (.lst (xs ++ [x]))))
    | none => .stuck
  | .popAt, .ref n, [.int i], h => match listOf? h n with
    | some xs => match (if 0 ≤ i ∧ i < xs.length then xs[i.toNat]? else none) with
      | some y => .ok y (h.set n (.lst (xs.eraseIdx i.toNat)))
      | none => .stuck
    | none => .stuck
  | .index, .tup xs, [.str x], h => match (strsOf xs).bind (idxOf x) with
    | some j => .ok (.int j) h
    | none => .stuck
  | _, _, _, _ => .stuck

/-- what may be asked -/
def rcvD : Mt → D → Hm → Bool
  | .append, .ref n, h => (listOf? h n).isSome
  | .popAt, .ref n, h => (listOf? h n).isSome
  | .index, .tup _, _ => true
  | _, _, _ => false
/-- the values of the names of a target -/
def setAll : List Nat → List D → Sg → Option Sg
  | [], [], σ => some σ
  | i :: is, d :: ds, σ => setAll is ds (σ.set i (some d))
  | _, _, _ => none
def asgD : Tg → D → Sg → Option Sg
  | .v i, d, σ => some (σ.set i (some d))
  | .tup is, .tup xs, σ => setAll is xs σ
  | .tup is, .wtup xs, σ => setAll is xs σ
  | .tup is, .lst xs, σ => setAll is xs σ
  | .tup _, _, _ => none

/-- the list that stands at n grows by what f tells of the items -/
def compLoop (f : D → Hm → Res (Option D)) (n : Nat) : List D → Hm → Res Unit
  | [], h => .ok () h
  | x :: xs, h => (f x h).bind fun o h1 => match o with
    | some y => match listOf? h1 n with
      | some acc => .guard (decide (acc.length < LIM)) (compLoop f n xs (h1.set n (.lst (acc ++ [y]))))
      | none => .stuck
    | none => compLoop f n xs h1
mutual
/-- all shared things within are of the first n -/
def belowD (n : Nat) : D → Bool
  | .tup xs => belowDs n xs
  | .lst xs => belowDs n xs
  | .wtup xs => belowDs n xs
  | .ref k => decide (k < n)
  | _ => true
def belowDs (n : Nat) : List D → Bool
  | [] => true
  | x :: xs => belowD n x && belowDs n xs
end
open Classical in
/-- behind a comprehension its list is closed; it is forgotten where nothing else has changed -/
noncomputable def endC (h1 h2 : Hm) (ys : List D) : Hm := if (h2.take h1.length = h1 ∧ h2.length = h1.length + 1) ∧ belowDs h1.length ys = true then h1 else h2.set h1.length .gone

def itD : D → Hm → Res (List D)
  | .tup xs, h => .ok xs h
  | .lst xs, h => .ok xs h
  | _, _ => .stuck
structure Gam where
  fn : Nat → Option (List D → Hm → Res D)
  gl : Nat → Option D

def cutL {α : Type} (xs : List α) (lo hi : Option Int) : List α := (xs.drop (HT.sIx xs.length 0 lo)).take (HT.sIx xs.length xs.length hi - HT.sIx xs.length 0 lo)
def cutD (d : D) (lo hi : Option Int) (h : Hm) : Res D := match d with
  | .lst xs => .ok (.lst (cutL xs lo hi)) h
  | .tup xs => .ok (.tup (cutL xs lo hi)) h
  | .ref n => match listOf? h n with
    | some xs => .ok (.lst (cutL xs lo hi)) h
    | none => .stuck
  | .str x => .guard (decide (x.length ≤ LIM)) (.ok (.str (cutS x lo hi)) h)
  | _ => .stuck
def zipD : List D → List D → List D
  | x :: xs, y :: ys => .wtup [x, y] :: zipD xs ys
  | _, _ => []
def enumD : Nat → List D → List D
  | _, [] => []
  | k, x :: xs => .wtup [.int k, x] :: enumD (k + 1) xs
def rngD (lo : Int) : Nat → List D
  | 0 => []
  | n + 1 => .int lo :: rngD (lo + 1) n
def smallI (i : Int) : Bool := decide (-(2 ^ 62) ≤ i) && decide (i < 2 ^ 62)

/-- the values by their places -/
def permV (perm : List Nat) {α : Type} (d : α) (us ws : List α) : List α := perm.map fun i => (us ++ ws).getD i d
noncomputable section
mutual
def evE (Γ : Gam) : Ex → Sg → Hm → Res D
  | .v i, σ, h => match σ[i]? with
    | some (some d) => .ok d h
    | _ => .stuck
  | .non, _, h => .ok .non h
  | .bl b, _, h => .ok (.bl b) h
  | .int i, _, h => .ok (.int i) h
  | .str x, _, h => .ok (.str x) h
  | .glob g, _, h => match Γ.gl g with
    | some d => .ok d h
    | none => .stuck
  | .op2 o a b, σ, h => (evE Γ a σ h).bind fun x h1 => (evE Γ b σ h1).bind fun y h2 => opD o x y h2
  | .neg a, σ, h => (evE Γ a σ h).bind fun x h1 => match x with
    | .int i => .ok (.int (-i)) h1
    | _ => .stuck
  | .cmp o a b, σ, h => (evE Γ a σ h).bind fun x h1 => (evE Γ b σ h1).bind fun y h2 => (cmpD o x y h2).bind fun c h3 => .ok (.bl c) h3
  | .chain o1 o2 a b c, σ, h => (evE Γ a σ h).bind fun x h1 => (evE Γ b σ h1).bind fun y h2 => (cmpD o1 x y h2).bind fun t h3 =>
    match t with
    | true => (evE Γ c σ h3).bind fun z h4 => (cmpD o2 y z h4).bind fun u h5 => .ok (.bl u) h5
    | false => .ok (.bl false) h3
  | .isN a, σ, h => (evE Γ a σ h).bind fun x h1 => .ok (.bl (isNonD x)) h1
  | .notN a, σ, h => (evE Γ a σ h).bind fun x h1 => .ok (.bl (!isNonD x)) h1
  | .isB ng a b, σ, h => (evE Γ a σ h).bind fun x h1 => match x with
    | .bl c => .ok (.bl (ng ^^ decide (c = b))) h1
    | _ => .stuck
  | .band a b, σ, h => (evE Γ a σ h).bind fun x h1 => match x with
    | .bl true => evE Γ b σ h1
    | .bl false => .ok (.bl false) h1
    | _ => .stuck
  | .bor a b, σ, h => (evE Γ a σ h).bind fun x h1 => match x with
    | .bl true => .ok (.bl true) h1
    | .bl false => evE Γ b σ h1
    | _ => .stuck
  | .bnot a, σ, h => (evE Γ a σ h).bind fun x h1 => match x with
    | .bl c => .ok (.bl (!c)) h1
    | _ => .stuck
  | .ifx c a b, σ, h => (evT Γ c σ h).bind fun t h1 => match t with
    | true => evE Γ a σ h1
    | false => evE Γ b σ h1
  | .tup es, σ, h => (evEs Γ es σ h).bind fun ds h1 => .guard (decide (ds.length ≤ LIM)) (.ok (.tup ds) h1)
  | .lst es, σ, h => (evEs Γ es σ h).bind fun ds h1 => .guard (decide (ds.length ≤ LIM)) (.ok (.lst ds) h1)
  | .lstM es, σ, h => (evEs Γ es σ h).bind fun ds h1 => .guard (decide (ds.length ≤ LIM)) (.ok (.ref h1.length) (h1 ++ [.lst ds]))
  | .ix a i, σ, h => (evE Γ a σ h).bind fun x h1 => (evE Γ i σ h1).bind fun y h2 => ixD x y h2
  | .slice a lo hi, σ, h => (evE Γ a σ h).bind fun x h1 => (evO Γ lo σ h1).bind fun l h2 => (evO Γ hi σ h2).bind fun u h3 => .guard ((lstOf h3 x).isSome) (cutD x l u h3)
  | .rev a, σ, h => (evE Γ a σ h).bind fun x h1 => match lstOf h1 x with
    | some xs => .ok (.lst xs.reverse) h1
    | none => .stuck
  | .call f es, σ, h => (evEs Γ es σ h).bind fun ds h1 => match Γ.fn f with
    | some den => den ds h1
    | none => .stuck
  | .callk f es kes perm, σ, h => (evEs Γ es σ h).bind fun ds h1 => (evEs Γ kes σ h1).bind fun ks h2 => match Γ.fn f with
    | some den => den (permV perm D.non ds ks) h2
    | none => .stuck
  | .isi a t, σ, h => (evE Γ a σ h).bind fun x h1 => .guard (openD h1 x) (.ok (.bl (tyD t x)) h1)
  | .isiT a ts, σ, h => (evE Γ a σ h).bind fun x h1 => .guard (openD h1 x) (.ok (.bl (ts.any fun t => tyD t x)) h1)
  | .bi b es, σ, h => (evEs Γ es σ h).bind fun ds h1 => biD b ds h1
  | .meth m r es, σ, h => (evE Γ r σ h).bind fun x h1 => .guard (rcvD m x h1) ((evEs Γ es σ h1).bind fun ds h2 => mtD m x ds h2)
  | .comp mu own tg it cond elt, σ, h => (evI Γ it σ h).bind fun src h1 =>
    (compLoop (fun x h2 => match asgD tg x (wipeD σ (own.map (·.2))) with
      | some σ' => (evTs Γ cond σ' h2).bind fun t h3 => match t with
        | true => (evE Γ elt σ' h3).bind fun y h4 => .ok (some y) h4
        | false => .ok none h3
      | none => .stuck) h1.length src (h1 ++ [.lst []])).bind fun _ h2 => match listOf? h2 h1.length with
        | some ys => match mu with
          | true => .ok (.ref h1.length) h2
          | false => .ok (.lst ys) (endC h1 h2 ys)
        | none => .stuck
def evEs (Γ : Gam) : Exs → Sg → Hm → Res (List D)
  | .nil, _, h => .ok [] h
  | .cons e es, σ, h => (evE Γ e σ h).bind fun x h1 => (evEs Γ es σ h1).bind fun xs h2 => .ok (x :: xs) h2
/-- a test -/
def evT (Γ : Gam) : Ex → Sg → Hm → Res Bool
  | .band a b, σ, h => (evT Γ a σ h).bind fun t h1 => match t with
    | true => evT Γ b σ h1
    | false => .ok false h1
  | .bor a b, σ, h => (evT Γ a σ h).bind fun t h1 => match t with
    | true => .ok true h1
    | false => evT Γ b σ h1
  | .bnot a, σ, h => (evT Γ a σ h).bind fun t h1 => .ok (!t) h1
  | .cmp o a b, σ, h => (evE Γ a σ h).bind fun x h1 => (evE Γ b σ h1).bind fun y h2 => cmpD o x y h2
  | .chain o1 o2 a b c, σ, h => (evE Γ a σ h).bind fun x h1 => (evE Γ b σ h1).bind fun y h2 => (cmpD o1 x y h2).bind fun t h3 =>
    match t with
    | true => (evE Γ c σ h3).bind fun z h4 => cmpD o2 y z h4
    | false => .ok false h3
  | .isN a, σ, h => (evE Γ a σ h).bind fun x h1 => .ok (isNonD x) h1
  | .notN a, σ, h => (evE Γ a σ h).bind fun x h1 => .ok (!isNonD x) h1
  | .isB ng a b, σ, h => (evE Γ a σ h).bind fun x h1 => match x with
    | .bl c => .ok (ng ^^ decide (c = b)) h1
    | _ => .stuck
  | .v i, σ, h => match σ[i]? with
    | some (some d) => trD d h
    | _ => .stuck
  | .bl b, _, h => .ok b h
  | .call f es, σ, h => (evEs Γ es σ h).bind fun ds h1 => match Γ.fn f with
    | some den => (den ds h1).bind trD
    | none => .stuck
  | .callk f es kes perm, σ, h => (evEs Γ es σ h).bind fun ds h1 => (evEs Γ kes σ h1).bind fun ks h2 => match Γ.fn f with
    | some den => (den (permV perm D.non ds ks) h2).bind trD
    | none => .stuck
  | .isi a t, σ, h => (evE Γ a σ h).bind fun x h1 => .guard (openD h1 x) (.ok (tyD t x) h1)
  | .isiT a ts, σ, h => (evE Γ a σ h).bind fun x h1 => .guard (openD h1 x) (.ok (ts.any fun t => tyD t x) h1)
  | .bi b es, σ, h => (evEs Γ es σ h).bind fun ds h1 => (biD b ds h1).bind trD
  | _, _, _ => .stuck
def evTs (Γ : Gam) : Exs → Sg → Hm → Res Bool
  | .nil, _, h => .ok true h
  | .cons e .nil, σ, h => evT Γ e σ h
  | .cons _ (.cons _ _), _, _ => .stuck
/-- an end of a slice -/
def evO (Γ : Gam) : Eo → Sg → Hm → Res (Option Int)
  | .none, _, h => .ok none h
  | .some e, σ, h => (evE Γ e σ h).bind fun x h1 => match x with
    | .int i => .ok (some i) h1
    | _ => .stuck
/-- what is walked: the items -/
def evI (Γ : Gam) : It → Sg → Hm → Res (List D)
  | .rng1 a, σ, h => (evE Γ a σ h).bind fun x h1 => match x with
    | .int j => .guard (smallI j) (.ok (rngD 0 j.toNat) h1)
    | _ => .stuck
  | .rng2 a b, σ, h => (evE Γ a σ h).bind fun x h1 => (evE Γ b σ h1).bind fun y h2 => match x, y with
    | .int i, .int j => .guard (smallI i && smallI j) (.ok (rngD i (j - i).toNat) h2)
    | _, _ => .stuck
  | .ex e, σ, h => (evE Γ e σ h).bind itD
  | .rvs e, σ, h => (evE Γ e σ h).bind fun x h1 => (itD x h1).bind fun xs h2 => .ok xs.reverse h2
  | .enm e, σ, h => (evE Γ e σ h).bind fun x h1 => match x with
    | .lst xs => .ok (enumD 0 xs) h1
    | _ => .stuck
  | .zp a b, σ, h => (evE Γ a σ h).bind fun x h1 => (evE Γ b σ h1).bind fun y h2 => match x, y with
    | .lst xs, .lst ys => .ok (zipD xs ys) h2
    | .tup xs, .tup ys => .ok (zipD xs ys) h2
    | _, _ => .stuck
end

/-! ### statements -/
structure Po where
  nx : Sg → Hm → Prop
  rt : D → Hm → Prop
  bk : Sg → Hm → Prop := fun _ _ => False
  ct : Sg → Hm → Prop := fun _ _ => False

def Res.wp {α : Type} : Res α → (α → Hm → Prop) → Prop
  | .ok a h, Q => Q a h
  | .stuck, _ => False
@[simp] theorem Res.wp_ok {α : Type} (a : α) (h : Hm) (Q : α → Hm → Prop) : (Res.ok a h).wp Q = Q a h := rfl

def wpFor (b : D → Sg → Hm → Po → Prop) : List D → Sg → Hm → Po → Prop
  | [], σ, h, P => P.nx σ h
  | x :: xs, σ, h, P => b x σ h { P with nx := fun σ' h' => wpFor b xs σ' h' P, ct := fun σ' h' => wpFor b xs σ' h' P, bk := P.nx }
def wpWhile (c : Sg → Hm → Res Bool) (b : Sg → Hm → Po → Prop) : Nat → Sg → Hm → Po → Prop
  | 0, _, _, _ => False
  | n + 1, σ, h, P => (c σ h).wp fun t h1 => match t with
    | true => b σ h1 { P with nx := fun σ' h' => wpWhile c b n σ' h' P, ct := fun σ' h' => wpWhile c b n σ' h' P, bk := P.nx }
    | false => P.nx σ h1

mutual
def wpS (Γ : Gam) : Stm → Sg → Hm → Po → Prop
  | .set i e, σ, h, P => (evE Γ e σ h).wp fun d h1 => P.nx (σ.set i (some d)) h1
  | .asg is e, σ, h, P => (evE Γ e σ h).wp fun d h1 => match asgD (.tup is) d σ with
    | some σ' => P.nx σ' h1
    | none => False
  | .par i j a b, σ, h, P => (evE Γ a σ h).wp fun x h1 => (evE Γ b σ h1).wp fun y h2 => P.nx ((σ.set i (some x)).set j (some y)) h2
  | .setix o i e, σ, h, P => (evE Γ e σ h).wp fun d h1 => (evE Γ o σ h1).wp fun x h2 => (evE Γ i σ h2).wp fun y h3 => match x, y with
    | .ref n, .int k => match listOf? h3 n with
      | some xs => match ixN xs.length k with
        | some j => P.nx σ (h3.set n (.lst (xs.set j d)))
        | none => False
      | none => False
    | _, _ => False
  | .ex e, σ, h, P => (evE Γ e σ h).wp fun _ h1 => P.nx σ h1
  | .ret e, σ, h, P => (evE Γ e σ h).wp P.rt
  | .ife c a b, σ, h, P => (evT Γ c σ h).wp fun t h1 => match t with
    | true => wpB Γ a σ h1 P
    | false => wpB Γ b σ h1 P
  | .for_ tg it b, σ, h, P => (evI Γ it σ h).wp fun xs h1 => wpFor (fun x σ1 h2 P1 => match asgD tg x σ1 with
    | some σ2 => wpB Γ b σ2 h2 P1
    | none => False) xs σ h1 P
  | .while_ c b, σ, h, P => ∃ n, wpWhile (evT Γ c) (wpB Γ b) n σ h P
  | .brk, σ, h, P => P.bk σ h
  | .cont, σ, h, P => P.ct σ h
  | .pass, σ, h, P => P.nx σ h
  | .freeze i, σ, h, P => match σ[i]? with
    | some (some (.ref n)) => match listOf? h n with
      | some xs => P.nx (σ.set i (some (.lst xs))) (h.set n .gone)
      | none => False
    | _ => False
  | .never, _, _, _ => False
def wpB (Γ : Gam) : Blk → Sg → Hm → Po → Prop
  | .nil, σ, h, P => P.nx σ h
  | .cons s b, σ, h, P => wpS Γ s σ h { P with nx := fun σ' h' => wpB Γ b σ' h' P }
end
end

/-! Mini 3: readings, and the operations by values. -/

section
variable {K : PySem.W.Frag} {σ : Sg} {h h' : Hm} {ρ ρ' : List Addr} {σV : L2.St} {H H' : Hp}
theorem SR.of (s : SR K σ h ρ σV H) (r : HR K h' ρ' H') (k : Kp h ρ H h' ρ' H') : SR K σ h' ρ' σV H' := ⟨r, s.sl.mono k⟩
theorem Res.wp_mono {α : Type} {r : Res α} {Q Q' : α → Hm → Prop} (w : r.wp Q) (m : ∀ a h, Q a h → Q' a h) : r.wp Q' := by
  cases r with
  | ok a h => exact m a h w
  | stuck => exact w
theorem Res.wp_bind {α β : Type} {r : Res α} {k : α → Hm → Res β} {Q : β → Hm → Prop} (w : (r.bind k).wp Q) : r.wp fun a h => (k a h).wp Q := by
  cases r with
  | ok a h => exact w
  | stuck => exact w
theorem Res.bind_wp_of {α β : Type} {r : Res α} {k : α → Hm → Res β} {Q : β → Hm → Prop} (w : r.wp fun a h => (k a h).wp Q) : (r.bind k).wp Q := by
  cases r with
  | ok a h => exact w
  | stuck => exact w
theorem Res.wp_guard {α : Type} {b : Bool} {r : Res α} {Q : α → Hm → Prop} (w : (Res.guard b r).wp Q) : b = true ∧ r.wp Q := by
  cases b with
  | true => exact ⟨rfl, w⟩
  | false => exact False.elim w

/-! ### readings -/
def tE (K : PySem.W.Frag) (f : Sg → Hm → Res D) : TE := fun σV H Q => ∃ σ h ρ, SR K σ h ρ σV H ∧ (f σ h).wp fun d h' => ∀ v H' ρ', SR K σ h' ρ' σV H' → Kp h ρ H h' ρ' H' → Rel K h' ρ' H' d v → Q v H'
def tT (K : PySem.W.Frag) (f : Sg → Hm → Res Bool) : TT := fun σV H Q => ∃ σ h ρ, SR K σ h ρ σV H ∧ (f σ h).wp fun b h' => ∀ H' ρ', SR K σ h' ρ' σV H' → Kp h ρ H h' ρ' H' → Q b H'
def tA (K : PySem.W.Frag) (f : Sg → Hm → Res (List D)) : TA := fun σV H Q => ∃ σ h ρ, SR K σ h ρ σV H ∧ (f σ h).wp fun ds h' => ∀ vs H' ρ', SR K σ h' ρ' σV H' → Kp h ρ H h' ρ' H' → Rels K h' ρ' H' ds vs → Q vs H'
def tP (K : PySem.W.Frag) (f : Sg → Hm → Res (Option Int)) : TO := fun σV H Q => ∃ σ h ρ, SR K σ h ρ σV H ∧ (f σ h).wp fun o h' => ∀ H' ρ', SR K σ h' ρ' σV H' → Kp h ρ H h' ρ' H' → Q o H'

/-- an expression within a chain -/
theorem tE_of {α : Type} {f : Sg → Hm → Res D} {k : D → Hm → Res α} {R : α → Hm → Prop} {Q : VK} (s : SR K σ h ρ σV H) (w : ((f σ h).bind k).wp R)
    (c : ∀ d h' v H' ρ', SR K σ h' ρ' σV H' → Kp h ρ H h' ρ' H' → Rel K h' ρ' H' d v → (k d h').wp R → Q v H') : tE K f σV H Q :=
  ⟨σ, h, ρ, s, Res.wp_mono (Res.wp_bind w) fun d h' q v H' ρ' s' k' r' => c d h' v H' ρ' s' k' r' q⟩
theorem tT_of {α : Type} {f : Sg → Hm → Res Bool} {k : Bool → Hm → Res α} {R : α → Hm → Prop} {Q : Bool → Hp → Prop} (s : SR K σ h ρ σV H) (w : ((f σ h).bind k).wp R)
    (c : ∀ b h' H' ρ', SR K σ h' ρ' σV H' → Kp h ρ H h' ρ' H' → (k b h').wp R → Q b H') : tT K f σV H Q :=
  ⟨σ, h, ρ, s, Res.wp_mono (Res.wp_bind w) fun b h' q H' ρ' s' k' => c b h' H' ρ' s' k' q⟩
theorem tA_of {α : Type} {f : Sg → Hm → Res (List D)} {k : List D → Hm → Res α} {R : α → Hm → Prop} {Q : List V → Hp → Prop} (s : SR K σ h ρ σV H) (w : ((f σ h).bind k).wp R)
    (c : ∀ ds h' vs H' ρ', SR K σ h' ρ' σV H' → Kp h ρ H h' ρ' H' → Rels K h' ρ' H' ds vs → (k ds h').wp R → Q vs H') : tA K f σV H Q :=
  ⟨σ, h, ρ, s, Res.wp_mono (Res.wp_bind w) fun ds h' q vs H' ρ' s' k' r' => c ds h' vs H' ρ' s' k' r' q⟩
theorem tP_of {α : Type} {f : Sg → Hm → Res (Option Int)} {k : Option Int → Hm → Res α} {R : α → Hm → Prop} {Q : Option Int → Hp → Prop} (s : SR K σ h ρ σV H) (w : ((f σ h).bind k).wp R)
    (c : ∀ o h' H' ρ', SR K σ h' ρ' σV H' → Kp h ρ H h' ρ' H' → (k o h').wp R → Q o H') : tP K f σV H Q :=
  ⟨σ, h, ρ, s, Res.wp_mono (Res.wp_bind w) fun o h' q H' ρ' s' k' => c o h' H' ρ' s' k' q⟩
end

theorem PE.w {X : Cx} {e : Expr} {t t' : TE} (p : PE X e t) (w : ∀ σ H Q, t' σ H Q → t σ H Q) : PE X e t' := ⟨fun pins s σ H Q I q => p.run pins s σ H Q I (w σ H Q q)⟩
theorem PT.w {X : Cx} {e : Expr} {t t' : TT} (p : PT X e t) (w : ∀ σ H Q, t' σ H Q → t σ H Q) : PT X e t' := ⟨fun pins s σ H Q I q => p.run pins s σ H Q I (w σ H Q q)⟩
theorem PW.w {X : Cx} {e : Expr} {t t' : TT} (p : PW X e t) (w : ∀ σ H Q, t' σ H Q → t σ H Q) : PW X e t' := ⟨fun wh pins s σ H Q I q => p.run wh pins s σ H Q I (w σ H Q q)⟩
theorem PA.w {X : Cx} {es : List Expr} {t t' : TA} (p : PA X es t) (w : ∀ σ H Q, t' σ H Q → t σ H Q) : PA X es t' := ⟨fun pos pins s σ H Q I q => p.run pos pins s σ H Q I (w σ H Q q)⟩
theorem PO.w {X : Cx} {e : Option Expr} {t t' : TO} (p : PO X e t) (w : ∀ σ H Q, t' σ H Q → t σ H Q) : PO X e t' := ⟨fun pins s σ H Q I q => p.run pins s σ H Q I (w σ H Q q)⟩
theorem PS.w {X : Cx} {e : Stmt} {t t' : TS} (p : PS X e t) (w : ∀ D σ H, t' D σ H → t D σ H) : PS X e t' := ⟨fun pins s σ H D I q => p.run pins s σ H D I (w D σ H q)⟩
theorem PSs.w {X : Cx} {e : List Stmt} {t t' : TS} (p : PSs X e t) (w : ∀ D σ H, t' D σ H → t D σ H) : PSs X e t' := ⟨fun pins s σ H D I q => p.run pins s σ H D I (w D σ H q)⟩

/-! ### operations by values -/
def DR1 (K : PySem.W.Frag) (g : D → Hm → Res D) : V → Hp → VK → Prop := fun x H Q => ∃ h ρ d, HR K h ρ H ∧ Rel K h ρ H d x ∧ (g d h).wp fun r h' => ∀ v H' ρ', HR K h' ρ' H' → Kp h ρ H h' ρ' H' → Rel K h' ρ' H' r v → Q v H'
def DR2 (K : PySem.W.Frag) (g : D → D → Hm → Res D) : R2 := fun x y H Q => ∃ h ρ d e, HR K h ρ H ∧ Rel K h ρ H d x ∧ Rel K h ρ H e y ∧ (g d e h).wp fun r h' => ∀ v H' ρ', HR K h' ρ' H' → Kp h ρ H h' ρ' H' → Rel K h' ρ' H' r v → Q v H'
def DRs (K : PySem.W.Frag) (g : List D → Hm → Res D) : List V → Hp → VK → Prop := fun xs H Q => ∃ h ρ ds, HR K h ρ H ∧ Rels K h ρ H ds xs ∧ (g ds h).wp fun r h' => ∀ v H' ρ', HR K h' ρ' H' → Kp h ρ H h' ρ' H' → Rel K h' ρ' H' r v → Q v H'
/-- a comparison's -/
def DRc (K : PySem.W.Frag) (g : D → D → Hm → Res Bool) : R2 := fun x y H Q => ∃ h ρ d e, HR K h ρ H ∧ Rel K h ρ H d x ∧ Rel K h ρ H e y ∧ (g d e h).wp fun b h' => ∀ H' ρ', HR K h' ρ' H' → Kp h ρ H h' ρ' H' → Q (.bl b) H'
section
variable {X : Cx} {f : Value → Value → Sem Value} {g : D → D → Hm → Res D}
theorem opW {r r' : R2} (p : OpR X f r) (w : ∀ x y H Q, r' x y H Q → r x y H Q) : OpR X f r' := fun pins s σ H x y v u Q I rx ry q => p pins s σ H x y v u Q I rx ry (w x y H Q q)
theorem opOr {r r' : R2} (p : OpR X f r) (p' : OpR X f r') : OpR X f (fun x y H Q => r x y H Q ∨ r' x y H Q) := by
  intro pins s σ H x y v u Q I rx ry q
  rcases q with q | q
  · exact p pins s σ H x y v u Q I rx ry q
  · exact p' pins s σ H x y v u Q I rx ry q
end
theorem sz : sizeLine = 16777216 := sizeLine_eq
theorem le_sz {n : Nat} (h : decide (n ≤ LIM) = true) : n ≤ sizeLine := by rw [sz]; exact of_decide_eq_true h
theorem lt_sz {n : Nat} (h : decide (n < LIM) = true) : n < sizeLine := by rw [sz]; exact of_decide_eq_true h

section
variable {K : PySem.W.Frag} {h : Hm} {ρ : List Addr} {H : Hp}
/-- a new tuple, a new list -/
theorem Rel.newT {p : Addr} {o : Obj} {xs : List D} {vs : List V} (r : HR K h ρ H) (e : H p = none) (d : o.dict = none) (q : Rels K h ρ H xs vs) : Rel K h ρ (upd H p (.frz o (.tup vs))) (.tup xs) (.ref p) :=
  .tup (.inl ⟨o, upd_same, d, r.fresh e⟩) (q.mono (Kp.new r e))
theorem Rel.newW {p : Addr} {xs : List D} {vs : List V} (r : HR K h ρ H) (e : H p = none) (q : Rels K h ρ H xs vs) : Rel K h ρ (upd H p (.tup vs)) (.wtup xs) (.ref p) :=
  .wtup ⟨.inl upd_same, r.fresh e⟩ (q.mono (Kp.new r e))
theorem Rel.newL {p : Addr} {xs : List D} {vs : List V} (r : HR K h ρ H) (e : H p = none) (q : Rels K h ρ H xs vs) : Rel K h ρ (upd H p (.lst vs)) (.lst xs) (.ref p) :=
  .lst (.inl ⟨.inl upd_same, r.fresh e⟩) (q.mono (Kp.new r e))
theorem HR.ref {n : Nat} {a : Addr} {xs : List D} (r : HR K h ρ H) (e : ρ[n]? = some a) (l : listOf? h n = some xs) : ∃ vs, H a = some (.lst vs) ∧ Rels K h ρ H xs vs := by
  unfold listOf? at l
  split at l
  · rename_i ys q
    cases l
    exact r.obj n _ a q e
  · cases l
/-- a list or tuple -/
theorem Rel.seq {d : D} {v : V} {xs : List D} (r : HR K h ρ H) (q : Rel K h ρ H d v) (i : itemsOf h d = some xs) : ∃ a vs, v = .ref a ∧ (SqL K H a vs ∨ SqT K H a vs) ∧ Rels K h ρ H xs vs := by
  cases q with
  | tup l q =>
    cases i
    exact ⟨_, _, rfl, .inr l.sq, q⟩
  | lst l q =>
    cases i
    exact ⟨_, _, rfl, .inl l.sq, q⟩
  | @ref n a e =>
    obtain ⟨vs, h1, h2⟩ := r.ref e i
    exact ⟨a, vs, rfl, .inl (SqL.of h1), h2⟩
  | _ => cases i
/-! plain data -/
mutual
theorem RD.py : ∀ {d : D} {v : V} {p : PyData}, Rel K h ρ H d v → toPy d = some p → Dp K H v p
  | .non, _, _, q, e => by
    cases q; cases e; exact .non
  | .bl _, _, _, q, e => by
    cases q; cases e; exact .bl _
  | .int _, _, _, q, e => by
    cases q; cases e; exact .int _
  | .str _, _, _, q, e => by
    cases q; cases e; exact .str _
  | .tup xs, _, _, q, e => by
    cases q with
    | tup l q =>
      unfold toPy at e
      cases e2 : toPys xs with
      | none => rw [e2] at e; cases e
      | some ps =>
        rw [e2] at e
        cases e
        exact .tup l.sq (RDs.py q e2)
  | .lst xs, _, _, q, e => by
    cases q with
    | lst l q =>
      unfold toPy at e
      cases e2 : toPys xs with
      | none => rw [e2] at e; cases e
      | some ps =>
        rw [e2] at e
        cases e
        exact .lst l.sq (RDs.py q e2)
  | .ref _, _, _, _, e => by cases e
  | .wtup _, _, _, _, e => by cases e
theorem RDs.py : ∀ {ds : List D} {vs : List V} {ps : List PyData}, Rels K h ρ H ds vs → toPys ds = some ps → DpAll K H vs ps
  | [], _, _, q, e => by
    cases q; cases e; exact .nil
  | d :: ds, _, _, q, e => by
    cases q with
    | cons a b =>
      unfold toPys at e
      cases e1 : toPy d with
      | none => rw [e1] at e; cases e
      | some p =>
        cases e2 : toPys ds with
        | none => rw [e1, e2] at e; cases e
        | some ps =>
          rw [e1, e2] at e
          cases e
          exact .cons (RD.py a e1) (RDs.py b e2)
end
theorem Rel.pyH {d : D} {v : V} {p : PyData} (r : HR K h ρ H) (q : Rel K h ρ H d v) (e : toPyH h d = some p) : Dp K H v p := by
  cases q with
  | @ref n a e1 =>
    have e : Option.map PyData.list ((listOf? h n).bind toPys) = some p := e
    cases e2 : listOf? h n with
    | none => rw [e2] at e; cases e
    | some xs =>
      rw [e2] at e
      obtain ⟨vs, h1, h2⟩ := r.ref e1 e2
      have e : Option.map PyData.list (toPys xs) = some p := e
      cases e3 : toPys xs with
      | none => rw [e3] at e; cases e
      | some ps =>
        rw [e3] at e
        cases e
        exact .lst (SqL.of h1) (RDs.py h2 e3)
  | non => exact RD.py (h := h) (ρ := ρ) (.non) e
  | bl b => exact RD.py (h := h) (ρ := ρ) (.bl b) e
  | int b => exact RD.py (h := h) (ρ := ρ) (.int b) e
  | str b => exact RD.py (h := h) (ρ := ρ) (.str b) e
  | tup a b => exact RD.py (h := h) (ρ := ρ) (.tup a b) e
  | lst a b => exact RD.py (h := h) (ρ := ρ) (.lst a b) e
  | wtup a b => cases e
end

section
variable {X : Cx}
/-! ### two places -/
/-- list + list -/
theorem op_catL : OpR X (binaryOp .Add) (fun x y H Q => ∃ l b xs zs, x = .ref l ∧ y = .ref b ∧ SqL X.K H l xs ∧ SqL X.K H b zs ∧ xs.length + zs.length ≤ sizeLine ∧ ∀ p, H p = none → Q (.ref p) (upd H p (.lst (xs ++ zs)))) := by
  intro pins s σ H x y v u Q I rx ry h
  obtain ⟨l, b, xs, zs, rfl, rfl, hH, hB, hz, q⟩ := h
  cases rx
  cases ry
  obtain ⟨its, r, ⟨⟨cls, dd, data, sl⟩, n, ho, hc, _, hd⟩, z⟩ := I.list hH
  obtain ⟨its2, r2, ⟨⟨cls2, dd2, data2, sl2⟩, n2, ho2, hc2, _, hd2⟩, z2⟩ := I.list hB
  simp only at hc hd hc2 hd2
  subst hc hd hc2 hd2
  have e : its.toArray ++ its2.toArray = (its ++ its2).toArray := by simp
  have l1 := r.length
  have l2 := r2.length
  refine concat_meets ⟨_, ho, rfl⟩ ⟨_, ho2, rfl⟩ noFill_list_add seq_list_add PySem.F.slot_list_add PySem.F.entry_list_add (PySem.F.args_list_add_2 _ _) (list_addW l b its.toArray its2.toArray n n2 dd dd2 sl sl2 (by rw [List.size_toArray, List.size_toArray]; omega)) ⟨ho, ho2, ?_⟩
  rw [e]
  exact ⟨.ref _, _, I.lnew (t' := s.toks) (r.append r2) (by rw [List.length_append]; omega), rfl, q _ I.fresh⟩

theorem rI_int {K : PySem.W.Frag} {h : Hm} {ρ : List Addr} {H : Hp} {i : Int} {x : V} (r : Rel K h ρ H (.int i) x) : x = .int i := by cases r; rfl
theorem rI_str {K : PySem.W.Frag} {h : Hm} {ρ : List Addr} {H : Hp} {i : Str} {x : V} (r : Rel K h ρ H (.str i) x) : x = .str i := by cases r; rfl
theorem rI_bl {K : PySem.W.Frag} {h : Hm} {ρ : List Addr} {H : Hp} {i : Bool} {x : V} (r : Rel K h ρ H (.bl i) x) : x = .bl i := by cases r; rfl
/-- the operation of two ints -/
theorem op_ofI {f : Value → Value → Sem Value} {C : Int → Int → Prop} {gi : Int → Int → Int} {g : D → D → Hm → Res D} (o : OpR X f (rI C fun i j => .int (gi i j)))
    (w : ∀ d e h (R : D → Hm → Prop), (g d e h).wp R → ∃ i j, d = .int i ∧ e = .int j ∧ C i j ∧ R (.int (gi i j)) h) : OpR X f (DR2 X.K g) := opW o fun x y H Q hq => by
  obtain ⟨h, ρ, d, e, hr, r1, r2, q⟩ := hq
  obtain ⟨i, j, rfl, rfl, c, q⟩ := w _ _ _ _ q
  exact ⟨i, j, rI_int r1, rI_int r2, c, q _ _ _ hr Kps.refl (.int _)⟩
theorem opR_sub : OpR X (binaryOp .Sub) (DR2 X.K (opD .sub)) := op_ofI (C := fun _ _ => True) (gi := fun i j => i - j) (opW op_sub fun x y H Q ⟨i, j, a, b, _, q⟩ => ⟨i, j, a, b, q⟩) fun d e h R w => by
  cases d <;> cases e <;> first | exact False.elim w | skip
  exact ⟨_, _, rfl, rfl, trivial, w⟩
theorem mulOk_ok {i j : Int} (h : mulOk i j = true) : IntMulOk i j := by
  unfold mulOk at h
  rw [Bool.or_eq_true, Bool.or_eq_true] at h
  rcases h with (h | h) | h
  · exact CMulW.ok (show i.natAbs.log2 + j.natAbs.log2 < 1000000 from of_decide_eq_true h)
  · rw [Bool.and_eq_true] at h
    exact CMul.ok (.inl ⟨of_decide_eq_true h.1, of_decide_eq_true h.2⟩)
  · rw [Bool.and_eq_true] at h
    exact CMul.ok (.inr ⟨of_decide_eq_true h.1, of_decide_eq_true h.2⟩)
theorem opR_mul : OpR X (binaryOp .Mult) (DR2 X.K (opD .mul)) := op_ofI (C := fun i j => mulOk i j = true) (gi := fun i j => i * j) (opI fun _ _ _ _ _ _ _ hc q => mul_int q (mulOk_ok hc)) fun d e h R w => by
  cases d <;> cases e <;> first | exact False.elim w | skip
  obtain ⟨c, w⟩ := Res.wp_guard w
  exact ⟨_, _, rfl, rfl, c, w⟩
theorem divOk_ok {j : Int} (h : divOk j = true) : j ≠ 0 ∧ j.natAbs.log2 < 9000 := by
  unfold divOk at h
  rw [Bool.and_eq_true] at h
  exact ⟨of_decide_eq_true h.1, of_decide_eq_true h.2⟩
theorem opR_fdiv : OpR X (binaryOp .FloorDiv) (DR2 X.K (opD .fdiv)) := op_ofI (C := fun _ j => j ≠ 0 ∧ j.natAbs.log2 < 9000) (gi := fun i j => i.fdiv j) (opI fun _ _ _ _ _ _ _ hc q => floordiv_int hc.1 q (.inl (PyProof.noPylong_of_log2 hc.2))) fun d e h R w => by
  cases d <;> cases e <;> first | exact False.elim w | skip
  obtain ⟨c, w⟩ := Res.wp_guard w
  exact ⟨_, _, rfl, rfl, divOk_ok c, w⟩
theorem opR_mod : OpR X (binaryOp .Mod) (DR2 X.K (opD .mod)) := op_ofI op_mod fun d e h R w => by
  cases d <;> cases e <;> first | exact False.elim w | skip
  obtain ⟨c, w⟩ := Res.wp_guard w
  exact ⟨_, _, rfl, rfl, of_decide_eq_true c, w⟩
theorem opR_pow : OpR X (binaryOp .Pow) (DR2 X.K (opD .pow)) := op_ofI op_pow fun d e h R w => by
  cases d <;> cases e <;> first | exact False.elim w | skip
  obtain ⟨c, w⟩ := Res.wp_guard w
  unfold powOk at c
  rw [Bool.and_eq_true, Bool.and_eq_true] at c
  exact ⟨_, _, rfl, rfl, ⟨of_decide_eq_true c.1.1, of_decide_eq_true c.1.2, of_decide_eq_true c.2⟩, w⟩
/-- tuple + tuple: known to the object -/
theorem op_catF : OpR X (binaryOp .Add) (fun x y H Q => ∃ a b xs ys, x = .ref a ∧ y = .ref b ∧ SqT X.K H a xs ∧ SqT X.K H b ys ∧ xs.length + ys.length ≤ sizeLine ∧
    (xs = [] → Q (.ref b) H) ∧ (xs ≠ [] → ys = [] → Q (.ref a) H) ∧ (xs ≠ [] → ys ≠ [] → ∀ (p : Addr) (o : Obj), H p = none → o.dict = none → Q (.ref p) (upd H p (.frz o (.tup (xs ++ ys)))))) := by
  intro pins s σ H x y v u Q I rx ry h
  obtain ⟨a, b, xs, ys, rfl, rfl, ha, hb, hz, q0, q1, q2⟩ := h
  cases rx
  cases ry
  by_cases hx : xs = []
  · subst hx
    obtain ⟨its, r1, p1, _⟩ := I.tuple ha
    obtain ⟨its2, r2, p2, _⟩ := I.tuple hb
    cases r1
    exact cat_tup0 p1 p2 ⟨.ref b, H, I, rfl, q0 rfl⟩
  · obtain ⟨its, r1, p1, _⟩ := I.tuple ha
    obtain ⟨its2, r2, p2, _⟩ := I.tuple hb
    refine HT.cat_tup p1 p2 (fun z => hx (r1.nil_iff.mp z)) (fun z => ⟨.ref a, H, I, rfl, q1 hx (r2.nil_iff.mp z)⟩) (fun z => ?_) (by rw [← r1.length, ← r2.length]; exact hz)
    refine ⟨.ref s.heap.objs.size, _, I.laid (t' := s.toks) (o := .frz { cls := .type "tuple", data := .seq (its ++ its2).toArray } (.tup (xs ++ ys))) (fun b ob q => Heap.get?_push_of_some _ q) (Nat.le_refl _) ?_, rfl, q2 hx (fun w => z (r2.nil_iff.mpr w)) _ _ (I.hok.fresh (Nat.le_refl _)) rfl⟩
    exact ⟨Heap.get?_push_size _ rfl, by rw [List.length_append]; exact hz, _, r1.append r2, IsTup.new _ _⟩
theorem Rel.lstv0 {K : PySem.W.Frag} {h : Hm} {ρ : List Addr} {H : Hp} {d : D} {v : V} {xs : List D} (hr : HR K h ρ H) (r : Rel K h ρ H d v) (e : lstOf h d = some xs) : ∃ a vs, v = .ref a ∧ SqL K H a vs ∧ Rels K h ρ H xs vs := by
  cases r with
  | lst l q => cases e; exact ⟨_, _, rfl, l.sq, q⟩
  | @ref n a ea =>
    obtain ⟨vs, h1, h2⟩ := hr.ref ea e
    exact ⟨a, vs, rfl, .inl (.inl h1), h2⟩
  | _ => cases e
theorem Rel.tupv0 {K : PySem.W.Frag} {h : Hm} {ρ : List Addr} {H : Hp} {d : D} {v : V} {xs : List D} (r : Rel K h ρ H d v) (e : tupOf d = some xs) : ∃ a vs, v = .ref a ∧ LieT K H (Mu ρ h) a vs ∧ Rels K h ρ H xs vs := by
  cases r with
  | tup l q => cases e; exact ⟨_, _, rfl, l, q⟩
  | _ => cases e
theorem opR_cat (mu : Bool) : OpR X (binaryOp .Add) (DR2 X.K (catD mu)) := by
  intro pins s σ H x y v u Q I rx ry hq
  obtain ⟨h, ρ, d, e, hr, r1, r2, q⟩ := hq
  unfold catD at q
  split at q
  · rename_i xs ys e1 e2
    obtain ⟨c, q⟩ := Res.wp_guard q
    obtain ⟨a, vs, rfl, l1, q1⟩ := r1.lstv0 hr e1
    obtain ⟨b, ws, rfl, l2, q2⟩ := r2.lstv0 hr e2
    refine op_catL pins s σ H _ _ v u Q I rx ry ⟨_, _, _, _, rfl, rfl, l1, l2, ?_, fun p hp => ?_⟩
    · have := le_sz c
      rw [← q1.length, ← q2.length]
      exact this
    · cases mu with
      | true => exact q _ _ _ (hr.push hp (q1.append q2)) (Kp.push hr hp) (.ref (by rw [← hr.len]; simp))
      | false => exact q _ _ _ (hr.new hp) (Kp.new hr hp) (Rel.newL hr hp (q1.append q2))
  · split at q
    · rename_i xs ys e1 e2
      obtain ⟨c, q⟩ := Res.wp_guard q
      rw [Bool.and_eq_true] at c
      obtain ⟨a, vs, rfl, l1, q1⟩ := r1.tupv0 e1
      obtain ⟨b, ws, rfl, l2, q2⟩ := r2.tupv0 e2
      refine op_catF pins s σ H _ _ v u Q I rx ry ⟨_, _, _, _, rfl, rfl, l1.sq, l2.sq, ?_, fun z => ?_, fun _ z => ?_, fun _ _ p o hp ho => ?_⟩
      · have := le_sz c.2
        rw [← q1.length, ← q2.length]
        exact this
      · subst z
        cases q1
        exact q _ _ _ hr Kps.refl (.tup l2 q2)
      · subst z
        cases q2
        exact q _ _ _ hr Kps.refl (by rw [List.append_nil]; exact .tup l1 q1)
      · exact q _ _ _ (hr.new hp) (Kp.new hr hp) (Rel.newT hr hp ho (q1.append q2))
    · exact False.elim q
theorem opR_add : OpR X (binaryOp .Add) (DR2 X.K (opD .add)) := by
  intro pins s σ H x y v u Q I rx ry hq
  obtain ⟨h, ρ, d, e, hr, r1, r2, q⟩ := id hq
  have gen : (catD false d e h).wp (fun r h' => ∀ v H' ρ', HR X.K h' ρ' H' → Kp h ρ H h' ρ' H' → Rel X.K h' ρ' H' r v → Q v H') → wpAny (model X.prog X.w) X.A (binaryOp .Add v u) (EP X pins σ Q) X.xe s := fun q => opR_cat false pins s σ H x y v u Q I rx ry ⟨h, ρ, d, e, hr, r1, r2, q⟩
  cases d <;> cases e <;> first | exact gen q | skip
  · exact op_add pins s σ H x y v u Q I rx ry ⟨_, _, rI_int r1, rI_int r2, q _ _ _ hr Kps.refl (.int _)⟩
  · obtain ⟨c, q⟩ := Res.wp_guard q
    exact op_add_str pins s σ H x y v u Q I rx ry ⟨_, _, rI_str r1, rI_str r2, le_sz c, q _ _ _ hr Kps.refl (.str _)⟩
theorem opR_addM : OpR X (binaryOp .Add) (DR2 X.K (opD .addM)) := opW (opR_cat true) fun x y H Q ⟨h, ρ, d, e, hr, r1, r2, q⟩ => ⟨h, ρ, d, e, hr, r1, r2, by cases d <;> cases e <;> exact q⟩
theorem opR_of : ∀ (o : Op2) (po : Operator), (match o, po with
    | .add, .Add => true | .sub, .Sub => true | .mul, .Mult => true | .fdiv, .FloorDiv => true | .mod, .Mod => true | .pow, .Pow => true | .addM, .Add => true | _, _ => false) = true → OpR X (binaryOp po) (DR2 X.K (opD o)) := by
  intro o po e
  cases o <;> cases po <;> first | exact Bool.noConfusion e | exact opR_add | exact opR_sub | exact opR_mul | exact opR_fdiv | exact opR_mod | exact opR_pow | exact opR_addM

/-! ### comparisons -/
theorem cmp_ofI {f : Value → Value → Sem Value} {gi : Int → Int → Bool} {g : D → D → Hm → Res Bool} (o : OpR X f (rI0 fun i j => .bl (gi i j)))
    (w : ∀ d e h (R : Bool → Hm → Prop), (g d e h).wp R → ∃ i j, d = .int i ∧ e = .int j ∧ R (gi i j) h) : OpR X f (DRc X.K g) := opW o fun x y H Q hq => by
  obtain ⟨h, ρ, d, e, hr, r1, r2, q⟩ := hq
  obtain ⟨i, j, e1, e2, q'⟩ := w _ _ _ _ q
  subst e1 e2
  exact ⟨i, j, rI_int r1, rI_int r2, q' _ _ hr Kps.refl⟩
theorem cmR_lt : OpR X (compareOp .Lt) (DRc X.K (cmpD .lt)) := cmp_ofI op_lt fun d e h R w => by
  cases d <;> cases e <;> first | exact False.elim w | skip
  exact ⟨_, _, rfl, rfl, w⟩
theorem cmR_le : OpR X (compareOp .LtE) (DRc X.K (cmpD .le)) := cmp_ofI op_le fun d e h R w => by
  cases d <;> cases e <;> first | exact False.elim w | skip
  exact ⟨_, _, rfl, rfl, w⟩
theorem cmR_gt : OpR X (compareOp .Gt) (DRc X.K (cmpD .gt)) := cmp_ofI op_gt fun d e h R w => by
  cases d <;> cases e <;> first | exact False.elim w | skip
  exact ⟨_, _, rfl, rfl, w⟩
theorem cmR_ge : OpR X (compareOp .GtE) (DRc X.K (cmpD .ge)) := cmp_ofI op_ge fun d e h R w => by
  cases d <;> cases e <;> first | exact False.elim w | skip
  exact ⟨_, _, rfl, rfl, w⟩
theorem eqD_wp {K : PySem.W.Frag} {h : Hm} {ρ : List Addr} {H : Hp} {d e : D} {x y : V} {R : Bool → Hm → Prop} (hr : HR K h ρ H) (r1 : Rel K h ρ H d x) (r2 : Rel K h ρ H e y) (w : (eqD d e h).wp R) :
    ∃ p q, Dp K H x p ∧ Dp K H y q ∧ SeqAt.shaped p = true ∧ SeqAt.shaped q = true ∧ R (PyData.eqv p q) h := by
  unfold eqD at w
  split at w
  · rename_i p q e1 e2
    obtain ⟨c, w⟩ := Res.wp_guard w
    rw [Bool.and_eq_true] at c
    exact ⟨p, q, r1.pyH hr e1, r2.pyH hr e2, c.1, c.2, w⟩
  · exact False.elim w
theorem cmR_eq (hu : X.A.units + 64 < cLine) : OpR X (compareOp .Eq) (DRc X.K (cmpD .eq)) := opW (op_eqD hu) fun x y H Q hq => by
  obtain ⟨h, ρ, d, e, hr, r1, r2, q⟩ := hq
  obtain ⟨p, p', a, b, c, c', q⟩ := eqD_wp hr r1 r2 q
  exact ⟨p, p', a, b, c, c', q _ _ hr Kps.refl⟩
theorem cmR_ne (hu : X.A.units + 64 < cLine) : OpR X (compareOp .NotEq) (DRc X.K (cmpD .ne)) := opW (op_neD hu) fun x y H Q hq => by
  obtain ⟨h, ρ, d, e, hr, r1, r2, q⟩ := hq
  obtain ⟨p, p', a, b, c, c', q⟩ := eqD_wp hr r1 r2 (Res.wp_bind q)
  exact ⟨p, p', a, b, c, c', q _ _ hr Kps.refl⟩
def cmB : Cm → CmpOp → Bool
  | .lt, .Lt => true | .le, .LtE => true | .gt, .Gt => true | .ge, .GtE => true | .eq, .Eq => true | .ne, .NotEq => true | _, _ => false
theorem cmR_of (hu : X.A.units + 64 < cLine) : ∀ (o : Cm) (po : CmpOp), cmB o po = true → OpR X (compareOp po) (DRc X.K (cmpD o)) := by
  intro o po e
  cases o <;> cases po <;> first | exact Bool.noConfusion e | exact cmR_lt | exact cmR_le | exact cmR_gt | exact cmR_ge | exact cmR_eq hu | exact cmR_ne hu
theorem cmB_plain {o : Cm} {po : CmpOp} (h : cmB o po = true) : po ≠ .In ∧ po ≠ .NotIn := by
  cases o <;> cases po <;> first | exact Bool.noConfusion h | exact ⟨by decide, by decide⟩

/-! ### subscripts -/
theorem atI_rel {K : PySem.W.Frag} {h : Hm} {ρ : List Addr} {H : Hp} {xs : List D} {vs : List V} {i : Int} {d : D} (q : Rels K h ρ H xs vs) (e : atI xs i = some d) : ∃ v, atI vs i = some v ∧ Rel K h ρ H d v := by
  unfold atI at e ⊢
  rw [← q.length]
  cases k : ixN xs.length i with
  | none => rw [k] at e; cases e
  | some j =>
    rw [k] at e
    exact q.get e
theorem ixR_any : IxR X (DR2 X.K ixD) := by
  intro value slice pins s σ H x y v u Q I rx ry hq hs
  obtain ⟨h, ρ, d, e, hr, r1, r2, q⟩ := hq
  cases e with
  | int i =>
    have ey := rI_int r2
    subst ey
    have go : ∀ xs, itemsOf h d = some xs → (match atI xs i with
        | some y => Res.ok y h
        | none => .stuck).wp (fun r h' => ∀ v H' ρ', HR X.K h' ρ' H' → Kp h ρ H h' ρ' H' → Rel X.K h' ρ' H' r v → Q v H') → wpAny (model X.prog X.w) X.A (subscriptTail value slice v u) (EP X pins σ Q) X.xe s := by
      intro xs e q
      cases e2 : atI xs i with
      | none => rw [e2] at q; exact False.elim q
      | some z =>
        rw [e2] at q
        obtain ⟨a, vs, rfl, hsq, rs⟩ := r1.seq hr e
        obtain ⟨w, hw, rw'⟩ := atI_rel rs e2
        rcases hsq with hsq | hsq
        · exact ix_list value slice pins s σ H _ _ v u Q I rx ry ⟨a, vs, i, w, rfl, rfl, hsq, hw, q _ _ _ hr Kps.refl rw'⟩ hs
        · exact ix_tup value slice pins s σ H _ _ v u Q I rx ry ⟨a, vs, i, w, rfl, rfl, hsq, hw, q _ _ _ hr Kps.refl rw'⟩ hs
    cases d with
    | str z =>
      have ex := rI_str r1
      subst ex
      have q : (match atI z.cps.toList i with
        | some c => Res.guard (decide (z.length ≤ LIM)) (Res.ok (D.str ⟨#[c]⟩) h)
        | none => Res.stuck).wp _ := q
      cases e2 : atI z.cps.toList i with
      | none => rw [e2] at q; exact False.elim q
      | some c =>
        rw [e2] at q
        obtain ⟨c1, q⟩ := Res.wp_guard q
        exact ix_str value slice pins s σ H _ _ v u Q I rx ry ⟨z, i, c, rfl, rfl, le_sz c1, e2, q _ _ _ hr Kps.refl (.str _)⟩ hs
    | tup xs => exact go xs rfl q
    | lst xs => exact go xs rfl q
    | ref n =>
      have q : (match listOf? h n with
        | some xs => match atI xs i with
          | some y => Res.ok y h
          | none => Res.stuck
        | none => Res.stuck).wp _ := q
      cases e2 : listOf? h n with
      | none => rw [e2] at q; exact False.elim q
      | some xs =>
        rw [e2] at q
        exact go xs e2 q
    | _ => exact False.elim q
  | _ => cases d <;> exact False.elim q
end

/-! Mini 4: displays, built-ins, isinstance, methods, slices, by values. -/

section
variable {X : Cx} {es : List Expr} {t : TA} {pos : Pos}
/-- a tuple's display; it is known to the object -/
def tTupF (t : TA) : TE := fun σ H Q => t σ H fun xs H1 => xs.length ≤ sizeLine ∧ ∀ (p : Addr) (o : Obj), H1 p = none → o.dict = none → Q (.ref p) (upd H1 p (.frz o (.tup xs)))
theorem pe_tupF {x1} (h : PA X es t) : PE X (.Tuple es x1 pos) (tTupF t) := by
  refine ⟨fun pins s σ H Q I hq => ?_⟩
  refine wpAny_Tuple_spliced (thn (h.run pos pins s σ H _ I hq) fun us s1 ⟨xs, H1, I1, r, z, q⟩ => ⟨by rw [← r.length]; exact z, ?_⟩)
  have hf : H1 s1.heap.objs.size = none := I1.hok.fresh (Nat.le_refl _)
  refine ⟨.ref s1.heap.objs.size, upd H1 s1.heap.objs.size (.frz { cls := .type "tuple", data := .seq us.toArray } (.tup xs)), I1.laid (t' := s1.toks) (fun b u e => Heap.get?_push_of_some _ e) (Nat.le_refl _) ?_, rfl, q _ _ hf rfl⟩
  exact ⟨Heap.get?_push_size _ rfl, z, us, r, ⟨_, Heap.get?_push_size _ rfl, rfl, _, rfl⟩⟩
/-- tuple(xs) of a list: known to the object -/
theorem call_tupleF : CallR X (.type "tuple") (fun xs H Q => ∃ p ys, xs = [.ref p] ∧ ((SqL X.K H p ys ∧ ∀ (l : Addr) (o : Obj), H l = none → o.dict = none → Q (.ref l) (upd H l (.frz o (.tup ys)))) ∨ (SqT X.K H p ys ∧ Q (.ref p) H))) := by
  intro pins s σ H xs us Q I r h
  obtain ⟨p, ys, rfl, h⟩ := h
  obtain ⟨u, rfl, rx⟩ := vals1 r
  cases rx
  rcases h with ⟨hq, q⟩ | ⟨hq, q⟩
  · obtain ⟨its, r', pl, hz⟩ := I.list hq
    have hlen := r'.length
    refine call_tuple_list pl.isList (fun h' kp => ?_) (by simp only [List.size_toArray] <;> omega)
    have I1 : Inv X pins σ H { s with heap := h' } := I.kept (t' := s.toks) kp
    have I2 : Inv X pins σ (upd H h'.objs.size (.frz { cls := .type "tuple", data := .seq its.toArray } (.tup ys))) { s with heap := h'.push { cls := .type "tuple", data := .seq its.toArray } } :=
      I1.laid (t' := s.toks) (fun b o e => Heap.get?_push_of_some _ e) (Nat.le_refl _) (show ObjOk X.prog X.w _ _ _ (.frz _ (.tup ys)) from ⟨Heap.get?_push_size _ rfl, hz, its, r', IsTup.new _ _⟩)
    exact ⟨.ref h'.objs.size, _, I2, rfl, q _ _ (I1.hok.fresh (Nat.le_refl _)) rfl⟩
  · obtain ⟨its, r', pl, hz⟩ := I.tuple hq
    exact call_tuple_same pl ⟨.ref p, H, I, rfl, q⟩
theorem callW {f : Value} {r r' : List V → Hp → VK → Prop} (p : CallR X f r) (w : ∀ xs H Q, r' xs H Q → r xs H Q) : CallR X f r' := fun pins s σ H xs us Q I rs q => p pins s σ H xs us Q I rs (w xs H Q q)

section
variable {K : PySem.W.Frag} {h : Hm} {ρ : List Addr} {H : Hp}
theorem rels1 {d : D} {vs : List V} (r : Rels K h ρ H [d] vs) : ∃ v, vs = [v] ∧ Rel K h ρ H d v := by
  cases r with
  | cons a b => cases b; exact ⟨_, rfl, a⟩
theorem rels2 {d e : D} {vs : List V} (r : Rels K h ρ H [d, e] vs) : ∃ v w, vs = [v, w] ∧ Rel K h ρ H d v ∧ Rel K h ρ H e w := by
  cases r with
  | cons a b =>
    obtain ⟨w, rfl, q⟩ := rels1 b
    exact ⟨_, w, rfl, a, q⟩
theorem bools_rel : ∀ {xs : List D} {bs : List Bool} {vs : List V}, boolsOf xs = some bs → Rels K h ρ H xs vs → vs = bs.map V.bl
  | [], _, _, e, r => by cases e; cases r; rfl
  | x :: xs, bs, _, e, r => by
    cases r with
    | cons a b =>
      cases x with
      | bl c =>
        have e : (boolsOf xs).map (c :: ·) = some bs := e
        cases k : boolsOf xs with
        | none => rw [k] at e; cases e
        | some cs =>
          rw [k] at e
          cases e
          rw [rI_bl a, bools_rel k b] <;> rfl
      | _ => cases e
theorem ints_rel : ∀ {xs : List D} {bs : List Int} {vs : List V}, intsOf xs = some bs → Rels K h ρ H xs vs → vs = bs.map V.int
  | [], _, _, e, r => by cases e; cases r; rfl
  | x :: xs, bs, _, e, r => by
    cases r with
    | cons a b =>
      cases x with
      | int c =>
        have e : (intsOf xs).map (c :: ·) = some bs := e
        cases k : intsOf xs with
        | none => rw [k] at e; cases e
        | some cs =>
          rw [k] at e
          cases e
          rw [rI_int a, ints_rel k b] <;> rfl
      | _ => cases e
theorem strs_rel : ∀ {xs : List D} {bs : List Str} {vs : List V}, strsOf xs = some bs → Rels K h ρ H xs vs → vs = bs.map V.str
  | [], _, _, e, r => by cases e; cases r; rfl
  | x :: xs, bs, _, e, r => by
    cases r with
    | cons a b =>
      cases x with
      | str c =>
        have e : (strsOf xs).map (c :: ·) = some bs := e
        cases k : strsOf xs with
        | none => rw [k] at e; cases e
        | some cs =>
          rw [k] at e
          cases e
          rw [rI_str a, strs_rel k b] <;> rfl
      | _ => cases e
theorem Rel.lstv {d : D} {v : V} {xs : List D} (r : HR K h ρ H) (q : Rel K h ρ H d v) (i : lstOf h d = some xs) : ∃ a vs, v = .ref a ∧ SqL K H a vs ∧ Rels K h ρ H xs vs := by
  cases q with
  | lst l q =>
    cases i
    exact ⟨_, _, rfl, l.sq, q⟩
  | @ref n a e =>
    obtain ⟨vs, h1, h2⟩ := r.ref e i
    exact ⟨a, vs, rfl, SqL.of h1, h2⟩
  | _ => cases i
end

def biVal : Bi → Value
  | .len => .builtin "len" | .abs => .builtin "abs" | .int => .type "int" | .tuple => .type "tuple" | .list => .type "list"
  | .all => .builtin "all" | .any => .builtin "any" | .sum => .builtin "sum" | .max2 => .builtin "max" | .min2 => .builtin "min" | .str => .type "str" | .sorted => .builtin "sorted"
def biName : Bi → Str
  | .len => "len" | .abs => "abs" | .int => "int" | .tuple => "tuple" | .list => "list"
  | .all => "all" | .any => "any" | .sum => "sum" | .max2 => "max" | .min2 => "min" | .str => "str" | .sorted => "sorted"

theorem biR_len : CallR X (.builtin "len") (DRs X.K (biD .len)) := by
  intro pins s σ H xs us Q I rs hq
  obtain ⟨h, ρ, ds, hr, r, q⟩ := hq
  have go : ∀ d ys, ds = [d] → itemsOf h d = some ys → (∀ v H' ρ', HR X.K h ρ' H' → Kp h ρ H h ρ' H' → Rel X.K h ρ' H' (.int ys.length) v → Q v H') → wpAny (model X.prog X.w) X.A (call (.builtin "len") us) (EP X pins σ Q) X.xe s := by
    rintro d ys rfl e q
    obtain ⟨v, rfl, rv⟩ := rels1 r
    obtain ⟨a, vs, rfl, hsq, rss⟩ := rv.seq hr e
    exact call_len_seq pins s σ H _ us Q I rs ⟨a, vs, rfl, hsq, by rw [← rss.length]; exact q _ _ _ hr Kps.refl (.int _)⟩
  match ds, r, q with
  | [], _, q => exact False.elim q
  | [.str x], r, q =>
    obtain ⟨c, q⟩ := Res.wp_guard q
    obtain ⟨v, rfl, rv⟩ := rels1 r
    exact call_len_str pins s σ H _ us Q I rs ⟨x, by rw [rI_str rv], le_sz c, q _ _ _ hr Kps.refl (.int _)⟩
  | [.tup ys], r, q => exact go _ _ rfl rfl q
  | [.lst ys], r, q => exact go _ _ rfl rfl q
  | [.ref n], r, q =>
    have q : (match listOf? h n with
      | some xs => Res.ok (D.int xs.length) h
      | none => Res.stuck).wp _ := q
    cases e : listOf? h n with
    | none => rw [e] at q; exact False.elim q
    | some ys =>
      rw [e] at q
      exact go _ ys rfl e q
  | [.non], _, q => exact False.elim q
  | [.bl _], _, q => exact False.elim q
  | [.int _], _, q => exact False.elim q
  | [.wtup _], _, q => exact False.elim q
  | a :: b :: c, _, q => cases a <;> exact False.elim q
theorem biR_abs : CallR X (.builtin "abs") (DRs X.K (biD .abs)) := callW call_abs fun xs H Q hq => by
  obtain ⟨h, ρ, ds, hr, r, q⟩ := hq
  match ds, r, q with
  | [.int i], r, q =>
    obtain ⟨v, rfl, rv⟩ := rels1 r
    exact ⟨i, by rw [rI_int rv], q _ _ _ hr Kps.refl (.int _)⟩
theorem biR_int : CallR X (.type "int") (DRs X.K (biD .int)) := callW call_int1 fun xs H Q hq => by
  obtain ⟨h, ρ, ds, hr, r, q⟩ := hq
  match ds, r, q with
  | [.int i], r, q =>
    obtain ⟨v, rfl, rv⟩ := rels1 r
    exact .inl ⟨i, by rw [rI_int rv], q _ _ _ hr Kps.refl (.int _)⟩
  | [.bl i], r, q =>
    obtain ⟨v, rfl, rv⟩ := rels1 r
    exact .inr ⟨i, by rw [rI_bl rv], q _ _ _ hr Kps.refl (.int _)⟩
theorem biR_tuple : CallR X (.type "tuple") (DRs X.K (biD .tuple)) := callW call_tupleF fun xs H Q hq => by
  obtain ⟨h, ρ, ds, hr, r, q⟩ := hq
  match ds, r, q with
  | [.tup ys], r, q =>
    obtain ⟨v, rfl, rv⟩ := rels1 r
    cases rv with
    | tup l rr => exact ⟨_, _, rfl, .inr ⟨l.sq, q _ _ _ hr Kps.refl (.tup l rr)⟩⟩
  | [.lst ys], r, q =>
    obtain ⟨v, rfl, rv⟩ := rels1 r
    cases rv with
    | lst l rr => exact ⟨_, _, rfl, .inl ⟨l.sq, fun p o hp ho => q _ _ _ (hr.new hp) (Kp.new hr hp) (Rel.newT hr hp ho rr)⟩⟩
  | [.ref n], r, q =>
    have q : (match listOf? h n with
      | some xs => Res.ok (D.tup xs) h
      | none => Res.stuck).wp _ := q
    cases e : listOf? h n with
    | none => rw [e] at q; exact False.elim q
    | some ys =>
      rw [e] at q
      obtain ⟨v, rfl, rv⟩ := rels1 r
      obtain ⟨a, vs, rfl, hsq, rr⟩ := rv.lstv hr e
      exact ⟨_, _, rfl, .inl ⟨hsq, fun p o hp ho => q _ _ _ (hr.new hp) (Kp.new hr hp) (Rel.newT hr hp ho rr)⟩⟩
  | [], _, q => exact False.elim q
  | [.non], _, q => exact False.elim q
  | [.bl _], _, q => exact False.elim q
  | [.int _], _, q => exact False.elim q
  | [.str _], _, q => exact False.elim q
  | [.wtup _], _, q => exact False.elim q
  | a :: b :: c, _, q => cases a <;> exact False.elim q
theorem biR_list : CallR X (.type "list") (DRs X.K (biD .list)) := callW call_list_of fun xs H Q hq => by
  obtain ⟨h, ρ, ds, hr, r, q⟩ := hq
  have go : ∀ d ys, ds = [d] → itemsOf h d = some ys → (∀ v H' ρ', HR X.K h ρ' H' → Kp h ρ H h ρ' H' → Rel X.K h ρ' H' (.lst ys) v → Q v H') → ∃ p ys, xs = [.ref p] ∧ (SqL X.K H p ys ∨ SqT X.K H p ys) ∧ ∀ l, H l = none → Q (.ref l) (upd H l (.lst ys)) := by
    rintro d ys rfl e q
    obtain ⟨v, rfl, rv⟩ := rels1 r
    obtain ⟨a, vs, rfl, hsq, rr⟩ := rv.seq hr e
    exact ⟨_, _, rfl, hsq, fun p hp => q _ _ _ (hr.new hp) (Kp.new hr hp) (Rel.newL hr hp rr)⟩
  match ds, r, q with
  | [.tup ys], r, q => exact go _ _ rfl rfl q
  | [.lst ys], r, q => exact go _ _ rfl rfl q
  | [.ref n], r, q =>
    have q : (match listOf? h n with
      | some xs => Res.ok (D.lst xs) h
      | none => Res.stuck).wp _ := q
    cases e : listOf? h n with
    | none => rw [e] at q; exact False.elim q
    | some ys =>
      rw [e] at q
      exact go _ ys rfl e q
  | [], _, q => exact False.elim q
  | [.non], _, q => exact False.elim q
  | [.bl _], _, q => exact False.elim q
  | [.int _], _, q => exact False.elim q
  | [.str _], _, q => exact False.elim q
  | [.wtup _], _, q => exact False.elim q
  | a :: b :: c, _, q => cases a <;> exact False.elim q
theorem lst_bools {K : PySem.W.Frag} {h : Hm} {ρ : List Addr} {H : Hp} {d : D} {v : V} {bs : List Bool} (hr : HR K h ρ H) (rv : Rel K h ρ H d v) (e : (lstOf h d).bind boolsOf = some bs) : ∃ a, v = .ref a ∧ SqL K H a (bs.map V.bl) := by
  cases k : lstOf h d with
  | none => rw [k] at e; cases e
  | some ys =>
    rw [k] at e
    obtain ⟨a, vs, rfl, hsq, rr⟩ := rv.lstv hr k
    have := bools_rel (show boolsOf ys = some bs from e) rr
    subst this
    exact ⟨a, rfl, hsq⟩
theorem biR_all (hc : X.calm = true) : CallR X (.builtin "all") (DRs X.K (biD .all)) := callW (cr_all hc) fun xs H Q hq => by
  obtain ⟨h, ρ, ds, hr, r, q⟩ := hq
  match ds, r, q with
  | [d], r, q =>
    have q : (match (lstOf h d).bind boolsOf with
      | some bs => Res.ok (D.bl (bs.all id)) h
      | none => Res.stuck).wp _ := q
    cases e : (lstOf h d).bind boolsOf with
    | none => rw [e] at q; exact False.elim q
    | some bs =>
      rw [e] at q
      obtain ⟨v, rfl, rv⟩ := rels1 r
      obtain ⟨a, rfl, hs⟩ := lst_bools hr rv e
      exact ⟨a, bs, rfl, hs, q _ _ _ hr Kps.refl (.bl _)⟩
theorem biR_any (hc : X.calm = true) : CallR X (.builtin "any") (DRs X.K (biD .any)) := callW (cr_any hc) fun xs H Q hq => by
  obtain ⟨h, ρ, ds, hr, r, q⟩ := hq
  match ds, r, q with
  | [d], r, q =>
    have q : (match (lstOf h d).bind boolsOf with
      | some bs => Res.ok (D.bl (bs.any id)) h
      | none => Res.stuck).wp _ := q
    cases e : (lstOf h d).bind boolsOf with
    | none => rw [e] at q; exact False.elim q
    | some bs =>
      rw [e] at q
      obtain ⟨v, rfl, rv⟩ := rels1 r
      obtain ⟨a, rfl, hs⟩ := lst_bools hr rv e
      exact ⟨a, bs, rfl, hs, q _ _ _ hr Kps.refl (.bl _)⟩
theorem biR_sum (hc : X.calm = true) : CallR X (.builtin "sum") (DRs X.K (biD .sum)) := callW (cr_sum hc) fun xs H Q hq => by
  obtain ⟨h, ρ, ds, hr, r, q⟩ := hq
  match ds, r, q with
  | [d], r, q =>
    have q : (match (lstOf h d).bind intsOf with
      | some bs => Res.ok (D.int bs.sum) h
      | none => Res.stuck).wp _ := q
    cases e : (lstOf h d).bind intsOf with
    | none => rw [e] at q; exact False.elim q
    | some bs =>
      rw [e] at q
      obtain ⟨v, rfl, rv⟩ := rels1 r
      cases k : lstOf h d with
      | none => rw [k] at e; cases e
      | some ys =>
        rw [k] at e
        obtain ⟨a, vs, rfl, hsq, rr⟩ := rv.lstv hr k
        have := ints_rel (show intsOf ys = some bs from e) rr
        subst this
        exact ⟨a, bs, rfl, hsq, q _ _ _ hr Kps.refl (.int _)⟩
theorem biR_max2 (hc : X.calm = true) : CallR X (.builtin "max") (DRs X.K (biD .max2)) := callW (call_max2 hc) fun xs H Q hq => by
  obtain ⟨h, ρ, ds, hr, r, q⟩ := hq
  match ds, r, q with
  | [.int i, .int j], r, q =>
    obtain ⟨v, w, rfl, rv, rw'⟩ := rels2 r
    exact ⟨i, j, by rw [rI_int rv, rI_int rw'], q _ _ _ hr Kps.refl (.int _)⟩
theorem biR_min2 (hc : X.calm = true) : CallR X (.builtin "min") (DRs X.K (biD .min2)) := callW (call_min2 hc) fun xs H Q hq => by
  obtain ⟨h, ρ, ds, hr, r, q⟩ := hq
  match ds, r, q with
  | [.int i, .int j], r, q =>
    obtain ⟨v, w, rfl, rv, rw'⟩ := rels2 r
    exact ⟨i, j, by rw [rI_int rv, rI_int rw'], q _ _ _ hr Kps.refl (.int _)⟩
theorem biR_str : CallR X (.type "str") (DRs X.K (biD .str)) := callW call_str_int fun xs H Q hq => by
  obtain ⟨h, ρ, ds, hr, r, q⟩ := hq
  match ds, r, q with
  | [.int i], r, q =>
    obtain ⟨c, q⟩ := Res.wp_guard q
    obtain ⟨v, rfl, rv⟩ := rels1 r
    exact ⟨i, by rw [rI_int rv], of_decide_eq_true c, q _ _ _ hr Kps.refl (.str _)⟩

/-! ### sorted -/
theorem pairsOf_eq : ∀ {ds : List D} {ps : List (Int × Int)}, pairsOf ds = some ps → ds = unpairs ps
  | [], _, e => by cases e; rfl
  | d :: ds, ps, e => by
    unfold pairsOf at e
    split at e
    · rename_i z; cases z
    · rename_i i j r z
      cases z
      cases k : pairsOf ds with
      | none => rw [k] at e; cases e
      | some qs =>
        rw [k] at e
        cases e
        rw [pairsOf_eq k]
        rfl
    · cases e
theorem insP_perm (p : Int × Int) : ∀ l, (insP p l).Perm (p :: l)
  | [] => .refl _
  | q :: r => by
    unfold insP
    split
    · exact ((insP_perm p r).cons q).trans (.swap p q r)
    · exact .refl _
theorem sortP_perm : ∀ l, (sortP l).Perm l
  | [] => .refl _
  | p :: r => (insP_perm p _).trans ((sortP_perm r).cons p)
theorem lexB_irrefl (p : Int × Int) : SrtO.lexB p p = false := SrtO.lexB_no.mpr (by omega)
theorem lexB_le_trans {p q r : Int × Int} (h1 : SrtO.lexB q p = false) (h2 : SrtO.lexB r q = false) : SrtO.lexB r p = false := by
  have a := SrtO.lexB_no.mp h1
  have b := SrtO.lexB_no.mp h2
  refine SrtO.lexB_no.mpr ?_
  omega
theorem lexB_antisymm {p q : Int × Int} (h1 : SrtO.lexB q p = false) (h2 : SrtO.lexB p q = false) : p = q := by
  have a := SrtO.lexB_no.mp h1
  have b := SrtO.lexB_no.mp h2
  refine Prod.ext ?_ ?_ <;> omega
theorem insP_srt (p : Int × Int) : ∀ {l : List (Int × Int)}, l.Pairwise (fun x y => SrtO.lexB y x = false) → (insP p l).Pairwise (fun x y => SrtO.lexB y x = false)
  | [], _ => List.pairwise_singleton _ _
  | q :: r, h => by
    obtain ⟨h1, h2⟩ := List.pairwise_cons.mp h
    unfold insP
    split
    · rename_i c
      refine List.pairwise_cons.mpr ⟨fun y hy => ?_, insP_srt p h2⟩
      rcases List.mem_cons.mp ((insP_perm p r).mem_iff.mp hy) with e | hy
      · subst e
        have c := SrtO.lexB_iff.mp c
        refine SrtO.lexB_no.mpr ?_
        omega
      · exact h1 y hy
    · rename_i c
      have c : SrtO.lexB q p = false := by cases k : SrtO.lexB q p with
        | true => exact absurd k c
        | false => rfl
      refine List.pairwise_cons.mpr ⟨fun y hy => ?_, h⟩
      rcases List.mem_cons.mp hy with e | hy
      · subst e
        exact c
      · exact lexB_le_trans c (h1 y hy)
theorem sortP_srt : ∀ l : List (Int × Int), (sortP l).Pairwise (fun x y => SrtO.lexB y x = false)
  | [] => .nil
  | p :: r => insP_srt p (sortP_srt r)
theorem srt_uniq : ∀ {l m : List (Int × Int)}, l.Perm m → l.Pairwise (fun x y => SrtO.lexB y x = false) → m.Pairwise (fun x y => SrtO.lexB y x = false) → l = m
  | [], m, p, _, _ => (p.symm.eq_nil).symm
  | x :: l, [], p, _, _ => p.eq_nil
  | x :: l, y :: m, p, hl, hm => by
    obtain ⟨a1, a2⟩ := List.pairwise_cons.mp hl
    obtain ⟨b1, b2⟩ := List.pairwise_cons.mp hm
    have e : x = y := by
      have h1 : SrtO.lexB y x = false := by
        rcases List.mem_cons.mp (p.symm.mem_iff.mp (List.mem_cons_self (a := y) (l := m))) with e | h
        · rw [e]; exact lexB_irrefl _
        · exact a1 y h
      have h2 : SrtO.lexB x y = false := by
        rcases List.mem_cons.mp (p.mem_iff.mp (List.mem_cons_self (a := x) (l := l))) with e | h
        · rw [e]; exact lexB_irrefl _
        · exact b1 x h
      exact lexB_antisymm h1 h2
    subst e
    rw [srt_uniq p.cons_inv a2 b2]
/-- a pair as it lies in a heap -/
def pairAt (h : Heap) : Value → Int × Int
  | .ref t => match h.get? t with
    | some o => match o.data with
      | .seq its _ => match its.toList with
        | [.int i _, .int j _] => (i, j)
        | _ => (0, 0)
      | _ => (0, 0)
    | none => (0, 0)
  | _ => (0, 0)
/-- carried along a permutation -/
theorem rel_perm {K : PySem.W.Frag} {h : Hm} {ρ : List Addr} {H : Hp} {out us : List Value} (p : us.Perm out) : ∀ {ds : List D} {vs : List V}, Rels K h ρ H ds vs → Vals vs us → ∃ ds' vs', Rels K h ρ H ds' vs' ∧ Vals vs' out ∧ ds.Perm ds' := by
  induction p with
  | nil =>
    intro ds vs r q
    exact ⟨ds, vs, r, q, .refl _⟩
  | cons x p ih =>
    intro ds vs r q
    cases q with
    | cons a b =>
      cases r with
      | cons c d =>
        obtain ⟨ds', vs', r', q', p'⟩ := ih d b
        exact ⟨_ :: ds', _ :: vs', .cons c r', .cons a q', p'.cons _⟩
  | swap x y l =>
    intro ds vs r q
    cases q with
    | cons a b =>
      cases b with
      | cons a2 b =>
        cases r with
        | cons c d =>
          cases d with
          | cons c2 d => exact ⟨_, _, .cons c2 (.cons c d), .cons a2 (.cons a b), .swap _ _ _⟩
  | trans p1 p2 ih1 ih2 =>
    intro ds vs r q
    obtain ⟨ds1, vs1, r1, q1, p1'⟩ := ih1 r q
    obtain ⟨ds2, vs2, r2, q2, p2'⟩ := ih2 r1 q1
    exact ⟨ds2, vs2, r2, q2, p1'.trans p2'⟩
theorem biR_sorted : CallR X (.builtin "sorted") (DRs X.K (biD .sorted)) := by
  intro pins s σ H xs us Q I rs hq
  obtain ⟨h, ρ, ds, hr, r, q⟩ := hq
  match ds, r, q with
  | [], _, q => exact False.elim q
  | a :: b :: c, _, q => cases a <;> exact False.elim q
  | [d], r, q =>
    have qe : biD .sorted [d] h = (match (lstOf h d).bind pairsOf with
      | some ps => Res.ok (D.lst (unpairs (sortP ps))) h
      | none => Res.stuck) := by cases d <;> rfl
    rw [qe] at q
    cases k : lstOf h d with
    | none => rw [k] at q; exact False.elim q
    | some es =>
      rw [k] at q
      have q : (match pairsOf es with
        | some ps => Res.ok (D.lst (unpairs (sortP ps))) h
        | none => Res.stuck).wp _ := q
      cases k2 : pairsOf es with
      | none => rw [k2] at q; exact False.elim q
      | some ps =>
        rw [k2] at q
        obtain ⟨v, rfl, rv⟩ := rels1 r
        obtain ⟨a, vs, rfl, hs, rr⟩ := rv.lstv hr k
        obtain ⟨its, ri, hl, hz⟩ := I.list hs
        obtain ⟨u, rfl, ru⟩ := vals1 rs
        obtain rfl : u = Value.ref a := ru
        have ee := pairsOf_eq k2
        -- each item
        have at1 : ∀ (i j : Int) (v : V) (u : Value), Rel X.K h ρ H (.tup [.int i, .int j]) v → RelV v u → Srt.IsPair s.heap u i j ∧ pairAt s.heap u = (i, j) := by
          intro i j v u rv ru
          cases rv with
          | @tup t _ ws l rr =>
            obtain ⟨x, y, rfl, rx, ry⟩ := rels2 rr
            rw [rI_int rx, rI_int ry] at l
            obtain rfl : u = Value.ref t := ru
            obtain ⟨its2, r2, ⟨o, ho, hc, n, hd⟩, _⟩ := I.tuple l.sq
            obtain ⟨u1, u2, rfl, rt1, rt2⟩ := vals2 r2
            obtain ⟨t1, rfl⟩ := rt1
            obtain ⟨t2, rfl⟩ := rt2
            refine ⟨⟨t, o, t1, t2, n, rfl, ho, hc, hd⟩, ?_⟩
            unfold pairAt
            simp only [ho, hd]
        have all1 : ∀ (ps : List (Int × Int)) (vs : List V) (us : List Value), Rels X.K h ρ H (unpairs ps) vs → Vals vs us → us.map (pairAt s.heap) = ps ∧ ∀ u ∈ us, Srt.IsPair s.heap u (pairAt s.heap u).1 (pairAt s.heap u).2 := by
          intro ps
          induction ps with
          | nil =>
            intro vs us r q
            cases r
            cases q
            exact ⟨rfl, fun u hu => absurd hu (by simp)⟩
          | cons p ps ih =>
            intro vs us r q
            cases r with
            | cons c d =>
              cases q with
              | cons a b =>
                obtain ⟨e1, e2⟩ := at1 _ _ _ _ c a
                obtain ⟨e3, e4⟩ := ih _ _ d b
                refine ⟨by rw [List.map_cons, e2, e3], fun u hu => ?_⟩
                rcases List.mem_cons.mp hu with e | hu
                · subst e
                  rw [e2]
                  exact e1
                · exact e4 u hu
        have rr' : Rels X.K h ρ H (unpairs ps) vs := by rw [← ee]; exact rr
        obtain ⟨m1, m2⟩ := all1 ps vs its rr' ri
        refine SrtO.sorted_pairsO (k := pairAt s.heap) hl.isList (by rw [← ri.length]; exact hz) m2 fun h' d out h1 h2 kp hd hn => ?_
        obtain ⟨ds', vs', r', q', p'⟩ := rel_perm h2.perm.symm rr' ri
        have pe : ∃ ps', ds' = unpairs ps' ∧ ps.Perm ps' := by
          have : ∀ {es fs : List D}, es.Perm fs → ∀ ps, es = unpairs ps → ∃ ps', fs = unpairs ps' ∧ ps.Perm ps' := by
            intro es fs p
            induction p with
            | nil => intro ps e; exact ⟨ps, e, .refl _⟩
            | cons x p ih =>
              intro ps e
              cases ps with
              | nil => cases e
              | cons a ps =>
                obtain ⟨e1, e2⟩ := List.cons.inj e
                obtain ⟨ps', e3, e4⟩ := ih ps e2
                exact ⟨a :: ps', by rw [e1, e3]; rfl, e4.cons a⟩
            | swap x y l =>
              intro ps e
              match ps, e with
              | a :: b :: ps, e =>
                obtain ⟨e1, e2⟩ := List.cons.inj e
                obtain ⟨e3, e4⟩ := List.cons.inj e2
                exact ⟨b :: a :: ps, by rw [e1, e3, e4]; rfl, .swap _ _ _⟩
            | trans p1 p2 ih1 ih2 =>
              intro ps e
              obtain ⟨ps1, e1, q1⟩ := ih1 ps e
              obtain ⟨ps2, e2, q2⟩ := ih2 ps1 e1
              exact ⟨ps2, e2, q1.trans q2⟩
          exact this p' ps rfl
        obtain ⟨ps', ed, pp⟩ := pe
        subst ed
        obtain ⟨m3, _⟩ := all1 ps' vs' out r' q'
        have es : ps' = sortP ps := by
          refine srt_uniq ((pp.symm).trans (sortP_perm ps).symm) ?_ (sortP_srt ps)
          rw [← m3]
          exact List.pairwise_map.mpr h1
        subst es
        obtain ⟨n, hn⟩ := hn
        have hp : H d = none := I.hok.fresh hd
        refine ⟨.ref d, upd H d (.lst vs'), I.laid (t' := s.toks) kp hd ⟨?_, out, n, q', hn⟩, rfl, q _ _ _ (hr.new hp) (Kp.new hr hp) (Rel.newL hr hp r')⟩
        have := h2.len
        rw [q'.length, this, ← ri.length]
        exact hz
theorem biR (hc : X.calm = true) : ∀ b : Bi, CallR X (biVal b) (DRs X.K (biD b))
  | .len => biR_len | .abs => biR_abs | .int => biR_int | .tuple => biR_tuple | .list => biR_list | .all => biR_all hc | .any => biR_any hc | .sum => biR_sum hc
  | .max2 => biR_max2 hc | .min2 => biR_min2 hc | .str => biR_str | .sorted => biR_sorted
end

/-! Mini 5: expressions, piece by piece. -/

def notStar : Expr → Bool
  | .Starred .. => false
  | _ => true
theorem star_cons {e : Expr} {es : List Expr} {env : Env} (h : notStar e = true) : starEach (e :: es) env = (false, eval e env) :: starEach es env := by
  cases e <;> first | exact Bool.noConfusion h | rfl
def noStars (es : List Expr) : Bool := es.all notStar
theorem stars_none {env : Env} {pos : Pos} : ∀ {es : List Expr}, noStars es = true → (backTo pos (starEach es env)).any (·.1) = false
  | [], _ => rfl
  | e :: es, h => by
    unfold noStars at h
    rw [List.all_cons, Bool.and_eq_true] at h
    rw [star_cons h.1]
    have := stars_none (env := env) (pos := pos) (es := es) h.2
    simpa [backTo] using this
theorem stars_all {env : Env} {pos : Pos} : ∀ {es : List Expr}, noStars es = true → (backTo pos (starEach es env)).all (fun x => !x.1) = true
  | [], _ => rfl
  | e :: es, h => by
    unfold noStars at h
    rw [List.all_cons, Bool.and_eq_true] at h
    rw [star_cons h.1]
    have := stars_all (env := env) (pos := pos) (es := es) h.2
    simpa [backTo] using this

section
variable {X : Cx} {pos : Pos}
/-! ### arguments -/
theorem pa_nilD : PA X [] (tA X.K fun _ h => .ok [] h) := PA.w pa_nil fun σV H Q ⟨σ, h, ρ, s, q⟩ => q [] H ρ s Kps.refl .nil
theorem pa_consD {e : Expr} {es : List Expr} {f : Sg → Hm → Res D} {g : Sg → Hm → Res (List D)} (ha : PE X e (tE X.K f)) (hr : PA X es (tA X.K g)) (ns : notStar e = true) :
    PA X (e :: es) (tA X.K fun σ h => (f σ h).bind fun x h1 => (g σ h1).bind fun xs h2 => .ok (x :: xs) h2) := by
  refine PA.w (pa_cons ha hr (star_cons ns)) fun σV H Q ⟨σ, h, ρ, s, q⟩ => ?_
  refine tE_of s q fun d h1 v H1 ρ1 s1 k1 r1 q => ?_
  refine tA_of s1 q fun ds h2 vs H2 ρ2 s2 k2 r2 q => ?_
  exact q _ _ _ s2 (k1.trans k2) (.cons (r1.mono k2) r2)

/-! ### names, constants -/
theorem pe_varD {i : Nat} {x : Str} (hN : X.N[i]? = some x) (hv : Vis X.env.scope x) (hd : (x == ("__debug__" : Str)) = false) (hcd : (x == ("__classdict__" : Str)) = false) : PE X (.Name x pos) (tE X.K fun σ h => match σ[i]? with
    | some (some d) => .ok d h
    | _ => .stuck) := by
  refine PE.w (pe_var hN hv hd hcd) fun σV H Q ⟨σ, h, ρ, s, q⟩ => ?_
  dsimp only at q
  split at q
  · rename_i d e
    obtain ⟨v, a, b⟩ := s.sl.get i d e
    exact ⟨v, a, q v H ρ s Kps.refl b⟩
  · exact False.elim q
theorem pe_constD {e : Expr} {v : V} {d : D} (p : PE X e (tC v)) (r : ∀ H ρ M, RD X.K H ρ M d v) : PE X e (tE X.K fun _ h => .ok d h) :=
  PE.w p fun σV H Q ⟨σ, h, ρ, s, q⟩ => q v H ρ s Kps.refl (r _ _ _)

/-! ### operations -/
theorem pe_opD {a b : Expr} {op : Operator} {fa fb : Sg → Hm → Res D} {g : D → D → Hm → Res D} (o : OpR X (binaryOp op) (DR2 X.K g)) (ha : PE X a (tE X.K fa)) (hb : PE X b (tE X.K fb)) :
    PE X (.BinOp a op b pos) (tE X.K fun σ h => (fa σ h).bind fun x h1 => (fb σ h1).bind fun y h2 => g x y h2) := by
  refine PE.w (pe_op o ha hb) fun σV H Q ⟨σ, h, ρ, s, q⟩ => ?_
  refine tE_of s q fun d h1 v H1 ρ1 s1 k1 r1 q => ?_
  refine tE_of s1 q fun d2 h2 v2 H2 ρ2 s2 k2 r2 q => ?_
  exact ⟨h2, ρ2, d, d2, s2.hp, r1.mono k2, r2, Res.wp_mono q fun r h3 q v3 H3 ρ3 hr3 k3 rr => q v3 H3 ρ3 (s2.of hr3 k3) ((k1.trans k2).trans k3) rr⟩
theorem pe_ixD {a b : Expr} {fa fb : Sg → Hm → Res D} (ha : PE X a (tE X.K fa)) (hb : PE X b (tE X.K fb)) (hs : PlainIx b) :
    PE X (.Subscript a b pos) (tE X.K fun σ h => (fa σ h).bind fun x h1 => (fb σ h1).bind fun y h2 => ixD x y h2) := by
  refine PE.w (pe_ix ixR_any ha hb hs) fun σV H Q ⟨σ, h, ρ, s, q⟩ => ?_
  refine tE_of s q fun d h1 v H1 ρ1 s1 k1 r1 q => ?_
  refine tE_of s1 q fun d2 h2 v2 H2 ρ2 s2 k2 r2 q => ?_
  exact ⟨h2, ρ2, d, d2, s2.hp, r1.mono k2, r2, Res.wp_mono q fun r h3 q v3 H3 ρ3 hr3 k3 rr => q v3 H3 ρ3 (s2.of hr3 k3) ((k1.trans k2).trans k3) rr⟩
theorem pe_negD {a : Expr} {fa : Sg → Hm → Res D} (ha : PE X a (tE X.K fa)) : PE X (.UnaryOp .USub a pos) (tE X.K fun σ h => (fa σ h).bind fun x h1 => match x with
    | .int i => .ok (.int (-i)) h1
    | _ => .stuck) := by
  refine PE.w (pe_un un_neg ha) fun σV H Q ⟨σ, h, ρ, s, q⟩ => ?_
  refine tE_of s q fun d h1 v H1 ρ1 s1 k1 r1 q => ?_
  cases d with
  | int i => exact ⟨i, rI_int r1, q _ _ _ s1 k1 (.int _)⟩
  | _ => exact False.elim q

/-! ### comparisons -/
theorem c_cmp {a b : Expr} {fa fb : Sg → Hm → Res D} {o : Cm} {Q : Bool → Hp → Prop} {σV : L2.St} {H : Hp}
    (q : tT X.K (fun σ h => (fa σ h).bind fun x h1 => (fb σ h1).bind fun y h2 => cmpD o x y h2) σV H Q) : tOp (DRc X.K (cmpD o)) (tE X.K fa) (tE X.K fb) σV H (fun x H' => ∃ k, x = .bl k ∧ Q k H') := by
  obtain ⟨σ, h, ρ, s, q⟩ := q
  refine tE_of s q fun d h1 v H1 ρ1 s1 k1 r1 q => ?_
  refine tE_of s1 q fun d2 h2 v2 H2 ρ2 s2 k2 r2 q => ?_
  exact ⟨h2, ρ2, d, d2, s2.hp, r1.mono k2, r2, Res.wp_mono q fun r h3 q H3 ρ3 hr3 k3 => ⟨r, rfl, q H3 ρ3 (s2.of hr3 k3) ((k1.trans k2).trans k3)⟩⟩
theorem pt_cmpD {a b : Expr} {fa fb : Sg → Hm → Res D} {o : Cm} {po : CmpOp} (hu : X.A.units + 64 < cLine) (e : cmB o po = true) (ha : PE X a (tE X.K fa)) (hb : PE X b (tE X.K fb)) :
    PT X (.Compare a [po] [b] pos) (tT X.K fun σ h => (fa σ h).bind fun x h1 => (fb σ h1).bind fun y h2 => cmpD o x y h2) :=
  PT.w (pt_cmpR (cmR_of hu o po e) ha hb (nomark b (cmB_plain e).1 (cmB_plain e).2)) fun σV H Q q => c_cmp (a := a) (b := b) q
theorem pe_cmpD {a b : Expr} {fa fb : Sg → Hm → Res D} {o : Cm} {po : CmpOp} (hu : X.A.units + 64 < cLine) (e : cmB o po = true) (ha : PE X a (tE X.K fa)) (hb : PE X b (tE X.K fb)) :
    PE X (.Compare a [po] [b] pos) (tE X.K fun σ h => (fa σ h).bind fun x h1 => (fb σ h1).bind fun y h2 => (cmpD o x y h2).bind fun c h3 => .ok (.bl c) h3) := by
  refine PE.w (pe_cmpR (cmR_of hu o po e) ha hb (nomark b (cmB_plain e).1 (cmB_plain e).2)) fun σV H Q ⟨σ, h, ρ, s, q⟩ => ?_
  refine tE_of s q fun d h1 v H1 ρ1 s1 k1 r1 q => ?_
  refine tE_of s1 q fun d2 h2 v2 H2 ρ2 s2 k2 r2 q => ?_
  exact ⟨h2, ρ2, d, d2, s2.hp, r1.mono k2, r2, Res.wp_mono (Res.wp_bind q) fun r h3 q H3 ρ3 hr3 k3 => q _ _ _ (s2.of hr3 k3) ((k1.trans k2).trans k3) (.bl _)⟩
theorem lastMarks2 {o1 o2 : Cm} {p1 p2 : CmpOp} {b c : Expr} (e2 : cmB o2 p2 = true) : lastMarks [p1, p2] [b, c] = false := by
  show lastMarks [p2] [c] = false
  show behindInMarks p2 c = false
  exact nomark c (cmB_plain e2).1 (cmB_plain e2).2
theorem pt_chainD {a b c : Expr} {fa fb fc : Sg → Hm → Res D} {o1 o2 : Cm} {p1 p2 : CmpOp} (hu : X.A.units + 64 < cLine) (e1 : cmB o1 p1 = true) (e2 : cmB o2 p2 = true) (ha : PE X a (tE X.K fa)) (hb : PE X b (tE X.K fb)) (hc : PE X c (tE X.K fc)) :
    PT X (.Compare a [p1, p2] [b, c] pos) (tT X.K fun σ h => (fa σ h).bind fun x h1 => (fb σ h1).bind fun y h2 => (cmpD o1 x y h2).bind fun t h3 =>
    match t with
    | true => (fc σ h3).bind fun z h4 => cmpD o2 y z h4
    | false => .ok false h3) := by
  refine PT.w (pt_chain (cmR_of hu o1 p1 e1) (cmR_of hu o2 p2 e2) ha hb hc (lastMarks2 (o1 := o1) e2)) fun σV H Q ⟨σ, h, ρ, s, q⟩ => ?_
  refine tE_of s q fun d h1 v H1 ρ1 s1 k1 r1 q => ?_
  refine tE_of s1 q fun d2 h2 v2 H2 ρ2 s2 k2 r2 q => ?_
  refine ⟨h2, ρ2, d, d2, s2.hp, r1.mono k2, r2, Res.wp_mono (Res.wp_bind q) fun r h3 q H3 ρ3 hr3 k3 => ⟨r, rfl, ?_⟩⟩
  have s3 := s2.of hr3 k3
  cases r with
  | false => exact ⟨false, rfl, q _ _ s3 ((k1.trans k2).trans k3)⟩
  | true =>
    refine tE_of s3 q fun d4 h4 v4 H4 ρ4 s4 k4 r4 q => ?_
    exact ⟨h4, ρ4, d2, d4, s4.hp, r2.mono (k3.trans k4), r4, Res.wp_mono q fun u h5 q H5 ρ5 hr5 k5 => ⟨u, rfl, q _ _ (s4.of hr5 k5) ((((k1.trans k2).trans k3).trans k4).trans k5)⟩⟩
theorem pe_chainD {a b c : Expr} {fa fb fc : Sg → Hm → Res D} {o1 o2 : Cm} {p1 p2 : CmpOp} (hu : X.A.units + 64 < cLine) (e1 : cmB o1 p1 = true) (e2 : cmB o2 p2 = true) (ha : PE X a (tE X.K fa)) (hb : PE X b (tE X.K fb)) (hc : PE X c (tE X.K fc)) :
    PE X (.Compare a [p1, p2] [b, c] pos) (tE X.K fun σ h => (fa σ h).bind fun x h1 => (fb σ h1).bind fun y h2 => (cmpD o1 x y h2).bind fun t h3 =>
    match t with
    | true => (fc σ h3).bind fun z h4 => (cmpD o2 y z h4).bind fun u h5 => .ok (.bl u) h5
    | false => .ok (.bl false) h3) := by
  refine PE.w (pe_chain (cmR_of hu o1 p1 e1) (cmR_of hu o2 p2 e2) ha hb hc (lastMarks2 (o1 := o1) e2)) fun σV H Q ⟨σ, h, ρ, s, q⟩ => ?_
  refine tE_of s q fun d h1 v H1 ρ1 s1 k1 r1 q => ?_
  refine tE_of s1 q fun d2 h2 v2 H2 ρ2 s2 k2 r2 q => ?_
  refine ⟨h2, ρ2, d, d2, s2.hp, r1.mono k2, r2, Res.wp_mono (Res.wp_bind q) fun r h3 q H3 ρ3 hr3 k3 => ⟨r, rfl, ?_⟩⟩
  have s3 := s2.of hr3 k3
  cases r with
  | false => exact q _ _ _ s3 ((k1.trans k2).trans k3) (.bl _)
  | true =>
    refine tE_of s3 q fun d4 h4 v4 H4 ρ4 s4 k4 r4 q => ?_
    exact ⟨h4, ρ4, d2, d4, s4.hp, r2.mono (k3.trans k4), r4, Res.wp_mono (Res.wp_bind q) fun u h5 q H5 ρ5 hr5 k5 => q _ _ _ (s4.of hr5 k5) ((((k1.trans k2).trans k3).trans k4).trans k5) (.bl _)⟩
theorem isNon_rel {K : PySem.W.Frag} {H : Hp} {ρ : List Addr} {M : Addr → Prop} {d : D} {v : V} (r : RD K H ρ M d v) : decide (v = .non) = isNonD d := by
  cases r <;> rfl
theorem op_isNotN : OpR X (compareOp .IsNot) (fun x y H Q => y = .non ∧ Q (.bl (!decide (x = .non))) H) := by
  intro pins s σ H x y v u Q I rx ry h
  obtain ⟨rfl, q⟩ := h
  cases ry
  exact isnot_none_gen ⟨.bl _, H, I, by rw [rx.none_iff]; rfl, q⟩
theorem pt_isND {a : Expr} {j p2} {fa : Sg → Hm → Res D} (ha : PE X a (tE X.K fa)) : PT X (.Compare a [.Is] [.Constant .none j p2] pos) (tT X.K fun σ h => (fa σ h).bind fun x h1 => .ok (isNonD x) h1) := by
  refine PT.w (pt_cmpR op_isN ha pe_non (nomark _)) fun σV H Q ⟨σ, h, ρ, s, q⟩ => ?_
  refine tE_of s q fun d h1 v H1 ρ1 s1 k1 r1 q => ?_
  exact ⟨rfl, _, rfl, by rw [isNon_rel r1]; exact q _ _ s1 k1⟩
theorem pe_isND {a : Expr} {j p2} {fa : Sg → Hm → Res D} (ha : PE X a (tE X.K fa)) : PE X (.Compare a [.Is] [.Constant .none j p2] pos) (tE X.K fun σ h => (fa σ h).bind fun x h1 => .ok (.bl (isNonD x)) h1) := by
  refine PE.w (pe_cmpR op_isN ha pe_non (nomark _)) fun σV H Q ⟨σ, h, ρ, s, q⟩ => ?_
  refine tE_of s q fun d h1 v H1 ρ1 s1 k1 r1 q => ?_
  exact ⟨rfl, by rw [isNon_rel r1]; exact q _ _ _ s1 k1 (.bl _)⟩
theorem pt_notND {a : Expr} {j p2} {fa : Sg → Hm → Res D} (ha : PE X a (tE X.K fa)) : PT X (.Compare a [.IsNot] [.Constant .none j p2] pos) (tT X.K fun σ h => (fa σ h).bind fun x h1 => .ok (!isNonD x) h1) := by
  refine PT.w (pt_cmpR op_isNotN ha pe_non (nomark _)) fun σV H Q ⟨σ, h, ρ, s, q⟩ => ?_
  refine tE_of s q fun d h1 v H1 ρ1 s1 k1 r1 q => ?_
  exact ⟨rfl, _, rfl, by rw [isNon_rel r1]; exact q _ _ s1 k1⟩
theorem pe_notND {a : Expr} {j p2} {fa : Sg → Hm → Res D} (ha : PE X a (tE X.K fa)) : PE X (.Compare a [.IsNot] [.Constant .none j p2] pos) (tE X.K fun σ h => (fa σ h).bind fun x h1 => .ok (.bl (!isNonD x)) h1) := by
  refine PE.w (pe_cmpR op_isNotN ha pe_non (nomark _)) fun σV H Q ⟨σ, h, ρ, s, q⟩ => ?_
  refine tE_of s q fun d h1 v H1 ρ1 s1 k1 r1 q => ?_
  exact ⟨rfl, by rw [isNon_rel r1]; exact q _ _ _ s1 k1 (.bl _)⟩

theorem pt_isBD {a : Expr} {b : Bool} {j p2} {fa : Sg → Hm → Res D} (ha : PE X a (tE X.K fa)) : PT X (.Compare a [.Is] [.Constant (.bool b) j p2] pos) (tT X.K fun σ h => (fa σ h).bind fun x h1 => match x with
    | .bl c => .ok (false ^^ decide (c = b)) h1
    | _ => .stuck) := by
  refine PT.w (pt_cmpR op_isBl ha pe_bl (nomark _)) fun σV H Q ⟨σ, h, ρ, s, q⟩ => ?_
  refine tE_of s q fun d h1 v H1 ρ1 s1 k1 r1 q => ?_
  cases d with
  | bl c => exact ⟨c, b, rI_bl r1, rfl, _, rfl, by have z := q _ _ s1 k1; rw [Bool.false_xor] at z; exact z⟩
  | _ => exact False.elim q
theorem pe_isBD {a : Expr} {b : Bool} {j p2} {fa : Sg → Hm → Res D} (ha : PE X a (tE X.K fa)) : PE X (.Compare a [.Is] [.Constant (.bool b) j p2] pos) (tE X.K fun σ h => (fa σ h).bind fun x h1 => match x with
    | .bl c => .ok (.bl (false ^^ decide (c = b))) h1
    | _ => .stuck) := by
  refine PE.w (pe_cmpR op_isBl ha pe_bl (nomark _)) fun σV H Q ⟨σ, h, ρ, s, q⟩ => ?_
  refine tE_of s q fun d h1 v H1 ρ1 s1 k1 r1 q => ?_
  cases d with
  | bl c => exact ⟨c, b, rI_bl r1, rfl, q _ _ _ s1 k1 (by rw [Bool.false_xor]; exact .bl _)⟩
  | _ => exact False.elim q
theorem pt_notBD {a : Expr} {b : Bool} {j p2} {fa : Sg → Hm → Res D} (ha : PE X a (tE X.K fa)) : PT X (.Compare a [.IsNot] [.Constant (.bool b) j p2] pos) (tT X.K fun σ h => (fa σ h).bind fun x h1 => match x with
    | .bl c => .ok (true ^^ decide (c = b)) h1
    | _ => .stuck) := by
  refine PT.w (pt_cmpR op_notBl ha pe_bl (nomark _)) fun σV H Q ⟨σ, h, ρ, s, q⟩ => ?_
  refine tE_of s q fun d h1 v H1 ρ1 s1 k1 r1 q => ?_
  cases d with
  | bl c => exact ⟨c, b, rI_bl r1, rfl, _, by rw [Bool.true_xor], q _ _ s1 k1⟩
  | _ => exact False.elim q
theorem pe_notBD {a : Expr} {b : Bool} {j p2} {fa : Sg → Hm → Res D} (ha : PE X a (tE X.K fa)) : PE X (.Compare a [.IsNot] [.Constant (.bool b) j p2] pos) (tE X.K fun σ h => (fa σ h).bind fun x h1 => match x with
    | .bl c => .ok (.bl (true ^^ decide (c = b))) h1
    | _ => .stuck) := by
  refine PE.w (pe_cmpR op_notBl ha pe_bl (nomark _)) fun σV H Q ⟨σ, h, ρ, s, q⟩ => ?_
  refine tE_of s q fun d h1 v H1 ρ1 s1 k1 r1 q => ?_
  cases d with
  | bl c => exact ⟨c, b, rI_bl r1, rfl, q _ _ _ s1 k1 (by rw [Bool.true_xor]; exact .bl _)⟩
  | _ => exact False.elim q

/-! ### and, or, not -/
theorem pe_andD {a b : Expr} {rest : List Expr} {fa fb : Sg → Hm → Res D} (ha : PE X a (tE X.K fa)) (hb : PE X (.BoolOp .And (b :: rest) pos) (tE X.K fb)) : PE X (.BoolOp .And (a :: b :: rest) pos) (tE X.K fun σ h => (fa σ h).bind fun x h1 => match x with
    | .bl true => fb σ h1
    | .bl false => .ok (.bl false) h1
    | _ => .stuck) := by
  refine PE.w (pe_and ha hb) fun σV H Q ⟨σ, h, ρ, s, q⟩ => ?_
  refine tE_of s q fun d h1 v H1 ρ1 s1 k1 r1 q => ?_
  cases d with
  | bl c =>
    refine ⟨c, rI_bl r1, ?_⟩
    cases c with
    | true => exact iteT ⟨σ, h1, ρ1, s1, Res.wp_mono q fun r h2 q v H2 ρ2 s2 k2 r2 => q v H2 ρ2 s2 (k1.trans k2) r2⟩
    | false => exact iteF (q _ _ _ s1 k1 (.bl _))
  | _ => exact False.elim q
theorem pe_orD {a b : Expr} {rest : List Expr} {fa fb : Sg → Hm → Res D} (ha : PE X a (tE X.K fa)) (hb : PE X (.BoolOp .Or (b :: rest) pos) (tE X.K fb)) : PE X (.BoolOp .Or (a :: b :: rest) pos) (tE X.K fun σ h => (fa σ h).bind fun x h1 => match x with
    | .bl true => .ok (.bl true) h1
    | .bl false => fb σ h1
    | _ => .stuck) := by
  refine PE.w (pe_or ha hb) fun σV H Q ⟨σ, h, ρ, s, q⟩ => ?_
  refine tE_of s q fun d h1 v H1 ρ1 s1 k1 r1 q => ?_
  cases d with
  | bl c =>
    refine ⟨c, rI_bl r1, ?_⟩
    cases c with
    | false => exact iteF ⟨σ, h1, ρ1, s1, Res.wp_mono q fun r h2 q v H2 ρ2 s2 k2 r2 => q v H2 ρ2 s2 (k1.trans k2) r2⟩
    | true => exact iteT (q _ _ _ s1 k1 (.bl _))
  | _ => exact False.elim q
theorem pe_notD {a : Expr} {fa : Sg → Hm → Res D} (ha : PE X a (tE X.K fa)) : PE X (.UnaryOp .Not a pos) (tE X.K fun σ h => (fa σ h).bind fun x h1 => match x with
    | .bl c => .ok (.bl (!c)) h1
    | _ => .stuck) := by
  refine PE.w (pe_not ha) fun σV H Q ⟨σ, h, ρ, s, q⟩ => ?_
  refine tE_of s q fun d h1 v H1 ρ1 s1 k1 r1 q => ?_
  cases d with
  | bl c => exact ⟨c, rI_bl r1, q _ _ _ s1 k1 (.bl _)⟩
  | _ => exact False.elim q
theorem pw_andD {a b : Expr} {rest : List Expr} {fa fb : Sg → Hm → Res Bool} (ha : PT X a (tT X.K fa)) (hb : PW X (.BoolOp .And (b :: rest) pos) (tT X.K fb)) : PW X (.BoolOp .And (a :: b :: rest) pos) (tT X.K fun σ h => (fa σ h).bind fun t h1 => match t with
    | true => fb σ h1
    | false => .ok false h1) := by
  refine PW.w (pw_and ha hb) fun σV H Q ⟨σ, h, ρ, s, q⟩ => ?_
  refine tT_of s q fun c h1 H1 ρ1 s1 k1 q => ?_
  cases c with
  | true => exact iteT ⟨σ, h1, ρ1, s1, Res.wp_mono q fun r h2 q H2 ρ2 s2 k2 => q H2 ρ2 s2 (k1.trans k2)⟩
  | false => exact iteF (q _ _ s1 k1)
theorem pw_orD {a b : Expr} {rest : List Expr} {fa fb : Sg → Hm → Res Bool} (ha : PT X a (tT X.K fa)) (hb : PW X (.BoolOp .Or (b :: rest) pos) (tT X.K fb)) : PW X (.BoolOp .Or (a :: b :: rest) pos) (tT X.K fun σ h => (fa σ h).bind fun t h1 => match t with
    | true => .ok true h1
    | false => fb σ h1) := by
  refine PW.w (pw_or ha hb) fun σV H Q ⟨σ, h, ρ, s, q⟩ => ?_
  refine tT_of s q fun c h1 H1 ρ1 s1 k1 q => ?_
  cases c with
  | false => exact iteF ⟨σ, h1, ρ1, s1, Res.wp_mono q fun r h2 q H2 ρ2 s2 k2 => q H2 ρ2 s2 (k1.trans k2)⟩
  | true => exact iteT (q _ _ s1 k1)
theorem pt_notD {a : Expr} {fa : Sg → Hm → Res Bool} (ha : PT X a (tT X.K fa)) : PT X (.UnaryOp .Not a pos) (tT X.K fun σ h => (fa σ h).bind fun t h1 => .ok (!t) h1) := by
  refine PT.w (pt_not ha) fun σV H Q ⟨σ, h, ρ, s, q⟩ => ?_
  exact tT_of s q fun c h1 H1 ρ1 s1 k1 q => q _ _ s1 k1
theorem pe_ifD {c a b : Expr} {fc : Sg → Hm → Res Bool} {fa fb : Sg → Hm → Res D} (hc : PT X c (tT X.K fc)) (ha : PE X a (tE X.K fa)) (hb : PE X b (tE X.K fb)) : PE X (.IfExp c a b pos) (tE X.K fun σ h => (fc σ h).bind fun t h1 => match t with
    | true => fa σ h1
    | false => fb σ h1) := by
  refine PE.w (pe_ifExp hc ha hb) fun σV H Q ⟨σ, h, ρ, s, q⟩ => ?_
  refine tT_of s q fun c h1 H1 ρ1 s1 k1 q => ?_
  cases c with
  | true => exact iteT ⟨σ, h1, ρ1, s1, Res.wp_mono q fun r h2 q v H2 ρ2 s2 k2 r2 => q v H2 ρ2 s2 (k1.trans k2) r2⟩
  | false => exact iteF ⟨σ, h1, ρ1, s1, Res.wp_mono q fun r h2 q v H2 ρ2 s2 k2 r2 => q v H2 ρ2 s2 (k1.trans k2) r2⟩
/-- a value as a test -/
def plainT : Expr → Bool
  | .UnaryOp .Not _ _ => false
  | .BoolOp .. => false
  | .IfExp .. => false
  | .Compare .. => false
  | _ => true
theorem pt_valD {a : Expr} {fa : Sg → Hm → Res D} (ha : PE X a (tE X.K fa)) (hp : plainT a = true) : PT X a (tT X.K fun σ h => (fa σ h).bind trD) := by
  refine PT.w (pt_val ha fun whole => ?_) fun σV H Q ⟨σ, h, ρ, s, q⟩ => ?_
  · cases a <;> first | exact Bool.noConfusion hp | rfl | skip
    rename_i op _ _
    cases op <;> first | exact Bool.noConfusion hp | rfl
  · refine tE_of s q fun d h1 v H1 ρ1 s1 k1 r1 q => ?_
    cases d with
    | bl c => exact ⟨c, rI_bl r1, q _ _ s1 k1⟩
    | _ => exact False.elim q

/-! ### displays -/
theorem pe_tupD {es : List Expr} {x1} {f : Sg → Hm → Res (List D)} (p : PA X es (tA X.K f)) : PE X (.Tuple es x1 pos) (tE X.K fun σ h => (f σ h).bind fun ds h1 => .guard (decide (ds.length ≤ LIM)) (.ok (.tup ds) h1)) := by
  refine PE.w (pe_tupF p) fun σV H Q ⟨σ, h, ρ, s, q⟩ => ?_
  refine tA_of s q fun ds h1 vs H1 ρ1 s1 k1 r1 q => ?_
  obtain ⟨c, q⟩ := Res.wp_guard q
  exact ⟨by rw [← r1.length]; exact le_sz c, fun p o hp ho => q _ _ _ (s1.new hp) (k1.trans (Kp.new s1.hp hp)) (Rel.newT s1.hp hp ho r1)⟩
theorem pe_lstD {es : List Expr} {f : Sg → Hm → Res (List D)} (p : PA X es (tA X.K f)) : PE X (.List es pos) (tE X.K fun σ h => (f σ h).bind fun ds h1 => .guard (decide (ds.length ≤ LIM)) (.ok (.lst ds) h1)) := by
  refine PE.w (pe_lst p) fun σV H Q ⟨σ, h, ρ, s, q⟩ => ?_
  refine tA_of s q fun ds h1 vs H1 ρ1 s1 k1 r1 q => ?_
  obtain ⟨c, q⟩ := Res.wp_guard q
  exact ⟨by rw [← r1.length]; exact le_sz c, fun p hp => q _ _ _ (s1.new hp) (k1.trans (Kp.new s1.hp hp)) (Rel.newL s1.hp hp r1)⟩
theorem SR.push {K : PySem.W.Frag} {σ : Sg} {h : Hm} {ρ : List Addr} {σV : L2.St} {H : Hp} {p : Addr} {xs : List D} {vs : List V} (s : SR K σ h ρ σV H) (e : H p = none) (q : Rels K h ρ H xs vs) : SR K σ (h ++ [.lst xs]) (ρ ++ [p]) σV (upd H p (.lst vs)) :=
  s.of (s.hp.push e q) (Kp.push s.hp e)
theorem Rel.pushed {K : PySem.W.Frag} {h : Hm} {ρ : List Addr} {H : Hp} {p : Addr} {o : MO} {H' : Hp} (r : HR K h ρ H) : Rel K (h ++ [o]) (ρ ++ [p]) H' (.ref h.length) (.ref p) := .ref (by rw [← r.len]; simp)
theorem pe_lstMD {es : List Expr} {f : Sg → Hm → Res (List D)} (p : PA X es (tA X.K f)) : PE X (.List es pos) (tE X.K fun σ h => (f σ h).bind fun ds h1 => .guard (decide (ds.length ≤ LIM)) (.ok (.ref h1.length) (h1 ++ [.lst ds]))) := by
  refine PE.w (pe_lst p) fun σV H Q ⟨σ, h, ρ, s, q⟩ => ?_
  refine tA_of s q fun ds h1 vs H1 ρ1 s1 k1 r1 q => ?_
  obtain ⟨c, q⟩ := Res.wp_guard q
  exact ⟨by rw [← r1.length]; exact le_sz c, fun p hp => q _ _ _ (s1.push hp r1) (k1.trans (Kp.push s1.hp hp)) (Rel.pushed s1.hp)⟩

/-! ### built-ins -/
theorem pe_biD {b : Bi} {e : Expr} {es : List Expr} {x : Str} {p : Pos} {f : Sg → Hm → Res (List D)} (hc : X.calm = true) (hx : x = biName b) (hg : Gl X x) (hm : X.mg x = none) (ha : PA X (e :: es) (tA X.K f)) (ns : noStars (e :: es) = true) :
    PE X (.Call (.Name x p) (e :: es) [] pos) (tE X.K fun σ h => (f σ h).bind fun ds h1 => biD b ds h1) := by
  have st : starEach (e :: es) X.env = (false, eval e X.env) :: starEach es X.env := star_cons (by
    unfold noStars at ns
    rw [List.all_cons, Bool.and_eq_true] at ns
    exact ns.1)
  have sn : (backTo pos (starEach es X.env)).any (·.1) = false := stars_none (by
    unfold noStars at ns ⊢
    rw [List.all_cons, Bool.and_eq_true] at ns
    exact ns.2)
  have go : PE X (.Call (.Name x p) (e :: es) [] pos) (tCB (DRs X.K (biD b)) (tA X.K f)) := by
    subst hx
    cases b
    · exact pe_callB (biR hc .len) hg hm (by decide +kernel) ha (by decide +kernel) (by decide +kernel) st sn
    · exact pe_callB (biR hc .abs) hg hm (by decide +kernel) ha (by decide +kernel) (by decide +kernel) st sn
    · exact pe_callTy (biR hc .int) hg hm (by decide +kernel) ha (by decide +kernel) (by decide +kernel) st sn
    · exact pe_callTy (biR hc .tuple) hg hm (by decide +kernel) ha (by decide +kernel) (by decide +kernel) st sn
    · exact pe_callTy (biR hc .list) hg hm (by decide +kernel) ha (by decide +kernel) (by decide +kernel) st sn
    · exact pe_callB (biR hc .all) hg hm (by decide +kernel) ha (by decide +kernel) (by decide +kernel) st sn
    · exact pe_callB (biR hc .any) hg hm (by decide +kernel) ha (by decide +kernel) (by decide +kernel) st sn
    · exact pe_callB (biR hc .sum) hg hm (by decide +kernel) ha (by decide +kernel) (by decide +kernel) st sn
    · exact pe_callB (biR hc .max2) hg hm (by decide +kernel) ha (by decide +kernel) (by decide +kernel) st sn
    · exact pe_callB (biR hc .min2) hg hm (by decide +kernel) ha (by decide +kernel) (by decide +kernel) st sn
    · exact pe_callTy (biR hc .str) hg hm (by decide +kernel) ha (by decide +kernel) (by decide +kernel) st sn
    · exact pe_callB (biR hc .sorted) hg hm (by decide +kernel) ha (by decide +kernel) (by decide +kernel) st sn
  refine PE.w go fun σV H Q ⟨σ, h, ρ, s, q⟩ => ?_
  refine tA_of s q fun ds h1 vs H1 ρ1 s1 k1 r1 q => ?_
  exact ⟨h1, ρ1, ds, s1.hp, r1, Res.wp_mono q fun r h3 q v3 H3 ρ3 hr3 k3 rr => q v3 H3 ρ3 (s1.of hr3 k3) (k1.trans k3) rr⟩
end

/-! Mini 6: isinstance, methods, slices, calls of defs, what is walked, targets. -/

/-! ### isinstance -/
def tyNm : Ty → String
  | .int => "int" | .bool => "bool" | .str => "str" | .tuple => "tuple" | .list => "list"
def dTy : D → String
  | .non => "NoneType" | .bl _ => "bool" | .int _ => "int" | .str _ => "str" | .tup _ => "tuple" | .lst _ => "list" | .ref _ => "list" | .wtup _ => "tuple"
theorem kit_d (t : Ty) (d : D) : kitB (dTy d) (tyNm t) = some (tyD t d) := by
  cases t <;> cases d <;> (simp only [dTy, tyNm, tyD]; decide +kernel)
section
variable {K : PySem.W.Frag} {h : Hm} {ρ : List Addr} {H : Hp}
theorem LieL.ty {M : Addr → Prop} {a : Addr} {vs : List V} (l : LieL K H M a vs) : TyX K H (.ref a) (.type "list") := by
  rcases l with ⟨l | ⟨o, l⟩, _⟩ | ⟨o, its, n, h1, h2, _⟩
  · exact .base (.lst l)
  · exact .base (.frz l)
  · exact .kList h1 h2
theorem LieT.ty {M : Addr → Prop} {a : Addr} {vs : List V} (l : LieT K H M a vs) : TyX K H (.ref a) (.type "tuple") := by
  rcases l with ⟨o, l, _⟩ | ⟨o, its, n, h1, h2, _⟩
  · exact .fTuple l
  · exact .kTuple h1 h2
theorem LieW.ty {M : Addr → Prop} {a : Addr} {vs : List V} (l : LieW K H M a vs) : TyX K H (.ref a) (.type "tuple") := by
  rcases l with ⟨l | ⟨o, l⟩, _⟩
  · exact .base (.tup l)
  · exact .fTuple l
/-- the type of a value; of a shared thing only while it is open -/
theorem Rel.ty {d : D} {v : V} (hr : HR K h ρ H) (r : Rel K h ρ H d v) (ok : ∀ n, d = .ref n → (listOf? h n).isSome = true) : TyX K H v (.type (dTy d)) := by
  cases r with
  | non => exact .base .non
  | bl b => exact .base (.bl b)
  | int b => exact .base (.int b)
  | str b => exact .base (.str b)
  | tup l _ => exact l.ty
  | lst l _ => exact l.ty
  | wtup l _ => exact l.ty
  | @ref n a e =>
    have k := ok n rfl
    cases q : listOf? h n with
    | none => rw [q] at k; cases k
    | some xs =>
      obtain ⟨vs, h1, _⟩ := hr.ref e q
      exact .base (.lst h1)
end
theorem openD_ok {h : Hm} {d : D} (e : openD h d = true) : ∀ n, d = .ref n → (listOf? h n).isSome = true := by
  rintro n rfl
  exact e
section
variable {X : Cx} {pos : Pos}
theorem ty_boot (t : Ty) : bootBuiltins (tyNm t) = some (.type (tyNm t)) := by cases t <;> decide +kernel
theorem ty_ok (t : Ty) : (tyNm t : Str) ≠ "__name__" ∧ ((tyNm t : Str) == ("__debug__" : Str)) = false := by cases t <;> exact ⟨by decide +kernel, by decide +kernel⟩
theorem pe_ty {t : Ty} {x : Str} (hx : x = tyNm t) (hg : Gl X x) (hm : X.mg x = none) : PE X (.Name x pos) (tC (.ty (tyNm t))) := by
  subst hx
  exact pe_bltn hg hm (ty_boot t) rfl (ty_ok t).1 (ty_ok t).2
theorem pe_isiD {a : Expr} {t : Ty} {x : Str} {p p2 : Pos} {f : Sg → Hm → Res D} (hx : x = tyNm t) (hg : Gl X "isinstance") (hm : X.mg "isinstance" = none) (hgT : Gl X x) (hmT : X.mg x = none) (ha : PE X a (tE X.K f)) (ns : notStar a = true) :
    PE X (.Call (.Name "isinstance" p) [a, .Name x p2] [] pos) (tE X.K fun σ h => (f σ h).bind fun x h1 => .guard (openD h1 x) (.ok (.bl (tyD t x)) h1)) := by
  have pa : PA X [a, .Name x p2] (tCons (tE X.K f) (tCons (tC (.ty (tyNm t))) tNil)) := pa_cons ha (pa_cons (pe_ty hx hgT hmT) pa_nil (by rfl)) (star_cons ns)
  refine PE.w (pe_callB call_isi hg hm (by decide +kernel) pa (by decide +kernel) (by decide +kernel) (star_cons ns) (by rfl)) fun σV H Q ⟨σ, h, ρ, s, q⟩ => ?_
  refine tE_of s q fun d h1 v H1 ρ1 s1 k1 r1 q => ?_
  obtain ⟨c, q⟩ := Res.wp_guard q
  exact ⟨v, .ty (tyNm t), .type (dTy d), .type (tyNm t), tyD t d, rfl, .ty _, r1.ty s1.hp (openD_ok c), kit_ty (kit_d t d), q _ _ _ s1 k1 (.bl _)⟩
/-- the names of a tuple of classes -/
theorem pa_tys : ∀ {ts : List Ty} {es : List Expr}, Paired (fun (t : Ty) (e : Expr) => ∃ p, e = .Name (tyNm t) p ∧ Gl X (tyNm t) ∧ X.mg (tyNm t) = none) ts es → PA X es fun _ H Q => Q (ts.map fun t => V.ty (tyNm t)) H
  | _, _, .nil => pa_nil
  | t :: ts, _, .cons ⟨p, e, hg, hm⟩ r => by
    subst e
    exact pa_cons (pe_ty rfl hg hm) (pa_tys r) (by rfl)
theorem cls_tys : ∀ ts : List Ty, Paired ClsV (ts.map fun t => V.ty (tyNm t)) (ts.map fun t => Value.type (tyNm t))
  | [] => .nil
  | t :: ts => .cons (.ty _) (cls_tys ts)
theorem kit_any {K : PySem.W.Frag} (d : D) : ∀ ts : List Ty, PySem.W.kitAny K (.type (dTy d)) (ts.map fun t => Value.type (tyNm t)) = some (ts.any fun t => tyD t d)
  | [] => rfl
  | t :: ts => by
    refine kitAny_cons (kit_ty (kit_d t d)) (fun e => ?_) (fun e => ?_)
    · rw [kit_any d ts, List.any_cons, e, Bool.false_or]
    · rw [List.any_cons, e, Bool.true_or]
theorem pe_isiTD {a : Expr} {ts : List Ty} {es : List Expr} {k : Nat} {p p2 : Pos} {f : Sg → Hm → Res D} (hes : Paired (fun (t : Ty) (e : Expr) => ∃ p, e = .Name (tyNm t) p ∧ Gl X (tyNm t) ∧ X.mg (tyNm t) = none) ts es) (hz : ts.length ≤ sizeLine)
    (hg : Gl X "isinstance") (hm : X.mg "isinstance" = none) (ha : PE X a (tE X.K f)) (ns : notStar a = true) :
    PE X (.Call (.Name "isinstance" p) [a, .Tuple es k p2] [] pos) (tE X.K fun σ h => (f σ h).bind fun x h1 => .guard (openD h1 x) (.ok (.bl (ts.any fun t => tyD t x)) h1)) := by
  have pa : PA X [a, .Tuple es k p2] (tCons (tE X.K f) (tCons (tTup fun _ H Q => Q (ts.map fun t => V.ty (tyNm t)) H) tNil)) := pa_cons ha (pa_cons (pe_tup (pa_tys hes)) pa_nil (by rfl)) (star_cons ns)
  refine PE.w (pe_callB call_isiT hg hm (by decide +kernel) pa (by decide +kernel) (by decide +kernel) (star_cons ns) (by rfl)) fun σV H Q ⟨σ, h, ρ, s, q⟩ => ?_
  refine tE_of s q fun d h1 v H1 ρ1 s1 k1 r1 q => ?_
  obtain ⟨c, q⟩ := Res.wp_guard q
  refine ⟨by rw [List.length_map]; exact hz, fun p hp => ?_⟩
  have k2 : Kp h1 ρ1 H1 h1 ρ1 (upd H1 p (.tup (ts.map fun t => V.ty (tyNm t)))) := Kp.new s1.hp hp
  have s2 := s1.new (o := .tup (ts.map fun t => V.ty (tyNm t))) hp
  exact ⟨v, p, _, .type (dTy d), _, _, rfl, upd_same, cls_tys ts, Rel.ty s2.hp (r1.mono k2) (openD_ok c), kit_any d ts, q _ _ _ s2 (k1.trans k2) (.bl _)⟩

/-! ### methods -/
theorem mt_appendD : MtR X "list.append" (fun x xs H Q => ∃ h ρ d ds, HR X.K h ρ H ∧ Rel X.K h ρ H d x ∧ Rels X.K h ρ H ds xs ∧ (mtD .append d ds h).wp fun r h' => ∀ v H' ρ', HR X.K h' ρ' H' → Kp h ρ H h' ρ' H' → Rel X.K h' ρ' H' r v → Q v H') := by
  intro pins s σ H x xs v us Q I rx rxs hq
  obtain ⟨h, ρ, d, ds, hr, rd, rs, q⟩ := hq
  match d, ds, rd, rs, q with
  | .ref n, [y], rd, rs, q =>
    have q : (match listOf? h n with
      | some xs => Res.guard (decide (xs.length < LIM)) (Res.ok D.non (h.set n (.lst (xs ++ [y]))))
      | none => Res.stuck).wp _ := q
    cases e : listOf? h n with
    | none => rw [e] at q; exact False.elim q
    | some ys =>
      rw [e] at q
      obtain ⟨c, q⟩ := Res.wp_guard q
      obtain ⟨w, rfl, rw'⟩ := rels1 rs
      cases rd with
      | @ref _ a ea =>
        obtain ⟨vs, h1, h2⟩ := hr.ref ea e
        have eh : h[n]? = some (.lst ys) := by
          unfold listOf? at e
          split at e
          · rename_i z q2
            cases e
            exact q2
          · cases e
        refine mt_append pins s σ H _ _ v us Q I rx rxs ⟨a, vs, w, rfl, rfl, h1, by rw [← h2.length]; exact lt_sz c, ?_⟩
        exact q _ _ _ (hr.write ea eh (h2.append (.cons rw' .nil))) (Kp.write ea eh) .non
  | .non, _, _, _, q => exact False.elim q
  | .bl _, _, _, _, q => exact False.elim q
  | .int _, _, _, _, q => exact False.elim q
  | .str _, _, _, _, q => exact False.elim q
  | .tup _, _, _, _, q => exact False.elim q
  | .lst _, _, _, _, q => exact False.elim q
  | .wtup _, _, _, _, q => exact False.elim q
  | .ref _, [], _, _, q => exact False.elim q
  | .ref _, _ :: _ :: _, _, _, q => exact False.elim q
theorem listOf_eq {h : Hm} {n : Nat} {xs : List D} (e : listOf? h n = some xs) : h[n]? = some (.lst xs) := by
  unfold listOf? at e
  split at e
  · rename_i z q2
    cases e
    exact q2
  · cases e
theorem RDs.erase {K : PySem.W.Frag} {h : Hm} {ρ : List Addr} {H : Hp} : ∀ {ds : List D} {vs : List V} (k : Nat), Rels K h ρ H ds vs → Rels K h ρ H (ds.eraseIdx k) (vs.eraseIdx k)
  | [], _, k, r => by cases r; exact .nil
  | d :: ds, _, 0, r => by cases r with | cons a b => exact b
  | d :: ds, _, k + 1, r => by cases r with | cons a b => exact .cons a (RDs.erase k b)
theorem mt_popD : MtR X "list.pop" (fun x xs H Q => ∃ h ρ d ds, HR X.K h ρ H ∧ Rel X.K h ρ H d x ∧ Rels X.K h ρ H ds xs ∧ (mtD .popAt d ds h).wp fun r h' => ∀ v H' ρ', HR X.K h' ρ' H' → Kp h ρ H h' ρ' H' → Rel X.K h' ρ' H' r v → Q v H') := by
  intro pins s σ H x xs v us Q I rx rxs hq
  obtain ⟨h, ρ, d, ds, hr, rd, rs, q⟩ := hq
  match d, ds, rd, rs, q with
  | .ref n, [.int i], rd, rs, q =>
    have q : (match listOf? h n with
      | some xs => match (if 0 ≤ i ∧ i < xs.length then xs[i.toNat]? else none) with
        | some y => Res.ok y (h.set n (.lst (xs.eraseIdx i.toNat)))
        | none => Res.stuck
      | none => Res.stuck).wp _ := q
    cases e : listOf? h n with
    | none => rw [e] at q; exact False.elim q
    | some ys =>
      rw [e] at q
      dsimp only at q
      by_cases hi : 0 ≤ i ∧ i < ys.length
      · rw [if_pos hi] at q
        cases e2 : ys[i.toNat]? with
        | none => rw [e2] at q; exact False.elim q
        | some y =>
          rw [e2] at q
          obtain ⟨w, rfl, rw'⟩ := rels1 rs
          have ew := rI_int rw'
          subst ew
          cases rd with
          | @ref _ a ea =>
            obtain ⟨vs, h1, h2⟩ := hr.ref ea e
            have eh := listOf_eq e
            obtain ⟨z, hz, rz⟩ := h2.get e2
            have hl := (I.lstM h1).1
            have hlen := h2.length
            rw [sz] at hl
            refine mt_popAt pins s σ H _ _ v us Q I rx rxs ⟨a, vs, i, i.toNat, z, rfl, rfl, h1, by omega, by omega, ?_, hz, ?_⟩
            · unfold seqIndex?
              have n1 : ¬ i < 0 := by omega
              have n2 : (decide (0 ≤ i) && decide (i < (vs.length : Int))) = true := by simp; omega
              simp only [if_neg n1, n2, if_true]
            · exact q _ _ _ (hr.write ea eh (RDs.erase _ h2)) (Kp.write ea eh) (rz.mono (Kp.write ea eh))
      · rw [if_neg hi] at q
        exact False.elim q
  | .non, _, _, _, q => exact False.elim q
  | .bl _, _, _, _, q => exact False.elim q
  | .int _, _, _, _, q => exact False.elim q
  | .str _, _, _, _, q => exact False.elim q
  | .tup _, _, _, _, q => exact False.elim q
  | .lst _, _, _, _, q => exact False.elim q
  | .wtup _, _, _, _, q => exact False.elim q
  | .ref _, [], _, _, q => exact False.elim q
  | .ref _, [.non], _, _, q => exact False.elim q
  | .ref _, [.bl _], _, _, q => exact False.elim q
  | .ref _, [.str _], _, _, q => exact False.elim q
  | .ref _, [.tup _], _, _, q => exact False.elim q
  | .ref _, [.lst _], _, _, q => exact False.elim q
  | .ref _, [.ref _], _, _, q => exact False.elim q
  | .ref _, [.wtup _], _, _, q => exact False.elim q
  | .ref _, a :: _ :: _, _, _, q => cases a <;> exact False.elim q
end

/-! Mini 7: methods in place, slices, calls of defs, what is walked, targets. -/
def notCall : Expr → Bool
  | .Call .. => false
  | _ => true
theorem base_plain' {o : Expr} {name : Str} {env : Env} (h : notCall o = true) : attributeBase o name env (eval o env) = eval o env := by
  cases o <;> first | exact Bool.noConfusion h | rfl
section
variable {X : Cx} {pos : Pos}
/-- the receiver: a list, or a tuple that is known to the object -/
def rcv (K : PySem.W.Frag) (T : String) (x : V) (H : Hp) : Prop := ∃ p, x = .ref p ∧ ((T = "list" ∧ ∃ xs, SqL K H p xs) ∨ (T = "tuple" ∧ ∃ M xs, LieT K H M p xs))
theorem rcv_is {pins : List (Addr × Obj)} {σ : L2.St} {H : Hp} {s : Shared} {T : String} {x : V} {v : Value} (I : Inv X pins σ H s) (r : RelV x v) (ty : rcv X.K T x H) :
    s.TypeIs v T ∧ ∀ a, v = .ref a → ∃ ob, s.heap.get? a = some ob ∧ ob.dict = none := by
  obtain ⟨p, rfl, ty⟩ := ty
  cases r
  rcases ty with ⟨rfl, xs, hq⟩ | ⟨rfl, M, xs, hq⟩
  · obtain ⟨its, _, pl, _⟩ := I.list hq
    refine ⟨pl.isList.typeIs, fun a e => ?_⟩
    cases e
    obtain ⟨o, n, e, c, hd, _⟩ := pl
    exact ⟨o, e, hd⟩
  · rcases hq with ⟨o, hq, hd, _⟩ | ⟨o, its, n, hk, hc, hd, _⟩
    · obtain ⟨e, _, its, _, o', e2, hc, _⟩ := I.hok p _ hq
      rw [e] at e2
      cases e2
      refine ⟨⟨o, e, hc⟩, fun a e3 => ?_⟩
      cases e3
      exact ⟨o, e, hd⟩
    · refine ⟨⟨o, I.kIn p o hk, hc⟩, fun a e => ?_⟩
      cases e
      exact ⟨o, I.kIn _ o hk, hd⟩
/-- a built-in's method, with arguments -/
theorem pe_mtG {T id : String} {name : Str} {o e : Expr} {es : List Expr} {apos cpos : Pos} {m : Mt} {fo : Sg → Hm → Res D} {fs : Sg → Hm → Res (List D)}
    (pa : PlainAttrs T) (slot : Slot T name id) (hty : typeOf (.builtin id) = pure (.type "method_descriptor"))
    (hm : MtR X id (fun x xs H Q => ∃ h ρ d ds, HR X.K h ρ H ∧ Rel X.K h ρ H d x ∧ Rels X.K h ρ H ds xs ∧ (mtD m d ds h).wp fun r h' => ∀ v H' ρ', HR X.K h' ρ' H' → Kp h ρ H h' ρ' H' → Rel X.K h' ρ' H' r v → Q v H'))
    (hrc : ∀ (h : Hm) (ρ : List Addr) (H : Hp) (d : D) (v : V), HR X.K h ρ H → Rel X.K h ρ H d v → rcvD m d h = true → rcv X.K T v H)
    (ho : PE X o (tE X.K fo)) (ha : PA X (e :: es) (tA X.K fs)) (ns : noStars (e :: es) = true) (hfew : (e :: es).length < 30)
    (hbase : notCall o = true) (hline : (apos.endLine == cpos.line) = true) :
    PE X (.Call (.Attribute o name apos) (e :: es) [] cpos) (tE X.K fun σ h => (fo σ h).bind fun x h1 => .guard (rcvD m x h1) ((fs σ h1).bind fun ds h2 => mtD m x ds h2)) := by
  have st : starEach (e :: es) X.env = (false, eval e X.env) :: starEach es X.env := star_cons (by
    unfold noStars at ns
    rw [List.all_cons, Bool.and_eq_true] at ns
    exact ns.1)
  have sn : (backTo cpos (starEach es X.env)).any (·.1) = false := stars_none (by
    unfold noStars at ns ⊢
    rw [List.all_cons, Bool.and_eq_true] at ns
    exact ns.2)
  refine ⟨fun pins s σ H Q I h => ?_⟩
  have hf : ((backTo cpos (starEach (e :: es) X.env)).all (fun x => !x.1) && (backToKw cpos (keywordEach [] X.env)).all (fun x => x.1.isSome)
      && decide ((e :: es).length + ([] : List Keyword).length + (if ([] : List Keyword).isEmpty then 0 else 1) < 30)) = true := by
    rw [stars_all ns]
    simp [backToKw, keywordEach] at hfew ⊢
    exact hfew
  refine wpAny_Call_method_late (base_plain' hbase) hf hline rfl ?_
  obtain ⟨σD, hD, ρ, sr, q⟩ := h
  have q0 : tE X.K fo σ H (fun x H1 => rcv X.K T x H1 ∧ tA X.K fs σ H1 fun xs H2 => ∃ h ρ d ds, HR X.K h ρ H2 ∧ Rel X.K h ρ H2 d x ∧ Rels X.K h ρ H2 ds xs ∧ (mtD m d ds h).wp fun r h' => ∀ v H' ρ', HR X.K h' ρ' H' → Kp h ρ H2 h' ρ' H' → Rel X.K h' ρ' H' r v → Q v H') := by
    refine tE_of sr q fun d h1 v H1 ρ1 s1 k1 r1 q => ?_
    obtain ⟨c, q⟩ := Res.wp_guard q
    refine ⟨hrc _ _ _ _ _ s1.hp r1 c, ?_⟩
    refine tA_of s1 q fun ds h2 vs H2 ρ2 s2 k2 r2 q => ?_
    exact ⟨h2, ρ2, d, ds, s2.hp, r1.mono k2, r2, Res.wp_mono q fun r h3 q v3 H3 ρ3 hr3 k3 rr => q v3 H3 ρ3 (s2.of hr3 k3) ((k1.trans k2).trans k3) rr⟩
  refine thn (ho.run pins s σ H _ I q0) fun v s1 ⟨x, H1, I1, r1, ty, q1⟩ => ?_
  obtain ⟨h1, h2⟩ := rcv_is I1 r1 ty
  refine ⟨T, id, pa, slot, hty, h1, h2, ?_⟩
  have hA := ha.run cpos pins s1 σ H1 _ I1 q1
  rw [st] at hA ⊢
  refine Calls.callWith_builtin (by show (false || (backTo cpos (starEach es X.env)).any (·.1)) = false; rw [sn] <;> rfl) (Calls.evalArgs_plain ?_)
  exact thn hA fun us s2 ⟨vs, H2, I2, r2, q2⟩ => hm pins s2 σ H2 x vs v us Q I2 r1 r2 q2
theorem rcv_list {h : Hm} {ρ : List Addr} {H : Hp} {n : Nat} {v : V} (hr : HR X.K h ρ H) (r : Rel X.K h ρ H (.ref n) v) (e : (listOf? h n).isSome = true) : rcv X.K "list" v H := by
  cases k : listOf? h n with
  | none => rw [k] at e; cases e
  | some xs =>
    cases r with
    | @ref _ a ea =>
      obtain ⟨vs, h1, _⟩ := hr.ref ea k
      exact ⟨a, rfl, .inl ⟨rfl, vs, SqL.of h1⟩⟩
theorem mt_indexD : MtR X "tuple.index" (fun x xs H Q => ∃ h ρ d ds, HR X.K h ρ H ∧ Rel X.K h ρ H d x ∧ Rels X.K h ρ H ds xs ∧ (mtD .index d ds h).wp fun r h' => ∀ v H' ρ', HR X.K h' ρ' H' → Kp h ρ H h' ρ' H' → Rel X.K h' ρ' H' r v → Q v H') := by
  intro pins s σ H x xs v us Q I rx rxs hq
  obtain ⟨h, ρ, d, ds, hr, rd, rs, q⟩ := hq
  match d, ds, rd, rs, q with
  | .tup ys, [.str z], rd, rs, q =>
    have q : (match (strsOf ys).bind (idxOf z) with
      | some j => Res.ok (D.int j) h
      | none => Res.stuck).wp _ := q
    cases e : (strsOf ys).bind (idxOf z) with
    | none => rw [e] at q; exact False.elim q
    | some j =>
      rw [e] at q
      cases e2 : strsOf ys with
      | none => rw [e2] at e; cases e
      | some zs =>
        rw [e2] at e
        have e : idxOf z zs = some j := e
        obtain ⟨w, rfl, rw'⟩ := rels1 rs
        cases rd with
        | @tup a _ vs l rr =>
          have hz := strs_rel e2 rr
          subst hz
          have key : ∀ (zs : List Str) (j : Nat), idxOf z zs = some j → zs[j]? = some z ∧ ∀ m, m < j → zs[m]? ≠ some z := by
            intro zs
            induction zs with
            | nil => intro j e; cases e
            | cons y ys ih =>
              intro j e
              unfold idxOf at e
              by_cases hy : y = z
              · rw [if_pos hy] at e
                cases e
                exact ⟨by simp [hy], fun m hm => absurd hm (Nat.not_lt_zero _)⟩
              · rw [if_neg hy] at e
                cases k : idxOf z ys with
                | none => rw [k] at e; cases e
                | some i =>
                  rw [k] at e
                  cases e
                  obtain ⟨a, b⟩ := ih i k
                  refine ⟨by simpa using a, fun m hm => ?_⟩
                  cases m with
                  | zero => simpa using hy
                  | succ m => simpa using b m (Nat.lt_of_succ_lt_succ hm)
          obtain ⟨k1, k2⟩ := key zs j e
          exact mt_tup_index pins s σ H _ _ v us Q I rx rxs ⟨a, zs, z, j, rfl, by rw [rI_str rw'], l.sq, k1, k2, q _ _ _ hr Kps.refl (.int _)⟩
def mtId : Mt → String
  | .append => "list.append" | .popAt => "list.pop" | .index => "tuple.index"
def mtNm : Mt → Str
  | .append => "append" | .popAt => "pop" | .index => "index"
theorem pe_mtD {m : Mt} {name : Str} {o e : Expr} {es : List Expr} {apos cpos : Pos} {fo : Sg → Hm → Res D} {fs : Sg → Hm → Res (List D)} (hn : name = mtNm m)
    (ho : PE X o (tE X.K fo)) (ha : PA X (e :: es) (tA X.K fs)) (ns : noStars (e :: es) = true) (hfew : (e :: es).length < 30)
    (hbase : notCall o = true) (hline : (apos.endLine == cpos.line) = true) :
    PE X (.Call (.Attribute o name apos) (e :: es) [] cpos) (tE X.K fun σ h => (fo σ h).bind fun x h1 => .guard (rcvD m x h1) ((fs σ h1).bind fun ds h2 => mtD m x ds h2)) := by
  subst hn
  cases m with
  | append =>
    refine pe_mtG PySem.F.plainAttrs_list PySem.F.slot_list_append PySem.F.type_list_append mt_appendD (fun h ρ H d v hr r c => ?_) ho ha ns hfew hbase hline
    cases d <;> first | exact Bool.noConfusion c | exact rcv_list hr r c
  | popAt =>
    refine pe_mtG PySem.F.plainAttrs_list PySem.F.slot_list_pop PySem.F.type_list_pop mt_popD (fun h ρ H d v hr r c => ?_) ho ha ns hfew hbase hline
    cases d <;> first | exact Bool.noConfusion c | exact rcv_list hr r c
  | index =>
    refine pe_mtG PySem.F.plainAttrs_tuple PySem.F.slot_tuple_index PySem.F.type_tuple_index mt_indexD (fun h ρ H d v hr r c => ?_) ho ha ns hfew hbase hline
    cases r with
    | tup l _ => exact ⟨_, rfl, .inr ⟨rfl, _, _, l⟩⟩
    | _ => exact Bool.noConfusion c
end

/-! Mini 8: slices, calls of defs, what is walked, targets. -/
section
variable {X : Cx} {pos : Pos}
/-! ### slices -/
theorem slW {r r' : V → Option Int → Option Int → Hp → VK → Prop} (p : L2.SlR X r) (w : ∀ x lo hi H Q, r' x lo hi H Q → r x lo hi H Q) : L2.SlR X r' := fun pins s σ H x v vl vu lo hi sl Q I rx hs pl pu q => p pins s σ H x v vl vu lo hi sl Q I rx hs pl pu (w _ _ _ _ _ q)
theorem slR_list : L2.SlR X (fun x lo hi H Q => ∃ h ρ d, HR X.K h ρ H ∧ Rel X.K h ρ H d x ∧ (lstOf h d).isSome = true ∧ (cutD d lo hi h).wp fun r h' => ∀ v H' ρ', HR X.K h' ρ' H' → Kp h ρ H h' ρ' H' → Rel X.K h' ρ' H' r v → Q v H') := slW sl_list fun x lo hi H Q hq => by
  obtain ⟨h, ρ, d, hr, rd, e, q⟩ := hq
  cases k : lstOf h d with
  | none => rw [k] at e; cases e
  | some xs =>
    obtain ⟨a, vs, rfl, hs, rr⟩ := rd.lstv hr k
    refine ⟨a, vs, rfl, hs, fun p hp => ?_⟩
    have rc : Rels X.K h ρ H (cutL xs lo hi) (cutV vs lo hi) := by
      unfold cutL cutV
      rw [rr.length]
      exact (rr.drop _).take _
    have fin : (Res.ok (D.lst (cutL xs lo hi)) h).wp (fun r h' => ∀ v H' ρ', HR X.K h' ρ' H' → Kp h ρ H h' ρ' H' → Rel X.K h' ρ' H' r v → Q v H') → Q (.ref p) (upd H p (.lst (cutV vs lo hi))) := fun q =>
      q _ _ _ (hr.new hp) (Kp.new hr hp) (Rel.newL hr hp rc)
    cases d with
    | lst ys => cases k; exact fin q
    | ref n =>
      have k : listOf? h n = some xs := k
      have q : (match listOf? h n with
        | some xs => Res.ok (D.lst (cutL xs lo hi)) h
        | none => Res.stuck).wp _ := q
      rw [k] at q
      exact fin q
    | _ => cases k
theorem pe_sliceD {e : Expr} {lo hi : Option Expr} {p2 : Pos} {fe : Sg → Hm → Res D} {fl fh : Sg → Hm → Res (Option Int)} (he : PE X e (tE X.K fe)) (hl : PO X lo (tP X.K fl)) (hh : PO X hi (tP X.K fh)) :
    PE X (.Subscript e (.Slice lo hi none p2) pos) (tE X.K fun σ h => (fe σ h).bind fun x h1 => (fl σ h1).bind fun l h2 => (fh σ h2).bind fun u h3 => .guard ((lstOf h3 x).isSome) (cutD x l u h3)) := by
  refine PE.w (pe_slice slR_list he hl hh) fun σV H Q ⟨σ, h, ρ, s, q⟩ => ?_
  refine tE_of s q fun d h1 v H1 ρ1 s1 k1 r1 q => ?_
  refine tP_of s1 q fun l h2 H2 ρ2 s2 k2 q => ?_
  refine tP_of s2 q fun u h3 H3 ρ3 s3 k3 q => ?_
  obtain ⟨c, q⟩ := Res.wp_guard q
  exact ⟨h3, ρ3, d, s3.hp, r1.mono (k2.trans k3), c, Res.wp_mono q fun r h4 q v4 H4 ρ4 hr4 k4 rr => q v4 H4 ρ4 (s3.of hr4 k4) (((k1.trans k2).trans k3).trans k4) rr⟩
theorem pe_revD {e : Expr} {k : Nat} {p1 p2 p3 : Pos} {fe : Sg → Hm → Res D} (he : PE X e (tE X.K fe)) :
    PE X (.Subscript e (.Slice none none (some (.UnaryOp .USub (.Constant (.int 1) k p1) p2)) p3) pos) (tE X.K fun σ h => (fe σ h).bind fun x h1 => match lstOf h1 x with
    | some xs => .ok (.lst xs.reverse) h1
    | none => .stuck) := by
  refine PE.w (pe_revL he) fun σV H Q ⟨σ, h, ρ, s, q⟩ => ?_
  refine tE_of s q fun d h1 v H1 ρ1 s1 k1 r1 q => ?_
  cases e : lstOf h1 d with
  | none => rw [e] at q; exact False.elim q
  | some xs =>
    rw [e] at q
    obtain ⟨a, vs, rfl, hs, rr⟩ := r1.lstv0 s1.hp e
    exact ⟨a, vs, rfl, hs, fun p hp => q _ _ _ (s1.new hp) (k1.trans (Kp.new s1.hp hp)) (Rel.newL s1.hp hp rr.reverse)⟩
theorem po_noneD : PO X none (tP X.K fun _ h => .ok none h) := PO.w po_none fun σV H Q ⟨σ, h, ρ, s, q⟩ => q H ρ s Kps.refl
theorem po_someD {e : Expr} {f : Sg → Hm → Res D} (he : PE X e (tE X.K f)) : PO X (some e) (tP X.K fun σ h => (f σ h).bind fun x h1 => match x with
    | .int i => .ok (some i) h1
    | _ => .stuck) := by
  refine PO.w (po_some he) fun σV H Q ⟨σ, h, ρ, s, q⟩ => ?_
  refine tE_of s q fun d h1 v H1 ρ1 s1 k1 r1 q => ?_
  cases d with
  | int i => exact ⟨i, rI_int r1, q _ _ s1 k1⟩
  | _ => exact False.elim q

/-! ### calls of defs -/
def spD (K : PySem.W.Frag) (n : Nat) (den : List D → Hm → Res D) : Sp := fun vs H Q _ => vs.length = n ∧ ∃ h ρ ds, HR K h ρ H ∧ Rels K h ρ H ds vs ∧ (den ds h).wp fun d h' => ∀ v H' ρ', HR K h' ρ' H' → Kp h ρ H h' ρ' H' → Rel K h' ρ' H' d v → Q v H'
structure CallOk (X : Cx) (x : Str) (den : List D → Hm → Res D) : Prop where
  ex : ∃ (f : Addr) (fd : FuncData) (ps : List Str) (k : Nat), FnOk X.prog X.w X.K X.mg X.base CX0 k f fd ps (spD X.K ps.length den) ∧ Room k X.A ∧ X.mg x = some (.ref f) ∧ PySem.W.keepIn X.K (.ref f) = true ∧ Binds X.K fd ps [] ∧
    (∀ ds h r h', den ds h = .ok r h' → ds.length = ps.length)
/-- f(.., k = v): the values by their places -/
structure CallKOk (X : Cx) (x : Str) (den : List D → Hm → Res D) (n : Nat) (ks : List Str) (perm : List Nat) : Prop where
  ex : ∃ (f : Addr) (fd : FuncData) (ps : List Str) (k : Nat), FnOk X.prog X.w X.K X.mg X.base CX0 k f fd ps (spD X.K ps.length den) ∧ Room k X.A ∧ X.mg x = some (.ref f) ∧ PySem.W.keepIn X.K (.ref f) = true ∧
    (∀ (s : Shared) (us ws : List Value), X.K.In s.heap → us.length = n → ws.length = ks.length → BindsTo s fd ⟨us, ks.zip ws⟩ (ps.zip (permV perm Value.none us ws))) ∧ (∀ ds h r h', den ds h = .ok r h' → ds.length = ps.length)
theorem sp_of {K : PySem.W.Frag} {n : Nat} {den : List D → Hm → Res D} {σ : Sg} {h0 h : Hm} {ρ0 ρ : List Addr} {σV : L2.St} {H0 H : Hp} {ds : List D} {vs : List V} {Q : VK} (hn : ∀ ds h r h', den ds h = .ok r h' → ds.length = n) (s : SR K σ h ρ σV H) (k0 : Kp h0 ρ0 H0 h ρ H) (r : Rels K h ρ H ds vs)
    (q : (den ds h).wp fun d h' => ∀ v H' ρ', SR K σ h' ρ' σV H' → Kp h0 ρ0 H0 h' ρ' H' → Rel K h' ρ' H' d v → Q v H') : spD K n den vs H Q E0 := by
  cases e : den ds h with
  | stuck => rw [e] at q; exact False.elim q
  | ok d h' =>
    refine ⟨by rw [← r.length]; exact hn _ _ _ _ e, h, ρ, ds, s.hp, r, ?_⟩
    exact Res.wp_mono q fun r h3 q v3 H3 ρ3 hr3 k3 rr => q v3 H3 ρ3 (s.of hr3 k3) (k0.trans k3) rr
theorem pe_callD {x : Str} {p : Pos} {e : Expr} {es : List Expr} {f : Sg → Hm → Res (List D)} {den : List D → Hm → Res D} (c : CallOk X x den) (hg : Gl X x) (hdb : (x == ("__debug__" : Str)) = false) (ha : PA X (e :: es) (tA X.K f)) (ns : noStars (e :: es) = true) :
    PE X (.Call (.Name x p) (e :: es) [] pos) (tE X.K fun σ h => (f σ h).bind fun ds h1 => den ds h1) := by
  obtain ⟨g, fd, ps, k, F, hr, hm, hk, hb, hn⟩ := c.ex
  have st : starEach (e :: es) X.env = (false, eval e X.env) :: starEach es X.env := star_cons (by
    unfold noStars at ns
    rw [List.all_cons, Bool.and_eq_true] at ns
    exact ns.1)
  have sn : (backTo pos (starEach es X.env)).any (·.1) = false := stars_none (by
    unfold noStars at ns ⊢
    rw [List.all_cons, Bool.and_eq_true] at ns
    exact ns.2)
  refine PE.w (pe_call F hr hg hm hk hb .nil pass0 ha hdb st sn) fun σV H Q ⟨σ, h, ρ, s, q⟩ => ?_
  refine tA_of s q fun ds h1 vs H1 ρ1 s1 k1 r1 q => ?_
  rw [List.append_nil]
  exact sp_of hn s1 k1 r1 q
theorem pe_call0D {x : Str} {p : Pos} {den : List D → Hm → Res D} (c : CallOk X x den) (hg : Gl X x) (hdb : (x == ("__debug__" : Str)) = false) :
    PE X (.Call (.Name x p) [] [] pos) (tE X.K fun σ h => den [] h) := by
  obtain ⟨g, fd, ps, k, F, hr, hm, hk, hb, hn⟩ := c.ex
  refine PE.w (pe_call0 F hr hg hm hk hb .nil pass0 hdb) fun σV H Q ⟨σ, h, ρ, s, q⟩ => ?_
  exact sp_of hn s Kps.refl .nil q
theorem pk_nilD : PK X [] (tA X.K fun _ h => .ok [] h) := ⟨fun pos pins s σ H Q I ⟨σD, h, ρ, sr, q⟩ => pk_nil.run pos pins s σ H Q I (q [] H ρ sr Kps.refl .nil)⟩
theorem pk_consD {nm : Option Str} {e : Expr} {kp : Pos} {kws : List Keyword} {f : Sg → Hm → Res D} {g : Sg → Hm → Res (List D)} (ha : PE X e (tE X.K f)) (hr : PK X kws (tA X.K g)) :
    PK X (⟨nm, e, kp⟩ :: kws) (tA X.K fun σ h => (f σ h).bind fun x h1 => (g σ h1).bind fun xs h2 => .ok (x :: xs) h2) := ⟨fun pos pins s σV H Q I ⟨σ, h, ρ, sr, q⟩ => (pk_cons ha hr).run pos pins s σV H Q I (by
  refine tE_of sr q fun d h1 v H1 ρ1 s1 k1 r1 q => ?_
  refine tA_of s1 q fun ds h2 vs H2 ρ2 s2 k2 r2 q => ?_
  exact q _ _ _ s2 (k1.trans k2) (.cons (r1.mono k2) r2))⟩
theorem permV_rel {K : PySem.W.Frag} {h : Hm} {ρ : List Addr} {H : Hp} {ds ks : List D} {vs ws : List V} (a : Rels K h ρ H ds vs) (b : Rels K h ρ H ks ws) : ∀ perm : List Nat, Rels K h ρ H (permV perm D.non ds ks) (permV perm V.non vs ws)
  | [] => .nil
  | i :: is => by
    refine .cons ?_ (permV_rel a b is)
    have r := a.append b
    cases e : (ds ++ ks)[i]? with
    | some d =>
      obtain ⟨v, h1, h2⟩ := r.get e
      dsimp only
      rw [List.getD_eq_getElem?_getD, List.getD_eq_getElem?_getD, e, h1]
      exact h2
    | none =>
      have : (vs ++ ws)[i]? = none := by
        have hl := r.length
        rw [List.getElem?_eq_none_iff] at e ⊢
        omega
      dsimp only
      rw [List.getD_eq_getElem?_getD, List.getD_eq_getElem?_getD, e, this]
      exact .non
theorem permV_vals {us : List V} {vs : List Value} {ws : List V} {zs : List Value} (a : Vals us vs) (b : Vals ws zs) : ∀ perm : List Nat, Vals (permV perm V.non us ws) (permV perm Value.none vs zs)
  | [] => .nil
  | i :: is => by
    refine .cons ?_ (permV_vals a b is)
    have r := a.append b
    cases e : (us ++ ws)[i]? with
    | some d =>
      obtain ⟨v, h1, h2⟩ := r.get e
      dsimp only
      rw [List.getD_eq_getElem?_getD, List.getD_eq_getElem?_getD, e, h1]
      exact h2
    | none =>
      have := r.none_of e
      dsimp only
      rw [List.getD_eq_getElem?_getD, List.getD_eq_getElem?_getD, e, this]
      rfl
theorem kbn_perm {K : PySem.W.Frag} {fd : FuncData} {ps ks : List Str} {n : Nat} {perm : List Nat} (h : ∀ (s : Shared) (us ws : List Value), K.In s.heap → us.length = n → ws.length = ks.length → BindsTo s fd ⟨us, ks.zip ws⟩ (ps.zip (permV perm Value.none us ws))) :
    KBn K fd ps n ks (permV perm Value.none) (permV perm V.non) := ⟨h, fun a b => permV_vals a b perm⟩
theorem kw_all {ks : List Str} {kws : List Keyword} {env : Env} {pos : Pos} (h : kws.map (·.arg) = ks.map some) : (backToKw pos (keywordEach kws env)).all (·.1.isSome) = true ∧ (backToKw pos (keywordEach kws env)).filterMap (·.1) = ks ∧ (backToKw pos (keywordEach kws env)).any (·.1.isNone) = false := by
  induction kws generalizing ks with
  | nil =>
    cases ks with
    | nil => exact ⟨rfl, rfl, rfl⟩
    | cons a b => cases h
  | cons k kws ih =>
    cases ks with
    | nil => cases h
    | cons a b =>
      obtain ⟨nm, e, kp⟩ := k
      simp only [List.map_cons, List.cons.injEq] at h
      obtain ⟨h1, h2⟩ := h
      subst h1
      obtain ⟨i1, i2, i3⟩ := ih h2
      refine ⟨?_, ?_, ?_⟩
      · show (true && (backToKw pos (keywordEach kws env)).all (·.1.isSome)) = true
        rw [i1]; rfl
      · show a :: (backToKw pos (keywordEach kws env)).filterMap (·.1) = a :: b
        rw [i2]
      · show (false || (backToKw pos (keywordEach kws env)).any (·.1.isNone)) = false
        rw [i3]; rfl
theorem any_split {α : Type} {p q : Bool} (a : p = false) (b : q = false) : (p || q) = false := by rw [a, b]; rfl
theorem pe_callkD {x : Str} {p : Pos} {e : Expr} {es : List Expr} {kws : List Keyword} {n : Nat} {ks : List Str} {perm : List Nat} {f g : Sg → Hm → Res (List D)} {den : List D → Hm → Res D} (c : CallKOk X x den n ks perm) (hg : Gl X x) (hdb : (x == ("__debug__" : Str)) = false)
    (ha : PA X (e :: es) (tA X.K f)) (hkw : PK X kws (tA X.K g)) (ns : noStars (e :: es) = true) (hks : kws.map (·.arg) = ks.map some) (hl : (e :: es).length = n) (hl2 : ∀ σ h ds h', f σ h = .ok ds h' → ds.length = (e :: es).length) (hl3 : ∀ σ h ds h', g σ h = .ok ds h' → ds.length = kws.length) :
    PE X (.Call (.Name x p) (e :: es) kws pos) (tE X.K fun σ h => (f σ h).bind fun ds h1 => (g σ h1).bind fun zs h2 => den (permV perm D.non ds zs) h2) := by
  obtain ⟨fa, fd, ps, k, F, hr, hm, hk, hb, hn⟩ := c.ex
  obtain ⟨k1, k2, k3⟩ := kw_all (env := X.env) (pos := pos) hks
  have hlk : ks.length = kws.length := by
    have := congrArg List.length hks
    simpa using this.symm
  have st : starEach (e :: es) X.env = (false, eval e X.env) :: starEach es X.env := star_cons (by
    unfold noStars at ns
    rw [List.all_cons, Bool.and_eq_true] at ns
    exact ns.1)
  refine PE.w (pe_callN F hr hg hm hk (kbn_perm (perm := perm) hb) pass0 ha hkw k1 k2 hdb st (any_split (α := Unit) (stars_none ns) k3)) ?_
  rintro σV H Q ⟨σ, h, ρ, s, q⟩
  refine ⟨σ, h, ρ, s, ?_⟩
  cases e1 : f σ h with
  | stuck =>
    dsimp only at q
    rw [e1] at q
    exact False.elim q
  | ok ds h1 =>
    dsimp only at q
    rw [e1] at q
    intro vs H1 ρ1 s1 k1 r1
    refine ⟨σ, h1, ρ1, s1, ?_⟩
    cases e2 : g σ h1 with
    | stuck =>
      rw [Res.bind_ok, e2] at q
      exact False.elim q
    | ok zs h2 =>
      rw [Res.bind_ok, e2] at q
      intro ws H2 ρ2 s2 k2 r2
      refine ⟨?_, ?_, sp_of hn s2 (k1.trans k2) (permV_rel (r1.mono k2) r2 perm) q⟩
      · rw [← r1.length, hl2 _ _ _ _ e1, hl]
      · rw [← r2.length, hl3 _ _ _ _ e2, hlk]
theorem pe_callk0D {x : Str} {p : Pos} {kws : List Keyword} {ks : List Str} {perm : List Nat} {g : Sg → Hm → Res (List D)} {den : List D → Hm → Res D} (c : CallKOk X x den 0 ks perm) (hg : Gl X x) (hdb : (x == ("__debug__" : Str)) = false)
    (hkw : PK X kws (tA X.K g)) (hks : kws.map (·.arg) = ks.map some) (hl3 : ∀ σ h ds h', g σ h = .ok ds h' → ds.length = kws.length) :
    PE X (.Call (.Name x p) [] kws pos) (tE X.K fun σ h => (g σ h).bind fun zs h2 => den (permV perm D.non [] zs) h2) := by
  obtain ⟨fa, fd, ps, k, F, hr, hm, hk, hb, hn⟩ := c.ex
  obtain ⟨k1, k2, k3⟩ := kw_all (env := X.env) (pos := pos) hks
  have hlk : ks.length = kws.length := by
    have := congrArg List.length hks
    simpa using this.symm
  refine ⟨fun pins s σV H Q I ⟨σ, h, ρ, sr, q⟩ => ?_⟩
  refine wpAny_Call_Name_kw (ld_glob I hg hm ?_ hdb)
  refine PySem.W.callWith_KW0 (h₀ := X.base) I.ok.mod.kin hk k1 ?_ (any_split (α := Unit) (by rfl) k3)
  have q0 : tA X.K g σV H fun zs H2 => zs.length = ks.length ∧ spD X.K ps.length den (permV perm V.non [] zs) H2 Q E0 := by
    refine ⟨σ, h, ρ, sr, ?_⟩
    cases e2 : g σ h with
    | stuck =>
      dsimp only at q
      rw [e2] at q
      exact False.elim q
    | ok zs h2 =>
      dsimp only at q
      rw [e2, Res.bind_ok] at q
      intro ws H2 ρ2 s2 k2 r2
      exact ⟨by rw [← r2.length, hl3 _ _ _ _ e2, hlk], sp_of hn s2 k2 (permV_rel .nil r2 perm) q⟩
  refine thn (hkw.run pos pins s σV H _ I q0) fun ws s2 ⟨zs, H2, I2, rz, l2, q2⟩ => ⟨I2.kIn, ?_⟩
  rw [k2]
  exact run_fnN (us := []) (vs := []) F hr (kbn_perm (perm := perm) hb) pass0 I2 .nil rz rfl l2 q2
end

/-! Mini 9: what is walked, targets, comprehensions. -/

/-- an iterator walks the items -/
def ItR (K : PySem.W.Frag) (J : L2.It) (xs : List D) (h : Hm) (ρ : List Addr) (H : Hp) : Prop := ∀ h2 ρ2 H2, HR K h2 ρ2 H2 → Kp h ρ H h2 ρ2 H2 →
  (∀ (i : Nat) (d : D), xs[i]? = some d → J.go i H2 ∧ ∀ x H3, J.yld i H2 x H3 → HR K h2 ρ2 H3 ∧ Kp h2 ρ2 H2 h2 ρ2 H3 ∧ Rel K h2 ρ2 H3 d x) ∧ J.stop xs.length H2
def tI (K : PySem.W.Frag) (f : Sg → Hm → Res (List D)) : TI := fun σV H R => ∃ σ h ρ, SR K σ h ρ σV H ∧ (f σ h).wp fun xs h' => ∀ J H' ρ', SR K σ h' ρ' σV H' → Kp h ρ H h' ρ' H' → ItR K J xs h' ρ' H' → R J H'
theorem PI.w {X : Cx} {tg it : Expr} {t t' : TI} (p : PI X tg it t) (w : ∀ σ H R, t' σ H R → t σ H R) : PI X tg it t' := ⟨fun pins s σ H R I q => p.run pins s σ H R I (w σ H R q)⟩
section
variable {X : Cx} {pos : Pos} {tg : Expr}
theorem pi_seq {l : Expr} {tl : TE} (hl : PE X l tl) : PI X tg l (fun σ H R => tl σ H fun x H1 => ∃ a, x = .ref a ∧ (((∃ xs, SqL X.K H1 a xs) ∧ R (Itl X.K a) H1) ∨ ((∃ xs, SqT X.K H1 a xs) ∧ R (Itt X.K a) H1))) := by
  refine ⟨fun pins s σ H R I h => ?_⟩
  refine thn (hl.run pins s σ H _ I h) fun v s1 ⟨x, H1, I1, r1, q1⟩ => ?_
  obtain ⟨a, e, q⟩ := q1
  subst e
  cases r1
  have hf : ∀ b ∈ [s1.heap.objs.size], FpOk X pins H1 b := fun b hb => by
    have e : b = s1.heap.objs.size := by simpa using hb
    subst e
    exact I1.fpOk (Nat.le_refl _) (I1.hok.fresh (Nat.le_refl _))
  rcases q with ⟨⟨xs, hq⟩, q⟩ | ⟨⟨xs, hq⟩, q⟩
  · obtain ⟨its, rv, p, hz⟩ := I1.list hq
    refine wpAny_pyIter_list p.isList ?_
    exact ⟨s1.heap.objs.size, [s1.heap.objs.size], _, _, H1, rfl, I1.kept (t' := s1.toks) fun b o e => Heap.get?_push_of_some _ e, turn_list a _, ⟨_, Heap.get?_push_size _ rfl, rfl, rfl⟩, hf, q⟩
  · obtain ⟨its, rv, p, hz⟩ := I1.tuple hq
    refine wpAny_pyIter_tuple (show s1.heap.IsTuple a its.toArray from p) ?_
    exact ⟨s1.heap.objs.size, [s1.heap.objs.size], _, _, H1, rfl, I1.kept (t' := s1.toks) fun b o e => Heap.get?_push_of_some _ e, turn_tuple a _, ⟨_, Heap.get?_push_size _ rfl, rfl, rfl⟩, hf, q⟩
theorem itR_list {K : PySem.W.Frag} {h : Hm} {ρ : List Addr} {H : Hp} {a : Addr} {xs : List D} (r : Rel K h ρ H (.lst xs) (.ref a)) : ItR K (Itl K a) xs h ρ H := by
  intro h2 ρ2 H2 hr k
  have r2 := RD.mono k r
  cases r2 with
  | @lst _ _ vs l q =>
    refine ⟨fun i d e => ?_, vs, l.sq, by rw [q.length]; exact Nat.le_refl _⟩
    obtain ⟨v, e1, e2⟩ := q.get e
    refine ⟨⟨vs, v, l.sq, e1⟩, ?_⟩
    rintro x H3 ⟨rfl, y⟩
    have e3 := y vs l.sq
    rw [e1] at e3
    cases e3
    exact ⟨hr, Kps.refl, e2⟩
theorem itR_tup {K : PySem.W.Frag} {h : Hm} {ρ : List Addr} {H : Hp} {a : Addr} {xs : List D} (r : Rel K h ρ H (.tup xs) (.ref a)) : ItR K (Itt K a) xs h ρ H := by
  intro h2 ρ2 H2 hr k
  have r2 := RD.mono k r
  cases r2 with
  | @tup _ _ vs l q =>
    refine ⟨fun i d e => ?_, vs, l.sq, by rw [q.length]; exact Nat.le_refl _⟩
    obtain ⟨v, e1, e2⟩ := q.get e
    refine ⟨⟨vs, v, l.sq, e1⟩, ?_⟩
    rintro x H3 ⟨rfl, y⟩
    have e3 := y vs l.sq
    rw [e1] at e3
    cases e3
    exact ⟨hr, Kps.refl, e2⟩
theorem pi_seqD {l : Expr} {f : Sg → Hm → Res D} (hl : PE X l (tE X.K f)) : PI X tg l (tI X.K fun σ h => (f σ h).bind itD) := by
  refine PI.w (pi_seq hl) fun σV H R ⟨σ, h, ρ, s, q⟩ => ?_
  refine tE_of s q fun d h1 v H1 ρ1 s1 k1 r1 q => ?_
  cases d with
  | lst xs =>
    have r0 := r1
    cases r1 with
    | @lst a _ vs l rr => exact ⟨a, rfl, .inl ⟨⟨vs, l.sq⟩, q _ _ _ s1 k1 (itR_list r0)⟩⟩
  | tup xs =>
    have r0 := r1
    cases r1 with
    | @tup a _ vs l rr => exact ⟨a, rfl, .inr ⟨⟨vs, l.sq⟩, q _ _ _ s1 k1 (itR_tup r0)⟩⟩
  | _ => exact False.elim q
theorem rngD_get : ∀ (n : Nat) (lo : Int) (i : Nat) (d : D), (rngD lo n)[i]? = some d → i < n ∧ d = .int (lo + i)
  | 0, _, _, _, e => by simp [rngD] at e
  | n + 1, lo, 0, d, e => by
    have e : some (D.int lo) = some d := e
    cases e
    exact ⟨Nat.succ_pos _, by simp⟩
  | n + 1, lo, i + 1, d, e => by
    have e : (rngD (lo + 1) n)[i]? = some d := by simpa [rngD] using e
    obtain ⟨h1, h2⟩ := rngD_get n (lo + 1) i d e
    refine ⟨Nat.succ_lt_succ h1, ?_⟩
    rw [h2]
    congr 1
    omega
theorem rngD_length : ∀ (n : Nat) (lo : Int), (rngD lo n).length = n
  | 0, _ => rfl
  | n + 1, lo => by simp [rngD, rngD_length n]
theorem itR_rng {K : PySem.W.Frag} {h : Hm} {ρ : List Addr} {H : Hp} {lo : Int} {n : Nat} : ItR K (Itr lo n) (rngD lo n) h ρ H := by
  intro h2 ρ2 H2 hr k
  refine ⟨fun i d e => ?_, by rw [rngD_length]; exact Nat.le_refl _⟩
  obtain ⟨e1, rfl⟩ := rngD_get n lo i d e
  refine ⟨e1, ?_⟩
  rintro x H3 ⟨rfl, rfl⟩
  exact ⟨hr, Kps.refl, .int _⟩
theorem smallI_ok {i : Int} (h : smallI i = true) : -(2 ^ 62) ≤ i ∧ i < 2 ^ 62 := by
  unfold smallI at h
  rw [Bool.and_eq_true] at h
  exact ⟨of_decide_eq_true h.1, of_decide_eq_true h.2⟩
theorem pi_rng1D {a : Expr} {p : Pos} {f : Sg → Hm → Res D} (hg : Gl X "range") (hm : X.mg "range" = none) (ha : PE X a (tE X.K f)) (ns : notStar a = true) :
    PI X tg (.Call (.Name "range" p) [a] [] pos) (tI X.K fun σ h => (f σ h).bind fun x h1 => match x with
    | .int j => .guard (smallI j) (.ok (rngD 0 j.toNat) h1)
    | _ => .stuck) := by
  refine PI.w (pi_range1 hg hm (pa_cons ha pa_nil (star_cons ns)) (star_cons ns)) fun σV H R ⟨σ, h, ρ, s, q⟩ => ?_
  refine tE_of s q fun d h1 v H1 ρ1 s1 k1 r1 q => ?_
  cases d with
  | int j =>
    obtain ⟨c, q⟩ := Res.wp_guard q
    obtain ⟨c1, c2⟩ := smallI_ok c
    exact ⟨j, by rw [rI_int r1], c1, c2, q _ _ _ s1 k1 itR_rng⟩
  | _ => exact False.elim q
theorem pi_rng2D {a b : Expr} {p : Pos} {f g : Sg → Hm → Res D} (hg : Gl X "range") (hm : X.mg "range" = none) (ha : PE X a (tE X.K f)) (hb : PE X b (tE X.K g)) (ns : notStar a = true) (ns2 : notStar b = true) :
    PI X tg (.Call (.Name "range" p) [a, b] [] pos) (tI X.K fun σ h => (f σ h).bind fun x h1 => (g σ h1).bind fun y h2 => match x, y with
    | .int i, .int j => .guard (smallI i && smallI j) (.ok (rngD i (j - i).toNat) h2)
    | _, _ => .stuck) := by
  refine PI.w (pi_range2 hg hm (pa_cons ha (pa_cons hb pa_nil (star_cons ns2)) (star_cons ns)) (by rw [star_cons ns, star_cons ns2] <;> rfl) (star_cons ns2)) fun σV H R ⟨σ, h, ρ, s, q⟩ => ?_
  refine tE_of s q fun d h1 v H1 ρ1 s1 k1 r1 q => ?_
  refine tE_of s1 q fun e h2 w H2 ρ2 s2 k2 r2 q => ?_
  cases d with
  | int i =>
    cases e with
    | int j =>
      obtain ⟨c, q⟩ := Res.wp_guard q
      rw [Bool.and_eq_true] at c
      obtain ⟨c1, c2⟩ := smallI_ok c.1
      obtain ⟨c3, c4⟩ := smallI_ok c.2
      exact ⟨i, j, by rw [rI_int r1, rI_int r2], ⟨c1, c2, c3, c4⟩, q _ _ _ s2 (k1.trans k2) itR_rng⟩
    | _ => exact False.elim q
  | _ => exact False.elim q

/-! reversed, enumerate, zip -/
theorem itR_rev {K : PySem.W.Frag} {h : Hm} {ρ : List Addr} {H : Hp} {a : Addr} {xs : List D} {n : Nat} (hn : xs.length = n) (r : Rel K h ρ H (.lst xs) (.ref a)) : ItR K (Itv K a n) xs.reverse h ρ H := by
  intro h2 ρ2 H2 hr k
  have r2 := RD.mono k r
  cases r2 with
  | @lst _ _ vs l q =>
    refine ⟨fun i d e => ?_, by rw [List.length_reverse, hn]; exact Nat.le_refl _⟩
    have hi : i < xs.length := by
      have := (List.getElem?_eq_some_iff.mp e).1
      rwa [List.length_reverse] at this
    rw [List.getElem?_reverse hi, hn] at e
    obtain ⟨v, e1, e2⟩ := q.get e
    refine ⟨⟨by omega, vs, v, l.sq, e1⟩, ?_⟩
    rintro x H3 ⟨rfl, y⟩
    have e3 := y vs l.sq
    rw [e1] at e3
    cases e3
    exact ⟨hr, Kps.refl, e2⟩
theorem itR_revT {K : PySem.W.Frag} {h : Hm} {ρ : List Addr} {H : Hp} {a : Addr} {xs : List D} {n : Nat} (hn : xs.length = n) (r : Rel K h ρ H (.tup xs) (.ref a)) : ItR K (RT.ItvT K a n) xs.reverse h ρ H := by
  intro h2 ρ2 H2 hr k
  have r2 := RD.mono k r
  cases r2 with
  | @tup _ _ vs l q =>
    refine ⟨fun i d e => ?_, by rw [List.length_reverse, hn]; exact Nat.le_refl _⟩
    have hi : i < xs.length := by
      have := (List.getElem?_eq_some_iff.mp e).1
      rwa [List.length_reverse] at this
    rw [List.getElem?_reverse hi, hn] at e
    obtain ⟨v, e1, e2⟩ := q.get e
    refine ⟨⟨by omega, vs, v, l.sq, e1⟩, ?_⟩
    rintro x H3 ⟨rfl, y⟩
    have e3 := y vs l.sq
    rw [e1] at e3
    cases e3
    exact ⟨hr, Kps.refl, e2⟩
theorem pi_rvsD {l : Expr} {p : Pos} {f : Sg → Hm → Res D} (hg : Gl X "reversed") (hm : X.mg "reversed" = none) (hl : PE X l (tE X.K f)) (ns : notStar l = true) : PI X tg (.Call (.Name "reversed" p) [l] [] pos) (tI X.K fun σ h => (f σ h).bind fun x h1 => (itD x h1).bind fun xs h2 => .ok xs.reverse h2) := by
  refine PI.w (RT.pi_revA hg hm hl (star_cons ns)) fun σV H R ⟨σ, h, ρ, s, q⟩ => ?_
  refine tE_of s q fun d h1 v H1 ρ1 s1 k1 r1 q => ?_
  cases d with
  | lst xs =>
    have r0 := r1
    cases r1 with
    | @lst a _ vs l rr => exact ⟨a, vs, rfl, .inl ⟨l.sq, q _ _ _ s1 k1 (itR_rev rr.length r0)⟩⟩
  | tup xs =>
    have r0 := r1
    cases r1 with
    | @tup a _ vs l rr => exact ⟨a, vs, rfl, .inr ⟨l.sq, q _ _ _ s1 k1 (itR_revT rr.length r0)⟩⟩
  | _ => exact False.elim q
theorem enumD_get : ∀ (xs : List D) (k i : Nat) (d : D), (enumD k xs)[i]? = some d → ∃ x, xs[i]? = some x ∧ d = .wtup [.int (k + i : Nat), x]
  | [], _, _, _, e => by simp [enumD] at e
  | x :: xs, k, 0, d, e => by
    have e : some (D.wtup [.int k, x]) = some d := e
    cases e
    exact ⟨x, rfl, rfl⟩
  | x :: xs, k, i + 1, d, e => by
    have e : (enumD (k + 1) xs)[i]? = some d := by simpa [enumD] using e
    obtain ⟨y, h1, h2⟩ := enumD_get xs (k + 1) i d e
    refine ⟨y, by simpa using h1, ?_⟩
    rw [h2]
    congr 3
    omega
theorem enumD_length : ∀ (xs : List D) (k : Nat), (enumD k xs).length = xs.length
  | [], _ => rfl
  | x :: xs, k => by simp [enumD, enumD_length xs]
theorem itR_enum {K : PySem.W.Frag} {h : Hm} {ρ : List Addr} {H : Hp} {a : Addr} {xs : List D} (r : Rel K h ρ H (.lst xs) (.ref a)) : ItR K (Ite K a) (enumD 0 xs) h ρ H := by
  intro h2 ρ2 H2 hr k
  have r2 := RD.mono k r
  cases r2 with
  | @lst _ _ vs l q =>
    refine ⟨fun i d e => ?_, vs, l.sq, by rw [enumD_length, q.length]; exact Nat.le_refl _⟩
    obtain ⟨y, ey, rfl⟩ := enumD_get _ _ _ _ e
    obtain ⟨v, e1, e2⟩ := q.get ey
    refine ⟨⟨vs, v, l.sq, e1⟩, ?_⟩
    rintro x H3 ⟨T, z, rfl, hT, rfl, y3⟩
    have e3 := y3 vs l.sq
    rw [e1] at e3
    cases e3
    refine ⟨hr.new hT, Kp.new hr hT, Rel.newW hr hT (.cons ?_ (.cons e2 .nil))⟩
    rw [Nat.zero_add]
    exact .int _
theorem pi_enmD {l : Expr} {p tpos : Pos} {elts : List Expr} {kk : Nat} {f : Sg → Hm → Res D} (hg : Gl X "enumerate") (hm : X.mg "enumerate" = none) (hl : PE X l (tE X.K f)) (ns : notStar l = true) : PI X (.Tuple elts kk tpos) (.Call (.Name "enumerate" p) [l] [] pos) (tI X.K fun σ h => (f σ h).bind fun x h1 => match x with
    | .lst xs => .ok (enumD 0 xs) h1
    | _ => .stuck) := by
  refine PI.w (pi_enum hg hm (pa_cons hl pa_nil (star_cons ns)) (star_cons ns)) fun σV H R ⟨σ, h, ρ, s, q⟩ => ?_
  refine tE_of s q fun d h1 v H1 ρ1 s1 k1 r1 q => ?_
  cases d with
  | lst xs =>
    have r0 := r1
    cases r1 with
    | @lst a _ vs l rr => exact ⟨a, vs, rfl, l.sq, q _ _ _ s1 k1 (itR_enum r0)⟩
  | _ => exact False.elim q
theorem zipD_get : ∀ (xs ys : List D) (i : Nat) (d : D), (zipD xs ys)[i]? = some d → ∃ x y, xs[i]? = some x ∧ ys[i]? = some y ∧ d = .wtup [x, y]
  | [], _, _, _, e => by simp [zipD] at e
  | _ :: _, [], _, _, e => by simp [zipD] at e
  | x :: xs, y :: ys, 0, d, e => by
    have e : some (D.wtup [x, y]) = some d := e
    cases e
    exact ⟨x, y, rfl, rfl, rfl⟩
  | x :: xs, y :: ys, i + 1, d, e => by
    have e : (zipD xs ys)[i]? = some d := by simpa [zipD] using e
    obtain ⟨a, b, h1, h2, h3⟩ := zipD_get xs ys i d e
    exact ⟨a, b, by simpa using h1, by simpa using h2, h3⟩
theorem zipD_length : ∀ (xs ys : List D), xs.length ≤ (zipD xs ys).length ∨ ys.length ≤ (zipD xs ys).length
  | [], _ => .inl (Nat.zero_le _)
  | _ :: _, [] => .inr (Nat.zero_le _)
  | x :: xs, y :: ys => by
    rcases zipD_length xs ys with h | h
    · exact .inl (by simp [zipD]; exact h)
    · exact .inr (by simp [zipD]; exact h)
theorem itR_zip {K : PySem.W.Frag} {h : Hm} {ρ : List Addr} {H : Hp} {a b : Addr} {xs ys : List D} (r : Rel K h ρ H (.lst xs) (.ref a)) (rb : Rel K h ρ H (.lst ys) (.ref b)) : ItR K (Itz K a b) (zipD xs ys) h ρ H := by
  intro h2 ρ2 H2 hr k
  have r2 := RD.mono k r
  have rb2 := RD.mono k rb
  cases r2 with
  | @lst _ _ vs l q =>
    cases rb2 with
    | @lst _ _ ws l2 q2 =>
      refine ⟨fun i d e => ?_, vs, ws, l.sq, l2.sq, by rw [← q.length, ← q2.length]; exact zipD_length xs ys⟩
      obtain ⟨x, y, ex, ey, rfl⟩ := zipD_get _ _ _ _ e
      obtain ⟨v, e1, e2⟩ := q.get ex
      obtain ⟨w, f1, f2⟩ := q2.get ey
      refine ⟨⟨vs, ws, v, w, l.sq, l2.sq, e1, f1⟩, ?_⟩
      rintro x H3 ⟨T, z, z2, rfl, hT, rfl, y3, y4⟩
      have e3 := y3 vs l.sq
      have e4 := y4 ws l2.sq
      rw [e1] at e3
      rw [f1] at e4
      cases e3
      cases e4
      exact ⟨hr.new hT, Kp.new hr hT, Rel.newW hr hT (.cons e2 (.cons f2 .nil))⟩
theorem itR_zipT {K : PySem.W.Frag} {h : Hm} {ρ : List Addr} {H : Hp} {a b : Addr} {xs ys : List D} (r : Rel K h ρ H (.tup xs) (.ref a)) (rb : Rel K h ρ H (.tup ys) (.ref b)) : ItR K (RZ.ItzT K a b) (zipD xs ys) h ρ H := by
  intro h2 ρ2 H2 hr k
  have r2 := RD.mono k r
  have rb2 := RD.mono k rb
  cases r2 with
  | @tup _ _ vs l q =>
    cases rb2 with
    | @tup _ _ ws l2 q2 =>
      refine ⟨fun i d e => ?_, vs, ws, l.sq, l2.sq, by rw [← q.length, ← q2.length]; exact zipD_length xs ys⟩
      obtain ⟨x, y, ex, ey, rfl⟩ := zipD_get _ _ _ _ e
      obtain ⟨v, e1, e2⟩ := q.get ex
      obtain ⟨w, f1, f2⟩ := q2.get ey
      refine ⟨⟨vs, ws, v, w, l.sq, l2.sq, e1, f1⟩, ?_⟩
      rintro x H3 ⟨T, z, z2, rfl, hT, rfl, y3, y4⟩
      have e3 := y3 vs l.sq
      have e4 := y4 ws l2.sq
      rw [e1] at e3
      rw [f1] at e4
      cases e3
      cases e4
      exact ⟨hr.new hT, Kp.new hr hT, Rel.newW hr hT (.cons e2 (.cons f2 .nil))⟩
theorem pi_zpD {l l2 : Expr} {p tpos : Pos} {elts : List Expr} {kk : Nat} {f g : Sg → Hm → Res D} (hg : Gl X "zip") (hm : X.mg "zip" = none) (hl : PE X l (tE X.K f)) (hl2 : PE X l2 (tE X.K g)) (ns : notStar l = true) (ns2 : notStar l2 = true) : PI X (.Tuple elts kk tpos) (.Call (.Name "zip" p) [l, l2] [] pos) (tI X.K fun σ h => (f σ h).bind fun x h1 => (g σ h1).bind fun y h2 => match x, y with
    | .lst xs, .lst ys => .ok (zipD xs ys) h2
    | .tup xs, .tup ys => .ok (zipD xs ys) h2
    | _, _ => .stuck) := by
  refine PI.w (RZ.pi_zipA hg hm (pa_cons hl (pa_cons hl2 pa_nil (star_cons ns2)) (star_cons ns)) (star_cons ns) (by rw [star_cons ns2] <;> rfl)) fun σV H R ⟨σ, h, ρ, s, q⟩ => ?_
  refine tE_of s q fun d h1 v H1 ρ1 s1 k1 r1 q => ?_
  refine tE_of s1 q fun d2 h2 v2 H2 ρ2 s2 k2 r2 q => ?_
  have r1 := r1.mono k2
  cases d with
  | lst xs =>
    cases d2 with
    | lst ys =>
      have r0 := r1
      have r00 := r2
      cases r1 with
      | @lst a _ vs l rr =>
        cases r2 with
        | @lst b _ ws l2 rr2 => exact ⟨a, b, vs, ws, rfl, .inl ⟨l.sq, l2.sq, q _ _ _ s2 (k1.trans k2) (itR_zip r0 r00)⟩⟩
    | _ => exact False.elim q
  | tup xs =>
    cases d2 with
    | tup ys =>
      have r0 := r1
      have r00 := r2
      cases r1 with
      | @tup a _ vs l rr =>
        cases r2 with
        | @tup b _ ws l2 rr2 => exact ⟨a, b, vs, ws, rfl, .inr ⟨l.sq, l2.sq, q _ _ _ s2 (k1.trans k2) (itR_zipT r0 r00)⟩⟩
    | _ => exact False.elim q
  | _ => exact False.elim q

/-! ### targets -/
def tgIx : Tg → List Nat
  | .v i => [i]
  | .tup is => is
def tG (K : PySem.W.Frag) (tg : Tg) : TG := fun v σV H Q => ∃ σ h ρ d σ', SR K σ h ρ σV H ∧ Rel K h ρ H d v ∧ asgD tg d σ = some σ' ∧ ∀ σV', SR K σ' h ρ σV' H → (∀ vs : List Nat, (∀ i ∈ tgIx tg, i ∈ vs) → L2.wipe σV' vs = L2.wipe σV vs) → Q σV' H
theorem PG.w {t t' : TG} (p : PG X tg t) (w : ∀ v σ H Q, t' v σ H Q → t v σ H Q) : PG X tg t' := ⟨fun pins s σ H v u Q I r q => p.run pins s σ H v u Q I r (w v σ H Q q)⟩
theorem PGs.w {tgs : List Expr} {t t' : TGs} (p : PGs X tgs t) (w : ∀ v σ H Q, t' v σ H Q → t v σ H Q) : PGs X tgs t' := ⟨fun pins s σ H v u Q I r q => p.run pins s σ H v u Q I r (w v σ H Q q)⟩
theorem wipe_set {i : Nat} {x : Option V} {σV : L2.St} : ∀ {vs : List Nat}, i ∈ vs → L2.wipe (σV.set i x) vs = L2.wipe σV vs
  | v :: vs, h => by
    unfold L2.wipe
    by_cases hv : i ∈ vs
    · rw [wipe_set hv]
    · have e : i = v := by
        rcases List.mem_cons.mp h with e | e
        · exact e
        · exact absurd e hv
      subst e
      have key : ∀ vs : List Nat, i ∉ vs → (L2.wipe (σV.set i x) vs).set i none = (L2.wipe σV vs).set i none := by
        intro vs
        induction vs with
        | nil => intro _; unfold L2.wipe; exact List.set_set ..
        | cons w ws ih =>
          intro hn
          unfold L2.wipe
          have h1 : i ≠ w := fun e => hn (by rw [e]; exact List.mem_cons_self)
          have h2 : i ∉ ws := fun e => hn (List.mem_cons_of_mem _ e)
          rw [List.set_comm _ _ (Ne.symm h1), ih h2, List.set_comm _ _ h1]
      exact key vs hv
theorem pg_vD {i : Nat} {x : Str} (hN : X.N.Nodup) (hi : X.N[i]? = some x) (hx : Loc X.env.scope x) (hf : X.fn x = true ∨ X.env.scope.names.lookup x = some .local) : PG X (.Name x pos) (tG X.K (.v i)) := by
  refine PG.w (pg_name hN hi hx hf) fun v σV H Q ⟨σ, h, ρ, d, σ', s, r, e, q⟩ => ?_
  have e' : some (σ.set i (some d)) = some σ' := e
  cases e'
  exact q _ ⟨s.hp, s.sl.set r⟩ fun vs hv => wipe_set (hv i (by simp [tgIx]))
def tGs (K : PySem.W.Frag) (is : List Nat) : TGs := fun vs σV H Q => ∃ σ h ρ ds σ', SR K σ h ρ σV H ∧ Rels K h ρ H ds vs ∧ setAll is ds σ = some σ' ∧ ∀ σV', SR K σ' h ρ σV' H → (∀ vs : List Nat, (∀ i ∈ is, i ∈ vs) → L2.wipe σV' vs = L2.wipe σV vs) → Q σV' H
/-- names as targets -/
inductive NmT (X : Cx) : List Nat → List Expr → Prop where
  | nil : NmT X [] []
  | cons {i : Nat} {x : Str} {pos : Pos} {is : List Nat} {es : List Expr} : X.N[i]? = some x → Loc X.env.scope x → (X.fn x = true ∨ X.env.scope.names.lookup x = some .local) → NmT X is es → NmT X (i :: is) (.Name x pos :: es)
theorem pgs_D (hN : X.N.Nodup) : ∀ {is : List Nat} {es : List Expr}, NmT X is es → PGs X es (tGs X.K is)
  | _, _, .nil => PGs.w pgs_nil fun vs σV H Q ⟨σ, h, ρ, ds, σ', s, r, e, q⟩ => by
    cases ds with
    | nil =>
      cases r
      cases e
      exact ⟨rfl, q _ s fun _ _ => rfl⟩
    | cons a b => cases e
  | _, _, .cons (i := i) (x := x) (pos := pos) (is := is) (es := es) h1 h2 h3 ht => PGs.w (pgs_cons (pg_vD (pos := pos) hN h1 h2 h3) (pgs_D hN ht) (by rfl)) fun vs σV H Q ⟨σ, h, ρ, ds, σ', s, r, e, q⟩ => by
    cases ds with
    | nil => cases e
    | cons d ds =>
      cases r with
      | cons a b =>
        refine ⟨_, _, rfl, σ, h, ρ, d, _, s, a, rfl, fun σV1 s1 w1 => ⟨_, h, ρ, ds, σ', s1, b, e, fun σV2 s2 w2 => q σV2 s2 fun vs hv => ?_⟩⟩
        rw [w2 vs fun j hj => hv j (List.mem_cons_of_mem _ hj), w1 vs fun j hj => hv j (by
          have e : j = i := by simpa [tgIx] using hj
          rw [e]
          exact List.mem_cons_self)]
theorem NmT.len : ∀ {is : List Nat} {es : List Expr}, NmT X is es → (assignEach es X.env).length = is.length ∧ (assignEach es X.env).findIdx? (·.1) = none
  | _, _, .nil => ⟨rfl, rfl⟩
  | _, _, .cons (x := x) (pos := pos) (es := es) _ _ _ ht => by
    obtain ⟨a, b⟩ := NmT.len ht
    refine ⟨?_, ?_⟩
    · show (assignEach es X.env).length + 1 = _
      rw [a]; rfl
    · show List.findIdx? (·.1) ((false, assign (.Name x pos) X.env) :: assignEach es X.env) = none
      rw [List.findIdx?_cons]
      simp [b]
theorem setAll_len : ∀ {is : List Nat} {ds : List D} {σ σ' : Sg}, setAll is ds σ = some σ' → ds.length = is.length
  | [], [], _, _, _ => rfl
  | i :: is, d :: ds, _, _, e => by
    have := setAll_len (is := is) (ds := ds) e
    simp [this]
  | [], _ :: _, _, _, e => by cases e
  | _ :: _, [], _, _, e => by cases e
theorem pg_or {t t' : TG} (p : PG X tg t) (p' : PG X tg t') : PG X tg (fun v σ H Q => t v σ H Q ∨ t' v σ H Q) := ⟨fun pins s σ H v u Q I r q => by
  rcases q with q | q
  · exact p.run pins s σ H v u Q I r q
  · exact p'.run pins s σ H v u Q I r q⟩
theorem pg_tupD {is : List Nat} {es : List Expr} {k : Nat} (hN : X.N.Nodup) (hc : X.calm = true) (ht : NmT X is es) : PG X (.Tuple es k pos) (tG X.K (.tup is)) := by
  obtain ⟨l1, l2⟩ := ht.len
  refine PG.w (pg_or (pg_tup hc (pgs_D hN ht) l1 l2) (pg_unl hc (pgs_D hN ht) l1 l2)) fun v σV H Q ⟨σ, h, ρ, d, σ', s, r, e, q⟩ => ?_
  cases r with
  | @tup a xs vs l rr => exact .inl ⟨a, vs, rfl, l.sq, by rw [← rr.length]; exact setAll_len e, σ, h, ρ, xs, σ', s, rr, e, q⟩
  | @wtup a xs vs l rr => exact .inl ⟨a, vs, rfl, l.sq, by rw [← rr.length]; exact setAll_len e, σ, h, ρ, xs, σ', s, rr, e, q⟩
  | @lst a xs vs l rr => exact .inr ⟨a, vs, rfl, l.sq, by rw [← rr.length]; exact setAll_len e, σ, h, ρ, xs, σ', s, rr, e, q⟩
  | _ => cases e
end

/-! Mini 10: comprehensions. -/
section
variable {K : PySem.W.Frag}
mutual
theorem RD.isBelow {H : Hp} {ρ : List Addr} {M : Addr → Prop} {n : Nat} (hn : ρ.length = n) : ∀ {d : D} {v : V}, RD K H ρ M d v → belowD n d = true
  | .non, _, _ => rfl
  | .bl _, _, _ => rfl
  | .int _, _, _ => rfl
  | .str _, _, _ => rfl
  | .tup xs, _, h => by
    cases h with
    | tup l r => exact RDs.isBelow hn r
  | .lst xs, _, h => by
    cases h with
    | lst l r => exact RDs.isBelow hn r
  | .wtup xs, _, h => by
    cases h with
    | wtup l r => exact RDs.isBelow hn r
  | .ref k, _, h => by
    cases h with
    | ref e => exact decide_eq_true (by rw [← hn]; exact (List.getElem?_eq_some_iff.mp e).1)
theorem RDs.isBelow {H : Hp} {ρ : List Addr} {M : Addr → Prop} {n : Nat} (hn : ρ.length = n) : ∀ {ds : List D} {vs : List V}, RDs K H ρ M ds vs → belowDs n ds = true
  | [], _, _ => rfl
  | d :: ds, _, h => by
    cases h with
    | cons a b =>
      unfold belowDs
      rw [RD.isBelow hn a, RDs.isBelow hn b]
      rfl
end
mutual
theorem RD.down {H : Hp} {ρ ρ' : List Addr} {M M' : Addr → Prop} {n : Nat} (hρ : ∀ k a, k < n → ρ[k]? = some a → ρ'[k]? = some a) (hM : ∀ a, M' a → M a) : ∀ {d : D} {v : V}, belowD n d = true → RD K H ρ M d v → RD K H ρ' M' d v
  | .non, _, _, h => by cases h; exact .non
  | .bl _, _, _, h => by cases h; exact .bl _
  | .int _, _, _, h => by cases h; exact .int _
  | .str _, _, _, h => by cases h; exact .str _
  | .tup xs, _, b, h => by
    cases h with
    | tup l r =>
      refine .tup ?_ (RDs.down hρ hM b r)
      rcases l with ⟨o, l1, l2, l3⟩ | l
      · exact .inl ⟨o, l1, l2, fun m => l3 (hM _ m)⟩
      · exact .inr l
  | .lst xs, _, b, h => by
    cases h with
    | lst l r =>
      refine .lst ?_ (RDs.down hρ hM b r)
      rcases l with ⟨l1, l3⟩ | l
      · exact .inl ⟨l1, fun m => l3 (hM _ m)⟩
      · exact .inr l
  | .wtup xs, _, b, h => by
    cases h with
    | wtup l r => exact .wtup ⟨l.1, fun m => l.2 (hM _ m)⟩ (RDs.down hρ hM b r)
  | .ref k, _, b, h => by
    cases h with
    | ref e => exact .ref (hρ k _ (of_decide_eq_true b) e)
theorem RDs.down {H : Hp} {ρ ρ' : List Addr} {M M' : Addr → Prop} {n : Nat} (hρ : ∀ k a, k < n → ρ[k]? = some a → ρ'[k]? = some a) (hM : ∀ a, M' a → M a) : ∀ {ds : List D} {vs : List V}, belowDs n ds = true → RDs K H ρ M ds vs → RDs K H ρ' M' ds vs
  | [], _, _, h => by cases h; exact .nil
  | d :: ds, _, b, h => by
    unfold belowDs at b
    rw [Bool.and_eq_true] at b
    cases h with
    | cons x y => exact .cons (RD.down hρ hM b.1 x) (RDs.down hρ hM b.2 y)
end
/-- things laid behind are forgotten: the first ones stand as they stood -/
theorem HR.back {h h2 : Hm} {ρ ρ2 : List Addr} {H H2 : Hp} (r : HR K h ρ H) (r2 : HR K h2 ρ2 H2) (k : Kp h ρ H h2 ρ2 H2) (e : h2.take h.length = h) :
    HR K h ρ H2 ∧ Kp h ρ H h ρ H2 ∧ (∀ a, Mu ρ h a → Mu ρ2 h2 a) ∧ (∀ (i : Nat) (a : Addr), i < h.length → ρ2[i]? = some a → ρ[i]? = some a) := by
  have hget : ∀ (n : Nat) (o : MO), h[n]? = some o → h2[n]? = some o := fun n o q => by
    rw [← e] at q
    have hn : n < (h2.take h.length).length := (List.getElem?_eq_some_iff.mp q).1
    rw [List.length_take] at hn
    rw [List.getElem?_take_of_lt (by omega)] at q
    exact q
  have hM : ∀ a, Mu ρ h a → Mu ρ2 h2 a := fun a ⟨n, o, q1, q2, q3⟩ => ⟨n, o, k.ref n a q1, hget n o q2, q3⟩
  have hρ : ∀ (i : Nat) (a : Addr), i < h.length → ρ2[i]? = some a → ρ[i]? = some a := fun i a hi q => by
    obtain ⟨b, hb⟩ : ∃ b, ρ[i]? = some b := ⟨ρ[i]'(by rw [r.len]; exact hi), by simp [r.len, hi]⟩
    have := k.ref i b hb
    rw [q] at this
    cases this
    exact hb
  refine ⟨⟨r.len, r.nd, fun n o a q1 q2 => ?_⟩, ⟨fun a o q m => ?_, fun _ _ q => q⟩, hM, hρ⟩
  · have z := r2.obj n o a (hget n o q1) (k.ref n a q2)
    have z1 := r.obj n o a q1 q2
    cases o with
    | gone => exact z
    | lst xs =>
      obtain ⟨vs, z2, z3⟩ := z
      obtain ⟨vs1, _, z4⟩ := z1
      exact ⟨vs, z2, RDs.down hρ hM (RDs.isBelow r.len z4) z3⟩
  · obtain ⟨a1, a2⟩ := k.obj a o q m
    exact ⟨a1, m⟩
theorem wipe_wipe (σ : L2.St) : ∀ vs : List Nat, L2.wipe (L2.wipe σ vs) vs = L2.wipe σ vs := by
  intro vs
  apply List.ext_getElem?
  intro i
  by_cases hi : i ∈ vs
  · have key : ∀ (vs : List Nat) (τ : L2.St), i ∈ vs → (L2.wipe τ vs)[i]? = if i < τ.length then some none else none := by
      intro vs
      induction vs with
      | nil => intro τ h; cases h
      | cons v vs ih =>
        intro τ h
        unfold L2.wipe
        rw [List.getElem?_set]
        by_cases hv : v = i
        · subst hv
          rw [if_pos rfl, L2.wipe_length]
        · rw [if_neg hv]
          rcases List.mem_cons.mp h with e | e
          · exact absurd e.symm hv
          · exact ih τ e
    rw [key vs _ hi, key vs _ hi, L2.wipe_length]
  · rw [wipe_out hi]
end
section
variable {X : Cx} {pos : Pos} {tg : Expr}
theorem pts_nilD : PTs X [] (tT X.K fun _ h => .ok true h) := ⟨fun pins s σ H Q I ⟨σD, h, ρ, sr, q⟩ => pts_nil.run pins s σ H Q I (q H ρ sr Kps.refl)⟩
theorem tLcD {K : PySem.W.Frag} {fi : Sg → Hm → Res (List D)} {ft : Sg → Hm → Res Bool} {fe : Sg → Hm → Res D} {tgD : Tg} {mu : Bool} {own : List (Str × Nat)} (hown : ∀ i ∈ tgIx tgD, i ∈ own.map (·.2)) {σV : L2.St} {H : Hp} {Q : VK}
    (hq : tE K (fun σ h => (fi σ h).bind fun src h1 =>
    (compLoop (fun x h2 => match asgD tgD x (wipeD σ (own.map (·.2))) with
      | some σ' => (ft σ' h2).bind fun t h3 => match t with
        | true => (fe σ' h3).bind fun y h4 => .ok (some y) h4
        | false => .ok none h3
      | none => .stuck) h1.length src (h1 ++ [.lst []])).bind fun _ h2 => match listOf? h2 h1.length with
        | some ys => match mu with
          | true => .ok (.ref h1.length) h2
          | false => .ok (.lst ys) (endC h1 h2 ys)
        | none => .stuck) σV H Q) : tLc (tI K fi) (tG K tgD) (tT K ft) (tE K fe) (own.map (·.2)) σV H Q := by
  obtain ⟨σ, h, ρ, s, q⟩ := hq
  refine ⟨σ, h, ρ, s, Res.wp_mono (Res.wp_bind q) fun src h1 q J H1 ρ1 s1 k1 it La hD => ?_⟩
  -- the new list is shared while it grows
  have sP : SR K σ (h1 ++ [.lst []]) (ρ1 ++ [La]) σV (upd H1 La (.lst [])) := s1.push hD .nil
  have kP : Kp h1 ρ1 H1 (h1 ++ [.lst []]) (ρ1 ++ [La]) (upd H1 La (.lst [])) := Kp.push s1.hp hD
  have eD : (ρ1 ++ [La])[h1.length]? = some La := by rw [← s1.hp.len]; simp
  generalize hf : (fun (x : D) (h2 : Hm) => match asgD tgD x (wipeD σ (own.map (·.2))) with
      | some σ' => (ft σ' h2).bind fun t h3 => match t with
        | true => (fe σ' h3).bind fun y h4 => Res.ok (some y) h4
        | false => Res.ok none h3
      | none => Res.stuck) = f at q
  refine ⟨fun i m H2 => ∃ h2 ρ2, HR K h2 ρ2 H2 ∧ Kp (h1 ++ [.lst []]) (ρ1 ++ [La]) (upd H1 La (.lst [])) h2 ρ2 H2 ∧ m = src.length - i ∧ i ≤ src.length ∧
      ((compLoop f h1.length (src.drop i) h2).bind fun _ h2 => match listOf? h2 h1.length with
        | some ys => match mu with
          | true => Res.ok (D.ref h1.length) h2
          | false => Res.ok (D.lst ys) (endC h1 h2 ys)
        | none => Res.stuck).wp fun d h' => ∀ v H' ρ', SR K σ h' ρ' σV H' → Kp h ρ H h' ρ' H' → Rel K h' ρ' H' d v → Q v H',
    ⟨src.length, _, _, sP.hp, Kps.refl, by simp, Nat.zero_le _, by rw [List.drop_zero]; exact q⟩, ?_⟩
  rintro i m H2 ⟨h2, ρ2, r2, k2, rfl, hi, q⟩
  have sl2 : SlR K H2 ρ2 (Mu ρ2 h2) σ σV := sP.sl.mono k2
  have eD2 : ρ2[h1.length]? = some La := k2.ref _ _ eD
  obtain ⟨it1, it2⟩ := it h2 ρ2 H2 r2 (kP.trans k2)
  by_cases hlt : i < src.length
  · -- one turn
    have ex : src[i]? = some src[i] := List.getElem?_eq_getElem hlt
    rw [List.drop_eq_getElem_cons hlt] at q
    obtain ⟨go, yl⟩ := it1 i _ ex
    refine .inr ⟨go, _, fun H' n => ⟨src.length - (i + 1), by omega, n⟩, fun x H3 y => ?_⟩
    obtain ⟨r3, k3, rx⟩ := yl x H3 y
    unfold compLoop at q
    have q := Res.wp_bind (Res.wp_bind q)
    cases ea : asgD tgD src[i] (wipeD σ (own.map (·.2))) with
    | none =>
      rw [← hf] at q
      dsimp only at q
      rw [ea] at q
      exact False.elim q
    | some σ' =>
      have s3 : SR K (wipeD σ (own.map (·.2))) h2 ρ2 (L2.wipe σV (own.map (·.2))) H3 := ⟨r3, (sl2.mono k3).wipe _⟩
      refine ⟨_, h2, ρ2, src[i], σ', s3, rx, ea, fun σV' s4 w4 => ⟨by rw [w4 _ hown, wipe_wipe], ?_⟩⟩
      have ef : f src[i] h2 = (ft σ' h2).bind fun t h3 => match t with
        | true => (fe σ' h3).bind fun y h4 => Res.ok (some y) h4
        | false => Res.ok none h3 := by
          rw [← hf]
          dsimp only
          rw [ea]
      rw [ef] at q
      refine tT_of s4 q fun b h4 H4 ρ4 s5 k5 q => ?_
      have k4 := (k2.trans k3).trans k5
      cases b with
      | false =>
        refine iteF ?_
        exact ⟨h4, ρ4, s5.hp, k4, rfl, hlt, (by
          have q : ((compLoop f h1.length (src.drop (i + 1)) h4).bind _).wp _ := Res.bind_wp_of q
          exact q)⟩
      | true =>
        refine iteT ?_
        refine tE_of s5 q fun d h5 v H5 ρ5 s6 k6 r6 q => ?_
        have q : ((match listOf? h5 h1.length with
          | some acc => Res.guard (decide (acc.length < LIM)) (compLoop f h1.length (src.drop (i + 1)) (h5.set h1.length (.lst (acc ++ [d]))))
          | none => Res.stuck)).wp _ := q
        cases el : listOf? h5 h1.length with
        | none => rw [el] at q; exact False.elim q
        | some acc =>
          rw [el] at q
          obtain ⟨c, q⟩ := Res.wp_guard q
          have eD5 : ρ5[h1.length]? = some La := k6.ref _ _ (k4.ref _ _ eD)
          obtain ⟨vs, e5, rs5⟩ := s6.hp.ref eD5 el
          have eh := listOf_eq el
          refine ⟨vs, e5, by rw [← rs5.length]; exact lt_sz c, ?_⟩
          exact ⟨_, ρ5, s6.hp.write eD5 eh (rs5.append (.cons r6 .nil)), (k4.trans k6).trans (Kp.write eD5 eh), rfl, hlt, Res.bind_wp_of q⟩
  · have e : i = src.length := by omega
    subst e
    refine .inl ⟨it2, ?_⟩
    rw [List.drop_length] at q
    have q : (match listOf? h2 h1.length with
        | some ys => match mu with
          | true => Res.ok (D.ref h1.length) h2
          | false => Res.ok (D.lst ys) (endC h1 h2 ys)
        | none => Res.stuck).wp _ := q
    cases el : listOf? h2 h1.length with
    | none => rw [el] at q; exact False.elim q
    | some ys =>
      rw [el] at q
      cases mu with
      | true => exact q _ _ _ ⟨r2, sl2⟩ (k1.trans (kP.trans k2)) (.ref eD2)
      | false =>
        have q : (Res.ok (D.lst ys) (endC h1 h2 ys)).wp _ := q
        have eh := listOf_eq el
        have rc := r2.close eD2 eh
        have kc : Kp h2 ρ2 H2 (h2.set h1.length .gone) ρ2 H2 := Kp.close eD2 eh
        unfold endC at q
        split at q
        · rename_i hcond
          obtain ⟨⟨c1, c2⟩, c3⟩ := hcond
          obtain ⟨b1, b2, b3, b4⟩ := HR.back s1.hp r2 (kP.trans k2) c1
          obtain ⟨vs, e5, rs5⟩ := r2.ref eD2 el
          have nM : ¬ Mu ρ1 h1 La := s1.hp.fresh hD
          exact q _ _ _ (s1.of b1 b2) (k1.trans b2) (.lst (.inl ⟨.inl e5, nM⟩) (RDs.down b4 b3 c3 rs5))
        · exact q _ _ _ ⟨rc.1, sl2.mono kc⟩ (k1.trans ((kP.trans k2).trans kc)) rc.2
end

/-! Mini 11: whether a piece of the text is what the small language says. -/

/-! ### looking at a piece of syntax -/
def gNm : Expr → Option Str | .Name x _ => some x | _ => none
def gBin : Expr → Option (Expr × Operator × Expr) | .BinOp a o b _ => some (a, o, b) | _ => none
def gUn : Expr → Option (UnaryOp × Expr) | .UnaryOp o a _ => some (o, a) | _ => none
def gCmp : Expr → Option (Expr × List CmpOp × List Expr) | .Compare a os bs _ => some (a, os, bs) | _ => none
def gBool : Expr → Option (BoolOp × List Expr × Pos) | .BoolOp o vs p => some (o, vs, p) | _ => none
def gIf : Expr → Option (Expr × Expr × Expr) | .IfExp c a b _ => some (c, a, b) | _ => none
def gTup : Expr → Option (List Expr) | .Tuple es _ _ => some es | _ => none
def gLst : Expr → Option (List Expr) | .List es _ => some es | _ => none
def gSub : Expr → Option (Expr × Expr) | .Subscript a b _ => some (a, b) | _ => none
def gSlc : Expr → Option (Option Expr × Option Expr) | .Slice a b none _ => some (a, b) | _ => none
def gCst : Expr → Option Const | .Constant c _ _ => some c | _ => none
def gCall : Expr → Option (Str × List Expr × List Keyword) | .Call (.Name x _) es ks _ => some (x, es, ks) | _ => none
def gMeth : Expr → Option (Expr × Str × List Expr × Pos × Pos) | .Call (.Attribute o m ap) es [] cp => some (o, m, es, ap, cp) | _ => none
def gLc : Expr → Option (Expr × Expr × Expr × List Expr × Scope) | .ListComp elt [⟨tg, it, ifs, 0⟩] sc _ => some (elt, tg, it, ifs, sc) | _ => none
def gRev : Expr → Option Expr | .Subscript e (.Slice none none (some (.UnaryOp .USub (.Constant (.int 1) _ _) _)) _) _ => some e | _ => none
theorem gRev_eq {e x : Expr} (h : gRev e = some x) : ∃ k p1 p2 p3 p, e = .Subscript x (.Slice none none (some (.UnaryOp .USub (.Constant (.int 1) k p1) p2)) p3) p := by
  unfold gRev at h
  split at h
  · cases h; exact ⟨_, _, _, _, _, rfl⟩
  · cases h
theorem gNm_eq {e : Expr} {x : Str} (h : gNm e = some x) : ∃ p, e = .Name x p := by
  cases e <;> first | cases h | skip
  exact ⟨_, rfl⟩
theorem gBin_eq {e : Expr} {a b : Expr} {o : Operator} (h : gBin e = some (a, o, b)) : ∃ p, e = .BinOp a o b p := by
  cases e <;> first | cases h | skip
  exact ⟨_, rfl⟩
theorem gUn_eq {e a : Expr} {o : UnaryOp} (h : gUn e = some (o, a)) : ∃ p, e = .UnaryOp o a p := by
  cases e <;> first | cases h | skip
  exact ⟨_, rfl⟩
theorem gCmp_eq {e a : Expr} {os : List CmpOp} {bs : List Expr} (h : gCmp e = some (a, os, bs)) : ∃ p, e = .Compare a os bs p := by
  cases e <;> first | cases h | skip
  exact ⟨_, rfl⟩
theorem gBool_eq {e : Expr} {o : BoolOp} {vs : List Expr} {p : Pos} (h : gBool e = some (o, vs, p)) : e = .BoolOp o vs p := by
  cases e <;> first | cases h | skip
  rfl
theorem gIf_eq {e c a b : Expr} (h : gIf e = some (c, a, b)) : ∃ p, e = .IfExp c a b p := by
  cases e <;> first | cases h | skip
  exact ⟨_, rfl⟩
theorem gTup_eq {e : Expr} {es : List Expr} (h : gTup e = some es) : ∃ k p, e = .Tuple es k p := by
  cases e <;> first | cases h | skip
  exact ⟨_, _, rfl⟩
theorem gLst_eq {e : Expr} {es : List Expr} (h : gLst e = some es) : ∃ p, e = .List es p := by
  cases e <;> first | cases h | skip
  exact ⟨_, rfl⟩
theorem gSub_eq {e a b : Expr} (h : gSub e = some (a, b)) : ∃ p, e = .Subscript a b p := by
  cases e <;> first | cases h | skip
  exact ⟨_, rfl⟩
theorem gSlc_eq {e : Expr} {a b : Option Expr} (h : gSlc e = some (a, b)) : ∃ p, e = .Slice a b none p := by
  cases e <;> first | cases h | skip
  rename_i l u st p
  cases st with
  | none => cases h; exact ⟨_, rfl⟩
  | some z => cases h
theorem gCst_eq {e : Expr} {c : Const} (h : gCst e = some c) : ∃ k p, e = .Constant c k p := by
  cases e <;> first | cases h | skip
  exact ⟨_, _, rfl⟩
theorem gCall_eq {e : Expr} {x : Str} {es : List Expr} {ks : List Keyword} (h : gCall e = some (x, es, ks)) : ∃ p q, e = .Call (.Name x p) es ks q := by
  cases e <;> first | cases h | skip
  rename_i f es ks p
  cases f <;> first | cases h | skip
  exact ⟨_, _, rfl⟩
theorem gMeth_eq {e o : Expr} {m : Str} {es : List Expr} {ap cp : Pos} (h : gMeth e = some (o, m, es, ap, cp)) : e = .Call (.Attribute o m ap) es [] cp := by
  cases e <;> first | cases h | skip
  rename_i f es ks p
  cases f <;> first | cases h | skip
  cases ks <;> cases h
  rfl
theorem gLc_eq {e elt tg it : Expr} {ifs : List Expr} {sc : Scope} (h : gLc e = some (elt, tg, it, ifs, sc)) : ∃ p, e = .ListComp elt [⟨tg, it, ifs, 0⟩] sc p := by
  cases e <;> first | cases h | skip
  rename_i elt gs sc p
  match gs, h with
  | [⟨tg, it, ifs, .ofNat 0⟩], h => cases h; exact ⟨_, rfl⟩

/-! ### where one stands -/
structure Ctx where
  N : List Str
  names : List (Str × NameKind)
  own : Option (List (Str × NameKind))
  fnm : List Str
  glm : List Str
  kw : List (Nat × Nat × List Str × List Nat)
def bNames : List Str := ["len", "abs", "int", "tuple", "list", "all", "any", "sum", "max", "min", "str", "bool", "isinstance", "range", "sorted", "reversed", "enumerate", "zip"]
structure Good (c : Ctx) (Γ : Gam) (X : Cx) : Prop where
  N : X.N = c.N
  nd : c.N.Nodup
  names : X.env.scope.names = c.names
  kind : X.env.scope.kind = .function
  calm : X.calm = true
  fnn : ∀ x, X.fn x = (match c.own with | none => true | some l => l.lookup x == some .cell)
  units : X.A.units + 64 < cLine
  bi : ∀ x ∈ bNames, X.mg x = none
  fn : ∀ i den, Γ.fn i = some den → ∃ x, c.fnm[i]? = some x ∧ CallOk X x den
  kw : ∀ i n ks perm den, (i, n, ks, perm) ∈ c.kw → Γ.fn i = some den → ∃ x, c.fnm[i]? = some x ∧ CallKOk X x den n ks perm
  gl : ∀ g d, Γ.gl g = some d → ∃ x u v, c.glm[g]? = some x ∧ X.mg x = some u ∧ RelV v u ∧ ∀ H ρ M, RD X.K H ρ M d v
def isGl (c : Ctx) (x : Str) : Bool := decide (c.names.lookup x = some .globalImplicit) && !(x == ("__debug__" : Str))
def isVis (c : Ctx) (x : Str) : Bool := (match c.names.lookup x with | some .local => true | some .cell => true | some .free => true | _ => false) && !(x == ("__debug__" : Str)) && !(x == ("__classdict__" : Str))
def isLoc (c : Ctx) (x : Str) : Bool := match c.names.lookup x with
  | some .local => true
  | some .cell => (match c.own with | none => true | some l => l.lookup x == some .cell)
  | _ => false
def isBi (c : Ctx) (x : Str) : Bool := isGl c x && decide (x ∈ bNames)
def mkSc (names : List (Str × NameKind)) : Scope := { kind := .function, names := names, isGenerator := false, isCoroutine := false }
def plainIx : Expr → Bool
  | .Slice .. => false
  | _ => true
theorem plainIx_ok {e : Expr} (h : plainIx e = true) : PlainIx e := by
  intro o i
  cases e <;> first | exact Bool.noConfusion h | rfl
def notSet : Expr → Bool
  | .Set .. => false
  | _ => true
theorem notSet_ok {e : Expr} {env : Env} (h : notSet e = true) : ∀ x, foldedSetIterable e env x = pure x := by
  intro x
  cases e <;> first | exact Bool.noConfusion h | rfl
/-- names as targets -/
def chkNms (c : Ctx) : List Nat → List Expr → Bool
  | [], [] => true
  | i :: is, e :: es => (match gNm e with
    | some x => decide (c.N[i]? = some x) && isLoc c x
    | none => false) && chkNms c is es
  | _, _ => false
def chkTg (c : Ctx) : Tg → Expr → Bool
  | .v i, e => match gNm e with
    | some x => decide (c.N[i]? = some x) && isLoc c x
    | none => false
  | .tup is, e => match gTup e with
    | some es => chkNms c is es
    | none => false
def opB : Op2 → Operator → Bool
  | .add, .Add => true | .sub, .Sub => true | .mul, .Mult => true | .fdiv, .FloorDiv => true | .mod, .Mod => true | .pow, .Pow => true | .addM, .Add => true | _, _ => false
def blkCtx (c : Ctx) (sc : Scope) : Ctx := { c with names := (relS sc (mkSc c.names)).names, own := some sc.names }
/-- a chain's rest -/
def isBop : Bool → CmpOp → Bool | false, .Is => true | true, .IsNot => true | _, _ => false
def restOf (o : BoolOp) (b : Expr) (r : List Expr) (p : Pos) : Expr := match r with
  | [] => b
  | r => .BoolOp o (b :: r) p
def chkTys (c : Ctx) : List Ty → List Expr → Bool
  | [], [] => true
  | t :: ts, e :: es => (match gNm e with
    | some x => decide (x = tyNm t) && isBi c x
    | none => false) && chkTys c ts es
  | _, _ => false

mutual
def chkE : Ex → Ctx → Expr → Bool
  | .v i, c, pe => match gNm pe with
    | some x => decide (c.N[i]? = some x) && isVis c x
    | none => false
  | .non, _, pe => match gCst pe with
    | some .none => true
    | _ => false
  | .bl b, _, pe => match gCst pe with
    | some (.bool d) => decide (b = d)
    | _ => false
  | .int b, _, pe => match gCst pe with
    | some (.int d) => decide (b = d)
    | _ => false
  | .str b, _, pe => match gCst pe with
    | some (.str d) => decide (b = d)
    | _ => false
  | .glob g, c, pe => match gNm pe with
    | some x => decide (c.glm[g]? = some x) && isGl c x
    | none => false
  | .op2 o a b, c, pe => match gBin pe with
    | some (l, po, r) => opB o po && chkE a c l && chkE b c r
    | none => false
  | .neg a, c, pe => match gUn pe with
    | some (.USub, x) => chkE a c x
    | _ => false
  | .cmp o a b, c, pe => match gCmp pe with
    | some (x, [p], [y]) => cmB o p && chkE a c x && chkE b c y
    | _ => false
  | .chain o1 o2 a b d, c, pe => match gCmp pe with
    | some (x, [p, q], [y, z]) => cmB o1 p && cmB o2 q && chkE a c x && chkE b c y && chkE d c z
    | _ => false
  | .isN a, c, pe => match gCmp pe with
    | some (x, [.Is], [y]) => (match gCst y with | some .none => true | _ => false) && chkE a c x
    | _ => false
  | .notN a, c, pe => match gCmp pe with
    | some (x, [.IsNot], [y]) => (match gCst y with | some .none => true | _ => false) && chkE a c x
    | _ => false
  | .isB ng a b, c, pe => match gCmp pe with
    | some (x, [o], [y]) => isBop ng o && (match gCst y with | some (.bool d) => decide (b = d) | _ => false) && chkE a c x
    | _ => false
  | .band a b, c, pe => match gBool pe with
    | some (.And, x :: y :: r, p) => chkE a c x && chkE b c (restOf .And y r p)
    | _ => false
  | .bor a b, c, pe => match gBool pe with
    | some (.Or, x :: y :: r, p) => chkE a c x && chkE b c (restOf .Or y r p)
    | _ => false
  | .bnot a, c, pe => match gUn pe with
    | some (.Not, x) => chkE a c x
    | _ => false
  | .ifx t a b, c, pe => match gIf pe with
    | some (x, y, z) => chkE t c x && chkE a c y && chkE b c z
    | none => false
  | .tup es, c, pe => match gTup pe with
    | some ps => chkEs es c ps
    | none => false
  | .lst es, c, pe => match gLst pe with
    | some ps => chkEs es c ps
    | none => false
  | .lstM es, c, pe => match gLst pe with
    | some ps => chkEs es c ps
    | none => false
  | .ix a i, c, pe => match gSub pe with
    | some (x, y) => plainIx y && chkE a c x && chkE i c y
    | none => false
  | .slice a lo hi, c, pe => match gSub pe with
    | some (x, y) => (match gSlc y with
      | some (l, u) => chkE a c x && chkO lo c l && chkO hi c u
      | none => false)
    | none => false
  | .rev a, c, pe => match gRev pe with
    | some x => chkE a c x
    | none => false
  | .call f es, c, pe => match gCall pe with
    | some (x, ps, []) => decide (c.fnm[f]? = some x) && isGl c x && chkEs es c ps
    | _ => false
  | .callk f es kes perm, c, pe => match gCall pe with
    | some (x, ps, k :: ks) => decide (c.fnm[f]? = some x) && isGl c x && decide ((f, ps.length, (k :: ks).filterMap (·.arg), perm) ∈ c.kw) && decide ((k :: ks).map (·.arg) = ((k :: ks).filterMap (·.arg)).map some) && chkEs es c ps && chkKs kes c (k :: ks)
    | _ => false
  | .isi a t, c, pe => match gCall pe with
    | some (x, [y, z], []) => (match gNm z with
      | some w => decide (x = ("isinstance" : Str)) && isBi c x && decide (w = tyNm t) && isBi c w && notStar y && chkE a c y
      | none => false)
    | _ => false
  | .isiT a ts, c, pe => match gCall pe with
    | some (x, [y, z], []) => (match gTup z with
      | some ws => decide (x = ("isinstance" : Str)) && isBi c x && chkTys c ts ws && decide (ts.length ≤ 100) && notStar y && chkE a c y
      | none => false)
    | _ => false
  | .bi b es, c, pe => match gCall pe with
    | some (x, p :: ps, []) => decide (x = biName b) && isBi c x && chkEs es c (p :: ps)
    | _ => false
  | .meth m r es, c, pe => match gMeth pe with
    | some (o, nm, p :: ps, ap, cp) => decide (nm = mtNm m) && decide ((p :: ps).length < 30) && notCall o && (ap.endLine == cp.line) && chkE r c o && chkEs es c (p :: ps)
    | _ => false
  | .comp _ own tg it cond elt, c, pe => match gLc pe with
    | some (pelt, ptg, pit, ifs, sc) => blkC c.N (mkSc c.names) sc own && (tgIx tg).all (fun i => decide (i ∈ own.map (·.2))) && chkTg (blkCtx c sc) tg ptg && notSet pit && chkI it c ptg pit && chkTs cond (blkCtx c sc) ifs && chkE elt (blkCtx c sc) pelt
    | none => false
def chkEs : Exs → Ctx → List Expr → Bool
  | .nil, _, [] => true
  | .cons e es, c, p :: ps => notStar p && chkE e c p && chkEs es c ps
  | _, _, _ => false
def chkKs : Exs → Ctx → List Keyword → Bool
  | .nil, _, [] => true
  | .cons e es, c, p :: ps => chkE e c p.value && chkKs es c ps
  | _, _, _ => false
def chkTs : Exs → Ctx → List Expr → Bool
  | .nil, _, [] => true
  | .cons e .nil, c, [p] => chkE e c p
  | _, _, _ => false
def chkO : Eo → Ctx → Option Expr → Bool
  | .none, _, none => true
  | .some e, c, some p => chkE e c p
  | _, _, _ => false
def chkI : It → Ctx → Expr → Expr → Bool
  | .ex e, c, _, pe => chkE e c pe
  | .rvs e, c, _, pe => match gCall pe with
    | some (x, [y], []) => decide (x = ("reversed" : Str)) && isBi c x && notStar y && chkE e c y
    | _ => false
  | .enm e, c, tg, pe => match gCall pe with
    | some (x, [y], []) => (gTup tg).isSome && decide (x = ("enumerate" : Str)) && isBi c x && notStar y && chkE e c y
    | _ => false
  | .zp a b, c, tg, pe => match gCall pe with
    | some (x, [y, z], []) => (gTup tg).isSome && decide (x = ("zip" : Str)) && isBi c x && notStar y && notStar z && chkE a c y && chkE b c z
    | _ => false
  | .rng1 a, c, _, pe => match gCall pe with
    | some (x, [y], []) => decide (x = ("range" : Str)) && isBi c x && notStar y && chkE a c y
    | _ => false
  | .rng2 a b, c, _, pe => match gCall pe with
    | some (x, [y, z], []) => decide (x = ("range" : Str)) && isBi c x && notStar y && notStar z && chkE a c y && chkE b c z
    | _ => false
end

/-! Mini 12: the expressions of the small language are sound. -/

section
variable {c : Ctx} {Γ : Gam} {X : Cx} {x : Str}
theorem isGl_ok (G : Good c Γ X) (h : isGl c x = true) : Gl X x ∧ (x == ("__debug__" : Str)) = false := by
  unfold isGl at h
  rw [Bool.and_eq_true] at h
  refine ⟨?_, by simpa using h.2⟩
  show X.env.scope.names.lookup x = _
  rw [G.names]
  exact of_decide_eq_true h.1
theorem isBi_ok (G : Good c Γ X) (h : isBi c x = true) : Gl X x ∧ X.mg x = none := by
  unfold isBi at h
  rw [Bool.and_eq_true] at h
  exact ⟨(isGl_ok G h.1).1, G.bi x (of_decide_eq_true h.2)⟩
theorem isVis_ok (G : Good c Γ X) (h : isVis c x = true) : Vis X.env.scope x ∧ (x == ("__debug__" : Str)) = false ∧ (x == ("__classdict__" : Str)) = false := by
  unfold isVis at h
  rw [Bool.and_eq_true, Bool.and_eq_true] at h
  obtain ⟨⟨h1, h2⟩, h3⟩ := h
  refine ⟨?_, by simpa using h2, by simpa using h3⟩
  unfold Vis
  rw [G.names]
  split at h1
  · exact .inl (by assumption)
  · exact .inr (.inl (by assumption))
  · exact .inr (.inr (by assumption))
  · cases h1
theorem isLoc_ok (G : Good c Γ X) (h : isLoc c x = true) : Loc X.env.scope x ∧ (X.fn x = true ∨ X.env.scope.names.lookup x = some .local) := by
  unfold isLoc at h
  unfold L2.Loc
  rw [G.names]
  split at h
  · rename_i e
    exact ⟨.inl e, .inr e⟩
  · rename_i e
    exact ⟨.inr e, .inl (by rw [G.fnn]; exact h)⟩
  · cases h
theorem chkNms_ok (G : Good c Γ X) : ∀ {is : List Nat} {es : List Expr}, chkNms c is es = true → NmT X is es
  | [], [], _ => .nil
  | i :: is, e :: es, h => by
    unfold chkNms at h
    rw [Bool.and_eq_true] at h
    obtain ⟨h1, h2⟩ := h
    split at h1
    · rename_i x e1
      obtain ⟨p, rfl⟩ := gNm_eq e1
      rw [Bool.and_eq_true] at h1
      have l := isLoc_ok G h1.2
      exact .cons (by rw [G.N]; exact of_decide_eq_true h1.1) l.1 l.2 (chkNms_ok G h2)
    · cases h1
  | [], _ :: _, h => by cases h
  | _ :: _, [], h => by cases h
theorem chkTg_ok (G : Good c Γ X) {tg : Tg} {e : Expr} (h : chkTg c tg e = true) : PG X e (tG X.K tg) := by
  have nd : X.N.Nodup := by rw [G.N]; exact G.nd
  cases tg with
  | v i =>
    have h2 : (match gNm e with
      | some x => decide (c.N[i]? = some x) && isLoc c x
      | none => false) = true := h
    clear h
    split at h2
    · rename_i x e1
      obtain ⟨p, rfl⟩ := gNm_eq e1
      rw [Bool.and_eq_true] at h2
      have l := isLoc_ok G h2.2
      exact pg_vD nd (by rw [G.N]; exact of_decide_eq_true h2.1) l.1 l.2
    · cases h2
  | tup is =>
    have h2 : (match gTup e with
      | some es => chkNms c is es
      | none => false) = true := h
    clear h
    split at h2
    · rename_i es e1
      obtain ⟨k, p, rfl⟩ := gTup_eq e1
      exact pg_tupD nd G.calm (chkNms_ok G h2)
    · cases h2
theorem chkTys_ok (G : Good c Γ X) : ∀ {ts : List Ty} {es : List Expr}, chkTys c ts es = true → Paired (fun (t : Ty) (e : Expr) => ∃ p, e = .Name (tyNm t) p ∧ Gl X (tyNm t) ∧ X.mg (tyNm t) = none) ts es
  | [], [], _ => .nil
  | t :: ts, e :: es, h => by
    unfold chkTys at h
    rw [Bool.and_eq_true] at h
    obtain ⟨h1, h2⟩ := h
    split at h1
    · rename_i x e1
      obtain ⟨p, rfl⟩ := gNm_eq e1
      rw [Bool.and_eq_true] at h1
      have e2 := of_decide_eq_true h1.1
      subst e2
      exact .cons ⟨p, rfl, isBi_ok G h1.2⟩ (chkTys_ok G h2)
    · cases h1
  | [], _ :: _, h => by cases h
  | _ :: _, [], h => by cases h
/-- within a comprehension's block -/
theorem Good.blk (G : Good c Γ X) {sc : Scope} (hk : sc.kind = .function) (s : Shared) (H : Hp) (C : Addr) (cl : List (Str × Addr)) (fp : List Addr) : Good (blkCtx c sc) Γ (X.blk s H sc (compEnvC sc cl C X.env) fp) where
  N := G.N
  nd := G.nd
  names := by
    show (relS sc X.env.scope).names = (relS sc (mkSc c.names)).names
    unfold relS
    rw [G.kind, G.names]
    rfl
  kind := hk
  calm := G.calm
  fnn := fun _ => rfl
  units := G.units
  bi := G.bi
  fn := fun i den e => by
    obtain ⟨x, h1, h2⟩ := G.fn i den e
    obtain ⟨f, fd, ps, k, F⟩ := h2.ex
    exact ⟨x, h1, ⟨f, fd, ps, k, F⟩⟩
  kw := fun i n ks perm den hm e => by
    obtain ⟨x, h1, h2⟩ := G.kw i n ks perm den hm e
    obtain ⟨f, fd, ps, k, F⟩ := h2.ex
    exact ⟨x, h1, ⟨f, fd, ps, k, F⟩⟩
  gl := fun g d e => G.gl g d e
theorem blkC_ok (G : Good c Γ X) {sc : Scope} {own : List (Str × Nat)} (h : blkC c.N (mkSc c.names) sc own = true) : BlkOk X.N X.env.scope sc own := by
  have b := blkOk_by h
  rw [G.N]
  exact ⟨b.kind, b.uniq, b.ix, fun y hy e => by rw [G.names]; exact b.free y hy e, b.own⟩
theorem pe_stuck {pe : Expr} {K : PySem.W.Frag} : PE X pe (tE K fun _ _ => .stuck) := ⟨fun _ _ _ _ _ _ ⟨_, _, _, _, q⟩ => False.elim q⟩
theorem pt_stuck {pe : Expr} {K : PySem.W.Frag} : PT X pe (tT K fun _ _ => .stuck) := ⟨fun _ _ _ _ _ _ ⟨_, _, _, _, q⟩ => False.elim q⟩
end
/-- what is shown of an expression -/
structure Snd4 (Γ : Gam) (e : Ex) (X : Cx) (pe : Expr) : Prop where
  sE : PE X pe (tE X.K (evE Γ e))
  sT : PT X pe (tT X.K (evT Γ e))
  sW : ∀ o vs p, pe = .BoolOp o vs p → PW X pe (tT X.K (evT Γ e))
section
variable {Γ : Gam} {X : Cx} {e : Ex} {pe : Expr}
theorem snd_val (p : PE X pe (tE X.K (evE Γ e))) (hp : plainT pe = true) (et : ∀ σ h, evT Γ e σ h = (evE Γ e σ h).bind trD) : Snd4 Γ e X pe where
  sE := p
  sT := by
    have := pt_valD p hp
    rw [show evT Γ e = fun σ h => (evE Γ e σ h).bind trD from funext fun σ => funext fun h => et σ h]
    exact this
  sW := fun o vs q h => by subst h; exact Bool.noConfusion hp
theorem snd_no (p : PE X pe (tE X.K (evE Γ e))) (nb : ∀ o vs p, pe ≠ .BoolOp o vs p) (et : ∀ σ h, evT Γ e σ h = .stuck) : Snd4 Γ e X pe where
  sE := p
  sT := by
    rw [show evT Γ e = fun _ _ => .stuck from funext fun σ => funext fun h => et σ h]
    exact pt_stuck
  sW := fun o vs q h => absurd h (nb o vs q)
theorem snd_t (p : PE X pe (tE X.K (evE Γ e))) (t : PT X pe (tT X.K (evT Γ e))) (nb : ∀ o vs p, pe ≠ .BoolOp o vs p) : Snd4 Γ e X pe where
  sE := p
  sT := t
  sW := fun o vs q h => absurd h (nb o vs q)
theorem snd_b {o : BoolOp} {vs : List Expr} {q : Pos} (p : PE X (.BoolOp o vs q) (tE X.K (evE Γ e))) (t : PW X (.BoolOp o vs q) (tT X.K (evT Γ e))) : Snd4 Γ e X (.BoolOp o vs q) where
  sE := p
  sT := t.pt
  sW := fun _ _ _ _ => t
end
def Snd (Γ : Gam) (e : Ex) : Prop := ∀ (c : Ctx) (X : Cx) (pe : Expr), Good c Γ X → chkE e c pe = true → Snd4 Γ e X pe
structure SndsR (Γ : Gam) (es : Exs) : Prop where
  a : ∀ (c : Ctx) (X : Cx) (ps : List Expr), Good c Γ X → chkEs es c ps = true → PA X ps (tA X.K (evEs Γ es)) ∧ noStars ps = true ∧ ∀ σ h ds h', evEs Γ es σ h = .ok ds h' → ds.length = ps.length
  k : ∀ (c : Ctx) (X : Cx) (ks : List Keyword), Good c Γ X → chkKs es c ks = true → PK X ks (tA X.K (evEs Γ es)) ∧ ∀ σ h ds h', evEs Γ es σ h = .ok ds h' → ds.length = ks.length
  t : ∀ (c : Ctx) (X : Cx) (ps : List Expr), Good c Γ X → chkTs es c ps = true → PTs X ps (tT X.K (evTs Γ es))
theorem restOf_pw {X : Cx} {t : TT} {o : BoolOp} {b : Expr} {r : List Expr} {p : Pos} (ho : o = .And ∨ o = .Or) (h1 : PT X (restOf o b r p) t) (h2 : ∀ o' vs q, restOf o b r p = .BoolOp o' vs q → PW X (restOf o b r p) t) : PW X (.BoolOp o (b :: r) p) t := by
  cases r with
  | nil =>
    rcases ho with rfl | rfl
    · exact pw_and1 h1
    · exact pw_or1 h1
  | cons y r => exact h2 _ _ _ rfl
theorem restOf_pe {X : Cx} {t : TE} {o : BoolOp} {b : Expr} {r : List Expr} {p : Pos} (h1 : PE X (restOf o b r p) t) : PE X (.BoolOp o (b :: r) p) t := by
  cases r with
  | nil => exact pe_one h1
  | cons y r => exact h1
theorem sndO {Γ : Gam} {e : Eo} (p : ∀ a, e = .some a → Snd Γ a) (c : Ctx) (X : Cx) (o : Option Expr) (G : Good c Γ X) (h : chkO e c o = true) : PO X o (tP X.K (evO Γ e)) := by
  cases e with
  | none =>
    cases o with
    | none => exact po_noneD
    | some q => exact Bool.noConfusion (show false = true from h)
  | some a =>
    cases o with
    | none => exact Bool.noConfusion (show false = true from h)
    | some q => exact po_someD (p a rfl c X q G h).sE

/-! Mini 13: every expression of the small language is sound. -/

theorem and2 {a b : Bool} (h : (a && b) = true) : a = true ∧ b = true := by rwa [Bool.and_eq_true] at h
theorem wp_eta {α : Type} (r : Res α) : r.bind (fun a h => .ok a h) = r := by cases r <;> rfl

theorem snd_v (Γ : Gam) (i : Nat) : Snd Γ (.v i) := fun c X pe G h => by
  have h2 : (match gNm pe with
    | some x => decide (c.N[i]? = some x) && isVis c x
    | none => false) = true := h
  clear h
  split at h2
  · rename_i x e
    obtain ⟨p, rfl⟩ := gNm_eq e
    obtain ⟨a, b⟩ := and2 h2
    have v := isVis_ok G b
    refine snd_val (pe_varD (by rw [G.N]; exact of_decide_eq_true a) v.1 v.2.1 v.2.2) rfl fun σ h => ?_
    show (match σ[i]? with
      | some (some d) => trD d h
      | _ => Res.stuck) = Res.bind (match σ[i]? with
      | some (some d) => Res.ok d h
      | _ => Res.stuck) trD
    split <;> rfl
  · cases h2
theorem snd_cst {Γ : Gam} {e : Ex} {d : D} (he : evE Γ e = fun _ h => .ok d h) (ht : ∀ σ h, evT Γ e σ h = .stuck) (hc : ∀ c (X : Cx) pe, chkE e c pe = true → (∃ k p cc, pe = .Constant cc k p) ∧ ∃ v, PE X pe (tC v) ∧ ∀ H ρ M, RD X.K H ρ M d v) : Snd Γ e := fun c X pe G h => by
  obtain ⟨⟨k, p, cc, rfl⟩, v, q, r⟩ := hc c X pe h
  refine snd_no (by rw [he]; exact pe_constD q r) (fun o vs p z => by cases z) ht
theorem snd_non (Γ : Gam) : Snd Γ .non := snd_cst (d := .non) rfl (fun _ _ => rfl) fun c X pe h => by
  have h2 : (match gCst pe with
    | some .none => true
    | _ => false) = true := h
  clear h
  split at h2
  · rename_i e
    obtain ⟨k, p, rfl⟩ := gCst_eq e
    exact ⟨⟨_, _, _, rfl⟩, _, pe_non, fun _ _ _ => .non⟩
  · cases h2
theorem snd_int (Γ : Gam) (i : Int) : Snd Γ (.int i) := snd_cst (d := .int i) rfl (fun _ _ => rfl) fun c X pe h => by
  have h2 : (match gCst pe with
    | some (.int d) => decide (i = d)
    | _ => false) = true := h
  clear h
  split at h2
  · rename_i d e
    obtain ⟨k, p, rfl⟩ := gCst_eq e
    have := of_decide_eq_true h2
    subst this
    exact ⟨⟨_, _, _, rfl⟩, _, pe_int, fun _ _ _ => .int _⟩
  · cases h2
theorem snd_str (Γ : Gam) (i : Str) : Snd Γ (.str i) := snd_cst (d := .str i) rfl (fun _ _ => rfl) fun c X pe h => by
  have h2 : (match gCst pe with
    | some (.str d) => decide (i = d)
    | _ => false) = true := h
  clear h
  split at h2
  · rename_i d e
    obtain ⟨k, p, rfl⟩ := gCst_eq e
    have := of_decide_eq_true h2
    subst this
    exact ⟨⟨_, _, _, rfl⟩, _, pe_str, fun _ _ _ => .str _⟩
  · cases h2
theorem snd_bl (Γ : Gam) (i : Bool) : Snd Γ (.bl i) := fun c X pe G h => by
  have h2 : (match gCst pe with
    | some (.bool d) => decide (i = d)
    | _ => false) = true := h
  clear h
  split at h2
  · rename_i d e
    obtain ⟨k, p, rfl⟩ := gCst_eq e
    have := of_decide_eq_true h2
    subst this
    exact snd_val (pe_constD pe_bl fun _ _ _ => .bl _) rfl fun _ _ => rfl
  · cases h2
theorem snd_glob (Γ : Gam) (g : Nat) : Snd Γ (.glob g) := fun c X pe G h => by
  have h2 : (match gNm pe with
    | some x => decide (c.glm[g]? = some x) && isGl c x
    | none => false) = true := h
  clear h
  split at h2
  · rename_i x e
    obtain ⟨p, rfl⟩ := gNm_eq e
    obtain ⟨a, b⟩ := and2 h2
    obtain ⟨gl, db⟩ := isGl_ok G b
    refine snd_no ?_ (fun o vs p z => by cases z) (fun _ _ => rfl)
    cases e2 : Γ.gl g with
    | none =>
      have : evE Γ (.glob g) = fun _ _ => .stuck := by
        funext σ h
        show (match Γ.gl g with
          | some d => Res.ok d h
          | none => Res.stuck) = _
        rw [e2]
      rw [this]
      exact pe_stuck
    | some d =>
      have : evE Γ (.glob g) = fun _ h => .ok d h := by
        funext σ h
        show (match Γ.gl g with
          | some d => Res.ok d h
          | none => Res.stuck) = _
        rw [e2]
      rw [this]
      obtain ⟨y, u, v, h1, h2, h3, h4⟩ := G.gl g d e2
      have := of_decide_eq_true a
      rw [this] at h1
      cases h1
      exact pe_constD (pe_glob gl h2 h3 db) h4
  · cases h2
theorem snd_op2 {Γ : Gam} {o : Op2} {a b : Ex} (pa : Snd Γ a) (pb : Snd Γ b) : Snd Γ (.op2 o a b) := fun c X pe G h => by
  have h2 : (match gBin pe with
    | some (l, po, r) => opB o po && chkE a c l && chkE b c r
    | none => false) = true := h
  clear h
  split at h2
  · rename_i l po r e
    obtain ⟨p, rfl⟩ := gBin_eq e
    obtain ⟨h1, h3⟩ := and2 h2
    obtain ⟨h1, h4⟩ := and2 h1
    exact snd_no (pe_opD (opR_of o po h1) (pa c X l G h4).sE (pb c X r G h3).sE) (fun o vs p z => by cases z) (fun _ _ => rfl)
  · cases h2
theorem snd_neg {Γ : Gam} {a : Ex} (pa : Snd Γ a) : Snd Γ (.neg a) := fun c X pe G h => by
  have h2 : (match gUn pe with
    | some (.USub, x) => chkE a c x
    | _ => false) = true := h
  clear h
  split at h2
  · rename_i x e
    obtain ⟨p, rfl⟩ := gUn_eq e
    exact snd_no (pe_negD (pa c X x G h2).sE) (fun o vs p z => by cases z) (fun _ _ => rfl)
  · cases h2
theorem snd_cmp {Γ : Gam} {o : Cm} {a b : Ex} (pa : Snd Γ a) (pb : Snd Γ b) : Snd Γ (.cmp o a b) := fun c X pe G h => by
  have h2 : (match gCmp pe with
    | some (x, [p], [y]) => cmB o p && chkE a c x && chkE b c y
    | _ => false) = true := h
  clear h
  split at h2
  · rename_i x q y e
    obtain ⟨p, rfl⟩ := gCmp_eq e
    obtain ⟨h1, h3⟩ := and2 h2
    obtain ⟨h1, h4⟩ := and2 h1
    exact snd_t (pe_cmpD G.units h1 (pa c X x G h4).sE (pb c X y G h3).sE) (pt_cmpD G.units h1 (pa c X x G h4).sE (pb c X y G h3).sE) (fun o vs p z => by cases z)
  · cases h2
theorem snd_chain {Γ : Gam} {o1 o2 : Cm} {a b d : Ex} (pa : Snd Γ a) (pb : Snd Γ b) (pd : Snd Γ d) : Snd Γ (.chain o1 o2 a b d) := fun c X pe G h => by
  have h2 : (match gCmp pe with
    | some (x, [p, q], [y, z]) => cmB o1 p && cmB o2 q && chkE a c x && chkE b c y && chkE d c z
    | _ => false) = true := h
  clear h
  split at h2
  · rename_i x q1 q2 y z e
    obtain ⟨p, rfl⟩ := gCmp_eq e
    obtain ⟨h1, h3⟩ := and2 h2
    obtain ⟨h1, h4⟩ := and2 h1
    obtain ⟨h1, h5⟩ := and2 h1
    obtain ⟨h1, h6⟩ := and2 h1
    exact snd_t (pe_chainD G.units h1 h6 (pa c X x G h5).sE (pb c X y G h4).sE (pd c X z G h3).sE) (pt_chainD G.units h1 h6 (pa c X x G h5).sE (pb c X y G h4).sE (pd c X z G h3).sE) (fun o vs p z => by cases z)
  · cases h2
theorem snd_isN {Γ : Gam} {a : Ex} (pa : Snd Γ a) : Snd Γ (.isN a) := fun c X pe G h => by
  have h2 : (match gCmp pe with
    | some (x, [.Is], [y]) => (match gCst y with | some .none => true | _ => false) && chkE a c x
    | _ => false) = true := h
  clear h
  split at h2
  · rename_i x y e
    obtain ⟨p, rfl⟩ := gCmp_eq e
    obtain ⟨h1, h3⟩ := and2 h2
    split at h1
    · rename_i e2
      obtain ⟨k, q, rfl⟩ := gCst_eq e2
      exact snd_t (pe_isND (pa c X x G h3).sE) (pt_isND (pa c X x G h3).sE) (fun o vs p z => by cases z)
    · cases h1
  · cases h2
theorem snd_notN {Γ : Gam} {a : Ex} (pa : Snd Γ a) : Snd Γ (.notN a) := fun c X pe G h => by
  have h2 : (match gCmp pe with
    | some (x, [.IsNot], [y]) => (match gCst y with | some .none => true | _ => false) && chkE a c x
    | _ => false) = true := h
  clear h
  split at h2
  · rename_i x y e
    obtain ⟨p, rfl⟩ := gCmp_eq e
    obtain ⟨h1, h3⟩ := and2 h2
    split at h1
    · rename_i e2
      obtain ⟨k, q, rfl⟩ := gCst_eq e2
      exact snd_t (pe_notND (pa c X x G h3).sE) (pt_notND (pa c X x G h3).sE) (fun o vs p z => by cases z)
    · cases h1
  · cases h2
theorem snd_isB {Γ : Gam} {ng : Bool} {a : Ex} {b : Bool} (pa : Snd Γ a) : Snd Γ (.isB ng a b) := fun c X pe G h => by
  have h2 : (match gCmp pe with
    | some (x, [o], [y]) => isBop ng o && (match gCst y with | some (.bool d) => decide (b = d) | _ => false) && chkE a c x
    | _ => false) = true := h
  clear h
  split at h2
  · rename_i x o y e
    obtain ⟨p, rfl⟩ := gCmp_eq e
    obtain ⟨h1, h3⟩ := and2 h2
    obtain ⟨h1, h4⟩ := and2 h1
    split at h4
    · rename_i d e2
      obtain ⟨k, q, rfl⟩ := gCst_eq e2
      have := of_decide_eq_true h4
      subst this
      cases ng <;> cases o <;> first | exact Bool.noConfusion h1 | skip
      · exact snd_t (pe_isBD (pa c X x G h3).sE) (pt_isBD (pa c X x G h3).sE) (fun o vs p z => by cases z)
      · exact snd_t (pe_notBD (pa c X x G h3).sE) (pt_notBD (pa c X x G h3).sE) (fun o vs p z => by cases z)
    · cases h4
  · cases h2
theorem snd_rev {Γ : Gam} {a : Ex} (pa : Snd Γ a) : Snd Γ (.rev a) := fun c X pe G h => by
  have h2 : (match gRev pe with
    | some x => chkE a c x
    | none => false) = true := h
  clear h
  split at h2
  · rename_i x e
    obtain ⟨k, p1, p2, p3, p, rfl⟩ := gRev_eq e
    exact snd_no (pe_revD (pa c X x G h2).sE) (fun o vs p z => by cases z) (fun _ _ => rfl)
  · cases h2
theorem snd_band {Γ : Gam} {a b : Ex} (pa : Snd Γ a) (pb : Snd Γ b) : Snd Γ (.band a b) := fun c X pe G h => by
  have h2 : (match gBool pe with
    | some (.And, x :: y :: r, p) => chkE a c x && chkE b c (restOf .And y r p)
    | _ => false) = true := h
  clear h
  split at h2
  · rename_i x y r p e
    have e2 := gBool_eq e
    subst e2
    obtain ⟨h1, h3⟩ := and2 h2
    have A := pa c X x G h1
    have B := pb c X _ G h3
    exact snd_b (pe_andD A.sE (restOf_pe B.sE)) (pw_andD A.sT (restOf_pw (.inl rfl) B.sT B.sW))
  · cases h2
theorem snd_bor {Γ : Gam} {a b : Ex} (pa : Snd Γ a) (pb : Snd Γ b) : Snd Γ (.bor a b) := fun c X pe G h => by
  have h2 : (match gBool pe with
    | some (.Or, x :: y :: r, p) => chkE a c x && chkE b c (restOf .Or y r p)
    | _ => false) = true := h
  clear h
  split at h2
  · rename_i x y r p e
    have e2 := gBool_eq e
    subst e2
    obtain ⟨h1, h3⟩ := and2 h2
    have A := pa c X x G h1
    have B := pb c X _ G h3
    exact snd_b (pe_orD A.sE (restOf_pe B.sE)) (pw_orD A.sT (restOf_pw (.inr rfl) B.sT B.sW))
  · cases h2
theorem snd_bnot {Γ : Gam} {a : Ex} (pa : Snd Γ a) : Snd Γ (.bnot a) := fun c X pe G h => by
  have h2 : (match gUn pe with
    | some (.Not, x) => chkE a c x
    | _ => false) = true := h
  clear h
  split at h2
  · rename_i x e
    obtain ⟨p, rfl⟩ := gUn_eq e
    exact snd_t (pe_notD (pa c X x G h2).sE) (pt_notD (pa c X x G h2).sT) (fun o vs p z => by cases z)
  · cases h2
theorem snd_ifx {Γ : Gam} {t a b : Ex} (pt : Snd Γ t) (pa : Snd Γ a) (pb : Snd Γ b) : Snd Γ (.ifx t a b) := fun c X pe G h => by
  have h2 : (match gIf pe with
    | some (x, y, z) => chkE t c x && chkE a c y && chkE b c z
    | none => false) = true := h
  clear h
  split at h2
  · rename_i x y z e
    obtain ⟨p, rfl⟩ := gIf_eq e
    obtain ⟨h1, h3⟩ := and2 h2
    obtain ⟨h1, h4⟩ := and2 h1
    exact snd_no (pe_ifD (pt c X x G h1).sT (pa c X y G h4).sE (pb c X z G h3).sE) (fun o vs p z => by cases z) (fun _ _ => rfl)
  · cases h2
theorem snd_tup {Γ : Gam} {es : Exs} (p : SndsR Γ es) : Snd Γ (.tup es) := fun c X pe G h => by
  have h2 : (match gTup pe with
    | some ps => chkEs es c ps
    | none => false) = true := h
  clear h
  split at h2
  · rename_i ps e
    obtain ⟨k, q, rfl⟩ := gTup_eq e
    exact snd_no (pe_tupD (p.a c X ps G h2).1) (fun o vs p z => by cases z) (fun _ _ => rfl)
  · cases h2
theorem snd_lst {Γ : Gam} {es : Exs} (p : SndsR Γ es) : Snd Γ (.lst es) := fun c X pe G h => by
  have h2 : (match gLst pe with
    | some ps => chkEs es c ps
    | none => false) = true := h
  clear h
  split at h2
  · rename_i ps e
    obtain ⟨q, rfl⟩ := gLst_eq e
    exact snd_no (pe_lstD (p.a c X ps G h2).1) (fun o vs p z => by cases z) (fun _ _ => rfl)
  · cases h2
theorem snd_lstM {Γ : Gam} {es : Exs} (p : SndsR Γ es) : Snd Γ (.lstM es) := fun c X pe G h => by
  have h2 : (match gLst pe with
    | some ps => chkEs es c ps
    | none => false) = true := h
  clear h
  split at h2
  · rename_i ps e
    obtain ⟨q, rfl⟩ := gLst_eq e
    exact snd_no (pe_lstMD (p.a c X ps G h2).1) (fun o vs p z => by cases z) (fun _ _ => rfl)
  · cases h2
theorem snd_ix {Γ : Gam} {a i : Ex} (pa : Snd Γ a) (pi : Snd Γ i) : Snd Γ (.ix a i) := fun c X pe G h => by
  have h2 : (match gSub pe with
    | some (x, y) => plainIx y && chkE a c x && chkE i c y
    | none => false) = true := h
  clear h
  split at h2
  · rename_i x y e
    obtain ⟨p, rfl⟩ := gSub_eq e
    obtain ⟨h1, h3⟩ := and2 h2
    obtain ⟨h1, h4⟩ := and2 h1
    exact snd_no (pe_ixD (pa c X x G h4).sE (pi c X y G h3).sE (plainIx_ok h1)) (fun o vs p z => by cases z) (fun _ _ => rfl)
  · cases h2
theorem snd_slice {Γ : Gam} {a : Ex} {lo hi : Eo} (pa : Snd Γ a) (pl : ∀ e, lo = .some e → Snd Γ e) (ph : ∀ e, hi = .some e → Snd Γ e) : Snd Γ (.slice a lo hi) := fun c X pe G h => by
  have h2 : (match gSub pe with
    | some (x, y) => (match gSlc y with
      | some (l, u) => chkE a c x && chkO lo c l && chkO hi c u
      | none => false)
    | none => false) = true := h
  clear h
  split at h2
  · rename_i x y e
    obtain ⟨p, rfl⟩ := gSub_eq e
    split at h2
    · rename_i l u e2
      obtain ⟨q, rfl⟩ := gSlc_eq e2
      obtain ⟨h1, h3⟩ := and2 h2
      obtain ⟨h1, h4⟩ := and2 h1
      exact snd_no (pe_sliceD (pa c X x G h1).sE (sndO pl c X l G h4) (sndO ph c X u G h3)) (fun o vs p z => by cases z) (fun _ _ => rfl)
    · cases h2
  · cases h2
theorem snd_call {Γ : Gam} {f : Nat} {es : Exs} (p : SndsR Γ es) (hn : es = .nil ∨ es ≠ .nil) : Snd Γ (.call f es) := fun c X pe G h => by
  have h2 : (match gCall pe with
    | some (x, ps, []) => decide (c.fnm[f]? = some x) && isGl c x && chkEs es c ps
    | _ => false) = true := h
  clear h
  split at h2
  · rename_i x ps e
    obtain ⟨p1, p2, rfl⟩ := gCall_eq e
    obtain ⟨h1, h3⟩ := and2 h2
    obtain ⟨h1, h4⟩ := and2 h1
    obtain ⟨gl, db⟩ := isGl_ok G h4
    obtain ⟨A, ns, _⟩ := p.a c X ps G h3
    have et : ∀ σ h, evT Γ (.call f es) σ h = (evE Γ (.call f es) σ h).bind trD := fun σ h => by
      show (evEs Γ es σ h).bind (fun ds h1 => match Γ.fn f with
        | some den => (den ds h1).bind trD
        | none => Res.stuck) = ((evEs Γ es σ h).bind fun ds h1 => match Γ.fn f with
        | some den => den ds h1
        | none => Res.stuck).bind trD
      cases evEs Γ es σ h with
      | stuck => rfl
      | ok ds h1 => cases Γ.fn f <;> rfl
    refine snd_val ?_ rfl et
    cases e2 : Γ.fn f with
    | none =>
      have : evE Γ (.call f es) = fun σ h => (evEs Γ es σ h).bind fun _ _ => .stuck := by
        funext σ h
        show ((evEs Γ es σ h).bind fun ds h1 => match Γ.fn f with
          | some den => den ds h1
          | none => Res.stuck) = _
        rw [e2]
      rw [this]
      have : (fun σ h => (evEs Γ es σ h).bind fun _ _ => (Res.stuck : Res D)) = fun _ _ => .stuck := by
        funext σ h
        cases evEs Γ es σ h <;> rfl
      rw [this]
      exact pe_stuck
    | some den =>
      have : evE Γ (.call f es) = fun σ h => (evEs Γ es σ h).bind fun ds h1 => den ds h1 := by
        funext σ h
        show ((evEs Γ es σ h).bind fun ds h1 => match Γ.fn f with
          | some den => den ds h1
          | none => Res.stuck) = _
        rw [e2]
      rw [this]
      obtain ⟨y, h5, ok⟩ := G.fn f den e2
      rw [of_decide_eq_true h1] at h5
      cases h5
      cases ps with
      | nil =>
        cases es with
        | nil => exact pe_call0D ok gl db
        | cons a b => exact Bool.noConfusion (show false = true from h3)
      | cons q qs => exact pe_callD ok gl db A ns
  · cases h2
theorem snd_callk {Γ : Gam} {f : Nat} {es kes : Exs} {perm : List Nat} (p : SndsR Γ es) (pk : SndsR Γ kes) : Snd Γ (.callk f es kes perm) := fun c X pe G h => by
  have h2 : (match gCall pe with
    | some (x, ps, k :: ks) => decide (c.fnm[f]? = some x) && isGl c x && decide ((f, ps.length, (k :: ks).filterMap (·.arg), perm) ∈ c.kw) && decide ((k :: ks).map (·.arg) = ((k :: ks).filterMap (·.arg)).map some) && chkEs es c ps && chkKs kes c (k :: ks)
    | _ => false) = true := h
  clear h
  split at h2
  · rename_i x ps k ks e
    obtain ⟨p1, p2, rfl⟩ := gCall_eq e
    obtain ⟨h1, h3⟩ := and2 h2
    obtain ⟨h1, h4⟩ := and2 h1
    obtain ⟨h1, h5⟩ := and2 h1
    obtain ⟨h1, h6⟩ := and2 h1
    obtain ⟨h1, h7⟩ := and2 h1
    obtain ⟨gl, db⟩ := isGl_ok G h7
    obtain ⟨A, ns, l2⟩ := p.a c X ps G h4
    obtain ⟨B, l3⟩ := pk.k c X (k :: ks) G h3
    have et : ∀ σ h, evT Γ (.callk f es kes perm) σ h = (evE Γ (.callk f es kes perm) σ h).bind trD := fun σ h => by
      show (evEs Γ es σ h).bind (fun ds h1 => (evEs Γ kes σ h1).bind fun zs h2 => match Γ.fn f with
        | some den => (den (permV perm D.non ds zs) h2).bind trD
        | none => Res.stuck) = ((evEs Γ es σ h).bind fun ds h1 => (evEs Γ kes σ h1).bind fun zs h2 => match Γ.fn f with
        | some den => den (permV perm D.non ds zs) h2
        | none => Res.stuck).bind trD
      cases evEs Γ es σ h with
      | stuck => rfl
      | ok ds h1 =>
        show (evEs Γ kes σ h1).bind _ = ((evEs Γ kes σ h1).bind _).bind trD
        cases evEs Γ kes σ h1 with
        | stuck => rfl
        | ok zs h2 => cases Γ.fn f <;> rfl
    refine snd_val ?_ rfl et
    cases e2 : Γ.fn f with
    | none =>
      have : evE Γ (.callk f es kes perm) = fun _ _ => .stuck := by
        funext σ h
        show ((evEs Γ es σ h).bind fun ds h1 => (evEs Γ kes σ h1).bind fun zs h2 => match Γ.fn f with
          | some den => den (permV perm D.non ds zs) h2
          | none => Res.stuck) = _
        rw [e2]
        cases evEs Γ es σ h with
        | stuck => rfl
        | ok ds h1 =>
          show (evEs Γ kes σ h1).bind _ = _
          cases evEs Γ kes σ h1 <;> rfl
      rw [this]
      exact pe_stuck
    | some den =>
      have : evE Γ (.callk f es kes perm) = fun σ h => (evEs Γ es σ h).bind fun ds h1 => (evEs Γ kes σ h1).bind fun zs h2 => den (permV perm D.non ds zs) h2 := by
        funext σ h
        show ((evEs Γ es σ h).bind fun ds h1 => (evEs Γ kes σ h1).bind fun zs h2 => match Γ.fn f with
          | some den => den (permV perm D.non ds zs) h2
          | none => Res.stuck) = _
        rw [e2]
      rw [this]
      obtain ⟨y, h8, ok⟩ := G.kw f _ _ perm den (of_decide_eq_true h6) e2
      rw [of_decide_eq_true h1] at h8
      cases h8
      cases ps with
      | nil =>
        cases es with
        | nil =>
          exact pe_callk0D ok gl db B (of_decide_eq_true h5) l3
        | cons a b => exact Bool.noConfusion (show false = true from h4)
      | cons q qs => exact pe_callkD ok gl db A B ns (of_decide_eq_true h5) rfl l2 l3
  · cases h2
theorem snd_isi {Γ : Gam} {a : Ex} {t : Ty} (pa : Snd Γ a) : Snd Γ (.isi a t) := fun c X pe G h => by
  have h2 : (match gCall pe with
    | some (x, [y, z], []) => (match gNm z with
      | some w => decide (x = ("isinstance" : Str)) && isBi c x && decide (w = tyNm t) && isBi c w && notStar y && chkE a c y
      | none => false)
    | _ => false) = true := h
  clear h
  split at h2
  · rename_i x y z e
    obtain ⟨p1, p2, rfl⟩ := gCall_eq e
    split at h2
    · rename_i w e2
      obtain ⟨p3, rfl⟩ := gNm_eq e2
      obtain ⟨h1, h3⟩ := and2 h2
      obtain ⟨h1, h4⟩ := and2 h1
      obtain ⟨h1, h5⟩ := and2 h1
      obtain ⟨h1, h6⟩ := and2 h1
      obtain ⟨h1, h7⟩ := and2 h1
      have ex := of_decide_eq_true h1
      subst ex
      obtain ⟨g1, m1⟩ := isBi_ok G h7
      obtain ⟨g2, m2⟩ := isBi_ok G h5
      refine snd_val (pe_isiD (of_decide_eq_true h6) g1 m1 g2 m2 (pa c X y G h3).sE h4) rfl fun σ h => ?_
      show (evE Γ a σ h).bind (fun x h1 => .guard (openD h1 x) (.ok (tyD t x) h1)) = ((evE Γ a σ h).bind fun x h1 => .guard (openD h1 x) (.ok (.bl (tyD t x)) h1)).bind trD
      cases evE Γ a σ h with
      | stuck => rfl
      | ok d h1 =>
        show Res.guard (openD h1 d) _ = (Res.guard (openD h1 d) _).bind trD
        cases openD h1 d <;> rfl
    · cases h2
  · cases h2
theorem snd_isiT {Γ : Gam} {a : Ex} {ts : List Ty} (pa : Snd Γ a) : Snd Γ (.isiT a ts) := fun c X pe G h => by
  have h2 : (match gCall pe with
    | some (x, [y, z], []) => (match gTup z with
      | some ws => decide (x = ("isinstance" : Str)) && isBi c x && chkTys c ts ws && decide (ts.length ≤ 100) && notStar y && chkE a c y
      | none => false)
    | _ => false) = true := h
  clear h
  split at h2
  · rename_i x y z e
    obtain ⟨p1, p2, rfl⟩ := gCall_eq e
    split at h2
    · rename_i ws e2
      obtain ⟨k, p3, rfl⟩ := gTup_eq e2
      obtain ⟨h1, h3⟩ := and2 h2
      obtain ⟨h1, h4⟩ := and2 h1
      obtain ⟨h1, h5⟩ := and2 h1
      obtain ⟨h1, h6⟩ := and2 h1
      obtain ⟨h1, h7⟩ := and2 h1
      have ex := of_decide_eq_true h1
      subst ex
      obtain ⟨g1, m1⟩ := isBi_ok G h7
      refine snd_val (pe_isiTD (chkTys_ok G h6) (by have := of_decide_eq_true h5; rw [sz]; omega) g1 m1 (pa c X y G h3).sE h4) rfl fun σ h => ?_
      show (evE Γ a σ h).bind (fun x h1 => .guard (openD h1 x) (.ok (ts.any fun t => tyD t x) h1)) = ((evE Γ a σ h).bind fun x h1 => .guard (openD h1 x) (.ok (.bl (ts.any fun t => tyD t x)) h1)).bind trD
      cases evE Γ a σ h with
      | stuck => rfl
      | ok d h1 =>
        show Res.guard (openD h1 d) _ = (Res.guard (openD h1 d) _).bind trD
        cases openD h1 d <;> rfl
    · cases h2
  · cases h2
theorem snd_bi {Γ : Gam} {b : Bi} {es : Exs} (p : SndsR Γ es) : Snd Γ (.bi b es) := fun c X pe G h => by
  have h2 : (match gCall pe with
    | some (x, p :: ps, []) => decide (x = biName b) && isBi c x && chkEs es c (p :: ps)
    | _ => false) = true := h
  clear h
  split at h2
  · rename_i x q qs e
    obtain ⟨p1, p2, rfl⟩ := gCall_eq e
    obtain ⟨h1, h3⟩ := and2 h2
    obtain ⟨h1, h4⟩ := and2 h1
    obtain ⟨g1, m1⟩ := isBi_ok G h4
    obtain ⟨A, ns, _⟩ := p.a c X (q :: qs) G h3
    refine snd_val (pe_biD G.calm (of_decide_eq_true h1) g1 m1 A ns) rfl fun σ h => ?_
    show (evEs Γ es σ h).bind (fun ds h1 => (biD b ds h1).bind trD) = ((evEs Γ es σ h).bind fun ds h1 => biD b ds h1).bind trD
    cases evEs Γ es σ h <;> rfl
  · cases h2
theorem snd_meth {Γ : Gam} {m : Mt} {r : Ex} {es : Exs} (pr : Snd Γ r) (p : SndsR Γ es) : Snd Γ (.meth m r es) := fun c X pe G h => by
  have h2 : (match gMeth pe with
    | some (o, nm, p :: ps, ap, cp) => decide (nm = mtNm m) && decide ((p :: ps).length < 30) && notCall o && (ap.endLine == cp.line) && chkE r c o && chkEs es c (p :: ps)
    | _ => false) = true := h
  clear h
  split at h2
  · rename_i o nm q qs ap cp e
    have e2 := gMeth_eq e
    subst e2
    obtain ⟨h1, h3⟩ := and2 h2
    obtain ⟨h1, h4⟩ := and2 h1
    obtain ⟨h1, h5⟩ := and2 h1
    obtain ⟨h1, h6⟩ := and2 h1
    obtain ⟨h1, h7⟩ := and2 h1
    obtain ⟨A, ns, _⟩ := p.a c X (q :: qs) G h3
    exact snd_no (pe_mtD (of_decide_eq_true h1) (pr c X o G h4).sE A ns (of_decide_eq_true h7) h6 h5) (fun o vs p z => by cases z) (fun _ _ => rfl)
  · cases h2
/-- the parts of a comprehension -/
theorem comp_parts {Γ : Gam} {mu : Bool} {own : List (Str × Nat)} {tg : Tg} {it : It} {cond : Exs} {elt : Ex} (pit : ∀ (c : Ctx) (X : Cx) (pe tg : Expr), Good c Γ X → chkI it c tg pe = true → PI X tg pe (tI X.K (evI Γ it))) (pc : SndsR Γ cond) (pe : Snd Γ elt) {c : Ctx} {X : Cx} {e : Expr} (G : Good c Γ X) (h : chkE (.comp mu own tg it cond elt) c e = true) :
    ∃ pelt ptg pit ifs sc p, e = .ListComp pelt [⟨ptg, pit, ifs, 0⟩] sc p ∧ BlkOk X.N X.env.scope sc own ∧ (∀ i ∈ tgIx tg, i ∈ own.map (·.2)) ∧ notSet pit = true ∧ PI X ptg pit (tI X.K (evI Γ it)) ∧
      (∀ (s : Shared) (H : Hp) (C : Addr) (cl : List (Str × Addr)) (fp : List Addr), PG (X.blk s H sc (compEnvC sc cl C X.env) fp) ptg (tG X.K tg)) ∧
      (∀ (s : Shared) (H : Hp) (C : Addr) (cl : List (Str × Addr)) (fp : List Addr), PTs (X.blk s H sc (compEnvC sc cl C X.env) fp) ifs (tT X.K (evTs Γ cond))) ∧
      (∀ (s : Shared) (H : Hp) (C : Addr) (cl : List (Str × Addr)) (fp : List Addr), PE (X.blk s H sc (compEnvC sc cl C X.env) fp) pelt (tE X.K (evE Γ elt))) := by
  have h2 : (match gLc e with
    | some (pelt, ptg, pit, ifs, sc) => blkC c.N (mkSc c.names) sc own && (tgIx tg).all (fun i => decide (i ∈ own.map (·.2))) && chkTg (blkCtx c sc) tg ptg && notSet pit && chkI it c ptg pit && chkTs cond (blkCtx c sc) ifs && chkE elt (blkCtx c sc) pelt
    | none => false) = true := h
  clear h
  split at h2
  · rename_i pelt ptg pit' ifs sc e2
    obtain ⟨p, rfl⟩ := gLc_eq e2
    obtain ⟨h1, h3⟩ := and2 h2
    obtain ⟨h1, h4⟩ := and2 h1
    obtain ⟨h1, h5⟩ := and2 h1
    obtain ⟨h1, h6⟩ := and2 h1
    obtain ⟨h1, h7⟩ := and2 h1
    obtain ⟨h1, h8⟩ := and2 h1
    have ok := blkC_ok G h1
    have B := fun s H C cl fp => G.blk (sc := sc) ok.kind s H C cl fp
    refine ⟨pelt, ptg, pit', ifs, sc, p, rfl, ok, fun i hi => ?_, h6, pit c X pit' ptg G h5, fun s H C cl fp => chkTg_ok (B s H C cl fp) h7, fun s H C cl fp => pc.t _ _ _ (B s H C cl fp) h4, fun s H C cl fp => (pe _ _ _ (B s H C cl fp) h3).sE⟩
    have := List.all_eq_true.mp h8 i hi
    exact of_decide_eq_true this
  · cases h2
theorem snd_comp {Γ : Gam} {mu : Bool} {own : List (Str × Nat)} {tg : Tg} {it : It} {cond : Exs} {elt : Ex} (pit : ∀ (c : Ctx) (X : Cx) (pe tg : Expr), Good c Γ X → chkI it c tg pe = true → PI X tg pe (tI X.K (evI Γ it))) (pc : SndsR Γ cond) (pe : Snd Γ elt) : Snd Γ (.comp mu own tg it cond elt) := fun c X e G h => by
  obtain ⟨pelt, ptg, pit', ifs, sc, p, rfl, ok, hown, ns, hi, hg, ht, he⟩ := comp_parts pit pc pe G h
  have nd : X.N.Nodup := by rw [G.N]; exact G.nd
  refine snd_no (PE.w (pe_lc G.calm nd hi ok hg ht he (notSet_ok ns)) fun σ H Q q => tLcD hown q) (fun o vs p z => by cases z) (fun _ _ => rfl)
theorem snds_nil (Γ : Gam) : SndsR Γ .nil where
  a := fun c X ps G h => by
    cases ps with
    | nil => exact ⟨pa_nilD, rfl, fun σ h ds h' e => by cases e; rfl⟩
    | cons a b => exact Bool.noConfusion (show false = true from h)
  k := fun c X ps G h => by
    cases ps with
    | nil => exact ⟨pk_nilD, fun σ h ds h' e => by cases e; rfl⟩
    | cons a b => exact Bool.noConfusion (show false = true from h)
  t := fun c X ps G h => by
    cases ps with
    | nil => exact pts_nilD
    | cons a b => exact Bool.noConfusion (show false = true from h)
theorem evEs_len {Γ : Gam} {e : Ex} {es : Exs} {n : Nat} (hn : ∀ σ h ds h', evEs Γ es σ h = .ok ds h' → ds.length = n) : ∀ σ h ds h', evEs Γ (.cons e es) σ h = .ok ds h' → ds.length = n + 1 := by
  intro σ h ds h' q
  have q : ((evE Γ e σ h).bind fun x h1 => (evEs Γ es σ h1).bind fun xs h2 => Res.ok (x :: xs) h2) = .ok ds h' := q
  cases e1 : evE Γ e σ h with
  | stuck => rw [e1] at q; cases q
  | ok d h1 =>
    rw [e1, Res.bind_ok] at q
    cases e2 : evEs Γ es σ h1 with
    | stuck => rw [e2] at q; cases q
    | ok xs h2 =>
      rw [e2, Res.bind_ok] at q
      cases q
      rw [List.length_cons, hn _ _ _ _ e2]
theorem snds_cons {Γ : Gam} {e : Ex} {es : Exs} (p : Snd Γ e) (ps : SndsR Γ es) : SndsR Γ (.cons e es) where
  a := fun c X qs G h => by
    cases qs with
    | nil => exact Bool.noConfusion (show false = true from h)
    | cons q qs =>
      have h : (notStar q && chkE e c q && chkEs es c qs) = true := h
      obtain ⟨h1, h3⟩ := and2 h
      obtain ⟨h1, h4⟩ := and2 h1
      obtain ⟨A, ns, l⟩ := ps.a c X qs G h3
      refine ⟨pa_consD (p c X q G h4).sE A h1, ?_, evEs_len l⟩
      show (notStar q && noStars qs) = true
      rw [h1, ns]
      rfl
  k := fun c X qs G h => by
    cases qs with
    | nil => exact Bool.noConfusion (show false = true from h)
    | cons q qs =>
      have h : (chkE e c q.value && chkKs es c qs) = true := h
      obtain ⟨h1, h3⟩ := and2 h
      obtain ⟨A, l⟩ := ps.k c X qs G h3
      obtain ⟨nm, v, kp⟩ := q
      exact ⟨pk_consD (p c X v G h1).sE A, evEs_len l⟩
  t := fun c X qs G h => by
    match es, qs, h with
    | .nil, [q], h => exact pts_one (p c X q G h).sT
    | .nil, [], h => exact Bool.noConfusion (show false = true from h)
    | .nil, _ :: _ :: _, h => exact Bool.noConfusion (show false = true from h)
    | .cons _ _, [], h => exact Bool.noConfusion (show false = true from h)
    | .cons _ _, [_], h => exact Bool.noConfusion (show false = true from h)
    | .cons _ _, _ :: _ :: _, h => exact Bool.noConfusion (show false = true from h)
mutual
theorem snd (Γ : Gam) : ∀ e : Ex, Snd Γ e
  | .v i => snd_v Γ i
  | .non => snd_non Γ
  | .bl b => snd_bl Γ b
  | .int i => snd_int Γ i
  | .str x => snd_str Γ x
  | .glob g => snd_glob Γ g
  | .op2 _ a b => snd_op2 (snd Γ a) (snd Γ b)
  | .neg a => snd_neg (snd Γ a)
  | .cmp _ a b => snd_cmp (snd Γ a) (snd Γ b)
  | .chain _ _ a b d => snd_chain (snd Γ a) (snd Γ b) (snd Γ d)
  | .isN a => snd_isN (snd Γ a)
  | .notN a => snd_notN (snd Γ a)
  | .isB _ a _ => snd_isB (snd Γ a)
  | .rev a => snd_rev (snd Γ a)
  | .band a b => snd_band (snd Γ a) (snd Γ b)
  | .bor a b => snd_bor (snd Γ a) (snd Γ b)
  | .bnot a => snd_bnot (snd Γ a)
  | .ifx t a b => snd_ifx (snd Γ t) (snd Γ a) (snd Γ b)
  | .tup es => snd_tup (snds Γ es)
  | .lst es => snd_lst (snds Γ es)
  | .lstM es => snd_lstM (snds Γ es)
  | .ix a i => snd_ix (snd Γ a) (snd Γ i)
  | .slice a lo hi => snd_slice (snd Γ a) (sndEo Γ lo) (sndEo Γ hi)
  | .call _ es => snd_call (snds Γ es) (Classical.em _)
  | .callk _ es kes _ => snd_callk (snds Γ es) (snds Γ kes)
  | .isi a _ => snd_isi (snd Γ a)
  | .isiT a _ => snd_isiT (snd Γ a)
  | .bi _ es => snd_bi (snds Γ es)
  | .meth _ r es => snd_meth (snd Γ r) (snds Γ es)
  | .comp _ _ _ it cond elt => snd_comp (sndIt Γ it) (snds Γ cond) (snd Γ elt)
theorem snds (Γ : Gam) : ∀ es : Exs, SndsR Γ es
  | .nil => snds_nil Γ
  | .cons e es => snds_cons (snd Γ e) (snds Γ es)
theorem sndEo (Γ : Gam) : ∀ o : Eo, ∀ e, o = .some e → Snd Γ e
  | .none, e, h => by cases h
  | .some a, e, h => by cases h; exact snd Γ a
theorem sndIt (Γ : Gam) : ∀ it : It, ∀ (c : Ctx) (X : Cx) (pe tg : Expr), Good c Γ X → chkI it c tg pe = true → PI X tg pe (tI X.K (evI Γ it))
  | .ex e, c, X, pe, tg, G, h => pi_seqD (snd Γ e c X pe G h).sE
  | .rvs a, c, X, pe, tg, G, h => by
    have h2 : (match gCall pe with
      | some (x, [y], []) => decide (x = ("reversed" : Str)) && isBi c x && notStar y && chkE a c y
      | _ => false) = true := h
    clear h
    split at h2
    · rename_i x y e
      obtain ⟨p1, p2, rfl⟩ := gCall_eq e
      obtain ⟨h1, h3⟩ := and2 h2
      obtain ⟨h1, h4⟩ := and2 h1
      obtain ⟨h1, h5⟩ := and2 h1
      have ex := of_decide_eq_true h1
      subst ex
      obtain ⟨g1, m1⟩ := isBi_ok G h5
      exact pi_rvsD g1 m1 (snd Γ a c X y G h3).sE h4
    · cases h2
  | .enm a, c, X, pe, tg, G, h => by
    have h2 : (match gCall pe with
      | some (x, [y], []) => (gTup tg).isSome && decide (x = ("enumerate" : Str)) && isBi c x && notStar y && chkE a c y
      | _ => false) = true := h
    clear h
    split at h2
    · rename_i x y e
      obtain ⟨p1, p2, rfl⟩ := gCall_eq e
      obtain ⟨h1, h3⟩ := and2 h2
      obtain ⟨h1, h4⟩ := and2 h1
      obtain ⟨h1, h5⟩ := and2 h1
      obtain ⟨h0, h6⟩ := and2 h1
      have ex := of_decide_eq_true h6
      subst ex
      obtain ⟨es, et⟩ := Option.isSome_iff_exists.mp h0
      obtain ⟨k, tp, rfl⟩ := gTup_eq et
      obtain ⟨g1, m1⟩ := isBi_ok G h5
      exact pi_enmD g1 m1 (snd Γ a c X y G h3).sE h4
    · cases h2
  | .zp a b, c, X, pe, tg, G, h => by
    have h2 : (match gCall pe with
      | some (x, [y, z], []) => (gTup tg).isSome && decide (x = ("zip" : Str)) && isBi c x && notStar y && notStar z && chkE a c y && chkE b c z
      | _ => false) = true := h
    clear h
    split at h2
    · rename_i x y z e
      obtain ⟨p1, p2, rfl⟩ := gCall_eq e
      obtain ⟨h1, h3⟩ := and2 h2
      obtain ⟨h1, h4⟩ := and2 h1
      obtain ⟨h1, h5⟩ := and2 h1
      obtain ⟨h1, h6⟩ := and2 h1
      obtain ⟨h1, h7⟩ := and2 h1
      obtain ⟨h0, h8⟩ := and2 h1
      have ex := of_decide_eq_true h8
      subst ex
      obtain ⟨es, et⟩ := Option.isSome_iff_exists.mp h0
      obtain ⟨k, tp, rfl⟩ := gTup_eq et
      obtain ⟨g1, m1⟩ := isBi_ok G h7
      exact pi_zpD g1 m1 (snd Γ a c X y G h4).sE (snd Γ b c X z G h3).sE h6 h5
    · cases h2
  | .rng1 a, c, X, pe, tg, G, h => by
    have h2 : (match gCall pe with
      | some (x, [y], []) => decide (x = ("range" : Str)) && isBi c x && notStar y && chkE a c y
      | _ => false) = true := h
    clear h
    split at h2
    · rename_i x y e
      obtain ⟨p1, p2, rfl⟩ := gCall_eq e
      obtain ⟨h1, h3⟩ := and2 h2
      obtain ⟨h1, h4⟩ := and2 h1
      obtain ⟨h1, h5⟩ := and2 h1
      have ex := of_decide_eq_true h1
      subst ex
      obtain ⟨g1, m1⟩ := isBi_ok G h5
      exact pi_rng1D g1 m1 (snd Γ a c X y G h3).sE h4
    · cases h2
  | .rng2 a b, c, X, pe, tg, G, h => by
    have h2 : (match gCall pe with
      | some (x, [y, z], []) => decide (x = ("range" : Str)) && isBi c x && notStar y && notStar z && chkE a c y && chkE b c z
      | _ => false) = true := h
    clear h
    split at h2
    · rename_i x y z e
      obtain ⟨p1, p2, rfl⟩ := gCall_eq e
      obtain ⟨h1, h3⟩ := and2 h2
      obtain ⟨h1, h4⟩ := and2 h1
      obtain ⟨h1, h5⟩ := and2 h1
      obtain ⟨h1, h6⟩ := and2 h1
      obtain ⟨h1, h7⟩ := and2 h1
      have ex := of_decide_eq_true h1
      subst ex
      obtain ⟨g1, m1⟩ := isBi_ok G h7
      exact pi_rng2D g1 m1 (snd Γ a c X y G h4).sE (snd Γ b c X z G h3).sE h6 h5
    · cases h2
end

/-! Mini 14: statements. -/

structure PR (K : PySem.W.Frag) (h : Hm) (ρ : List Addr) (H : Hp) (P : Po) (D : Ends) : Prop where
  nx : ∀ σ' h' σV' H' ρ', SR K σ' h' ρ' σV' H' → Kp h ρ H h' ρ' H' → P.nx σ' h' → D.nx σV' H'
  bk : ∀ σ' h' σV' H' ρ', SR K σ' h' ρ' σV' H' → Kp h ρ H h' ρ' H' → P.bk σ' h' → D.bk σV' H'
  ct : ∀ σ' h' σV' H' ρ', SR K σ' h' ρ' σV' H' → Kp h ρ H h' ρ' H' → P.ct σ' h' → D.ct σV' H'
  rt : ∀ d h' v H' ρ', HR K h' ρ' H' → Kp h ρ H h' ρ' H' → Rel K h' ρ' H' d v → P.rt d h' → D.rt v H'
theorem PR.step {K : PySem.W.Frag} {h h1 : Hm} {ρ ρ1 : List Addr} {H H1 : Hp} {P : Po} {D : Ends} (p : PR K h ρ H P D) (k : Kp h ρ H h1 ρ1 H1) : PR K h1 ρ1 H1 P D :=
  ⟨fun _ _ _ _ _ s k' q => p.nx _ _ _ _ _ s (k.trans k') q, fun _ _ _ _ _ s k' q => p.bk _ _ _ _ _ s (k.trans k') q, fun _ _ _ _ _ s k' q => p.ct _ _ _ _ _ s (k.trans k') q, fun _ _ _ _ _ s k' r q => p.rt _ _ _ _ _ s (k.trans k') r q⟩
def tS (K : PySem.W.Frag) (f : Sg → Hm → Po → Prop) : TS := fun D σV H => ∃ σ h ρ P, SR K σ h ρ σV H ∧ f σ h P ∧ PR K h ρ H P D

section
variable {K : PySem.W.Frag} {σ : Sg} {h h' : Hm} {ρ ρ' : List Addr} {σV : L2.St} {H H' : Hp}
theorem tE_wp {f : Sg → Hm → Res D} {R : D → Hm → Prop} {Q : VK} (s : SR K σ h ρ σV H) (w : (f σ h).wp R)
    (c : ∀ d h' v H' ρ', SR K σ h' ρ' σV H' → Kp h ρ H h' ρ' H' → Rel K h' ρ' H' d v → R d h' → Q v H') : tE K f σV H Q :=
  ⟨σ, h, ρ, s, Res.wp_mono w fun d h' q v H' ρ' s' k' r' => c d h' v H' ρ' s' k' r' q⟩
theorem tT_wp {f : Sg → Hm → Res Bool} {R : Bool → Hm → Prop} {Q : Bool → Hp → Prop} (s : SR K σ h ρ σV H) (w : (f σ h).wp R)
    (c : ∀ b h' H' ρ', SR K σ h' ρ' σV H' → Kp h ρ H h' ρ' H' → R b h' → Q b H') : tT K f σV H Q :=
  ⟨σ, h, ρ, s, Res.wp_mono w fun b h' q H' ρ' s' k' => c b h' H' ρ' s' k' q⟩
end

section
variable {X : Cx} {pos : Pos}
/-! ### the small ones -/
def notComp : Expr → Bool
  | .ListComp .. => false
  | .SetComp .. => false
  | .DictComp .. => false
  | _ => true
theorem swaps_no {e : Expr} {t : Option Expr} {l : Nat} {env : Env} (h : notComp e = true) : swapsWith e t l env = pure false := by
  cases e <;> first | exact Bool.noConfusion h | rfl
theorem swaps_sole {e : Expr} {t : Expr} {l : Nat} {env : Env} (h : gNm t = none) : swapsWithSole [t] e l env = pure false := by
  cases t <;> first | (exact absurd h (Option.some_ne_none _)) | (cases e <;> rfl)
def swB (sc : Scope) (p : Pos) (t : Str) (tp : Pos) (names : List (Str × NameKind)) : Bool :=
  decide (names.lookup t = some .local) && tp.line == p.line && !(sc.names.any fun (n, k) => n == t && (k == .local || k == .cell))
theorem swaps_lc {elt : Expr} {gs : List Comprehension} {sc : Scope} {p tp : Pos} {t : Str} {l : Nat} (hk : X.env.scope.kind = .function) : swapsWith (.ListComp elt gs sc p) (some (.Name t tp)) l X.env = pure (swB sc p t tp X.env.scope.names) := by
  have h1 : X.env.blockKind = .function := by
    unfold Env.blockKind
    rw [hk]
    rfl
  show pure (X.env.blockKind == .function && X.env.kindOf t == some .local && tp.line == p.line && !(sc.names.any fun (n, k) => n == t && (k == .local || k == .cell))) = _
  unfold swB
  rw [h1]
  have : (X.env.kindOf t == some .local) = decide (X.env.scope.names.lookup t = some .local) := by
    show (X.env.scope.names.lookup t == some NameKind.local) = _
    rw [Bool.beq_eq_decide_eq]
  rw [this]
  simp
/-- x = e -/
theorem ps_setD {i : Nat} {x : Str} {e : Expr} {p2 : Pos} {f : Sg → Hm → Res D} (hN : X.N.Nodup) (hi : X.N[i]? = some x) (hx : L2.Loc X.env.scope x) (hf : X.fn x = true ∨ X.env.scope.names.lookup x = some .local) (he : PE X e (tE X.K f)) (hs : swapsWith e (some (.Name x p2)) pos.line X.env = pure false) :
    PS X (.Assign [.Name x p2] e pos) (tS X.K fun σ h P => (f σ h).wp fun d h1 => P.nx (σ.set i (some d)) h1) := by
  refine PS.w (ps_set hN hi hx he hs hf) fun D σV H ⟨σ, h, ρ, P, s, q, pr⟩ => ?_
  exact tE_wp s q fun d h1 v H1 ρ1 s1 k1 r1 q => pr.nx _ _ _ _ _ ⟨s1.hp, s1.sl.set r1⟩ k1 q
theorem ps_exD {e : Expr} {f : Sg → Hm → Res D} (he : PE X e (tE X.K f)) (hs : notComp e = true) : PS X (.Expr e pos) (tS X.K fun σ h P => (f σ h).wp fun _ h1 => P.nx σ h1) := by
  refine PS.w (ps_expr he (swaps_no hs)) fun D σV H ⟨σ, h, ρ, P, s, q, pr⟩ => ?_
  exact tE_wp s q fun d h1 v H1 ρ1 s1 k1 r1 q => pr.nx _ _ _ _ _ s1 k1 q
theorem ps_retD {e : Expr} {f : Sg → Hm → Res D} (he : PE X e (tE X.K f)) : PS X (.Return (some e) pos) (tS X.K fun σ h P => (f σ h).wp P.rt) := by
  refine PS.w (ps_ret he) fun D σV H ⟨σ, h, ρ, P, s, q, pr⟩ => ?_
  exact tE_wp s q fun d h1 v H1 ρ1 s1 k1 r1 q => pr.rt _ _ _ _ _ s1.hp k1 r1 q
theorem ps_ifD {c : Expr} {a b : List Stmt} {fc : Sg → Hm → Res Bool} {fa fb : Sg → Hm → Po → Prop} (hc : PT X c (tT X.K fc)) (ha : PSs X a (tS X.K fa)) (hb : PSs X b (tS X.K fb)) :
    PS X (.If c a b pos) (tS X.K fun σ h P => (fc σ h).wp fun t h1 => match t with
    | true => fa σ h1 P
    | false => fb σ h1 P) := by
  refine PS.w (ps_if hc ha hb) fun D σV H ⟨σ, h, ρ, P, s, q, pr⟩ => ?_
  refine tT_wp s q fun t h1 H1 ρ1 s1 k1 q => ?_
  cases t with
  | true => exact iteT ⟨σ, h1, ρ1, P, s1, q, pr.step k1⟩
  | false => exact iteF ⟨σ, h1, ρ1, P, s1, q, pr.step k1⟩
theorem ps_passD : PS X (.Pass pos) (tS X.K fun σ h P => P.nx σ h) := PS.w ps_pass fun D σV H ⟨σ, h, ρ, P, s, q, pr⟩ => pr.nx _ _ _ _ _ s Kps.refl q
theorem ps_brkD : PS X (.Break pos) (tS X.K fun σ h P => P.bk σ h) := PS.w ps_break fun D σV H ⟨σ, h, ρ, P, s, q, pr⟩ => pr.bk _ _ _ _ _ s Kps.refl q
theorem ps_contD : PS X (.Continue pos) (tS X.K fun σ h P => P.ct σ h) := PS.w ps_continue fun D σV H ⟨σ, h, ρ, P, s, q, pr⟩ => pr.ct _ _ _ _ _ s Kps.refl q
theorem ps_nevD {st : Stmt} : PS X st (tS X.K fun _ _ _ => False) := ⟨fun _ _ _ _ _ _ ⟨_, _, _, _, _, q, _⟩ => False.elim q⟩
theorem pss_nilD : PSs X [] (tS X.K fun σ h P => P.nx σ h) := PSs.w pss_nil fun D σV H ⟨σ, h, ρ, P, s, q, pr⟩ => pr.nx _ _ _ _ _ s Kps.refl q
theorem pss_consD {st : Stmt} {rest : List Stmt} {f g : Sg → Hm → Po → Prop} (h1 : PS X st (tS X.K f)) (h2 : PSs X rest (tS X.K g)) : PSs X (st :: rest) (tS X.K fun σ h P => f σ h { P with nx := fun σ' h' => g σ' h' P }) := by
  refine PSs.w (pss_cons h1 h2) fun D σV H ⟨σ, h, ρ, P, s, q, pr⟩ => ?_
  exact ⟨σ, h, ρ, _, s, q, ⟨fun σ' h' σV' H' ρ' s' k' q' => ⟨σ', h', ρ', P, s', q', pr.step k'⟩, pr.bk, pr.ct, pr.rt⟩⟩
/-- a shared list is closed -/
theorem pss_freezeD {sts : List Stmt} {i : Nat} {g : Sg → Hm → Po → Prop} (h2 : PSs X sts (tS X.K g)) : PSs X sts (tS X.K fun σ h P => match σ[i]? with
    | some (some (.ref n)) => match listOf? h n with
      | some xs => g (σ.set i (some (.lst xs))) (h.set n .gone) P
      | none => False
    | _ => False) := by
  refine PSs.w h2 fun D σV H ⟨σ, h, ρ, P, s, q, pr⟩ => ?_
  dsimp only at q
  split at q
  · rename_i n e1
    split at q
    · rename_i xs e2
      obtain ⟨v, e3, r⟩ := s.sl.get i _ e1
      cases r with
      | @ref _ a ea =>
        have eh := listOf_eq e2
        obtain ⟨hr, rl⟩ := s.hp.close ea eh
        have kc : Kp h ρ H (h.set n .gone) ρ H := Kp.close ea eh
        have sl : SlR X.K H ρ (Mu ρ (h.set n .gone)) (σ.set i (some (.lst xs))) σV := by
          have z := (s.sl.mono kc).set (i := i) rl
          have : σV.set i (some (V.ref a)) = σV := by
            apply List.ext_getElem?
            intro j
            rw [List.getElem?_set]
            split
            · rename_i hj
              subst hj
              split
              · exact e3.symm
              · rename_i hl
                rw [List.getElem?_eq_none (by omega)]
            · rfl
          rw [this] at z
          exact z
        exact ⟨_, _, ρ, P, ⟨hr, sl⟩, q, pr.step kc⟩
    · exact False.elim q
  · exact False.elim q

/-! ### targets of several names -/
theorem swapped_no {ts : List Expr} {k : Nat} {p : Pos} {e : Expr} {env : Env} (h : gTup e = none) : swappedStores [.Tuple ts k p] e env = pure none := by
  cases e <;> first | (exact absurd h (Option.some_ne_none _)) | rfl
theorem ps_asgD {is : List Nat} {es : List Expr} {k : Nat} {p : Pos} {e : Expr} {f : Sg → Hm → Res D} (hN : X.N.Nodup) (hc : X.calm = true) (ht : NmT X is es) (he : PE X e (tE X.K f)) (hw : swappedStores [.Tuple es k p] e X.env = pure none) :
    PS X (.Assign [.Tuple es k p] e pos) (tS X.K fun σ h P => (f σ h).wp fun d h1 => match asgD (.tup is) d σ with
    | some σ' => P.nx σ' h1
    | none => False) := by
  refine PS.w (ps_asg he (pg_tupD hN hc ht) (swaps_sole rfl) hw (by rfl)) fun D σV H ⟨σ, h, ρ, P, s, q, pr⟩ => ?_
  refine tE_wp s q fun d h1 v H1 ρ1 s1 k1 r1 q => ?_
  cases ea : asgD (.tup is) d σ with
  | none => rw [ea] at q; exact False.elim q
  | some σ' =>
    rw [ea] at q
    exact ⟨σ, h1, ρ1, d, σ', s1, r1, ea, fun σV' s2 _ => pr.nx _ _ _ _ _ s2 k1 q⟩
/-- a, b = x, y -/
def parB (names : List (Str × NameKind)) (x y : Str) (px py : Pos) (a b : Expr) : Bool :=
  decide (names.lookup x = some .local) && decide (names.lookup y = some .local) && (py.line == px.line) && !(x == y) && notStar a && notStar b && !([a, b].all (foldedForSure 8)) && !([a, b].all (constantsAlone 8))
theorem swapped_par {x y : Str} {px py pt p2 : Pos} {k k2 : Nat} {a b : Expr} (hk : X.env.scope.kind = .function) (h : parB X.env.scope.names x y px py a b = true) :
    swappedStores [.Tuple [.Name x px, .Name y py] k pt] (.Tuple [a, b] k2 p2) X.env = pure (some [x, y]) := by
  unfold parB at h
  obtain ⟨h, h8⟩ := and2 h
  obtain ⟨h, h7⟩ := and2 h
  obtain ⟨h, h6⟩ := and2 h
  obtain ⟨h, h5⟩ := and2 h
  obtain ⟨h, h4⟩ := and2 h
  obtain ⟨h, h3⟩ := and2 h
  obtain ⟨h1, h2⟩ := and2 h
  have e1 : X.env.kindOf x = some .local := of_decide_eq_true h1
  have e2 : X.env.kindOf y = some .local := of_decide_eq_true h2
  have e4 : (x == y) = false := by simpa using h4
  have e4' : (y == x) = false := by
    have : x ≠ y := by simpa using e4
    simpa using this.symm
  have e7 : ([a, b].all (foldedForSure 8)) = false := by rw [Bool.not_eq_true'] at h7; exact h7
  have e8 : ([a, b].all (constantsAlone 8)) = false := by rw [Bool.not_eq_true'] at h8; exact h8
  have bk : X.env.blockKind = .function := by
    unfold Env.blockKind
    rw [hk]
    rfl
  have st : ([a, b].any fun e => match e with | .Starred .. => true | _ => false) = false := by
    have q : ∀ e, notStar e = true → (match e with | Expr.Starred .. => true | _ => false) = false := by
      intro e h
      cases e <;> first | exact Bool.noConfusion h | rfl
    simp [List.any_cons, q a h5, q b h6]
  have l3 : py.line = px.line := by simpa using h3
  have n1 : (X.env.kindOf x == some NameKind.local && px.line == px.line) = true := by rw [e1]; simp
  have n2 : (X.env.kindOf y == some NameKind.local && py.line == px.line) = true := by rw [e2, l3]; simp
  have nd : ([x, y] : List Str).eraseDups = [x, y] := by
    rw [List.eraseDups_cons]
    simp [List.filter_cons, e4', List.eraseDups_cons]
  have fm : ([Expr.Name x px, Expr.Name y py].filterMap fun e => match e with
    | .Name id pos => if (X.env.kindOf id == some NameKind.local && pos.line == px.line) = true then some id else none
    | _ => none) = [x, y] := by
    simp only [List.filterMap_cons, List.filterMap_nil, n1, n2, if_true]
  unfold swappedStores
  simp only [bk, fm, nd, st, e7, e8, List.length_cons, List.length_nil, List.head?_cons, Option.map_some, Option.getD_some, Expr.pos]
  refine Eq.trans (if_neg (by decide)) ?_
  refine Eq.trans (if_neg fun z => ?_) ?_
  · rw [List.any_eq_true] at z
    obtain ⟨e, he, hz⟩ := z
    have hn : notStar e = true := by
      rcases List.mem_cons.mp he with rfl | he
      · exact h5
      · rcases List.mem_cons.mp he with rfl | he
        · exact h6
        · cases he
    split at hz
    · exact Bool.noConfusion hn
    · cases hz
  · simp only [List.filterMap_cons, List.filterMap_nil, n1, n2, if_true, nd]
    simp
theorem ps_parD {i j : Nat} {x y : Str} {a b : Expr} {px py pt p2 : Pos} {k k2 : Nat} {fa fb : Sg → Hm → Res D} (hN : X.N.Nodup) (hk : X.env.scope.kind = .function) (hc : X.calm = true) (hi : X.N[i]? = some x) (hj : X.N[j]? = some y) (hij : i ≠ j) (h : parB X.env.scope.names x y px py a b = true)
    (ha : PE X a (tE X.K fa)) (hb : PE X b (tE X.K fb)) :
    PS X (.Assign [.Tuple [.Name x px, .Name y py] k pt] (.Tuple [a, b] k2 p2) pos) (tS X.K fun σ h P => (fa σ h).wp fun u h1 => (fb σ h1).wp fun v h2 => P.nx ((σ.set i (some u)).set j (some v)) h2) := by
  have h' := h
  unfold parB at h'
  obtain ⟨h', _⟩ := and2 h'
  obtain ⟨h', _⟩ := and2 h'
  obtain ⟨h', h6⟩ := and2 h'
  obtain ⟨h', h5⟩ := and2 h'
  obtain ⟨h', _⟩ := and2 h'
  obtain ⟨h', _⟩ := and2 h'
  obtain ⟨h1, h2⟩ := and2 h'
  have pa : PA X [a, b] (tCons (tE X.K fa) (tCons (tE X.K fb) tNil)) := pa_cons ha (pa_cons hb pa_nil (star_cons h6)) (star_cons h5)
  refine PS.w (ps_par hc hN hi hj hij (of_decide_eq_true h1) (of_decide_eq_true h2) pa (swapped_par hk h) (swaps_sole rfl)) fun D σV H ⟨σ, h, ρ, P, s, q, pr⟩ => ?_
  refine tE_wp s q fun d h1 v H1 ρ1 s1 k1 r1 q => ?_
  refine tE_wp s1 q fun e h2 w H2 ρ2 s2 k2 r2 q => ?_
  exact ⟨v, w, rfl, pr.nx _ _ _ _ _ ⟨s2.hp, (s2.sl.set (r1.mono k2)).set r2⟩ (k1.trans k2) q⟩
/-- o[i] = e -/
theorem ps_setixD {o i e : Expr} {p : Pos} {fo fi fe : Sg → Hm → Res D} (ho : PE X o (tE X.K fo)) (hi : PE X i (tE X.K fi)) (he : PE X e (tE X.K fe)) (hpi : plainIx i = true) :
    PS X (.Assign [.Subscript o i p] e pos) (tS X.K fun σ h P => (fe σ h).wp fun d h1 => (fo σ h1).wp fun x h2 => (fi σ h2).wp fun y h3 => match x, y with
    | .ref n, .int k => match listOf? h3 n with
      | some xs => match ixN xs.length k with
        | some j => P.nx σ (h3.set n (.lst (xs.set j d)))
        | none => False
      | none => False
    | _, _ => False) := by
  refine PS.w (ps_asg he (pg_sub ho hi set_list (by intro v; cases i <;> first | exact Bool.noConfusion hpi | rfl)) (swaps_sole rfl) (by cases e <;> rfl) (by rfl)) fun D σV H ⟨σ, h, ρ, P, s, q, pr⟩ => ?_
  refine tE_wp s q fun d h1 v H1 ρ1 s1 k1 r1 q => ?_
  refine tE_wp s1 q fun x h2 w H2 ρ2 s2 k2 r2 q => ?_
  refine tE_wp s2 q fun y h3 z H3 ρ3 s3 k3 r3 q => ?_
  cases x with
  | ref n =>
    cases y with
    | int k =>
      have q : (match listOf? h3 n with
        | some xs => match ixN xs.length k with
          | some j => P.nx σ (h3.set n (.lst (xs.set j d)))
          | none => False
        | none => False) := q
      cases e2 : listOf? h3 n with
      | none => rw [e2] at q; exact False.elim q
      | some xs =>
        rw [e2] at q
        dsimp only at q
        cases e3 : ixN xs.length k with
        | none => rw [e3] at q; exact False.elim q
        | some j =>
          rw [e3] at q
          have r2' := RD.mono k3 r2
          cases r2' with
          | @ref _ a ea =>
            obtain ⟨vs, h4, h5⟩ := s3.hp.ref ea e2
            have eh := listOf_eq e2
            have r4 : Rels X.K h3 ρ3 H3 (xs.set j d) (vs.set j v) := h5.set j (r1.mono (k2.trans k3))
            have kw : Kp h3 ρ3 H3 (h3.set n (.lst (xs.set j d))) ρ3 (upd H3 a (.lst (vs.set j v))) := Kp.write ea eh
            exact ⟨a, vs, k, j, rfl, rI_int r3, h4, by rw [← h5.length]; exact e3, pr.nx _ _ _ _ _ (s3.of (s3.hp.write ea eh r4) kw) (((k1.trans k2).trans k3).trans kw) q⟩
    | _ => exact False.elim q
  | _ => cases y <;> exact False.elim q
/-! ### loops -/
theorem ps_forD {tg iter : Expr} {body : List Stmt} {tgD : Tg} {fi : Sg → Hm → Res (List D)} {fb : Sg → Hm → Po → Prop} (hp : PassesOwn (model X.prog X.w) X.A X.env X.xe) (hc : X.calm = true) (hi : PI X tg iter (tI X.K fi)) (hg : PG X tg (tG X.K tgD)) (hb : PSs X body (tS X.K fb)) (hs : notSet iter = true) :
    PS X (.For tg iter body [] pos) (tS X.K fun σ h P => (fi σ h).wp fun xs h1 => wpFor (fun x σ1 h2 P1 => match asgD tgD x σ1 with
    | some σ2 => fb σ2 h2 P1
    | none => False) xs σ h1 P) := by
  refine PS.w (ps_for hp hc hi hg hb (notSet_ok hs)) fun D σV H ⟨σ, h, ρ, P, s, q, pr⟩ => ?_
  refine ⟨σ, h, ρ, s, Res.wp_mono q fun xs h1 q J H1 ρ1 s1 k1 it => ?_⟩
  generalize hf : (fun (x : Mn.D) (σ1 : Sg) (h2 : Hm) (P1 : Po) => match asgD tgD x σ1 with
    | some σ2 => fb σ2 h2 P1
    | none => False) = f at q
  refine ⟨fun i m σV2 H2 => ∃ σ h2 ρ2, SR X.K σ h2 ρ2 σV2 H2 ∧ Kp h1 ρ1 H1 h2 ρ2 H2 ∧ m = xs.length - i ∧ i ≤ xs.length ∧ wpFor f (xs.drop i) σ h2 P, ⟨xs.length, σ, h1, ρ1, s1, Kps.refl, by simp, Nat.zero_le _, by rw [List.drop_zero]; exact q⟩, ?_⟩
  rintro i m σV2 H2 ⟨σ2, h2, ρ2, s2, k2, rfl, hi, q⟩
  obtain ⟨it1, it2⟩ := it h2 ρ2 H2 s2.hp k2
  by_cases hlt : i < xs.length
  · have ex : xs[i]? = some xs[i] := List.getElem?_eq_getElem hlt
    rw [List.drop_eq_getElem_cons hlt] at q
    obtain ⟨go, yl⟩ := it1 i _ ex
    refine .inr ⟨go, _, fun σ' H' n => ⟨xs.length - (i + 1), by omega, n⟩, fun x H3 y => ?_⟩
    obtain ⟨r3, k3, rx⟩ := yl x H3 y
    unfold wpFor at q
    have q : (match asgD tgD xs[i] σ2 with
      | some σ2 => fb σ2 h2 { P with nx := fun σ' h' => wpFor f (xs.drop (i + 1)) σ' h' P, ct := fun σ' h' => wpFor f (xs.drop (i + 1)) σ' h' P, bk := P.nx }
      | none => False) := by
        rw [← hf] at q ⊢
        exact q
    cases ea : asgD tgD xs[i] σ2 with
    | none => rw [ea] at q; exact False.elim q
    | some σ3 =>
      rw [ea] at q
      refine ⟨σ2, h2, ρ2, xs[i], σ3, s2.of r3 k3, rx, ea, fun σV' s4 _ => ⟨σ3, h2, ρ2, _, s4, q, ?_⟩⟩
      have k4 := k2.trans k3
      exact ⟨fun σ' h' σV' H' ρ' s' k' q' => ⟨σ', h', ρ', s', k4.trans k', rfl, hlt, q'⟩, fun σ' h' σV' H' ρ' s' k' q' => pr.nx _ _ _ _ _ s' ((k1.trans k4).trans k') q',
        fun σ' h' σV' H' ρ' s' k' q' => ⟨σ', h', ρ', s', k4.trans k', rfl, hlt, q'⟩, fun d h' v H' ρ' s' k' r q' => pr.rt _ _ _ _ _ s' ((k1.trans k4).trans k') r q'⟩
  · have e : i = xs.length := by omega
    subst e
    rw [List.drop_length] at q
    exact .inl ⟨it2, pr.nx _ _ _ _ _ s2 (k1.trans k2) q⟩
theorem ps_whileD {c : Expr} {body : List Stmt} {fc : Sg → Hm → Res Bool} {fb : Sg → Hm → Po → Prop} (hp : PassesOwn (model X.prog X.w) X.A X.env X.xe) (hc : PT X c (tT X.K fc)) (hb : PSs X body (tS X.K fb)) :
    PS X (.While c body [] pos) (tS X.K fun σ h P => ∃ n, wpWhile fc fb n σ h P) := by
  refine PS.w (ps_while hp hc hb) fun D σV H ⟨σ, h, ρ, P, s, ⟨n, q⟩, pr⟩ => ?_
  refine ⟨fun m σV2 H2 => ∃ σ h2 ρ2, SR X.K σ h2 ρ2 σV2 H2 ∧ Kp h ρ H h2 ρ2 H2 ∧ wpWhile fc fb m σ h2 P, ⟨n, σ, h, ρ, s, Kps.refl, q⟩, ?_⟩
  rintro m σV2 H2 ⟨σ2, h2, ρ2, s2, k2, q⟩
  cases m with
  | zero => exact False.elim q
  | succ m =>
    unfold wpWhile at q
    refine tT_wp s2 q fun b h3 H3 ρ3 s3 k3 q => ?_
    have k4 := k2.trans k3
    cases b with
    | true =>
      refine iteT ⟨fun σV' H' => ∃ σ h2 ρ2, SR X.K σ h2 ρ2 σV' H' ∧ Kp h ρ H h2 ρ2 H' ∧ wpWhile fc fb m σ h2 P, fun σ' H' n => ⟨m, Nat.lt_succ_self _, n⟩, σ2, h3, ρ3, _, s3, q, ?_⟩
      exact ⟨fun σ' h' σV' H' ρ' s' k' q' => ⟨σ', h', ρ', s', k4.trans k', q'⟩, fun σ' h' σV' H' ρ' s' k' q' => pr.nx _ _ _ _ _ s' (k4.trans k') q',
        fun σ' h' σV' H' ρ' s' k' q' => ⟨σ', h', ρ', s', k4.trans k', q'⟩, fun d h' v H' ρ' s' k' r q' => pr.rt _ _ _ _ _ s' (k4.trans k') r q'⟩
    | false => exact iteF (pr.nx _ _ _ _ _ s3 k4 q)
end

/-! Mini 15: blocks of the small language are sound; a def by its body. -/

def gAsg : Stmt → Option (Expr × Expr × Pos) | .Assign [t] v p => some (t, v, p) | _ => none
def gExS : Stmt → Option Expr | .Expr e _ => some e | _ => none
def gRet : Stmt → Option Expr | .Return (some e) _ => some e | _ => none
def gIfS : Stmt → Option (Expr × List Stmt × List Stmt) | .If c a b _ => some (c, a, b) | _ => none
def gFor : Stmt → Option (Expr × Expr × List Stmt) | .For t i b [] _ => some (t, i, b) | _ => none
def gWh : Stmt → Option (Expr × List Stmt) | .While c b [] _ => some (c, b) | _ => none
def isBrk : Stmt → Bool | .Break _ => true | _ => false
def isCont : Stmt → Bool | .Continue _ => true | _ => false
def isPass : Stmt → Bool | .Pass _ => true | _ => false
def gNmP : Expr → Option (Str × Pos) | .Name x p => some (x, p) | _ => none
def gTupP : Expr → Option (List Expr × Nat × Pos) | .Tuple es k p => some (es, k, p) | _ => none
def gLcP : Expr → Option (Scope × Pos) | .ListComp _ _ sc p => some (sc, p) | _ => none
theorem gAsg_eq {s : Stmt} {t v : Expr} {p : Pos} (h : gAsg s = some (t, v, p)) : s = .Assign [t] v p := by
  cases s <;> first | cases h | skip
  rename_i ts v p
  match ts, h with
  | [t], h => cases h; rfl
theorem gExS_eq {s : Stmt} {e : Expr} (h : gExS s = some e) : ∃ p, s = .Expr e p := by
  cases s <;> first | cases h | skip
  exact ⟨_, rfl⟩
theorem gRet_eq {s : Stmt} {e : Expr} (h : gRet s = some e) : ∃ p, s = .Return (some e) p := by
  cases s <;> first | cases h | skip
  rename_i o p
  cases o <;> cases h
  exact ⟨_, rfl⟩
theorem gIfS_eq {s : Stmt} {c : Expr} {a b : List Stmt} (h : gIfS s = some (c, a, b)) : ∃ p, s = .If c a b p := by
  cases s <;> first | cases h | skip
  exact ⟨_, rfl⟩
theorem gFor_eq {s : Stmt} {t i : Expr} {b : List Stmt} (h : gFor s = some (t, i, b)) : ∃ p, s = .For t i b [] p := by
  cases s <;> first | cases h | skip
  rename_i t i b o p
  cases o <;> cases h
  exact ⟨_, rfl⟩
theorem gWh_eq {s : Stmt} {c : Expr} {b : List Stmt} (h : gWh s = some (c, b)) : ∃ p, s = .While c b [] p := by
  cases s <;> first | cases h | skip
  rename_i c b o p
  cases o <;> cases h
  exact ⟨_, rfl⟩
theorem gNmP_eq {e : Expr} {x : Str} {p : Pos} (h : gNmP e = some (x, p)) : e = .Name x p := by
  cases e <;> first | cases h | skip
  rfl
theorem gTupP_eq {e : Expr} {es : List Expr} {k : Nat} {p : Pos} (h : gTupP e = some (es, k, p)) : e = .Tuple es k p := by
  cases e <;> first | cases h | skip
  rfl

/-- the stores of a tuple's names go the plain way -/
def swNo (ts : List Expr) (v : Expr) : Bool := (match gTup v with | none => true | some _ => false) || !(ts.length == 2 || ts.length == 3)
theorem swNo_ok {X : Cx} {ts : List Expr} {k : Nat} {p : Pos} {v : Expr} (h : swNo ts v = true) : swappedStores [.Tuple ts k p] v X.env = pure none := by
  cases e : gTup v with
  | none => exact swapped_no e
  | some vs =>
    obtain ⟨k2, p2, rfl⟩ := gTup_eq e
    unfold swNo at h
    rw [e] at h
    have h : (false || !(ts.length == 2 || ts.length == 3)) = true := h
    rw [Bool.false_or] at h
    unfold swappedStores
    simp only []
    refine if_pos ?_
    rw [h]
    rfl
/-- is a value swapped as it is stored? -/
def lcSw (c : Ctx) (x : Str) (px : Pos) (v : Expr) : Bool := match gLcP v with
  | some (sc, p) => swB sc p x px c.names
  | none => false

mutual
def chkS : Stm → Ctx → Stmt → Bool
  | .set i e, c, st => match gAsg st with
    | some (t, v, _) => (match gNmP t with
      | some (x, _) => decide (c.N[i]? = some x) && isLoc c x && (notComp v || (gLcP v).isSome) && chkE e c v
      | none => false)
    | none => false
  | .asg is e, c, st => match gAsg st with
    | some (t, v, _) => (match gTupP t with
      | some (es, _, _) => chkNms c is es && swNo es v && chkE e c v
      | none => false)
    | none => false
  | .par i j a b, c, st => match gAsg st with
    | some (t, v, _) => (match gTupP t, gTupP v with
      | some ([t1, t2], _, _), some ([v1, v2], _, _) => (match gNmP t1, gNmP t2 with
        | some (x, px), some (y, py) => decide (c.N[i]? = some x) && decide (c.N[j]? = some y) && decide (i ≠ j) && parB c.names x y px py v1 v2 && chkE a c v1 && chkE b c v2
        | _, _ => false)
      | _, _ => false)
    | none => false
  | .setix o i e, c, st => match gAsg st with
    | some (t, v, _) => (match gSub t with
      | some (x, y) => plainIx y && chkE o c x && chkE i c y && chkE e c v
      | none => false)
    | none => false
  | .ex e, c, st => match gExS st with
    | some v => notComp v && chkE e c v
    | none => false
  | .ret e, c, st => match gRet st with
    | some v => chkE e c v
    | none => false
  | .ife t a b, c, st => match gIfS st with
    | some (x, y, z) => chkE t c x && chkB a c y && chkB b c z
    | none => false
  | .for_ tg it b, c, st => match gFor st with
    | some (x, y, z) => chkTg c tg x && chkI it c x y && notSet y && chkB b c z
    | none => false
  | .while_ t b, c, st => match gWh st with
    | some (x, y) => chkE t c x && chkB b c y
    | none => false
  | .brk, _, st => isBrk st
  | .cont, _, st => isCont st
  | .pass, _, st => isPass st
  | .freeze _, _, _ => false
  | .never, _, _ => true
def chkB : Blk → Ctx → List Stmt → Bool
  | .nil, _, [] => true
  | .cons (.freeze _) b, c, ss => chkB b c ss
  | .cons s b, c, st :: ss => chkS s c st && chkB b c ss
  | _, _, _ => false
end

structure GoodS (c : Ctx) (Γ : Gam) (X : Cx) : Prop where
  g : Good c Γ X
  p : PassesOwn (model X.prog X.w) X.A X.env X.xe
def SndS (Γ : Gam) (s : Stm) : Prop := ∀ (c : Ctx) (X : Cx) (st : Stmt), GoodS c Γ X → chkS s c st = true → PS X st (tS X.K (wpS Γ s))
def SndB (Γ : Gam) (b : Blk) : Prop := ∀ (c : Ctx) (X : Cx) (ss : List Stmt), GoodS c Γ X → chkB b c ss = true → PSs X ss (tS X.K (wpB Γ b))
theorem comp_of {e : Ex} {c : Ctx} {elt : Expr} {gs : List Comprehension} {sc : Scope} {p : Pos} (h : chkE e c (.ListComp elt gs sc p) = true) : ∃ mu own tg it cond el, e = .comp mu own tg it cond el := by
  cases e <;> first | exact Bool.noConfusion (show false = true from h) | exact ⟨_, _, _, _, _, _, rfl⟩
theorem sndS_set (Γ : Gam) (i : Nat) (e : Ex) : SndS Γ (.set i e) := fun c X st G h => by
  have h2 : (match gAsg st with
    | some (t, v, _) => (match gNmP t with
      | some (x, _) => decide (c.N[i]? = some x) && isLoc c x && (notComp v || (gLcP v).isSome) && chkE e c v
      | none => false)
    | none => false) = true := h
  clear h
  split at h2
  · rename_i t v p e1
    have := gAsg_eq e1
    subst this
    split at h2
    · rename_i x px e2
      have := gNmP_eq e2
      subst this
      obtain ⟨h1, h3⟩ := and2 h2
      obtain ⟨h1, h4⟩ := and2 h1
      obtain ⟨h1, h5⟩ := and2 h1
      have nd : X.N.Nodup := by rw [G.g.N]; exact G.g.nd
      have hi : X.N[i]? = some x := by rw [G.g.N]; exact of_decide_eq_true h1
      have l := isLoc_ok G.g h5
      cases hc : notComp v with
      | true => exact ps_setD nd hi l.1 l.2 (snd Γ e c X v G.g h3).sE (swaps_no hc)
      | false =>
        rw [hc, Bool.false_or] at h4
        cases v with
        | ListComp elt gs sc p2 =>
          cases hs : swB sc p2 x px X.env.scope.names with
          | false => exact ps_setD nd hi l.1 l.2 (snd Γ e c X _ G.g h3).sE (by rw [swaps_lc G.g.kind, hs])
          | true =>
            obtain ⟨mu, own, tg, it, cond, el, rfl⟩ := comp_of h3
            obtain ⟨pelt, ptg, pit', ifs, sc', p3, e3, ok, hown, ns, hit, hg, ht, he⟩ := comp_parts (sndIt Γ it) (snds Γ cond) (snd Γ el) G.g h3
            cases e3
            have hy : X.env.scope.names.lookup x = some .local := by
              unfold swB at hs
              obtain ⟨hs, _⟩ := and2 hs
              exact of_decide_eq_true (and2 hs).1
            refine PS.w (ps_setLc (i := i) G.g.calm nd hi hy (by rw [swaps_lc G.g.kind, hs]) hit ok hg ht he (notSet_ok ns)) fun D σV H ⟨σ, h, ρ, P, s, q, pr⟩ => ?_
            refine tLcD (mu := mu) (Q := fun x H1 => gName i x σV H1 D.nx) hown ?_
            exact tE_wp s q fun d h1 v H1 ρ1 s1 k1 r1 q => pr.nx _ _ _ _ _ ⟨s1.hp, s1.sl.set r1⟩ k1 q
        | _ => exact Bool.noConfusion (show false = true from h4)
    · cases h2
  · cases h2
theorem sndS_asg (Γ : Gam) (is : List Nat) (e : Ex) : SndS Γ (.asg is e) := fun c X st G h => by
  have h2 : (match gAsg st with
    | some (t, v, _) => (match gTupP t with
      | some (es, _, _) => chkNms c is es && swNo es v && chkE e c v
      | none => false)
    | none => false) = true := h
  clear h
  split at h2
  · rename_i t v p e1
    have := gAsg_eq e1
    subst this
    split at h2
    · rename_i es k p2 e2
      have := gTupP_eq e2
      subst this
      obtain ⟨h1, h3⟩ := and2 h2
      obtain ⟨h1, h4⟩ := and2 h1
      have nd : X.N.Nodup := by rw [G.g.N]; exact G.g.nd
      exact ps_asgD nd G.g.calm (chkNms_ok G.g h1) (snd Γ e c X v G.g h3).sE (swNo_ok h4)
    · cases h2
  · cases h2
theorem sndS_par (Γ : Gam) (i j : Nat) (a b : Ex) : SndS Γ (.par i j a b) := fun c X st G h => by
  have h2 : (match gAsg st with
    | some (t, v, _) => (match gTupP t, gTupP v with
      | some ([t1, t2], _, _), some ([v1, v2], _, _) => (match gNmP t1, gNmP t2 with
        | some (x, px), some (y, py) => decide (c.N[i]? = some x) && decide (c.N[j]? = some y) && decide (i ≠ j) && parB c.names x y px py v1 v2 && chkE a c v1 && chkE b c v2
        | _, _ => false)
      | _, _ => false)
    | none => false) = true := h
  clear h
  split at h2
  · rename_i t v p e1
    have := gAsg_eq e1
    subst this
    split at h2
    · rename_i t1 t2 k p2 v1 v2 k2 p3 e2 e3
      have := gTupP_eq e2
      subst this
      have := gTupP_eq e3
      subst this
      split at h2
      · rename_i x px y py e4 e5
        have := gNmP_eq e4
        subst this
        have := gNmP_eq e5
        subst this
        obtain ⟨h1, h3⟩ := and2 h2
        obtain ⟨h1, h4⟩ := and2 h1
        obtain ⟨h1, h5⟩ := and2 h1
        obtain ⟨h1, h6⟩ := and2 h1
        obtain ⟨h1, h7⟩ := and2 h1
        have nd : X.N.Nodup := by rw [G.g.N]; exact G.g.nd
        exact ps_parD nd G.g.kind G.g.calm (by rw [G.g.N]; exact of_decide_eq_true h1) (by rw [G.g.N]; exact of_decide_eq_true h7) (of_decide_eq_true h6) (by rw [G.g.names]; exact h5) (snd Γ a c X v1 G.g h4).sE (snd Γ b c X v2 G.g h3).sE
      · cases h2
    · cases h2
  · cases h2
theorem sndS_setix (Γ : Gam) (o i e : Ex) : SndS Γ (.setix o i e) := fun c X st G h => by
  have h2 : (match gAsg st with
    | some (t, v, _) => (match gSub t with
      | some (x, y) => plainIx y && chkE o c x && chkE i c y && chkE e c v
      | none => false)
    | none => false) = true := h
  clear h
  split at h2
  · rename_i t v p e1
    have := gAsg_eq e1
    subst this
    split at h2
    · rename_i x y e2
      obtain ⟨p2, rfl⟩ := gSub_eq e2
      obtain ⟨h1, h3⟩ := and2 h2
      obtain ⟨h1, h4⟩ := and2 h1
      obtain ⟨h1, h5⟩ := and2 h1
      exact ps_setixD (snd Γ o c X x G.g h5).sE (snd Γ i c X y G.g h4).sE (snd Γ e c X v G.g h3).sE h1
    · cases h2
  · cases h2
theorem sndS_ex (Γ : Gam) (e : Ex) : SndS Γ (.ex e) := fun c X st G h => by
  have h2 : (match gExS st with
    | some v => notComp v && chkE e c v
    | none => false) = true := h
  clear h
  split at h2
  · rename_i v e1
    obtain ⟨p, rfl⟩ := gExS_eq e1
    obtain ⟨h1, h3⟩ := and2 h2
    exact ps_exD (snd Γ e c X v G.g h3).sE h1
  · cases h2
theorem sndS_ret (Γ : Gam) (e : Ex) : SndS Γ (.ret e) := fun c X st G h => by
  have h2 : (match gRet st with
    | some v => chkE e c v
    | none => false) = true := h
  clear h
  split at h2
  · rename_i v e1
    obtain ⟨p, rfl⟩ := gRet_eq e1
    exact ps_retD (snd Γ e c X v G.g h2).sE
  · cases h2
theorem sndS_ife {Γ : Gam} {t : Ex} {a b : Blk} (pa : SndB Γ a) (pb : SndB Γ b) : SndS Γ (.ife t a b) := fun c X st G h => by
  have h2 : (match gIfS st with
    | some (x, y, z) => chkE t c x && chkB a c y && chkB b c z
    | none => false) = true := h
  clear h
  split at h2
  · rename_i x y z e1
    obtain ⟨p, rfl⟩ := gIfS_eq e1
    obtain ⟨h1, h3⟩ := and2 h2
    obtain ⟨h1, h4⟩ := and2 h1
    exact ps_ifD (snd Γ t c X x G.g h1).sT (pa c X y G h4) (pb c X z G h3)
  · cases h2
theorem sndS_for {Γ : Gam} {tg : Tg} {it : It} {b : Blk} (pb : SndB Γ b) : SndS Γ (.for_ tg it b) := fun c X st G h => by
  have h2 : (match gFor st with
    | some (x, y, z) => chkTg c tg x && chkI it c x y && notSet y && chkB b c z
    | none => false) = true := h
  clear h
  split at h2
  · rename_i x y z e1
    obtain ⟨p, rfl⟩ := gFor_eq e1
    obtain ⟨h1, h3⟩ := and2 h2
    obtain ⟨h1, h4⟩ := and2 h1
    obtain ⟨h1, h5⟩ := and2 h1
    exact ps_forD G.p G.g.calm (sndIt Γ it c X y x G.g h5) (chkTg_ok G.g h1) (pb c X z G h3) h4
  · cases h2
theorem sndS_while {Γ : Gam} {t : Ex} {b : Blk} (pb : SndB Γ b) : SndS Γ (.while_ t b) := fun c X st G h => by
  have h2 : (match gWh st with
    | some (x, y) => chkE t c x && chkB b c y
    | none => false) = true := h
  clear h
  split at h2
  · rename_i x y e1
    obtain ⟨p, rfl⟩ := gWh_eq e1
    obtain ⟨h1, h3⟩ := and2 h2
    exact ps_whileD G.p (snd Γ t c X x G.g h1).sT (pb c X y G h3)
  · cases h2
theorem sndB_cons {Γ : Gam} {s : Stm} {b : Blk} (hs : ∀ i, s ≠ .freeze i) (ps : SndS Γ s) (pb : SndB Γ b) : SndB Γ (.cons s b) := fun c X ss G h => by
  cases ss with
  | nil => cases s <;> first | exact absurd rfl (hs _) | exact Bool.noConfusion (show false = true from h)
  | cons st ss =>
    have h : (chkS s c st && chkB b c ss) = true := by cases s <;> first | exact absurd rfl (hs _) | exact h
    obtain ⟨h1, h3⟩ := and2 h
    have q := pss_consD (ps c X st G h1) (pb c X ss G h3)
    exact q
mutual
theorem sndS (Γ : Gam) : ∀ s : Stm, SndS Γ s
  | .set i e => sndS_set Γ i e
  | .asg is e => sndS_asg Γ is e
  | .par i j a b => sndS_par Γ i j a b
  | .setix o i e => sndS_setix Γ o i e
  | .ex e => sndS_ex Γ e
  | .ret e => sndS_ret Γ e
  | .ife _ a b => sndS_ife (sndB Γ a) (sndB Γ b)
  | .for_ _ _ b => sndS_for (sndB Γ b)
  | .while_ _ b => sndS_while (sndB Γ b)
  | .brk => fun c X st G h => by cases st <;> first | exact Bool.noConfusion (show false = true from h) | exact ps_brkD
  | .cont => fun c X st G h => by cases st <;> first | exact Bool.noConfusion (show false = true from h) | exact ps_contD
  | .pass => fun c X st G h => by cases st <;> first | exact Bool.noConfusion (show false = true from h) | exact ps_passD
  | .freeze _ => fun c X st G h => Bool.noConfusion (show false = true from h)
  | .never => fun c X st G h => ps_nevD
theorem sndB (Γ : Gam) : ∀ b : Blk, SndB Γ b
  | .nil => fun c X ss G h => by
    cases ss with
    | nil => exact pss_nilD
    | cons a b => exact Bool.noConfusion (show false = true from h)
  | .cons (.freeze i) b => fun c X ss G h => pss_freezeD (sndB Γ b c X ss G (by cases ss <;> exact h))
  | .cons (.set i e) b => sndB_cons (fun _ z => by cases z) (sndS_set Γ i e) (sndB Γ b)
  | .cons (.asg is e) b => sndB_cons (fun _ z => by cases z) (sndS_asg Γ is e) (sndB Γ b)
  | .cons (.par i j x y) b => sndB_cons (fun _ z => by cases z) (sndS_par Γ i j x y) (sndB Γ b)
  | .cons (.setix o i e) b => sndB_cons (fun _ z => by cases z) (sndS_setix Γ o i e) (sndB Γ b)
  | .cons (.ex e) b => sndB_cons (fun _ z => by cases z) (sndS_ex Γ e) (sndB Γ b)
  | .cons (.ret e) b => sndB_cons (fun _ z => by cases z) (sndS_ret Γ e) (sndB Γ b)
  | .cons (.ife t x y) b => sndB_cons (fun _ z => by cases z) (sndS_ife (sndB Γ x) (sndB Γ y)) (sndB Γ b)
  | .cons (.for_ _ _ x) b => sndB_cons (fun _ z => by cases z) (sndS_for (sndB Γ x)) (sndB Γ b)
  | .cons (.while_ _ x) b => sndB_cons (fun _ z => by cases z) (sndS_while (sndB Γ x)) (sndB Γ b)
  | .cons .brk b => sndB_cons (fun _ z => by cases z) (sndS Γ .brk) (sndB Γ b)
  | .cons .cont b => sndB_cons (fun _ z => by cases z) (sndS Γ .cont) (sndB Γ b)
  | .cons .pass b => sndB_cons (fun _ z => by cases z) (sndS Γ .pass) (sndB Γ b)
  | .cons .never b => sndB_cons (fun _ z => by cases z) (sndS Γ .never) (sndB Γ b)
end

/-! Mini 16: a def by its body; the law. -/

/-! ### how a def ends: shared things of its own are closed, and forgotten -/
def belowO (m : Nat) : MO → Bool
  | .lst xs => belowDs m xs
  | .gone => true
mutual
theorem belowD_mono1 {n m : Nat} (h : n ≤ m) : ∀ d, belowD n d = true → belowD m d = true
  | .tup xs, e => belowDs_mono1 h xs e
  | .lst xs, e => belowDs_mono1 h xs e
  | .wtup xs, e => belowDs_mono1 h xs e
  | .ref k, e => decide_eq_true (Nat.lt_of_lt_of_le (of_decide_eq_true e) h)
  | .non, _ => rfl
  | .bl _, _ => rfl
  | .int _, _ => rfl
  | .str _, _ => rfl
theorem belowDs_mono1 {n m : Nat} (h : n ≤ m) : ∀ ds, belowDs n ds = true → belowDs m ds = true
  | [], _ => rfl
  | d :: ds, e => by
    unfold belowDs at e ⊢
    rw [Bool.and_eq_true] at e ⊢
    exact ⟨belowD_mono1 h d e.1, belowDs_mono1 h ds e.2⟩
end
theorem belowD_mono {n m : Nat} (h : n ≤ m) : (∀ d, belowD n d = true → belowD m d = true) ∧ ∀ ds, belowDs n ds = true → belowDs m ds = true := ⟨belowD_mono1 h, belowDs_mono1 h⟩
inductive Fz (h0 : Hm) : D → Hm → D → Hm → Prop
  | refl {d : D} {h : Hm} : Fz h0 d h d h
  | close {n : Nat} {h : Hm} {xs : List D} {r : D} {h' : Hm} : listOf? h n = some xs → Fz h0 (.lst xs) (h.set n .gone) r h' → Fz h0 (.ref n) h r h'
  | cut {m : Nat} {d : D} {h : Hm} {r : D} {h' : Hm} : h0.length ≤ m → m ≤ h.length → belowD m d = true → (∀ i o, i < m → h[i]? = some o → h0[i]? = some o ∨ belowO m o = true) → Fz h0 d (h.take m) r h' → Fz h0 d h r h'
section
variable {K : PySem.W.Frag}
theorem fz_ok {h0 : Hm} {ρ0 : List Addr} {H0 H2 : Hp} {d : D} {h2 : Hm} {r : D} {h' : Hm} (z : Fz h0 d h2 r h') (hr0 : HR K h0 ρ0 H0) : ∀ {ρ2 : List Addr} {v : V}, HR K h2 ρ2 H2 → Kp h0 ρ0 H0 h2 ρ2 H2 → Rel K h2 ρ2 H2 d v →
    ∃ ρ', HR K h' ρ' H2 ∧ Kp h0 ρ0 H0 h' ρ' H2 ∧ Rel K h' ρ' H2 r v := by
  have hl0 := hr0.len
  induction z with
  | refl => exact fun hr k r => ⟨_, hr, k, r⟩
  | @close n h xs r h' e z ih =>
    intro ρ2 v hr k r
    cases r with
    | @ref _ a ea =>
      have rc := hr.close ea (listOf_eq e)
      exact ih rc.1 (k.trans (Kp.close ea (listOf_eq e))) rc.2
  | @cut m d h r h' h1 h2 b1 b2 z ih =>
    intro ρ2 v hr k r
    have hget : ∀ (n : Nat) (o : MO), (h.take m)[n]? = some o → h[n]? = some o ∧ n < m := fun n o q => by
      have hn : n < (h.take m).length := (List.getElem?_eq_some_iff.mp q).1
      rw [List.length_take] at hn
      rw [List.getElem?_take_of_lt (by omega)] at q
      exact ⟨q, by omega⟩
    have hρ : ∀ (i : Nat) (a : Addr), i < m → ρ2[i]? = some a → (ρ2.take m)[i]? = some a := fun i a hi q => by
      rw [List.getElem?_take_of_lt hi]
      exact q
    have hρ' : ∀ (i : Nat) (a : Addr), (ρ2.take m)[i]? = some a → ρ2[i]? = some a := fun i a q => by
      have hn : i < (ρ2.take m).length := (List.getElem?_eq_some_iff.mp q).1
      rw [List.length_take] at hn
      rw [List.getElem?_take_of_lt (by omega)] at q
      exact q
    have hM : ∀ a, Mu (ρ2.take m) (h.take m) a → Mu ρ2 h a := fun a ⟨n, o, q1, q2, q3⟩ => ⟨n, o, hρ' n a q1, (hget n o q2).1, q3⟩
    refine ih (ρ2 := ρ2.take m) ⟨?_, hr.nd.sublist (List.take_sublist _ _), fun n o a q1 q2 => ?_⟩ ⟨fun a o q nM => ?_, fun n a q => ?_⟩ (RD.down hρ hM b1 r)
    · rw [List.length_take, List.length_take, hr.len]
    · have z1 := hr.obj n o a (hget n o q1).1 (hρ' n a q2)
      have b : belowO m o = true := by
        rcases b2 n o (hget n o q1).2 (hget n o q1).1 with e | b
        · have hn : n < h0.length := (List.getElem?_eq_some_iff.mp e).1
          obtain ⟨a0, ha0⟩ : ∃ a0, ρ0[n]? = some a0 := ⟨ρ0[n]'(by rw [hl0]; exact hn), by simp [hl0, hn]⟩
          have z0 := hr0.obj n o a0 e ha0
          cases o with
          | gone => rfl
          | lst xs =>
            obtain ⟨vs, _, z3⟩ := z0
            have := RDs.isBelow hl0 z3
            have mono : ∀ (n m : Nat), n ≤ m → (∀ d, belowD n d = true → belowD m d = true) ∧ ∀ ds, belowDs n ds = true → belowDs m ds = true := fun n m hnm => belowD_mono hnm
            exact (mono _ _ h1).2 xs this
        · exact b
      cases o with
      | gone => exact z1
      | lst xs =>
        obtain ⟨vs, z2, z3⟩ := z1
        exact ⟨vs, z2, RDs.down hρ hM b z3⟩
    · obtain ⟨a1, a2⟩ := k.obj a o q nM
      exact ⟨a1, fun z => a2 (hM a z)⟩
    · have hn : n < ρ0.length := (List.getElem?_eq_some_iff.mp q).1
      exact hρ n a (by omega) (k.ref n a q)
theorem Fz.back {h t : Hm} {d : D} (b : belowD h.length d = true) : Fz h d (h ++ t) d h := by
  refine .cut (m := h.length) (Nat.le_refl _) (by simp) b (fun i o hi e => .inl ?_) ?_
  · rw [List.getElem?_append_left hi] at e
    exact e
  · rw [List.take_left]
    exact .refl
/-- the common end: what was there is as it was -/
theorem belowDs_of {n : Nat} {xs : List D} (h : ∀ x ∈ xs, belowD n x = true) : belowDs n xs = true := by
  induction xs with
  | nil => rfl
  | cons x xs ih =>
    unfold belowDs
    rw [h x List.mem_cons_self, ih fun y hy => h y (List.mem_cons_of_mem _ hy)]
    rfl
end

/-! ### defs of a module -/
/-- what a def's name calls -/
def FnAt (P : Program) (w : World) (K : PySem.W.Frag) (mg : Str → Option Value) (base : Heap) (k : Nat) (x : Str) (den : List D → Hm → Res D) : Prop :=
  ∃ (f : Addr) (fd : FuncData) (ps : List Str), FnOk P w K mg base CX0 k f fd ps (spD K ps.length den) ∧ mg x = some (.ref f) ∧ PySem.W.keepIn K (.ref f) = true ∧ Binds K fd ps [] ∧ ∀ ds h r h', den ds h = .ok r h' → ds.length = ps.length
def FnKAt (P : Program) (w : World) (K : PySem.W.Frag) (mg : Str → Option Value) (base : Heap) (k : Nat) (x : Str) (den : List D → Hm → Res D) (n : Nat) (ks : List Str) (perm : List Nat) : Prop :=
  ∃ (f : Addr) (fd : FuncData) (ps : List Str), FnOk P w K mg base CX0 k f fd ps (spD K ps.length den) ∧ mg x = some (.ref f) ∧ PySem.W.keepIn K (.ref f) = true ∧
    (∀ (s : Shared) (us ws : List Value), K.In s.heap → us.length = n → ws.length = ks.length → BindsTo s fd ⟨us, ks.zip ws⟩ (ps.zip (permV perm Value.none us ws))) ∧ ∀ ds h r h', den ds h = .ok r h' → ds.length = ps.length
section
variable {P : Program} {w : World} {K : PySem.W.Frag} {mg : Str → Option Value} {base : Heap} {k j : Nat} {x : Str} {den : List D → Hm → Res D}
theorem FnAt.mono (F : FnAt P w K mg base j x den) (h : j ≤ k) : FnAt P w K mg base k x den := by
  obtain ⟨f, fd, ps, F, r⟩ := F
  exact ⟨f, fd, ps, F.mono h, r⟩
theorem FnKAt.mono {n : Nat} {ks : List Str} {perm : List Nat} (F : FnKAt P w K mg base j x den n ks perm) (h : j ≤ k) : FnKAt P w K mg base k x den n ks perm := by
  obtain ⟨f, fd, ps, F, r⟩ := F
  exact ⟨f, fd, ps, F.mono h, r⟩
/-- what a def's body may call: by number -/
structure EnvOk (P : Program) (w : World) (K : PySem.W.Frag) (mg : Str → Option Value) (base : Heap) (k : Nat) (c : Ctx) (Γ : Gam) : Prop where
  bi : ∀ x ∈ bNames, mg x = none
  fn : ∀ i den, Γ.fn i = some den → ∃ x, c.fnm[i]? = some x ∧ FnAt P w K mg base k x den
  kw : ∀ i n ks perm den, (i, n, ks, perm) ∈ c.kw → Γ.fn i = some den → ∃ x, c.fnm[i]? = some x ∧ FnKAt P w K mg base k x den n ks perm
  gl : ∀ g d, Γ.gl g = some d → ∃ x u v, c.glm[g]? = some x ∧ mg x = some u ∧ RelV v u ∧ ∀ H ρ M, RD K H ρ M d v
/-- the slots at the entry -/
def startD (N : List Str) (ds : List D) : Sg := ds.map some ++ List.replicate (N.length - ds.length) none
theorem start_rel {N : List Str} {h : Hm} {ρ : List Addr} {H : Hp} {ds : List D} {vs : List V} (r : Rels K h ρ H ds vs) : SlR K H ρ (Mu ρ h) (startD N ds) (L2.start N vs) := by
  have hl := r.length
  refine ⟨by unfold startD L2.start; simp [hl], fun i d e => ?_⟩
  unfold startD at e
  by_cases hi : i < ds.length
  · rw [List.getElem?_append_left (by simpa using hi), List.getElem?_map] at e
    cases e2 : ds[i]? with
    | none => rw [e2] at e; cases e
    | some d2 =>
      rw [e2] at e
      have : d2 = d := by simpa using e
      subst this
      obtain ⟨v, h1, h2⟩ := r.get e2
      refine ⟨v, ?_, h2⟩
      unfold L2.start
      rw [List.getElem?_append_left (by rw [List.length_map, ← hl]; exact hi), List.getElem?_map, h1]
      rfl
  · rw [List.getElem?_append_right (by simpa using hi), List.getElem?_replicate] at e
    split at e <;> cases e
/-- what a body is shown to do -/
def BodyOk (Γ : Gam) (N : List Str) (body : Blk) (den : List D → Hm → Res D) : Prop :=
  ∀ ds h r h', den ds h = .ok r h' → wpB Γ body (startD N ds) h { nx := fun _ h2 => Fz h .non h2 r h', rt := fun d h2 => Fz h d h2 r h' }
theorem def_ok {qual : Str} {st : Stmt} {f : Addr} {fd : FuncData} {ps : List Str} {c : Ctx} {Γ : Gam} {body : Blk} {fdn : Str} (F : Fun K fdn qual st f fd) (S : FnScope c.N ps (defScope st)) (hc : c.names = (defScope st).names) (ho : c.own = none)
    (E : EnvOk P w K mg base k c Γ) (chk : chkB body c (defBody st) = true) (hn : ∀ ds h r h', den ds h = .ok r h' → ds.length = ps.length) (hb : BodyOk Γ c.N body den) :
    FnOk P w K mg base CX0 (k + 1) f fd ps (spD K ps.length den) := by
  refine F.ok S (fun vs H Q E h => h.1) (fun cdv A outer s H vs Q X hr hsp => ?_)
  obtain ⟨hl, h, ρ, ds, hR, rs, q⟩ := hsp
  have G : GoodS c Γ (cxOf CX0 P w K mg base c.N qual (defScope st) f cdv A outer s H X).nox := by
    refine ⟨⟨rfl, S.nd, hc.symm, S.kind, rfl, fun x => ?_, hr.units, E.bi, fun i den e => ?_, fun i n ks perm den hm e => ?_, E.gl⟩, PassesOwn.never⟩
    · rw [ho]
      rfl
    · obtain ⟨x, h1, f2, fd2, ps2, F2, h2, h3, h4, h5⟩ := E.fn i den e
      exact ⟨x, h1, ⟨f2, fd2, ps2, k, F2, hr, h2, h3, h4, h5⟩⟩
    · obtain ⟨x, h1, f2, fd2, ps2, F2, h2, h3, h4, h5⟩ := E.kw i n ks perm den hm e
      exact ⟨x, h1, ⟨f2, fd2, ps2, k, F2, hr, h2, h3, h4, h5⟩⟩
  refine ⟨_, sndB Γ body c _ _ G chk, ?_⟩
  cases e : den ds h with
  | stuck => rw [e] at q; exact False.elim q
  | ok r h' =>
    rw [e] at q
    refine ⟨startD c.N ds, h, ρ, _, ⟨hR, start_rel rs⟩, hb ds h r h' e, ⟨fun σ' h2 σV' H2 ρ2 s2 k2 z => ?_, fun _ _ _ _ _ _ _ z => False.elim z, fun _ _ _ _ _ _ _ z => False.elim z, fun d h2 v H2 ρ2 hr2 k2 rv z => ?_⟩⟩
    · obtain ⟨ρ', a1, a2, a3⟩ := fz_ok z hR s2.hp k2 .non
      exact q _ _ _ a1 a2 a3
    · obtain ⟨ρ', a1, a2, a3⟩ := fz_ok z hR hr2 k2 rv
      exact q _ _ _ a1 a2 a3
/-- a def is there under its name -/
theorem fnAt_mk {qual fdn : Str} {st : Stmt} {f : Addr} {fd : FuncData} {ps : List Str} {c : Ctx} {Γ : Gam} {body : Blk} (F : Fun K fdn qual st f fd) (S : FnScope c.N ps (defScope st)) (hc : c.names = (defScope st).names) (ho : c.own = none)
    (E : EnvOk P w K mg base k c Γ) (chk : chkB body c (defBody st) = true) (hm : mg x = some (.ref f)) (bn : Binds K fd ps []) (hn : ∀ ds h r h', den ds h = .ok r h' → ds.length = ps.length) (hb : BodyOk Γ c.N body den) : FnAt P w K mg base (k + 1) x den :=
  ⟨f, fd, ps, def_ok F S hc ho E chk hn hb, hm, F.kp, bn, hn⟩
end
/-- the law: a list of ints goes in, True comes out -/
theorem law_sp {K : PySem.W.Frag} {den : List D → Hm → Res D} {H : Hp} {a : Addr} {ns : List Int} (hS : SqL K H a (ns.map V.int)) (hd : ∃ h', den [.lst (ns.map D.int)] [] = .ok (.bl true) h') : spD K 1 den [.ref a] H (fun v _ => v = .bl true) fun _ _ _ => False := by
  obtain ⟨h', hd⟩ := hd
  have nM : ∀ a, ¬ Mu ([] : List Addr) ([] : Hm) a := fun a ⟨n, o, q, _⟩ => by simp at q
  have rs : Rels K [] [] H (ns.map D.int) (ns.map V.int) := by
    clear hS hd
    induction ns with
    | nil => exact .nil
    | cons n ns ih => exact .cons (.int n) ih
  have l : LieL K H (Mu [] []) a (ns.map V.int) := hS.imp (fun z => ⟨z, nM _⟩) id
  refine ⟨rfl, [], [], [.lst (ns.map D.int)], ⟨rfl, List.nodup_nil, fun n o a q => by simp at q⟩, .cons (.lst l rs) .nil, ?_⟩
  rw [hd]
  intro v H' ρ' _ _ r
  cases r
  rfl

/-! Mini 17: words for reading a body. -/

theorem guard_wp {α : Type} {b : Bool} {r : Res α} {Q : α → Hm → Prop} (hb : b = true) (hr : r.wp Q) : (Res.guard b r).wp Q := by
  subst hb
  exact hr
theorem guard_ok {α : Type} {b : Bool} {r : Res α} {a : α} {h : Hm} (e : Res.guard b r = .ok a h) : b = true ∧ r = .ok a h := by
  cases b with
  | true => exact ⟨rfl, e⟩
  | false => cases e
@[simp] theorem Res.wp_stuck {α : Type} (Q : α → Hm → Prop) : (Res.stuck : Res α).wp Q = False := rfl
theorem ok_inj {α : Type} {a b : α} {h h' : Hm} (e : Res.ok a h = .ok b h') : a = b ∧ h = h' := by
  cases e
  exact ⟨rfl, rfl⟩
theorem wp_of_eq {α : Type} {r : Res α} {a : α} {h : Hm} {Q : α → Hm → Prop} (e : r = .ok a h) (q : Q a h) : r.wp Q := by
  rw [e]
  exact q
theorem ty_int_non  : tyD .int .non = false := rfl
theorem ty_int_bl (b : Bool) : tyD .int (.bl b) = true := rfl
theorem ty_int_int (i : Int) : tyD .int (.int i) = true := rfl
theorem ty_int_str (x : Str) : tyD .int (.str x) = false := rfl
theorem ty_int_tup (xs : List D) : tyD .int (.tup xs) = false := rfl
theorem ty_int_lst (xs : List D) : tyD .int (.lst xs) = false := rfl
theorem ty_int_ref (n : Nat) : tyD .int (.ref n) = false := rfl
theorem ty_int_wtup (xs : List D) : tyD .int (.wtup xs) = false := rfl
theorem ty_bool_non  : tyD .bool .non = false := rfl
theorem ty_bool_bl (b : Bool) : tyD .bool (.bl b) = true := rfl
theorem ty_bool_int (i : Int) : tyD .bool (.int i) = false := rfl
theorem ty_bool_str (x : Str) : tyD .bool (.str x) = false := rfl
theorem ty_bool_tup (xs : List D) : tyD .bool (.tup xs) = false := rfl
theorem ty_bool_lst (xs : List D) : tyD .bool (.lst xs) = false := rfl
theorem ty_bool_ref (n : Nat) : tyD .bool (.ref n) = false := rfl
theorem ty_bool_wtup (xs : List D) : tyD .bool (.wtup xs) = false := rfl
theorem ty_str_non  : tyD .str .non = false := rfl
theorem ty_str_bl (b : Bool) : tyD .str (.bl b) = false := rfl
theorem ty_str_int (i : Int) : tyD .str (.int i) = false := rfl
theorem ty_str_str (x : Str) : tyD .str (.str x) = true := rfl
theorem ty_str_tup (xs : List D) : tyD .str (.tup xs) = false := rfl
theorem ty_str_lst (xs : List D) : tyD .str (.lst xs) = false := rfl
theorem ty_str_ref (n : Nat) : tyD .str (.ref n) = false := rfl
theorem ty_str_wtup (xs : List D) : tyD .str (.wtup xs) = false := rfl
theorem ty_tuple_non  : tyD .tuple .non = false := rfl
theorem ty_tuple_bl (b : Bool) : tyD .tuple (.bl b) = false := rfl
theorem ty_tuple_int (i : Int) : tyD .tuple (.int i) = false := rfl
theorem ty_tuple_str (x : Str) : tyD .tuple (.str x) = false := rfl
theorem ty_tuple_tup (xs : List D) : tyD .tuple (.tup xs) = true := rfl
theorem ty_tuple_lst (xs : List D) : tyD .tuple (.lst xs) = false := rfl
theorem ty_tuple_ref (n : Nat) : tyD .tuple (.ref n) = false := rfl
theorem ty_tuple_wtup (xs : List D) : tyD .tuple (.wtup xs) = true := rfl
theorem ty_list_non  : tyD .list .non = false := rfl
theorem ty_list_bl (b : Bool) : tyD .list (.bl b) = false := rfl
theorem ty_list_int (i : Int) : tyD .list (.int i) = false := rfl
theorem ty_list_str (x : Str) : tyD .list (.str x) = false := rfl
theorem ty_list_tup (xs : List D) : tyD .list (.tup xs) = false := rfl
theorem ty_list_lst (xs : List D) : tyD .list (.lst xs) = true := rfl
theorem ty_list_ref (n : Nat) : tyD .list (.ref n) = true := rfl
theorem ty_list_wtup (xs : List D) : tyD .list (.wtup xs) = false := rfl
theorem open_non (h : Hm)  : openD h .non = true := rfl
theorem isNon_non  : isNonD .non = true := rfl
theorem open_bl (h : Hm) (b : Bool) : openD h (.bl b) = true := rfl
theorem isNon_bl (b : Bool) : isNonD (.bl b) = false := rfl
theorem open_int (h : Hm) (i : Int) : openD h (.int i) = true := rfl
theorem isNon_int (i : Int) : isNonD (.int i) = false := rfl
theorem open_str (h : Hm) (x : Str) : openD h (.str x) = true := rfl
theorem isNon_str (x : Str) : isNonD (.str x) = false := rfl
theorem open_tup (h : Hm) (xs : List D) : openD h (.tup xs) = true := rfl
theorem isNon_tup (xs : List D) : isNonD (.tup xs) = false := rfl
theorem open_lst (h : Hm) (xs : List D) : openD h (.lst xs) = true := rfl
theorem isNon_lst (xs : List D) : isNonD (.lst xs) = false := rfl
theorem open_wtup (h : Hm) (xs : List D) : openD h (.wtup xs) = true := rfl
theorem isNon_wtup (xs : List D) : isNonD (.wtup xs) = false := rfl
theorem isNon_ref (n : Nat) : isNonD (.ref n) = false := rfl
theorem open_ref (h : Hm) (n : Nat) : openD h (.ref n) = (listOf? h n).isSome := rfl
theorem op_addI (i j : Int) (h : Hm) : opD .add (.int i) (.int j) h = .ok (.int (i + j)) h := rfl
theorem op_addS (x y : Str) (h : Hm) : opD .add (.str x) (.str y) h = .guard (decide (x.length + y.length ≤ LIM)) (.ok (.str (x ++ y)) h) := rfl
theorem op_addL (xs ys : List D) (h : Hm) : opD .add (.lst xs) (.lst ys) h = .guard (decide (xs.length + ys.length ≤ LIM)) (.ok (.lst (xs ++ ys)) h) := rfl
theorem op_addT (xs ys : List D) (h : Hm) : opD .add (.tup xs) (.tup ys) h = .guard (decide (xs.length + ys.length ≤ LIM)) (.ok (.tup (xs ++ ys)) h) := rfl
theorem op_addML (xs ys : List D) (h : Hm) : opD .addM (.lst xs) (.lst ys) h = .guard (decide (xs.length + ys.length ≤ LIM)) (.ok (.ref h.length) (h ++ [.lst (xs ++ ys)])) := rfl
theorem op_subI (i j : Int) (h : Hm) : opD .sub (.int i) (.int j) h = .ok (.int (i - j)) h := rfl
theorem op_mulI (i j : Int) (h : Hm) : opD .mul (.int i) (.int j) h = .guard (mulOk i j) (.ok (.int (i * j)) h) := rfl
theorem op_fdivI (i j : Int) (h : Hm) : opD .fdiv (.int i) (.int j) h = .guard (divOk j) (.ok (.int (i.fdiv j)) h) := rfl
theorem op_modI (i j : Int) (h : Hm) : opD .mod (.int i) (.int j) h = .guard (decide (0 < j)) (.ok (.int (i % j)) h) := rfl
theorem op_powI (i j : Int) (h : Hm) : opD .pow (.int i) (.int j) h = .guard (powOk i j) (.ok (.int (i ^ j.toNat)) h) := rfl
theorem cm_lt (i j : Int) (h : Hm) : cmpD .lt (.int i) (.int j) h = .ok (decide (i < j)) h := rfl
theorem cm_le (i j : Int) (h : Hm) : cmpD .le (.int i) (.int j) h = .ok (decide (i ≤ j)) h := rfl
theorem cm_gt (i j : Int) (h : Hm) : cmpD .gt (.int i) (.int j) h = .ok (decide (j < i)) h := rfl
theorem cm_ge (i j : Int) (h : Hm) : cmpD .ge (.int i) (.int j) h = .ok (decide (j ≤ i)) h := rfl
theorem cm_eq (d e : D) (h : Hm) : cmpD .eq d e h = eqD d e h := by cases d <;> cases e <;> rfl
theorem cm_ne (d e : D) (h : Hm) : cmpD .ne d e h = (eqD d e h).bind fun b h1 => .ok (!b) h1 := by cases d <;> cases e <;> rfl
theorem bi_len (d : D) (h : Hm) (ns : ∀ x, d ≠ .str x) (nw : ∀ x, d ≠ .wtup x) : biD .len [d] h = match itemsOf h d with | some xs => .ok (.int xs.length) h | none => .stuck := by cases d <;> first | rfl | exact absurd rfl (ns _) | exact absurd rfl (nw _)
theorem bi_lenT (xs : List D) (h : Hm) : biD .len [.tup xs] h = .ok (.int xs.length) h := rfl
theorem bi_lenL (xs : List D) (h : Hm) : biD .len [.lst xs] h = .ok (.int xs.length) h := rfl
theorem bi_lenS (x : Str) (h : Hm) : biD .len [.str x] h = .guard (decide (x.length ≤ LIM)) (.ok (.int x.length) h) := rfl
theorem bi_abs (i : Int) (h : Hm) : biD .abs [.int i] h = .ok (.int (if i < 0 then -i else i)) h := rfl
theorem bi_intI (i : Int) (h : Hm) : biD .int [.int i] h = .ok (.int i) h := rfl
theorem bi_intB (b : Bool) (h : Hm) : biD .int [.bl b] h = .ok (.int (if b then 1 else 0)) h := rfl
theorem bi_tupT (xs : List D) (h : Hm) : biD .tuple [.tup xs] h = .ok (.tup xs) h := rfl
theorem bi_tupL (xs : List D) (h : Hm) : biD .tuple [.lst xs] h = .ok (.tup xs) h := rfl
theorem bi_lstT (xs : List D) (h : Hm) : biD .list [.tup xs] h = .ok (.lst xs) h := rfl
theorem bi_lstL (xs : List D) (h : Hm) : biD .list [.lst xs] h = .ok (.lst xs) h := rfl
theorem bi_allL (xs : List D) (h : Hm) : biD .all [.lst xs] h = match boolsOf xs with | some bs => .ok (.bl (bs.all id)) h | none => .stuck := rfl
theorem bi_anyL (xs : List D) (h : Hm) : biD .any [.lst xs] h = match boolsOf xs with | some bs => .ok (.bl (bs.any id)) h | none => .stuck := rfl
theorem bi_sortedL (xs : List D) (h : Hm) : biD .sorted [.lst xs] h = match pairsOf xs with | some ps => .ok (.lst (unpairs (sortP ps))) h | none => .stuck := rfl
theorem ix_tup (xs : List D) (i : Int) (h : Hm) : ixD (.tup xs) (.int i) h = match atI xs i with | some y => .ok y h | none => .stuck := rfl
theorem ix_lst (xs : List D) (i : Int) (h : Hm) : ixD (.lst xs) (.int i) h = match atI xs i with | some y => .ok y h | none => .stuck := rfl
theorem ix_ref (n : Nat) (i : Int) (h : Hm) : ixD (.ref n) (.int i) h = match listOf? h n with | some xs => (match atI xs i with | some y => .ok y h | none => .stuck) | none => .stuck := rfl
theorem tr_bl (b : Bool) (h : Hm) : trD (.bl b) h = .ok b h := rfl
theorem it_tup (xs : List D) (h : Hm) : itD (.tup xs) h = .ok xs h := rfl
theorem it_lst (xs : List D) (h : Hm) : itD (.lst xs) h = .ok xs h := rfl
theorem eq_int (i j : Int) (h : Hm) : eqD (.int i) (.int j) h = .ok (decide (i = j)) h := by simp [eqD, toPyH, toPy, SeqAt.shaped, PyData.canLay0, PyData.depth, PyData.eqv]; rfl
theorem eq_bl (i j : Bool) (h : Hm) : eqD (.bl i) (.bl j) h = .ok (decide (i = j)) h := by simp [eqD, toPyH, toPy, SeqAt.shaped, PyData.canLay0, PyData.depth, PyData.eqv]; cases i <;> cases j <;> rfl
theorem lst_lst (h : Hm) (xs : List D) : lstOf h (.lst xs) = some xs := rfl
theorem lst_ref (h : Hm) (n : Nat) : lstOf h (.ref n) = listOf? h n := rfl
noncomputable def cd (p : Prop) : Bool := @decide p (Classical.propDecidable p)
theorem cd_true {p : Prop} (h : p) : cd p = true := @decide_eq_true p (Classical.propDecidable p) h
theorem cd_false {p : Prop} (h : ¬ p) : cd p = false := @decide_eq_false p (Classical.propDecidable p) h
theorem of_cd {p : Prop} (h : cd p = true) : p := @of_decide_eq_true p (Classical.propDecidable p) h
theorem cd_guard {α : Type} {p : Prop} {r : Res α} (h : p) : Res.guard (cd p) r = r := by rw [cd_true h]; rfl
/-! ### weaker wishes; loops by an invariant -/
structure Po.le (P P' : Po) : Prop where
  nx : ∀ σ h, P.nx σ h → P'.nx σ h
  rt : ∀ d h, P.rt d h → P'.rt d h
  bk : ∀ σ h, P.bk σ h → P'.bk σ h
  ct : ∀ σ h, P.ct σ h → P'.ct σ h
theorem Po.le.refl (P : Po) : P.le P := ⟨fun _ _ z => z, fun _ _ z => z, fun _ _ z => z, fun _ _ z => z⟩
theorem Po.le.with {P P' : Po} (l : P.le P') {f g : Sg → Hm → Prop} (w : ∀ σ h, f σ h → g σ h) : Po.le { P with nx := f } { P' with nx := g } := ⟨w, l.rt, l.bk, l.ct⟩
theorem wpFor_mono {b : D → Sg → Hm → Po → Prop} (bm : ∀ x σ h (P P' : Po), P.le P' → b x σ h P → b x σ h P') : ∀ (xs : List D) (σ : Sg) (h : Hm) (P P' : Po), P.le P' → wpFor b xs σ h P → wpFor b xs σ h P'
  | [], _, _, _, _, l, q => l.nx _ _ q
  | x :: xs, σ, h, P, P', l, q => by
    refine bm x σ h _ _ ?_ q
    exact ⟨fun σ h z => wpFor_mono bm xs σ h P P' l z, l.rt, l.nx, fun σ h z => wpFor_mono bm xs σ h P P' l z⟩
theorem wpWhile_mono {c : Sg → Hm → Res Bool} {b : Sg → Hm → Po → Prop} (bm : ∀ σ h (P P' : Po), P.le P' → b σ h P → b σ h P') : ∀ (n : Nat) (σ : Sg) (h : Hm) (P P' : Po), P.le P' → wpWhile c b n σ h P → wpWhile c b n σ h P'
  | 0, _, _, _, _, _, q => q
  | n + 1, σ, h, P, P', l, q => Res.wp_mono q fun t h1 q => by
    cases t with
    | true =>
      refine bm σ h1 _ _ ?_ q
      exact ⟨fun σ h z => wpWhile_mono bm n σ h P P' l z, l.rt, l.nx, fun σ h z => wpWhile_mono bm n σ h P P' l z⟩
    | false => exact l.nx _ _ q
theorem wpWhile_more {c : Sg → Hm → Res Bool} {b : Sg → Hm → Po → Prop} (bm : ∀ σ h (P P' : Po), P.le P' → b σ h P → b σ h P') : ∀ (n m : Nat) (σ : Sg) (h : Hm) (P : Po), n ≤ m → wpWhile c b n σ h P → wpWhile c b m σ h P
  | 0, _, _, _, _, _, q => False.elim q
  | n + 1, 0, _, _, _, l, _ => absurd l (Nat.not_succ_le_zero _)
  | n + 1, m + 1, σ, h, P, l, q => Res.wp_mono q fun t h1 q => by
    cases t with
    | true =>
      refine bm σ h1 _ _ ?_ q
      exact ⟨fun σ h z => wpWhile_more bm n m σ h P (by omega) z, fun _ _ z => z, fun _ _ z => z, fun σ h z => wpWhile_more bm n m σ h P (by omega) z⟩
    | false => exact q
mutual
theorem wpS_mono (Γ : Gam) : ∀ (s : Stm) (σ : Sg) (h : Hm) (P P' : Po), P.le P' → wpS Γ s σ h P → wpS Γ s σ h P'
  | .set i e, σ, h, P, P', l, q => Res.wp_mono q fun d h1 z => l.nx _ _ z
  | .asg is e, σ, h, P, P', l, q => Res.wp_mono q fun d h1 z => by
    cases k : asgD (.tup is) d σ with
    | none => rw [k] at z; exact False.elim z
    | some σ' => rw [k] at z; exact l.nx _ _ z
  | .par i j a b, σ, h, P, P', l, q => Res.wp_mono q fun x h1 z => Res.wp_mono z fun y h2 z => l.nx _ _ z
  | .setix o i e, σ, h, P, P', l, q => Res.wp_mono q fun d h1 z => Res.wp_mono z fun x h2 z => Res.wp_mono z fun y h3 z => by
    split at z
    · split at z
      · split at z
        · exact l.nx _ _ z
        · exact False.elim z
      · exact False.elim z
    · exact False.elim z
  | .ex e, σ, h, P, P', l, q => Res.wp_mono q fun _ h1 z => l.nx _ _ z
  | .ret e, σ, h, P, P', l, q => Res.wp_mono q fun d h1 z => l.rt _ _ z
  | .ife c a b, σ, h, P, P', l, q => Res.wp_mono q fun t h1 z => by
    cases t with
    | true => exact wpB_mono Γ a σ h1 P P' l z
    | false => exact wpB_mono Γ b σ h1 P P' l z
  | .for_ tg it b, σ, h, P, P', l, q => Res.wp_mono q fun xs h1 z => wpFor_mono (fun x σ h P P' l q => by
    cases k : asgD tg x σ with
    | none => rw [k] at q; exact False.elim q
    | some σ' => rw [k] at q; exact wpB_mono Γ b σ' h P P' l q) xs σ h1 P P' l z
  | .while_ c b, σ, h, P, P', l, ⟨n, q⟩ => ⟨n, wpWhile_mono (fun σ h P P' l q => wpB_mono Γ b σ h P P' l q) n σ h P P' l q⟩
  | .brk, σ, h, P, P', l, q => l.bk _ _ q
  | .cont, σ, h, P, P', l, q => l.ct _ _ q
  | .pass, σ, h, P, P', l, q => l.nx _ _ q
  | .freeze i, σ, h, P, P', l, q => by
    have q : (match σ[i]? with
      | some (some (.ref n)) => match listOf? h n with
        | some xs => P.nx (σ.set i (some (.lst xs))) (h.set n .gone)
        | none => False
      | _ => False) := q
    show (match σ[i]? with
      | some (some (.ref n)) => match listOf? h n with
        | some xs => P'.nx (σ.set i (some (.lst xs))) (h.set n .gone)
        | none => False
      | _ => False)
    split at q
    · split at q
      · exact l.nx _ _ q
      · exact False.elim q
    · exact False.elim q
  | .never, σ, h, P, P', l, q => False.elim q
theorem wpB_mono (Γ : Gam) : ∀ (b : Blk) (σ : Sg) (h : Hm) (P P' : Po), P.le P' → wpB Γ b σ h P → wpB Γ b σ h P'
  | .nil, σ, h, P, P', l, q => l.nx _ _ q
  | .cons s b, σ, h, P, P', l, q => by
    refine wpS_mono Γ s σ h _ _ ?_ q
    exact ⟨fun σ' h' z => wpB_mono Γ b σ' h' P P' l z, l.rt, l.bk, l.ct⟩
end
/-- while c: b by an invariant with a number that falls -/
theorem while_inv {Γ : Gam} {c : Ex} {b : Blk} {P : Po} (I : Nat → Sg → Hm → Prop) {m : Nat} {σ : Sg} {h : Hm} (h0 : I m σ h)
    (st : ∀ m σ h, I m σ h → (evT Γ c σ h).wp fun t h1 => match t with
      | true => wpB Γ b σ h1 { P with nx := fun σ' h' => ∃ m', m' < m ∧ I m' σ' h', ct := fun σ' h' => ∃ m', m' < m ∧ I m' σ' h', bk := P.nx }
      | false => P.nx σ h1) : wpS Γ (.while_ c b) σ h P := by
  refine ⟨m + 1, ?_⟩
  have key : ∀ n m σ h, m < n → I m σ h → wpWhile (evT Γ c) (wpB Γ b) n σ h P := by
    intro n
    induction n with
    | zero => intro m σ h l; exact absurd l (Nat.not_lt_zero _)
    | succ n ih =>
      intro m σ h l i
      refine Res.wp_mono (st m σ h i) fun t h1 z => ?_
      cases t with
      | true =>
        refine wpB_mono Γ b _ _ _ _ ?_ z
        exact ⟨fun σ h ⟨m', l', i'⟩ => ih m' σ h (by omega) i', fun _ _ z => z, fun _ _ z => z, fun σ h ⟨m', l', i'⟩ => ih m' σ h (by omega) i'⟩
      | false => exact z
  exact key _ m σ h (Nat.lt_succ_self _) h0
/-- for tg in it: b by an invariant -/
theorem for_inv {Γ : Gam} {tg : Tg} {it : It} {b : Blk} {P : Po} (I : Nat → Sg → Hm → Prop) {σ : Sg} {h h1 : Hm} {xs : List D} (hi : evI Γ it σ h = .ok xs h1) (h0 : I 0 σ h1)
    (st : ∀ i x σ h, xs[i]? = some x → I i σ h → ∃ σ2, asgD tg x σ = some σ2 ∧ wpB Γ b σ2 h { P with nx := I (i + 1), ct := I (i + 1), bk := P.nx })
    (fin : ∀ σ h, I xs.length σ h → P.nx σ h) : wpS Γ (.for_ tg it b) σ h P := by
  refine wp_of_eq hi ?_
  have key : ∀ n i σ h, i + n = xs.length → I i σ h → wpFor (fun x σ1 h2 P1 => match asgD tg x σ1 with
    | some σ2 => wpB Γ b σ2 h2 P1
    | none => False) (xs.drop i) σ h P := by
    intro n
    induction n with
    | zero =>
      intro i σ h e z
      have e : i = xs.length := by omega
      subst e
      rw [List.drop_length]
      exact fin _ _ z
    | succ n ih =>
      intro i σ h e z
      have hl : i < xs.length := by omega
      rw [List.drop_eq_getElem_cons hl]
      obtain ⟨σ2, a1, a2⟩ := st i _ σ h (List.getElem?_eq_getElem hl) z
      unfold wpFor
      rw [a1]
      refine wpB_mono Γ b _ _ _ _ ?_ a2
      exact ⟨fun σ h z => ih (i + 1) σ h (by omega) z, fun _ _ z => z, fun _ _ z => z, fun σ h z => ih (i + 1) σ h (by omega) z⟩
  have := key xs.length 0 σ h1 (by omega) h0
  rwa [List.drop_zero] at this
/-! ### statement by statement -/
section
variable {Γ : Gam} {e c : Ex} {b x y : Blk} {σ : Sg} {h h1 h2 : Hm} {P : Po} {d d2 : D} {i j : Nat}
theorem B_nil (k : P.nx σ h) : wpB Γ .nil σ h P := k
theorem B_set (he : evE Γ e σ h = .ok d h1) (k : wpB Γ b (σ.set i (some d)) h1 P) : wpB Γ (.cons (.set i e) b) σ h P := wp_of_eq he k
theorem B_ex (he : evE Γ e σ h = .ok d h1) (k : wpB Γ b σ h1 P) : wpB Γ (.cons (.ex e) b) σ h P := wp_of_eq he k
theorem B_ret (he : evE Γ e σ h = .ok d h1) (k : P.rt d h1) : wpB Γ (.cons (.ret e) b) σ h P := wp_of_eq he k
theorem B_if {t : Bool} (he : evT Γ c σ h = .ok t h1) (k1 : t = true → wpB Γ x σ h1 { P with nx := fun σ' h' => wpB Γ b σ' h' P }) (k2 : t = false → wpB Γ y σ h1 { P with nx := fun σ' h' => wpB Γ b σ' h' P }) : wpB Γ (.cons (.ife c x y) b) σ h P := by
  refine wp_of_eq he ?_
  cases t with
  | true => exact k1 rfl
  | false => exact k2 rfl
theorem B_ifT (he : evT Γ c σ h = .ok true h1) (k : wpB Γ x σ h1 { P with nx := fun σ' h' => wpB Γ b σ' h' P }) : wpB Γ (.cons (.ife c x y) b) σ h P := wp_of_eq he k
theorem B_ifF (he : evT Γ c σ h = .ok false h1) (k : wpB Γ y σ h1 { P with nx := fun σ' h' => wpB Γ b σ' h' P }) : wpB Γ (.cons (.ife c x y) b) σ h P := wp_of_eq he k
/-- if c: (something that does not go on) -/
theorem B_ifN (he : evT Γ c σ h = .ok false h1) (k : wpB Γ b σ h1 P) : wpB Γ (.cons (.ife c x .nil) b) σ h P := wp_of_eq he k
theorem B_par {f g : Ex} (he : evE Γ f σ h = .ok d h1) (hg : evE Γ g σ h1 = .ok d2 h2) (k : wpB Γ b ((σ.set i (some d)).set j (some d2)) h2 P) : wpB Γ (.cons (.par i j f g) b) σ h P := wp_of_eq he (wp_of_eq hg k)
theorem B_asg {is : List Nat} {σ' : Sg} (he : evE Γ e σ h = .ok d h1) (ha : asgD (.tup is) d σ = some σ') (k : wpB Γ b σ' h1 P) : wpB Γ (.cons (.asg is e) b) σ h P := by
  refine wp_of_eq he ?_
  dsimp only
  rw [ha]
  exact k
theorem B_setix {o k : Ex} {n m : Nat} {z : Int} {xs : List D} {h3 : Hm} (he : evE Γ e σ h = .ok d h1) (ho : evE Γ o σ h1 = .ok (.ref n) h2) (hk : evE Γ k σ h2 = .ok (.int z) h3) (hl : listOf? h3 n = some xs) (hm : ixN xs.length z = some m)
    (q : wpB Γ b σ (h3.set n (.lst (xs.set m d))) P) : wpB Γ (.cons (.setix o k e) b) σ h P := by
  refine wp_of_eq he (wp_of_eq ho (wp_of_eq hk ?_))
  dsimp only
  rw [hl]
  dsimp only
  rw [hm]
  exact q
theorem B_freeze {n : Nat} {xs : List D} (hi : σ[i]? = some (some (.ref n))) (hl : listOf? h n = some xs) (q : wpB Γ b (σ.set i (some (.lst xs))) (h.set n .gone) P) : wpB Γ (.cons (.freeze i) b) σ h P := by
  show (match σ[i]? with
    | some (some (.ref n)) => match listOf? h n with
      | some xs => wpB Γ b (σ.set i (some (.lst xs))) (h.set n .gone) P
      | none => False
    | _ => False)
  rw [hi]
  dsimp only
  rw [hl]
  exact q
theorem B_for {tg : Tg} {it : It} {xs : List D} (I : Nat → Sg → Hm → Prop) (hi : evI Γ it σ h = .ok xs h1) (h0 : I 0 σ h1)
    (st : ∀ i x1 σ h, xs[i]? = some x1 → I i σ h → ∃ σ2, asgD tg x1 σ = some σ2 ∧ wpB Γ x σ2 h { nx := I (i + 1), ct := I (i + 1), bk := fun σ' h' => wpB Γ b σ' h' P, rt := P.rt })
    (fin : ∀ σ h, I xs.length σ h → wpB Γ b σ h P) : wpB Γ (.cons (.for_ tg it x) b) σ h P := for_inv (P := { P with nx := fun σ' h' => wpB Γ b σ' h' P }) I hi h0 st fin
theorem B_while (I : Nat → Sg → Hm → Prop) {m : Nat} (h0 : I m σ h)
    (st : ∀ m σ h, I m σ h → ∃ t h1, evT Γ c σ h = .ok t h1 ∧ (t = true → wpB Γ x σ h1 { nx := fun σ' h' => ∃ m', m' < m ∧ I m' σ' h', ct := fun σ' h' => ∃ m', m' < m ∧ I m' σ' h', bk := fun σ' h' => wpB Γ b σ' h' P, rt := P.rt }) ∧
      (t = false → wpB Γ b σ h1 P)) : wpB Γ (.cons (.while_ c x) b) σ h P := while_inv (P := { P with nx := fun σ' h' => wpB Γ b σ' h' P }) I h0 fun m σ h i => by
  obtain ⟨t, h1, e, k1, k2⟩ := st m σ h i
  refine wp_of_eq e ?_
  cases t with
  | true => exact k1 rfl
  | false => exact k2 rfl
theorem E_call {f : Nat} {es : Exs} {ds : List D} {den : List D → Hm → Res D} {r : D} (hg : Γ.fn f = some den) (he : evEs Γ es σ h = .ok ds h1) (hd : den ds h1 = .ok r h2) : evE Γ (.call f es) σ h = .ok r h2 := by
  show (evEs Γ es σ h).bind _ = _
  rw [he, Res.bind_ok, hg]
  exact hd
theorem E_bandT {f g : Ex} (he : evE Γ f σ h = .ok (.bl true) h1) (hg : evE Γ g σ h1 = .ok d h2) : evE Γ (.band f g) σ h = .ok d h2 := by
  show (evE Γ f σ h).bind _ = _
  rw [he]
  exact hg
theorem E_bandF {f g : Ex} (he : evE Γ f σ h = .ok (.bl false) h1) : evE Γ (.band f g) σ h = .ok (.bl false) h1 := by
  show (evE Γ f σ h).bind _ = _
  rw [he]
  rfl
theorem E_bi1 {f : Ex} {bb : Bi} (he : evE Γ f σ h = .ok d h1) (hg : biD bb [d] h1 = .ok d2 h2) : evE Γ (.bi bb (.cons f .nil)) σ h = .ok d2 h2 := by
  show ((evE Γ f σ h).bind fun x h1 => (Res.ok [] h1).bind fun xs h2 => Res.ok (x :: xs) h2).bind _ = _
  rw [he]
  exact hg
theorem T_of_E {bb : Bi} {es : Exs} {t : Bool} (he : evE Γ (.bi bb es) σ h = .ok (.bl t) h1) : evT Γ (.bi bb es) σ h = .ok t h1 := by
  have he : (evEs Γ es σ h).bind (fun ds h1 => biD bb ds h1) = .ok (.bl t) h1 := he
  show (evEs Γ es σ h).bind (fun ds h1 => (biD bb ds h1).bind trD) = _
  cases k : evEs Γ es σ h with
  | stuck => rw [k] at he; cases he
  | ok ds h2 =>
    rw [k] at he
    have he : biD bb ds h2 = .ok (.bl t) h1 := he
    rw [Res.bind_ok, he]
    rfl
theorem T_call {f : Nat} {es : Exs} {t : Bool} (he : evE Γ (.call f es) σ h = .ok (.bl t) h1) : evT Γ (.call f es) σ h = .ok t h1 := by
  have he : (evEs Γ es σ h).bind (fun ds h1 => match Γ.fn f with | some den => den ds h1 | none => .stuck) = .ok (.bl t) h1 := he
  show (evEs Γ es σ h).bind (fun ds h1 => match Γ.fn f with | some den => (den ds h1).bind trD | none => .stuck) = _
  cases k : evEs Γ es σ h with
  | stuck => rw [k] at he; cases he
  | ok ds h2 =>
    rw [k] at he
    rw [Res.bind_ok] at he ⊢
    cases k2 : Γ.fn f with
    | none => rw [k2] at he; cases he
    | some den =>
      rw [k2] at he
      have he : den ds h2 = .ok (.bl t) h1 := he
      dsimp only
      rw [he]
      rfl
theorem T_not {f : Ex} {t : Bool} (he : evT Γ f σ h = .ok t h1) : evT Γ (.bnot f) σ h = .ok (!t) h1 := by
  show (evT Γ f σ h).bind _ = _
  rw [he]
  rfl
theorem T_borF {f g : Ex} {t : Bool} (he : evT Γ f σ h = .ok false h1) (hg : evT Γ g σ h1 = .ok t h2) : evT Γ (.bor f g) σ h = .ok t h2 := by
  show (evT Γ f σ h).bind _ = _
  rw [he]
  exact hg
theorem T_borT {f g : Ex} (he : evT Γ f σ h = .ok true h1) : evT Γ (.bor f g) σ h = .ok true h1 := by
  show (evT Γ f σ h).bind _ = _
  rw [he]
  rfl
theorem T_bandT {f g : Ex} {t : Bool} (he : evT Γ f σ h = .ok true h1) (hg : evT Γ g σ h1 = .ok t h2) : evT Γ (.band f g) σ h = .ok t h2 := by
  show (evT Γ f σ h).bind _ = _
  rw [he]
  exact hg
theorem T_bandF {f g : Ex} (he : evT Γ f σ h = .ok false h1) : evT Γ (.band f g) σ h = .ok false h1 := by
  show (evT Γ f σ h).bind _ = _
  rw [he]
  rfl
theorem T_cmp {o : Cm} {f g : Ex} {t : Bool} {h3 : Hm} (he : evE Γ f σ h = .ok d h1) (hg : evE Γ g σ h1 = .ok d2 h2) (hc : cmpD o d d2 h2 = .ok t h3) : evT Γ (.cmp o f g) σ h = .ok t h3 := by
  show (evE Γ f σ h).bind _ = _
  rw [he, Res.bind_ok, hg]
  exact hc
theorem E_cmp {o : Cm} {f g : Ex} {t : Bool} {h3 : Hm} (he : evE Γ f σ h = .ok d h1) (hg : evE Γ g σ h1 = .ok d2 h2) (hc : cmpD o d d2 h2 = .ok t h3) : evE Γ (.cmp o f g) σ h = .ok (.bl t) h3 := by
  show (evE Γ f σ h).bind _ = _
  rw [he, Res.bind_ok, hg, Res.bind_ok, hc]
  rfl
theorem E_op2 {o : Op2} {f g : Ex} {h3 : Hm} {r : D} (he : evE Γ f σ h = .ok d h1) (hg : evE Γ g σ h1 = .ok d2 h2) (hc : opD o d d2 h2 = .ok r h3) : evE Γ (.op2 o f g) σ h = .ok r h3 := by
  show (evE Γ f σ h).bind _ = _
  rw [he, Res.bind_ok, hg]
  exact hc
theorem Es_nil : evEs Γ .nil σ h = .ok [] h := rfl
theorem Es_cons {f : Ex} {es : Exs} {ds : List D} (he : evE Γ f σ h = .ok d h1) (hg : evEs Γ es σ h1 = .ok ds h2) : evEs Γ (.cons f es) σ h = .ok (d :: ds) h2 := by
  show (evE Γ f σ h).bind _ = _
  rw [he, Res.bind_ok, hg]
  rfl
theorem E_lst {es : Exs} {ds : List D} (he : evEs Γ es σ h = .ok ds h1) (hl : ds.length ≤ 1000) : evE Γ (.lst es) σ h = .ok (.lst ds) h1 := by
  show (evEs Γ es σ h).bind _ = _
  rw [he, Res.bind_ok, decide_eq_true (show ds.length ≤ LIM from Nat.le_trans hl (by decide))]
  rfl
theorem E_tup {es : Exs} {ds : List D} (he : evEs Γ es σ h = .ok ds h1) (hl : ds.length ≤ 1000) : evE Γ (.tup es) σ h = .ok (.tup ds) h1 := by
  show (evEs Γ es σ h).bind _ = _
  rw [he, Res.bind_ok, decide_eq_true (show ds.length ≤ LIM from Nat.le_trans hl (by decide))]
  rfl
theorem E_ix {f g : Ex} {h3 : Hm} {r : D} (he : evE Γ f σ h = .ok d h1) (hg : evE Γ g σ h1 = .ok d2 h2) (hc : ixD d d2 h2 = .ok r h3) : evE Γ (.ix f g) σ h = .ok r h3 := by
  show (evE Γ f σ h).bind _ = _
  rw [he, Res.bind_ok, hg]
  exact hc
theorem E_callk {f : Nat} {es ks : Exs} {perm : List Nat} {ds zs : List D} {den : List D → Hm → Res D} {r : D} {h3 : Hm} (hg : Γ.fn f = some den) (he : evEs Γ es σ h = .ok ds h1) (hk : evEs Γ ks σ h1 = .ok zs h2) (hd : den (permV perm D.non ds zs) h2 = .ok r h3) : evE Γ (.callk f es ks perm) σ h = .ok r h3 := by
  show (evEs Γ es σ h).bind _ = _
  rw [he, Res.bind_ok, hk, Res.bind_ok, hg]
  exact hd
theorem T_callk {f : Nat} {es ks : Exs} {perm : List Nat} {t : Bool} (he : evE Γ (.callk f es ks perm) σ h = .ok (.bl t) h1) : evT Γ (.callk f es ks perm) σ h = .ok t h1 := by
  have he : (evEs Γ es σ h).bind (fun ds h1 => (evEs Γ ks σ h1).bind fun ks h2 => match Γ.fn f with | some den => den (permV perm D.non ds ks) h2 | none => .stuck) = .ok (.bl t) h1 := he
  show (evEs Γ es σ h).bind (fun ds h1 => (evEs Γ ks σ h1).bind fun ks h2 => match Γ.fn f with | some den => (den (permV perm D.non ds ks) h2).bind trD | none => .stuck) = _
  cases k : evEs Γ es σ h with
  | stuck => rw [k] at he; cases he
  | ok ds h2 =>
    rw [k, Res.bind_ok] at he
    rw [Res.bind_ok]
    cases k1 : evEs Γ ks σ h2 with
    | stuck => rw [k1] at he; cases he
    | ok zs h3 =>
      rw [k1, Res.bind_ok] at he
      rw [Res.bind_ok]
      cases k2 : Γ.fn f with
      | none => rw [k2] at he; cases he
      | some den =>
        rw [k2] at he
        have he : den (permV perm D.non ds zs) h3 = .ok (.bl t) h1 := he
        dsimp only
        rw [he]
        rfl
end
/-- a comprehension without changes: the list of what f tells -/
theorem comp_pure {f : D → Hm → Res (Option D)} {g : D → Option D} {h : Hm} : ∀ {xs acc : List D}, (∀ x ∈ xs, ∀ t, f x (h ++ [t]) = .ok (g x) (h ++ [t])) → acc.length + xs.length ≤ LIM →
    compLoop f h.length xs (h ++ [MO.lst acc]) = .ok () (h ++ [MO.lst (acc ++ xs.filterMap g)])
  | [], acc, _, _ => by simp [compLoop]
  | x :: xs, acc, hf, hl => by
    have e1 := hf x List.mem_cons_self (.lst acc)
    have hl' : acc.length + (xs.length + 1) ≤ LIM := hl
    unfold compLoop
    rw [e1]
    cases k : g x with
    | none =>
      show compLoop f h.length xs (h ++ [MO.lst acc]) = _
      rw [comp_pure (fun y hy => hf y (List.mem_cons_of_mem _ hy)) (by omega), List.filterMap_cons_none k]
    | some y =>
      have e2 : listOf? (h ++ [MO.lst acc]) h.length = some acc := by
        unfold listOf?
        rw [List.getElem?_append_right (Nat.le_refl _)]
        simp
      have e3 : (h ++ [MO.lst acc]).set h.length (.lst (acc ++ [y])) = h ++ [MO.lst (acc ++ [y])] := by
        rw [List.set_append_right _ _ (Nat.le_refl _)]
        simp
      rw [Res.bind_ok]
      dsimp only
      rw [e2]
      dsimp only
      have e4 : (h ++ [MO.lst acc]).set h.length (.lst (acc ++ [y])) = h ++ [MO.lst (acc ++ [y])] := e3
      rw [decide_eq_true (show acc.length < LIM by omega), Res.guard_true, e4, comp_pure (fun y hy => hf y (List.mem_cons_of_mem _ hy)) (by rw [List.length_append]; simp; omega), List.filterMap_cons_some k, List.append_assoc]
      rfl
theorem endC_pure {h : Hm} {ys : List D} (b : belowDs h.length ys = true) : endC h (h ++ [MO.lst ys]) ys = h := by
  unfold endC
  rw [if_pos]
  refine ⟨⟨?_, ?_⟩, b⟩
  · simp
  · simp
/-- [elt for tg in it if cond], nothing changed -/
theorem ev_comp {Γ : Gam} {own : List (Str × Nat)} {tg : Tg} {it : It} {cond : Exs} {elt : Ex} {σ : Sg} {h h1 : Hm} {src : List D} (g : D → Option D) (hi : evI Γ it σ h = .ok src h1)
    (hg : ∀ x ∈ src, ∀ t, ∃ σ', asgD tg x (wipeD σ (own.map (·.2))) = some σ' ∧ (match g x with
      | some y => evTs Γ cond σ' (h1 ++ [t]) = .ok true (h1 ++ [t]) ∧ evE Γ elt σ' (h1 ++ [t]) = .ok y (h1 ++ [t])
      | none => evTs Γ cond σ' (h1 ++ [t]) = .ok false (h1 ++ [t])))
    (hl : src.length ≤ LIM) (hb : ∀ x ∈ src, ∀ y, g x = some y → belowD h1.length y = true) : evE Γ (.comp false own tg it cond elt) σ h = .ok (.lst (src.filterMap g)) h1 := by
  have b : belowDs h1.length (src.filterMap g) = true := belowDs_of fun y hy => by
    obtain ⟨x, hx, e⟩ := List.mem_filterMap.mp hy
    exact hb x hx y e
  unfold evE
  rw [hi]
  show (compLoop _ h1.length src (h1 ++ [MO.lst []])).bind _ = _
  rw [comp_pure (g := g) (fun x hx t => ?_) (by simpa using hl)]
  · show (match listOf? (h1 ++ [MO.lst ([] ++ src.filterMap g)]) h1.length with
      | some ys => Res.ok (D.lst ys) (endC h1 (h1 ++ [MO.lst ([] ++ src.filterMap g)]) ys)
      | none => .stuck) = _
    have e2 : listOf? (h1 ++ [MO.lst ([] ++ src.filterMap g)]) h1.length = some (src.filterMap g) := by
      unfold listOf?
      rw [List.getElem?_append_right (Nat.le_refl _)]
      simp
    rw [e2]
    dsimp only
    rw [List.nil_append, endC_pure b]
  · obtain ⟨σ', a1, a2⟩ := hg x hx t
    rw [a1]
    dsimp only
    cases k : g x with
    | none =>
      rw [k] at a2
      dsimp only at a2
      rw [a2]
      rfl
    | some y =>
      rw [k] at a2
      dsimp only at a2
      rw [a2.1]
      show (evE Γ elt σ' (h1 ++ [t])).bind _ = _
      rw [a2.2]
      rfl
theorem lim0 : decide (0 ≤ LIM) = true := rfl
theorem lim1 : decide (1 ≤ LIM) = true := rfl
theorem lim2 : decide (2 ≤ LIM) = true := rfl
theorem lim3 : decide (3 ≤ LIM) = true := rfl
theorem lim4 : decide (4 ≤ LIM) = true := rfl
theorem lim5 : decide (5 ≤ LIM) = true := rfl
theorem lim6 : decide (6 ≤ LIM) = true := rfl
theorem lim7 : decide (7 ≤ LIM) = true := rfl
theorem lim8 : decide (8 ≤ LIM) = true := rfl
theorem lim9 : decide (9 ≤ LIM) = true := rfl
theorem lim10 : decide (10 ≤ LIM) = true := rfl
theorem lim11 : decide (11 ≤ LIM) = true := rfl
theorem lim12 : decide (12 ≤ LIM) = true := rfl
theorem lim13 : decide (13 ≤ LIM) = true := rfl
theorem lim14 : decide (14 ≤ LIM) = true := rfl
theorem lim15 : decide (15 ≤ LIM) = true := rfl
theorem lim16 : decide (16 ≤ LIM) = true := rfl
theorem lim17 : decide (17 ≤ LIM) = true := rfl
theorem lim18 : decide (18 ≤ LIM) = true := rfl
theorem lim19 : decide (19 ≤ LIM) = true := rfl
theorem lim20 : decide (20 ≤ LIM) = true := rfl
theorem lim21 : decide (21 ≤ LIM) = true := rfl
theorem lim22 : decide (22 ≤ LIM) = true := rfl
theorem lim23 : decide (23 ≤ LIM) = true := rfl
theorem lim24 : decide (24 ≤ LIM) = true := rfl
theorem lim25 : decide (25 ≤ LIM) = true := rfl
theorem lim26 : decide (26 ≤ LIM) = true := rfl
theorem lim27 : decide (27 ≤ LIM) = true := rfl
theorem lim28 : decide (28 ≤ LIM) = true := rfl
theorem lim29 : decide (29 ≤ LIM) = true := rfl
theorem lim30 : decide (30 ≤ LIM) = true := rfl
theorem lim31 : decide (31 ≤ LIM) = true := rfl
theorem lim32 : decide (32 ≤ LIM) = true := rfl
theorem lim33 : decide (33 ≤ LIM) = true := rfl
theorem lim34 : decide (34 ≤ LIM) = true := rfl
theorem lim35 : decide (35 ≤ LIM) = true := rfl
theorem lim36 : decide (36 ≤ LIM) = true := rfl
theorem lim37 : decide (37 ≤ LIM) = true := rfl
theorem lim38 : decide (38 ≤ LIM) = true := rfl
theorem lim39 : decide (39 ≤ LIM) = true := rfl
theorem lim40 : decide (40 ≤ LIM) = true := rfl
theorem ixN_nat {n i : Nat} (h : i < n) : ixN n (i : Int) = some i := by
  unfold ixN
  rw [if_pos (Int.natCast_nonneg i), if_pos (by omega)]
  rfl
theorem atI_nat {α : Type} {xs : List α} {i : Nat} (h : i < xs.length) : atI xs (i : Int) = xs[i]? := by
  unfold atI
  rw [ixN_nat h]
  rfl
theorem at0 {α : Type} (x : α) (xs : List α) : atI (x :: xs) 0 = some x := by
  have := atI_nat (xs := x :: xs) (i := 0) (by simp)
  simpa using this
theorem at1 {α : Type} (x y : α) (xs : List α) : atI (x :: y :: xs) 1 = some y := by
  have := atI_nat (xs := x :: y :: xs) (i := 1) (by simp)
  simpa using this
theorem at2 {α : Type} (x y z : α) (xs : List α) : atI (x :: y :: z :: xs) 2 = some z := by
  have := atI_nat (xs := x :: y :: z :: xs) (i := 2) (by simp)
  simpa using this
theorem at3 {α : Type} (x y z u : α) (xs : List α) : atI (x :: y :: z :: u :: xs) 3 = some u := by
  have := atI_nat (xs := x :: y :: z :: u :: xs) (i := 3) (by simp)
  simpa using this
/-- the reading of a body, as far as it computes -/
local macro_rules | `(tactic| walk_at "mini mw") => `(tactic| simp only [wipeD, wpB, wpS, evE, evEs, evT, evTs, evO, evI, startD, List.map, List.length, List.replicate, List.append, List.cons_append, List.nil_append, List.getElem?_cons_zero, List.getElem?_cons_succ, List.getElem?_nil, List.set_cons_zero, List.set_cons_succ, List.set_nil, Nat.sub_self, Nat.reduceSub, Nat.reduceAdd, Nat.reduceMul, Nat.reduceEqDiff, List.replicate_zero, List.replicate_succ, List.append_nil, Res.bind_ok, Res.bind_stuck, Res.guard_true, Res.guard_false, Res.wp_ok, Res.wp_stuck, asgD, setAll, if_true, if_false, Bool.not_true, Bool.not_false, decide_true, decide_false, decide_eq_true_eq, Bool.false_eq_true, lim0, lim1, lim2, lim3, lim4, lim5, lim6, lim7, lim8, lim9, lim10, lim11, lim12, lim13, lim14, lim15, lim16, lim17, lim18, lim19, lim20, lim21, lim22, lim23, lim24, lim25, lim26, lim27, lim28, lim29, lim30, lim31, lim32, lim33, lim34, lim35, lim36, lim37, lim38, lim39, lim40, at0, at1, at2, at3, ty_int_non, ty_int_bl, ty_int_int, ty_int_str, ty_int_tup, ty_int_lst, ty_int_ref, ty_int_wtup, ty_bool_non, ty_bool_bl, ty_bool_int, ty_bool_str, ty_bool_tup, ty_bool_lst, ty_bool_ref, ty_bool_wtup, ty_str_non, ty_str_bl, ty_str_int, ty_str_str, ty_str_tup, ty_str_lst, ty_str_ref, ty_str_wtup, ty_tuple_non, ty_tuple_bl, ty_tuple_int, ty_tuple_str, ty_tuple_tup, ty_tuple_lst, ty_tuple_ref, ty_tuple_wtup, ty_list_non, ty_list_bl, ty_list_int, ty_list_str, ty_list_tup, ty_list_lst, ty_list_ref, ty_list_wtup, open_non, isNon_non, open_bl, isNon_bl, open_int, isNon_int, open_str, isNon_str, open_tup, isNon_tup, open_lst, isNon_lst, open_wtup, isNon_wtup, isNon_ref, open_ref, op_addI, op_addS, op_addL, op_addT, op_addML, op_subI, op_mulI, op_fdivI, op_modI, op_powI, cm_lt, cm_le, cm_gt, cm_ge, cm_eq, cm_ne, bi_lenT, bi_lenL, bi_lenS, bi_abs, bi_intI, bi_intB, bi_tupT, bi_tupL, bi_lstT, bi_lstL, bi_allL, bi_anyL, bi_sortedL, ix_tup, ix_lst, ix_ref, tr_bl, it_tup, it_lst, eq_int, eq_bl, lst_lst, lst_ref])
/-- of an expression -/
local macro_rules | `(tactic| walk_at "mini ew") => `(tactic| simp only [wipeD, evE, evEs, evT, evTs, evO, evI, startD, List.map, List.length, List.replicate, List.append, List.cons_append, List.nil_append, List.getElem?_cons_zero, List.getElem?_cons_succ, List.getElem?_nil, List.set_cons_zero, List.set_cons_succ, List.set_nil, Nat.sub_self, Nat.reduceSub, Nat.reduceAdd, Nat.reduceMul, Nat.reduceEqDiff, List.replicate_zero, List.replicate_succ, List.append_nil, Res.bind_ok, Res.bind_stuck, Res.guard_true, Res.guard_false, Res.wp_ok, Res.wp_stuck, asgD, setAll, if_true, if_false, Bool.not_true, Bool.not_false, decide_true, decide_false, decide_eq_true_eq, Bool.false_eq_true, lim0, lim1, lim2, lim3, lim4, lim5, lim6, lim7, lim8, lim9, lim10, lim11, lim12, lim13, lim14, lim15, lim16, lim17, lim18, lim19, lim20, lim21, lim22, lim23, lim24, lim25, lim26, lim27, lim28, lim29, lim30, lim31, lim32, lim33, lim34, lim35, lim36, lim37, lim38, lim39, lim40, at0, at1, at2, at3, ty_int_non, ty_int_bl, ty_int_int, ty_int_str, ty_int_tup, ty_int_lst, ty_int_ref, ty_int_wtup, ty_bool_non, ty_bool_bl, ty_bool_int, ty_bool_str, ty_bool_tup, ty_bool_lst, ty_bool_ref, ty_bool_wtup, ty_str_non, ty_str_bl, ty_str_int, ty_str_str, ty_str_tup, ty_str_lst, ty_str_ref, ty_str_wtup, ty_tuple_non, ty_tuple_bl, ty_tuple_int, ty_tuple_str, ty_tuple_tup, ty_tuple_lst, ty_tuple_ref, ty_tuple_wtup, ty_list_non, ty_list_bl, ty_list_int, ty_list_str, ty_list_tup, ty_list_lst, ty_list_ref, ty_list_wtup, open_non, isNon_non, open_bl, isNon_bl, open_int, isNon_int, open_str, isNon_str, open_tup, isNon_tup, open_lst, isNon_lst, open_wtup, isNon_wtup, isNon_ref, open_ref, op_addI, op_addS, op_addL, op_addT, op_addML, op_subI, op_mulI, op_fdivI, op_modI, op_powI, cm_lt, cm_le, cm_gt, cm_ge, cm_eq, cm_ne, bi_lenT, bi_lenL, bi_lenS, bi_abs, bi_intI, bi_intB, bi_tupT, bi_tupL, bi_lstT, bi_lstL, bi_allL, bi_anyL, bi_sortedL, ix_tup, ix_lst, ix_ref, tr_bl, it_tup, it_lst, eq_int, eq_bl, lst_lst, lst_ref])
/-- a comprehension whose list may be written on -/
theorem ev_compM {Γ : Gam} {own : List (Str × Nat)} {tg : Tg} {it : It} {cond : Exs} {elt : Ex} {σ : Sg} {h h1 : Hm} {src : List D} (g : D → Option D) (hi : evI Γ it σ h = .ok src h1)
    (hg : ∀ x ∈ src, ∀ t, ∃ σ', asgD tg x (wipeD σ (own.map (·.2))) = some σ' ∧ (match g x with
      | some y => evTs Γ cond σ' (h1 ++ [t]) = .ok true (h1 ++ [t]) ∧ evE Γ elt σ' (h1 ++ [t]) = .ok y (h1 ++ [t])
      | none => evTs Γ cond σ' (h1 ++ [t]) = .ok false (h1 ++ [t])))
    (hl : src.length ≤ LIM) : evE Γ (.comp true own tg it cond elt) σ h = .ok (.ref h1.length) (h1 ++ [MO.lst (src.filterMap g)]) := by
  unfold evE
  rw [hi]
  show (compLoop _ h1.length src (h1 ++ [MO.lst []])).bind _ = _
  rw [comp_pure (g := g) (fun x hx t => ?_) (by simpa using hl)]
  · have e2 : listOf? (h1 ++ [MO.lst ([] ++ src.filterMap g)]) h1.length = some (src.filterMap g) := by
      unfold listOf?
      rw [List.getElem?_append_right (Nat.le_refl _)]
      simp
    rw [Res.bind_ok, e2]
    dsimp only
    rw [List.nil_append]
  · obtain ⟨σ', a1, a2⟩ := hg x hx t
    rw [a1]
    dsimp only
    cases k : g x with
    | none =>
      rw [k] at a2
      dsimp only at a2
      rw [a2]
      rfl
    | some y =>
      rw [k] at a2
      dsimp only at a2
      rw [a2.1]
      show (evE Γ elt σ' (h1 ++ [t])).bind _ = _
      rw [a2.2]
      rfl
theorem mulOk_r {i j : Int} (h1 : -(2 ^ 64) < j) (h2 : j < 2 ^ 64) : mulOk i j = true := by
  unfold mulOk
  rw [decide_eq_true h1, decide_eq_true h2, Bool.and_self, Bool.or_true]
theorem mulOk_l {i j : Int} (h1 : -(2 ^ 64) < i) (h2 : i < 2 ^ 64) : mulOk i j = true := by
  unfold mulOk
  rw [decide_eq_true h1, decide_eq_true h2, Bool.and_self, Bool.or_true, Bool.true_or]
theorem divOk_of {j : Int} (h0 : j ≠ 0) (h : j.natAbs.log2 < 9000) : divOk j = true := by
  unfold divOk
  rw [decide_eq_true h0, decide_eq_true h]
  rfl
theorem ints_map : ∀ zs : List Int, intsOf (zs.map D.int) = some zs
  | [] => rfl
  | z :: zs => by
    show (intsOf (zs.map D.int)).map (z :: ·) = _
    rw [ints_map zs]
    rfl
theorem ints_eq : ∀ {xs : List D} {zs : List Int}, intsOf xs = some zs → xs = zs.map D.int
  | [], _, e => by cases e; rfl
  | x :: xs, zs, e => by
    cases x <;> first | cases e | skip
    rename_i z
    have e : (intsOf xs).map (z :: ·) = some zs := e
    cases k : intsOf xs with
    | none => rw [k] at e; cases e
    | some ys =>
      rw [k] at e
      cases e
      rw [ints_eq k]
      rfl
theorem listOf_app {h t : Hm} {n : Nat} (hn : n < h.length) : listOf? (h ++ t) n = listOf? h n := by
  unfold listOf?
  rw [List.getElem?_append_left hn]
theorem listOf_lt {h : Hm} {n : Nat} {xs : List D} (e : listOf? h n = some xs) : n < h.length := (List.getElem?_eq_some_iff.mp (listOf_eq e)).1
theorem listOf_set_same {h : Hm} {n : Nat} {xs : List D} (hn : n < h.length) : listOf? (h.set n (.lst xs)) n = some xs := by
  unfold listOf?
  rw [List.getElem?_set_self hn]
theorem listOf_set_ne {h : Hm} {n m : Nat} {o : MO} (hn : n ≠ m) : listOf? (h.set n o) m = listOf? h m := by
  unfold listOf?
  rw [List.getElem?_set_ne hn]
theorem listOf_new {h t : Hm} {xs : List D} : listOf? (h ++ MO.lst xs :: t) h.length = some xs := by
  unfold listOf?
  rw [List.getElem?_append_right (Nat.le_refl _)]
  simp
theorem canLay_ints : ∀ zs : List Int, toPys (zs.map D.int) = some (zs.map PyData.int) ∧ PyData.canLayAll0 (zs.map PyData.int) = true ∧ PyData.depthAll (zs.map PyData.int) = 0
  | [] => ⟨rfl, rfl, rfl⟩
  | z :: zs => by
    obtain ⟨a, b, c⟩ := canLay_ints zs
    refine ⟨?_, ?_, ?_⟩
    · show (match toPy (.int z), toPys (zs.map D.int) with | some p, some ps => some (p :: ps) | _, _ => none) = _
      rw [a]
      rfl
    · show (PyData.canLay0 (.int z) && PyData.canLayAll0 (zs.map PyData.int)) = true
      rw [b]
      rfl
    · show max (PyData.depth (.int z)) (PyData.depthAll (zs.map PyData.int)) = 0
      rw [c]
      rfl
/-- xs == [] of a list of ints -/
theorem eq_nil {h : Hm} {n : Nat} {zs : List Int} (e : listOf? h n = some (zs.map D.int)) : eqD (.ref n) (.lst []) h = .ok zs.isEmpty h := by
  obtain ⟨a, b, c⟩ := canLay_ints zs
  unfold eqD
  have e1 : toPyH h (.ref n) = some (.list (zs.map PyData.int)) := by
    show ((listOf? h n).bind toPys).map PyData.list = _
    rw [e]
    show (toPys (zs.map D.int)).map PyData.list = _
    rw [a]
    rfl
  have e2 : toPyH h (.lst []) = some (.list []) := rfl
  rw [e1, e2]
  have s1 : SeqAt.shaped (.list (zs.map PyData.int)) = true := by
    unfold SeqAt.shaped
    show (PyData.canLayAll0 (zs.map PyData.int) && decide (PyData.depthAll (zs.map PyData.int) + 1 ≤ 64)) = true
    rw [b, c]
    rfl
  have s2 : SeqAt.shaped (.list []) = true := rfl
  dsimp only
  rw [s1, s2]
  cases zs <;> rfl
theorem pop0 {h : Hm} {n : Nat} {y : D} {ys : List D} (e : listOf? h n = some (y :: ys)) : mtD .popAt (.ref n) [.int 0] h = .ok y (h.set n (.lst ys)) := by
  show (match listOf? h n with
      | some xs => match (if 0 ≤ (0 : Int) ∧ (0 : Int) < xs.length then xs[(0 : Int).toNat]? else none) with
        | some y => Res.ok y (h.set n (.lst (xs.eraseIdx (0 : Int).toNat)))
        | none => .stuck
      | none => .stuck) = _
  rw [e]
  dsimp only
  rw [if_pos ⟨by decide, by rw [List.length_cons]; omega⟩]
  rfl
theorem rcv_pop {h : Hm} {n : Nat} {xs : List D} (e : listOf? h n = some xs) : rcvD .popAt (.ref n) h = true := by
  show (listOf? h n).isSome = true
  rw [e]
  rfl
theorem rcv_app {h : Hm} {n : Nat} {xs : List D} (e : listOf? h n = some xs) : rcvD .append (.ref n) h = true := by
  show (listOf? h n).isSome = true
  rw [e]
  rfl
theorem app1 {h : Hm} {n : Nat} {xs : List D} {x : D} (e : listOf? h n = some xs) (hl : xs.length < LIM) : mtD .append (.ref n) [x] h = .ok .non (h.set n (.lst (xs ++ [x]))) := by
  show (match listOf? h n with
    | some xs => Res.guard (decide (xs.length < LIM)) (Res.ok D.non (h.set n (.lst (xs ++ [x]))))
    | none => .stuck) = _
  rw [e]
  dsimp only
  rw [decide_eq_true hl]
  rfl
theorem set_same {h : Hm} {n : Nat} {xs : List D} (e : listOf? h n = some xs) : h.set n (.lst xs) = h := by
  have e := listOf_eq e
  apply List.ext_getElem?
  intro i
  by_cases c : n = i
  · subst c
    rw [e, List.getElem?_set_self (List.getElem?_eq_some_iff.mp e).1]
  · rw [List.getElem?_set_ne c]
/-! ### plain data: equal to itself -/
def plainD : Nat → D → Bool
  | _, .non => true
  | _, .bl _ => true
  | _, .int _ => true
  | _, .str x => PyData.strOk x
  | k + 1, .tup xs => decide (xs.length ≤ 1000) && xs.all (plainD k)
  | k + 1, .lst xs => decide (xs.length ≤ 1000) && xs.all (plainD k)
  | _, _ => false
theorem eqvAll_refl : ∀ {ps : List PyData}, (∀ p ∈ ps, PyData.eqv p p = true) → PyData.eqvAll ps ps = true
  | [], _ => rfl
  | p :: ps, h => by
    show (PyData.eqv p p && PyData.eqvAll ps ps) = true
    rw [h p List.mem_cons_self, eqvAll_refl fun q hq => h q (List.mem_cons_of_mem _ hq)]
    rfl
theorem plain_py : ∀ (k : Nat) (d : D), plainD k d = true → ∃ p, toPy d = some p ∧ PyData.canLay0 p = true ∧ PyData.depth p ≤ k ∧ PyData.eqv p p = true := by
  intro k
  have key : ∀ (k : Nat), (∀ d, plainD k d = true → ∃ p, toPy d = some p ∧ PyData.canLay0 p = true ∧ PyData.depth p ≤ k ∧ PyData.eqv p p = true) →
      ∀ xs : List D, xs.all (plainD k) = true → ∃ ps, toPys xs = some ps ∧ PyData.canLayAll0 ps = true ∧ PyData.depthAll ps ≤ k ∧ PyData.eqvAll ps ps = true := by
    intro k ih xs
    induction xs with
    | nil => exact fun _ => ⟨[], rfl, rfl, Nat.zero_le _, rfl⟩
    | cons x xs ihx =>
      intro h
      rw [List.all_cons, Bool.and_eq_true] at h
      obtain ⟨p, a1, a2, a3, a4⟩ := ih x h.1
      obtain ⟨ps, b1, b2, b3, b4⟩ := ihx h.2
      refine ⟨p :: ps, ?_, ?_, ?_, ?_⟩
      · show (match toPy x, toPys xs with | some p, some ps => some (p :: ps) | _, _ => none) = _
        rw [a1, b1]
      · show (PyData.canLay0 p && PyData.canLayAll0 ps) = true
        rw [a2, b2]
        rfl
      · show max (PyData.depth p) (PyData.depthAll ps) ≤ k
        omega
      · show (PyData.eqv p p && PyData.eqvAll ps ps) = true
        rw [a4, b4]
        rfl
  induction k with
  | zero =>
    intro d h
    cases d with
    | non => exact ⟨_, rfl, rfl, Nat.zero_le _, rfl⟩
    | bl b => exact ⟨_, rfl, rfl, Nat.zero_le _, by cases b <;> rfl⟩
    | int i => exact ⟨_, rfl, rfl, Nat.zero_le _, by simp [PyData.eqv]⟩
    | str x => exact ⟨_, rfl, h, Nat.zero_le _, by simp [PyData.eqv]⟩
    | _ => exact Bool.noConfusion h
  | succ k ih =>
    intro d h
    cases d with
    | non => exact ⟨_, rfl, rfl, Nat.zero_le _, rfl⟩
    | bl b => exact ⟨_, rfl, rfl, Nat.zero_le _, by cases b <;> rfl⟩
    | int i => exact ⟨_, rfl, rfl, Nat.zero_le _, by simp [PyData.eqv]⟩
    | str x => exact ⟨_, rfl, h, Nat.zero_le _, by simp [PyData.eqv]⟩
    | tup xs =>
      have h : (decide (xs.length ≤ 1000) && xs.all (plainD k)) = true := h
      rw [Bool.and_eq_true] at h
      obtain ⟨ps, b1, b2, b3, b4⟩ := key k ih xs h.2
      refine ⟨.tuple ps, ?_, b2, Nat.succ_le_succ b3, b4⟩
      show (toPys xs).map PyData.tuple = _
      rw [b1]
      rfl
    | lst xs =>
      have h : (decide (xs.length ≤ 1000) && xs.all (plainD k)) = true := h
      rw [Bool.and_eq_true] at h
      obtain ⟨ps, b1, b2, b3, b4⟩ := key k ih xs h.2
      refine ⟨.list ps, ?_, b2, Nat.succ_le_succ b3, b4⟩
      show (toPys xs).map PyData.list = _
      rw [b1]
      rfl
    | _ => exact Bool.noConfusion h
theorem toPyH_of {h : Hm} {d : D} {p : PyData} (e : toPy d = some p) : toPyH h d = some p := by
  cases d <;> first | exact e | cases e
theorem eq_refl {k : Nat} {d : D} (hk : k ≤ 64) (h : plainD k d = true) (h1 : Hm) : eqD d d h1 = .ok true h1 := by
  obtain ⟨p, a1, a2, a3, a4⟩ := plain_py k d h
  unfold eqD
  rw [toPyH_of a1]
  have s1 : SeqAt.shaped p = true := by
    unfold SeqAt.shaped
    rw [a2, decide_eq_true (show p.depth ≤ 64 by omega)]
    rfl
  dsimp only
  rw [s1, a4]
  rfl
theorem plain_mono {k : Nat} : ∀ {d : D}, plainD k d = true → plainD (k + 1) d = true := by
  induction k with
  | zero => intro d h; cases d <;> first | exact h | exact Bool.noConfusion h
  | succ k ih =>
    intro d h
    cases d with
    | tup xs =>
      have h : (decide (xs.length ≤ 1000) && xs.all (plainD k)) = true := h
      rw [Bool.and_eq_true, List.all_eq_true] at h
      show (decide (xs.length ≤ 1000) && xs.all (plainD (k + 1))) = true
      rw [Bool.and_eq_true, List.all_eq_true]
      exact ⟨h.1, fun x hx => ih (h.2 x hx)⟩
    | lst xs =>
      have h : (decide (xs.length ≤ 1000) && xs.all (plainD k)) = true := h
      rw [Bool.and_eq_true, List.all_eq_true] at h
      show (decide (xs.length ≤ 1000) && xs.all (plainD (k + 1))) = true
      rw [Bool.and_eq_true, List.all_eq_true]
      exact ⟨h.1, fun x hx => ih (h.2 x hx)⟩
    | _ => first | exact h | exact Bool.noConfusion h
theorem small_len {n : Nat} (hl : n ≤ 1000000) : smallI (n : Int) = true := by
  unfold smallI
  rw [decide_eq_true (by omega), decide_eq_true (by omega)]
  rfl
theorem guard_eq {α : Type} {b : Bool} {r : Res α} (h : b = true) : Res.guard b r = r := by
  subst h
  rfl
theorem I_rng1 {Γ : Gam} {a : Ex} {σ : Sg} {h h1 : Hm} {n : Nat} (he : evE Γ a σ h = .ok (.int n) h1) (hl : n ≤ 1000000) : evI Γ (.rng1 a) σ h = .ok (rngD 0 n) h1 := by
  have e : evI Γ (.rng1 a) σ h = (evE Γ a σ h).bind fun x h1 => match x with
    | .int j => .guard (smallI j) (.ok (rngD 0 j.toNat) h1)
    | _ => .stuck := rfl
  rw [e, he, Res.bind_ok]
  dsimp only
  rw [guard_eq (small_len hl), Int.toNat_natCast]
theorem I_rng2 {Γ : Gam} {a b : Ex} {σ : Sg} {h h1 h2 : Hm} {m n : Nat} (he : evE Γ a σ h = .ok (.int m) h1) (hb : evE Γ b σ h1 = .ok (.int n) h2) (hm : m ≤ 1000000) (hl : n ≤ 1000000) : evI Γ (.rng2 a b) σ h = .ok (rngD m (n - m)) h2 := by
  have e : evI Γ (.rng2 a b) σ h = (evE Γ a σ h).bind fun x h1 => (evE Γ b σ h1).bind fun y h2 => match x, y with
    | .int i, .int j => .guard (smallI i && smallI j) (.ok (rngD i (j - i).toNat) h2)
    | _, _ => .stuck := rfl
  rw [e, he, Res.bind_ok, hb, Res.bind_ok]
  dsimp only
  rw [guard_eq (by rw [small_len hm, small_len hl]; rfl)]
  congr 2
  omega
/-- a turn of a comprehension -/
noncomputable def stepC (Γ : Gam) (own : List (Str × Nat)) (tg : Tg) (cond : Exs) (elt : Ex) (σ : Sg) (x : D) (h2 : Hm) : Res (Option D) := match asgD tg x (wipeD σ (own.map (·.2))) with
  | some σ' => (evTs Γ cond σ' h2).bind fun t h3 => match t with
    | true => (evE Γ elt σ' h3).bind fun y h4 => .ok (some y) h4
    | false => .ok none h3
  | none => .stuck
theorem ev_comp_eq {Γ : Gam} {own : List (Str × Nat)} {tg : Tg} {it : It} {cond : Exs} {elt : Ex} {σ : Sg} {h : Hm} : evE Γ (.comp false own tg it cond elt) σ h = (evI Γ it σ h).bind fun src h1 =>
    (compLoop (stepC Γ own tg cond elt σ) h1.length src (h1 ++ [MO.lst []])).bind fun _ h2 => match listOf? h2 h1.length with
      | some ys => .ok (.lst ys) (endC h1 h2 ys)
      | none => .stuck := by
  unfold evE
  rfl
theorem stepC_some {Γ : Gam} {own : List (Str × Nat)} {tg : Tg} {cond : Exs} {elt : Ex} {σ σ' : Sg} {x y : D} {h h1 h2 : Hm} (ha : asgD tg x (wipeD σ (own.map (·.2))) = some σ') (ht : evTs Γ cond σ' h = .ok true h1) (he : evE Γ elt σ' h1 = .ok y h2) : stepC Γ own tg cond elt σ x h = .ok (some y) h2 := by
  unfold stepC
  rw [ha]
  dsimp only
  rw [ht, Res.bind_ok]
  dsimp only
  rw [he]
  rfl
theorem stepC_none {Γ : Gam} {own : List (Str × Nat)} {tg : Tg} {cond : Exs} {elt : Ex} {σ σ' : Sg} {x : D} {h h1 : Hm} (ha : asgD tg x (wipeD σ (own.map (·.2))) = some σ') (ht : evTs Γ cond σ' h = .ok false h1) : stepC Γ own tg cond elt σ x h = .ok none h1 := by
  unfold stepC
  rw [ha]
  dsimp only
  rw [ht]
  rfl
theorem loop_cons {f : D → Hm → Res (Option D)} {n : Nat} {x y : D} {xs acc : List D} {h h1 : Hm} (hf : f x h = .ok (some y) h1) (hl : listOf? h1 n = some acc) (hz : acc.length ≤ 1000) : compLoop f n (x :: xs) h = compLoop f n xs (h1.set n (.lst (acc ++ [y]))) := by
  show (f x h).bind _ = _
  rw [hf, Res.bind_ok]
  dsimp only
  rw [hl]
  dsimp only
  exact guard_eq (decide_eq_true (Nat.lt_of_le_of_lt hz (by decide)))
theorem loop_skip {f : D → Hm → Res (Option D)} {n : Nat} {x : D} {xs : List D} {h h1 : Hm} (hf : f x h = .ok none h1) : compLoop f n (x :: xs) h = compLoop f n xs h1 := by
  show (f x h).bind _ = _
  rw [hf]
  rfl

/-! Mini 18: a module's defs, one by one; the end. -/
/-- a def as it stands behind the top -/
def DefAt (K : PySem.W.Frag) (x : Str) (st : Stmt) : Prop := ∃ (f : Addr) (fd : FuncData), PySem.W.nsIn K mainGlobals x = some (some (.ref f)) ∧ Fun K x x st f fd
theorem def_at {K : PySem.W.Frag} {x : Str} {st : Stmt} {f : Addr} {oc : Value} {od an : Option Addr} {osl : Array (Option Value)} {kV doc pm cdv ct : Value} (a : PySem.W.nsIn K mainGlobals x = some (some (.ref f)))
    (l : K.lookup f = some ⟨oc, od, .func (PySem.W.fnOf x x (defArgs st) (defBody st) (defScope st) .none kV doc pm an cdv ct), osl⟩) (c : PySem.W.codeIn K cdv x = true) (k : PySem.W.keepIn K (.ref f) = true) : DefAt K x st := ⟨_, _, a, fun_mk l c k⟩
/-- what a body may call, by a list -/
def gamL (l : List (Nat × (List D → Hm → Res D))) (gl : List (Nat × D)) : Gam := ⟨fun i => l.lookup i, fun g => gl.lookup g⟩
section
variable {P : Program} {w : World} {K : PySem.W.Frag} {mg : Str → Option Value} {base h0 : Heap} {k : Nat} {c : Ctx}
def Fns (P : Program) (w : World) (K : PySem.W.Frag) (mg : Str → Option Value) (base : Heap) (k : Nat) (c : Ctx) : List (Nat × (List D → Hm → Res D)) → Prop
  | [] => True
  | p :: r => (∃ x, c.fnm[p.1]? = some x ∧ FnAt P w K mg base k x p.2) ∧ Fns P w K mg base k c r
def Kws (P : Program) (w : World) (K : PySem.W.Frag) (mg : Str → Option Value) (base : Heap) (k : Nat) (c : Ctx) (Γ : Gam) : List (Nat × Nat × List Str × List Nat) → Prop
  | [] => True
  | e :: r => (∀ den, Γ.fn e.1 = some den → ∃ x, c.fnm[e.1]? = some x ∧ FnKAt P w K mg base k x den e.2.1 e.2.2.1 e.2.2.2) ∧ Kws P w K mg base k c Γ r
def Gls (K : PySem.W.Frag) (mg : Str → Option Value) (c : Ctx) : List (Nat × D) → Prop
  | [] => True
  | p :: r => (∃ x u v, c.glm[p.1]? = some x ∧ mg x = some u ∧ RelV v u ∧ ∀ H ρ M, RD K H ρ M p.2 v) ∧ Gls K mg c r
theorem Fns.at : ∀ {l : List (Nat × (List D → Hm → Res D))}, Fns P w K mg base k c l → ∀ i den, l.lookup i = some den → ∃ x, c.fnm[i]? = some x ∧ FnAt P w K mg base k x den
  | [], _, _, _, e => by cases e
  | p :: r, h, i, den, e => by
    obtain ⟨j, d⟩ := p
    rw [List.lookup_cons] at e
    split at e
    · rename_i c
      have c : i = j := by simpa using c
      subst c
      cases e
      exact h.1
    · exact Fns.at h.2 i den e
theorem Gls.at : ∀ {l : List (Nat × D)}, Gls K mg c l → ∀ g d, l.lookup g = some d → ∃ x u v, c.glm[g]? = some x ∧ mg x = some u ∧ RelV v u ∧ ∀ H ρ M, RD K H ρ M d v
  | [], _, _, _, e => by cases e
  | p :: r, h, i, den, e => by
    obtain ⟨j, d⟩ := p
    rw [List.lookup_cons] at e
    split at e
    · rename_i c
      have c : i = j := by simpa using c
      subst c
      cases e
      exact h.1
    · exact Gls.at h.2 i den e
theorem Kws.at {Γ : Gam} : ∀ {l : List (Nat × Nat × List Str × List Nat)}, Kws P w K mg base k c Γ l → ∀ i n ks perm den, (i, n, ks, perm) ∈ l → Γ.fn i = some den → ∃ x, c.fnm[i]? = some x ∧ FnKAt P w K mg base k x den n ks perm
  | [], _, _, _, _, _, _, m, _ => absurd m (by simp)
  | p :: r, h, i, n, ks, perm, den, m, e => by
    rcases List.mem_cons.mp m with q | q
    · subst q
      exact h.1 den e
    · exact Kws.at h.2 i n ks perm den q e
theorem env_mk {l : List (Nat × (List D → Hm → Res D))} {gl : List (Nat × D)} (bi : ∀ x ∈ bNames, mg x = none) (hf : Fns P w K mg base k c l) (hk : Kws P w K mg base k c (gamL l gl) c.kw) (hg : Gls K mg c gl) : EnvOk P w K mg base k c (gamL l gl) :=
  ⟨bi, fun i den e => hf.at i den e, fun i n ks perm den m e => hk.at i n ks perm den m e, fun g d e => hg.at g d e⟩
variable {x : Str} {st : Stmt} {ps : List Str} {Γ : Gam} {body : Blk} {den : List D → Hm → Res D}
theorem fn_step (A : DefAt K x st) (X : K.In h0) (G : h0.Ns mainGlobals mg) (S : FnScope c.N ps (defScope st)) (hc : c.names = (defScope st).names) (ho : c.own = none) (E : EnvOk P w K mg base k c Γ) (chk : chkB body c (defBody st) = true)
    (hbind : ∀ (kV doc pm : Value) (an : Option Addr) (cdv ct : Value) (us : List Value), us.length = ps.length → bindArgs (PySem.W.fnOf x x (defArgs st) (defBody st) (defScope st) .none kV doc pm an cdv ct) ⟨us, []⟩ = pure (ps.zip us))
    (hn : ∀ ds h r h', den ds h = .ok r h' → ds.length = ps.length) (hb : BodyOk Γ c.N body den) : FnAt P w K mg base (k + 1) x den := by
  obtain ⟨f, fd, a, F⟩ := A
  exact fnAt_mk F S hc ho E chk (PySem.W.mg_of X G a) (F.binds hbind) hn hb
theorem fnk_step {n : Nat} {ks : List Str} {perm : List Nat} (A : DefAt K x st) (X : K.In h0) (G : h0.Ns mainGlobals mg) (S : FnScope c.N ps (defScope st)) (hc : c.names = (defScope st).names) (ho : c.own = none) (E : EnvOk P w K mg base k c Γ) (chk : chkB body c (defBody st) = true)
    (hbind : ∀ (kV doc pm : Value) (an : Option Addr) (cdv ct : Value) (us ws : List Value), us.length = n → ws.length = ks.length → bindArgs (PySem.W.fnOf x x (defArgs st) (defBody st) (defScope st) .none kV doc pm an cdv ct) ⟨us, ks.zip ws⟩ = pure (ps.zip (permV perm Value.none us ws)))
    (hn : ∀ ds h r h', den ds h = .ok r h' → ds.length = ps.length) (hb : BodyOk Γ c.N body den) : FnKAt P w K mg base (k + 1) x den n ks perm := by
  obtain ⟨f, fd, a, F⟩ := A
  refine ⟨f, fd, ps, def_ok F S hc ho E chk hn hb, PySem.W.mg_of X G a, F.kp, ?_, hn⟩
  obtain ⟨oc, od, kV, doc, pm, an, cdv, ct, osl, rfl, lk, hcd⟩ := F.ex
  exact fun s us ws _ h1 h2 => .of_eq (hbind kV doc pm an cdv ct us ws h1 h2)
/-- a pair of ints of the module -/
theorem gl_pair {a : Addr} {i j : Int} {t u : Tok} {n : Nat} {osl : Array (Option Value)} {g : Nat} (hx : c.glm[g]? = some x) (X : K.In h0) (G : h0.Ns mainGlobals mg) (ha : PySem.W.nsIn K mainGlobals x = some (some (.ref a))) (l : K.lookup a = some ⟨.type "tuple", none, .seq #[.int i t, .int j u] n, osl⟩) :
    ∃ x u v, c.glm[g]? = some x ∧ mg x = some u ∧ RelV v u ∧ ∀ H ρ M, RD K H ρ M (.tup [.int i, .int j]) v :=
  ⟨x, .ref a, .ref a, hx, PySem.W.mg_of X G ha, rfl, fun H ρ M => .tup (vs := [.int i, .int j]) (.inr ⟨_, _, n, l, rfl, rfl, rfl, by rw [sz]; exact (show 2 ≤ 16777216 by decide), .cons ⟨t, rfl⟩ (.cons ⟨u, rfl⟩ .nil)⟩) (.cons (.int i) (.cons (.int j) .nil))⟩
/-- the law itself -/
theorem law_step {fa : Addr} {den : List D → Hm → Res D} (A : DefAt K "law" st) (X : K.In h0) (G : h0.Ns mainGlobals mg) (hfa : mg "law" = some (.ref fa)) (S : FnScope c.N ["script"] (defScope st)) (hc : c.names = (defScope st).names) (ho : c.own = none)
    (E : ∀ base : Heap, EnvOk P w K mg base k c Γ) (chk : chkB body c (defBody st) = true)
    (hbind : ∀ (kV doc pm : Value) (an : Option Addr) (cdv ct : Value) (u : Value), bindArgs (PySem.W.fnOf "law" "law" (defArgs st) (defBody st) (defScope st) .none kV doc pm an cdv ct) ⟨[u], []⟩ = pure [(("script" : Str), u)])
    (hn : ∀ ds h r h', den ds h = .ok r h' → ds.length = 1) (hb : BodyOk Γ c.N body den) :
    ∃ fd : FuncData, (∀ (s : Shared) (u : Value), BindsTo s fd ⟨[u], []⟩ [("script", u)]) ∧ ∀ base : Heap, K.In base → base.Ns mainGlobals mg → FnOk P w K mg base CX0 (k + 1) fa fd ["script"] (spD K 1 den) := by
  obtain ⟨f, fd, a, F⟩ := A
  have e := hfa.symm.trans (PySem.W.mg_of X G a)
  cases e
  refine ⟨fd, fun s u => ?_, fun base _ _ => def_ok F S hc ho (E base) chk hn hb⟩
  obtain ⟨oc, od, kV, doc, pm, an, cdv, ct, osl, rfl, lk, hcd⟩ := F.ex
  exact .of_eq (hbind kV doc pm an cdv ct u)
end
theorem law_walk {l : PySem.W.OpenLaw} {q : Program} {loose : List Str} {XP : (Str → Option Value) → Heap → Prop} {YP : World → Heap → Prop} {d : DefRec} {K : Params → PySem.W.Frag} {den : List D → Hm → Res D} {k : Nat} (hn : l.most = some 63) (hdf : d.params.defaults = []) (hr : Room k callerA)
    (hY : ∀ (w : World) (h : Heap), YP w h → (K w.params).In h) (hden : ∀ zs : List Int, zs.length ≤ 63 → ∃ h', den [.lst (zs.map .int)] [] = .ok (.bl true) h')
    (F : ∀ (w : World) (mg : Str → Option Value) (fa : Addr) (h : Heap), (K w.params).In h → h.Ns mainGlobals mg → mg d.name = some (.ref fa) →
      ∃ fd : FuncData, (∀ (s : Shared) (u : Value), BindsTo s fd ⟨[u], []⟩ [("script", u)]) ∧ ∀ base : Heap, (K w.params).In base → base.Ns mainGlobals mg → FnOk l.prog w (K w.params) mg base CX0 k fa fd ["script"] (spD (K w.params) 1 den)) :
    PySem.W.WalkO q loose XP YP l.row.toRowW d [] (fun f vs => PySem.call f vs) :=
  L2.walk_of (n := 63) (k := k) (x := "script") (CX := fun _ => CX0) (sp := fun w => spD (K w.params) 1 den) hn (by decide) hdf hr hY F (fun _ _ a ns hl _ hS => law_sp hS (hden ns hl)) fun _ _ _ _ _ z => z
theorem all_cons {p : Str → Prop} {x : Str} {l : List Str} (h : p x) (hl : ∀ y ∈ l, p y) : ∀ y ∈ x :: l, p y := fun y hy => by
  rcases List.mem_cons.mp hy with e | e
  · rw [e]; exact h
  · exact hl y e
theorem bi_of {K : PySem.W.Frag} (h0 : PySem.W.nsIn K mainGlobals "len" = some none) (h1 : PySem.W.nsIn K mainGlobals "abs" = some none) (h2 : PySem.W.nsIn K mainGlobals "int" = some none) (h3 : PySem.W.nsIn K mainGlobals "tuple" = some none) (h4 : PySem.W.nsIn K mainGlobals "list" = some none) (h5 : PySem.W.nsIn K mainGlobals "all" = some none) (h6 : PySem.W.nsIn K mainGlobals "any" = some none) (h7 : PySem.W.nsIn K mainGlobals "sum" = some none) (h8 : PySem.W.nsIn K mainGlobals "max" = some none) (h9 : PySem.W.nsIn K mainGlobals "min" = some none) (h10 : PySem.W.nsIn K mainGlobals "str" = some none) (h11 : PySem.W.nsIn K mainGlobals "bool" = some none) (h12 : PySem.W.nsIn K mainGlobals "isinstance" = some none) (h13 : PySem.W.nsIn K mainGlobals "range" = some none) (h14 : PySem.W.nsIn K mainGlobals "sorted" = some none) (h15 : PySem.W.nsIn K mainGlobals "reversed" = some none) (h16 : PySem.W.nsIn K mainGlobals "enumerate" = some none) (h17 : PySem.W.nsIn K mainGlobals "zip" = some none) : ∀ x ∈ bNames, PySem.W.nsIn K mainGlobals x = some none := (all_cons h0 (all_cons h1 (all_cons h2 (all_cons h3 (all_cons h4 (all_cons h5 (all_cons h6 (all_cons h7 (all_cons h8 (all_cons h9 (all_cons h10 (all_cons h11 (all_cons h12 (all_cons h13 (all_cons h14 (all_cons h15 (all_cons h16 (all_cons h17 (fun x hx => absurd hx (by simp))))))))))))))))))))

namespace K01
def top (i : Nat) : Stmt := PySem.Challenge.pw_drawntold_k01_fractions_made_and_summed.main.body.getD i (.Pass ⟨0, 0, 0, 0⟩)
def fnm : List Str := ["is_integer", "common", "lowest", "is_fraction", "check_fractions", "fraction", "plus", "minus", "times", "over", "below", "sum_of", "_law_spring", "_law_drop", "_law_kinds", "_law_alike", "_law_low", "_law_plus", "_law_minus", "_law_times", "_law_below", "_law_number", "_law_above", "_law_is", "_law_means", "_law_pair_right", "_law_any", "_law_handed_on_right", "law"]
def glm : List Str := ["NOUGHT"]
abbrev n_is_integer : Nat := 0
abbrev n_common : Nat := 1
abbrev n_lowest : Nat := 2
abbrev n_is_fraction : Nat := 3
abbrev n_check_fractions : Nat := 4
abbrev n_fraction : Nat := 5
abbrev n_plus : Nat := 6
abbrev n_minus : Nat := 7
abbrev n_times : Nat := 8
abbrev n_over : Nat := 9
abbrev n_below : Nat := 10
abbrev n_sum_of : Nat := 11
abbrev n_law_spring : Nat := 12
abbrev n_law_drop : Nat := 13
abbrev n_law_kinds : Nat := 14
abbrev n_law_alike : Nat := 15
abbrev n_law_low : Nat := 16
abbrev n_law_plus : Nat := 17
abbrev n_law_minus : Nat := 18
abbrev n_law_times : Nat := 19
abbrev n_law_below : Nat := 20
abbrev n_law_number : Nat := 21
abbrev n_law_above : Nat := 22
abbrev n_law_is : Nat := 23
abbrev n_law_means : Nat := 24
abbrev n_law_pair_right : Nat := 25
abbrev n_law_any : Nat := 26
abbrev n_law_handed_on_right : Nat := 27
abbrev n_law : Nat := 28
/-! is_integer: number 0, slots ['value'], calls [] -/
abbrev s_is_integer : Stmt := top 5
def c_is_integer : Ctx := ⟨["value"], (defScope s_is_integer).names, none, fnm, glm, []⟩
def b_is_integer : Blk := (.cons (.ret (.band (.isi (.v 0) .int) (.bnot (.isi (.v 0) .bool)))) .nil)
theorem k_is_integer : chkB b_is_integer c_is_integer (defBody s_is_integer) = true := by decide +kernel
theorem f_is_integer : FnScope ["value"] ["value"] (defScope s_is_integer) := ⟨rfl, rfl, rfl, by decide +kernel, rfl, by decide +kernel, by decide +kernel⟩
/-! common: number 1, slots ['one', 'other'], calls [] -/
abbrev s_common : Stmt := top 6
def c_common : Ctx := ⟨["one", "other"], (defScope s_common).names, none, fnm, glm, []⟩
def b_common : Blk := (.cons (.while_ (.cmp .gt (.v 1) (.int 0)) (.cons (.par 0 1 (.v 1) (.op2 .mod (.v 0) (.v 1))) .nil)) (.cons (.ret (.v 0)) .nil))
theorem k_common : chkB b_common c_common (defBody s_common) = true := by decide +kernel
theorem f_common : FnScope ["one", "other"] ["one", "other"] (defScope s_common) := ⟨rfl, rfl, rfl, by decide +kernel, rfl, by decide +kernel, by decide +kernel⟩
/-! lowest: number 2, slots ['top', 'bottom', 'factor'], calls [(1, 'common')] -/
abbrev s_lowest : Stmt := top 8
def c_lowest : Ctx := ⟨["top", "bottom", "factor"], (defScope s_lowest).names, none, fnm, glm, []⟩
def b_lowest : Blk := (.cons (.set 2 (.op2 .mul (.call n_common (.cons (.bi .abs (.cons (.v 0) .nil)) (.cons (.bi .abs (.cons (.v 1) .nil)) .nil))) (.ifx (.cmp .gt (.v 1) (.int 0)) (.int 1) (.neg (.int 1))))) (.cons (.ret (.tup (.cons (.op2 .fdiv (.v 0) (.v 2)) (.cons (.op2 .fdiv (.v 1) (.v 2)) .nil)))) .nil))
theorem k_lowest : chkB b_lowest c_lowest (defBody s_lowest) = true := by decide +kernel
theorem f_lowest : FnScope ["top", "bottom", "factor"] ["top", "bottom"] (defScope s_lowest) := ⟨rfl, rfl, rfl, by decide +kernel, rfl, by decide +kernel, by decide +kernel⟩
/-! is_fraction: number 3, slots ['value'], calls [(0, 'is_integer'), (1, 'common')] -/
abbrev s_is_fraction : Stmt := top 9
def c_is_fraction : Ctx := ⟨["value"], (defScope s_is_fraction).names, none, fnm, glm, []⟩
def b_is_fraction : Blk := (.cons (.ife (.bor (.bnot (.isi (.v 0) .tuple)) (.bor (.cmp .ne (.bi .len (.cons (.v 0) .nil)) (.int 2)) (.bor (.bnot (.call n_is_integer (.cons (.ix (.v 0) (.int 0)) .nil))) (.bnot (.call n_is_integer (.cons (.ix (.v 0) (.int 1)) .nil)))))) (.cons (.ret (.bl false)) .nil) .nil) (.cons (.ret (.band (.cmp .gt (.ix (.v 0) (.int 1)) (.int 0)) (.cmp .eq (.call n_common (.cons (.bi .abs (.cons (.ix (.v 0) (.int 0)) .nil)) (.cons (.ix (.v 0) (.int 1)) .nil))) (.int 1)))) .nil))
theorem k_is_fraction : chkB b_is_fraction c_is_fraction (defBody s_is_fraction) = true := by decide +kernel
theorem f_is_fraction : FnScope ["value"] ["value"] (defScope s_is_fraction) := ⟨rfl, rfl, rfl, by decide +kernel, rfl, by decide +kernel, by decide +kernel⟩
/-! check_fractions: number 4, slots ['numbers', 'number'], calls [(3, 'is_fraction')] -/
abbrev s_check_fractions : Stmt := top 10
def c_check_fractions : Ctx := ⟨["numbers", "number"], (defScope s_check_fractions).names, none, fnm, glm, []⟩
def b_check_fractions : Blk := (.cons (.ife (.bnot (.bi .all (.cons (.comp false [("number", 1)] (.v 1) (.ex (.v 0)) .nil (.call n_is_fraction (.cons (.v 1) .nil))) .nil))) (.cons .never .nil) .nil) .nil)
theorem k_check_fractions : chkB b_check_fractions c_check_fractions (defBody s_check_fractions) = true := by decide +kernel
theorem f_check_fractions : FnScope ["numbers", "number"] ["numbers"] (defScope s_check_fractions) := ⟨rfl, rfl, rfl, by decide +kernel, rfl, by decide +kernel, by decide +kernel⟩
/-! fraction: number 5, slots ['top', 'bottom'], calls [(0, 'is_integer'), (2, 'lowest')] -/
abbrev s_fraction : Stmt := top 11
def c_fraction : Ctx := ⟨["top", "bottom"], (defScope s_fraction).names, none, fnm, glm, []⟩
def b_fraction : Blk := (.cons (.ife (.bor (.bnot (.call n_is_integer (.cons (.v 0) .nil))) (.bor (.bnot (.call n_is_integer (.cons (.v 1) .nil))) (.cmp .eq (.v 1) (.int 0)))) (.cons .never .nil) .nil) (.cons (.ret (.call n_lowest (.cons (.v 0) (.cons (.v 1) .nil)))) .nil))
theorem k_fraction : chkB b_fraction c_fraction (defBody s_fraction) = true := by decide +kernel
theorem f_fraction : FnScope ["top", "bottom"] ["top", "bottom"] (defScope s_fraction) := ⟨rfl, rfl, rfl, by decide +kernel, rfl, by decide +kernel, by decide +kernel⟩
/-! plus: number 6, slots ['one', 'other'], calls [(2, 'lowest'), (4, 'check_fractions')] -/
abbrev s_plus : Stmt := top 12
def c_plus : Ctx := ⟨["one", "other"], (defScope s_plus).names, none, fnm, glm, []⟩
def b_plus : Blk := (.cons (.ex (.call n_check_fractions (.cons (.tup (.cons (.v 0) (.cons (.v 1) .nil))) .nil))) (.cons (.ret (.call n_lowest (.cons (.op2 .add (.op2 .mul (.ix (.v 0) (.int 0)) (.ix (.v 1) (.int 1))) (.op2 .mul (.ix (.v 1) (.int 0)) (.ix (.v 0) (.int 1)))) (.cons (.op2 .mul (.ix (.v 0) (.int 1)) (.ix (.v 1) (.int 1))) .nil)))) .nil))
theorem k_plus : chkB b_plus c_plus (defBody s_plus) = true := by decide +kernel
theorem f_plus : FnScope ["one", "other"] ["one", "other"] (defScope s_plus) := ⟨rfl, rfl, rfl, by decide +kernel, rfl, by decide +kernel, by decide +kernel⟩
/-! minus: number 7, slots ['one', 'other'], calls [(2, 'lowest'), (4, 'check_fractions')] -/
abbrev s_minus : Stmt := top 13
def c_minus : Ctx := ⟨["one", "other"], (defScope s_minus).names, none, fnm, glm, []⟩
def b_minus : Blk := (.cons (.ex (.call n_check_fractions (.cons (.tup (.cons (.v 0) (.cons (.v 1) .nil))) .nil))) (.cons (.ret (.call n_lowest (.cons (.op2 .sub (.op2 .mul (.ix (.v 0) (.int 0)) (.ix (.v 1) (.int 1))) (.op2 .mul (.ix (.v 1) (.int 0)) (.ix (.v 0) (.int 1)))) (.cons (.op2 .mul (.ix (.v 0) (.int 1)) (.ix (.v 1) (.int 1))) .nil)))) .nil))
theorem k_minus : chkB b_minus c_minus (defBody s_minus) = true := by decide +kernel
theorem f_minus : FnScope ["one", "other"] ["one", "other"] (defScope s_minus) := ⟨rfl, rfl, rfl, by decide +kernel, rfl, by decide +kernel, by decide +kernel⟩
/-! times: number 8, slots ['one', 'other'], calls [(2, 'lowest'), (4, 'check_fractions')] -/
abbrev s_times : Stmt := top 14
def c_times : Ctx := ⟨["one", "other"], (defScope s_times).names, none, fnm, glm, []⟩
def b_times : Blk := (.cons (.ex (.call n_check_fractions (.cons (.tup (.cons (.v 0) (.cons (.v 1) .nil))) .nil))) (.cons (.ret (.call n_lowest (.cons (.op2 .mul (.ix (.v 0) (.int 0)) (.ix (.v 1) (.int 0))) (.cons (.op2 .mul (.ix (.v 0) (.int 1)) (.ix (.v 1) (.int 1))) .nil)))) .nil))
theorem k_times : chkB b_times c_times (defBody s_times) = true := by decide +kernel
theorem f_times : FnScope ["one", "other"] ["one", "other"] (defScope s_times) := ⟨rfl, rfl, rfl, by decide +kernel, rfl, by decide +kernel, by decide +kernel⟩
/-! over: number 9, slots ['one', 'other'], calls [(2, 'lowest'), (4, 'check_fractions')] -/
abbrev s_over : Stmt := top 15
def c_over : Ctx := ⟨["one", "other"], (defScope s_over).names, none, fnm, glm, []⟩
def b_over : Blk := (.cons (.ex (.call n_check_fractions (.cons (.tup (.cons (.v 0) (.cons (.v 1) .nil))) .nil))) (.cons (.ife (.cmp .eq (.ix (.v 1) (.int 0)) (.int 0)) (.cons .never .nil) .nil) (.cons (.ret (.call n_lowest (.cons (.op2 .mul (.ix (.v 0) (.int 0)) (.ix (.v 1) (.int 1))) (.cons (.op2 .mul (.ix (.v 0) (.int 1)) (.ix (.v 1) (.int 0))) .nil)))) .nil)))
theorem k_over : chkB b_over c_over (defBody s_over) = true := by decide +kernel
theorem f_over : FnScope ["one", "other"] ["one", "other"] (defScope s_over) := ⟨rfl, rfl, rfl, by decide +kernel, rfl, by decide +kernel, by decide +kernel⟩
/-! below: number 10, slots ['one', 'other'], calls [(4, 'check_fractions')] -/
abbrev s_below : Stmt := top 16
def c_below : Ctx := ⟨["one", "other"], (defScope s_below).names, none, fnm, glm, []⟩
def b_below : Blk := (.cons (.ex (.call n_check_fractions (.cons (.tup (.cons (.v 0) (.cons (.v 1) .nil))) .nil))) (.cons (.ret (.cmp .lt (.op2 .mul (.ix (.v 0) (.int 0)) (.ix (.v 1) (.int 1))) (.op2 .mul (.ix (.v 1) (.int 0)) (.ix (.v 0) (.int 1))))) .nil))
theorem k_below : chkB b_below c_below (defBody s_below) = true := by decide +kernel
theorem f_below : FnScope ["one", "other"] ["one", "other"] (defScope s_below) := ⟨rfl, rfl, rfl, by decide +kernel, rfl, by decide +kernel, by decide +kernel⟩
/-! sum_of: number 11, slots ['numbers', 'found', 'number'], calls [(2, 'lowest'), (4, 'check_fractions')] -/
abbrev s_sum_of : Stmt := top 17
def c_sum_of : Ctx := ⟨["numbers", "found", "number"], (defScope s_sum_of).names, none, fnm, glm, []⟩
def b_sum_of : Blk := (.cons (.ife (.bnot (.isi (.v 0) .tuple)) (.cons .never .nil) .nil) (.cons (.ex (.call n_check_fractions (.cons (.v 0) .nil))) (.cons (.set 1 (.glob 0)) (.cons (.for_ (.v 2) (.ex (.v 0)) (.cons (.set 1 (.call n_lowest (.cons (.op2 .add (.op2 .mul (.ix (.v 1) (.int 0)) (.ix (.v 2) (.int 1))) (.op2 .mul (.ix (.v 2) (.int 0)) (.ix (.v 1) (.int 1)))) (.cons (.op2 .mul (.ix (.v 1) (.int 1)) (.ix (.v 2) (.int 1))) .nil)))) .nil)) (.cons (.ret (.v 1)) .nil)))))
theorem k_sum_of : chkB b_sum_of c_sum_of (defBody s_sum_of) = true := by decide +kernel
theorem f_sum_of : FnScope ["numbers", "found", "number"] ["numbers"] (defScope s_sum_of) := ⟨rfl, rfl, rfl, by decide +kernel, rfl, by decide +kernel, by decide +kernel⟩
/-! _law_spring: number 12, slots ['script', 'great', 'cell', 'mixed'], calls [] -/
abbrev s_law_spring : Stmt := top 19
def c_law_spring : Ctx := ⟨["script", "great", "cell", "mixed"], (defScope s_law_spring).names, none, fnm, glm, []⟩
def b_law_spring : Blk := (.cons (.set 1 (.comp true [("cell", 2)] (.v 2) (.ex (.v 0)) (.cons (.cmp .ge (.v 2) (.op2 .pow (.int 10) (.int 18))) .nil) (.op2 .sub (.v 2) (.op2 .pow (.int 10) (.int 18))))) (.cons (.set 3 (.op2 .add (.int 15485863) (.op2 .mul (.int 2) (.bi .len (.cons (.v 0) .nil))))) (.cons (.for_ (.v 2) (.ex (.v 0)) (.cons (.set 3 (.op2 .mod (.bi .int (.cons (.op2 .add (.op2 .add (.op2 .mul (.v 3) (.int 982451653)) (.op2 .mul (.v 2) (.int 49979687))) (.int 32452843)) .nil)) (.int 2305843009213693951))) .nil)) (.cons (.ret (.lstM (.cons (.v 1) (.cons (.v 3) (.cons (.int 0) .nil))))) .nil))))
theorem k_law_spring : chkB b_law_spring c_law_spring (defBody s_law_spring) = true := by decide +kernel
theorem f_law_spring : FnScope ["script", "great", "cell", "mixed"] ["script"] (defScope s_law_spring) := ⟨rfl, rfl, rfl, by decide +kernel, rfl, by decide +kernel, by decide +kernel⟩
/-! _law_drop: number 13, slots ['spring', 'many', 'great', 'found'], calls [] -/
abbrev s_law_drop : Stmt := top 20
def c_law_drop : Ctx := ⟨["spring", "many", "great", "found"], (defScope s_law_drop).names, none, fnm, glm, []⟩
def b_law_drop : Blk := (.cons (.set 2 (.ix (.v 0) (.int 0))) (.cons (.while_ (.band (.cmp .ne (.v 2) (.lst .nil)) (.cmp .eq (.ix (.v 2) (.int 0)) (.int 0))) (.cons (.ex (.meth .popAt (.v 2) (.cons (.int 0) .nil))) .nil)) (.cons (.ife (.cmp .ne (.v 2) (.lst .nil)) (.cons (.set 3 (.op2 .mod (.bi .int (.cons (.ix (.v 2) (.int 0)) .nil)) (.v 1))) (.cons (.setix (.v 2) (.int 0) (.op2 .fdiv (.ix (.v 2) (.int 0)) (.v 1))) (.cons (.ret (.v 3)) .nil))) .nil) (.cons (.setix (.v 0) (.int 2) (.op2 .add (.ix (.v 0) (.int 2)) (.int 1))) (.cons (.setix (.v 0) (.int 1) (.op2 .mod (.bi .int (.cons (.op2 .add (.op2 .mul (.ix (.v 0) (.int 1)) (.int 6364136223846793005)) (.op2 .mul (.ix (.v 0) (.int 2)) (.int 1442695040888963407))) .nil)) (.int 2305843009213693951))) (.cons (.ret (.op2 .mod (.op2 .fdiv (.op2 .mod (.bi .int (.cons (.op2 .mul (.ix (.v 0) (.int 1)) (.ix (.v 0) (.int 1))) .nil)) (.int 2305843009213693921)) (.int 1048576)) (.v 1))) .nil))))))
theorem k_law_drop : chkB b_law_drop c_law_drop (defBody s_law_drop) = true := by decide +kernel
theorem f_law_drop : FnScope ["spring", "many", "great", "found"] ["spring", "many"] (defScope s_law_drop) := ⟨rfl, rfl, rfl, by decide +kernel, rfl, by decide +kernel, by decide +kernel⟩
/-! _law_kinds: number 14, slots ['thing', 'found'], calls [] -/
abbrev s_law_kinds : Stmt := top 21
def c_law_kinds : Ctx := ⟨["thing", "found"], (defScope s_law_kinds).names, none, fnm, glm, []⟩
def b_law_kinds : Blk := (.cons (.set 1 (.lst (.cons (.isi (.v 0) .bool) (.cons (.isi (.v 0) .int) (.cons (.isi (.v 0) .str) .nil))))) (.cons (.ret (.op2 .add (.v 1) (.lst (.cons (.isi (.v 0) .tuple) (.cons (.isi (.v 0) .list) (.cons (.isN (.v 0)) .nil)))))) .nil))
theorem k_law_kinds : chkB b_law_kinds c_law_kinds (defBody s_law_kinds) = true := by decide +kernel
theorem f_law_kinds : FnScope ["thing", "found"] ["thing"] (defScope s_law_kinds) := ⟨rfl, rfl, rfl, by decide +kernel, rfl, by decide +kernel, by decide +kernel⟩
/-! _law_alike: number 15, slots ['found', 'due', 'k'], calls [(14, '_law_kinds'), (15, '_law_alike')] -/
abbrev s_law_alike : Stmt := top 22
def c_law_alike : Ctx := ⟨["found", "due", "k"], (defScope s_law_alike).names, none, fnm, glm, []⟩
def b_law_alike : Blk := (.cons (.ife (.cmp .ne (.call n_law_kinds (.cons (.v 0) .nil)) (.call n_law_kinds (.cons (.v 1) .nil))) (.cons (.ret (.bl false)) .nil) .nil) (.cons (.ife (.isiT (.v 1) [.tuple, .list]) (.cons (.ret (.band (.cmp .eq (.bi .len (.cons (.v 0) .nil)) (.bi .len (.cons (.v 1) .nil))) (.bi .all (.cons (.comp false [("k", 2)] (.v 2) (.rng1 (.bi .len (.cons (.v 1) .nil))) .nil (.call n_law_alike (.cons (.ix (.v 0) (.v 2)) (.cons (.ix (.v 1) (.v 2)) .nil)))) .nil)))) .nil) .nil) (.cons (.ret (.cmp .eq (.v 0) (.v 1))) .nil)))
theorem k_law_alike : chkB b_law_alike c_law_alike (defBody s_law_alike) = true := by decide +kernel
theorem f_law_alike : FnScope ["found", "due", "k"] ["found", "due"] (defScope s_law_alike) := ⟨rfl, rfl, rfl, by decide +kernel, rfl, by decide +kernel, by decide +kernel⟩
/-! _law_low: number 16, slots ['top', 'bottom', 'one', 'other'], calls [] -/
abbrev s_law_low : Stmt := top 23
def c_law_low : Ctx := ⟨["top", "bottom", "one", "other"], (defScope s_law_low).names, none, fnm, glm, []⟩
def b_law_low : Blk := (.cons (.par 2 3 (.bi .abs (.cons (.v 0) .nil)) (.bi .abs (.cons (.v 1) .nil))) (.cons (.while_ (.cmp .gt (.v 3) (.int 0)) (.cons (.par 2 3 (.v 3) (.op2 .mod (.bi .int (.cons (.v 2) .nil)) (.v 3))) .nil)) (.cons (.set 2 (.ifx (.cmp .gt (.v 1) (.int 0)) (.v 2) (.neg (.v 2)))) (.cons (.ret (.tup (.cons (.op2 .fdiv (.v 0) (.v 2)) (.cons (.op2 .fdiv (.v 1) (.v 2)) .nil)))) .nil))))
theorem k_law_low : chkB b_law_low c_law_low (defBody s_law_low) = true := by decide +kernel
theorem f_law_low : FnScope ["top", "bottom", "one", "other"] ["top", "bottom"] (defScope s_law_low) := ⟨rfl, rfl, rfl, by decide +kernel, rfl, by decide +kernel, by decide +kernel⟩
/-! _law_plus: number 17, slots ['one', 'other'], calls [(16, '_law_low')] -/
abbrev s_law_plus : Stmt := top 24
def c_law_plus : Ctx := ⟨["one", "other"], (defScope s_law_plus).names, none, fnm, glm, []⟩
def b_law_plus : Blk := (.cons (.ret (.call n_law_low (.cons (.op2 .add (.op2 .mul (.ix (.v 0) (.int 0)) (.ix (.v 1) (.int 1))) (.op2 .mul (.ix (.v 1) (.int 0)) (.ix (.v 0) (.int 1)))) (.cons (.op2 .mul (.ix (.v 0) (.int 1)) (.ix (.v 1) (.int 1))) .nil)))) .nil)
theorem k_law_plus : chkB b_law_plus c_law_plus (defBody s_law_plus) = true := by decide +kernel
theorem f_law_plus : FnScope ["one", "other"] ["one", "other"] (defScope s_law_plus) := ⟨rfl, rfl, rfl, by decide +kernel, rfl, by decide +kernel, by decide +kernel⟩
/-! _law_minus: number 18, slots ['one', 'other'], calls [(17, '_law_plus')] -/
abbrev s_law_minus : Stmt := top 25
def c_law_minus : Ctx := ⟨["one", "other"], (defScope s_law_minus).names, none, fnm, glm, []⟩
def b_law_minus : Blk := (.cons (.ret (.call n_law_plus (.cons (.v 0) (.cons (.tup (.cons (.neg (.ix (.v 1) (.int 0))) (.cons (.ix (.v 1) (.int 1)) .nil))) .nil)))) .nil)
theorem k_law_minus : chkB b_law_minus c_law_minus (defBody s_law_minus) = true := by decide +kernel
theorem f_law_minus : FnScope ["one", "other"] ["one", "other"] (defScope s_law_minus) := ⟨rfl, rfl, rfl, by decide +kernel, rfl, by decide +kernel, by decide +kernel⟩
/-! _law_times: number 19, slots ['one', 'other'], calls [(16, '_law_low')] -/
abbrev s_law_times : Stmt := top 26
def c_law_times : Ctx := ⟨["one", "other"], (defScope s_law_times).names, none, fnm, glm, []⟩
def b_law_times : Blk := (.cons (.ret (.call n_law_low (.cons (.op2 .mul (.ix (.v 0) (.int 0)) (.ix (.v 1) (.int 0))) (.cons (.op2 .mul (.ix (.v 0) (.int 1)) (.ix (.v 1) (.int 1))) .nil)))) .nil)
theorem k_law_times : chkB b_law_times c_law_times (defBody s_law_times) = true := by decide +kernel
theorem f_law_times : FnScope ["one", "other"] ["one", "other"] (defScope s_law_times) := ⟨rfl, rfl, rfl, by decide +kernel, rfl, by decide +kernel, by decide +kernel⟩
/-! _law_below: number 20, slots ['one', 'other'], calls [] -/
abbrev s_law_below : Stmt := top 27
def c_law_below : Ctx := ⟨["one", "other"], (defScope s_law_below).names, none, fnm, glm, []⟩
def b_law_below : Blk := (.cons (.ret (.cmp .lt (.op2 .mul (.ix (.v 0) (.int 0)) (.ix (.v 1) (.int 1))) (.op2 .mul (.ix (.v 1) (.int 0)) (.ix (.v 0) (.int 1))))) .nil)
theorem k_law_below : chkB b_law_below c_law_below (defBody s_law_below) = true := by decide +kernel
theorem f_law_below : FnScope ["one", "other"] ["one", "other"] (defScope s_law_below) := ⟨rfl, rfl, rfl, by decide +kernel, rfl, by decide +kernel, by decide +kernel⟩
/-! _law_number: number 21, slots ['spring', 'way'], calls [(13, '_law_drop'), (16, '_law_low')] -/
abbrev s_law_number : Stmt := top 28
def c_law_number : Ctx := ⟨["spring", "way"], (defScope s_law_number).names, none, fnm, glm, []⟩
def b_law_number : Blk := (.cons (.set 1 (.call n_law_drop (.cons (.v 0) (.cons (.int 6) .nil)))) (.cons (.ife (.cmp .eq (.v 1) (.int 0)) (.cons (.ret (.tup (.cons (.op2 .sub (.call n_law_drop (.cons (.v 0) (.cons (.int 2001) .nil))) (.int 1000)) (.cons (.int 1) .nil)))) .nil) .nil) (.cons (.ife (.cmp .lt (.v 1) (.int 3)) (.cons (.ret (.call n_law_low (.cons (.op2 .sub (.call n_law_drop (.cons (.v 0) (.cons (.int 2000001) .nil))) (.int 1000000)) (.cons (.ix (.lst (.cons (.int 100) (.cons (.int 1000) (.cons (.int 8) (.cons (.int 20) .nil))))) (.call n_law_drop (.cons (.v 0) (.cons (.int 4) .nil)))) .nil)))) .nil) .nil) (.cons (.ife (.cmp .lt (.v 1) (.int 5)) (.cons (.ret (.call n_law_low (.cons (.op2 .sub (.call n_law_drop (.cons (.v 0) (.cons (.int 41) .nil))) (.int 20)) (.cons (.op2 .add (.int 1) (.call n_law_drop (.cons (.v 0) (.cons (.int 12) .nil)))) .nil)))) .nil) .nil) (.cons (.ret (.call n_law_low (.cons (.op2 .sub (.call n_law_drop (.cons (.v 0) (.cons (.int 2000001) .nil))) (.int 1000000)) (.cons (.op2 .add (.int 1) (.call n_law_drop (.cons (.v 0) (.cons (.int 1000) .nil)))) .nil)))) .nil)))))
theorem k_law_number : chkB b_law_number c_law_number (defBody s_law_number) = true := by decide +kernel
theorem f_law_number : FnScope ["spring", "way"] ["spring"] (defScope s_law_number) := ⟨rfl, rfl, rfl, by decide +kernel, rfl, by decide +kernel, by decide +kernel⟩
/-! _law_above: number 22, slots ['spring', 'top', 'bottom'], calls [(21, '_law_number')] -/
abbrev s_law_above : Stmt := top 29
def c_law_above : Ctx := ⟨["spring", "top", "bottom"], (defScope s_law_above).names, none, fnm, glm, []⟩
def b_law_above : Blk := (.cons (.asg [1, 2] (.call n_law_number (.cons (.v 0) .nil))) (.cons (.ret (.ifx (.cmp .ne (.v 1) (.int 0)) (.tup (.cons (.bi .abs (.cons (.v 1) .nil)) (.cons (.v 2) .nil))) (.tup (.cons (.int 1) (.cons (.int 100) .nil))))) .nil))
theorem k_law_above : chkB b_law_above c_law_above (defBody s_law_above) = true := by decide +kernel
theorem f_law_above : FnScope ["spring", "top", "bottom"] ["spring"] (defScope s_law_above) := ⟨rfl, rfl, rfl, by decide +kernel, rfl, by decide +kernel, by decide +kernel⟩
/-! _law_is: number 23, slots ['value', 'one'], calls [(16, '_law_low')] -/
abbrev s_law_is : Stmt := top 30
def c_law_is : Ctx := ⟨["value", "one"], (defScope s_law_is).names, none, fnm, glm, []⟩
def b_law_is : Blk := (.cons (.ife (.bor (.bnot (.isi (.v 0) .tuple)) (.cmp .ne (.bi .len (.cons (.v 0) .nil)) (.int 2))) (.cons (.ret (.bl false)) .nil) .nil) (.cons (.ife (.bnot (.bi .all (.cons (.comp false [("one", 1)] (.v 1) (.ex (.v 0)) .nil (.band (.isi (.v 1) .int) (.bnot (.isi (.v 1) .bool)))) .nil))) (.cons (.ret (.bl false)) .nil) .nil) (.cons (.ret (.band (.cmp .gt (.ix (.v 0) (.int 1)) (.int 0)) (.cmp .eq (.call n_law_low (.cons (.ix (.v 0) (.int 0)) (.cons (.ix (.v 0) (.int 1)) .nil))) (.v 0)))) .nil)))
theorem k_law_is : chkB b_law_is c_law_is (defBody s_law_is) = true := by decide +kernel
theorem f_law_is : FnScope ["value", "one"] ["value"] (defScope s_law_is) := ⟨rfl, rfl, rfl, by decide +kernel, rfl, by decide +kernel, by decide +kernel⟩
/-! _law_means: number 24, slots ['found', 'top', 'bottom'], calls [(23, '_law_is')] -/
abbrev s_law_means : Stmt := top 31
def c_law_means : Ctx := ⟨["found", "top", "bottom"], (defScope s_law_means).names, none, fnm, glm, []⟩
def b_law_means : Blk := (.cons (.ret (.band (.call n_law_is (.cons (.v 0) .nil)) (.cmp .eq (.op2 .mul (.ix (.v 0) (.int 0)) (.v 2)) (.op2 .mul (.v 1) (.ix (.v 0) (.int 1)))))) .nil)
theorem k_law_means : chkB b_law_means c_law_means (defBody s_law_means) = true := by decide +kernel
theorem f_law_means : FnScope ["found", "top", "bottom"] ["found", "top", "bottom"] (defScope s_law_means) := ⟨rfl, rfl, rfl, by decide +kernel, rfl, by decide +kernel, by decide +kernel⟩
/-! _law_pair_right: number 25, slots ['one', 'other', 'a', 'b', 'c', 'd', 'told', 'found', 'top', 'bottom', 'less'], calls [(6, 'plus'), (7, 'minus'), (8, 'times'), (9, 'over'), (10, 'below'), (15, '_law_alike'), (24, '_law_means')] -/
abbrev s_law_pair_right : Stmt := top 32
def c_law_pair_right : Ctx := ⟨["one", "other", "a", "b", "c", "d", "told", "found", "top", "bottom", "less"], (defScope s_law_pair_right).names, none, fnm, glm, [(n_minus, 0, ["other", "one"], [1, 0]), (n_plus, 0, ["other", "one"], [1, 0]), (n_times, 0, ["other", "one"], [1, 0]), (n_over, 0, ["other", "one"], [1, 0]), (n_below, 0, ["other", "one"], [1, 0])]⟩
def b_law_pair_right : Blk := (.cons (.asg [2, 3, 4, 5] (.tup (.cons (.ix (.v 0) (.int 0)) (.cons (.ix (.v 0) (.int 1)) (.cons (.ix (.v 1) (.int 0)) (.cons (.ix (.v 1) (.int 1)) .nil)))))) (.cons (.set 6 (.lst (.cons (.lst (.cons (.call n_plus (.cons (.v 0) (.cons (.v 1) .nil))) (.cons (.op2 .add (.op2 .mul (.v 2) (.v 5)) (.op2 .mul (.v 4) (.v 3))) (.cons (.op2 .mul (.v 3) (.v 5)) .nil)))) (.cons (.lst (.cons (.call n_minus (.cons (.v 0) (.cons (.v 1) .nil))) (.cons (.op2 .sub (.op2 .mul (.v 2) (.v 5)) (.op2 .mul (.v 4) (.v 3))) (.cons (.op2 .mul (.v 3) (.v 5)) .nil)))) (.cons (.lst (.cons (.call n_times (.cons (.v 0) (.cons (.v 1) .nil))) (.cons (.op2 .mul (.v 2) (.v 4)) (.cons (.op2 .mul (.v 3) (.v 5)) .nil)))) .nil))))) (.cons (.set 6 (.op2 .addM (.v 6) (.lst (.cons (.lst (.cons (.callk n_plus .nil (.cons (.v 1) (.cons (.v 0) .nil)) [1, 0]) (.cons (.op2 .add (.op2 .mul (.v 2) (.v 5)) (.op2 .mul (.v 4) (.v 3))) (.cons (.op2 .mul (.v 3) (.v 5)) .nil)))) (.cons (.lst (.cons (.callk n_minus .nil (.cons (.v 1) (.cons (.v 0) .nil)) [1, 0]) (.cons (.op2 .sub (.op2 .mul (.v 2) (.v 5)) (.op2 .mul (.v 4) (.v 3))) (.cons (.op2 .mul (.v 3) (.v 5)) .nil)))) .nil))))) (.cons (.ex (.meth .append (.v 6) (.cons (.lst (.cons (.callk n_times .nil (.cons (.v 1) (.cons (.v 0) .nil)) [1, 0]) (.cons (.op2 .mul (.v 2) (.v 4)) (.cons (.op2 .mul (.v 3) (.v 5)) .nil)))) .nil))) (.cons (.freeze 6) (.cons (.ife (.cmp .ne (.v 4) (.int 0)) (.cons (.set 6 (.op2 .add (.v 6) (.lst (.cons (.lst (.cons (.call n_over (.cons (.v 0) (.cons (.v 1) .nil))) (.cons (.op2 .mul (.v 2) (.v 5)) (.cons (.op2 .mul (.v 3) (.v 4)) .nil)))) (.cons (.lst (.cons (.callk n_over .nil (.cons (.v 1) (.cons (.v 0) .nil)) [1, 0]) (.cons (.op2 .mul (.v 2) (.v 5)) (.cons (.op2 .mul (.v 3) (.v 4)) .nil)))) .nil))))) .nil) .nil) (.cons (.ife (.bnot (.bi .all (.cons (.comp false [("found", 7), ("top", 8), ("bottom", 9)] (.tup [7, 8, 9]) (.ex (.v 6)) .nil (.call n_law_means (.cons (.v 7) (.cons (.v 8) (.cons (.v 9) .nil))))) .nil))) (.cons (.ret (.bl false)) .nil) .nil) (.cons (.set 10 (.cmp .lt (.op2 .mul (.v 2) (.v 5)) (.op2 .mul (.v 4) (.v 3)))) (.cons (.ret (.call n_law_alike (.cons (.lst (.cons (.call n_below (.cons (.v 0) (.cons (.v 1) .nil))) (.cons (.callk n_below .nil (.cons (.v 1) (.cons (.v 0) .nil)) [1, 0]) (.cons (.call n_below (.cons (.v 0) (.cons (.v 0) .nil))) .nil)))) (.cons (.lst (.cons (.v 10) (.cons (.v 10) (.cons (.bl false) .nil)))) .nil)))) .nil)))))))))
theorem k_law_pair_right : chkB b_law_pair_right c_law_pair_right (defBody s_law_pair_right) = true := by decide +kernel
theorem f_law_pair_right : FnScope ["one", "other", "a", "b", "c", "d", "told", "found", "top", "bottom", "less"] ["one", "other"] (defScope s_law_pair_right) := ⟨rfl, rfl, rfl, by decide +kernel, rfl, by decide +kernel, by decide +kernel⟩
/-! _law_any: number 26, slots ['spring'], calls [(13, '_law_drop'), (16, '_law_low'), (21, '_law_number')] -/
abbrev s_law_any : Stmt := top 33
def c_law_any : Ctx := ⟨["spring"], (defScope s_law_any).names, none, fnm, glm, []⟩
def b_law_any : Blk := (.cons (.ife (.cmp .gt (.call n_law_drop (.cons (.v 0) (.cons (.int 4) .nil))) (.int 0)) (.cons (.ret (.call n_law_number (.cons (.v 0) .nil))) .nil) .nil) (.cons (.ret (.call n_law_low (.cons (.op2 .sub (.call n_law_drop (.cons (.v 0) (.cons (.op2 .pow (.int 10) (.int 40)) .nil))) (.op2 .pow (.int 10) (.int 39))) (.cons (.op2 .add (.int 1) (.call n_law_drop (.cons (.v 0) (.cons (.ix (.lst (.cons (.op2 .pow (.int 10) (.int 40)) (.cons (.op2 .pow (.int 10) (.int 9)) .nil))) (.call n_law_drop (.cons (.v 0) (.cons (.int 2) .nil)))) .nil)))) .nil)))) .nil))
theorem k_law_any : chkB b_law_any c_law_any (defBody s_law_any) = true := by decide +kernel
theorem f_law_any : FnScope ["spring"] ["spring"] (defScope s_law_any) := ⟨rfl, rfl, rfl, by decide +kernel, rfl, by decide +kernel, by decide +kernel⟩
/-! _law_handed_on_right: number 27, slots ['a', 'b', 'c', 'tiny'], calls [(6, 'plus'), (7, 'minus'), (8, 'times'), (9, 'over'), (10, 'below')] -/
abbrev s_law_handed_on_right : Stmt := top 34
def c_law_handed_on_right : Ctx := ⟨["a", "b", "c", "tiny"], (defScope s_law_handed_on_right).names, none, fnm, glm, []⟩
def b_law_handed_on_right : Blk := (.cons (.ife (.bor (.cmp .ne (.call n_plus (.cons (.call n_plus (.cons (.v 0) (.cons (.v 1) .nil))) (.cons (.v 2) .nil))) (.call n_plus (.cons (.v 0) (.cons (.call n_plus (.cons (.v 1) (.cons (.v 2) .nil))) .nil)))) (.cmp .ne (.call n_times (.cons (.call n_times (.cons (.v 0) (.cons (.v 1) .nil))) (.cons (.v 2) .nil))) (.call n_times (.cons (.v 0) (.cons (.call n_times (.cons (.v 1) (.cons (.v 2) .nil))) .nil))))) (.cons (.ret (.bl false)) .nil) .nil) (.cons (.ife (.bor (.cmp .ne (.call n_times (.cons (.v 0) (.cons (.call n_plus (.cons (.v 1) (.cons (.v 2) .nil))) .nil))) (.call n_plus (.cons (.call n_times (.cons (.v 0) (.cons (.v 1) .nil))) (.cons (.call n_times (.cons (.v 0) (.cons (.v 2) .nil))) .nil)))) (.bor (.cmp .ne (.call n_minus (.cons (.call n_plus (.cons (.v 0) (.cons (.v 1) .nil))) (.cons (.v 1) .nil))) (.v 0)) (.cmp .ne (.call n_plus (.cons (.call n_minus (.cons (.v 0) (.cons (.v 2) .nil))) (.cons (.v 2) .nil))) (.v 0)))) (.cons (.ret (.bl false)) .nil) .nil) (.cons (.ife (.band (.cmp .ne (.ix (.v 1) (.int 0)) (.int 0)) (.bor (.cmp .ne (.call n_over (.cons (.call n_times (.cons (.v 0) (.cons (.v 1) .nil))) (.cons (.v 1) .nil))) (.v 0)) (.bor (.cmp .ne (.call n_times (.cons (.call n_over (.cons (.v 0) (.cons (.v 1) .nil))) (.cons (.v 1) .nil))) (.v 0)) (.cmp .ne (.call n_over (.cons (.call n_over (.cons (.v 2) (.cons (.v 1) .nil))) (.cons (.v 1) .nil))) (.call n_over (.cons (.v 2) (.cons (.call n_times (.cons (.v 1) (.cons (.v 1) .nil))) .nil))))))) (.cons (.ret (.bl false)) .nil) .nil) (.cons (.set 3 (.tup (.cons (.int 1) (.cons (.op2 .pow (.int 10) (.int 40)) .nil)))) (.cons (.ife (.bor (.isB true (.call n_below (.cons (.v 0) (.cons (.call n_plus (.cons (.v 0) (.cons (.v 3) .nil))) .nil))) true) (.bor (.isB true (.call n_below (.cons (.call n_plus (.cons (.v 0) (.cons (.v 3) .nil))) (.cons (.v 0) .nil))) false) (.isB true (.call n_below (.cons (.call n_minus (.cons (.v 0) (.cons (.v 3) .nil))) (.cons (.v 0) .nil))) true))) (.cons (.ret (.bl false)) .nil) .nil) (.cons (.ret (.cmp .eq (.call n_below (.cons (.call n_times (.cons (.v 0) (.cons (.v 2) .nil))) (.cons (.call n_times (.cons (.v 1) (.cons (.v 2) .nil))) .nil))) (.ifx (.cmp .gt (.ix (.v 2) (.int 0)) (.int 0)) (.call n_below (.cons (.v 0) (.cons (.v 1) .nil))) (.band (.cmp .lt (.ix (.v 2) (.int 0)) (.int 0)) (.call n_below (.cons (.v 1) (.cons (.v 0) .nil))))))) .nil))))))
theorem k_law_handed_on_right : chkB b_law_handed_on_right c_law_handed_on_right (defBody s_law_handed_on_right) = true := by decide +kernel
theorem f_law_handed_on_right : FnScope ["a", "b", "c", "tiny"] ["a", "b", "c"] (defScope s_law_handed_on_right) := ⟨rfl, rfl, rfl, by decide +kernel, rfl, by decide +kernel, by decide +kernel⟩
/-! law: number 28, slots ['script', 'spring', 'turn', 'one', 'other', 'factor', 'some', 'value', 'due', 'many', 'k', 'number', 'told'], calls [(3, 'is_fraction'), (5, 'fraction'), (11, 'sum_of'), (12, '_law_spring'), (13, '_law_drop'), (15, '_law_alike'), (17, '_law_plus'), (23, '_law_is'), (25, '_law_pair_right'), (26, '_law_any'), (27, '_law_handed_on_right')] -/
abbrev s_law : Stmt := top 35
def c_law : Ctx := ⟨["script", "spring", "turn", "one", "other", "factor", "some", "value", "due", "many", "k", "number", "told"], (defScope s_law).names, none, fnm, glm, [(n_fraction, 0, ["bottom", "top"], [1, 0]), (n_is_fraction, 0, ["value"], [0]), (n_sum_of, 0, ["numbers"], [0])]⟩
def b_law : Blk := (.cons (.set 1 (.call n_law_spring (.cons (.v 0) .nil))) (.cons (.for_ (.v 2) (.rng1 (.int 8)) (.cons (.par 3 4 (.call n_law_any (.cons (.v 1) .nil)) (.call n_law_any (.cons (.v 1) .nil))) (.cons (.ife (.bnot (.call n_law_handed_on_right (.cons (.v 3) (.cons (.v 4) (.cons (.call n_law_any (.cons (.v 1) .nil)) .nil))))) (.cons (.ret (.bl false)) .nil) .nil) (.cons (.ife (.bnot (.call n_law_pair_right (.cons (.v 3) (.cons (.ix (.lst (.cons (.v 3) (.cons (.v 4) (.cons (.v 4) (.cons (.tup (.cons (.neg (.ix (.v 3) (.int 0))) (.cons (.ix (.v 3) (.int 1)) .nil))) .nil))))) (.call n_law_drop (.cons (.v 1) (.cons (.int 4) .nil)))) .nil)))) (.cons (.ret (.bl false)) .nil) .nil) (.cons (.set 5 (.ix (.lst (.cons (.int 1) (.cons (.neg (.int 1)) (.cons (.int 2) (.cons (.neg (.int 6)) (.cons (.int 100) (.cons (.op2 .pow (.int 10) (.int 12)) .nil))))))) (.call n_law_drop (.cons (.v 1) (.cons (.int 6) .nil))))) (.cons (.ife (.bnot (.call n_law_alike (.cons (.lst (.cons (.call n_fraction (.cons (.op2 .mul (.ix (.v 3) (.int 0)) (.v 5)) (.cons (.op2 .mul (.ix (.v 3) (.int 1)) (.v 5)) .nil))) (.cons (.callk n_fraction .nil (.cons (.op2 .mul (.ix (.v 3) (.int 1)) (.v 5)) (.cons (.op2 .mul (.ix (.v 3) (.int 0)) (.v 5)) .nil)) [1, 0]) .nil))) (.cons (.lst (.cons (.v 3) (.cons (.v 3) .nil))) .nil)))) (.cons (.ret (.bl false)) .nil) .nil) (.cons (.set 6 (.lst (.cons (.v 3) (.cons (.tup (.cons (.op2 .mul (.ix (.v 3) (.int 0)) (.int 2)) (.cons (.op2 .mul (.ix (.v 3) (.int 1)) (.int 2)) .nil))) (.cons (.tup (.cons (.ix (.v 3) (.int 0)) (.cons (.neg (.ix (.v 3) (.int 1))) .nil))) (.cons (.tup (.cons (.ix (.v 3) (.int 0)) (.cons (.int 0) .nil))) (.cons (.tup (.cons (.int 0) (.cons (.ix (.v 3) (.int 1)) .nil))) (.cons (.bi .list (.cons (.v 3) .nil)) (.cons (.op2 .add (.v 3) (.tup (.cons (.int 1) .nil))) (.cons (.ix (.v 3) (.int 0)) (.cons .non (.cons (.str "1/2") (.cons (.tup (.cons (.bl true) (.cons (.int 1) .nil))) .nil))))))))))))) (.cons (.for_ (.v 7) (.ex (.op2 .add (.v 6) (.lst (.cons (.tup (.cons (.int 1) (.cons (.bl true) .nil))) (.cons (.tup (.cons (.int 1) .nil)) (.cons (.tup .nil) (.cons (.tup (.cons (.str "1") (.cons (.int 2) .nil))) (.cons (.tup (.cons (.v 3) (.cons (.v 3) .nil))) (.cons (.tup (.cons (.int 0) (.cons (.int 1) .nil))) (.cons (.tup (.cons (.ix (.v 3) (.int 1)) (.cons (.ix (.v 3) (.int 0)) .nil))) .nil)))))))))) (.cons (.set 8 (.call n_law_is (.cons (.v 7) .nil))) (.cons (.ife (.bnot (.call n_law_alike (.cons (.lst (.cons (.call n_is_fraction (.cons (.v 7) .nil)) (.cons (.callk n_is_fraction .nil (.cons (.v 7) .nil) [0]) .nil))) (.cons (.lst (.cons (.v 8) (.cons (.v 8) .nil))) .nil)))) (.cons (.ret (.bl false)) .nil) .nil) .nil))) (.cons (.set 9 (.comp false [("k", 10)] (.v 10) (.rng1 (.call n_law_drop (.cons (.v 1) (.cons (.ix (.lst (.cons (.int 10) (.cons (.int 31) .nil))) (.bi .int (.cons (.cmp .eq (.v 2) (.int 0)) .nil))) .nil)))) .nil (.call n_law_any (.cons (.v 1) .nil)))) (.cons (.set 8 (.tup (.cons (.int 0) (.cons (.int 1) .nil)))) (.cons (.for_ (.v 11) (.ex (.v 9)) (.cons (.set 8 (.call n_law_plus (.cons (.v 8) (.cons (.v 11) .nil)))) .nil)) (.cons (.set 12 (.lst (.cons (.call n_sum_of (.cons (.bi .tuple (.cons (.v 9) .nil)) .nil)) (.cons (.call n_sum_of (.cons (.bi .tuple (.cons (.rev (.v 9)) .nil)) .nil)) (.cons (.callk n_sum_of .nil (.cons (.bi .tuple (.cons (.bi .sorted (.cons (.v 9) .nil)) .nil)) .nil) [0]) .nil))))) (.cons (.ife (.bnot (.call n_law_alike (.cons (.v 12) (.cons (.lst (.cons (.v 8) (.cons (.v 8) (.cons (.v 8) .nil)))) .nil)))) (.cons (.ret (.bl false)) .nil) .nil) .nil))))))))))))) (.cons (.ret (.bl true)) .nil)))
theorem k_law : chkB b_law c_law (defBody s_law) = true := by decide +kernel
theorem f_law : FnScope ["script", "spring", "turn", "one", "other", "factor", "some", "value", "due", "many", "k", "number", "told"] ["script"] (defScope s_law) := ⟨rfl, rfl, rfl, by decide +kernel, rfl, by decide +kernel, by decide +kernel⟩
def isIntD : D → Bool
  | .int _ => true
  | _ => false
/-- data without shared things and walk's tuples at the top -/
def plD : D → Bool
  | .ref _ => false
  | .wtup _ => false
  | _ => true
def d_is_integer : List D → Hm → Res D
  | [d], h => .guard (plD d) (.ok (.bl (isIntD d)) h)
  | _, _ => .stuck
theorem B_is_integer {Γ : Gam} : BodyOk Γ c_is_integer.N b_is_integer d_is_integer := by
  intro ds h r h' e
  match ds, e with
  | [d], e =>
    obtain ⟨ho, e⟩ := guard_ok e
    obtain ⟨rfl, rfl⟩ := ok_inj e
    show wpB Γ b_is_integer (startD ["value"] [d]) h _
    unfold b_is_integer
    cases d <;> first | (walk_at "mini mw"; exact .refl) | exact Bool.noConfusion ho
def d_common : List D → Hm → Res D
  | [.int a, .int b], h => .guard (decide (0 ≤ a) && decide (0 ≤ b)) (.ok (.int (Int.gcd a b)) h)
  | _, _ => .stuck
theorem gcd_step (a b : Int) : Int.gcd b (a % b) = Int.gcd a b := by
  have h : a = a % b + b * (a / b) := by rw [Int.emod_add_mul_ediv]
  conv => rhs; rw [h]
  rw [Int.gcd_add_mul_left_left]
  exact Int.gcd_comm _ _
theorem abs_if (t : Int) : (if t < 0 then -t else t) = (t.natAbs : Int) := by split <;> omega
theorem gcd_abs (t b : Int) : Int.gcd (t.natAbs : Int) (b.natAbs : Int) = Int.gcd b t := by
  rw [Int.gcd_comm]; simp [Int.gcd]
theorem low_pos {t b : Int} (hb : 0 < b) : t.fdiv (Int.gcd b t : Int) = (Rat.divInt t b).num ∧ b.fdiv (Int.gcd b t : Int) = (Rat.divInt t b).den := by
  rw [Int.fdiv_eq_ediv_of_nonneg _ (by omega), Int.fdiv_eq_ediv_of_nonneg _ (by omega), Rat.num_divInt, Rat.den_divInt, if_neg (by omega), Int.sign_eq_one_of_pos hb, Int.one_mul]
  refine ⟨rfl, ?_⟩
  rw [Int.natCast_ediv, Int.natAbs_of_nonneg (by omega)]
theorem low_neg {t b : Int} (hb : b < 0) : t.fdiv (-(Int.gcd b t : Int)) = (Rat.divInt t b).num ∧ b.fdiv (-(Int.gcd b t : Int)) = (Rat.divInt t b).den := by
  have e1 : t.fdiv (-(Int.gcd b t : Int)) = (-t).fdiv (Int.gcd b t : Int) := by
    have := Int.neg_fdiv_neg (-t) (Int.gcd b t : Int)
    rwa [Int.neg_neg] at this
  have e2 : b.fdiv (-(Int.gcd b t : Int)) = (-b).fdiv (Int.gcd b t : Int) := by
    have := Int.neg_fdiv_neg (-b) (Int.gcd b t : Int)
    rwa [Int.neg_neg] at this
  rw [e1, e2, Int.fdiv_eq_ediv_of_nonneg _ (by omega), Int.fdiv_eq_ediv_of_nonneg _ (by omega), Rat.num_divInt, Rat.den_divInt, if_neg (by omega), Int.sign_eq_neg_one_of_neg hb, Int.neg_one_mul]
  refine ⟨rfl, ?_⟩
  rw [Int.natCast_ediv]
  congr 1
  omega
theorem log2_mono' {a b : Nat} (h : a ≤ b) : a.log2 ≤ b.log2 := by
  rcases Nat.eq_zero_or_pos a with rfl | ha
  · simp
  · exact (Nat.le_log2 (by omega)).mpr (Nat.le_trans (Nat.log2_self_le (by omega)) h)
theorem gcd_le' {t b : Int} (hb : b ≠ 0) : Int.gcd b t ≤ b.natAbs := Nat.le_of_dvd (by omega) (by unfold Int.gcd; exact Nat.gcd_dvd_left _ _)
theorem gcd_pos' {t b : Int} (hb : b ≠ 0) : 0 < Int.gcd b t := Int.gcd_pos_of_ne_zero_left _ hb
theorem common_eq {a b : Int} (ha : 0 ≤ a) (hb : 0 ≤ b) (h : Hm) : d_common [.int a, .int b] h = .ok (.int (Int.gcd a b)) h := by
  show Res.guard (decide (0 ≤ a) && decide (0 ≤ b)) _ = _
  rw [decide_eq_true ha, decide_eq_true hb]
  rfl
theorem B_common {Γ : Gam} : BodyOk Γ c_common.N b_common d_common := by
  intro ds h r h' e
  match ds, e with
  | [.int a, .int b], e =>
    obtain ⟨ho, e⟩ := guard_ok e
    obtain ⟨rfl, rfl⟩ := ok_inj e
    rw [Bool.and_eq_true, decide_eq_true_eq, decide_eq_true_eq] at ho
    show wpB Γ b_common (startD ["one", "other"] [.int a, .int b]) h _
    unfold b_common wpB
    refine while_inv (fun m σ h1 => ∃ x y : Int, σ = [some (.int x), some (.int y)] ∧ h1 = h ∧ 0 ≤ x ∧ 0 ≤ y ∧ y.toNat = m ∧ Int.gcd x y = Int.gcd a b) (m := b.toNat) ⟨a, b, rfl, rfl, ho.1, ho.2, rfl, rfl⟩ ?_
    rintro m σ h1 ⟨x, y, rfl, rfl, hx, hy, rfl, hg⟩
    walk_at "mini mw"
    by_cases c : 0 < y
    · rw [decide_eq_true c]
      walk_at "mini mw"
      refine ⟨(x % y).toNat, ?_, y, x % y, by first | rfl | trivial, by first | rfl | trivial, hy, Int.emod_nonneg _ (by omega), by first | rfl | trivial, by rw [gcd_step, hg]⟩
      have := Int.emod_lt_of_pos x c
      omega
    · rw [decide_eq_false c]
      walk_at "mini mw"
      have e : y = 0 := by omega
      subst e
      rw [← hg, Int.gcd_zero_right, Int.natAbs_of_nonneg hx]
      exact .refl
/-- a fraction as it is told -/
def fr (q : Rat) : D := .tup [.int q.num, .int q.den]
theorem fr_inj {p q : Rat} (h : fr p = fr q) : p = q := by
  have h : D.tup [.int p.num, .int p.den] = D.tup [.int q.num, .int q.den] := h
  simp only [D.tup.injEq, List.cons.injEq, D.int.injEq, and_true] at h
  exact Rat.ext h.1 (by omega)
def okDen (b : Int) : Bool := decide (b ≠ 0) && decide (b.natAbs.log2 < 9000)
def d_lowest : List D → Hm → Res D
  | [.int t, .int b], h => .guard (okDen b) (.ok (fr (Rat.divInt t b)) h)
  | _, _ => .stuck
theorem lowest_eq {t b : Int} (hb : okDen b = true) (h : Hm) : d_lowest [.int t, .int b] h = .ok (fr (Rat.divInt t b)) h := by
  show Res.guard (okDen b) _ = _
  rw [hb]
  rfl
theorem mulOk_one (i : Int) : mulOk i 1 = true := by
  unfold mulOk
  have : (decide (-(2 ^ 64 : Int) < 1) && decide ((1 : Int) < 2 ^ 64)) = true := by decide
  rw [this, Bool.or_true]
theorem mulOk_neg (i : Int) : mulOk i (-1) = true := by
  unfold mulOk
  have : (decide (-(2 ^ 64 : Int) < -1) && decide ((-1 : Int) < 2 ^ 64)) = true := by decide
  rw [this, Bool.or_true]
theorem B_lowest {Γ : Gam} (g : Γ.fn n_common = some d_common) : BodyOk Γ c_lowest.N b_lowest d_lowest := by
  intro ds h r h' e
  match ds, e with
  | [.int t, .int b], e =>
    obtain ⟨ho, e⟩ := guard_ok e
    obtain ⟨rfl, rfl⟩ := ok_inj e
    unfold okDen at ho
    rw [Bool.and_eq_true, decide_eq_true_eq, decide_eq_true_eq] at ho
    show wpB Γ b_lowest (startD ["top", "bottom", "factor"] [.int t, .int b]) h _
    unfold b_lowest
    walk_at "mini mw"
    rw [g, abs_if, abs_if]
    dsimp only
    rw [common_eq (by omega) (by omega), gcd_abs]
    have hg := gcd_pos' (t := t) ho.1
    have hl : (Int.gcd b t).log2 < 9000 := Nat.lt_of_le_of_lt (log2_mono' (gcd_le' ho.1)) ho.2
    by_cases c : 0 < b
    · rw [decide_eq_true c]
      walk_at "mini mw"
      have d1 : divOk ((Int.gcd b t : Int)) = true := by
        unfold divOk
        rw [decide_eq_true (by omega), decide_eq_true (by rw [Int.natAbs_natCast]; exact hl)]
        rfl
      rw [mulOk_one, Res.guard_true]
      walk_at "mini mw"
      rw [Int.mul_one, d1]
      walk_at "mini mw"
      rw [(low_pos c).1, (low_pos c).2]
      exact .refl
    · rw [decide_eq_false c]
      walk_at "mini mw"
      have d1 : divOk (-(Int.gcd b t : Int)) = true := by
        unfold divOk
        rw [decide_eq_true (by omega), decide_eq_true (by rw [Int.natAbs_neg, Int.natAbs_natCast]; exact hl)]
        rfl
      rw [mulOk_neg, Res.guard_true]
      walk_at "mini mw"
      rw [Int.mul_neg_one, d1]
      walk_at "mini mw"
      rw [(low_neg (by omega)).1, (low_neg (by omega)).2]
      exact .refl
def isFr : D → Bool
  | .tup [.int a, .int b] => decide (0 < b) && decide (Int.gcd a b = 1)
  | _ => false
def okFr : D → Bool
  | .tup [a, b] => plD a && plD b
  | d => plD d
def d_is_fraction : List D → Hm → Res D
  | [d], h => .guard (okFr d) (.ok (.bl (isFr d)) h)
  | _, _ => .stuck
theorem is_integer_eq {d : D} (hd : plD d = true) (h : Hm) : d_is_integer [d] h = .ok (.bl (isIntD d)) h := by
  show Res.guard (plD d) _ = _
  rw [hd]
  rfl
theorem isFr_int {a b : D} (h : isIntD a = false ∨ isIntD b = false) : isFr (.tup [a, b]) = false := by
  cases a <;> cases b <;> first | rfl | (rcases h with h | h <;> exact Bool.noConfusion h)
theorem isFr_len {xs : List D} (h : xs.length ≠ 2) : isFr (.tup xs) = false := by
  match xs, h with
  | [], _ => rfl
  | [a], _ => cases a <;> rfl
  | [a, b], h => exact absurd rfl h
  | a :: b :: c :: d, _ => cases a <;> first | rfl | (cases b <;> rfl)
theorem okFr_len {xs : List D} (h : xs.length ≠ 2) : okFr (.tup xs) = true := by
  match xs, h with
  | [], _ => rfl
  | [a], _ => rfl
  | [a, b], h => exact absurd rfl h
  | a :: b :: c :: d, _ => rfl
theorem is_int {d : D} (h : isIntD d = true) : ∃ i, d = .int i := by
  cases d <;> first | exact ⟨_, rfl⟩ | exact Bool.noConfusion h
theorem B_is_fraction {Γ : Gam} (g : Γ.fn n_common = some d_common) (g0 : Γ.fn n_is_integer = some d_is_integer) : BodyOk Γ c_is_fraction.N b_is_fraction d_is_fraction := by
  intro ds h r h' e
  match ds, e with
  | [d], e =>
    obtain ⟨ho, e⟩ := guard_ok e
    obtain ⟨rfl, rfl⟩ := ok_inj e
    show wpB Γ b_is_fraction (startD ["value"] [d]) h _
    unfold b_is_fraction
    cases d with
    | tup xs =>
      by_cases hl : xs.length = 2
      · match xs, hl with
        | [a, b], _ =>
          have ho : (plD a && plD b) = true := ho
          rw [Bool.and_eq_true] at ho
          walk_at "mini mw"
          rw [g0]
          dsimp only
          rw [is_integer_eq ho.1]
          have e2 : decide (((2 : Nat) : Int) = 2) = true := rfl
          rw [e2]
          walk_at "mini mw"
          cases ka : isIntD a with
          | false =>
            walk_at "mini mw"
            rw [isFr_int (.inl ka)]
            exact .refl
          | true =>
            obtain ⟨i, rfl⟩ := is_int ka
            walk_at "mini mw"
            rw [is_integer_eq ho.2]
            walk_at "mini mw"
            cases kb : isIntD b with
            | false =>
              walk_at "mini mw"
              rw [isFr_int (.inr kb)]
              exact .refl
            | true =>
              obtain ⟨j, rfl⟩ := is_int kb
              walk_at "mini mw"
              show Res.wp _ (fun d_1 h2 => Fz h d_1 h2 (.bl (decide (0 < j) && decide (Int.gcd i j = 1))) h)
              by_cases c : 0 < j
              · rw [decide_eq_true c]
                walk_at "mini mw"
                rw [g]
                dsimp only
                rw [abs_if, common_eq (by omega) (by omega)]
                walk_at "mini mw"
                have : decide (((Int.gcd (i.natAbs : Int) j : Nat) : Int) = 1) = decide (Int.gcd i j = 1) := by
                  have e3 : Int.gcd (i.natAbs : Int) j = Int.gcd i j := by simp [Int.gcd]
                  rw [e3]
                  exact decide_eq_decide.mpr (by omega)
                rw [this, Bool.true_and]
                exact .refl
              · rw [decide_eq_false c]
                walk_at "mini mw"
                exact .refl
      · walk_at "mini mw"
        rw [decide_eq_false (show ¬ ((xs.length : Int) = 2) by omega)]
        walk_at "mini mw"
        rw [isFr_len hl]
        exact .refl
    | _ => first | exact Bool.noConfusion ho | (walk_at "mini mw"; exact .refl)
/-! check_fractions, fraction -/
theorem is_fraction_eq {d : D} (hd : okFr d = true) (h : Hm) : d_is_fraction [d] h = .ok (.bl (isFr d)) h := by
  show Res.guard (okFr d) _ = _
  rw [hd]
  rfl
theorem okFr_of {d : D} (h : isFr d = true) : okFr d = true := by
  unfold isFr at h
  split at h
  · rfl
  · exact Bool.noConfusion h
theorem isFr_fr (q : Rat) : isFr (fr q) = true := by
  show (decide (0 < (q.den : Int)) && decide (Int.gcd q.num q.den = 1)) = true
  have h1 := q.den_pos
  have h2 : Int.gcd q.num (q.den : Int) = 1 := q.reduced
  rw [decide_eq_true (by omega), decide_eq_true h2]
  rfl
theorem bools_true : ∀ {xs : List D}, (∀ x ∈ xs, x = .bl true) → boolsOf xs = some (List.replicate xs.length true)
  | [], _ => rfl
  | x :: xs, h => by
    have e := h x List.mem_cons_self
    subst e
    show (boolsOf xs).map (true :: ·) = _
    rw [bools_true fun y hy => h y (List.mem_cons_of_mem _ hy)]
    rfl
theorem all_rep (n : Nat) : (List.replicate n true).all id = true := by
  simp
def itemsTL : D → Option (List D)
  | .tup xs => some xs
  | .lst xs => some xs
  | _ => none
def d_check_fractions : List D → Hm → Res D
  | [d], h => match itemsTL d with
    | some xs => .guard (xs.all isFr && decide (xs.length ≤ 1000)) (.ok .non h)
    | none => .stuck
  | _, _ => .stuck
theorem B_check_fractions {Γ : Gam} (g : Γ.fn n_is_fraction = some d_is_fraction) : BodyOk Γ c_check_fractions.N b_check_fractions d_check_fractions := by
  intro ds h r h' e
  match ds, e with
  | [d], e =>
    have e : (match itemsTL d with
      | some xs => Res.guard (xs.all isFr && decide (xs.length ≤ 1000)) (Res.ok D.non h)
      | none => .stuck) = .ok r h' := e
    cases k : itemsTL d with
    | none => rw [k] at e; cases e
    | some xs =>
      rw [k] at e
      obtain ⟨ho, e⟩ := guard_ok e
      obtain ⟨rfl, rfl⟩ := ok_inj e
      rw [Bool.and_eq_true, decide_eq_true_eq, List.all_eq_true] at ho
      show wpB Γ b_check_fractions (startD ["numbers", "number"] [d]) h _
      have hi : evI Γ (.ex (.v 0)) (startD ["numbers", "number"] [d]) h = .ok xs h := by
        cases d <;> first | (cases k; rfl) | (cases k)
      have hc := ev_comp (Γ := Γ) (own := [("number", 1)]) (tg := .v 1) (cond := .nil) (elt := .call n_is_fraction (.cons (.v 1) .nil)) (fun _ => some (.bl true)) hi (fun x hx t => ⟨_, rfl, rfl, by
        walk_at "mini mw"
        show (match Γ.fn n_is_fraction with
          | some den => den [x] (h ++ [t])
          | none => Res.stuck) = _
        rw [g]
        dsimp only
        rw [is_fraction_eq (okFr_of (ho.1 x hx)), ho.1 x hx]⟩) (Nat.le_trans ho.2 (by decide)) (fun x hx y e => by cases e; rfl)
      unfold b_check_fractions wpB wpS evT evT evEs
      rw [hc]
      walk_at "mini mw"
      rw [bools_true (fun x hx => by
        obtain ⟨_, _, e⟩ := List.mem_filterMap.mp hx
        exact (Option.some.inj e).symm)]
      walk_at "mini mw"
      rw [all_rep]
      walk_at "mini mw"
      exact .refl
theorem check_eq {d : D} {xs : List D} (hd : itemsTL d = some xs) (hx : ∀ x ∈ xs, isFr x = true) (hl : xs.length ≤ 1000) (h : Hm) : d_check_fractions [d] h = .ok .non h := by
  show (match itemsTL d with
    | some xs => Res.guard (xs.all isFr && decide (xs.length ≤ 1000)) (Res.ok D.non h)
    | none => .stuck) = _
  rw [hd]
  dsimp only
  rw [List.all_eq_true.mpr hx, decide_eq_true hl]
  rfl
def d_fraction : List D → Hm → Res D
  | [.int t, .int b], h => .guard (okDen b) (.ok (fr (Rat.divInt t b)) h)
  | _, _ => .stuck
theorem okDen_ne {b : Int} (h : okDen b = true) : b ≠ 0 := by
  unfold okDen at h
  rw [Bool.and_eq_true, decide_eq_true_eq] at h
  exact h.1
theorem B_fraction {Γ : Gam} (g0 : Γ.fn n_is_integer = some d_is_integer) (g : Γ.fn n_lowest = some d_lowest) : BodyOk Γ c_fraction.N b_fraction d_fraction := by
  intro ds h r h' e
  match ds, e with
  | [.int t, .int b], e =>
    obtain ⟨ho, e⟩ := guard_ok e
    obtain ⟨rfl, rfl⟩ := ok_inj e
    show wpB Γ b_fraction (startD ["top", "bottom"] [.int t, .int b]) h _
    unfold b_fraction
    walk_at "mini mw"
    rw [g0, g]
    dsimp only
    rw [is_integer_eq (d := .int t) rfl]
    walk_at "mini mw"
    rw [is_integer_eq (d := .int b) rfl]
    walk_at "mini mw"
    rw [show isIntD (.int t) = true from rfl, show isIntD (.int b) = true from rfl, decide_eq_false (okDen_ne ho)]
    walk_at "mini mw"
    rw [lowest_eq ho]
    exact .refl
/-! bounds -/
def bd (n : Nat) (q : Rat) : Prop := q.num.natAbs < 2 ^ n ∧ q.den < 2 ^ n
theorem bd.mono {n m : Nat} {q : Rat} (h : bd n q) (l : n ≤ m) : bd m q :=
  ⟨Nat.lt_of_lt_of_le h.1 (Nat.pow_le_pow_right (by decide) l), Nat.lt_of_lt_of_le h.2 (Nat.pow_le_pow_right (by decide) l)⟩
theorem lt_pow_mul {a b n m : Nat} (h1 : a < 2 ^ n) (h2 : b < 2 ^ m) : a * b < 2 ^ (n + m) := by
  rw [Nat.pow_add]
  exact Nat.mul_lt_mul'' h1 h2
theorem log_lt {a n : Nat} (h : a < 2 ^ n) (hn : 0 < n) : a.log2 < n := by
  rcases Nat.eq_zero_or_pos a with rfl | ha
  · simpa using hn
  · exact (Nat.log2_lt (by omega)).mpr h
theorem mulOk_bd {i j : Int} {n m : Nat} (h1 : i.natAbs < 2 ^ n) (h2 : j.natAbs < 2 ^ m) (hn : 0 < n) (hm : 0 < m) (l : n + m ≤ 1000000) : mulOk i j = true := by
  have a := log_lt h1 hn
  have b := log_lt h2 hm
  unfold mulOk
  rw [decide_eq_true (show i.natAbs.log2 + j.natAbs.log2 < 1000000 by omega)]
  rfl
theorem okDen_bd {b : Int} {n : Nat} (h0 : b ≠ 0) (h : b.natAbs < 2 ^ n) (hn : 0 < n) (l : n ≤ 9000) : okDen b = true := by
  have a := log_lt h hn
  unfold okDen
  rw [decide_eq_true h0, decide_eq_true (show b.natAbs.log2 < 9000 by omega)]
  rfl
/-- a quotient's parts are not greater than what it was made of -/
theorem divInt_bd {t b : Int} {n : Nat} (h0 : b ≠ 0) (h1 : t.natAbs < 2 ^ n) (h2 : b.natAbs < 2 ^ n) : bd n (Rat.divInt t b) := by
  unfold bd
  rw [Rat.num_divInt, Rat.den_divInt, if_neg h0]
  refine ⟨Nat.lt_of_le_of_lt ?_ h1, Nat.lt_of_le_of_lt (Nat.div_le_self _ _) h2⟩
  rw [Int.natAbs_ediv_of_dvd (Int.dvd_trans (Int.gcd_dvd_right _ _) (Int.dvd_mul_left _ _)), Int.natAbs_mul]
  refine Nat.le_trans (Nat.div_le_self _ _) ?_
  rcases Int.lt_trichotomy b 0 with c | c | c
  · rw [Int.sign_eq_neg_one_of_neg c]
    simp
  · exact absurd c h0
  · rw [Int.sign_eq_one_of_pos c]
    simp
theorem den_ne (q : Rat) : (q.den : Int) ≠ 0 := by
  have := q.den_pos
  omega
theorem rat_self (q : Rat) : Rat.divInt q.num q.den = q := Rat.num_divInt_den q
theorem add_eq (p q : Rat) : Rat.divInt (p.num * q.den + q.num * p.den) (p.den * q.den) = p + q := by
  rw [← Rat.divInt_add_divInt _ _ (den_ne p) (den_ne q), rat_self, rat_self]
theorem mul_eq (p q : Rat) : Rat.divInt (p.num * q.num) (p.den * q.den) = p * q := by
  rw [← Rat.divInt_mul_divInt, rat_self, rat_self]
theorem sub_eq (p q : Rat) : Rat.divInt (p.num * q.den - q.num * p.den) (p.den * q.den) = p - q := by
  have := add_eq p (-q)
  rw [Rat.neg_num, Rat.neg_den, Int.neg_mul, ← Int.sub_eq_add_neg, ← Rat.sub_eq_add_neg] at this
  exact this
theorem num_ne {q : Rat} (h : q ≠ 0) : q.num ≠ 0 := fun z => h (by
  rw [← rat_self q, z]
  simp)
theorem div_eq {p q : Rat} (h : q ≠ 0) : Rat.divInt (p.num * q.den) (p.den * q.num) = p / q := by
  have e : Rat.divInt (q.num) (q.den) = q := rat_self q
  have e2 : q⁻¹ = Rat.divInt q.den q.num := by
    conv => lhs; rw [← e]
    exact Rat.inv_divInt _ _
  rw [Rat.div_def, e2]
  conv => rhs; lhs; rw [← rat_self p]
  rw [Rat.divInt_mul_divInt]
theorem bd_add {n m : Nat} {p q : Rat} (h1 : bd n p) (h2 : bd m q) : bd (n + m + 1) (p + q) := by
  rw [← add_eq]
  have hd : (p.den : Int) * q.den ≠ 0 := Int.mul_ne_zero (den_ne p) (den_ne q)
  refine divInt_bd hd ?_ ?_
  · have a1 := lt_pow_mul h1.1 h2.2
    have a2 := lt_pow_mul h2.1 h1.2
    rw [Nat.add_comm m n] at a2
    have e := Int.natAbs_add_le (p.num * (q.den : Int)) (q.num * (p.den : Int))
    rw [Int.natAbs_mul, Int.natAbs_mul, Int.natAbs_natCast, Int.natAbs_natCast] at e
    rw [Nat.pow_succ]
    generalize 2 ^ (n + m) = z at a1 a2
    omega
  · rw [Int.natAbs_mul, Int.natAbs_natCast, Int.natAbs_natCast]
    exact Nat.lt_of_lt_of_le (lt_pow_mul h1.2 h2.2) (Nat.pow_le_pow_right (by decide) (Nat.le_succ _))
theorem bd_neg {n : Nat} {q : Rat} (h : bd n q) : bd n (-q) := by
  unfold bd
  rw [Rat.neg_num, Rat.neg_den, Int.natAbs_neg]
  exact h
theorem bd_sub {n m : Nat} {p q : Rat} (h1 : bd n p) (h2 : bd m q) : bd (n + m + 1) (p - q) := by
  rw [Rat.sub_eq_add_neg]
  exact bd_add h1 (bd_neg h2)
theorem bd_mul {n m : Nat} {p q : Rat} (h1 : bd n p) (h2 : bd m q) : bd (n + m) (p * q) := by
  rw [← mul_eq]
  have hd : (p.den : Int) * q.den ≠ 0 := Int.mul_ne_zero (den_ne p) (den_ne q)
  refine divInt_bd hd ?_ ?_
  · rw [Int.natAbs_mul]
    exact lt_pow_mul h1.1 h2.1
  · rw [Int.natAbs_mul, Int.natAbs_natCast, Int.natAbs_natCast]
    exact lt_pow_mul h1.2 h2.2
theorem bd_div {n m : Nat} {p q : Rat} (h1 : bd n p) (h2 : bd m q) (h : q ≠ 0) : bd (n + m) (p / q) := by
  rw [← div_eq h]
  have hd : (p.den : Int) * q.num ≠ 0 := Int.mul_ne_zero (den_ne p) (num_ne h)
  refine divInt_bd hd ?_ ?_
  · rw [Int.natAbs_mul, Int.natAbs_natCast]
    exact lt_pow_mul h1.1 h2.2
  · rw [Int.natAbs_mul, Int.natAbs_natCast]
    exact lt_pow_mul h1.2 h2.1

/-! fractions among the data -/
open Classical in
noncomputable def frOf (d : D) : Option Rat := if c : ∃ q, d = fr q then some c.choose else none
theorem frOf_fr (q : Rat) : frOf (fr q) = some q := by
  unfold frOf
  have c : ∃ p, fr q = fr p := ⟨q, rfl⟩
  rw [dif_pos c]
  exact congrArg some (fr_inj c.choose_spec).symm
theorem frOf_eq {d : D} {q : Rat} (h : frOf d = some q) : d = fr q := by
  unfold frOf at h
  split at h
  · rename_i c
    have e := c.choose_spec
    rw [Option.some.inj h] at e
    exact e
  · cases h
/-- a def of two fractions -/
noncomputable def d_bin (c : Rat → Rat → Prop) (f : Rat → Rat → D) : List D → Hm → Res D
  | [x, y], h => match frOf x, frOf y with
    | some p, some q => .guard (cd (c p q)) (.ok (f p q) h)
    | _, _ => .stuck
  | _, _ => .stuck
theorem bin_eq {c : Rat → Rat → Prop} {f : Rat → Rat → D} {p q : Rat} (hc : c p q) (h : Hm) : d_bin c f [fr p, fr q] h = .ok (f p q) h := by
  unfold d_bin
  simp only [frOf_fr, cd_true hc, Res.guard_true]
theorem bin_of {c : Rat → Rat → Prop} {f : Rat → Rat → D} {ds : List D} {h h' : Hm} {r : D} (e : d_bin c f ds h = .ok r h') : ∃ p q, ds = [fr p, fr q] ∧ c p q ∧ r = f p q ∧ h' = h := by
  unfold d_bin at e
  split at e
  · split at e
    · rename_i p q e1 e2
      obtain ⟨hc, e⟩ := guard_ok e
      obtain ⟨rfl, rfl⟩ := ok_inj e
      rw [frOf_eq e1, frOf_eq e2]
      exact ⟨p, q, rfl, of_cd hc, rfl, rfl⟩
    · cases e
  · cases e
noncomputable def d_plus := d_bin (fun p q => bd 4400 p ∧ bd 4400 q) fun p q => fr (p + q)
noncomputable def d_minus := d_bin (fun p q => bd 4400 p ∧ bd 4400 q) fun p q => fr (p - q)
noncomputable def d_times := d_bin (fun p q => bd 4400 p ∧ bd 4400 q) fun p q => fr (p * q)
noncomputable def d_over := d_bin (fun p q => bd 4400 p ∧ bd 4400 q ∧ q ≠ 0) fun p q => fr (p / q)
noncomputable def d_below := d_bin (fun p q => bd 4400 p ∧ bd 4400 q) fun p q => .bl (decide (p < q))
theorem check2 (p q : Rat) (h : Hm) : d_check_fractions [.tup [fr p, fr q]] h = .ok .non h := check_eq (xs := [fr p, fr q]) rfl (fun x hx => by
  rcases List.mem_cons.mp hx with e | hx
  · rw [e]; exact isFr_fr p
  · rcases List.mem_cons.mp hx with e | hx
    · rw [e]; exact isFr_fr q
    · exact absurd hx (by simp)) (show 2 ≤ 1000 by decide) h
theorem mNN {p q : Rat} (h1 : bd 4400 p) (h2 : bd 4400 q) : mulOk p.num q.num = true := mulOk_bd h1.1 h2.1 (by decide) (by decide) (by decide)
theorem mND {p q : Rat} (h1 : bd 4400 p) (h2 : bd 4400 q) : mulOk p.num (q.den : Int) = true := mulOk_bd (j := (q.den : Int)) h1.1 (by rw [Int.natAbs_natCast]; exact h2.2) (by decide) (by decide) (by decide)
theorem mDN {p q : Rat} (h1 : bd 4400 p) (h2 : bd 4400 q) : mulOk (p.den : Int) q.num = true := mulOk_bd (i := (p.den : Int)) (by rw [Int.natAbs_natCast]; exact h1.2) h2.1 (by decide) (by decide) (by decide)
theorem mDD {p q : Rat} (h1 : bd 4400 p) (h2 : bd 4400 q) : mulOk (p.den : Int) (q.den : Int) = true := mulOk_bd (i := (p.den : Int)) (j := (q.den : Int)) (by rw [Int.natAbs_natCast]; exact h1.2) (by rw [Int.natAbs_natCast]; exact h2.2) (by decide) (by decide) (by decide)
theorem dDD {p q : Rat} (h1 : bd 4400 p) (h2 : bd 4400 q) : okDen ((p.den : Int) * q.den) = true := okDen_bd (n := 4400 + 4400) (Int.mul_ne_zero (den_ne p) (den_ne q)) (by
  rw [Int.natAbs_mul, Int.natAbs_natCast, Int.natAbs_natCast]
  exact lt_pow_mul h1.2 h2.2) (by decide) (by decide)
theorem dDN {p q : Rat} (h1 : bd 4400 p) (h2 : bd 4400 q) (h : q ≠ 0) : okDen ((p.den : Int) * q.num) = true := okDen_bd (n := 4400 + 4400) (Int.mul_ne_zero (den_ne p) (num_ne h)) (by
  rw [Int.natAbs_mul, Int.natAbs_natCast]
  exact lt_pow_mul h1.2 h2.1) (by decide) (by decide)
theorem B_plus {Γ : Gam} (g : Γ.fn n_lowest = some d_lowest) (g4 : Γ.fn n_check_fractions = some d_check_fractions) : BodyOk Γ c_plus.N b_plus d_plus := by
  intro ds h r h' e
  obtain ⟨p, q, rfl, ⟨h1, h2⟩, rfl, rfl⟩ := bin_of e
  show wpB Γ b_plus (startD ["one", "other"] [fr p, fr q]) h' _
  unfold b_plus
  walk_at "mini mw"
  rw [g4, g]
  dsimp only
  rw [check2]
  unfold fr
  walk_at "mini mw"
  rw [mND h1 h2, mND h2 h1, mDD h1 h2]
  walk_at "mini mw"
  rw [lowest_eq (dDD h1 h2), add_eq]
  exact .refl
theorem B_minus {Γ : Gam} (g : Γ.fn n_lowest = some d_lowest) (g4 : Γ.fn n_check_fractions = some d_check_fractions) : BodyOk Γ c_minus.N b_minus d_minus := by
  intro ds h r h' e
  obtain ⟨p, q, rfl, ⟨h1, h2⟩, rfl, rfl⟩ := bin_of e
  show wpB Γ b_minus (startD ["one", "other"] [fr p, fr q]) h' _
  unfold b_minus
  walk_at "mini mw"
  rw [g4, g]
  dsimp only
  rw [check2]
  unfold fr
  walk_at "mini mw"
  rw [mND h1 h2, mND h2 h1, mDD h1 h2]
  walk_at "mini mw"
  rw [lowest_eq (dDD h1 h2), sub_eq]
  exact .refl
theorem B_times {Γ : Gam} (g : Γ.fn n_lowest = some d_lowest) (g4 : Γ.fn n_check_fractions = some d_check_fractions) : BodyOk Γ c_times.N b_times d_times := by
  intro ds h r h' e
  obtain ⟨p, q, rfl, ⟨h1, h2⟩, rfl, rfl⟩ := bin_of e
  show wpB Γ b_times (startD ["one", "other"] [fr p, fr q]) h' _
  unfold b_times
  walk_at "mini mw"
  rw [g4, g]
  dsimp only
  rw [check2]
  unfold fr
  walk_at "mini mw"
  rw [mNN h1 h2, mDD h1 h2]
  walk_at "mini mw"
  rw [lowest_eq (dDD h1 h2), mul_eq]
  exact .refl
theorem B_over {Γ : Gam} (g : Γ.fn n_lowest = some d_lowest) (g4 : Γ.fn n_check_fractions = some d_check_fractions) : BodyOk Γ c_over.N b_over d_over := by
  intro ds h r h' e
  obtain ⟨p, q, rfl, ⟨h1, h2, h3⟩, rfl, rfl⟩ := bin_of e
  show wpB Γ b_over (startD ["one", "other"] [fr p, fr q]) h' _
  unfold b_over
  walk_at "mini mw"
  rw [g4, g]
  dsimp only
  rw [check2]
  unfold fr
  walk_at "mini mw"
  rw [decide_eq_false (num_ne h3), mND h1 h2, mDN h1 h2]
  walk_at "mini mw"
  rw [lowest_eq (dDN h1 h2 h3), div_eq h3]
  exact .refl
theorem B_below {Γ : Gam} (g4 : Γ.fn n_check_fractions = some d_check_fractions) : BodyOk Γ c_below.N b_below d_below := by
  intro ds h r h' e
  obtain ⟨p, q, rfl, ⟨h1, h2⟩, rfl, rfl⟩ := bin_of e
  show wpB Γ b_below (startD ["one", "other"] [fr p, fr q]) h' _
  unfold b_below
  walk_at "mini mw"
  rw [g4]
  dsimp only
  rw [check2]
  unfold fr
  walk_at "mini mw"
  rw [mND h1 h2, mND h2 h1]
  walk_at "mini mw"
  rw [decide_eq_decide.mpr (Rat.lt_iff p q).symm]
  exact .refl
/-! sum_of -/
noncomputable def frsOf : List D → Option (List Rat)
  | [] => some []
  | d :: ds => match frOf d, frsOf ds with
    | some q, some qs => some (q :: qs)
    | _, _ => none
theorem frsOf_eq : ∀ {ds : List D} {qs : List Rat}, frsOf ds = some qs → ds = qs.map fr
  | [], _, e => by cases e; rfl
  | d :: ds, qs, e => by
    unfold frsOf at e
    split at e
    · rename_i q qs' e1 e2
      cases e
      rw [frOf_eq e1, frsOf_eq e2]
      rfl
    · cases e
theorem frsOf_fr : ∀ qs : List Rat, frsOf (qs.map fr) = some qs
  | [] => rfl
  | q :: qs => by
    rw [List.map_cons]
    unfold frsOf
    rw [frOf_fr, frsOf_fr qs]
def addUp (qs : List Rat) : Rat := qs.foldl (· + ·) 0
noncomputable def d_sum_of : List D → Hm → Res D
  | [.tup xs], h => match frsOf xs with
    | some qs => .guard (cd (qs.length ≤ 30 ∧ ∀ q ∈ qs, bd 140 q)) (.ok (fr (addUp qs)) h)
    | none => .stuck
  | _, _ => .stuck
theorem sum_eq {qs : List Rat} (h1 : qs.length ≤ 30) (h2 : ∀ q ∈ qs, bd 140 q) (h : Hm) : d_sum_of [.tup (qs.map fr)] h = .ok (fr (addUp qs)) h := by
  show (match frsOf (qs.map fr) with
    | some qs => Res.guard (cd (qs.length ≤ 30 ∧ ∀ q ∈ qs, bd 140 q)) (Res.ok (fr (addUp qs)) h)
    | none => .stuck) = _
  rw [frsOf_fr]
  exact cd_guard ⟨h1, h2⟩
theorem bd_zero : bd 1 0 := ⟨by decide, by decide⟩
theorem addUp_bd : ∀ (qs : List Rat) {n : Nat} {p : Rat}, bd n p → (∀ q ∈ qs, bd 140 q) → bd (n + 141 * qs.length) (qs.foldl (· + ·) p)
  | [], n, p, h, _ => by simpa using h
  | q :: qs, n, p, h, hq => by
    have := addUp_bd qs (bd_add h (hq q List.mem_cons_self)) fun x hx => hq x (List.mem_cons_of_mem _ hx)
    rw [List.foldl_cons]
    refine this.mono ?_
    rw [List.length_cons]
    omega
theorem B_sum_of {Γ : Gam} (g : Γ.fn n_lowest = some d_lowest) (g4 : Γ.fn n_check_fractions = some d_check_fractions) (gl : Γ.gl 0 = some (.tup [.int 0, .int 1])) : BodyOk Γ c_sum_of.N b_sum_of d_sum_of := by
  intro ds h r h' e
  match ds, e with
  | [.tup xs], e =>
    have e : (match frsOf xs with
      | some qs => Res.guard (cd (qs.length ≤ 30 ∧ ∀ q ∈ qs, bd 140 q)) (Res.ok (fr (addUp qs)) h)
      | none => .stuck) = .ok r h' := e
    cases k : frsOf xs with
    | none => rw [k] at e; cases e
    | some qs =>
      rw [k] at e
      obtain ⟨ho, e⟩ := guard_ok e
      obtain ⟨rfl, rfl⟩ := ok_inj e
      obtain ⟨hl, hb⟩ := of_cd ho
      have ex := frsOf_eq k
      subst ex
      show wpB Γ b_sum_of (startD ["numbers", "found", "number"] [.tup (qs.map fr)]) h _
      unfold b_sum_of
      refine B_ifN (h1 := h) (by walk_at "mini ew") ?_
      refine B_ex (d := .non) (h1 := h) (E_call g4 (by walk_at "mini ew"; rfl) (check_eq (xs := qs.map fr) rfl (fun x hx => by
        obtain ⟨q, _, rfl⟩ := List.mem_map.mp hx
        exact isFr_fr q) (by rw [List.length_map]; omega) h)) ?_
      refine B_set (d := fr 0) (h1 := h) (by walk_at "mini ew"; rw [gl]; rfl) ?_
      refine B_for (fun i σ h1 => ∃ l, σ = [some (.tup (qs.map fr)), some (fr (addUp (qs.take i))), l] ∧ h1 = h) (xs := qs.map fr) (h1 := h) (by walk_at "mini ew") ⟨none, rfl, rfl⟩ ?_ ?_
      · rintro i x σ h1 hx ⟨l, rfl, rfl⟩
        rw [List.getElem?_map] at hx
        cases kq : qs[i]? with
        | none => rw [kq] at hx; cases hx
        | some q =>
          rw [kq] at hx
          have hx : fr q = x := Option.some.inj hx
          subst hx
          have hi := (List.getElem?_eq_some_iff.mp kq).1
          have b1 : bd 4400 (addUp (qs.take i)) := (addUp_bd (qs.take i) bd_zero fun y hy => hb y (List.mem_of_mem_take hy)).mono (by rw [List.length_take]; omega)
          have b2 : bd 4400 q := (hb q (List.mem_of_getElem? kq)).mono (by decide)
          refine ⟨_, rfl, ?_⟩
          refine B_set (d := fr (addUp (qs.take i) + q)) (h1 := h1) ?_ ?_
          · refine E_call g (ds := [.int ((addUp (qs.take i)).num * q.den + q.num * (addUp (qs.take i)).den), .int ((addUp (qs.take i)).den * q.den)]) (h1 := h1) ?_ ?_
            · unfold fr
              walk_at "mini ew"
              rw [mND b1 b2, mND b2 b1, mDD b1 b2]
              walk_at "mini ew"
            · rw [lowest_eq (dDD b1 b2), add_eq]
          · refine ⟨some (fr q), ?_, rfl⟩
            have e : qs.take (i + 1) = qs.take i ++ [q] := by rw [List.take_succ, kq]; rfl
            rw [e]
            unfold addUp
            rw [List.foldl_append]
            rfl
      · rintro σ h1 ⟨l, rfl, rfl⟩
        refine B_ret (d := fr (addUp qs)) (h1 := h1) ?_ .refl
        walk_at "mini ew"
        rw [List.length_map, List.take_length]

/-! the spring -/
theorem pow18 : powOk 10 18 = true := by decide
def greatF (x : D) : Option D := match x with
  | .int z => if 10 ^ 18 ≤ z then some (.int (z - 10 ^ 18)) else none
  | _ => none
def greatZ (zs : List Int) : List Int := zs.filterMap fun z => if 10 ^ 18 ≤ z then some (z - 10 ^ 18) else none
theorem great_map : ∀ zs : List Int, (zs.map D.int).filterMap greatF = (greatZ zs).map D.int
  | [] => rfl
  | z :: zs => by
    rw [List.map_cons]
    by_cases c : (10 : Int) ^ 18 ≤ z
    · have e1 : greatF (.int z) = some (.int (z - 10 ^ 18)) := if_pos c
      have e2 : greatZ (z :: zs) = (z - 10 ^ 18) :: greatZ zs := List.filterMap_cons_some (show (if (10 : Int) ^ 18 ≤ z then some (z - 10 ^ 18) else none) = _ from if_pos c)
      rw [List.filterMap_cons_some e1, great_map zs, e2]
      rfl
    · have e1 : greatF (.int z) = none := if_neg c
      have e2 : greatZ (z :: zs) = greatZ zs := List.filterMap_cons_none (show (if (10 : Int) ^ 18 ≤ z then some (z - 10 ^ 18) else none) = _ from if_neg c)
      rw [List.filterMap_cons_none e1, great_map zs, e2]
def mix1 (m z : Int) : Int := (m * 982451653 + z * 49979687 + 32452843) % 2305843009213693951
def mixF (zs : List Int) : Int := zs.foldl mix1 (15485863 + 2 * zs.length)
def d_law_spring : List D → Hm → Res D
  | [.lst xs], h => match intsOf xs with
    | some zs => .guard (decide (zs.length ≤ 100)) (.ok (.ref (h.length + 1)) (h ++ [MO.lst ((greatZ zs).map .int), .lst [.ref h.length, .int (mixF zs), .int 0]]))
    | none => .stuck
  | _, _ => .stuck
theorem spring_eq {zs : List Int} (hl : zs.length ≤ 100) (h : Hm) : d_law_spring [.lst (zs.map .int)] h = .ok (.ref (h.length + 1)) (h ++ [MO.lst ((greatZ zs).map .int), .lst [.ref h.length, .int (mixF zs), .int 0]]) := by
  show (match intsOf (zs.map D.int) with
    | some zs => Res.guard (decide (zs.length ≤ 100)) (Res.ok (D.ref (h.length + 1)) (h ++ [MO.lst ((greatZ zs).map .int), .lst [.ref h.length, .int (mixF zs), .int 0]]))
    | none => .stuck) = _
  rw [ints_map]
  dsimp only
  rw [decide_eq_true hl]
  rfl
theorem B_law_spring {Γ : Gam} : BodyOk Γ c_law_spring.N b_law_spring d_law_spring := by
  intro ds h r h' e
  match ds, e with
  | [.lst xs], e =>
    have e : (match intsOf xs with
      | some zs => Res.guard (decide (zs.length ≤ 100)) (Res.ok (D.ref (h.length + 1)) (h ++ [MO.lst ((greatZ zs).map .int), .lst [.ref h.length, .int (mixF zs), .int 0]]))
      | none => .stuck) = .ok r h' := e
    cases k : intsOf xs with
    | none => rw [k] at e; cases e
    | some zs =>
      rw [k] at e
      obtain ⟨ho, e⟩ := guard_ok e
      obtain ⟨rfl, rfl⟩ := ok_inj e
      rw [decide_eq_true_eq] at ho
      have ex := ints_eq k
      subst ex
      show wpB Γ b_law_spring (startD ["script", "great", "cell", "mixed"] [.lst (zs.map .int)]) h _
      unfold b_law_spring
      refine B_set (d := .ref h.length) (h1 := h ++ [MO.lst ((greatZ zs).map .int)]) ?_ ?_
      · rw [← great_map]
        refine ev_compM greatF (by walk_at "mini ew") (fun x hx t => ⟨_, rfl, ?_⟩) (by rw [List.length_map]; exact Nat.le_trans ho (by decide))
        obtain ⟨z, _, rfl⟩ := List.mem_map.mp hx
        unfold greatF
        have p18 : (10 : Int) ^ (18 : Int).toNat = 10 ^ 18 := rfl
        dsimp only
        by_cases c : (10 : Int) ^ 18 ≤ z
        · rw [if_pos c]
          refine ⟨?_, ?_⟩
          · walk_at "mini ew"
            rw [pow18]
            walk_at "mini ew"
            rw [p18, decide_eq_true c]
          · walk_at "mini ew"
            rw [pow18]
            walk_at "mini ew"
            rw [p18]
        · rw [if_neg c]
          walk_at "mini ew"
          rw [pow18]
          walk_at "mini ew"
          rw [p18, decide_eq_false c]
      · refine B_set (d := .int (15485863 + 2 * zs.length)) (h1 := h ++ [MO.lst ((greatZ zs).map .int)]) ?_ ?_
        · walk_at "mini ew"
          rw [mulOk_l (by decide) (by decide), List.length_map]
          rfl
        · refine B_for (fun i σ h1 => ∃ l, σ = [some (.lst (zs.map .int)), some (.ref h.length), l, some (.int ((zs.take i).foldl mix1 (15485863 + 2 * zs.length)))] ∧ h1 = h ++ [MO.lst ((greatZ zs).map .int)]) (xs := zs.map .int) (h1 := h ++ [MO.lst ((greatZ zs).map .int)]) (by walk_at "mini ew") ⟨none, rfl, rfl⟩ ?_ ?_
          · rintro i x σ h1 hx ⟨l, rfl, rfl⟩
            rw [List.getElem?_map] at hx
            cases kz : zs[i]? with
            | none => rw [kz] at hx; cases hx
            | some z =>
              rw [kz] at hx
              have hx : D.int z = x := Option.some.inj hx
              subst hx
              refine ⟨_, rfl, ?_⟩
              refine B_set (d := .int (mix1 ((zs.take i).foldl mix1 (15485863 + 2 * zs.length)) z)) (h1 := h ++ [MO.lst ((greatZ zs).map .int)]) ?_ ⟨some (.int z), ?_, rfl⟩
              · walk_at "mini ew"
                rw [mulOk_r (by decide) (by decide), mulOk_r (by decide) (by decide)]
                rfl
              · have e : zs.take (i + 1) = zs.take i ++ [z] := by rw [List.take_succ, kz]; rfl
                rw [e, List.foldl_append]
                rfl
          · rintro σ h1 ⟨l, rfl, rfl⟩
            refine B_ret (d := .ref (h.length + 1)) (h1 := h ++ [MO.lst ((greatZ zs).map .int), .lst [.ref h.length, .int (mixF zs), .int 0]]) ?_ .refl
            walk_at "mini ew"
            rw [List.length_map, List.take_length]
            simp only [List.length_append, List.length_cons, List.length_nil, List.append_assoc, List.cons_append, List.nil_append]
            rfl

/-! the spring's drops -/
structure Spg where
  great : List Int
  mixed : Int
  cnt : Int
def sprOf (h : Hm) (n : Nat) : Option (Nat × Spg) := match listOf? h n with
  | some [.ref g, .int m, .int c] => match (listOf? h g).bind intsOf with
    | some zs => if g = n then none else some (g, ⟨zs, m, c⟩)
    | none => none
  | _ => none
theorem sprOf_eq {h : Hm} {n g : Nat} {s : Spg} (e : sprOf h n = some (g, s)) : listOf? h n = some [.ref g, .int s.mixed, .int s.cnt] ∧ listOf? h g = some (s.great.map .int) ∧ g ≠ n := by
  unfold sprOf at e
  split at e
  · rename_i g' m c e1
    split at e
    · rename_i zs e2
      split at e
      · cases e
      · rename_i hne
        cases e
        cases k : listOf? h g with
        | none => rw [k] at e2; cases e2
        | some ys =>
          rw [k] at e2
          have := ints_eq (show intsOf ys = some zs from e2)
          subst this
          exact ⟨e1, rfl, hne⟩
    · cases e
  · cases e
theorem sprOf_mk {h : Hm} {n g : Nat} {s : Spg} (e1 : listOf? h n = some [.ref g, .int s.mixed, .int s.cnt]) (e2 : listOf? h g = some (s.great.map .int)) (e3 : g ≠ n) : sprOf h n = some (g, s) := by
  unfold sprOf
  rw [e1]
  dsimp only
  rw [e2, Option.bind_some, ints_map]
  dsimp only
  rw [if_neg e3]
def putS (h : Hm) (n g : Nat) (s : Spg) : Hm := (h.set g (.lst (s.great.map .int))).set n (.lst [.ref g, .int s.mixed, .int s.cnt])
theorem putS_len (h : Hm) (n g : Nat) (s : Spg) : (putS h n g s).length = h.length := by
  unfold putS
  simp
theorem sprOf_put {h : Hm} {n g : Nat} {s s' : Spg} (e : sprOf h n = some (g, s)) : sprOf (putS h n g s') n = some (g, s') := by
  obtain ⟨e1, e2, e3⟩ := sprOf_eq e
  have l1 := listOf_lt e1
  have l2 := listOf_lt e2
  refine sprOf_mk (listOf_set_same (by simpa using l1)) ?_ e3
  unfold putS
  rw [listOf_set_ne (Ne.symm e3), listOf_set_same l2]
theorem putS_putS {h : Hm} {n g : Nat} {s s' : Spg} (hne : g ≠ n) : putS (putS h n g s) n g s' = putS h n g s' := by
  unfold putS
  rw [List.set_comm (a := MO.lst [D.ref g, D.int s.mixed, D.int s.cnt]) (b := MO.lst (s'.great.map .int)) (Ne.symm hne), List.set_set, List.set_set]
theorem putS_self {h : Hm} {n g : Nat} {s : Spg} (e : sprOf h n = some (g, s)) : putS h n g s = h := by
  obtain ⟨e1, e2, e3⟩ := sprOf_eq e
  unfold putS
  rw [set_same e2, set_same e1]
theorem sprOf_app {h t : Hm} {n g : Nat} {s : Spg} (e : sprOf h n = some (g, s)) : sprOf (h ++ t) n = some (g, s) := by
  obtain ⟨e1, e2, e3⟩ := sprOf_eq e
  exact sprOf_mk (by rw [listOf_app (listOf_lt e1)]; exact e1) (by rw [listOf_app (listOf_lt e2)]; exact e2) e3
theorem putS_app {h t : Hm} {n g : Nat} {s s' : Spg} (e : sprOf h n = some (g, s)) : putS (h ++ t) n g s' = putS h n g s' ++ t := by
  obtain ⟨e1, e2, e3⟩ := sprOf_eq e
  unfold putS
  rw [List.set_append_left _ _ (listOf_lt e2), List.set_append_left _ _ (by simpa using listOf_lt e1)]
def stripZ : List Int → List Int
  | [] => []
  | z :: zs => if z = 0 then stripZ zs else z :: zs
def mixN (s : Spg) : Int := (s.mixed * 6364136223846793005 + (s.cnt + 1) * 1442695040888963407) % 2305843009213693951
def dropF (s : Spg) (many : Int) : Int × Spg := match stripZ s.great with
  | z :: zs => (z % many, ⟨z / many :: zs, s.mixed, s.cnt⟩)
  | [] => ((mixN s * mixN s) % 2305843009213693921 / 1048576 % many, ⟨[], mixN s, s.cnt + 1⟩)
theorem dropF_lo (s : Spg) {many : Int} (h : 0 < many) : 0 ≤ (dropF s many).1 := by
  unfold dropF
  split
  · exact Int.emod_nonneg _ (by omega)
  · exact Int.emod_nonneg _ (by omega)
theorem dropF_hi (s : Spg) {many : Int} (h : 0 < many) : (dropF s many).1 < many := by
  unfold dropF
  split
  · exact Int.emod_lt_of_pos _ h
  · exact Int.emod_lt_of_pos _ h
def d_law_drop : List D → Hm → Res D
  | [.ref n, .int many], h => match sprOf h n with
    | some (g, s) => .guard (decide (0 < many) && decide (many.natAbs.log2 < 9000)) (.ok (.int (dropF s many).1) (putS h n g (dropF s many).2))
    | none => .stuck
  | _, _ => .stuck
theorem drop_eq {h : Hm} {n g : Nat} {s : Spg} {many : Int} (e : sprOf h n = some (g, s)) (h0 : 0 < many) (h1 : many.natAbs.log2 < 9000) : d_law_drop [.ref n, .int many] h = .ok (.int (dropF s many).1) (putS h n g (dropF s many).2) := by
  show (match sprOf h n with
    | some (g, s) => Res.guard (decide (0 < many) && decide (many.natAbs.log2 < 9000)) (Res.ok (D.int (dropF s many).1) (putS h n g (dropF s many).2))
    | none => .stuck) = _
  rw [e]
  dsimp only
  rw [decide_eq_true h0, decide_eq_true h1]
  rfl
theorem mixN_rng (s : Spg) : 0 ≤ mixN s ∧ mixN s < 2305843009213693951 := ⟨Int.emod_nonneg _ (by decide), Int.emod_lt_of_pos _ (by decide)⟩
theorem B_law_drop {Γ : Gam} : BodyOk Γ c_law_drop.N b_law_drop d_law_drop := by
  intro ds h r h' e
  match ds, e with
  | [.ref n, .int many], e =>
    have e : (match sprOf h n with
      | some (g, s) => Res.guard (decide (0 < many) && decide (many.natAbs.log2 < 9000)) (Res.ok (D.int (dropF s many).1) (putS h n g (dropF s many).2))
      | none => .stuck) = .ok r h' := e
    cases k : sprOf h n with
    | none => rw [k] at e; cases e
    | some gs =>
      obtain ⟨g, s⟩ := gs
      rw [k] at e
      obtain ⟨ho, e⟩ := guard_ok e
      obtain ⟨rfl, rfl⟩ := ok_inj e
      rw [Bool.and_eq_true, decide_eq_true_eq, decide_eq_true_eq] at ho
      obtain ⟨e1, e2, e3⟩ := sprOf_eq k
      have l1 := listOf_lt e1
      have l2 := listOf_lt e2
      show wpB Γ b_law_drop (startD ["spring", "many", "great", "found"] [.ref n, .int many]) h _
      unfold b_law_drop
      refine B_set (d := .ref g) (h1 := h) (by walk_at "mini ew"; rw [e1]; walk_at "mini ew") ?_
      refine B_while (fun m σ h1 => ∃ zs : List Int, σ = [some (.ref n), some (.int many), some (.ref g), none] ∧ h1 = h.set g (.lst (zs.map .int)) ∧ stripZ zs = stripZ s.great ∧ zs.length = m) (m := s.great.length) ⟨s.great, rfl, (set_same e2).symm, rfl, rfl⟩ ?_
      rintro m σ h1 ⟨zs, rfl, rfl, hs, rfl⟩
      have eg : ∀ zs : List Int, listOf? (h.set g (.lst (zs.map .int))) g = some (zs.map .int) := fun zs => listOf_set_same l2
      have en : ∀ zs : List Int, listOf? (h.set g (.lst (zs.map .int))) n = some [.ref g, .int s.mixed, .int s.cnt] := fun zs => by rw [listOf_set_ne e3]; exact e1
      have egc : ∀ (z : Int) (zs : List Int), listOf? (List.set h g (MO.lst (D.int z :: List.map D.int zs))) g = some (D.int z :: List.map D.int zs) := fun z zs => eg (z :: zs)
      have enc : ∀ (z : Int) (zs : List Int), listOf? (List.set h g (MO.lst (D.int z :: List.map D.int zs))) n = some [.ref g, .int s.mixed, .int s.cnt] := fun z zs => en (z :: zs)
      have enn : listOf? (List.set h g (MO.lst [])) n = some [.ref g, .int s.mixed, .int s.cnt] := en []
      have eqc : ∀ (z : Int) (zs : List Int), eqD (.ref g) (.lst []) (List.set h g (MO.lst (D.int z :: List.map D.int zs))) = .ok false (List.set h g (MO.lst (D.int z :: List.map D.int zs))) := fun z zs => eq_nil (eg (z :: zs))
      have eqn : eqD (.ref g) (.lst []) (List.set h g (MO.lst [])) = .ok true (List.set h g (MO.lst [])) := eq_nil (zs := []) (eg [])
      -- behind the loop
      have rest : ∀ zs : List Int, stripZ s.great = zs → wpB Γ (.cons (.ife (.cmp .ne (.v 2) (.lst .nil)) (.cons (.set 3 (.op2 .mod (.bi .int (.cons (.ix (.v 2) (.int 0)) .nil)) (.v 1))) (.cons (.setix (.v 2) (.int 0) (.op2 .fdiv (.ix (.v 2) (.int 0)) (.v 1))) (.cons (.ret (.v 3)) .nil))) .nil) (.cons (.setix (.v 0) (.int 2) (.op2 .add (.ix (.v 0) (.int 2)) (.int 1))) (.cons (.setix (.v 0) (.int 1) (.op2 .mod (.bi .int (.cons (.op2 .add (.op2 .mul (.ix (.v 0) (.int 1)) (.int 6364136223846793005)) (.op2 .mul (.ix (.v 0) (.int 2)) (.int 1442695040888963407))) .nil)) (.int 2305843009213693951))) (.cons (.ret (.op2 .mod (.op2 .fdiv (.op2 .mod (.bi .int (.cons (.op2 .mul (.ix (.v 0) (.int 1)) (.ix (.v 0) (.int 1))) .nil)) (.int 2305843009213693921)) (.int 1048576)) (.v 1))) .nil)))) [some (.ref n), some (.int many), some (.ref g), none] (h.set g (.lst (zs.map .int))) { nx := fun _ h2 => Fz h .non h2 (.int (dropF s many).1) (putS h n g (dropF s many).2), rt := fun d h2 => Fz h d h2 (.int (dropF s many).1) (putS h n g (dropF s many).2) } := by
        intro zs hz
        cases zs with
        | cons z zs =>
          have ed : dropF s many = (z % many, ⟨z / many :: zs, s.mixed, s.cnt⟩) := by unfold dropF; rw [hz]
          rw [ed]
          refine B_ifT (h1 := h.set g (.lst ((z :: zs).map .int))) (by walk_at "mini ew"; rw [eqc]; rfl) ?_
          refine B_set (d := .int (z % many)) (h1 := h.set g (.lst ((z :: zs).map .int))) (by walk_at "mini ew"; rw [egc]; walk_at "mini ew"; rw [decide_eq_true ho.1]; walk_at "mini ew") ?_
          refine B_setix (d := .int (z / many)) (n := g) (z := 0) (m := 0) (xs := D.int z :: zs.map .int) (h1 := h.set g (.lst (D.int z :: zs.map .int))) (h2 := h.set g (.lst (D.int z :: zs.map .int))) (h3 := h.set g (.lst (D.int z :: zs.map .int))) ?_ (by walk_at "mini ew") (by walk_at "mini ew") (egc z zs) (ixN_nat (i := 0) (Nat.succ_pos _)) ?_
          · walk_at "mini ew"
            rw [egc]
            walk_at "mini ew"
            rw [divOk_of (by omega) ho.2, Int.fdiv_eq_ediv_of_nonneg _ (by omega)]
            walk_at "mini ew"
          · refine B_ret (d := .int (z % many)) (h1 := putS h n g ⟨z / many :: zs, s.mixed, s.cnt⟩) ?_ .refl
            walk_at "mini ew"
            have : (List.set h g (MO.lst (D.int z :: List.map D.int zs))).set g (MO.lst (D.int (z / many) :: List.map D.int zs)) = putS h n g ⟨z / many :: zs, s.mixed, s.cnt⟩ := by
              unfold putS
              rw [List.set_set]
              exact (set_same (en (z / many :: zs))).symm
            exact congrArg _ this
        | nil =>
          have ed : dropF s many = ((mixN s * mixN s) % 2305843009213693921 / 1048576 % many, ⟨[], mixN s, s.cnt + 1⟩) := by unfold dropF; rw [hz]
          rw [ed]
          refine B_ifN (h1 := h.set g (.lst ([] : List D))) (by walk_at "mini ew"; rw [eqn]; rfl) ?_
          refine B_setix (d := .int (s.cnt + 1)) (n := n) (z := 2) (m := 2) (xs := [.ref g, .int s.mixed, .int s.cnt]) (h1 := h.set g (.lst [])) (h2 := h.set g (.lst [])) (h3 := h.set g (.lst [])) (by walk_at "mini ew"; rw [enn]; walk_at "mini ew") (by walk_at "mini ew") (by walk_at "mini ew") enn rfl ?_
          have e4 : listOf? ((h.set g (.lst [])).set n (.lst [.ref g, .int s.mixed, .int (s.cnt + 1)])) n = some [.ref g, .int s.mixed, .int (s.cnt + 1)] := listOf_set_same (by simpa using l1)
          refine B_setix (d := .int (mixN s)) (n := n) (z := 1) (m := 1) (xs := [.ref g, .int s.mixed, .int (s.cnt + 1)]) (h1 := (h.set g (.lst [])).set n (.lst [.ref g, .int s.mixed, .int (s.cnt + 1)])) (h2 := (h.set g (.lst [])).set n (.lst [.ref g, .int s.mixed, .int (s.cnt + 1)])) (h3 := (h.set g (.lst [])).set n (.lst [.ref g, .int s.mixed, .int (s.cnt + 1)])) ?_ (by walk_at "mini ew") (by walk_at "mini ew") e4 rfl ?_
          · walk_at "mini ew"
            rw [e4]
            walk_at "mini ew"
            rw [mulOk_r (i := s.mixed) (by decide) (by decide)]
            walk_at "mini ew"
            rw [e4]
            walk_at "mini ew"
            rw [mulOk_r (i := s.cnt + 1) (by decide) (by decide)]
            rfl
          have e5 : listOf? (((h.set g (.lst [])).set n (.lst [.ref g, .int s.mixed, .int (s.cnt + 1)])).set n (.lst [.ref g, .int (mixN s), .int (s.cnt + 1)])) n = some [.ref g, .int (mixN s), .int (s.cnt + 1)] := listOf_set_same (by simpa using l1)
          have hr := mixN_rng s
          refine B_ret (d := .int ((mixN s * mixN s) % 2305843009213693921 / 1048576 % many)) (h1 := putS h n g ⟨[], mixN s, s.cnt + 1⟩) ?_ .refl
          have eh : ((h.set g (.lst [])).set n (.lst [.ref g, .int s.mixed, .int (s.cnt + 1)])).set n (.lst [.ref g, .int (mixN s), .int (s.cnt + 1)]) = putS h n g ⟨[], mixN s, s.cnt + 1⟩ := by rw [List.set_set]; rfl
          show evE Γ _ _ (((h.set g (.lst [])).set n (.lst [.ref g, .int s.mixed, .int (s.cnt + 1)])).set n (.lst [.ref g, .int (mixN s), .int (s.cnt + 1)])) = _
          walk_at "mini ew"
          rw [e5]
          walk_at "mini ew"
          rw [e5]
          walk_at "mini ew"
          rw [mulOk_l (i := mixN s) (j := mixN s) (by omega) (by omega)]
          walk_at "mini ew"
          rw [show decide ((0 : Int) < 2305843009213693921) = true from rfl]
          walk_at "mini ew"
          rw [show divOk 1048576 = true from rfl, Int.fdiv_eq_ediv_of_nonneg _ (by decide)]
          walk_at "mini ew"
          rw [decide_eq_true ho.1, eh]
          rfl
      -- the loop's test
      cases zs with
      | nil =>
        refine ⟨false, h.set g (.lst []), by walk_at "mini ew"; rw [eqn]; rfl, fun z => Bool.noConfusion z, fun _ => rest [] hs.symm⟩
      | cons z zs =>
        by_cases c : z = 0
        · subst c
          refine ⟨true, h.set g (.lst ((0 :: zs).map .int)), ?_, fun _ => ?_, fun z => Bool.noConfusion z⟩
          · walk_at "mini ew"
            rw [eqc]
            walk_at "mini ew"
            rw [egc]
            walk_at "mini ew"
          · refine B_ex (d := .int 0) (h1 := h.set g (.lst (zs.map .int))) ?_ ⟨zs.length, Nat.lt_succ_self _, zs, rfl, rfl, hs, rfl⟩
            walk_at "mini ew"
            rw [rcv_pop (egc 0 zs), pop0 (egc 0 zs), List.set_set]
            rfl
        · refine ⟨false, h.set g (.lst ((z :: zs).map .int)), ?_, fun z => Bool.noConfusion z, fun _ => rest (z :: zs) ?_⟩
          · walk_at "mini ew"
            rw [eqc]
            walk_at "mini ew"
            rw [egc]
            walk_at "mini ew"
            rw [decide_eq_false c]
          · rw [← hs]
            exact if_neg c

/-! what is alike -/
def kindsD (d : D) : List D := [.bl (tyD .bool d), .bl (tyD .int d), .bl (tyD .str d), .bl (tyD .tuple d), .bl (tyD .list d), .bl (isNonD d)]
def d_law_kinds : List D → Hm → Res D
  | [d], h => .guard (plD d) (.ok (.lst (kindsD d)) h)
  | _, _ => .stuck
theorem kinds_eq {d : D} (hd : plD d = true) (h : Hm) : d_law_kinds [d] h = .ok (.lst (kindsD d)) h := by
  show Res.guard (plD d) _ = _
  rw [hd]
  rfl
theorem B_law_kinds {Γ : Gam} : BodyOk Γ c_law_kinds.N b_law_kinds d_law_kinds := by
  intro ds h r h' e
  match ds, e with
  | [d], e =>
    obtain ⟨ho, e⟩ := guard_ok e
    obtain ⟨rfl, rfl⟩ := ok_inj e
    show wpB Γ b_law_kinds (startD ["thing", "found"] [d]) h _
    unfold b_law_kinds
    have hop : openD h d = true := by cases d <;> first | rfl | exact Bool.noConfusion ho
    refine B_set (d := .lst [.bl (tyD .bool d), .bl (tyD .int d), .bl (tyD .str d)]) (h1 := h) ?_ ?_
    · walk_at "mini ew"
      rw [hop]
      walk_at "mini ew"
      rw [hop]
      walk_at "mini ew"
      rw [hop]
      walk_at "mini ew"
    · refine B_ret (d := .lst (kindsD d)) (h1 := h) ?_ .refl
      walk_at "mini ew"
      rw [hop]
      walk_at "mini ew"
      rw [hop]
      walk_at "mini ew"
      rfl
open Classical in
noncomputable def d_law_alike (k : Nat) : List D → Hm → Res D
  | [x, y], h => .guard (cd (x = y) && plainD k x) (.ok (.bl true) h)
  | _, _ => .stuck
theorem alike_eq {k : Nat} {x : D} (hx : plainD k x = true) (h : Hm) : d_law_alike k [x, x] h = .ok (.bl true) h := by
  show Res.guard (cd (x = x) && plainD k x) _ = _
  rw [cd_true rfl, hx]
  rfl
theorem plain_pl {k : Nat} {d : D} (h : plainD k d = true) : plD d = true := by
  cases k <;> cases d <;> first | rfl | exact Bool.noConfusion h
theorem kinds_plain (d : D) : plainD 1 (.lst (kindsD d)) = true := by
  show (decide ((kindsD d).length ≤ 1000) && (kindsD d).all (plainD 0)) = true
  unfold kindsD
  rfl
theorem rngD_mem {n : Nat} {lo : Int} {x : D} (h : x ∈ rngD lo n) : ∃ i : Nat, i < n ∧ x = .int (lo + i) := by
  obtain ⟨j, hj⟩ := List.getElem?_of_mem h
  obtain ⟨a, b⟩ := rngD_get _ _ _ _ hj
  exact ⟨j, a, b⟩
def alikeRest : Blk := (.cons (.ife (.isiT (.v 1) [.tuple, .list]) (.cons (.ret (.band (.cmp .eq (.bi .len (.cons (.v 0) .nil)) (.bi .len (.cons (.v 1) .nil))) (.bi .all (.cons (.comp false [("k", 2)] (.v 2) (.rng1 (.bi .len (.cons (.v 1) .nil))) .nil (.call n_law_alike (.cons (.ix (.v 0) (.v 2)) (.cons (.ix (.v 1) (.v 2)) .nil)))) .nil)))) .nil) .nil) (.cons (.ret (.cmp .eq (.v 0) (.v 1))) .nil))
theorem alike_seq {Γ : Gam} {k : Nat} (hk : k ≤ 64) (g : Γ.fn n_law_kinds = some d_law_kinds) (ga : ∀ j, k = j + 1 → Γ.fn n_law_alike = some (d_law_alike j)) {x : D} {h : Hm} (hp : plainD k x = true) (pl : plD x = true) : ∀ xs : List D, itemsTL x = some xs → tyD .tuple x = true ∨ tyD .list x = true → xs.length ≤ 1000 → (∀ j, k = j + 1 → xs.all (plainD j) = true) → (∃ j, k = j + 1) → wpB Γ alikeRest [some x, some x, none] h { nx := fun _ h2 => Fz h .non h2 (.bl true) h, rt := fun d h2 => Fz h d h2 (.bl true) h } := by
  unfold alikeRest
  rintro xs hi ht hl hall ⟨j, rfl⟩
  have hall := hall j rfl
  rw [List.all_eq_true] at hall
  have ga := ga j rfl
  have hop : openD h x = true := by cases x <;> first | rfl | exact Bool.noConfusion pl
  have hlen : ∀ h, biD .len [x] h = .ok (.int xs.length) h := by
    intro h
    cases x <;> first | (cases hi; rfl) | cases hi
  have hix : ∀ (i : Nat) (h : Hm), i < xs.length → ixD x (.int i) h = match xs[i]? with | some y => .ok y h | none => .stuck := by
    intro i h hi2
    have : ixD x (.int i) h = match atI xs (i : Int) with | some y => .ok y h | none => .stuck := by
      cases x <;> first | (cases hi; rfl) | cases hi
    rw [this, atI_nat hi2]
  refine B_ifT (h1 := h) ?_ ?_
  · walk_at "mini ew"
    rw [hop]
    walk_at "mini ew"
    have : ([Ty.tuple, Ty.list].any fun t => tyD t x) = true := by
      show (tyD .tuple x || (tyD .list x || false)) = true
      rcases ht with ht | ht <;> rw [ht] <;> simp
    rw [this]
  · refine B_ret (d := .bl true) (h1 := h) ?_ .refl
    have sm : smallI (xs.length : Int) = true := by
      unfold smallI
      rw [decide_eq_true (by omega), decide_eq_true (by omega)]
      rfl
    have hc := ev_comp (Γ := Γ) (own := [("k", 2)]) (tg := .v 2) (it := .rng1 (.bi .len (.cons (.v 1) .nil))) (cond := .nil) (elt := .call n_law_alike (.cons (.ix (.v 0) (.v 2)) (.cons (.ix (.v 1) (.v 2)) .nil))) (σ := [some x, some x, none]) (h := h) (h1 := h) (src := rngD 0 xs.length) (fun _ => some (.bl true)) (I_rng1 (by walk_at "mini ew"; rw [hlen]) (by omega)) (fun y hy t => ⟨_, rfl, by walk_at "mini ew", by
        obtain ⟨i, hi1, rfl⟩ := rngD_mem hy
        rw [Int.zero_add]
        have hx := List.getElem?_eq_getElem hi1
        refine E_call ga (ds := [xs[i], xs[i]]) (h1 := h ++ [t]) ?_ (alike_eq (hall _ (List.getElem_mem hi1)) _)
        walk_at "mini ew"
        rw [hix i _ hi1, hx]
        walk_at "mini ew"
        rw [hix i _ hi1, hx]
        walk_at "mini ew"⟩) (by rw [rngD_length]; exact Nat.le_trans hl (by decide)) (fun _ _ y e => by cases e; rfl)
    refine E_bandT (h1 := h) ?_ ?_
    · refine E_cmp (t := true) (h1 := h) (h2 := h) (E_bi1 (by walk_at "mini ew") (hlen h)) (E_bi1 (by walk_at "mini ew") (hlen h)) ?_
      rw [cm_eq, eq_int, decide_eq_true rfl]
    · refine E_bi1 (h1 := h) hc ?_
      rw [bi_allL, bools_true (fun x hx => by
        obtain ⟨_, _, e⟩ := List.mem_filterMap.mp hx
        exact (Option.some.inj e).symm)]
      dsimp only
      rw [all_rep]

theorem alike_scal {Γ : Gam} {k : Nat} (hk : k ≤ 64) (g : Γ.fn n_law_kinds = some d_law_kinds) (ga : ∀ j, k = j + 1 → Γ.fn n_law_alike = some (d_law_alike j)) {x : D} {h : Hm} (hp : plainD k x = true) (pl : plD x = true) : tyD .tuple x = false → tyD .list x = false → wpB Γ alikeRest [some x, some x, none] h { nx := fun _ h2 => Fz h .non h2 (.bl true) h, rt := fun d h2 => Fz h d h2 (.bl true) h } := by
  unfold alikeRest
  intro t1 t2
  have hop : openD h x = true := by cases x <;> first | rfl | exact Bool.noConfusion pl
  refine B_ifN (h1 := h) ?_ ?_
  · walk_at "mini ew"
    rw [hop]
    walk_at "mini ew"
    have : ([Ty.tuple, Ty.list].any fun t => tyD t x) = false := by
      show (tyD .tuple x || (tyD .list x || false)) = false
      rw [t1, t2]
      rfl
    rw [this]
  · refine B_ret (d := .bl true) (h1 := h) ?_ .refl
    walk_at "mini ew"
    rw [eq_refl hk hp]
    walk_at "mini ew"

theorem B_law_alike {Γ : Gam} {k : Nat} (hk : k ≤ 64) (g : Γ.fn n_law_kinds = some d_law_kinds) (ga : ∀ j, k = j + 1 → Γ.fn n_law_alike = some (d_law_alike j)) : BodyOk Γ c_law_alike.N b_law_alike (d_law_alike k) := by
  intro ds h r h' e
  match ds, e with
  | [x, y], e =>
    obtain ⟨ho, e⟩ := guard_ok e
    obtain ⟨rfl, rfl⟩ := ok_inj e
    rw [Bool.and_eq_true] at ho
    have := of_cd ho.1
    subst this
    have hp := ho.2
    have pl := plain_pl hp
    show wpB Γ b_law_alike (startD ["found", "due", "k"] [x, x]) h _
    unfold b_law_alike
    refine B_ifN (h1 := h) ?_ ?_
    · walk_at "mini ew"
      rw [g]
      dsimp only
      rw [kinds_eq pl]
      walk_at "mini ew"
      rw [kinds_eq pl]
      walk_at "mini ew"
      rw [eq_refl (k := 1) (by decide) (kinds_plain x)]
      walk_at "mini ew"
    · have seq := alike_seq hk g ga (h := h) hp pl
      have scal := alike_scal hk g ga (h := h) hp pl
      have e0 : startD ["found", "due", "k"] [x, x] = [some x, some x, none] := rfl
      rw [e0]
      cases x with
      | tup xs =>
        cases k with
        | zero => exact Bool.noConfusion hp
        | succ j =>
          have hp : (decide (xs.length ≤ 1000) && xs.all (plainD j)) = true := hp
          rw [Bool.and_eq_true, decide_eq_true_eq] at hp
          exact seq xs rfl (.inl rfl) hp.1 (fun i e => by cases e; exact hp.2) ⟨j, rfl⟩
      | lst xs =>
        cases k with
        | zero => exact Bool.noConfusion hp
        | succ j =>
          have hp : (decide (xs.length ≤ 1000) && xs.all (plainD j)) = true := hp
          rw [Bool.and_eq_true, decide_eq_true_eq] at hp
          exact seq xs rfl (.inr rfl) hp.1 (fun i e => by cases e; exact hp.2) ⟨j, rfl⟩
      | ref n => exact Bool.noConfusion pl
      | wtup xs => exact Bool.noConfusion pl
      | _ => exact scal rfl rfl

/-! the law's own fractions -/
theorem fdiv_ok {b : Int} {t : Int} (h0 : b ≠ 0) (h1 : b.natAbs.log2 < 9000) : divOk ((Int.gcd b t : Int)) = true ∧ divOk (-(Int.gcd b t : Int)) = true := by
  have hg := gcd_pos' (t := t) h0
  have hl : (Int.gcd b t).log2 < 9000 := Nat.lt_of_le_of_lt (log2_mono' (gcd_le' h0)) h1
  exact ⟨divOk_of (by omega) (by rw [Int.natAbs_natCast]; exact hl), divOk_of (by omega) (by rw [Int.natAbs_neg, Int.natAbs_natCast]; exact hl)⟩
theorem B_law_low {Γ : Gam} : BodyOk Γ c_law_low.N b_law_low d_lowest := by
  intro ds h r h' e
  match ds, e with
  | [.int t, .int b], e =>
    obtain ⟨ho, e⟩ := guard_ok e
    obtain ⟨rfl, rfl⟩ := ok_inj e
    have hd := okDen_ne ho
    unfold okDen at ho
    rw [Bool.and_eq_true, decide_eq_true_eq, decide_eq_true_eq] at ho
    show wpB Γ b_law_low (startD ["top", "bottom", "one", "other"] [.int t, .int b]) h _
    unfold b_law_low
    refine B_par (d := .int t.natAbs) (d2 := .int b.natAbs) (h1 := h) (h2 := h) (by walk_at "mini ew"; rw [abs_if]) (by walk_at "mini ew"; rw [abs_if]) ?_
    refine B_while (fun m σ h1 => ∃ x y : Int, σ = [some (.int t), some (.int b), some (.int x), some (.int y)] ∧ h1 = h ∧ 0 ≤ x ∧ 0 ≤ y ∧ y.toNat = m ∧ Int.gcd x y = Int.gcd b t) (m := b.natAbs) ⟨t.natAbs, b.natAbs, rfl, rfl, by omega, by omega, by omega, gcd_abs t b⟩ ?_
    rintro m σ h1 ⟨x, y, rfl, rfl, hx, hy, rfl, hg⟩
    by_cases c : 0 < y
    · refine ⟨true, h1, by walk_at "mini ew"; rw [decide_eq_true c], fun _ => ?_, fun z => Bool.noConfusion z⟩
      refine B_par (d := .int y) (d2 := .int (x % y)) (h1 := h1) (h2 := h1) (by walk_at "mini ew") (by walk_at "mini ew"; rw [decide_eq_true c]; walk_at "mini ew") ?_
      refine ⟨(x % y).toNat, ?_, y, x % y, rfl, rfl, hy, Int.emod_nonneg _ (by omega), rfl, by rw [gcd_step, hg]⟩
      have := Int.emod_lt_of_pos x c
      omega
    · refine ⟨false, h1, by walk_at "mini ew"; rw [decide_eq_false c], fun z => Bool.noConfusion z, fun _ => ?_⟩
      have e : y = 0 := by omega
      subst e
      have ex : x = (Int.gcd b t : Int) := by
        rw [← hg, Int.gcd_zero_right]
        omega
      obtain ⟨f1, f2⟩ := fdiv_ok (t := t) ho.1 ho.2
      by_cases c : 0 < b
      · refine B_set (d := .int x) (h1 := h1) (by walk_at "mini ew"; rw [decide_eq_true c]) ?_
        refine B_ret (d := fr (Rat.divInt t b)) (h1 := h1) ?_ .refl
        walk_at "mini ew"
        rw [ex, f1]
        walk_at "mini ew"
        rw [(low_pos c).1, (low_pos c).2]
        rfl
      · refine B_set (d := .int (-x)) (h1 := h1) (by walk_at "mini ew"; rw [decide_eq_false c]) ?_
        refine B_ret (d := fr (Rat.divInt t b)) (h1 := h1) ?_ .refl
        walk_at "mini ew"
        rw [ex, f2]
        walk_at "mini ew"
        rw [(low_neg (by omega)).1, (low_neg (by omega)).2]
        rfl
theorem B_law_plus {Γ : Gam} (g : Γ.fn n_law_low = some d_lowest) : BodyOk Γ c_law_plus.N b_law_plus d_plus := by
  intro ds h r h' e
  obtain ⟨p, q, rfl, ⟨h1, h2⟩, rfl, rfl⟩ := bin_of e
  show wpB Γ b_law_plus (startD ["one", "other"] [fr p, fr q]) h' _
  unfold b_law_plus
  refine B_ret (d := fr (p + q)) (h1 := h') (E_call g (ds := [.int (p.num * q.den + q.num * p.den), .int (p.den * q.den)]) (h1 := h') ?_ ?_) .refl
  · unfold fr
    walk_at "mini ew"
    rw [mND h1 h2, mND h2 h1, mDD h1 h2]
    walk_at "mini ew"
  · rw [lowest_eq (dDD h1 h2), add_eq]
theorem B_law_minus {Γ : Gam} (g : Γ.fn n_law_plus = some d_plus) : BodyOk Γ c_law_minus.N b_law_minus d_minus := by
  intro ds h r h' e
  obtain ⟨p, q, rfl, ⟨h1, h2⟩, rfl, rfl⟩ := bin_of e
  show wpB Γ b_law_minus (startD ["one", "other"] [fr p, fr q]) h' _
  unfold b_law_minus
  refine B_ret (d := fr (p - q)) (h1 := h') (E_call g (ds := [fr p, fr (-q)]) (h1 := h') ?_ ?_) .refl
  · unfold fr
    walk_at "mini ew"
    rw [Rat.neg_num, Rat.neg_den]
  · rw [Rat.sub_eq_add_neg]
    exact bin_eq ⟨h1, bd_neg h2⟩ h'
theorem B_law_times {Γ : Gam} (g : Γ.fn n_law_low = some d_lowest) : BodyOk Γ c_law_times.N b_law_times d_times := by
  intro ds h r h' e
  obtain ⟨p, q, rfl, ⟨h1, h2⟩, rfl, rfl⟩ := bin_of e
  show wpB Γ b_law_times (startD ["one", "other"] [fr p, fr q]) h' _
  unfold b_law_times
  refine B_ret (d := fr (p * q)) (h1 := h') (E_call g (ds := [.int (p.num * q.num), .int (p.den * q.den)]) (h1 := h') ?_ ?_) .refl
  · unfold fr
    walk_at "mini ew"
    rw [mNN h1 h2, mDD h1 h2]
    walk_at "mini ew"
  · rw [lowest_eq (dDD h1 h2), mul_eq]
theorem B_law_below {Γ : Gam} : BodyOk Γ c_law_below.N b_law_below d_below := by
  intro ds h r h' e
  obtain ⟨p, q, rfl, ⟨h1, h2⟩, rfl, rfl⟩ := bin_of e
  show wpB Γ b_law_below (startD ["one", "other"] [fr p, fr q]) h' _
  unfold b_law_below
  refine B_ret (d := .bl (decide (p < q))) (h1 := h') ?_ .refl
  unfold fr
  walk_at "mini ew"
  rw [mND h1 h2, mND h2 h1]
  walk_at "mini ew"
  rw [decide_eq_decide.mpr (Rat.lt_iff p q).symm]
/-! a drawn number -/
def pick4 (i : Int) : Int := if i = 0 then 100 else if i = 1 then 1000 else if i = 2 then 8 else 20
theorem pick4_at {i : Int} (h0 : 0 ≤ i) (h1 : i < 4) : atI [D.int 100, .int 1000, .int 8, .int 20] i = some (.int (pick4 i)) := by
  have : i = 0 ∨ i = 1 ∨ i = 2 ∨ i = 3 := by omega
  rcases this with rfl | rfl | rfl | rfl <;> rfl
theorem pick4_rng (i : Int) : 0 < pick4 i ∧ pick4 i ≤ 1000 := by
  unfold pick4
  split
  · exact ⟨by decide, by decide⟩
  · split
    · exact ⟨by decide, by decide⟩
    · split
      · exact ⟨by decide, by decide⟩
      · exact ⟨by decide, by decide⟩
def numberF (s : Spg) : Rat × Spg :=
  let a := dropF s 6
  if a.1 = 0 then let b := dropF a.2 2001; (Rat.divInt (b.1 - 1000) 1, b.2)
  else if a.1 < 3 then let b := dropF a.2 2000001; let c := dropF b.2 4; (Rat.divInt (b.1 - 1000000) (pick4 c.1), c.2)
  else if a.1 < 5 then let b := dropF a.2 41; let c := dropF b.2 12; (Rat.divInt (b.1 - 20) (1 + c.1), c.2)
  else let b := dropF a.2 2000001; let c := dropF b.2 1000; (Rat.divInt (b.1 - 1000000) (1 + c.1), c.2)
theorem small_bd {t b : Int} (h0 : 0 < b) (hb : b ≤ 2000) (h1 : -1000001 ≤ t) (h2 : t ≤ 1000001) : bd 21 (Rat.divInt t b) ∧ okDen b = true := by
  have e : (2 : Nat) ^ 21 = 2097152 := by decide
  refine ⟨divInt_bd (by omega) (by rw [e]; omega) (by rw [e]; omega), okDen_bd (n := 21) (by omega) (by rw [e]; omega) (by decide) (by decide)⟩
theorem number_bd (s : Spg) : bd 21 (numberF s).1 := by
  unfold numberF
  dsimp only
  split
  · have a := dropF_lo (dropF s 6).2 (show (0 : Int) < 2001 by decide)
    have b := dropF_hi (dropF s 6).2 (show (0 : Int) < 2001 by decide)
    exact (small_bd (by decide) (by decide) (by omega) (by omega)).1
  · split
    · have a := dropF_lo (dropF s 6).2 (show (0 : Int) < 2000001 by decide)
      have b := dropF_hi (dropF s 6).2 (show (0 : Int) < 2000001 by decide)
      have c := pick4_rng (dropF (dropF (dropF s 6).2 2000001).2 4).1
      exact (small_bd c.1 (by omega) (by omega) (by omega)).1
    · split
      · have a := dropF_lo (dropF s 6).2 (show (0 : Int) < 41 by decide)
        have b := dropF_hi (dropF s 6).2 (show (0 : Int) < 41 by decide)
        have c := dropF_lo (dropF (dropF s 6).2 41).2 (show (0 : Int) < 12 by decide)
        have d := dropF_hi (dropF (dropF s 6).2 41).2 (show (0 : Int) < 12 by decide)
        exact (small_bd (by omega) (by omega) (by omega) (by omega)).1
      · have a := dropF_lo (dropF s 6).2 (show (0 : Int) < 2000001 by decide)
        have b := dropF_hi (dropF s 6).2 (show (0 : Int) < 2000001 by decide)
        have c := dropF_lo (dropF (dropF s 6).2 2000001).2 (show (0 : Int) < 1000 by decide)
        have d := dropF_hi (dropF (dropF s 6).2 2000001).2 (show (0 : Int) < 1000 by decide)
        exact (small_bd (by omega) (by omega) (by omega) (by omega)).1
def d_law_number : List D → Hm → Res D
  | [.ref n], h => match sprOf h n with
    | some (g, s) => .ok (fr (numberF s).1) (putS h n g (numberF s).2)
    | none => .stuck
  | _, _ => .stuck
theorem number_eq {h : Hm} {n g : Nat} {s : Spg} (e : sprOf h n = some (g, s)) : d_law_number [.ref n] h = .ok (fr (numberF s).1) (putS h n g (numberF s).2) := by
  show (match sprOf h n with
    | some (g, s) => Res.ok (fr (numberF s).1) (putS h n g (numberF s).2)
    | none => .stuck) = _
  rw [e]
/-- a drop in a call's place -/
theorem E_drop {Γ : Gam} {σ : Sg} {h h1 h2 : Hm} {x y : Ex} {n g : Nat} {s : Spg} {many : Int} (gd : Γ.fn n_law_drop = some d_law_drop) (hx : evE Γ x σ h = .ok (.ref n) h1) (hy : evE Γ y σ h1 = .ok (.int many) h2) (e : sprOf h2 n = some (g, s)) (h0 : 0 < many) (hl : many.natAbs.log2 < 9000) :
    evE Γ (.call n_law_drop (.cons x (.cons y .nil))) σ h = .ok (.int (dropF s many).1) (putS h2 n g (dropF s many).2) :=
  E_call gd (Es_cons hx (Es_cons hy Es_nil)) (drop_eq e h0 hl)
theorem E_dropK {Γ : Gam} {σ : Sg} {h : Hm} {n g : Nat} {s s' : Spg} {many : Int} (gd : Γ.fn n_law_drop = some d_law_drop) (h0 : σ[0]? = some (some (.ref n))) (e : sprOf h n = some (g, s)) (hm : 0 < many) (hl : many.natAbs.log2 < 9000) :
    evE Γ (.call n_law_drop (.cons (.v 0) (.cons (.int many) .nil))) σ (putS h n g s') = .ok (.int (dropF s' many).1) (putS h n g (dropF s' many).2) := by
  have z := E_drop (Γ := Γ) (σ := σ) (h := putS h n g s') (x := .v 0) (y := .int many) (s := s') (g := g) gd (by show (match σ[0]? with | some (some d) => Res.ok d (putS h n g s') | _ => .stuck) = _; rw [h0]) rfl (sprOf_put e) hm hl
  rw [putS_putS (sprOf_eq e).2.2] at z
  exact z
theorem B_law_number {Γ : Gam} (gd : Γ.fn n_law_drop = some d_law_drop) (gl : Γ.fn n_law_low = some d_lowest) : BodyOk Γ c_law_number.N b_law_number d_law_number := by
  intro ds h r h' e
  match ds, e with
  | [.ref n], e =>
    have e : (match sprOf h n with
      | some (g, s) => Res.ok (fr (numberF s).1) (putS h n g (numberF s).2)
      | none => .stuck) = .ok r h' := e
    cases k : sprOf h n with
    | none => rw [k] at e; cases e
    | some gs =>
      obtain ⟨g, s⟩ := gs
      rw [k] at e
      obtain ⟨rfl, rfl⟩ := ok_inj e
      show wpB Γ b_law_number (startD ["spring", "way"] [.ref n]) h _
      unfold b_law_number
      have D : ∀ (σ : Sg) (s' : Spg) (many : Int), σ[0]? = some (some (.ref n)) → 0 < many → many.natAbs.log2 < 9000 → evE Γ (.call n_law_drop (.cons (.v 0) (.cons (.int many) .nil))) σ (putS h n g s') = .ok (.int (dropF s' many).1) (putS h n g (dropF s' many).2) := fun σ s' many h0 hm hl => E_dropK gd h0 k hm hl
      rw [show wpB Γ _ (startD ["spring", "way"] [.ref n]) h _ = wpB Γ _ (startD ["spring", "way"] [.ref n]) (putS h n g s) _ from by rw [putS_self k]]
      refine B_set (D _ s 6 rfl (by decide) (by decide)) ?_
      generalize ha : dropF s 6 = a
      by_cases c0 : a.1 = 0
      · have ev : numberF s = (Rat.divInt ((dropF a.2 2001).1 - 1000) 1, (dropF a.2 2001).2) := by
          unfold numberF
          dsimp only
          rw [ha, if_pos c0]
        rw [ev]
        refine B_ifT (h1 := putS h n g a.2) (by walk_at "mini ew"; rw [decide_eq_true c0]) ?_
        refine B_ret (E_tup (Es_cons (E_op2 (D _ a.2 2001 rfl (by decide) (by decide)) rfl rfl) (Es_cons rfl Es_nil)) (show 2 ≤ 1000 by decide)) ?_
        have : fr (Rat.divInt ((dropF a.2 2001).1 - 1000) 1) = .tup [.int ((dropF a.2 2001).1 - 1000), .int 1] := by
          unfold fr
          rw [Rat.num_divInt, Rat.den_divInt]
          simp
        rw [this]
        exact .refl
      · refine B_ifN (h1 := putS h n g a.2) (by walk_at "mini ew"; rw [decide_eq_false c0]) ?_
        by_cases c1 : a.1 < 3
        · have ev : numberF s = (Rat.divInt ((dropF a.2 2000001).1 - 1000000) (pick4 (dropF (dropF a.2 2000001).2 4).1), (dropF (dropF a.2 2000001).2 4).2) := by
            unfold numberF
            dsimp only
            rw [ha, if_neg c0, if_pos c1]
          rw [ev]
          refine B_ifT (h1 := putS h n g a.2) (by walk_at "mini ew"; rw [decide_eq_true c1]) ?_
          have p := pick4_rng (dropF (dropF a.2 2000001).2 4).1
          have x1 := dropF_lo a.2 (show (0 : Int) < 2000001 by decide)
          have x2 := dropF_hi a.2 (show (0 : Int) < 2000001 by decide)
          refine B_ret (E_call gl (Es_cons (E_op2 (D _ a.2 2000001 rfl (by decide) (by decide)) rfl rfl) (Es_cons (E_ix (E_lst (Es_cons rfl (Es_cons rfl (Es_cons rfl (Es_cons rfl Es_nil)))) (show 4 ≤ 1000 by decide)) (D _ _ 4 rfl (by decide) (by decide)) ?_) Es_nil)) (lowest_eq (t := (dropF a.2 2000001).1 - 1000000) (b := pick4 (dropF (dropF a.2 2000001).2 4).1) (small_bd (t := 0) p.1 (by omega) (by decide) (by decide)).2 _)) .refl
          rw [ix_lst, pick4_at (dropF_lo _ (by decide)) (dropF_hi _ (by decide))]
        · refine B_ifN (h1 := putS h n g a.2) (by walk_at "mini ew"; rw [decide_eq_false c1]) ?_
          by_cases c2 : a.1 < 5
          · have ev : numberF s = (Rat.divInt ((dropF a.2 41).1 - 20) (1 + (dropF (dropF a.2 41).2 12).1), (dropF (dropF a.2 41).2 12).2) := by
              unfold numberF
              dsimp only
              rw [ha, if_neg c0, if_neg c1, if_pos c2]
            rw [ev]
            refine B_ifT (h1 := putS h n g a.2) (by walk_at "mini ew"; rw [decide_eq_true c2]) ?_
            have x1 := dropF_lo a.2 (show (0 : Int) < 41 by decide)
            have x2 := dropF_hi a.2 (show (0 : Int) < 41 by decide)
            have y1 := dropF_lo (dropF a.2 41).2 (show (0 : Int) < 12 by decide)
            have y2 := dropF_hi (dropF a.2 41).2 (show (0 : Int) < 12 by decide)
            exact B_ret (E_call gl (Es_cons (E_op2 (D _ a.2 41 rfl (by decide) (by decide)) rfl rfl) (Es_cons (E_op2 rfl (D _ _ 12 rfl (by decide) (by decide)) rfl) Es_nil)) (lowest_eq (t := (dropF a.2 41).1 - 20) (b := 1 + (dropF (dropF a.2 41).2 12).1) (small_bd (t := 0) (by omega) (by omega) (by decide) (by decide)).2 _)) .refl
          · have ev : numberF s = (Rat.divInt ((dropF a.2 2000001).1 - 1000000) (1 + (dropF (dropF a.2 2000001).2 1000).1), (dropF (dropF a.2 2000001).2 1000).2) := by
              unfold numberF
              dsimp only
              rw [ha, if_neg c0, if_neg c1, if_neg c2]
            rw [ev]
            refine B_ifN (h1 := putS h n g a.2) (by walk_at "mini ew"; rw [decide_eq_false c2]) ?_
            have x1 := dropF_lo a.2 (show (0 : Int) < 2000001 by decide)
            have x2 := dropF_hi a.2 (show (0 : Int) < 2000001 by decide)
            have y1 := dropF_lo (dropF a.2 2000001).2 (show (0 : Int) < 1000 by decide)
            have y2 := dropF_hi (dropF a.2 2000001).2 (show (0 : Int) < 1000 by decide)
            exact B_ret (E_call gl (Es_cons (E_op2 (D _ a.2 2000001 rfl (by decide) (by decide)) rfl rfl) (Es_cons (E_op2 rfl (D _ _ 1000 rfl (by decide) (by decide)) rfl) Es_nil)) (lowest_eq (t := (dropF a.2 2000001).1 - 1000000) (b := 1 + (dropF (dropF a.2 2000001).2 1000).1) (small_bd (t := 0) (by omega) (by omega) (by decide) (by decide)).2 _)) .refl

/-! what is a fraction, by the law -/
theorem eq_tup2 (a b c d : Int) (h : Hm) : eqD (.tup [.int a, .int b]) (.tup [.int c, .int d]) h = .ok (decide (a = c) && decide (b = d)) h := by
  simp [eqD, toPyH, toPy, toPys, SeqAt.shaped, PyData.canLay0, PyData.canLayAll0, PyData.depth, PyData.depthAll, PyData.eqv, PyData.eqvAll]
  have e1 : (a == c) = decide (a = c) := by rw [Bool.beq_eq_decide_eq]
  have e2 : (b == d) = decide (b = d) := by rw [Bool.beq_eq_decide_eq]
  rw [e1, e2]
theorem eq_fr (p q : Rat) (h : Hm) : eqD (fr p) (fr q) h = .ok (decide (p = q)) h := by
  unfold fr
  rw [eq_tup2]
  congr 1
  by_cases c : p = q
  · subst c
    simp
  · rw [decide_eq_false c]
    by_cases c1 : p.num = q.num
    · have : ¬ ((p.den : Int) = q.den) := fun z => c (Rat.ext c1 (by omega))
      rw [decide_eq_false this, Bool.and_false]
    · rw [decide_eq_false c1, Bool.false_and]
theorem low_self {i j : Int} (hj : 0 < j) : (decide ((Rat.divInt i j).num = i) && decide (((Rat.divInt i j).den : Int) = j)) = decide (Int.gcd i j = 1) := by
  have l := low_pos (t := i) hj
  have gp := gcd_pos' (b := j) (t := i) (by omega)
  by_cases c : Int.gcd i j = 1
  · rw [decide_eq_true c]
    have c2 : Int.gcd j i = 1 := by rw [Int.gcd_comm]; exact c
    rw [c2] at l
    have e1 : (Rat.divInt i j).num = i := by rw [← l.1]; simp
    have e2 : ((Rat.divInt i j).den : Int) = j := by rw [← l.2]; simp
    rw [decide_eq_true e1, decide_eq_true e2]
    rfl
  · rw [decide_eq_false c]
    have : ¬ (((Rat.divInt i j).den : Int) = j) := fun z => by
      rw [← l.2, Int.fdiv_eq_ediv_of_nonneg _ (by omega)] at z
      have c2 : Int.gcd j i ≠ 1 := by rw [Int.gcd_comm]; exact c
      have : j / (Int.gcd j i : Int) < j := by
        refine Int.ediv_lt_of_lt_mul (by omega) ?_
        have h2 : j * 2 ≤ j * (Int.gcd j i : Int) := Int.mul_le_mul_of_nonneg_left (by omega) (by omega)
        omega
      omega
    rw [decide_eq_false this, Bool.and_false]
def okIs : D → Bool
  | .tup [.int a, .int b] => decide (b ≤ 0) || okDen b
  | .tup xs => xs.all plD && decide (xs.length ≤ 1000)
  | d => plD d
def d_law_is : List D → Hm → Res D
  | [d], h => .guard (okIs d) (.ok (.bl (isFr d)) h)
  | _, _ => .stuck
theorem law_is_eq {d : D} (hd : okIs d = true) (h : Hm) : d_law_is [d] h = .ok (.bl (isFr d)) h := by
  show Res.guard (okIs d) _ = _
  rw [hd]
  rfl
theorem bools_map (f : D → Bool) : ∀ xs : List D, boolsOf (xs.filterMap fun x => some (.bl (f x))) = some (xs.map f)
  | [] => rfl
  | x :: xs => by
    rw [show (x :: xs).filterMap (fun x => some (D.bl (f x))) = D.bl (f x) :: xs.filterMap (fun x => some (D.bl (f x))) from rfl]
    show (boolsOf (xs.filterMap fun x => some (.bl (f x)))).map (f x :: ·) = _
    rw [bools_map f xs]
    rfl
theorem okIs_all {xs : List D} (h : okIs (.tup xs) = true) : (∀ x ∈ xs, plD x = true) ∧ xs.length ≤ 1000 := by
  unfold okIs at h
  split at h
  · rename_i e
    cases e
    refine ⟨fun x hx => ?_, show 2 ≤ 1000 by decide⟩
    simp only [List.mem_cons, List.not_mem_nil, or_false] at hx
    rcases hx with rfl | rfl <;> rfl
  · rename_i e
    cases e
    rw [Bool.and_eq_true, List.all_eq_true, decide_eq_true_eq] at h
    exact h
  · rename_i e1 e2 e3
    exact absurd rfl (e3 _)
theorem B_law_is {Γ : Gam} (gl : Γ.fn n_law_low = some d_lowest) : BodyOk Γ c_law_is.N b_law_is d_law_is := by
  intro ds h r h' e
  match ds, e with
  | [d], e =>
    obtain ⟨ho, e⟩ := guard_ok e
    obtain ⟨rfl, rfl⟩ := ok_inj e
    show wpB Γ b_law_is (startD ["value", "one"] [d]) h _
    unfold b_law_is
    cases d with
    | tup xs =>
      obtain ⟨hpl, hlen⟩ := okIs_all ho
      by_cases hl : xs.length = 2
      · refine B_ifN (h1 := h) (by walk_at "mini ew"; rw [show decide (((xs.length : Nat) : Int) = 2) = true from decide_eq_true (by omega)]; walk_at "mini ew") ?_
        have hc := ev_comp (Γ := Γ) (own := [("one", 1)]) (tg := .v 1) (it := .ex (.v 0)) (cond := .nil) (elt := .band (.isi (.v 1) .int) (.bnot (.isi (.v 1) .bool))) (σ := [some (.tup xs), none]) (h := h) (h1 := h) (src := xs) (fun x => some (.bl (isIntD x))) (by walk_at "mini ew") (fun x hx t => ⟨_, rfl, by walk_at "mini ew", by
          have := hpl x hx
          cases x <;> first | exact Bool.noConfusion this | (walk_at "mini ew"; rfl)⟩) (Nat.le_trans hlen (by decide)) (fun _ _ y e => by cases e; rfl)
        have ha : evT Γ (.bnot (.bi .all (.cons (.comp false [("one", 1)] (.v 1) (.ex (.v 0)) .nil (.band (.isi (.v 1) .int) (.bnot (.isi (.v 1) .bool)))) .nil))) [some (.tup xs), none] h = .ok (!(xs.map isIntD).all id) h := T_not (T_of_E (E_bi1 hc (by rw [bi_allL, bools_map])))
        match xs, hl with
        | [a, b], _ =>
          cases ka : isIntD a with
          | false =>
            refine B_ifT (h1 := h) (by rw [show startD ["value", "one"] [.tup [a, b]] = [some (.tup [a, b]), none] from rfl, ha]; simp [ka]) ?_
            refine B_ret (d := .bl false) (h1 := h) rfl ?_
            rw [isFr_int (.inl ka)]
            exact .refl
          | true =>
            cases kb : isIntD b with
            | false =>
              refine B_ifT (h1 := h) (by rw [show startD ["value", "one"] [.tup [a, b]] = [some (.tup [a, b]), none] from rfl, ha]; simp [ka, kb]) ?_
              refine B_ret (d := .bl false) (h1 := h) rfl ?_
              rw [isFr_int (.inr kb)]
              exact .refl
            | true =>
              obtain ⟨i, rfl⟩ := is_int ka
              obtain ⟨j, rfl⟩ := is_int kb
              refine B_ifN (h1 := h) (by rw [show startD ["value", "one"] [.tup [.int i, .int j]] = [some (.tup [.int i, .int j]), none] from rfl, ha]; rfl) ?_
              refine B_ret (d := .bl (isFr (.tup [.int i, .int j]))) (h1 := h) ?_ .refl
              show _ = Res.ok (D.bl (decide (0 < j) && decide (Int.gcd i j = 1))) h
              have ho : (decide (j ≤ 0) || okDen j) = true := ho
              by_cases c : 0 < j
              · rw [decide_eq_false (show ¬ j ≤ 0 by omega), Bool.false_or] at ho
                refine E_bandT (h1 := h) (by walk_at "mini ew"; rw [decide_eq_true c]) ?_
                refine E_cmp (d := fr (Rat.divInt i j)) (d2 := .tup [.int i, .int j]) (h1 := h) (h2 := h) (E_call gl (ds := [.int i, .int j]) (h1 := h) (by walk_at "mini ew") (lowest_eq ho h)) (by walk_at "mini ew") ?_
                rw [cm_eq]
                unfold fr
                rw [eq_tup2, low_self c, decide_eq_true c, Bool.true_and]
              · rw [decide_eq_false c, Bool.false_and]
                exact E_bandF (by walk_at "mini ew"; rw [decide_eq_false c])
      · refine B_ifT (h1 := h) (by walk_at "mini ew"; rw [show decide (((xs.length : Nat) : Int) = 2) = false from decide_eq_false (by omega)]; walk_at "mini ew") ?_
        refine B_ret (d := .bl false) (h1 := h) rfl ?_
        rw [isFr_len hl]
        exact .refl
    | _ => first | exact Bool.noConfusion ho | (refine B_ifT (h1 := h) (by walk_at "mini ew") ?_; exact B_ret (d := .bl false) (h1 := h) rfl .refl)
noncomputable def d_law_means : List D → Hm → Res D
  | [x, .int t, .int b], h => match frOf x with
    | some q => .guard (cd (bd 4400 q ∧ t.natAbs < 2 ^ 4400 ∧ b.natAbs < 2 ^ 4400)) (.ok (.bl (decide (q.num * b = t * q.den))) h)
    | none => .stuck
  | _, _ => .stuck
theorem means_eq {q : Rat} {t b : Int} (h1 : bd 4400 q) (h2 : t.natAbs < 2 ^ 4400) (h3 : b.natAbs < 2 ^ 4400) (h : Hm) : d_law_means [fr q, .int t, .int b] h = .ok (.bl (decide (q.num * b = t * q.den))) h := by
  show (match frOf (fr q) with
    | some q => Res.guard (cd (bd 4400 q ∧ t.natAbs < 2 ^ 4400 ∧ b.natAbs < 2 ^ 4400)) (Res.ok (D.bl (decide (q.num * b = t * q.den))) h)
    | none => .stuck) = _
  rw [frOf_fr]
  exact cd_guard ⟨h1, h2, h3⟩
theorem okIs_fr {q : Rat} (h : bd 4400 q) : okIs (fr q) = true := by
  show (decide ((q.den : Int) ≤ 0) || okDen (q.den : Int)) = true
  rw [okDen_bd (b := (q.den : Int)) (n := 4400) (den_ne q) (by rw [Int.natAbs_natCast]; exact h.2) (by decide) (by decide), Bool.or_true]
theorem B_law_means {Γ : Gam} (g : Γ.fn n_law_is = some d_law_is) : BodyOk Γ c_law_means.N b_law_means d_law_means := by
  intro ds h r h' e
  match ds, e with
  | [x, .int t, .int b], e =>
    have e : (match frOf x with
      | some q => Res.guard (cd (bd 4400 q ∧ t.natAbs < 2 ^ 4400 ∧ b.natAbs < 2 ^ 4400)) (Res.ok (D.bl (decide (q.num * b = t * q.den))) h)
      | none => .stuck) = .ok r h' := e
    cases k : frOf x with
    | none => rw [k] at e; cases e
    | some q =>
      rw [k] at e
      obtain ⟨ho, e⟩ := guard_ok e
      obtain ⟨rfl, rfl⟩ := ok_inj e
      obtain ⟨h1, h2, h3⟩ := of_cd ho
      rw [frOf_eq k]
      show wpB Γ b_law_means (startD ["found", "top", "bottom"] [fr q, .int t, .int b]) h _
      unfold b_law_means
      refine B_ret (d := .bl (decide (q.num * b = t * q.den))) (h1 := h) (E_bandT (h1 := h) (E_call g (ds := [fr q]) (h1 := h) (by walk_at "mini ew") (by rw [law_is_eq (okIs_fr h1), isFr_fr])) ?_) .refl
      unfold fr
      walk_at "mini ew"
      rw [mulOk_bd h1.1 h3 (by decide) (by decide) (by decide), mulOk_bd (j := (q.den : Int)) h2 (by rw [Int.natAbs_natCast]; exact h1.2) (by decide) (by decide) (by decide)]
      walk_at "mini ew"
/-! any number -/
theorem pow40 : powOk 10 40 = true := by decide
theorem pow39 : powOk 10 39 = true := by decide
theorem pow9 : powOk 10 9 = true := by decide
def wide2 (i : Int) : Int := if i = 0 then 10 ^ 40 else 10 ^ 9
def anyF (s : Spg) : Rat × Spg :=
  let a := dropF s 4
  if 0 < a.1 then numberF a.2
  else let b := dropF a.2 (10 ^ 40); let c := dropF b.2 2; let d := dropF c.2 (wide2 c.1); (Rat.divInt (b.1 - 10 ^ 39) (1 + d.1), d.2)
theorem wide2_rng (i : Int) : 0 < wide2 i ∧ wide2 i ≤ 10 ^ 40 := by
  unfold wide2
  split
  · exact ⟨by decide, by decide⟩
  · exact ⟨by decide, by decide⟩
theorem wide_bd {t b : Int} (h0 : 0 < b) (hb : b ≤ 10 ^ 40) (h1 : -(10 ^ 39) ≤ t) (h2 : t < 10 ^ 40) : bd 133 (Rat.divInt t b) ∧ okDen b = true := by
  have e : (10 : Int) ^ 40 < ((2 ^ 133 : Nat) : Int) := by decide +kernel
  have e2 : (10 : Int) ^ 39 < 10 ^ 40 := by decide +kernel
  refine ⟨divInt_bd (by omega) ?_ ?_, okDen_bd (n := 133) (by omega) ?_ (by decide) (by decide)⟩
  all_goals
    generalize (2 ^ 133 : Nat) = z at e
    generalize (10 : Int) ^ 40 = u at *
    generalize (10 : Int) ^ 39 = v at *
    omega
theorem any_bd (s : Spg) : bd 133 (anyF s).1 := by
  unfold anyF
  dsimp only
  split
  · exact (number_bd _).mono (by decide)
  · have a := dropF_lo (dropF s 4).2 (show (0 : Int) < 10 ^ 40 by decide)
    have b := dropF_hi (dropF s 4).2 (show (0 : Int) < 10 ^ 40 by decide)
    have w := wide2_rng (dropF (dropF (dropF s 4).2 (10 ^ 40)).2 2).1
    have c := dropF_lo (dropF (dropF (dropF s 4).2 (10 ^ 40)).2 2).2 w.1
    have d := dropF_hi (dropF (dropF (dropF s 4).2 (10 ^ 40)).2 2).2 w.1
    have e2 : (0 : Int) < 10 ^ 39 := by decide +kernel
    refine (wide_bd (by omega) ?_ ?_ ?_).1
    all_goals
      generalize (10 : Int) ^ 40 = u at *
      generalize (10 : Int) ^ 39 = v at *
      omega
def d_law_any : List D → Hm → Res D
  | [.ref n], h => match sprOf h n with
    | some (g, s) => .ok (fr (anyF s).1) (putS h n g (anyF s).2)
    | none => .stuck
  | _, _ => .stuck
theorem any_eq {h : Hm} {n g : Nat} {s : Spg} (e : sprOf h n = some (g, s)) : d_law_any [.ref n] h = .ok (fr (anyF s).1) (putS h n g (anyF s).2) := by
  show (match sprOf h n with
    | some (g, s) => Res.ok (fr (anyF s).1) (putS h n g (anyF s).2)
    | none => .stuck) = _
  rw [e]
theorem log40 : ((10 : Int) ^ 40).natAbs.log2 < 9000 := by decide +kernel
theorem E_pow {Γ : Gam} {σ : Sg} {h : Hm} {i j : Int} (hp : powOk i j = true) : evE Γ (.op2 .pow (.int i) (.int j)) σ h = .ok (.int (i ^ j.toNat)) h := by
  show opD .pow (.int i) (.int j) h = _
  rw [op_powI, hp]
  rfl
theorem B_law_any {Γ : Gam} (gd : Γ.fn n_law_drop = some d_law_drop) (gl : Γ.fn n_law_low = some d_lowest) (gn : Γ.fn n_law_number = some d_law_number) : BodyOk Γ c_law_any.N b_law_any d_law_any := by
  intro ds h r h' e
  match ds, e with
  | [.ref n], e =>
    have e : (match sprOf h n with
      | some (g, s) => Res.ok (fr (anyF s).1) (putS h n g (anyF s).2)
      | none => .stuck) = .ok r h' := e
    cases k : sprOf h n with
    | none => rw [k] at e; cases e
    | some gs =>
      obtain ⟨g, s⟩ := gs
      rw [k] at e
      obtain ⟨rfl, rfl⟩ := ok_inj e
      show wpB Γ b_law_any (startD ["spring"] [.ref n]) h _
      unfold b_law_any
      rw [show startD ["spring"] [.ref n] = [some (.ref n)] from rfl]
      have hne := (sprOf_eq k).2.2
      have D : ∀ (s' : Spg) (many : Int), 0 < many → many.natAbs.log2 < 9000 → ∀ (y : Ex) (s2 : Spg), evE Γ y [some (.ref n)] (putS h n g s2) = .ok (.int many) (putS h n g s') → evE Γ (.call n_law_drop (.cons (.v 0) (.cons y .nil))) [some (.ref n)] (putS h n g s2) = .ok (.int (dropF s' many).1) (putS h n g (dropF s' many).2) := fun s' many hm hl y s2 hy => by
        have z := E_drop gd (x := .v 0) (h := putS h n g s2) (h1 := putS h n g s2) (by walk_at "mini ew") hy (sprOf_put k) hm hl
        rwa [putS_putS hne] at z
      rw [show wpB Γ _ [some (.ref n)] h _ = wpB Γ _ [some (.ref n)] (putS h n g s) _ from by rw [putS_self k]]
      by_cases c : 0 < (dropF s 4).1
      · have ev : anyF s = numberF (dropF s 4).2 := by unfold anyF; dsimp only; rw [if_pos c]
        rw [ev]
        refine B_ifT (h1 := putS h n g (dropF s 4).2) (T_cmp (D s 4 (by decide) (by decide) (.int 4) s rfl) rfl (by rw [cm_gt, decide_eq_true c])) ?_
        refine B_ret (E_call gn (Es_cons (by walk_at "mini ew"; rfl) Es_nil) (by rw [number_eq (sprOf_put k), putS_putS hne])) .refl
      · have ev : anyF s = (Rat.divInt ((dropF (dropF s 4).2 (10 ^ 40)).1 - 10 ^ 39) (1 + (dropF (dropF (dropF (dropF s 4).2 (10 ^ 40)).2 2).2 (wide2 (dropF (dropF (dropF s 4).2 (10 ^ 40)).2 2).1)).1), (dropF (dropF (dropF (dropF s 4).2 (10 ^ 40)).2 2).2 (wide2 (dropF (dropF (dropF s 4).2 (10 ^ 40)).2 2).1)).2) := by unfold anyF; dsimp only; rw [if_neg c]
        rw [ev]
        refine B_ifN (h1 := putS h n g (dropF s 4).2) (T_cmp (D s 4 (by decide) (by decide) (.int 4) s rfl) rfl (by rw [cm_gt, decide_eq_false c])) ?_
        have w := wide2_rng (dropF (dropF (dropF s 4).2 (10 ^ 40)).2 2).1
        have w2 : (wide2 (dropF (dropF (dropF s 4).2 (10 ^ 40)).2 2).1).natAbs.log2 < 9000 := Nat.lt_of_le_of_lt (log2_mono' (by omega)) log40
        have c1 := dropF_lo (dropF (dropF (dropF s 4).2 (10 ^ 40)).2 2).2 w.1
        have c2 := dropF_hi (dropF (dropF (dropF s 4).2 (10 ^ 40)).2 2).2 w.1
        have i1 := dropF_lo (dropF (dropF s 4).2 (10 ^ 40)).2 (show (0 : Int) < 2 by decide)
        have i2 := dropF_hi (dropF (dropF s 4).2 (10 ^ 40)).2 (show (0 : Int) < 2 by decide)
        have od : okDen (1 + (dropF (dropF (dropF (dropF s 4).2 (10 ^ 40)).2 2).2 (wide2 (dropF (dropF (dropF s 4).2 (10 ^ 40)).2 2).1)).1) = true := (wide_bd (t := 0) (by omega) (by omega) (by decide) (by decide)).2
        refine B_ret (E_call gl (Es_cons (E_op2 (D (dropF s 4).2 (10 ^ 40) (by decide) log40 _ _ (E_pow pow40)) (E_pow pow39) rfl) (Es_cons (E_op2 rfl (D (dropF (dropF (dropF s 4).2 (10 ^ 40)).2 2).2 (wide2 (dropF (dropF (dropF s 4).2 (10 ^ 40)).2 2).1) w.1 w2 _ _ (E_ix (E_lst (Es_cons (E_pow pow40) (Es_cons (E_pow pow9) Es_nil)) (show 2 ≤ 1000 by decide)) (D (dropF (dropF s 4).2 (10 ^ 40)).2 2 (by decide) (by decide) (.int 2) _ rfl) ?_)) rfl) Es_nil)) (lowest_eq od _)) .refl
        rw [ix_lst]
        have : (dropF (dropF (dropF s 4).2 (10 ^ 40)).2 2).1 = 0 ∨ (dropF (dropF (dropF s 4).2 (10 ^ 40)).2 2).1 = 1 := by omega
        rcases this with e | e <;> rw [e] <;> rfl

/-! pairs -/
theorem E_append {Γ : Gam} {σ : Sg} {h h1 h2 : Hm} {r x : Ex} {n : Nat} {xs ys : List D} {d : D} (hr : evE Γ r σ h = .ok (.ref n) h1) (hl : listOf? h1 n = some xs) (hx : evE Γ x σ h1 = .ok d h2) (hl2 : listOf? h2 n = some ys) (hz : ys.length ≤ 1000) :
    evE Γ (.meth .append r (.cons x .nil)) σ h = .ok .non (h2.set n (.lst (ys ++ [d]))) := by
  show (evE Γ r σ h).bind (fun x1 h1 => Res.guard (rcvD .append x1 h1) ((evEs Γ (.cons x .nil) σ h1).bind fun ds h2 => mtD .append x1 ds h2)) = _
  rw [hr, Res.bind_ok, guard_eq (rcv_app hl), Es_cons hx Es_nil, Res.bind_ok, app1 hl2 (Nat.lt_of_le_of_lt hz (by decide))]
theorem set_last {h : Hm} {o o' : MO} : (h ++ [o]).set h.length o' = h ++ [o'] := by
  rw [List.set_append_right _ _ (Nat.le_refl _)]
  simp
def itemD (x : Rat) (t s : Int) : D := .lst [fr x, .int t, .int s]
def okItem (d : D) : Prop := ∃ r t s, d = itemD r t s ∧ bd 4400 r ∧ t.natAbs < 2 ^ 4400 ∧ s.natAbs < 2 ^ 4400 ∧ r.num * s = t * r.den
theorem cross {r : Rat} {t s : Int} (hs : s ≠ 0) (e : Rat.divInt t s = r) : r.num * s = t * r.den := by
  rw [← rat_self r] at e
  have := (Rat.divInt_eq_divInt_iff hs (den_ne r)).mp e
  rw [this]
theorem n300 {n : Nat} {i : Int} (h : i.natAbs < 2 ^ n) (l : n ≤ 4400) : i.natAbs < 2 ^ 4400 := Nat.lt_of_lt_of_le h (Nat.pow_le_pow_right (by decide) l)
theorem prod_lt {i j : Int} {n m : Nat} (h1 : i.natAbs < 2 ^ n) (h2 : j.natAbs < 2 ^ m) : (i * j).natAbs < 2 ^ (n + m) := by
  rw [Int.natAbs_mul]
  exact lt_pow_mul h1 h2
theorem sum_lt {i j : Int} {n : Nat} (h1 : i.natAbs < 2 ^ n) (h2 : j.natAbs < 2 ^ n) : (i + j).natAbs < 2 ^ (n + 1) := by
  rw [Nat.pow_succ]
  generalize 2 ^ n = z at *
  omega
theorem dif_lt {i j : Int} {n : Nat} (h1 : i.natAbs < 2 ^ n) (h2 : j.natAbs < 2 ^ n) : (i - j).natAbs < 2 ^ (n + 1) := by
  rw [Nat.pow_succ]
  generalize 2 ^ n = z at *
  omega
theorem denN {n : Nat} {q : Rat} (h : bd n q) : ((q.den : Int)).natAbs < 2 ^ n := by
  rw [Int.natAbs_natCast]
  exact h.2
noncomputable def d_law_pair_right := d_bin (fun p q => bd 140 p ∧ bd 140 q) fun _ _ => .bl true
section
variable {p q : Rat} (h1 : bd 140 p) (h2 : bd 140 q)
include h1 h2
theorem it_add : okItem (itemD (p + q) (p.num * q.den + q.num * p.den) (p.den * q.den)) :=
  ⟨_, _, _, rfl, (bd_add h1 h2).mono (by decide), n300 (n := 140 + 140 + 1) (sum_lt (prod_lt h1.1 (denN h2)) (prod_lt h2.1 (denN h1))) (by decide), n300 (n := 140 + 140) (prod_lt (denN h1) (denN h2)) (by decide), cross (Int.mul_ne_zero (den_ne p) (den_ne q)) (add_eq p q)⟩
theorem it_sub : okItem (itemD (p - q) (p.num * q.den - q.num * p.den) (p.den * q.den)) :=
  ⟨_, _, _, rfl, (bd_sub h1 h2).mono (by decide), n300 (n := 140 + 140 + 1) (dif_lt (prod_lt h1.1 (denN h2)) (prod_lt h2.1 (denN h1))) (by decide), n300 (n := 140 + 140) (prod_lt (denN h1) (denN h2)) (by decide), cross (Int.mul_ne_zero (den_ne p) (den_ne q)) (sub_eq p q)⟩
theorem it_mul : okItem (itemD (p * q) (p.num * q.num) (p.den * q.den)) :=
  ⟨_, _, _, rfl, (bd_mul h1 h2).mono (by decide), n300 (n := 140 + 140) (prod_lt h1.1 h2.1) (by decide), n300 (n := 140 + 140) (prod_lt (denN h1) (denN h2)) (by decide), cross (Int.mul_ne_zero (den_ne p) (den_ne q)) (mul_eq p q)⟩
theorem it_div (hq : q ≠ 0) : okItem (itemD (p / q) (p.num * q.den) (p.den * q.num)) :=
  ⟨_, _, _, rfl, (bd_div h1 h2 hq).mono (by decide), n300 (n := 140 + 140) (prod_lt h1.1 (denN h2)) (by decide), n300 (n := 140 + 140) (prod_lt (denN h1) h2.1) (by decide), cross (Int.mul_ne_zero (den_ne p) (num_ne hq)) (div_eq hq)⟩
end
def pairRest : Blk := (.cons (.ife (.bnot (.bi .all (.cons (.comp false [("found", 7), ("top", 8), ("bottom", 9)] (.tup [7, 8, 9]) (.ex (.v 6)) .nil (.call n_law_means (.cons (.v 7) (.cons (.v 8) (.cons (.v 9) .nil))))) .nil))) (.cons (.ret (.bl false)) .nil) .nil) (.cons (.set 10 (.cmp .lt (.op2 .mul (.v 2) (.v 5)) (.op2 .mul (.v 4) (.v 3)))) (.cons (.ret (.call n_law_alike (.cons (.lst (.cons (.call n_below (.cons (.v 0) (.cons (.v 1) .nil))) (.cons (.callk n_below .nil (.cons (.v 1) (.cons (.v 0) .nil)) [1, 0]) (.cons (.call n_below (.cons (.v 0) (.cons (.v 0) .nil))) .nil)))) (.cons (.lst (.cons (.v 10) (.cons (.v 10) (.cons (.bl false) .nil)))) .nil)))) .nil)))
theorem pair_rest {Γ : Gam} (gb : Γ.fn n_below = some d_below) (gm : Γ.fn n_law_means = some d_law_means) (ga : Γ.fn n_law_alike = some (d_law_alike 3)) {p q : Rat} (h1 : bd 140 p) (h2 : bd 140 q) (h : Hm) (P : Po) (L : List D) (hL : ∀ d ∈ L, okItem d) (hl : L.length ≤ 100) (k : P.rt (.bl true) h) :
    wpB Γ pairRest [some (fr p), some (fr q), some (.int p.num), some (.int p.den), some (.int q.num), some (.int q.den), some (.lst L), none, none, none, none] h P := by
  have b1 : bd 4400 p := h1.mono (by decide)
  have b2 : bd 4400 q := h2.mono (by decide)
  unfold pairRest
  have hc := ev_comp (Γ := Γ) (own := [("found", 7), ("top", 8), ("bottom", 9)]) (tg := .tup [7, 8, 9]) (it := .ex (.v 6)) (cond := .nil) (elt := .call n_law_means (.cons (.v 7) (.cons (.v 8) (.cons (.v 9) .nil)))) (σ := [some (fr p), some (fr q), some (.int p.num), some (.int p.den), some (.int q.num), some (.int q.den), some (.lst L), none, none, none, none]) (h := h) (h1 := h) (src := L) (fun _ => some (.bl true)) (by walk_at "mini ew") (fun x hx t => by
    obtain ⟨r, u, v, rfl, c1, c2, c3, c4⟩ := hL x hx
    refine ⟨_, rfl, by walk_at "mini ew", E_call gm (ds := [fr r, .int u, .int v]) (h1 := h ++ [t]) (by walk_at "mini ew") ?_⟩
    rw [means_eq c1 c2 c3, decide_eq_true c4]) (Nat.le_trans hl (by decide)) (fun _ _ y e => by cases e; rfl)
  refine B_ifN (h1 := h) (by
    have := T_not (T_of_E (E_bi1 (bb := .all) hc (by rw [bi_allL, bools_map (fun _ => true)])))
    rw [this]
    simp) ?_
  refine B_set (d := .bl (decide (p < q))) (h1 := h) (by
    walk_at "mini ew"
    rw [mND b1 b2, mND b2 b1]
    walk_at "mini ew"
    rw [decide_eq_decide.mpr (Rat.lt_iff p q).symm]) ?_
  have hb : ∀ x y : Rat, bd 4400 x → bd 4400 y → d_below [fr x, fr y] h = .ok (.bl (decide (x < y))) h := fun x y c d => bin_eq ⟨c, d⟩ h
  have e0 : decide (p < p) = false := decide_eq_false Rat.lt_irrefl
  refine B_ret (d := .bl true) (h1 := h) (E_call ga (ds := [.lst [.bl (decide (p < q)), .bl (decide (p < q)), .bl false], .lst [.bl (decide (p < q)), .bl (decide (p < q)), .bl false]]) (h1 := h) ?_ (alike_eq rfl h)) k
  refine Es_cons (E_lst (Es_cons (E_call gb (ds := [fr p, fr q]) (h1 := h) (by walk_at "mini ew") (hb p q b1 b2)) (Es_cons (E_callk gb (ds := []) (zs := [fr q, fr p]) (h1 := h) (h2 := h) (by walk_at "mini ew") (by walk_at "mini ew") (hb p q b1 b2)) (Es_cons (E_call gb (ds := [fr p, fr p]) (h1 := h) (by walk_at "mini ew") (by rw [hb p p b1 b1, e0])) Es_nil))) (show 3 ≤ 1000 by decide)) (Es_cons (by walk_at "mini ew") Es_nil)
def pairS (p q : Rat) (x : Option D) : Sg := [some (fr p), some (fr q), some (.int p.num), some (.int p.den), some (.int q.num), some (.int q.den), x, none, none, none, none]
def pairA (p q : Rat) : D := itemD (p + q) (p.num * q.den + q.num * p.den) (p.den * q.den)
def pairB (p q : Rat) : D := itemD (p - q) (p.num * q.den - q.num * p.den) (p.den * q.den)
def pairC (p q : Rat) : D := itemD (p * q) (p.num * q.num) (p.den * q.den)
def pairD (p q : Rat) : D := itemD (p / q) (p.num * q.den) (p.den * q.num)
theorem op_addL' {xs ys : List D} {h : Hm} (hl : xs.length + ys.length ≤ 1000) : opD .add (.lst xs) (.lst ys) h = .ok (.lst (xs ++ ys)) h := by
  rw [op_addL]
  exact guard_eq (decide_eq_true (Nat.le_trans hl (by decide)))
theorem op_addML' {xs ys : List D} {h : Hm} (hl : xs.length + ys.length ≤ 1000) : opD .addM (.lst xs) (.lst ys) h = .ok (.ref h.length) (h ++ [MO.lst (xs ++ ys)]) := by
  rw [op_addML]
  exact guard_eq (decide_eq_true (Nat.le_trans hl (by decide)))
section
variable {Γ : Gam} {p q : Rat} (b1 : bd 4400 p) (b2 : bd 4400 q) (x : Option D) (h : Hm)
include b1 b2
theorem tAdd : evEs Γ (.cons (.op2 .add (.op2 .mul (.v 2) (.v 5)) (.op2 .mul (.v 4) (.v 3))) (.cons (.op2 .mul (.v 3) (.v 5)) .nil)) (pairS p q x) h = .ok [.int (p.num * q.den + q.num * p.den), .int (p.den * q.den)] h := by
  unfold pairS
  walk_at "mini ew"
  rw [mND b1 b2, mND b2 b1, mDD b1 b2]
  walk_at "mini ew"
theorem tSub : evEs Γ (.cons (.op2 .sub (.op2 .mul (.v 2) (.v 5)) (.op2 .mul (.v 4) (.v 3))) (.cons (.op2 .mul (.v 3) (.v 5)) .nil)) (pairS p q x) h = .ok [.int (p.num * q.den - q.num * p.den), .int (p.den * q.den)] h := by
  unfold pairS
  walk_at "mini ew"
  rw [mND b1 b2, mND b2 b1, mDD b1 b2]
  walk_at "mini ew"
theorem tMul : evEs Γ (.cons (.op2 .mul (.v 2) (.v 4)) (.cons (.op2 .mul (.v 3) (.v 5)) .nil)) (pairS p q x) h = .ok [.int (p.num * q.num), .int (p.den * q.den)] h := by
  unfold pairS
  walk_at "mini ew"
  rw [mNN b1 b2, mDD b1 b2]
  walk_at "mini ew"
theorem tDiv : evEs Γ (.cons (.op2 .mul (.v 2) (.v 5)) (.cons (.op2 .mul (.v 3) (.v 4)) .nil)) (pairS p q x) h = .ok [.int (p.num * q.den), .int (p.den * q.num)] h := by
  unfold pairS
  walk_at "mini ew"
  rw [mND b1 b2, mDN b1 b2]
  walk_at "mini ew"
end
section
variable {Γ : Gam} (p q : Rat) (x : Option D) (h : Hm)
theorem a01 : evEs Γ (.cons (.v 0) (.cons (.v 1) .nil)) (pairS p q x) h = .ok [fr p, fr q] h := rfl
theorem a10 : evEs Γ (.cons (.v 1) (.cons (.v 0) .nil)) (pairS p q x) h = .ok [fr q, fr p] h := rfl
end
theorem l3 {a b c : D} : ([a, b, c] : List D).length ≤ 1000 := show 3 ≤ 1000 by decide
/-- one entry -/
theorem E_item {Γ : Gam} {σ : Sg} {h : Hm} {f : Ex} {es : Exs} {r : Rat} {t s : Int} (hf : evE Γ f σ h = .ok (fr r) h) (he : evEs Γ es σ h = .ok [.int t, .int s] h) : evE Γ (.lst (.cons f es)) σ h = .ok (itemD r t s) h := E_lst (Es_cons hf he) l3
theorem B_law_pair_right {Γ : Gam} (gp : Γ.fn n_plus = some d_plus) (gs : Γ.fn n_minus = some d_minus) (gt : Γ.fn n_times = some d_times) (go : Γ.fn n_over = some d_over) (gb : Γ.fn n_below = some d_below) (gm : Γ.fn n_law_means = some d_law_means) (ga : Γ.fn n_law_alike = some (d_law_alike 3)) :
    BodyOk Γ c_law_pair_right.N b_law_pair_right d_law_pair_right := by
  intro ds h r h' e
  obtain ⟨p, q, rfl, ⟨h1, h2⟩, rfl, rfl⟩ := bin_of e
  have b1 : bd 4400 p := h1.mono (by decide)
  have b2 : bd 4400 q := h2.mono (by decide)
  show wpB Γ b_law_pair_right (startD ["one", "other", "a", "b", "c", "d", "told", "found", "top", "bottom", "less"] [fr p, fr q]) h' _
  unfold b_law_pair_right
  have kp : ∀ h, d_plus [fr p, fr q] h = .ok (fr (p + q)) h := fun h => bin_eq ⟨b1, b2⟩ h
  have ks : ∀ h, d_minus [fr p, fr q] h = .ok (fr (p - q)) h := fun h => bin_eq ⟨b1, b2⟩ h
  have kt : ∀ h, d_times [fr p, fr q] h = .ok (fr (p * q)) h := fun h => bin_eq ⟨b1, b2⟩ h
  refine B_asg (σ' := pairS p q none) (d := .tup [.int p.num, .int p.den, .int q.num, .int q.den]) (h1 := h') (by unfold fr; walk_at "mini ew") rfl ?_
  have cp : ∀ x h, evE Γ (.callk n_plus .nil (.cons (.v 1) (.cons (.v 0) .nil)) [1, 0]) (pairS p q x) h = .ok (fr (p + q)) h := fun x h => E_callk gp (ds := []) Es_nil (a10 p q x h) (kp h)
  have cs : ∀ x h, evE Γ (.callk n_minus .nil (.cons (.v 1) (.cons (.v 0) .nil)) [1, 0]) (pairS p q x) h = .ok (fr (p - q)) h := fun x h => E_callk gs (ds := []) Es_nil (a10 p q x h) (ks h)
  have ct : ∀ x h, evE Γ (.callk n_times .nil (.cons (.v 1) (.cons (.v 0) .nil)) [1, 0]) (pairS p q x) h = .ok (fr (p * q)) h := fun x h => E_callk gt (ds := []) Es_nil (a10 p q x h) (kt h)
  -- told = [..]
  refine B_set (d := .lst [pairA p q, pairB p q, pairC p q]) (h1 := h') ?_ ?_
  · exact E_lst (Es_cons (E_item (E_call gp (a01 p q none h') (kp h')) (tAdd b1 b2 none h')) (Es_cons (E_item (E_call gs (a01 p q none h') (ks h')) (tSub b1 b2 none h')) (Es_cons (E_item (E_call gt (a01 p q none h') (kt h')) (tMul b1 b2 none h')) Es_nil))) l3
  rw [show (pairS p q none).set 6 (some (.lst [pairA p q, pairB p q, pairC p q])) = pairS p q (some (.lst [pairA p q, pairB p q, pairC p q])) from rfl]
  -- told = told + [..]
  refine B_set (d := .ref h'.length) (h1 := h' ++ [MO.lst ([pairA p q, pairB p q, pairC p q] ++ [pairA p q, pairB p q])]) ?_ ?_
  · exact E_op2 (d := .lst [pairA p q, pairB p q, pairC p q]) (d2 := .lst [pairA p q, pairB p q]) (h1 := h') (h2 := h') rfl (E_lst (Es_cons (E_item (cp _ h') (tAdd b1 b2 _ h')) (Es_cons (E_item (cs _ h') (tSub b1 b2 _ h')) Es_nil)) (show 2 ≤ 1000 by decide)) (op_addML' (show 5 ≤ 1000 by decide))
  rw [show (pairS p q (some (.lst [pairA p q, pairB p q, pairC p q]))).set 6 (some (.ref h'.length)) = pairS p q (some (.ref h'.length)) from rfl]
  -- told.append(..)
  refine B_ex (d := .non) (h1 := h' ++ [MO.lst ([pairA p q, pairB p q, pairC p q] ++ [pairA p q, pairB p q] ++ [pairC p q])]) ?_ ?_
  · have z := E_append (Γ := Γ) (σ := pairS p q (some (.ref h'.length))) (h := h' ++ [MO.lst ([pairA p q, pairB p q, pairC p q] ++ [pairA p q, pairB p q])]) (h1 := h' ++ [MO.lst ([pairA p q, pairB p q, pairC p q] ++ [pairA p q, pairB p q])]) (h2 := h' ++ [MO.lst ([pairA p q, pairB p q, pairC p q] ++ [pairA p q, pairB p q])]) (r := .v 6) (n := h'.length) rfl listOf_new (E_item (ct (some (.ref h'.length)) _) (tMul b1 b2 _ _)) listOf_new (show 5 ≤ 1000 by decide)
    rw [set_last] at z
    exact z
  refine B_freeze (n := h'.length) (xs := [pairA p q, pairB p q, pairC p q] ++ [pairA p q, pairB p q] ++ [pairC p q]) rfl listOf_new ?_
  rw [set_last, show (pairS p q (some (.ref h'.length))).set 6 (some (.lst ([pairA p q, pairB p q, pairC p q] ++ [pairA p q, pairB p q] ++ [pairC p q]))) = pairS p q (some (.lst ([pairA p q, pairB p q, pairC p q] ++ [pairA p q, pairB p q] ++ [pairC p q]))) from rfl]
  have base : ∀ d ∈ [pairA p q, pairB p q, pairC p q] ++ [pairA p q, pairB p q] ++ [pairC p q], okItem d := by
    intro d hd
    simp only [List.cons_append, List.nil_append, List.mem_cons, List.not_mem_nil, or_false] at hd
    rcases hd with rfl | rfl | rfl | rfl | rfl | rfl
    · exact it_add h1 h2
    · exact it_sub h1 h2
    · exact it_mul h1 h2
    · exact it_add h1 h2
    · exact it_sub h1 h2
    · exact it_mul h1 h2
  have hlen : ([pairA p q, pairB p q, pairC p q] ++ [pairA p q, pairB p q] ++ [pairC p q]).length = 6 := rfl
  generalize [pairA p q, pairB p q, pairC p q] ++ [pairA p q, pairB p q] ++ [pairC p q] = L at base hlen
  -- if c != 0
  by_cases c : q.num = 0
  · refine B_ifN (h1 := h' ++ [MO.gone]) (by unfold pairS; walk_at "mini ew"; rw [decide_eq_true c]; walk_at "mini ew") ?_
    exact pair_rest gb gm ga h1 h2 _ _ L base (by omega) (Fz.back rfl)
  · have hq : q ≠ 0 := fun z => c (by rw [z]; rfl)
    have ko : ∀ h, d_over [fr p, fr q] h = .ok (fr (p / q)) h := fun h => bin_eq ⟨b1, b2, hq⟩ h
    have co : ∀ x h, evE Γ (.callk n_over .nil (.cons (.v 1) (.cons (.v 0) .nil)) [1, 0]) (pairS p q x) h = .ok (fr (p / q)) h := fun x h => E_callk go (ds := []) Es_nil (a10 p q x h) (ko h)
    refine B_ifT (h1 := h' ++ [MO.gone]) (by unfold pairS; walk_at "mini ew"; rw [decide_eq_false c]; walk_at "mini ew") ?_
    refine B_set (d := .lst (L ++ [pairD p q, pairD p q])) (h1 := h' ++ [MO.gone]) ?_ (B_nil ?_)
    · exact E_op2 (d := .lst L) (d2 := .lst [pairD p q, pairD p q]) (h1 := h' ++ [MO.gone]) (h2 := h' ++ [MO.gone]) rfl (E_lst (Es_cons (E_item (E_call go (a01 p q _ _) (ko _)) (tDiv b1 b2 _ _)) (Es_cons (E_item (co _ _) (tDiv b1 b2 _ _)) Es_nil)) (show 2 ≤ 1000 by decide)) (op_addL' (by rw [hlen]; exact (show 8 ≤ 1000 by decide)))
    · refine pair_rest gb gm ga h1 h2 _ _ (L ++ [pairD p q, pairD p q]) (fun d hd => ?_) (by rw [List.length_append, hlen]; exact (show 8 ≤ 100 by decide)) (Fz.back rfl)
      rcases List.mem_append.mp hd with hd | hd
      · exact base d hd
      · simp only [List.mem_cons, List.not_mem_nil, or_false] at hd
        rcases hd with rfl | rfl <;> exact it_div h1 h2 hq

/-! handed on -/
def Ev (Γ : Gam) (σ : Sg) (h : Hm) (e : Ex) (q : Rat) : Prop := evE Γ e σ h = .ok (fr q) h
section
variable {Γ : Gam} {σ : Sg} {h : Hm} {x y : Ex} {p q : Rat} {f : Nat} {c : Rat → Rat → Prop} {g : Rat → Rat → D}
theorem Ev.bin (gf : Γ.fn f = some (d_bin c g)) (a : Ev Γ σ h x p) (b : Ev Γ σ h y q) (k : c p q) : evE Γ (.call f (.cons x (.cons y .nil))) σ h = .ok (g p q) h := E_call gf (Es_cons a (Es_cons b Es_nil)) (bin_eq k h)
theorem Ev.ne (a : Ev Γ σ h x p) (b : Ev Γ σ h y q) (e : p = q) : evT Γ (.cmp .ne x y) σ h = .ok false h := T_cmp a b (by rw [cm_ne, eq_fr, decide_eq_true e]; rfl)
end
noncomputable def d_law_handed_on_right : List D → Hm → Res D
  | [x, y, z], h => match frOf x, frOf y, frOf z with
    | some a, some b, some c => .guard (cd (bd 140 a ∧ bd 140 b ∧ bd 140 c)) (.ok (.bl true) h)
    | _, _, _ => .stuck
  | _, _ => .stuck
theorem handed_eq {a b c : Rat} (h1 : bd 140 a) (h2 : bd 140 b) (h3 : bd 140 c) (h : Hm) : d_law_handed_on_right [fr a, fr b, fr c] h = .ok (.bl true) h := by
  show (match frOf (fr a), frOf (fr b), frOf (fr c) with
    | some a, some b, some c => Res.guard (cd (bd 140 a ∧ bd 140 b ∧ bd 140 c)) (Res.ok (D.bl true) h)
    | _, _, _ => .stuck) = _
  rw [frOf_fr, frOf_fr, frOf_fr]
  exact cd_guard ⟨h1, h2, h3⟩
theorem T_isB {Γ : Gam} {σ : Sg} {h h1 : Hm} {x : Ex} {ng t b : Bool} (e : evE Γ x σ h = .ok (.bl t) h1) : evT Γ (.isB ng x b) σ h = .ok (ng ^^ decide (t = b)) h1 := by
  show (evE Γ x σ h).bind _ = _
  rw [e]
  rfl
theorem E_ifx {Γ : Gam} {σ : Sg} {h h1 h2 : Hm} {c x y : Ex} {t : Bool} {d : D} (e : evT Γ c σ h = .ok t h1) (k1 : t = true → evE Γ x σ h1 = .ok d h2) (k2 : t = false → evE Γ y σ h1 = .ok d h2) : evE Γ (.ifx c x y) σ h = .ok d h2 := by
  show (evT Γ c σ h).bind _ = _
  rw [e]
  cases t with
  | true => exact k1 rfl
  | false => exact k2 rfl
theorem tiny_fr : fr (Rat.divInt 1 (10 ^ 40)) = .tup [.int 1, .int (10 ^ 40)] := by
  have e1 : (Rat.divInt 1 (10 ^ 40)).num = 1 := by rw [Rat.num_divInt]; decide +kernel
  have e2 : ((Rat.divInt 1 (10 ^ 40)).den : Int) = 10 ^ 40 := by rw [Rat.den_divInt]; decide +kernel
  unfold fr
  rw [e1, e2]
theorem num_pos_iff (c : Rat) : 0 < c.num ↔ 0 < c := by
  rw [Rat.lt_iff]
  simp
theorem num_neg_iff (c : Rat) : c.num < 0 ↔ c < 0 := by
  rw [Rat.lt_iff]
  simp
theorem tiny_pos : (0 : Rat) < Rat.divInt 1 (10 ^ 40) := by
  refine (num_pos_iff _).mp ?_
  rw [Rat.num_divInt]
  decide +kernel
theorem lt_mul_case (a b c : Rat) : decide (a * c < b * c) = if 0 < c.num then decide (a < b) else (decide (c.num < 0) && decide (b < a)) := by
  split
  · rename_i k
    exact decide_eq_decide.mpr (Rat.mul_lt_mul_right ((num_pos_iff c).mp k))
  · rename_i k
    by_cases k2 : c.num < 0
    · rw [decide_eq_true k2, Bool.true_and]
      have hc : c < 0 := (num_neg_iff c).mp k2
      have key := Rat.mul_lt_mul_right (a := b) (b := a) (c := -c) (by grind)
      refine decide_eq_decide.mpr ⟨fun z => key.mp (by grind), fun z => ?_⟩
      have := key.mpr z
      grind
    · rw [decide_eq_false k2, Bool.false_and]
      have : c.num = 0 := by omega
      have hc : c = 0 := by
        rw [← rat_self c, this]
        simp
      subst hc
      simp
theorem B_law_handed_on_right {Γ : Gam} (gp : Γ.fn n_plus = some d_plus) (gs : Γ.fn n_minus = some d_minus) (gt : Γ.fn n_times = some d_times) (go : Γ.fn n_over = some d_over) (gb : Γ.fn n_below = some d_below) :
    BodyOk Γ c_law_handed_on_right.N b_law_handed_on_right d_law_handed_on_right := by
  intro ds h r h' e
  match ds, e with
  | [x, y, z], e =>
    have e : (match frOf x, frOf y, frOf z with
      | some a, some b, some c => Res.guard (cd (bd 140 a ∧ bd 140 b ∧ bd 140 c)) (Res.ok (D.bl true) h)
      | _, _, _ => .stuck) = .ok r h' := e
    cases kx : frOf x with
    | none => rw [kx] at e; cases e
    | some a =>
    cases ky : frOf y with
    | none => rw [kx, ky] at e; cases e
    | some b =>
    cases kz : frOf z with
    | none => rw [kx, ky, kz] at e; cases e
    | some c =>
      rw [kx, ky, kz] at e
      obtain ⟨ho, e⟩ := guard_ok e
      obtain ⟨rfl, rfl⟩ := ok_inj e
      obtain ⟨h1, h2, h3⟩ := of_cd ho
      rw [frOf_eq kx, frOf_eq ky, frOf_eq kz]
      show wpB Γ b_law_handed_on_right [some (fr a), some (fr b), some (fr c), none] h _
      unfold b_law_handed_on_right
      have w : ∀ {n : Nat} {q : Rat}, bd n q → n ≤ 4400 → bd 4400 q := fun k l => k.mono l
      have a4 := w h1 (by decide)
      have b4 := w h2 (by decide)
      have c4 := w h3 (by decide)
      have ab := w (bd_add h1 h2) (by decide)
      have bc := w (bd_add h2 h3) (by decide)
      have tab := w (bd_mul h1 h2) (by decide)
      have tbc := w (bd_mul h2 h3) (by decide)
      have tac := w (bd_mul h1 h3) (by decide)
      have tbb := w (bd_mul h2 h2) (by decide)
      have sac := w (bd_sub h1 h3) (by decide)
      have va : ∀ t : Option D, Ev Γ [some (fr a), some (fr b), some (fr c), t] h (.v 0) a := fun _ => rfl
      have vb : ∀ t : Option D, Ev Γ [some (fr a), some (fr b), some (fr c), t] h (.v 1) b := fun _ => rfl
      have vc : ∀ t : Option D, Ev Γ [some (fr a), some (fr b), some (fr c), t] h (.v 2) c := fun _ => rfl
      have add : ∀ {σ : Sg} {x y : Ex} {p q : Rat}, Ev Γ σ h x p → Ev Γ σ h y q → bd 4400 p → bd 4400 q → Ev Γ σ h (.call n_plus (.cons x (.cons y .nil))) (p + q) := fun u v k l => Ev.bin gp u v ⟨k, l⟩
      have sub : ∀ {σ : Sg} {x y : Ex} {p q : Rat}, Ev Γ σ h x p → Ev Γ σ h y q → bd 4400 p → bd 4400 q → Ev Γ σ h (.call n_minus (.cons x (.cons y .nil))) (p - q) := fun u v k l => Ev.bin gs u v ⟨k, l⟩
      have mul : ∀ {σ : Sg} {x y : Ex} {p q : Rat}, Ev Γ σ h x p → Ev Γ σ h y q → bd 4400 p → bd 4400 q → Ev Γ σ h (.call n_times (.cons x (.cons y .nil))) (p * q) := fun u v k l => Ev.bin gt u v ⟨k, l⟩
      have div : ∀ {σ : Sg} {x y : Ex} {p q : Rat}, Ev Γ σ h x p → Ev Γ σ h y q → bd 4400 p → bd 4400 q → q ≠ 0 → Ev Γ σ h (.call n_over (.cons x (.cons y .nil))) (p / q) := fun u v k l m => Ev.bin go u v ⟨k, l, m⟩
      have lt : ∀ {σ : Sg} {x y : Ex} {p q : Rat}, Ev Γ σ h x p → Ev Γ σ h y q → bd 4400 p → bd 4400 q → evE Γ (.call n_below (.cons x (.cons y .nil))) σ h = .ok (.bl (decide (p < q))) h := fun u v k l => Ev.bin gb u v ⟨k, l⟩
      refine B_ifN (h1 := h) (T_borF (Ev.ne (add (add (va _) (vb _) a4 b4) (vc _) ab c4) (add (va _) (add (vb _) (vc _) b4 c4) a4 bc) (Rat.add_assoc a b c)) (Ev.ne (mul (mul (va _) (vb _) a4 b4) (vc _) tab c4) (mul (va _) (mul (vb _) (vc _) b4 c4) a4 tbc) (Rat.mul_assoc a b c))) ?_
      refine B_ifN (h1 := h) (T_borF (Ev.ne (mul (va _) (add (vb _) (vc _) b4 c4) a4 bc) (add (mul (va _) (vb _) a4 b4) (mul (va _) (vc _) a4 c4) tab tac) (Rat.mul_add a b c)) (T_borF (Ev.ne (sub (add (va _) (vb _) a4 b4) (vb _) ab b4) (va _) (by grind)) (Ev.ne (add (sub (va _) (vc _) a4 c4) (vc _) sac c4) (va _) (by grind)))) ?_
      refine B_ifN (h1 := h) ?_ ?_
      · by_cases k : b.num = 0
        · refine T_bandF ?_
          unfold fr
          walk_at "mini ew"
          rw [decide_eq_true k]
          walk_at "mini ew"
        · have hb : b ≠ 0 := fun z => k (by rw [z]; rfl)
          have vab := w (bd_div h1 h2 hb) (by decide)
          have vcb := w (bd_div h3 h2 hb) (by decide)
          have hbb : b * b ≠ 0 := by
            intro z
            exact hb (by grind)
          refine T_bandT (h1 := h) ?_ (T_borF (Ev.ne (div (mul (va _) (vb _) a4 b4) (vb _) tab b4 hb) (va _) (by grind)) (T_borF (Ev.ne (mul (div (va _) (vb _) a4 b4 hb) (vb _) vab b4) (va _) (by grind)) (Ev.ne (div (div (vc _) (vb _) c4 b4 hb) (vb _) vcb b4 hb) (div (vc _) (mul (vb _) (vb _) b4 b4) c4 tbb hbb) (by grind))))
          unfold fr
          walk_at "mini ew"
          rw [decide_eq_false k]
          walk_at "mini ew"
      · have t0 := tiny_pos
        have tb : bd 140 (Rat.divInt 1 (10 ^ 40)) := (wide_bd (t := 1) (b := 10 ^ 40) (by decide) (by decide) (by decide) (by decide)).1.mono (by decide)
        have et := tiny_fr
        generalize Rat.divInt 1 (10 ^ 40) = t at t0 tb et
        refine B_set (d := fr t) (h1 := h) (by rw [et]; exact E_tup (Es_cons rfl (Es_cons (E_pow pow40) Es_nil)) (show 2 ≤ 1000 by decide)) ?_
        rw [show ([some (fr a), some (fr b), some (fr c), none] : Sg).set 3 (some (fr t)) = [some (fr a), some (fr b), some (fr c), some (fr t)] from rfl]
        have vt : Ev Γ [some (fr a), some (fr b), some (fr c), some (fr t)] h (.v 3) t := rfl
        have t4 := w tb (by decide)
        have at4 := w (bd_add h1 tb) (by decide)
        have st4 := w (bd_sub h1 tb) (by decide)
        refine B_ifN (h1 := h) (T_borF (h1 := h) ?_ (T_borF (h1 := h) ?_ ?_)) ?_
        · rw [T_isB (lt (va _) (add (va _) vt a4 t4) a4 at4), decide_eq_true (show a < a + t by grind)]
          rfl
        · rw [T_isB (lt (add (va _) vt a4 t4) (va _) at4 a4), decide_eq_false (show ¬ (a + t < a) by grind)]
          rfl
        · rw [T_isB (lt (sub (va _) vt a4 t4) (va _) st4 a4), decide_eq_true (show a - t < a by grind)]
          rfl
        · refine B_ret (d := .bl true) (h1 := h) ?_ .refl
          refine E_cmp (d := .bl (decide (a * c < b * c))) (d2 := .bl (decide (a * c < b * c))) (h1 := h) (h2 := h) (lt (mul (va _) (vc _) a4 c4) (mul (vb _) (vc _) b4 c4) tac tbc) ?_ (by rw [cm_eq, eq_bl, decide_eq_true rfl])
          rw [lt_mul_case]
          refine E_ifx (t := decide (0 < c.num)) (h1 := h) (by unfold fr; walk_at "mini ew") (fun k => ?_) (fun k => ?_)
          · rw [if_pos (of_decide_eq_true k)]
            exact lt (va _) (vb _) a4 b4
          · rw [if_neg (of_decide_eq_false k)]
            by_cases k2 : c.num < 0
            · rw [decide_eq_true k2, Bool.true_and]
              exact E_bandT (h1 := h) (by unfold fr; walk_at "mini ew"; rw [decide_eq_true k2]) (lt (vb _) (va _) b4 a4)
            · rw [decide_eq_false k2, Bool.false_and]
              exact E_bandF (by unfold fr; walk_at "mini ew"; rw [decide_eq_false k2])

/-! the law -/
theorem E_any {Γ : Gam} (gn : Γ.fn n_law_any = some d_law_any) {σ : Sg} {h h0 : Hm} {s s0 : Spg} (h1 : σ[1]? = some (some (.ref 1))) (e : sprOf h0 1 = some (0, s0)) (eh : h = putS h0 1 0 s) :
    evE Γ (.call n_law_any (.cons (.v 1) .nil)) σ h = .ok (fr (anyF s).1) (putS h0 1 0 (anyF s).2) := by
  subst eh
  refine E_call gn (Es_cons (d := .ref 1) (h1 := putS h0 1 0 s) ?_ Es_nil) ?_
  · show (match σ[1]? with | some (some d) => Res.ok d (putS h0 1 0 s) | _ => .stuck) = _
    rw [h1]
  · rw [any_eq (sprOf_put e), putS_putS (by decide)]
theorem E_dropL {Γ : Gam} (gd : Γ.fn n_law_drop = some d_law_drop) {σ : Sg} {h0 : Hm} {s s0 : Spg} {y : Ex} {many : Int} (h1 : σ[1]? = some (some (.ref 1))) (e : sprOf h0 1 = some (0, s0)) (hy : evE Γ y σ (putS h0 1 0 s) = .ok (.int many) (putS h0 1 0 s)) (hm : 0 < many) (hl : many.natAbs.log2 < 9000) :
    evE Γ (.call n_law_drop (.cons (.v 1) (.cons y .nil))) σ (putS h0 1 0 s) = .ok (.int (dropF s many).1) (putS h0 1 0 (dropF s many).2) := by
  refine E_call gd (Es_cons (d := .ref 1) (h1 := putS h0 1 0 s) ?_ (Es_cons hy Es_nil)) ?_
  · show (match σ[1]? with | some (some d) => Res.ok d (putS h0 1 0 s) | _ => .stuck) = _
    rw [h1]
  · rw [drop_eq (sprOf_put e) hm hl, putS_putS (by decide)]
/-- any sum in any turn -/
def sumR : List Rat → Rat
  | [] => 0
  | q :: qs => q + sumR qs
theorem foldl_sum : ∀ (qs : List Rat) (p : Rat), qs.foldl (· + ·) p = p + sumR qs
  | [], p => by
    show p = p + 0
    grind
  | q :: qs, p => by
    show qs.foldl (· + ·) (p + q) = p + (q + sumR qs)
    rw [foldl_sum qs (p + q)]
    grind
theorem sumR_perm {a b : List Rat} (p : a.Perm b) : sumR a = sumR b := by
  induction p with
  | nil => rfl
  | cons x p ih => show x + _ = x + _; rw [ih]
  | swap x y l => show y + (x + sumR l) = x + (y + sumR l); grind
  | trans p1 p2 i1 i2 => rw [i1, i2]
theorem addUp_perm {a b : List Rat} (p : a.Perm b) : addUp a = addUp b := by
  unfold addUp
  rw [foldl_sum, foldl_sum, sumR_perm p]
def numDen (q : Rat) : Int × Int := (q.num, q.den)
theorem pairs_fr : ∀ qs : List Rat, pairsOf (qs.map fr) = some (qs.map numDen)
  | [] => rfl
  | q :: qs => by
    show (pairsOf (qs.map fr)).map (numDen q :: ·) = _
    rw [pairs_fr qs]
    rfl
theorem perm_back : ∀ {ps : List (Int × Int)} {l : List (Int × Int)}, l.Perm ps → ∀ qs : List Rat, l = qs.map numDen → ∃ qs' : List Rat, ps = qs'.map numDen ∧ qs.Perm qs' := by
  intro ps l p
  induction p with
  | nil => intro qs e; exact ⟨qs, e, .refl _⟩
  | cons x p ih =>
    intro qs e
    cases qs with
    | nil => cases e
    | cons q qs =>
      obtain ⟨e1, e2⟩ := List.cons.inj e
      obtain ⟨qs', a, b⟩ := ih qs e2
      exact ⟨q :: qs', by rw [a, e1]; rfl, b.cons q⟩
  | swap x y l =>
    intro qs e
    match qs, e with
    | q :: r :: qs, e =>
      obtain ⟨e1, e2⟩ := List.cons.inj e
      obtain ⟨e3, e4⟩ := List.cons.inj e2
      exact ⟨r :: q :: qs, by rw [e1, e3, e4]; rfl, .swap _ _ _⟩
  | trans p1 p2 i1 i2 =>
    intro qs e
    obtain ⟨a, a1, a2⟩ := i1 qs e
    obtain ⟨b, b1, b2⟩ := i2 a a1
    exact ⟨b, b1, a2.trans b2⟩
theorem unpairs_fr : ∀ qs : List Rat, unpairs (qs.map numDen) = qs.map fr
  | [] => rfl
  | q :: qs => by
    show fr q :: unpairs (qs.map numDen) = _
    rw [unpairs_fr qs]
    rfl
theorem sorted_fr (qs : List Rat) (h : Hm) : ∃ qs' : List Rat, qs.Perm qs' ∧ biD .sorted [.lst (qs.map fr)] h = .ok (.lst (qs'.map fr)) h := by
  obtain ⟨qs', e, p⟩ := perm_back (sortP_perm (qs.map numDen)).symm qs rfl
  refine ⟨qs', p, ?_⟩
  rw [bi_sortedL, pairs_fr]
  dsimp only
  rw [e, unpairs_fr]
/-- the numbers of a comprehension -/
theorem many_loop {Γ : Gam} (gn : Γ.fn n_law_any = some d_law_any) {σ : Sg} (hσ : (wipeD σ [10])[1]? = some (some (.ref 1))) {h0 : Hm} {s0 : Spg} (e : sprOf h0 1 = some (0, s0)) : ∀ (n : Nat) (lo : Int) (s : Spg) (acc : List Rat), acc.length + n ≤ 1000 →
    ∃ (qs : List Rat) (s' : Spg), qs.length = n ∧ (∀ q ∈ qs, bd 133 q) ∧ compLoop (stepC Γ [("k", 10)] (.v 10) .nil (.call n_law_any (.cons (.v 1) .nil)) σ) h0.length (rngD lo n) (putS h0 1 0 s ++ [MO.lst (acc.map fr)]) = .ok () (putS h0 1 0 s' ++ [MO.lst ((acc ++ qs).map fr)])
  | 0, lo, s, acc, _ => ⟨[], s, rfl, fun q hq => absurd hq (by simp), by rw [List.append_nil]; rfl⟩
  | n + 1, lo, s, acc, hl => by
    obtain ⟨qs, s', a1, a2, a3⟩ := many_loop gn hσ e n (lo + 1) (anyF s).2 (acc ++ [(anyF s).1]) (by rw [List.length_append, List.length_singleton]; omega)
    refine ⟨(anyF s).1 :: qs, s', by rw [List.length_cons, a1], fun q hq => ?_, ?_⟩
    · rcases List.mem_cons.mp hq with rfl | hq
      · exact any_bd s
      · exact a2 q hq
    · have l2 : sprOf (h0 ++ [MO.lst (acc.map fr)]) 1 = some (0, s0) := sprOf_app e
      have ea := E_any gn (σ := (wipeD σ [10]).set 10 (some (.int lo))) (h := putS h0 1 0 s ++ [MO.lst (acc.map fr)]) (h0 := h0 ++ [MO.lst (acc.map fr)]) (s := s) (by rw [List.getElem?_set_ne (by decide)]; exact hσ) l2 (putS_app e).symm
      rw [putS_app e] at ea
      have st := stepC_some (Γ := Γ) (own := [("k", 10)]) (tg := .v 10) (cond := .nil) (x := .int lo) (h := putS h0 1 0 s ++ [MO.lst (acc.map fr)]) (σ := σ) rfl rfl ea
      have ln : listOf? (putS h0 1 0 (anyF s).2 ++ [MO.lst (acc.map fr)]) h0.length = some (acc.map fr) := by
        have := putS_len h0 1 0 (anyF s).2
        rw [← this]
        exact listOf_new
      have es : (putS h0 1 0 (anyF s).2 ++ [MO.lst (acc.map fr)]).set h0.length (.lst (acc.map fr ++ [fr (anyF s).1])) = putS h0 1 0 (anyF s).2 ++ [MO.lst ((acc ++ [(anyF s).1]).map fr)] := by
        have := putS_len h0 1 0 (anyF s).2
        rw [← this, set_last, List.map_append]
        rfl
      show compLoop _ h0.length (.int lo :: rngD (lo + 1) n) _ = _
      rw [loop_cons st ln (by rw [List.length_map]; omega), es]
      rw [List.append_assoc] at a3
      exact a3
theorem putS_take {h0 t : Hm} {s : Spg} : (putS h0 1 0 s ++ t).take h0.length = putS h0 1 0 s := by
  have := putS_len h0 1 0 s
  rw [← this, List.take_left]
/-- many = [..] -/
theorem E_many {Γ : Gam} (gn : Γ.fn n_law_any = some d_law_any) {σ : Sg} (hσ : (wipeD σ [10])[1]? = some (some (.ref 1))) {h h0 : Hm} {s s0 : Spg} {it : It} {n : Nat} (e : sprOf h0 1 = some (0, s0)) (hi : evI Γ it σ h = .ok (rngD 0 n) (putS h0 1 0 s)) (hn : n ≤ 100) :
    ∃ (qs : List Rat) (h3 : Hm) (s3 : Spg), qs.length = n ∧ (∀ q ∈ qs, bd 133 q) ∧ evE Γ (.comp false [("k", 10)] (.v 10) it .nil (.call n_law_any (.cons (.v 1) .nil))) σ h = .ok (.lst (qs.map fr)) h3 ∧ sprOf h3 1 = some (0, s3) := by
  obtain ⟨qs, s', a1, a2, a3⟩ := many_loop gn hσ e n 0 s [] (by simp; omega)
  have hl := putS_len h0 1 0 s
  refine ⟨qs, endC (putS h0 1 0 s) (putS h0 1 0 s' ++ [MO.lst (qs.map fr)]) (qs.map fr), s', a1, a2, ?_, ?_⟩
  · rw [ev_comp_eq, hi, Res.bind_ok, hl]
    rw [List.map_nil, List.nil_append] at a3
    rw [a3, Res.bind_ok]
    have ln : listOf? (putS h0 1 0 s' ++ [MO.lst (qs.map fr)]) h0.length = some (qs.map fr) := by
      have := putS_len h0 1 0 s'
      rw [← this]
      exact listOf_new
    rw [ln]
  · unfold endC
    split
    · rename_i c
      have c1 := c.1.1
      rw [hl, putS_take] at c1
      rw [← c1]
      exact sprOf_put e
    · rw [hl]
      have := putS_len h0 1 0 s'
      rw [← this, set_last]
      exact sprOf_app (sprOf_put e)

theorem I_ex {Γ : Gam} {e : Ex} {σ : Sg} {h h1 h2 : Hm} {d : D} {xs : List D} (he : evE Γ e σ h = .ok d h1) (hi : itD d h1 = .ok xs h2) : evI Γ (.ex e) σ h = .ok xs h2 := by
  have z : evI Γ (.ex e) σ h = (evE Γ e σ h).bind itD := by unfold evI; rfl
  rw [z, he]
  exact hi
/-- the slots of the law: script, spring, turn, one, other, factor, some, value, due, many, k, number, told -/
def LS (x t a b f o v d m k n l : Option D) : Sg := [x, some (.ref 1), t, a, b, f, o, v, d, m, k, n, l]
theorem alike_lst {x : D} {k : Nat} (hx : plainD k x = true) (n : Nat) (hn : n ≤ 1000) : plainD (k + 1) (.lst (List.replicate n x)) = true := by
  show (decide ((List.replicate n x).length ≤ 1000) && (List.replicate n x).all (plainD k)) = true
  rw [List.length_replicate, decide_eq_true hn, Bool.true_and, List.all_eq_true]
  intro y hy
  rw [(List.mem_replicate.mp hy).2]
  exact hx
theorem plain_fr (q : Rat) : plainD 1 (fr q) = true := rfl
def facF (i : Int) : Int := if i = 0 then 1 else if i = 1 then -1 else if i = 2 then 2 else if i = 3 then -6 else if i = 4 then 100 else 10 ^ 12
theorem fac_at {i : Int} (h0 : 0 ≤ i) (h1 : i < 6) : atI [D.int 1, .int (-1), .int 2, .int (-6), .int 100, .int (10 ^ 12)] i = some (.int (facF i)) := by
  have : i = 0 ∨ i = 1 ∨ i = 2 ∨ i = 3 ∨ i = 4 ∨ i = 5 := by omega
  rcases this with rfl | rfl | rfl | rfl | rfl | rfl <;> rfl
theorem fac_rng (i : Int) : facF i ≠ 0 ∧ (facF i).natAbs < 2 ^ 40 := by
  unfold facF
  split
  · exact ⟨by decide, by decide⟩
  split
  · exact ⟨by decide, by decide⟩
  split
  · exact ⟨by decide, by decide⟩
  split
  · exact ⟨by decide, by decide⟩
  split
  · exact ⟨by decide, by decide⟩
  · exact ⟨by decide, by decide +kernel⟩
def twoF (a b : Rat) (i : Int) : Rat := if i = 0 then a else if i = 3 then -a else b
theorem two_at {a b : Rat} {i : Int} (h0 : 0 ≤ i) (h1 : i < 4) : atI [fr a, fr b, fr b, fr (-a)] i = some (fr (twoF a b i)) := by
  have : i = 0 ∨ i = 1 ∨ i = 2 ∨ i = 3 := by omega
  rcases this with rfl | rfl | rfl | rfl <;> rfl
theorem two_bd {a b : Rat} {n : Nat} (h1 : bd n a) (h2 : bd n b) (i : Int) : bd n (twoF a b i) := by
  unfold twoF
  split
  · exact h1
  split
  · exact bd_neg h1
  · exact h2
theorem divInt_scale {q : Rat} {f : Int} (hf : f ≠ 0) : Rat.divInt (q.num * f) (q.den * f) = q := by
  rw [Rat.divInt_mul_right hf, rat_self]
/-- the values that may be fractions -/
def valsA (q : Rat) : List D := [fr q, .tup [.int (q.num * 2), .int (q.den * 2)], .tup [.int q.num, .int (-q.den)], .tup [.int q.num, .int 0], .tup [.int 0, .int q.den], .lst [.int q.num, .int q.den], .tup [.int q.num, .int q.den, .int 1], .int q.num, .non, .str "1/2", .tup [.bl true, .int 1]]
def valsB (q : Rat) : List D := [.tup [.int 1, .bl true], .tup [.int 1], .tup [], .tup [.str "1", .int 2], .tup [fr q, fr q], .tup [.int 0, .int 1], .tup [.int q.den, .int q.num]]
theorem okIs_int {a b : Int} {n : Nat} (h : b.natAbs < 2 ^ n) (hn : 0 < n) (l : n ≤ 9000) : okIs (.tup [.int a, .int b]) = true := by
  show (decide (b ≤ 0) || okDen b) = true
  by_cases c : b ≤ 0
  · rw [decide_eq_true c, Bool.true_or]
  · rw [okDen_bd (by omega) h hn l, Bool.or_true]
theorem vals_ok {q : Rat} (h : bd 133 q) : ∀ x ∈ valsA q ++ valsB q, okIs x = true ∧ okFr x = true := by
  intro x hx
  have hd : (q.den : Int).natAbs < 2 ^ 133 := denN h
  simp only [valsA, valsB, List.cons_append, List.nil_append, List.mem_cons, List.not_mem_nil, or_false] at hx
  rcases hx with rfl | rfl | rfl | rfl | rfl | rfl | rfl | rfl | rfl | rfl | rfl | rfl | rfl | rfl | rfl | rfl | rfl | rfl
  · exact ⟨okIs_fr (h.mono (by decide)), rfl⟩
  · exact ⟨okIs_int (n := 133 + 2) (prod_lt hd (by decide)) (by decide) (by decide), rfl⟩
  · exact ⟨okIs_int (n := 133) (by rw [Int.natAbs_neg]; exact hd) (by decide) (by decide), rfl⟩
  · exact ⟨rfl, rfl⟩
  · exact ⟨okIs_int (n := 133) hd (by decide) (by decide), rfl⟩
  · exact ⟨rfl, rfl⟩
  · exact ⟨rfl, rfl⟩
  · exact ⟨rfl, rfl⟩
  · exact ⟨rfl, rfl⟩
  · exact ⟨rfl, rfl⟩
  · exact ⟨rfl, rfl⟩
  · exact ⟨rfl, rfl⟩
  · exact ⟨rfl, rfl⟩
  · exact ⟨rfl, rfl⟩
  · exact ⟨rfl, rfl⟩
  · exact ⟨rfl, rfl⟩
  · exact ⟨okIs_int (n := 133) (by decide) (by decide) (by decide), rfl⟩
  · exact ⟨okIs_int (n := 133) h.1 (by decide) (by decide), rfl⟩
def d_law : List D → Hm → Res D
  | [.lst xs], h => match intsOf xs with
    | some zs => .guard (decide (zs.length ≤ 63) && h.isEmpty) (.ok (.bl true) [])
    | none => .stuck
  | _, _ => .stuck
theorem law_eq {zs : List Int} (hl : zs.length ≤ 63) : d_law [.lst (zs.map .int)] [] = .ok (.bl true) [] := by
  show (match intsOf (zs.map D.int) with
    | some zs => Res.guard (decide (zs.length ≤ 63) && List.isEmpty (α := MO) []) (Res.ok (D.bl true) [])
    | none => .stuck) = _
  rw [ints_map]
  dsimp only
  rw [decide_eq_true hl]
  rfl
structure LawG (Γ : Gam) : Prop where
  isf : Γ.fn n_is_fraction = some d_is_fraction
  frac : Γ.fn n_fraction = some d_fraction
  sum : Γ.fn n_sum_of = some d_sum_of
  spring : Γ.fn n_law_spring = some d_law_spring
  drop : Γ.fn n_law_drop = some d_law_drop
  alike : Γ.fn n_law_alike = some (d_law_alike 3)
  plus : Γ.fn n_law_plus = some d_plus
  is : Γ.fn n_law_is = some d_law_is
  pair : Γ.fn n_law_pair_right = some d_law_pair_right
  any : Γ.fn n_law_any = some d_law_any
  hand : Γ.fn n_law_handed_on_right = some d_law_handed_on_right
/-- what stands in a turn, part by part -/
def turnB : Blk := match b_law with
  | .cons _ (.cons (.for_ _ _ b) _) => b
  | _ => .nil
theorem b_law_eq : b_law = .cons (.set 1 (.call n_law_spring (.cons (.v 0) .nil))) (.cons (.for_ (.v 2) (.rng1 (.int 8)) turnB) (.cons (.ret (.bl true)) .nil)) := rfl
/-- between two turns -/
def LI (x : D) (σ : Sg) (h : Hm) : Prop := ∃ t a b f o v d m k n l s, σ = LS (some x) t a b f o v d m k n l ∧ sprOf h 1 = some (0, s)
section
variable {Γ : Gam} (G : LawG Γ)
include G
/-- all values, one by one -/
theorem vals_for {q : Rat} (hq : bd 133 q) {x t a b f v d m k n l : Option D} {h : Hm} {P : Po} {rest : Blk} (hx : a = some (fr q))
    (fin : ∀ v d, wpB Γ rest (LS x t a b f (some (.lst (valsA q))) v d m k n l) h P) :
    wpB Γ (.cons (.for_ (.v 7) (.ex (.op2 .add (.v 6) (.lst (.cons (.tup (.cons (.int 1) (.cons (.bl true) .nil))) (.cons (.tup (.cons (.int 1) .nil)) (.cons (.tup .nil) (.cons (.tup (.cons (.str "1") (.cons (.int 2) .nil))) (.cons (.tup (.cons (.v 3) (.cons (.v 3) .nil))) (.cons (.tup (.cons (.int 0) (.cons (.int 1) .nil))) (.cons (.tup (.cons (.ix (.v 3) (.int 1)) (.cons (.ix (.v 3) (.int 0)) .nil))) .nil)))))))))) (.cons (.set 8 (.call n_law_is (.cons (.v 7) .nil))) (.cons (.ife (.bnot (.call n_law_alike (.cons (.lst (.cons (.call n_is_fraction (.cons (.v 7) .nil)) (.cons (.callk n_is_fraction .nil (.cons (.v 7) .nil) [0]) .nil))) (.cons (.lst (.cons (.v 8) (.cons (.v 8) .nil))) .nil)))) (.cons (.ret (.bl false)) .nil) .nil) .nil))) rest) (LS x t a b f (some (.lst (valsA q))) v d m k n l) h P := by
  subst hx
  refine B_for (fun i σ h1 => ∃ v d, σ = LS x t (some (fr q)) b f (some (.lst (valsA q))) v d m k n l ∧ h1 = h) (xs := valsA q ++ valsB q) (h1 := h) ?_ ⟨v, d, rfl, rfl⟩ ?_ ?_
  · refine I_ex (E_op2 (d := .lst (valsA q)) (d2 := .lst (valsB q)) (r := .lst (valsA q ++ valsB q)) (h1 := h) (h2 := h) (h3 := h) rfl ?_ (op_addL' (show 18 ≤ 1000 by decide))) rfl
    unfold LS fr valsB
    walk_at "mini ew"
    rfl
  · rintro i y σ h1 hy ⟨v, d, rfl, rfl⟩
    obtain ⟨o1, o2⟩ := vals_ok hq y (List.mem_of_getElem? hy)
    refine ⟨LS x t (some (fr q)) b f (some (.lst (valsA q))) (some y) d m k n l, rfl, ?_⟩
    refine B_set (d := .bl (isFr y)) (h1 := h1) (E_call G.is (ds := [y]) (h1 := h1) rfl (law_is_eq o1 h1)) ?_
    refine B_ifN (h1 := h1) (T_not (t := true) (T_call (E_call G.alike (ds := [.lst [.bl (isFr y), .bl (isFr y)], .lst [.bl (isFr y), .bl (isFr y)]]) (h1 := h1) (Es_cons (E_lst (Es_cons (E_call G.isf (ds := [y]) (h1 := h1) rfl (is_fraction_eq o2 h1)) (Es_cons (E_callk G.isf (ds := []) (zs := [y]) (h1 := h1) (h2 := h1) rfl rfl (is_fraction_eq o2 h1)) Es_nil)) (show 2 ≤ 1000 by decide)) (Es_cons (E_lst (Es_cons rfl (Es_cons rfl Es_nil)) (show 2 ≤ 1000 by decide)) Es_nil)) (alike_eq rfl h1)))) ?_
    exact B_nil ⟨some y, some (.bl (isFr y)), rfl, rfl⟩
  · rintro σ h1 ⟨v, d, rfl, rfl⟩
    exact fin v d
end

theorem pow12 : powOk 10 12 = true := by decide
section
variable {Γ : Gam} (G : LawG Γ)
include G
/-- the end of a turn: the sums -/
theorem sums_ok {qs : List Rat} (hl : qs.length ≤ 30) (hb : ∀ q ∈ qs, bd 133 q) {x t a b f o v d k n l : Option D} {h : Hm} {P : Po} (fin : ∀ d n l, P.nx (LS x t a b f o v d (some (.lst (qs.map fr))) k n l) h) :
    wpB Γ (.cons (.set 8 (.tup (.cons (.int 0) (.cons (.int 1) .nil)))) (.cons (.for_ (.v 11) (.ex (.v 9)) (.cons (.set 8 (.call n_law_plus (.cons (.v 8) (.cons (.v 11) .nil)))) .nil)) (.cons (.set 12 (.lst (.cons (.call n_sum_of (.cons (.bi .tuple (.cons (.v 9) .nil)) .nil)) (.cons (.call n_sum_of (.cons (.bi .tuple (.cons (.rev (.v 9)) .nil)) .nil)) (.cons (.callk n_sum_of .nil (.cons (.bi .tuple (.cons (.bi .sorted (.cons (.v 9) .nil)) .nil)) .nil) [0]) .nil))))) (.cons (.ife (.bnot (.call n_law_alike (.cons (.v 12) (.cons (.lst (.cons (.v 8) (.cons (.v 8) (.cons (.v 8) .nil)))) .nil)))) (.cons (.ret (.bl false)) .nil) .nil) .nil))))
      (LS x t a b f o v d (some (.lst (qs.map fr))) k n l) h P := by
  have hb' : ∀ q ∈ qs, bd 140 q := fun q hq => (hb q hq).mono (by decide)
  refine B_set (d := fr 0) (h1 := h) (by walk_at "mini ew"; rfl) ?_
  refine B_for (fun i σ h1 => ∃ n, σ = LS x t a b f o v (some (fr (addUp (qs.take i)))) (some (.lst (qs.map fr))) k n l ∧ h1 = h) (xs := qs.map fr) (h1 := h) (I_ex (d := .lst (qs.map fr)) (h1 := h) rfl rfl) ⟨n, rfl, rfl⟩ ?_ ?_
  · rintro i y σ h1 hy ⟨n, rfl, rfl⟩
    rw [List.getElem?_map] at hy
    cases kq : qs[i]? with
    | none => rw [kq] at hy; cases hy
    | some q =>
      rw [kq] at hy
      have hy : fr q = y := Option.some.inj hy
      subst hy
      have hi := (List.getElem?_eq_some_iff.mp kq).1
      have b1 : bd 4400 (addUp (qs.take i)) := (addUp_bd (qs.take i) bd_zero fun y hy => hb' y (List.mem_of_mem_take hy)).mono (by rw [List.length_take]; omega)
      have b2 : bd 4400 q := (hb q (List.mem_of_getElem? kq)).mono (by decide)
      refine ⟨LS x t a b f o v (some (fr (addUp (qs.take i)))) (some (.lst (qs.map fr))) k (some (fr q)) l, rfl, ?_⟩
      refine B_set (d := fr (addUp (qs.take i) + q)) (h1 := h1) (E_call G.plus (ds := [fr (addUp (qs.take i)), fr q]) (h1 := h1) rfl (bin_eq ⟨b1, b2⟩ h1)) (B_nil ⟨some (fr q), ?_, rfl⟩)
      have e : qs.take (i + 1) = qs.take i ++ [q] := by rw [List.take_succ, kq]; rfl
      rw [e]
      unfold addUp
      rw [List.foldl_append]
      rfl
  · rintro σ h1 ⟨n, rfl, rfl⟩
    rw [List.length_map, List.take_length]
    obtain ⟨qs', p1, p2⟩ := sorted_fr qs h1
    have s1 := sum_eq hl hb' h1
    have s2 : d_sum_of [.tup (qs.reverse.map fr)] h1 = .ok (fr (addUp qs)) h1 := by
      rw [sum_eq (by rw [List.length_reverse]; exact hl) (fun q hq => hb' q (List.mem_reverse.mp hq)), addUp_perm (List.reverse_perm qs)]
    have s3 : d_sum_of [.tup (qs'.map fr)] h1 = .ok (fr (addUp qs)) h1 := by
      rw [sum_eq (by rw [← p1.length_eq]; exact hl) (fun q hq => hb' q (p1.mem_iff.mpr hq)), addUp_perm p1.symm]
    have v9 : evE Γ (.v 9) (LS x t a b f o v (some (fr (addUp qs))) (some (.lst (qs.map fr))) k n l) h1 = .ok (.lst (qs.map fr)) h1 := rfl
    have rv : evE Γ (.rev (.v 9)) (LS x t a b f o v (some (fr (addUp qs))) (some (.lst (qs.map fr))) k n l) h1 = .ok (.lst (qs.reverse.map fr)) h1 := by
      rw [List.map_reverse]
      rfl
    refine B_set (d := .lst [fr (addUp qs), fr (addUp qs), fr (addUp qs)]) (h1 := h1) (E_lst (Es_cons (E_call G.sum (Es_cons (E_bi1 v9 (bi_tupL _ _)) Es_nil) s1) (Es_cons (E_call G.sum (Es_cons (E_bi1 rv (bi_tupL _ _)) Es_nil) s2) (Es_cons (E_callk G.sum (ds := []) Es_nil (Es_cons (E_bi1 (E_bi1 v9 p2) (bi_tupL _ _)) Es_nil) s3) Es_nil))) l3) ?_
    refine B_ifN (h1 := h1) (T_not (t := true) (T_call (E_call G.alike (ds := [.lst [fr (addUp qs), fr (addUp qs), fr (addUp qs)], .lst [fr (addUp qs), fr (addUp qs), fr (addUp qs)]]) (h1 := h1) (Es_cons rfl (Es_cons (E_lst (Es_cons rfl (Es_cons rfl (Es_cons rfl Es_nil))) l3) Es_nil)) (alike_eq rfl h1)))) ?_
    exact B_nil (fin _ _ _)
theorem turn_ok {x : D} {i : Nat} {σ : Sg} {h : Hm} (I : LI x σ h) {P : Po} (fin : ∀ σ' h', LI x σ' h' → P.nx σ' h') : wpB Γ turnB (σ.set 2 (some (.int i))) h P := by
  obtain ⟨t, a, b, f, o, v, d, m, k, n, l, s0, rfl, e⟩ := I
  show wpB Γ turnB (LS (some x) (some (.int i)) a b f o v d m k n l) h P
  unfold turnB b_law
  dsimp only
  refine B_par (E_any G.any rfl e (putS_self e).symm) (E_any G.any rfl e rfl) ?_
  have b1 := any_bd s0
  generalize (anyF s0).1 = one at b1
  have b2 := any_bd (anyF s0).2
  generalize (anyF (anyF s0).2).1 = other at b2
  generalize (anyF (anyF s0).2).2 = s2
  show wpB Γ _ (LS (some x) (some (.int i)) (some (fr one)) (some (fr other)) f o v d m k n l) (putS h 1 0 s2) P
  have b3 := any_bd s2
  refine B_ifN (T_not (t := true) (T_call (E_call G.hand (Es_cons (d := fr one) rfl (Es_cons (d := fr other) rfl (Es_cons (E_any G.any rfl e rfl) Es_nil))) (handed_eq (b1.mono (by decide)) (b2.mono (by decide)) (b3.mono (by decide)) _)))) ?_
  generalize (anyF s2).2 = s3
  -- pairs
  have neg : ∀ h, evE Γ (.tup (.cons (.neg (.ix (.v 3) (.int 0))) (.cons (.ix (.v 3) (.int 1)) .nil))) (LS (some x) (some (.int i)) (some (fr one)) (some (fr other)) f o v d m k n l) h = .ok (fr (-one)) h := fun h => by
    unfold LS fr
    rw [Rat.neg_num, Rat.neg_den]
    walk_at "mini ew"
  have i1 := dropF_lo s3 (show (0 : Int) < 4 by decide)
  have i2 := dropF_hi s3 (show (0 : Int) < 4 by decide)
  refine B_ifN (T_not (t := true) (T_call (E_call G.pair (Es_cons (d := fr one) rfl (Es_cons (E_ix (E_lst (Es_cons (d := fr one) rfl (Es_cons (d := fr other) rfl (Es_cons (d := fr other) rfl (Es_cons (neg _) Es_nil)))) (show 4 ≤ 1000 by decide)) (E_dropL G.drop rfl e rfl (by decide) (by decide)) (by rw [ix_lst, two_at i1 i2])) Es_nil)) (bin_eq ⟨b1.mono (by decide), two_bd (b1.mono (by decide)) (b2.mono (by decide)) _⟩ _)))) ?_
  generalize (dropF s3 4).2 = s4
  -- the factor
  have j1 := dropF_lo s4 (show (0 : Int) < 6 by decide)
  have j2 := dropF_hi s4 (show (0 : Int) < 6 by decide)
  have fc := fac_rng (dropF s4 6).1
  refine B_set (E_ix (E_lst (Es_cons (d := .int 1) rfl (Es_cons (d := .int (-1)) rfl (Es_cons (d := .int 2) rfl (Es_cons (d := .int (-6)) rfl (Es_cons (d := .int 100) rfl (Es_cons (E_pow pow12) Es_nil)))))) (show 6 ≤ 1000 by decide)) (E_dropL G.drop rfl e rfl (by decide) (by decide)) (show ixD (.lst [.int 1, .int (-1), .int 2, .int (-6), .int 100, .int (10 ^ 12)]) (.int (dropF s4 6).1) (putS h 1 0 (dropF s4 6).2) = _ by rw [ix_lst, fac_at j1 j2])) ?_
  generalize facF (dropF s4 6).1 = fac at fc
  generalize (dropF s4 6).2 = s5
  show wpB Γ _ (LS (some x) (some (.int i)) (some (fr one)) (some (fr other)) (some (.int fac)) o v d m k n l) (putS h 1 0 s5) P
  have m1 : mulOk one.num fac = true := mulOk_bd b1.1 fc.2 (by decide) (by decide) (by decide)
  have m2 : mulOk (one.den : Int) fac = true := mulOk_bd (denN b1) fc.2 (by decide) (by decide) (by decide)
  have okd : okDen ((one.den : Int) * fac) = true := okDen_bd (n := 133 + 40) (Int.mul_ne_zero (den_ne one) fc.1) (prod_lt (denN b1) fc.2) (by decide) (by decide)
  have fe : d_fraction [.int (one.num * fac), .int (one.den * fac)] (putS h 1 0 s5) = .ok (fr one) (putS h 1 0 s5) := by
    show Res.guard (okDen ((one.den : Int) * fac)) _ = _
    rw [okd, divInt_scale fc.1]
    rfl
  have nf : ∀ h, evE Γ (.op2 .mul (.ix (.v 3) (.int 0)) (.v 5)) (LS (some x) (some (.int i)) (some (fr one)) (some (fr other)) (some (.int fac)) o v d m k n l) h = .ok (.int (one.num * fac)) h := fun h => by
    unfold LS fr
    walk_at "mini ew"
    rw [m1]
    walk_at "mini ew"
  have df : ∀ h, evE Γ (.op2 .mul (.ix (.v 3) (.int 1)) (.v 5)) (LS (some x) (some (.int i)) (some (fr one)) (some (fr other)) (some (.int fac)) o v d m k n l) h = .ok (.int (one.den * fac)) h := fun h => by
    unfold LS fr
    walk_at "mini ew"
    rw [m2]
    walk_at "mini ew"
  refine B_ifN (T_not (t := true) (T_call (E_call G.alike (ds := [.lst [fr one, fr one], .lst [fr one, fr one]]) (h1 := putS h 1 0 s5) (Es_cons (E_lst (Es_cons (E_call G.frac (Es_cons (nf _) (Es_cons (df _) Es_nil)) fe) (Es_cons (E_callk G.frac (ds := []) Es_nil (Es_cons (df _) (Es_cons (nf _) Es_nil)) fe) Es_nil)) (show 2 ≤ 1000 by decide)) (Es_cons (E_lst (Es_cons (d := fr one) rfl (Es_cons (d := fr one) rfl Es_nil)) (show 2 ≤ 1000 by decide)) Es_nil)) (alike_eq rfl _)))) ?_
  -- the values
  refine B_set (d := .lst (valsA one)) (h1 := putS h 1 0 s5) ?_ ?_
  · unfold LS fr valsA fr
    walk_at "mini ew"
    rw [mulOk_r (i := one.num) (j := 2) (by decide) (by decide)]
    walk_at "mini ew"
    rw [mulOk_r (i := (one.den : Int)) (j := 2) (by decide) (by decide)]
    walk_at "mini ew"
  show wpB Γ _ (LS (some x) (some (.int i)) (some (fr one)) (some (fr other)) (some (.int fac)) (some (.lst (valsA one))) v d m k n l) (putS h 1 0 s5) P
  refine vals_for G b1 rfl fun v d => ?_
  -- many
  have cnt : ∃ c : Int, (c = 10 ∨ c = 31) ∧ evE Γ (.ix (.lst (.cons (.int 10) (.cons (.int 31) .nil))) (.bi .int (.cons (.cmp .eq (.v 2) (.int 0)) .nil))) (LS (some x) (some (.int i)) (some (fr one)) (some (fr other)) (some (.int fac)) (some (.lst (valsA one))) v d m k n l) (putS h 1 0 s5) = .ok (.int c) (putS h 1 0 s5) := by
    by_cases c : (i : Int) = 0
    · refine ⟨31, .inr rfl, E_ix (E_lst (Es_cons (d := .int 10) rfl (Es_cons (d := .int 31) rfl Es_nil)) (show 2 ≤ 1000 by decide)) (E_bi1 (E_cmp (d := .int i) (d2 := .int 0) rfl rfl (by rw [cm_eq, eq_int, decide_eq_true c])) (bi_intB true _)) rfl⟩
    · refine ⟨10, .inl rfl, E_ix (E_lst (Es_cons (d := .int 10) rfl (Es_cons (d := .int 31) rfl Es_nil)) (show 2 ≤ 1000 by decide)) (E_bi1 (E_cmp (d := .int i) (d2 := .int 0) rfl rfl (by rw [cm_eq, eq_int, decide_eq_false c])) (bi_intB false _)) rfl⟩
  obtain ⟨c, c1, c2⟩ := cnt
  have c0 : 0 < c := by omega
  have cl : c.natAbs.log2 < 9000 := by rcases c1 with rfl | rfl <;> decide
  have n1 := dropF_lo s5 c0
  have n2 := dropF_hi s5 c0
  have ed := E_dropL G.drop (σ := LS (some x) (some (.int i)) (some (fr one)) (some (fr other)) (some (.int fac)) (some (.lst (valsA one))) v d m k n l) rfl e c2 c0 cl
  have en : ((dropF s5 c).1.toNat : Int) = (dropF s5 c).1 := Int.toNat_of_nonneg n1
  rw [← en] at ed
  obtain ⟨qs, h3, s6, q1, q2, q3, q4⟩ := E_many G.any (σ := LS (some x) (some (.int i)) (some (fr one)) (some (fr other)) (some (.int fac)) (some (.lst (valsA one))) v d m k n l) rfl e (I_rng1 ed (by omega)) (by omega)
  refine B_set q3 ?_
  show wpB Γ _ (LS (some x) (some (.int i)) (some (fr one)) (some (fr other)) (some (.int fac)) (some (.lst (valsA one))) v d (some (.lst (qs.map fr))) k n l) h3 P
  exact sums_ok G (by omega) q2 fun d n l => fin _ _ ⟨_, _, _, _, _, _, _, _, _, _, _, s6, rfl, q4⟩
theorem B_law : BodyOk Γ c_law.N b_law d_law := by
  intro ds h r h' e
  match ds, e with
  | [.lst xs], e =>
    have e : (match intsOf xs with
      | some zs => Res.guard (decide (zs.length ≤ 63) && h.isEmpty) (Res.ok (D.bl true) [])
      | none => .stuck) = .ok r h' := e
    cases k : intsOf xs with
    | none => rw [k] at e; cases e
    | some zs =>
      rw [k] at e
      obtain ⟨ho, e⟩ := guard_ok e
      obtain ⟨rfl, rfl⟩ := ok_inj e
      rw [Bool.and_eq_true, decide_eq_true_eq, List.isEmpty_iff] at ho
      obtain ⟨hl, rfl⟩ := ho
      have ex := ints_eq k
      subst ex
      rw [b_law_eq]
      show wpB Γ _ [some (.lst (zs.map .int)), none, none, none, none, none, none, none, none, none, none, none, none] [] _
      refine B_set (E_call G.spring (ds := [.lst (zs.map .int)]) (h1 := []) rfl (spring_eq (by omega) [])) ?_
      refine B_for (fun _ σ h1 => LI (.lst (zs.map .int)) σ h1) (I_rng1 (n := 8) rfl (by decide)) ⟨none, none, none, none, none, none, none, none, none, none, none, ⟨greatZ zs, mixF zs, 0⟩, rfl, sprOf_mk rfl rfl (by decide)⟩ ?_ ?_
      · intro i y σ h1 hy I
        obtain ⟨_, rfl⟩ := rngD_get _ _ _ _ hy
        refine ⟨_, rfl, ?_⟩
        rw [Int.zero_add]
        exact turn_ok G I fun σ' h' I' => I'
      · intro σ h1 I
        refine B_ret (d := .bl true) (h1 := h1) rfl ?_
        exact .cut (m := 0) (Nat.le_refl _) (Nat.zero_le _) rfl (fun i o hi => absurd hi (Nat.not_lt_zero _)) .refl
end

/-! all together -/
local macro_rules | `(tactic| walk_at "mini ar1") => `(tactic| (intro ds h r h' e; rcases ds with _ | ⟨a, _ | ⟨b, t⟩⟩ <;> first | rfl | cases e | (cases a <;> cases e)))
local macro_rules | `(tactic| walk_at "mini ar2") => `(tactic| (intro ds h r h' e; rcases ds with _ | ⟨a, _ | ⟨b, _ | ⟨c, t⟩⟩⟩ <;> first | rfl | cases e | (cases a <;> cases e) | (cases a <;> cases b <;> cases e)))
local macro_rules | `(tactic| walk_at "mini ar3") => `(tactic| (intro ds h r h' e; rcases ds with _ | ⟨a, _ | ⟨b, _ | ⟨c, _ | ⟨d, t⟩⟩⟩⟩ <;> first | rfl | cases e | (cases a <;> cases e) | (cases a <;> cases b <;> cases e)))
local macro_rules | `(tactic| walk_at "mini bd1") => `(tactic| exact fun _ _ _ _ _ _ us hl => match us, hl with | [_], _ => rfl)
local macro_rules | `(tactic| walk_at "mini bd2") => `(tactic| exact fun _ _ _ _ _ _ us hl => match us, hl with | [_, _], _ => rfl)
local macro_rules | `(tactic| walk_at "mini bd3") => `(tactic| exact fun _ _ _ _ _ _ us hl => match us, hl with | [_, _, _], _ => rfl)
local macro_rules | `(tactic| walk_at "mini kd1") => `(tactic| exact fun _ _ _ _ _ _ us ws hl hw => match us, ws, hl, hw with | [], [_], _, _ => rfl)
local macro_rules | `(tactic| walk_at "mini kd2") => `(tactic| exact fun _ _ _ _ _ _ us ws hl hw => match us, ws, hl, hw with | [], [_, _], _, _ => rfl)
theorem n_bin {c : Rat → Rat → Prop} {f : Rat → Rat → D} : ∀ ds h r h', d_bin c f ds h = .ok r h' → ds.length = 2 := by
  intro ds h r h' e
  obtain ⟨p, q, rfl, _⟩ := bin_of e
  rfl
theorem n_means : ∀ ds h r h', d_law_means ds h = .ok r h' → ds.length = 3 := by
  intro ds h r h' e
  unfold d_law_means at e
  split at e <;> first | rfl | cases e
structure Defs (K : PySem.W.Frag) : Prop where
  is_integer : DefAt K "is_integer" s_is_integer
  common : DefAt K "common" s_common
  lowest : DefAt K "lowest" s_lowest
  is_fraction : DefAt K "is_fraction" s_is_fraction
  check_fractions : DefAt K "check_fractions" s_check_fractions
  fraction : DefAt K "fraction" s_fraction
  plus : DefAt K "plus" s_plus
  minus : DefAt K "minus" s_minus
  times : DefAt K "times" s_times
  over : DefAt K "over" s_over
  below : DefAt K "below" s_below
  sum_of : DefAt K "sum_of" s_sum_of
  spring : DefAt K "_law_spring" s_law_spring
  drop : DefAt K "_law_drop" s_law_drop
  kinds : DefAt K "_law_kinds" s_law_kinds
  alike : DefAt K "_law_alike" s_law_alike
  low : DefAt K "_law_low" s_law_low
  lplus : DefAt K "_law_plus" s_law_plus
  number : DefAt K "_law_number" s_law_number
  is : DefAt K "_law_is" s_law_is
  means : DefAt K "_law_means" s_law_means
  pair : DefAt K "_law_pair_right" s_law_pair_right
  any : DefAt K "_law_any" s_law_any
  hand : DefAt K "_law_handed_on_right" s_law_handed_on_right
  law : DefAt K "law" s_law
theorem all_mk {P : Program} {w : World} {K : PySem.W.Frag} {h : Heap} {mg : Str → Option Value} {fa aN : Addr} {t u : Tok} {n : Nat} {osl : Array (Option Value)} (X : K.In h) (G : h.Ns mainGlobals mg) (hfa : mg "law" = some (.ref fa)) (A : Defs K)
    (nN : PySem.W.nsIn K mainGlobals "NOUGHT" = some (some (.ref aN))) (lN : K.lookup aN = some ⟨.type "tuple", none, .seq #[.int 0 t, .int 1 u] n, osl⟩)
    (bi : ∀ x ∈ bNames, PySem.W.nsIn K mainGlobals x = some none) :
    ∃ fd : FuncData, (∀ (s : Shared) (u : Value), BindsTo s fd ⟨[u], []⟩ [("script", u)]) ∧ ∀ base : Heap, K.In base → base.Ns mainGlobals mg → FnOk P w K mg base CX0 9 fa fd ["script"] (spD K 1 d_law) := by
  have B : ∀ x ∈ bNames, mg x = none := fun x hx => PySem.W.mg_none_of X G (bi x hx)
  have E0 : ∀ base k (c : Ctx), c.kw = [] → EnvOk P w K mg base k c (gamL [] []) := fun base k c hk => env_mk B trivial (by rw [hk]; trivial) trivial
  refine law_step (k := 8) (c := c_law) (Γ := gamL [(n_is_fraction, d_is_fraction), (n_fraction, d_fraction), (n_sum_of, d_sum_of), (n_law_spring, d_law_spring), (n_law_drop, d_law_drop), (n_law_alike, d_law_alike 3), (n_law_plus, d_plus), (n_law_is, d_law_is), (n_law_pair_right, d_law_pair_right), (n_law_any, d_law_any), (n_law_handed_on_right, d_law_handed_on_right)] []) A.law X G hfa f_law rfl rfl (fun base => ?_) k_law (fun _ _ _ _ _ _ _ => rfl) (by walk_at "mini ar1") (B_law ⟨rfl, rfl, rfl, rfl, rfl, rfl, rfl, rfl, rfl, rfl, rfl⟩)
  have F_int : FnAt P w K mg base 1 "is_integer" d_is_integer := fn_step (c := c_is_integer) (ps := ["value"]) A.is_integer X G f_is_integer rfl rfl (E0 base 0 _ rfl) k_is_integer (by walk_at "mini bd1") (by walk_at "mini ar1") B_is_integer
  have F_com : FnAt P w K mg base 1 "common" d_common := fn_step (c := c_common) (ps := ["one", "other"]) A.common X G f_common rfl rfl (E0 base 0 _ rfl) k_common (by walk_at "mini bd2") (by walk_at "mini ar2") B_common
  have F_low : FnAt P w K mg base 2 "lowest" d_lowest := fn_step (c := c_lowest) (ps := ["top", "bottom"]) (Γ := gamL [(n_common, d_common)] []) A.lowest X G f_lowest rfl rfl (env_mk B ⟨⟨_, rfl, F_com⟩, trivial⟩ trivial trivial) k_lowest (by walk_at "mini bd2") (by walk_at "mini ar2") (B_lowest rfl)
  have E_isf : EnvOk P w K mg base 1 c_is_fraction (gamL [(n_common, d_common), (n_is_integer, d_is_integer)] []) := env_mk B ⟨⟨_, rfl, F_com⟩, ⟨_, rfl, F_int⟩, trivial⟩ trivial trivial
  have F_isf : FnAt P w K mg base 2 "is_fraction" d_is_fraction := fn_step (c := c_is_fraction) (ps := ["value"]) A.is_fraction X G f_is_fraction rfl rfl E_isf k_is_fraction (by walk_at "mini bd1") (by walk_at "mini ar1") (B_is_fraction rfl rfl)
  have K_isf : FnKAt P w K mg base 2 "is_fraction" d_is_fraction 0 ["value"] [0] := fnk_step (c := c_is_fraction) (ps := ["value"]) A.is_fraction X G f_is_fraction rfl rfl E_isf k_is_fraction (by walk_at "mini kd1") (by walk_at "mini ar1") (B_is_fraction rfl rfl)
  have F_chk : FnAt P w K mg base 3 "check_fractions" d_check_fractions := fn_step (c := c_check_fractions) (ps := ["numbers"]) (Γ := gamL [(n_is_fraction, d_is_fraction)] []) A.check_fractions X G f_check_fractions rfl rfl (env_mk B ⟨⟨_, rfl, F_isf⟩, trivial⟩ trivial trivial) k_check_fractions (by walk_at "mini bd1") (by walk_at "mini ar1") (B_check_fractions rfl)
  have E_fra : EnvOk P w K mg base 2 c_fraction (gamL [(n_is_integer, d_is_integer), (n_lowest, d_lowest)] []) := env_mk B ⟨⟨_, rfl, F_int.mono (by decide)⟩, ⟨_, rfl, F_low⟩, trivial⟩ trivial trivial
  have F_fra : FnAt P w K mg base 3 "fraction" d_fraction := fn_step (c := c_fraction) (ps := ["top", "bottom"]) A.fraction X G f_fraction rfl rfl E_fra k_fraction (by walk_at "mini bd2") (by walk_at "mini ar2") (B_fraction rfl rfl)
  have K_fra : FnKAt P w K mg base 3 "fraction" d_fraction 0 ["bottom", "top"] [1, 0] := fnk_step (c := c_fraction) (ps := ["top", "bottom"]) A.fraction X G f_fraction rfl rfl E_fra k_fraction (by walk_at "mini kd2") (by walk_at "mini ar2") (B_fraction rfl rfl)
  have EA : ∀ c : Ctx, c.fnm = fnm → c.kw = [] → EnvOk P w K mg base 3 c (gamL [(n_lowest, d_lowest), (n_check_fractions, d_check_fractions)] []) := fun c hf hk => env_mk B ⟨⟨"lowest", by rw [hf]; rfl, F_low.mono (by decide)⟩, ⟨"check_fractions", by rw [hf]; rfl, F_chk⟩, trivial⟩ (by rw [hk]; trivial) trivial
  have F_pl : FnAt P w K mg base 4 "plus" d_plus := fn_step (c := c_plus) (ps := ["one", "other"]) A.plus X G f_plus rfl rfl (EA _ rfl rfl) k_plus (by walk_at "mini bd2") n_bin (B_plus rfl rfl)
  have K_pl : FnKAt P w K mg base 4 "plus" d_plus 0 ["other", "one"] [1, 0] := fnk_step (c := c_plus) (ps := ["one", "other"]) A.plus X G f_plus rfl rfl (EA _ rfl rfl) k_plus (by walk_at "mini kd2") n_bin (B_plus rfl rfl)
  have F_mi : FnAt P w K mg base 4 "minus" d_minus := fn_step (c := c_minus) (ps := ["one", "other"]) A.minus X G f_minus rfl rfl (EA _ rfl rfl) k_minus (by walk_at "mini bd2") n_bin (B_minus rfl rfl)
  have K_mi : FnKAt P w K mg base 4 "minus" d_minus 0 ["other", "one"] [1, 0] := fnk_step (c := c_minus) (ps := ["one", "other"]) A.minus X G f_minus rfl rfl (EA _ rfl rfl) k_minus (by walk_at "mini kd2") n_bin (B_minus rfl rfl)
  have F_ti : FnAt P w K mg base 4 "times" d_times := fn_step (c := c_times) (ps := ["one", "other"]) A.times X G f_times rfl rfl (EA _ rfl rfl) k_times (by walk_at "mini bd2") n_bin (B_times rfl rfl)
  have K_ti : FnKAt P w K mg base 4 "times" d_times 0 ["other", "one"] [1, 0] := fnk_step (c := c_times) (ps := ["one", "other"]) A.times X G f_times rfl rfl (EA _ rfl rfl) k_times (by walk_at "mini kd2") n_bin (B_times rfl rfl)
  have F_ov : FnAt P w K mg base 4 "over" d_over := fn_step (c := c_over) (ps := ["one", "other"]) A.over X G f_over rfl rfl (EA _ rfl rfl) k_over (by walk_at "mini bd2") n_bin (B_over rfl rfl)
  have K_ov : FnKAt P w K mg base 4 "over" d_over 0 ["other", "one"] [1, 0] := fnk_step (c := c_over) (ps := ["one", "other"]) A.over X G f_over rfl rfl (EA _ rfl rfl) k_over (by walk_at "mini kd2") n_bin (B_over rfl rfl)
  have F_be : FnAt P w K mg base 4 "below" d_below := fn_step (c := c_below) (ps := ["one", "other"]) A.below X G f_below rfl rfl (EA _ rfl rfl) k_below (by walk_at "mini bd2") n_bin (B_below rfl)
  have K_be : FnKAt P w K mg base 4 "below" d_below 0 ["other", "one"] [1, 0] := fnk_step (c := c_below) (ps := ["one", "other"]) A.below X G f_below rfl rfl (EA _ rfl rfl) k_below (by walk_at "mini kd2") n_bin (B_below rfl)
  have E_sum : EnvOk P w K mg base 3 c_sum_of (gamL [(n_lowest, d_lowest), (n_check_fractions, d_check_fractions)] [(0, .tup [.int 0, .int 1])]) := env_mk B ⟨⟨_, rfl, F_low.mono (by decide)⟩, ⟨_, rfl, F_chk⟩, trivial⟩ trivial ⟨gl_pair rfl X G nN lN, trivial⟩
  have F_sum : FnAt P w K mg base 4 "sum_of" d_sum_of := fn_step (c := c_sum_of) (ps := ["numbers"]) A.sum_of X G f_sum_of rfl rfl E_sum k_sum_of (by walk_at "mini bd1") (by walk_at "mini ar1") (B_sum_of rfl rfl rfl)
  have K_sum : FnKAt P w K mg base 4 "sum_of" d_sum_of 0 ["numbers"] [0] := fnk_step (c := c_sum_of) (ps := ["numbers"]) A.sum_of X G f_sum_of rfl rfl E_sum k_sum_of (by walk_at "mini kd1") (by walk_at "mini ar1") (B_sum_of rfl rfl rfl)
  have F_spr : FnAt P w K mg base 1 "_law_spring" d_law_spring := fn_step (c := c_law_spring) (ps := ["script"]) A.spring X G f_law_spring rfl rfl (E0 base 0 _ rfl) k_law_spring (by walk_at "mini bd1") (by walk_at "mini ar1") B_law_spring
  have F_dro : FnAt P w K mg base 1 "_law_drop" d_law_drop := fn_step (c := c_law_drop) (ps := ["spring", "many"]) A.drop X G f_law_drop rfl rfl (E0 base 0 _ rfl) k_law_drop (by walk_at "mini bd2") (by walk_at "mini ar2") B_law_drop
  have F_kin : FnAt P w K mg base 1 "_law_kinds" d_law_kinds := fn_step (c := c_law_kinds) (ps := ["thing"]) A.kinds X G f_law_kinds rfl rfl (E0 base 0 _ rfl) k_law_kinds (by walk_at "mini bd1") (by walk_at "mini ar1") B_law_kinds
  have A0 : FnAt P w K mg base 2 "_law_alike" (d_law_alike 0) := fn_step (c := c_law_alike) (ps := ["found", "due"]) (Γ := gamL [(n_law_kinds, d_law_kinds)] []) A.alike X G f_law_alike rfl rfl (env_mk B ⟨⟨_, rfl, F_kin⟩, trivial⟩ trivial trivial) k_law_alike (by walk_at "mini bd2") (by walk_at "mini ar2") (B_law_alike (by decide) rfl fun j e => by cases e)
  have AS : ∀ j, j < 64 → FnAt P w K mg base (j + 2) "_law_alike" (d_law_alike j) → FnAt P w K mg base (j + 3) "_law_alike" (d_law_alike (j + 1)) := fun j hj F => fn_step (c := c_law_alike) (ps := ["found", "due"]) (Γ := gamL [(n_law_kinds, d_law_kinds), (n_law_alike, d_law_alike j)] []) A.alike X G f_law_alike rfl rfl (env_mk B ⟨⟨_, rfl, F_kin.mono (by omega)⟩, ⟨_, rfl, F⟩, trivial⟩ trivial trivial) k_law_alike (by walk_at "mini bd2") (by walk_at "mini ar2") (B_law_alike (by omega) rfl fun i e => by cases e; rfl)
  have A3 : FnAt P w K mg base 5 "_law_alike" (d_law_alike 3) := AS 2 (by decide) (AS 1 (by decide) (AS 0 (by decide) A0))
  have F_ll : FnAt P w K mg base 1 "_law_low" d_lowest := fn_step (c := c_law_low) (ps := ["top", "bottom"]) A.low X G f_law_low rfl rfl (E0 base 0 _ rfl) k_law_low (by walk_at "mini bd2") (by walk_at "mini ar2") B_law_low
  have F_lp : FnAt P w K mg base 2 "_law_plus" d_plus := fn_step (c := c_law_plus) (ps := ["one", "other"]) (Γ := gamL [(n_law_low, d_lowest)] []) A.lplus X G f_law_plus rfl rfl (env_mk B ⟨⟨_, rfl, F_ll⟩, trivial⟩ trivial trivial) k_law_plus (by walk_at "mini bd2") n_bin (B_law_plus rfl)
  have F_nu : FnAt P w K mg base 2 "_law_number" d_law_number := fn_step (c := c_law_number) (ps := ["spring"]) (Γ := gamL [(n_law_drop, d_law_drop), (n_law_low, d_lowest)] []) A.number X G f_law_number rfl rfl (env_mk B ⟨⟨_, rfl, F_dro⟩, ⟨_, rfl, F_ll⟩, trivial⟩ trivial trivial) k_law_number (by walk_at "mini bd1") (by walk_at "mini ar1") (B_law_number rfl rfl)
  have F_is : FnAt P w K mg base 2 "_law_is" d_law_is := fn_step (c := c_law_is) (ps := ["value"]) (Γ := gamL [(n_law_low, d_lowest)] []) A.is X G f_law_is rfl rfl (env_mk B ⟨⟨_, rfl, F_ll⟩, trivial⟩ trivial trivial) k_law_is (by walk_at "mini bd1") (by walk_at "mini ar1") (B_law_is rfl)
  have F_me : FnAt P w K mg base 3 "_law_means" d_law_means := fn_step (c := c_law_means) (ps := ["found", "top", "bottom"]) (Γ := gamL [(n_law_is, d_law_is)] []) A.means X G f_law_means rfl rfl (env_mk B ⟨⟨_, rfl, F_is⟩, trivial⟩ trivial trivial) k_law_means (by walk_at "mini bd3") n_means (B_law_means rfl)
  have F_an : FnAt P w K mg base 3 "_law_any" d_law_any := fn_step (c := c_law_any) (ps := ["spring"]) (Γ := gamL [(n_law_drop, d_law_drop), (n_law_low, d_lowest), (n_law_number, d_law_number)] []) A.any X G f_law_any rfl rfl (env_mk B ⟨⟨_, rfl, F_dro.mono (by decide)⟩, ⟨_, rfl, F_ll.mono (by decide)⟩, ⟨_, rfl, F_nu⟩, trivial⟩ trivial trivial) k_law_any (by walk_at "mini bd1") (by walk_at "mini ar1") (B_law_any rfl rfl rfl)
  have F_ha : FnAt P w K mg base 5 "_law_handed_on_right" d_law_handed_on_right := fn_step (c := c_law_handed_on_right) (ps := ["a", "b", "c"]) (Γ := gamL [(n_plus, d_plus), (n_minus, d_minus), (n_times, d_times), (n_over, d_over), (n_below, d_below)] []) A.hand X G f_law_handed_on_right rfl rfl (env_mk B ⟨⟨_, rfl, F_pl⟩, ⟨_, rfl, F_mi⟩, ⟨_, rfl, F_ti⟩, ⟨_, rfl, F_ov⟩, ⟨_, rfl, F_be⟩, trivial⟩ trivial trivial) k_law_handed_on_right (by walk_at "mini bd3") (by walk_at "mini ar3") (B_law_handed_on_right rfl rfl rfl rfl rfl)
  have F_pa : FnAt P w K mg base 6 "_law_pair_right" d_law_pair_right := fn_step (c := c_law_pair_right) (ps := ["one", "other"]) (Γ := gamL [(n_plus, d_plus), (n_minus, d_minus), (n_times, d_times), (n_over, d_over), (n_below, d_below), (n_law_means, d_law_means), (n_law_alike, d_law_alike 3)] []) A.pair X G f_law_pair_right rfl rfl
    (env_mk B ⟨⟨_, rfl, F_pl.mono (by decide)⟩, ⟨_, rfl, F_mi.mono (by decide)⟩, ⟨_, rfl, F_ti.mono (by decide)⟩, ⟨_, rfl, F_ov.mono (by decide)⟩, ⟨_, rfl, F_be.mono (by decide)⟩, ⟨_, rfl, F_me.mono (by decide)⟩, ⟨_, rfl, A3⟩, trivial⟩
      ⟨fun den hd => by cases hd; exact ⟨_, rfl, K_mi.mono (by decide)⟩, fun den hd => by cases hd; exact ⟨_, rfl, K_pl.mono (by decide)⟩, fun den hd => by cases hd; exact ⟨_, rfl, K_ti.mono (by decide)⟩, fun den hd => by cases hd; exact ⟨_, rfl, K_ov.mono (by decide)⟩, fun den hd => by cases hd; exact ⟨_, rfl, K_be.mono (by decide)⟩, trivial⟩ trivial)
    k_law_pair_right (by walk_at "mini bd2") n_bin (B_law_pair_right rfl rfl rfl rfl rfl rfl rfl)
  exact env_mk B ⟨⟨_, rfl, F_isf.mono (by decide)⟩, ⟨_, rfl, F_fra.mono (by decide)⟩, ⟨_, rfl, F_sum.mono (by decide)⟩, ⟨_, rfl, F_spr.mono (by decide)⟩, ⟨_, rfl, F_dro.mono (by decide)⟩, ⟨_, rfl, A3.mono (by decide)⟩, ⟨_, rfl, F_lp.mono (by decide)⟩, ⟨_, rfl, F_is.mono (by decide)⟩, ⟨_, rfl, F_pa.mono (by decide)⟩, ⟨_, rfl, F_an.mono (by decide)⟩, ⟨_, rfl, F_ha.mono (by decide)⟩, trivial⟩
    ⟨fun den hd => by cases hd; exact ⟨_, rfl, K_fra.mono (by decide)⟩, fun den hd => by cases hd; exact ⟨_, rfl, K_isf.mono (by decide)⟩, fun den hd => by cases hd; exact ⟨_, rfl, K_sum.mono (by decide)⟩, trivial⟩ trivial

end K01
end Mn
open PySem PySem.W PyProof.Rows
set_option maxRecDepth 100000 in
set_option maxHeartbeats 0 in
theorem PySem.Challenge.cw_drawntold_k01_fractions_made_and_summed_holds : PySem.Challenge.rw_drawntold_k01_fractions_made_and_summed.Holds := by
  w_on; o_law; k_head; (case hw => w_witness2)
  k_fill
  refine Mn.law_walk (l := PySem.Challenge.rw_drawntold_k01_fractions_made_and_summed) (den := Mn.K01.d_law) (k := 9) rfl rfl ⟨rfl, by decide, by decide⟩ (fun w h Y => PySem.W.kIn_of Y) (fun zs hz => ⟨[], Mn.K01.law_eq hz⟩) ?F
  case F =>
    intro w mg fa h KX G hmg
    refine' Mn.K01.all_mk KX G hmg ⟨?d1, ?d2, ?d3, ?d4, ?d5, ?d6, ?d7, ?d8, ?d9, ?d10, ?d11, ?d12, ?d13, ?d14, ?d15, ?d16, ?d17, ?d18, ?d19, ?d20, ?d21, ?d22, ?d23, ?d24, ?d25⟩ ?nN ?lN (Mn.bi_of ?z0 ?z1 ?z2 ?z3 ?z4 ?z5 ?z6 ?z7 ?z8 ?z9 ?z10 ?z11 ?z12 ?z13 ?z14 ?z15 ?z16 ?z17)
    case' d1 => refine' Mn.def_at ?a ?l ?c ?k; (case a => k_is); (case l => k_is); (case c => k_is); (case k => k_is)
    case' d2 => refine' Mn.def_at ?a ?l ?c ?k; (case a => k_is); (case l => k_is); (case c => k_is); (case k => k_is)
    case' d3 => refine' Mn.def_at ?a ?l ?c ?k; (case a => k_is); (case l => k_is); (case c => k_is); (case k => k_is)
    case' d4 => refine' Mn.def_at ?a ?l ?c ?k; (case a => k_is); (case l => k_is); (case c => k_is); (case k => k_is)
    case' d5 => refine' Mn.def_at ?a ?l ?c ?k; (case a => k_is); (case l => k_is); (case c => k_is); (case k => k_is)
    case' d6 => refine' Mn.def_at ?a ?l ?c ?k; (case a => k_is); (case l => k_is); (case c => k_is); (case k => k_is)
    case' d7 => refine' Mn.def_at ?a ?l ?c ?k; (case a => k_is); (case l => k_is); (case c => k_is); (case k => k_is)
    case' d8 => refine' Mn.def_at ?a ?l ?c ?k; (case a => k_is); (case l => k_is); (case c => k_is); (case k => k_is)
    case' d9 => refine' Mn.def_at ?a ?l ?c ?k; (case a => k_is); (case l => k_is); (case c => k_is); (case k => k_is)
    case' d10 => refine' Mn.def_at ?a ?l ?c ?k; (case a => k_is); (case l => k_is); (case c => k_is); (case k => k_is)
    case' d11 => refine' Mn.def_at ?a ?l ?c ?k; (case a => k_is); (case l => k_is); (case c => k_is); (case k => k_is)
    case' d12 => refine' Mn.def_at ?a ?l ?c ?k; (case a => k_is); (case l => k_is); (case c => k_is); (case k => k_is)
    case' d13 => refine' Mn.def_at ?a ?l ?c ?k; (case a => k_is); (case l => k_is); (case c => k_is); (case k => k_is)
    case' d14 => refine' Mn.def_at ?a ?l ?c ?k; (case a => k_is); (case l => k_is); (case c => k_is); (case k => k_is)
    case' d15 => refine' Mn.def_at ?a ?l ?c ?k; (case a => k_is); (case l => k_is); (case c => k_is); (case k => k_is)
    case' d16 => refine' Mn.def_at ?a ?l ?c ?k; (case a => k_is); (case l => k_is); (case c => k_is); (case k => k_is)
    case' d17 => refine' Mn.def_at ?a ?l ?c ?k; (case a => k_is); (case l => k_is); (case c => k_is); (case k => k_is)
    case' d18 => refine' Mn.def_at ?a ?l ?c ?k; (case a => k_is); (case l => k_is); (case c => k_is); (case k => k_is)
    case' d19 => refine' Mn.def_at ?a ?l ?c ?k; (case a => k_is); (case l => k_is); (case c => k_is); (case k => k_is)
    case' d20 => refine' Mn.def_at ?a ?l ?c ?k; (case a => k_is); (case l => k_is); (case c => k_is); (case k => k_is)
    case' d21 => refine' Mn.def_at ?a ?l ?c ?k; (case a => k_is); (case l => k_is); (case c => k_is); (case k => k_is)
    case' d22 => refine' Mn.def_at ?a ?l ?c ?k; (case a => k_is); (case l => k_is); (case c => k_is); (case k => k_is)
    case' d23 => refine' Mn.def_at ?a ?l ?c ?k; (case a => k_is); (case l => k_is); (case c => k_is); (case k => k_is)
    case' d24 => refine' Mn.def_at ?a ?l ?c ?k; (case a => k_is); (case l => k_is); (case c => k_is); (case k => k_is)
    case' d25 => refine' Mn.def_at ?a ?l ?c ?k; (case a => k_is); (case l => k_is); (case c => k_is); (case k => k_is)
    (case nN => k_is); (case lN => k_is)
    (case z0 => k_is)
    (case z1 => k_is)
    (case z2 => k_is)
    (case z3 => k_is)
    (case z4 => k_is)
    (case z5 => k_is)
    (case z6 => k_is)
    (case z7 => k_is)
    (case z8 => k_is)
    (case z9 => k_is)
    (case z10 => k_is)
    (case z11 => k_is)
    (case z12 => k_is)
    (case z13 => k_is)
    (case z14 => k_is)
    (case z15 => k_is)
    (case z16 => k_is)
    (case z17 => k_is)
#print axioms PySem.Challenge.cw_drawntold_k01_fractions_made_and_summed_holds
