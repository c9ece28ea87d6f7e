import PyProof.Rows.All
import Wide.All
import OpenK.AllK
import Wide.FinOn
import HandS.ForMost
import HandS.ForExc
import HandS.Walk
import HandS.Zip
import HandS.Deep
import HandS.Conv
import HandS.TupAny
import HandS.TupMul
import HandS.HotCalls
import HandS.ExcCtx
import HandS.Flow
import HandS.Wide
import KE.DataMinMax
import KE.SortData
import KE.GoesEnum
import HandS.SortInts
import HandS.ExcIs
import HandS.ExcValue
import HandS.Ends
import HandS.WideBits
import PyProof.Rows.StrJoinMade
import KE.SortCalls
import PySem.Challenge.RW_openmind_k12_rows_and_their_tables
set_option Elab.async false
set_option linter.all false
set_option maxRecDepth 100000
/-! OM: plain values, a plain machine, and how it lies in the layer's heap -/
namespace OM
open PySem PySem.Spec PyProof.Rows L2
/-- plain values -/
inductive D where
  | non | bl (b : Bool) | int (i : Int) | str (x : Str) | tup (ds : List D) | lst (ds : List D) | ref (n : Nat) | scr (ns : List Int)
abbrev Mp := Nat → Option Addr
/-- a mutable object -/
inductive Ob where
  | lst (ds : List D)
abbrev Stor := List Ob
/-- a slot: nothing, a value, a list of the def's own -/
inductive Sl where
  | un | vl (d : D) | ow (ds : List D)
abbrev En := List Sl
/-- an exception: its class by number, its field -/
structure Ex where
  c : Nat
  arg : Option Int := none
inductive R (α : Type) where
  | ok (a : α) (st : Stor) | exn (e : Ex) (st : Stor) | stuck
def R.bind {α β : Type} (r : R α) (f : α → Stor → R β) : R β := match r with
  | .ok a st => f a st
  | .exn e st => .exn e st
  | .stuck => .stuck
def R.of {α : Type} (o : Option α) (st : Stor) : R α := match o with
  | some a => .ok a st
  | none => .stuck
inductive O where
  | nx (r : En) (st : Stor) | rt (d : D) (st : Stor) | bk (r : En) (st : Stor) | ct (r : En) (st : Stor) | ex (e : Ex) (r : En) (st : Stor) | stuck
def R.out {α : Type} (x : R α) (r : En) (f : α → Stor → O) : O := match x with
  | .ok a st => f a st
  | .exn e st => .ex e r st
  | .stuck => .stuck
abbrev Ev := En → Stor → R D
abbrev Tv := En → Stor → R Bool
abbrev Av := En → Stor → R (List D)
abbrev Sv := En → Stor → O
/-! ### how a plain value lies -/
mutual
inductive RV (K : PySem.W.Frag) (F : Hp) (M : Mp) : V → D → Prop
  | non : RV K F M .non .non
  | bl (b : Bool) : RV K F M (.bl b) (.bl b)
  | int (i : Int) : RV K F M (.int i) (.int i)
  | str (x : Str) : x.length ≤ sizeLine → RV K F M (.str x) (.str x)
  | tup {a : Addr} {vs : List V} {ds : List D} : SqT K F a vs → ds.length ≤ sizeLine → RVs K F M vs ds → RV K F M (.ref a) (.tup ds)
  | lst {a : Addr} {vs : List V} {ds : List D} : F a = some (.lst vs) → ds.length ≤ sizeLine → RVs K F M vs ds → RV K F M (.ref a) (.lst ds)
  | ref {n : Nat} {a : Addr} : M n = some a → RV K F M (.ref a) (.ref n)
  | scr {a : Addr} {ns : List Int} : SqL K F a (ns.map V.int) → ns.length ≤ sizeLine → RV K F M (.ref a) (.scr ns)
inductive RVs (K : PySem.W.Frag) (F : Hp) (M : Mp) : List V → List D → Prop
  | nil : RVs K F M [] []
  | cons {v : V} {vs : List V} {d : D} {ds : List D} : RV K F M v d → RVs K F M vs ds → RVs K F M (v :: vs) (d :: ds)
end
section
variable {K : PySem.W.Frag} {F F' H H' : Hp} {M M' : Mp} {v : V} {d : D} {vs ws : List V} {ds es : List D}
theorem Same.sqt {a : Addr} {xs : List V} (e : Same F F') (h : SqT K F a xs) : SqT K F' a xs := by
  rcases h with (h | ⟨o, h⟩) | h
  · exact .inl (.inl (e _ _ h))
  · exact .inl (.inr ⟨o, e _ _ h⟩)
  · exact .inr h
mutual
theorem RV.mono (e : Same F F') (m : ∀ n a, M n = some a → M' n = some a) : ∀ {v : V} (d : D), RV K F M v d → RV K F' M' v d
  | _, .non, h => by cases h; exact .non
  | _, .bl b, h => by cases h; exact .bl b
  | _, .int i, h => by cases h; exact .int i
  | _, .str x, h => by cases h with | str _ z => exact .str x z
  | _, .tup ds, h => by cases h with | tup a b c => exact .tup (Same.sqt e a) b (RVs.mono e m ds c)
  | _, .lst ds, h => by cases h with | lst a b c => exact .lst (e _ _ a) b (RVs.mono e m ds c)
  | _, .ref n, h => by cases h with | ref a => exact .ref (m _ _ a)
  | _, .scr ns, h => by cases h with | scr a z => exact .scr (e.seq a) z
theorem RVs.mono (e : Same F F') (m : ∀ n a, M n = some a → M' n = some a) : ∀ {vs : List V} (ds : List D), RVs K F M vs ds → RVs K F' M' vs ds
  | _, [], h => by cases h; exact .nil
  | _, d :: ds, h => by cases h with | cons a b => exact .cons (RV.mono e m d a) (RVs.mono e m ds b)
end
theorem RVs.length : ∀ {vs : List V} {ds : List D}, RVs K F M vs ds → vs.length = ds.length
  | _, _, .nil => rfl
  | _, _, .cons _ t => by rw [List.length_cons, List.length_cons, RVs.length t]
theorem RVs.append : ∀ {vs ws : List V} {ds es : List D}, RVs K F M vs ds → RVs K F M ws es → RVs K F M (vs ++ ws) (ds ++ es)
  | _, _, _, _, .nil, s => s
  | _, _, _, _, .cons r t, s => .cons r (RVs.append t s)
theorem RVs.get : ∀ {vs : List V} {ds : List D} {i : Nat} {d : D}, RVs K F M vs ds → ds[i]? = some d → ∃ v, vs[i]? = some v ∧ RV K F M v d
  | _, _, _, _, .nil, e => by simp at e
  | _, _, 0, _, .cons r _, e => by simp at e; subst e; exact ⟨_, rfl, r⟩
  | _, _, i + 1, d, .cons _ t, e => by
    obtain ⟨v, h1, h2⟩ := RVs.get (i := i) (d := d) t (by simpa using e)
    exact ⟨v, by simpa using h1, h2⟩
theorem RVs.getV : ∀ {vs : List V} {ds : List D} {i : Nat} {v : V}, RVs K F M vs ds → vs[i]? = some v → ∃ d, ds[i]? = some d ∧ RV K F M v d
  | _, _, _, _, .nil, e => by simp at e
  | _, _, 0, _, .cons r _, e => by simp at e; subst e; exact ⟨_, rfl, r⟩
  | _, _, i + 1, v, .cons _ t, e => by
    obtain ⟨d, h1, h2⟩ := RVs.getV (i := i) (v := v) t (by simpa using e)
    exact ⟨d, by simpa using h1, h2⟩
theorem RVs.set : ∀ {vs : List V} {ds : List D} (i : Nat), RVs K F M vs ds → RV K F M v d → RVs K F M (vs.set i v) (ds.set i d)
  | _, _, _, .nil, _ => .nil
  | _, _, 0, .cons _ t, q => .cons q t
  | _, _, i + 1, .cons r t, q => .cons r (RVs.set i t q)
theorem RVs.take : ∀ {vs : List V} {ds : List D} (n : Nat), RVs K F M vs ds → RVs K F M (vs.take n) (ds.take n)
  | _, _, 0, _ => .nil
  | _, _, _ + 1, .nil => .nil
  | _, _, n + 1, .cons r t => .cons r (RVs.take n t)
theorem RVs.drop : ∀ {vs : List V} {ds : List D} (n : Nat), RVs K F M vs ds → RVs K F M (vs.drop n) (ds.drop n)
  | _, _, 0, r => r
  | _, _, _ + 1, .nil => .nil
  | _, _, n + 1, .cons _ t => RVs.drop n t
theorem RVs.reverse : ∀ {vs : List V} {ds : List D}, RVs K F M vs ds → RVs K F M vs.reverse ds.reverse
  | _, _, .nil => .nil
  | _, _, .cons r t => by rw [List.reverse_cons, List.reverse_cons]; exact RVs.append (RVs.reverse t) (.cons r .nil)
theorem RVs.ints : ∀ {vs : List V} (ns : List Int), RVs K F M vs (ns.map D.int) → vs = ns.map V.int
  | _, [], h => by cases h; rfl
  | _, n :: ns, h => by
    cases h with
    | cons a b =>
      cases a
      rw [RVs.ints ns b]; rfl
theorem RVs.of_ints : ∀ (ns : List Int), RVs K F M (ns.map V.int) (ns.map D.int)
  | [] => .nil
  | n :: ns => .cons (.int n) (RVs.of_ints ns)
theorem RVs.bls : ∀ {vs : List V} (ns : List Bool), RVs K F M vs (ns.map D.bl) → vs = ns.map V.bl
  | _, [], h => by cases h; rfl
  | _, n :: ns, h => by
    cases h with
    | cons a b =>
      cases a
      rw [RVs.bls ns b]; rfl
theorem RVs.strs : ∀ {vs : List V} (ns : List Str), RVs K F M vs (ns.map D.str) → vs = ns.map V.str
  | _, [], h => by cases h; rfl
  | _, n :: ns, h => by
    cases h with
    | cons a b =>
      cases a
      rw [RVs.strs ns b]; rfl
end
/-! ### the state -/
/-- the slots' own lists -/
def OwnA (σ : L2.St) (ρ : En) (a : Addr) : Prop := ∃ (i : Nat) (ds : List D), ρ[i]? = some (.ow ds) ∧ σ[i]? = some (some (.ref a))
/-- an object of the store -/
def RO (K : PySem.W.Frag) (F H : Hp) (M : Mp) (a : Addr) : Ob → Prop
  | .lst ds => ∃ vs, H a = some (.lst vs) ∧ ds.length ≤ sizeLine ∧ RVs K F M vs ds
/-- the store -/
structure SS (K : PySem.W.Frag) (F H : Hp) (M : Mp) (st : Stor) : Prop where
  sub : Same F H
  obs : ∀ n o, st[n]? = some o → ∃ a, M n = some a ∧ F a = none ∧ RO K F H M a o
  dom : ∀ n a, M n = some a → n < st.length
  inj : ∀ n m a, M n = some a → M m = some a → n = m
structure SR (K : PySem.W.Frag) (F H : Hp) (M : Mp) (σ : L2.St) (ρ : En) (st : Stor) : Prop where
  ss : SS K F H M st
  len : σ.length = ρ.length
  vl : ∀ (i : Nat) (d : D), ρ[i]? = some (.vl d) → ∃ v, σ[i]? = some (some v) ∧ RV K F M v d
  ow : ∀ (i : Nat) (ds : List D), ρ[i]? = some (.ow ds) → ∃ a vs, σ[i]? = some (some (.ref a)) ∧ H a = some (.lst vs) ∧ ds.length ≤ sizeLine ∧ RVs K F M vs ds ∧ F a = none ∧ ∀ n, M n ≠ some a
  ap : ∀ (i j : Nat) (ds es : List D) (a : Addr), ρ[i]? = some (.ow ds) → ρ[j]? = some (.ow es) → σ[i]? = some (some (.ref a)) → σ[j]? = some (some (.ref a)) → i = j
/-- what a step keeps -/
structure Fr (Ow : Addr → Prop) (F H : Hp) (M : Mp) (F' H' : Hp) (M' : Mp) : Prop where
  fs : Same F F'
  ms : ∀ n a, M n = some a → M' n = some a
  keep : ∀ a o, H a = some o → ¬ Ow a → (∀ n, M n ≠ some a) → H' a = some o
  there : ∀ a, H a ≠ none → H' a ≠ none
  nf : ∀ a, F a = none → F' a ≠ none → H a = none ∨ Ow a
  nm : ∀ n a, M n = none → M' n = some a → H a = none
abbrev No : Addr → Prop := fun _ => False
section
variable {K : PySem.W.Frag} {F F' H H' F1 H1 F2 H2 : Hp} {M M' M1 M2 : Mp} {Ow Ow1 : Addr → Prop} {σ σ1 : L2.St} {ρ ρ1 : En} {st : Stor}
theorem Fr.refl : Fr Ow F H M F H M := ⟨fun _ _ h => h, fun _ _ h => h, fun _ _ h _ _ => h, fun _ h => h, fun _ h h' => absurd h h', fun _ _ h h' => by rw [h] at h'; cases h'⟩
theorem Fr.trans (a : Fr Ow F H M F1 H1 M1) (b : Fr Ow1 F1 H1 M1 F2 H2 M2) (c : ∀ x, Ow1 x → Ow x ∨ H x = none) : Fr Ow F H M F2 H2 M2 where
  fs := fun x o h => b.fs x o (a.fs x o h)
  ms := fun n x h => b.ms n x (a.ms n x h)
  keep := fun x o h ho hm => by
    refine b.keep x o (a.keep x o h ho hm) (fun q => ?_) fun n q => ?_
    · rcases c x q with z | z
      · exact ho z
      · rw [h] at z; cases z
    · cases e : M n with
      | none => have z := a.nm n x e q; rw [h] at z; cases z
      | some y =>
        have z := a.ms n y e
        rw [q] at z
        cases z
        exact hm n e
  there := fun x h => b.there x (a.there x h)
  nf := fun x h h' => by
    by_cases e : F1 x = none
    · rcases b.nf x e h' with z | z
      · refine .inl ?_
        cases q : H x with
        | none => rfl
        | some o => exact absurd z (a.there x (by rw [q]; simp))
      · rcases c x z with y | y
        · exact .inr y
        · exact .inl y
    · exact a.nf x h e
  nm := fun n x h h' => by
    cases e : M1 n with
    | none =>
      have z := b.nm n x e h'
      cases q : H x with
      | none => rfl
      | some o => exact absurd z (a.there x (by rw [q]; simp))
    | some y =>
      have z := b.ms n y e
      rw [h'] at z
      cases z
      exact a.nm n x h e
theorem Fr.seq (a : Fr No F H M F1 H1 M1) (b : Fr No F1 H1 M1 F2 H2 M2) : Fr No F H M F2 H2 M2 := a.trans b fun _ z => z.elim
theorem Fr.wk (a : Fr No F H M F1 H1 M1) : Fr Ow F H M F1 H1 M1 := ⟨a.fs, a.ms, fun x o h _ => a.keep x o h (fun z => z), a.there, fun x h h' => (a.nf x h h').imp id False.elim, a.nm⟩
theorem Fr.rv {v : V} {d : D} (a : Fr Ow F H M F1 H1 M1) (h : RV K F M v d) : RV K F1 M1 v d := h.mono a.fs a.ms
theorem Fr.rvs {vs : List V} {ds : List D} (a : Fr Ow F H M F1 H1 M1) (h : RVs K F M vs ds) : RVs K F1 M1 vs ds := h.mono a.fs a.ms
/-- a new object that never changes -/
theorem Fr.new {p : Addr} {o : HO} (s : Same F H) (h : H p = none) : Fr Ow F H M (upd F p o) (upd H p o) M := by
  refine ⟨fun x u e => ?_, fun _ _ e => e, fun x u e _ _ => ?_, fun x e => ?_, fun x e e' => ?_, fun n a e e' => by rw [e] at e'; cases e'⟩
  · have : x ≠ p := ne_of_none (s _ _ e) h
    rw [upd_ne this]; exact e
  · rw [upd_ne (ne_of_none e h)]; exact e
  · by_cases q : x = p
    · subst q; rw [upd_same]; simp
    · rw [upd_ne q]; exact e
  · by_cases q : x = p
    · subst q; exact .inl h
    · rw [upd_ne q] at e'; exact absurd e e'
/-- .. an object of one's own -/
theorem Fr.newO {p : Addr} {o : HO} (h : H p = none) : Fr Ow F H M F (upd H p o) M := by
  refine ⟨fun _ _ e => e, fun _ _ e => e, fun x u e _ _ => ?_, fun x e => ?_, fun x e e' => absurd e e', fun n a e e' => by rw [e] at e'; cases e'⟩
  · rw [upd_ne (ne_of_none e h)]; exact e
  · by_cases q : x = p
    · subst q; rw [upd_same]; simp
    · rw [upd_ne q]; exact e
theorem RO.mono {a : Addr} {o : Ob} (h : RO K F H M a o) (e : Same F F') (m : ∀ n a, M n = some a → M' n = some a) (k : ∀ u, H a = some u → H' a = some u) : RO K F' H' M' a o := by
  cases o with
  | lst ds =>
    obtain ⟨vs, h1, h2, h3⟩ := h
    exact ⟨vs, k _ h1, h2, h3.mono e m⟩
theorem RO.there {a : Addr} {o : Ob} (h : RO K F H M a o) : H a ≠ none := by
  cases o with
  | lst ds => obtain ⟨vs, h1, _⟩ := h; rw [h1]; simp
theorem SS.new (s : SS K F H M st) {p : Addr} {o : HO} (h : H p = none) : SS K (upd F p o) (upd H p o) M st := by
  refine ⟨fun x u e => ?_, fun n ob e => ?_, s.dom, s.inj⟩
  · by_cases q : x = p
    · subst q; rw [upd_same] at e ⊢; exact e
    · rw [upd_ne q] at e ⊢; exact s.sub _ _ e
  · obtain ⟨a, h1, h2, h3⟩ := s.obs n ob e
    have na : a ≠ p := fun z => h3.there (by rw [z]; exact h)
    exact ⟨a, h1, by rw [upd_ne na]; exact h2, h3.mono (Fr.new (Ow := No) (M := M) s.sub h).fs (fun _ _ z => z) fun u z => by rw [upd_ne na]; exact z⟩
theorem SS.newO (s : SS K F H M st) {p : Addr} {o : HO} (h : H p = none) : SS K F (upd H p o) M st := by
  refine ⟨fun x u e => ?_, fun n ob e => ?_, s.dom, s.inj⟩
  · rw [upd_ne (ne_of_none (s.sub _ _ e) h)]; exact s.sub _ _ e
  · obtain ⟨a, h1, h2, h3⟩ := s.obs n ob e
    have na : a ≠ p := fun z => h3.there (by rw [z]; exact h)
    exact ⟨a, h1, h2, h3.mono (fun _ _ z => z) (fun _ _ z => z) fun u z => by rw [upd_ne na]; exact z⟩
/-- the slots stand through an expression -/
theorem SR.fr (s : SR K F H M σ ρ st) {st' : Stor} (f : Fr No F H M F1 H1 M1) (q : SS K F1 H1 M1 st') : SR K F1 H1 M1 σ ρ st' := by
  refine ⟨q, s.len, fun i d e => ?_, fun i ds e => ?_, s.ap⟩
  · obtain ⟨v, h1, h2⟩ := s.vl i d e
    exact ⟨v, h1, f.rv h2⟩
  · obtain ⟨a, vs, h1, h2, h3, h4, h5, h6⟩ := s.ow i ds e
    refine ⟨a, vs, h1, f.keep _ _ h2 (fun z => z) h6, h3, f.rvs h4, ?_, fun n z => ?_⟩
    · cases e2 : F1 a with
      | none => rfl
      | some u =>
        rcases f.nf a h5 (by rw [e2]; simp) with z | z
        · rw [h2] at z; cases z
        · exact z.elim
    · cases e2 : M n with
      | none => have z := f.nm n a e2 z; rw [h2] at z; cases z
      | some y =>
        have z2 := f.ms n y e2
        rw [z] at z2
        cases z2
        exact h6 n e2
theorem SR.new (s : SR K F H M σ ρ st) {p : Addr} {o : HO} (h : H p = none) : SR K (upd F p o) (upd H p o) M σ ρ st := s.fr (Fr.new s.ss.sub h) (s.ss.new h)
theorem SR.newO (s : SR K F H M σ ρ st) {p : Addr} {o : HO} (h : H p = none) : SR K F (upd H p o) M σ ρ st := s.fr (Fr.newO h) (s.ss.newO h)
end
end OM
namespace OM
open PySem PySem.Spec PyProof.Rows L2
structure Tab where
  cls : Nat → Addr
  fld : Nat → Str
def XW (T : Tab) (W : WX) (e : Ex) (σ : L2.St) (H : Hp) : Prop := match e.arg with
  | none => W (.ref (T.cls e.c)) none σ H
  | some i => ∀ d, H d = some (.xd [(T.fld e.c, .int i)]) → W (.ref (T.cls e.c)) (some d) σ H
/-! ### what a plain step asks -/
section
variable {α β γ δ : Type}
def wR (K : PySem.W.Frag) (T : Tab) (W : WX) (P : Hp → Hp → Mp → β → α → Prop) (F H : Hp) (M : Mp) (σ : L2.St) (ρ : En) (r : R α) (Q : β → Hp → Prop) : Prop := match r with
  | .ok d st => ∀ v F' H' M', SR K F' H' M' σ ρ st → Fr No F H M F' H' M' → P F' H' M' v d → Q v H'
  | .exn e st => ∀ F' H' M', SR K F' H' M' σ ρ st → Fr No F H M F' H' M' → XW T W e σ H'
  | .stuck => False
def tR (K : PySem.W.Frag) (T : Tab) (W : WX) (P : Hp → Hp → Mp → β → α → Prop) (f : En → Stor → R α) : L2.St → Hp → (β → Hp → Prop) → Prop :=
  fun σ H Q => ∃ F M ρ st, SR K F H M σ ρ st ∧ wR K T W P F H M σ ρ (f ρ st) Q
variable {K : PySem.W.Frag} {T : Tab} {W : WX} {P : Hp → Hp → Mp → β → α → Prop} {P' : Hp → Hp → Mp → β → α → Prop} {P2 : Hp → Hp → Mp → δ → γ → Prop} {F H F1 H1 : Hp} {M M1 : Mp} {σ : L2.St} {ρ : En} {st : Stor} {Q : β → Hp → Prop} {Q2 : δ → Hp → Prop}
theorem wR.base {r : R α} (h : wR K T W P F H M σ ρ r Q) (f : Fr No F H M F1 H1 M1) : wR K T W P F1 H1 M1 σ ρ r Q := by
  cases r with
  | ok d st => exact fun v F' H' M' s g p => h v F' H' M' s (f.seq g) p
  | exn e st => exact fun F' H' M' s g => h F' H' M' s (f.seq g)
  | stuck => exact h
theorem tR_bind {f : En → Stor → R α} {g : α → Stor → R γ} (S : SR K F H M σ ρ st) (h : wR K T W P2 F H M σ ρ ((f ρ st).bind g) Q2)
    (k : ∀ d st1 v F1 H1 M1, SR K F1 H1 M1 σ ρ st1 → Fr No F H M F1 H1 M1 → P F1 H1 M1 v d → wR K T W P2 F1 H1 M1 σ ρ (g d st1) Q2 → Q v H1) : tR K T W P f σ H Q := by
  refine ⟨F, M, ρ, st, S, ?_⟩
  cases e : f ρ st with
  | ok d st1 =>
    rw [e] at h
    intro v F1 H1 M1 s1 f1 p1
    exact k d st1 v F1 H1 M1 s1 f1 p1 (wR.base h f1)
  | exn x st1 => rw [e] at h; exact h
  | stuck => rw [e] at h; exact h
theorem tR_bindE {f : En → Stor → R α} {g : α → Stor → R γ} (S : SR K F H M σ ρ st) (h : wR K T W P2 F H M σ ρ ((f ρ st).bind g) Q2)
    (k : ∀ d st1 v F1 H1 M1, f ρ st = .ok d st1 → SR K F1 H1 M1 σ ρ st1 → Fr No F H M F1 H1 M1 → P F1 H1 M1 v d → wR K T W P2 F1 H1 M1 σ ρ (g d st1) Q2 → Q v H1) : tR K T W P f σ H Q := by
  refine ⟨F, M, ρ, st, S, ?_⟩
  cases e : f ρ st with
  | ok d st1 =>
    rw [e] at h
    intro v F1 H1 M1 s1 f1 p1
    exact k d st1 v F1 H1 M1 e s1 f1 p1 (wR.base h f1)
  | exn x st1 => rw [e] at h; exact h
  | stuck => rw [e] at h; exact h
/-- the last step -/
theorem tR_last {f : En → Stor → R α} (S : SR K F H M σ ρ st) (h : wR K T W P F H M σ ρ (f ρ st) Q) : tR K T W P f σ H Q := ⟨F, M, ρ, st, S, h⟩
theorem wR.of {o : Option α} (h : wR K T W P F H M σ ρ (R.of o st) Q) : ∃ d, o = some d ∧ ∀ v F' H' M', SR K F' H' M' σ ρ st → Fr No F H M F' H' M' → P F' H' M' v d → Q v H' := by
  cases o with
  | none => exact False.elim h
  | some d => exact ⟨d, rfl, h⟩
theorem wR.imp {r : R α} {Q' : β → Hp → Prop} (h : wR K T W P F H M σ ρ r Q) (k : ∀ v F' H' M' st d, SR K F' H' M' σ ρ st → Fr No F H M F' H' M' → P' F' H' M' v d → r = .ok d st → (P F' H' M' v d → Q v H') → Q' v H') : wR K T W P' F H M σ ρ r Q' := by
  cases r with
  | ok d st => exact fun v F' H' M' s g p => k v F' H' M' st d s g p rfl (h v F' H' M' s g)
  | exn e st => exact h
  | stuck => exact h
end
/-! ### the judgements -/
def PV (K : PySem.W.Frag) : Hp → Hp → Mp → V → D → Prop := fun F _ M v d => RV K F M v d
/-- a value to be looked at: it may be one of the def's own lists -/
def PB (K : PySem.W.Frag) : Hp → Hp → Mp → V → D → Prop := fun F H M v d => RV K F M v d ∨ ∃ a vs ds, v = .ref a ∧ d = .lst ds ∧ H a = some (.lst vs) ∧ ds.length ≤ sizeLine ∧ RVs K F M vs ds ∧ ∀ n, M n ≠ some a
def PVs (K : PySem.W.Frag) : Hp → Hp → Mp → List V → List D → Prop := fun F _ M v d => RVs K F M v d
def PBo : Hp → Hp → Mp → Bool → Bool → Prop := fun _ _ _ b c => b = c
/-- a list that was not there in H0, nobody else's -/
def PN (K : PySem.W.Frag) (H0 : Hp) : Hp → Hp → Mp → V → List D → Prop := fun F H M v ds => ∃ a vs, v = .ref a ∧ H0 a = none ∧ H a = some (.lst vs) ∧ ds.length ≤ sizeLine ∧ RVs K F M vs ds ∧ F a = none ∧ ∀ n, M n ≠ some a
def DE (X : Cx) (T : Tab) (W : WX) (e : Expr) (f : Ev) : Prop := PE X e (tR X.K T W (PV X.K) f)
def BE (X : Cx) (T : Tab) (W : WX) (e : Expr) (f : Ev) : Prop := PE X e (tR X.K T W (PB X.K) f)
def DT (X : Cx) (T : Tab) (W : WX) (e : Expr) (f : Tv) : Prop := PT X e (tR X.K T W PBo f)
def DW (X : Cx) (T : Tab) (W : WX) (e : Expr) (f : Tv) : Prop := PW X e (tR X.K T W PBo f)
def DA (X : Cx) (T : Tab) (W : WX) (es : List Expr) (f : Av) : Prop := PA X es (tR X.K T W (PVs X.K) f)
theorem PE.wk {X : Cx} {e : Expr} {t t' : TE} (h : PE X e t) (k : ∀ σ H Q, t' σ H Q → t σ H Q) : PE X e t' := ⟨fun p s σ H Q I q => h.run p s σ H Q I (k σ H Q q)⟩
theorem PT.wk {X : Cx} {e : Expr} {t t' : TT} (h : PT X e t) (k : ∀ σ H Q, t' σ H Q → t σ H Q) : PT X e t' := ⟨fun p s σ H Q I q => h.run p s σ H Q I (k σ H Q q)⟩
theorem PW.wk {X : Cx} {e : Expr} {t t' : TT} (h : PW X e t) (k : ∀ σ H Q, t' σ H Q → t σ H Q) : PW X e t' := ⟨fun w p s σ H Q I q => h.run w p s σ H Q I (k σ H Q q)⟩
theorem PA.wk {X : Cx} {es : List Expr} {t t' : TA} (h : PA X es t) (k : ∀ σ H Q, t' σ H Q → t σ H Q) : PA X es t' := ⟨fun c p s σ H Q I q => h.run c p s σ H Q I (k σ H Q q)⟩
section
variable {K : PySem.W.Frag} {F H F1 H1 : Hp} {M M1 : Mp} {v : V} {d : D}
theorem PB.fr (h : PB K F H M v d) (f : Fr No F H M F1 H1 M1) : PB K F1 H1 M1 v d := by
  rcases h with h | ⟨a, vs, ds, e1, e2, e3, e4, e5, e6⟩
  · exact .inl (f.rv h)
  · refine .inr ⟨a, vs, ds, e1, e2, f.keep _ _ e3 (fun z => z) e6, e4, f.rvs e5, fun n z => ?_⟩
    cases q : M n with
    | none => have z := f.nm n a q z; rw [e3] at z; cases z
    | some y =>
      have z2 := f.ms n y q
      rw [z] at z2
      cases z2
      exact e6 n q
theorem PB.lst {ds : List D} (h : PB K F H M v (.lst ds)) (s : Same F H) : ∃ a vs, v = .ref a ∧ H a = some (.lst vs) ∧ ds.length ≤ sizeLine ∧ RVs K F M vs ds := by
  rcases h with h | ⟨a, vs, es, e1, e2, e3, e4, e5, _⟩
  · cases h with | lst q z r => exact ⟨_, _, rfl, s _ _ q, z, r⟩
  · cases e2; exact ⟨a, vs, e1, e3, e4, e5⟩
theorem PB.tup {ds : List D} (h : PB K F H M v (.tup ds)) (s : Same F H) : ∃ a vs, v = .ref a ∧ SqT K H a vs ∧ ds.length ≤ sizeLine ∧ RVs K F M vs ds := by
  rcases h with h | ⟨a, vs, es, e1, e2, _⟩
  · cases h with | tup q z r => exact ⟨_, _, rfl, Same.sqt s q, z, r⟩
  · cases e2
theorem PB.int {i : Int} (h : PB K F H M v (.int i)) : v = .int i := by
  rcases h with h | ⟨a, vs, es, e1, e2, _⟩
  · cases h; rfl
  · cases e2
theorem PB.bl {i : Bool} (h : PB K F H M v (.bl i)) : v = .bl i := by
  rcases h with h | ⟨a, vs, es, e1, e2, _⟩
  · cases h; rfl
  · cases e2
theorem PB.non (h : PB K F H M v .non) : v = .non := by
  rcases h with h | ⟨a, vs, es, e1, e2, _⟩
  · cases h; rfl
  · cases e2
theorem PB.str {i : Str} (h : PB K F H M v (.str i)) : v = .str i ∧ i.length ≤ sizeLine := by
  rcases h with h | ⟨a, vs, es, e1, e2, _⟩
  · cases h with | str _ z => exact ⟨rfl, z⟩
  · cases e2
end
section
variable {X : Cx} {T : Tab} {W : WX} {e a b : Expr} {f fa fb : Ev} {pos : Pos}
theorem be_of (h : DE X T W e f) : BE X T W e f := PE.wk h fun σ H Q ⟨F, M, ρ, st, S, q⟩ => ⟨F, M, ρ, st, S, q.imp fun v F' H' M' st d _ _ p _ k => k (.inl p)⟩
/-! ### names and constants -/
def eK (d : D) : Ev := fun _ st => .ok d st
def eVar (i : Nat) : Ev := fun ρ st => match ρ[i]? with
  | some (.vl d) => .ok d st
  | _ => .stuck
def eVarB (i : Nat) : Ev := fun ρ st => match ρ[i]? with
  | some (.vl d) => .ok d st
  | some (.ow ds) => .ok (.lst ds) st
  | _ => .stuck
theorem de_var (i : Nat) {x : Str} (h : PE X (.Name x pos) (tVar i)) : DE X T W (.Name x pos) (eVar i) := PE.wk h fun σ H Q ⟨F, M, ρ, st, S, q⟩ => by
  cases e : ρ[i]? with
  | none => simp only [eVar, e] at q; exact False.elim q
  | some s =>
    cases s with
    | vl d =>
      simp only [eVar, e] at q
      obtain ⟨v, h1, h2⟩ := S.vl i d e
      exact ⟨v, h1, q v F H M S Fr.refl h2⟩
    | un => simp only [eVar, e] at q; exact False.elim q
    | ow ds => simp only [eVar, e] at q; exact False.elim q
theorem be_var (i : Nat) {x : Str} (h : PE X (.Name x pos) (tVar i)) : BE X T W (.Name x pos) (eVarB i) := PE.wk h fun σ H Q ⟨F, M, ρ, st, S, q⟩ => by
  cases e : ρ[i]? with
  | none => simp only [eVarB, e] at q; exact False.elim q
  | some s =>
    cases s with
    | vl d =>
      simp only [eVarB, e] at q
      obtain ⟨v, h1, h2⟩ := S.vl i d e
      exact ⟨v, h1, q v F H M S Fr.refl (.inl h2)⟩
    | un => simp only [eVarB, e] at q; exact False.elim q
    | ow ds =>
      simp only [eVarB, e] at q
      obtain ⟨a, vs, h1, h2, h3, h4, h5, h6⟩ := S.ow i ds e
      exact ⟨.ref a, h1, q (.ref a) F H M S Fr.refl (.inr ⟨a, vs, ds, rfl, rfl, h2, h3, h4, h6⟩)⟩
theorem de_k {v : V} {d : D} (h : PE X e (tC v)) (r : ∀ F M, RV X.K F M v d) : DE X T W e (eK d) := PE.wk h fun σ H Q ⟨F, M, ρ, st, S, q⟩ => q v F H M S Fr.refl (r F M)
theorem de_int {i : Int} {j : Nat} : DE X T W (.Constant (.int i) j pos) (eK (.int i)) := de_k pe_int fun _ _ => .int i
theorem de_bl {i : Bool} {j : Nat} : DE X T W (.Constant (.bool i) j pos) (eK (.bl i)) := de_k pe_bl fun _ _ => .bl i
theorem de_non {j : Nat} : DE X T W (.Constant .none j pos) (eK .non) := de_k pe_non fun _ _ => .non
theorem de_str {x : Str} {j : Nat} (z : x.length ≤ sizeLine) : DE X T W (.Constant (.str x) j pos) (eK (.str x)) := de_k pe_str fun _ _ => .str x z
/-! ### operators -/
def eBin (g : D → D → Option D) (a b : Ev) : Ev := fun ρ st => (a ρ st).bind fun x st1 => (b ρ st1).bind fun y st2 => R.of (g x y) st2
def OpS (K : PySem.W.Frag) (r : R2) (g : D → D → Option D) : Prop := ∀ (F H : Hp) (M : Mp) (σ : L2.St) (ρ : En) (st : Stor) (x y : V) (dx dy d : D) (Q : VK), SR K F H M σ ρ st → PB K F H M x dx → PB K F H M y dy → g dx dy = some d →
  (∀ v F' H' M', SR K F' H' M' σ ρ st → Fr No F H M F' H' M' → RV K F' M' v d → Q v H') → r x y H Q
theorem op2 {r : R2} {g : D → D → Option D} (hg : OpS X.K r g) {Q : VK} {σ : L2.St} {H : Hp} (h : tR X.K T W (PV X.K) (eBin g fa fb) σ H Q) : tOp r (tR X.K T W (PB X.K) fa) (tR X.K T W (PB X.K) fb) σ H Q := by
  obtain ⟨F, M, ρ, st, S, h⟩ := h
  refine tR_bind S h fun dx st1 x F1 H1 M1 S1 f1 rx h1 => ?_
  refine tR_bind S1 h1 fun dy st2 y F2 H2 M2 S2 f2 ry h2 => ?_
  obtain ⟨d, e, h2⟩ := h2.of
  exact hg F2 H2 M2 σ ρ st2 x y dx dy d Q S2 (PB.fr rx f2) ry e h2
theorem de_bin {op : Operator} {r : R2} {g : D → D → Option D} (ho : OpR X (binaryOp op) r) (hg : OpS X.K r g) (ha : BE X T W a fa) (hb : BE X T W b fb) : DE X T W (.BinOp a op b pos) (eBin g fa fb) :=
  PE.wk (pe_op ho ha hb) fun _ _ _ h => op2 hg h
/-- ints -/
def gI (C : Int → Int → Bool) (k : Int → Int → D) : D → D → Option D
  | .int i, .int j => if C i j then some (k i j) else none
  | _, _ => none
theorem opS_I {K : PySem.W.Frag} {C : Int → Int → Prop} {Cb : Int → Int → Bool} {k : Int → Int → V} {kd : Int → Int → D} (hC : ∀ i j, Cb i j = true → C i j) (hk : ∀ F M i j, RV K F M (k i j) (kd i j)) : OpS K (rI C k) (gI Cb kd) := by
  intro F H M σ ρ st x y dx dy d Q S rx ry e q
  cases dx <;> try (simp [gI] at e; done)
  cases dy <;> try (simp [gI] at e; done)
  rename_i i j
  simp only [gI] at e
  split at e
  · rename_i hc
    cases e
    exact ⟨i, j, rx.int, ry.int, hC i j hc, q _ F H M S Fr.refl (hk F M i j)⟩
  · cases e
theorem opS_I0 {K : PySem.W.Frag} {k : Int → Int → V} {kd : Int → Int → D} (hk : ∀ F M i j, RV K F M (k i j) (kd i j)) : OpS K (rI0 k) (gI (fun _ _ => true) kd) := by
  intro F H M σ ρ st x y dx dy d Q S rx ry e q
  cases dx <;> try (simp [gI] at e; done)
  cases dy <;> try (simp [gI] at e; done)
  rename_i i j
  simp only [gI, if_true] at e
  cases e
  exact ⟨i, j, rx.int, ry.int, q _ F H M S Fr.refl (hk F M i j)⟩
end
end OM
namespace OM
open PySem PySem.Spec PyProof.Rows L2
section
variable {K : PySem.W.Frag} {F H : Hp} {M : Mp} {σ : L2.St} {ρ : En} {st : Stor} {vs : List V} {ds : List D} {Q : VK} {v : V} {d : D}
theorem ret_tup (S : SR K F H M σ ρ st) (z : ds.length ≤ sizeLine) (r : RVs K F M vs ds) (q : ∀ v F' H' M', SR K F' H' M' σ ρ st → Fr No F H M F' H' M' → RV K F' M' v (.tup ds) → Q v H') :
    ∀ p, H p = none → Q (.ref p) (upd H p (.tup vs)) := fun p hp => by
  have f : Fr No F H M (upd F p (.tup vs)) (upd H p (.tup vs)) M := Fr.new S.ss.sub hp
  exact q _ _ _ _ (S.new hp) f (.tup (SqT.of upd_same) z (f.rvs r))
theorem ret_lst (S : SR K F H M σ ρ st) (z : ds.length ≤ sizeLine) (r : RVs K F M vs ds) (q : ∀ v F' H' M', SR K F' H' M' σ ρ st → Fr No F H M F' H' M' → RV K F' M' v (.lst ds) → Q v H') :
    ∀ p, H p = none → Q (.ref p) (upd H p (.lst vs)) := fun p hp => by
  have f : Fr No F H M (upd F p (.lst vs)) (upd H p (.lst vs)) M := Fr.new S.ss.sub hp
  exact q _ _ _ _ (S.new hp) f (.lst upd_same z (f.rvs r))
theorem ret_own {F0 H0 : Hp} {M0 : Mp} (g : Fr No F0 H0 M0 F H M) (S : SR K F H M σ ρ st) (z : ds.length ≤ sizeLine) (r : RVs K F M vs ds) (q : ∀ v F' H' M', SR K F' H' M' σ ρ st → Fr No F H M F' H' M' → PN K H0 F' H' M' v ds → Q v H') :
    ∀ p, H p = none → Q (.ref p) (upd H p (.lst vs)) := fun p hp => by
  have f : Fr No F H M F (upd H p (.lst vs)) M := Fr.newO hp
  refine q _ _ _ _ (S.newO hp) f ⟨p, vs, rfl, ?_, upd_same, z, r, ?_, fun n e => ?_⟩
  · cases e : H0 p with
    | none => rfl
    | some o => exact absurd hp (g.there p (by rw [e]; simp))
  · cases e : F p with
    | none => rfl
    | some o => rw [S.ss.sub _ _ e] at hp; cases hp
  · cases e2 : st[n]? with
    | none => exact absurd (S.ss.dom n p e) (by simpa using e2)
    | some ob =>
      obtain ⟨a, h1, h2, h3⟩ := S.ss.obs n ob e2
      rw [e] at h1; cases h1
      exact h3.there hp
end
/-! ### what the operators do -/
def lenOk (n : Nat) : Bool := decide (n ≤ sizeLine)
def dAdd : D → D → Option D
  | .int i, .int j => some (.int (i + j))
  | .str x, .str y => if lenOk (x.length + y.length) then some (.str (x ++ y)) else none
  | .lst a, .lst b => if lenOk (a.length + b.length) then some (.lst (a ++ b)) else none
  | .tup a, .tup b => if lenOk (a.length + b.length) then some (.tup (a ++ b)) else none
  | _, _ => none
def rAdd (K : PySem.W.Frag) : R2 := fun x y H Q => (rI0 fun i j => .int (i + j)) x y H Q ∨ ((∃ i j, x = .str i ∧ y = .str j ∧ i.length + j.length ≤ sizeLine ∧ Q (.str (i ++ j)) H) ∨ (rCat x y H Q ∨ rCatA K x y H Q))
theorem opr_add {X : Cx} : OpR X (binaryOp .Add) (rAdd X.K) := op_add.or (op_add_str.or (op_cat.or op_catA))
theorem ops_add {K : PySem.W.Frag} : OpS K (rAdd K) dAdd := by
  intro F H M σ ρ st x y dx dy d Q S rx ry e q
  unfold dAdd at e
  split at e
  · cases e
    exact .inl ⟨_, _, rx.int, ry.int, q _ F H M S Fr.refl (.int _)⟩
  · split at e
    · rename_i hz
      cases e
      have hz' := of_decide_eq_true hz
      exact .inr (.inl ⟨_, _, rx.str.1, ry.str.1, hz', q _ F H M S Fr.refl (.str _ (by rw [Str.length_append]; exact hz'))⟩)
    · cases e
  · split at e
    · rename_i hz
      cases e
      have hz' := of_decide_eq_true hz
      obtain ⟨a, vs, rfl, h1, z1, r1⟩ := rx.lst S.ss.sub
      obtain ⟨b, ws, rfl, h2, z2, r2⟩ := ry.lst S.ss.sub
      exact .inr (.inr (.inl ⟨a, b, vs, ws, rfl, rfl, h1, h2, by rw [r1.length, r2.length]; exact hz', ret_lst S (by rw [List.length_append]; exact hz') (r1.append r2) q⟩))
    · cases e
  · rename_i a b
    split at e
    · rename_i hz
      cases e
      have hz' := of_decide_eq_true hz
      obtain ⟨pa, vs, rfl, h1, z1, r1⟩ := rx.tup S.ss.sub
      obtain ⟨pb, ws, rfl, h2, z2, r2⟩ := ry.tup S.ss.sub
      refine .inr (.inr (.inr ⟨pa, pb, vs, ws, rfl, rfl, h1, h2, by rw [r1.length, r2.length]; exact hz', fun e0 => ?_, fun e0 e1 => ?_, fun _ _ => ret_tup S (by rw [List.length_append]; exact hz') (r1.append r2) q⟩))
      · subst e0
        have : a = [] := List.length_eq_zero_iff.mp r1.length.symm
        subst this
        rcases ry with h | ⟨_, _, _, _, e2, _⟩
        · exact q _ F H M S Fr.refl h
        · cases e2
      · subst e1
        have : b = [] := List.length_eq_zero_iff.mp r2.length.symm
        subst this
        rw [List.append_nil] at q
        rcases rx with h | ⟨_, _, _, _, e2, _⟩
        · exact q _ F H M S Fr.refl h
        · cases e2
    · cases e
  · cases e
def bigI (i : Int) : Bool := decide (-(2 ^ 64) < i) && decide (i < 2 ^ 64)
def dMul : D → D → Option D
  | .int i, .int j => if bigI i || bigI j || decide (i.natAbs.log2 + j.natAbs.log2 < 1000000) then some (.int (i * j)) else none
  | .lst a, .int k => if decide (-(2 ^ 63) ≤ k) && decide (k < 2 ^ 63) && lenOk (a.length * k.toNat) then some (.lst (List.replicate k.toNat a).flatten) else none
  | .tup a, .int k => if !a.isEmpty && decide (2 ≤ k) && decide (k ≤ 1000) && decide (a.length ≤ 1000) then some (.tup (List.replicate k.toNat a).flatten) else none
  | _, _ => none
theorem RVs.rep {K : PySem.W.Frag} {F : Hp} {M : Mp} {vs : List V} {ds : List D} (r : RVs K F M vs ds) : ∀ k : Nat, RVs K F M (List.replicate k vs).flatten (List.replicate k ds).flatten
  | 0 => .nil
  | k + 1 => by
    rw [List.replicate_succ, List.replicate_succ, List.flatten_cons, List.flatten_cons]
    exact r.append (RVs.rep r k)
theorem rep_len {α : Type} (a : List α) : ∀ k : Nat, (List.replicate k a).flatten.length = a.length * k
  | 0 => by simp
  | k + 1 => by rw [List.replicate_succ, List.flatten_cons, List.length_append, rep_len a k, Nat.mul_succ]; omega
def rMul (K : PySem.W.Frag) : R2 := fun x y H Q => (rI CMul fun i j => .int (i * j)) x y H Q ∨ ((rI CMulW fun i j => .int (i * j)) x y H Q ∨ (rRep x y H Q ∨ rRepT K x y H Q))
theorem opr_mul {X : Cx} : OpR X (binaryOp .Mult) (rMul X.K) := op_mul.or (op_mulW.or (op_rep.or op_repT))
theorem ops_mul {K : PySem.W.Frag} : OpS K (rMul K) dMul := by
  intro F H M σ ρ st x y dx dy d Q S rx ry e q
  unfold dMul at e
  split at e
  · rename_i i j
    split at e
    · rename_i hc
      cases e
      rw [Bool.or_eq_true, Bool.or_eq_true] at hc
      have k := q _ F H M S Fr.refl (.int (i * j))
      rcases hc with (hc | hc) | hc
      · unfold bigI at hc
        rw [Bool.and_eq_true] at hc
        exact .inl ⟨_, _, rx.int, ry.int, .inl ⟨of_decide_eq_true hc.1, of_decide_eq_true hc.2⟩, k⟩
      · unfold bigI at hc
        rw [Bool.and_eq_true] at hc
        exact .inl ⟨_, _, rx.int, ry.int, .inr ⟨of_decide_eq_true hc.1, of_decide_eq_true hc.2⟩, k⟩
      · exact .inr (.inl ⟨i, j, rx.int, ry.int, (of_decide_eq_true hc : i.natAbs.log2 + j.natAbs.log2 < 1000000), k⟩)
    · cases e
  · rename_i a k
    split at e
    · rename_i hc
      cases e
      rw [Bool.and_eq_true, Bool.and_eq_true] at hc
      have hz := of_decide_eq_true hc.2
      obtain ⟨pa, vs, rfl, h1, z1, r1⟩ := rx.lst S.ss.sub
      have ek := ry.int
      subst ek
      exact .inr (.inr (.inl ⟨pa, k, vs, rfl, rfl, h1, of_decide_eq_true hc.1.1, of_decide_eq_true hc.1.2, by rw [r1.length]; exact hz, ret_lst S (by rw [rep_len]; exact hz) (r1.rep _) q⟩))
    · cases e
  · rename_i a k
    split at e
    · rename_i hc
      cases e
      rw [Bool.and_eq_true, Bool.and_eq_true, Bool.and_eq_true] at hc
      obtain ⟨⟨⟨c1, c2⟩, c3⟩, c4⟩ := hc
      have c2 := of_decide_eq_true c2
      have c3 := of_decide_eq_true c3
      have c4 := of_decide_eq_true c4
      obtain ⟨pa, vs, rfl, h1, z1, r1⟩ := rx.tup S.ss.sub
      have ek := ry.int
      subst ek
      refine .inr (.inr (.inr ⟨pa, k, vs, rfl, rfl, h1, fun e0 => ?_, c2, c3, by rw [r1.length]; exact c4, ret_tup S ?_ (r1.rep _) q⟩))
      · subst e0
        have : a = [] := List.length_eq_zero_iff.mp r1.length.symm
        subst this
        cases c1
      · rw [rep_len, sizeLine_eq]
        have : k.toNat ≤ 1000 := by omega
        have := Nat.mul_le_mul c4 this
        omega
    · cases e
  · cases e
/-! ### ints alone -/
abbrev dSub := gI (fun _ _ => true) fun i j => .int (i - j)
abbrev dAnd := gI (fun _ _ => true) fun i j => .int (Builtin.bitAnd i j)
abbrev dOr := gI (fun _ _ => true) fun i j => .int (Builtin.bitOr i j)
abbrev dXor := gI (fun _ _ => true) fun i j => .int (Builtin.bitXor i j)
def shOk (i j : Int) : Bool := decide (0 ≤ j) && decide (j ≤ 1000000) && decide (i.natAbs < 2 ^ 64)
abbrev dShl := gI shOk fun i j => .int (i * 2 ^ j.toNat)
abbrev dPow := gI shOk fun i j => .int (i ^ j.toNat)
abbrev dShr := gI (fun _ j => decide (0 ≤ j)) fun i j => .int (i / 2 ^ j.toNat)
abbrev dMod := gI (fun _ j => decide (0 < j)) fun i j => .int (i % j)
abbrev dDiv := gI (fun _ j => decide (0 < j) && decide (j.natAbs.log2 < 9000)) fun i j => .int (i / j)
theorem shOk_pow {i j : Int} (h : shOk i j = true) : CPow i j := by
  unfold shOk at h
  rw [Bool.and_eq_true, Bool.and_eq_true] at h
  exact ⟨of_decide_eq_true h.1.1, of_decide_eq_true h.1.2, of_decide_eq_true h.2⟩
section
variable {K : PySem.W.Frag}
theorem ops_sub : OpS K (rI0 fun i j => .int (i - j)) dSub := opS_I0 fun _ _ _ _ => .int _
theorem ops_and : OpS K (rI0 fun i j => .int (Builtin.bitAnd i j)) dAnd := opS_I0 fun _ _ _ _ => .int _
theorem ops_or : OpS K (rI0 fun i j => .int (Builtin.bitOr i j)) dOr := opS_I0 fun _ _ _ _ => .int _
theorem ops_xor : OpS K (rI0 fun i j => .int (Builtin.bitXor i j)) dXor := opS_I0 fun _ _ _ _ => .int _
theorem ops_shl : OpS K (rI CPow fun i j => .int (i * 2 ^ j.toNat)) dShl := opS_I (fun _ _ => shOk_pow) fun _ _ _ _ => .int _
theorem ops_pow : OpS K (rI CPow fun i j => .int (i ^ j.toNat)) dPow := opS_I (fun _ _ => shOk_pow) fun _ _ _ _ => .int _
theorem ops_shr : OpS K (rI (fun _ j => 0 ≤ j) fun i j => .int (i / 2 ^ j.toNat)) dShr := opS_I (fun _ _ h => of_decide_eq_true h) fun _ _ _ _ => .int _
theorem ops_mod : OpS K (rI (fun _ j => 0 < j) fun i j => .int (i % j)) dMod := opS_I (fun _ _ h => of_decide_eq_true h) fun _ _ _ _ => .int _
theorem ops_div : OpS K (rI CDivW fun i j => .int (i / j)) dDiv := opS_I (fun _ _ h => by rw [Bool.and_eq_true] at h; exact ⟨of_decide_eq_true h.1, of_decide_eq_true h.2⟩) fun _ _ _ _ => .int _
end
/-! ### data: ==, in -/
mutual
def D.py : D → Option PyData
  | .non => some .none
  | .bl b => some (.bool b)
  | .int i => some (.int i)
  | .str x => some (.str x)
  | .tup ds => (D.pys ds).map .tuple
  | .lst ds => (D.pys ds).map .list
  | .ref _ => none
  | .scr _ => none
def D.pys : List D → Option (List PyData)
  | [] => some []
  | d :: ds => match d.py, D.pys ds with
    | some a, some b => some (a :: b)
    | _, _ => none
end
mutual
theorem RV.dp {K : PySem.W.Frag} {F H : Hp} {M : Mp} (s : Same F H) : ∀ (d : D) {v : V} {p : PyData}, RV K F M v d → d.py = some p → Dp K H v p
  | .non, _, _, h, e => by cases h; simp only [D.py, Option.some.injEq] at e; subst e; exact .non
  | .bl b, _, _, h, e => by cases h; simp only [D.py, Option.some.injEq] at e; subst e; exact .bl b
  | .int i, _, _, h, e => by cases h; simp only [D.py, Option.some.injEq] at e; subst e; exact .int i
  | .str x, _, _, h, e => by cases h; simp only [D.py, Option.some.injEq] at e; subst e; exact .str x
  | .tup ds, _, _, h, e => by
    cases h with
    | tup a b c =>
      cases q : D.pys ds with
      | none => simp [D.py, q] at e
      | some ps =>
        simp only [D.py, q, Option.map_some, Option.some.injEq] at e
        subst e
        exact .tup (Same.sqt s a) (RVs.dp s ds c q)
  | .lst ds, _, _, h, e => by
    cases h with
    | lst a b c =>
      cases q : D.pys ds with
      | none => simp [D.py, q] at e
      | some ps =>
        simp only [D.py, q, Option.map_some, Option.some.injEq] at e
        subst e
        exact .lst (SqL.of (s _ _ a)) (RVs.dp s ds c q)
  | .ref _, _, _, _, e => by simp [D.py] at e
  | .scr _, _, _, _, e => by simp [D.py] at e
theorem RVs.dp {K : PySem.W.Frag} {F H : Hp} {M : Mp} (s : Same F H) : ∀ (ds : List D) {vs : List V} {ps : List PyData}, RVs K F M vs ds → D.pys ds = some ps → DpAll K H vs ps
  | [], _, _, h, e => by cases h; simp only [D.pys, Option.some.injEq] at e; subst e; exact .nil
  | d :: ds, _, _, h, e => by
    cases h with
    | cons a b =>
      cases q1 : d.py with
      | none => simp [D.pys, q1] at e
      | some p =>
        cases q2 : D.pys ds with
        | none => simp [D.pys, q1, q2] at e
        | some ps =>
          simp only [D.pys, q1, q2, Option.some.injEq] at e
          subst e
          exact .cons (RV.dp s d a q1) (RVs.dp s ds b q2)
end
theorem PB.dp {K : PySem.W.Frag} {F H : Hp} {M : Mp} {v : V} {d : D} {p : PyData} (h : PB K F H M v d) (s : Same F H) (e : d.py = some p) : Dp K H v p := by
  rcases h with h | ⟨a, vs, ds, rfl, rfl, e3, e4, e5, e6⟩
  · exact RV.dp s d h e
  · cases q : D.pys ds with
    | none => simp [D.py, q] at e
    | some ps =>
      simp only [D.py, q, Option.map_some, Option.some.injEq] at e
      subst e
      exact .lst (SqL.of e3) (RVs.dp s ds e5 q)
def dEq (a b : D) : Option Bool := match a.py, b.py with
  | some p, some q => if SeqAt.shaped p && SeqAt.shaped q then some (PyData.eqv p q) else none
  | _, _ => none
def dEqV : D → D → Option D
  | .str x, .str y => some (.bl (decide (x = y)))
  | a, b => (dEq a b).map .bl
def dNeV : D → D → Option D
  | .str x, .str y => some (.bl (!decide (x = y)))
  | a, b => (dEq a b).map fun k => .bl (!k)
def rEqA (K : PySem.W.Frag) : R2 := fun x y H Q => rEq x y H Q ∨ rEqD K x y H Q
def rNeA (K : PySem.W.Frag) : R2 := fun x y H Q => rNe x y H Q ∨ rNeD K x y H Q
theorem opr_eq {X : Cx} (hu : X.A.units + 64 < cLine) : OpR X (compareOp .Eq) (rEqA X.K) := op_eq.or (op_eqD hu)
theorem opr_ne {X : Cx} (hu : X.A.units + 64 < cLine) : OpR X (compareOp .NotEq) (rNeA X.K) := op_ne.or (op_neD hu)
theorem dec_strV {x y : Str} : decide (V.str x = V.str y) = decide (x = y) := by
  by_cases h : x = y
  · rw [h]; simp
  · rw [decide_eq_false h, decide_eq_false fun z => h (V.str.inj z)]
section
variable {K : PySem.W.Frag}
theorem ops_eq0 {dx dy d : D} (e : (dEq dx dy).map D.bl = some d) : ∃ k, d = .bl k ∧ dEq dx dy = some k := by
  cases q : dEq dx dy with
  | none => rw [q] at e; cases e
  | some k => rw [q] at e; exact ⟨k, (Option.some.inj e).symm, rfl⟩
theorem dEq_ok {F H : Hp} {M : Mp} {x y : V} {dx dy : D} {k : Bool} (s : Same F H) (rx : PB K F H M x dx) (ry : PB K F H M y dy) (e : dEq dx dy = some k) : ∃ p q, Dp K H x p ∧ Dp K H y q ∧ SeqAt.shaped p = true ∧ SeqAt.shaped q = true ∧ k = PyData.eqv p q := by
  unfold dEq at e
  cases ep : dx.py with
  | none => simp [ep] at e
  | some p =>
    cases eq : dy.py with
    | none => simp [ep, eq] at e
    | some r =>
      simp only [ep, eq] at e
      split at e
      · rename_i hs
        rw [Bool.and_eq_true] at hs
        cases e
        exact ⟨p, r, rx.dp s ep, ry.dp s eq, hs.1, hs.2, rfl⟩
      · cases e
theorem ops_eq : OpS K (rEqA K) dEqV := by
  intro F H M σ ρ st x y dx dy d Q S rx ry e q
  unfold dEqV at e
  split at e
  · cases e
    refine .inl ⟨by rw [rx.str.1, ry.str.1]; rfl, ?_⟩
    rw [rx.str.1, ry.str.1, dec_strV]
    exact q _ F H M S Fr.refl (.bl _)
  · cases ek : dEq dx dy with
    | none => rw [ek] at e; cases e
    | some k =>
      rw [ek] at e
      cases e
      obtain ⟨p, r, h1, h2, h3, h4, rfl⟩ := dEq_ok S.ss.sub rx ry ek
      exact .inr ⟨p, r, h1, h2, h3, h4, q _ F H M S Fr.refl (.bl _)⟩
theorem ops_ne : OpS K (rNeA K) dNeV := by
  intro F H M σ ρ st x y dx dy d Q S rx ry e q
  unfold dNeV at e
  split at e
  · cases e
    refine .inl ⟨by rw [rx.str.1, ry.str.1]; rfl, ?_⟩
    rw [rx.str.1, ry.str.1, dec_strV]
    exact q _ F H M S Fr.refl (.bl _)
  · cases ek : dEq dx dy with
    | none => rw [ek] at e; cases e
    | some k =>
      rw [ek] at e
      cases e
      obtain ⟨p, r, h1, h2, h3, h4, rfl⟩ := dEq_ok S.ss.sub rx ry ek
      exact .inr ⟨p, r, h1, h2, h3, h4, q _ F H M S Fr.refl (.bl _)⟩
abbrev dLt := gI (fun _ _ => true) fun i j => .bl (decide (i < j))
abbrev dLe := gI (fun _ _ => true) fun i j => .bl (decide (i ≤ j))
abbrev dGt := gI (fun _ _ => true) fun i j => .bl (decide (j < i))
abbrev dGe := gI (fun _ _ => true) fun i j => .bl (decide (j ≤ i))
theorem ops_lt : OpS K (rI0 fun i j => .bl (decide (i < j))) dLt := opS_I0 fun _ _ _ _ => .bl _
theorem ops_le : OpS K (rI0 fun i j => .bl (decide (i ≤ j))) dLe := opS_I0 fun _ _ _ _ => .bl _
theorem ops_gt : OpS K (rI0 fun i j => .bl (decide (j < i))) dGt := opS_I0 fun _ _ _ _ => .bl _
theorem ops_ge : OpS K (rI0 fun i j => .bl (decide (j ≤ i))) dGe := opS_I0 fun _ _ _ _ => .bl _
/-- is None -/
def dIs : D → D → Option D
  | .non, .non => some (.bl true)
  | .int _, .non => some (.bl false)
  | .bl _, .non => some (.bl false)
  | .str _, .non => some (.bl false)
  | .tup _, .non => some (.bl false)
  | .lst _, .non => some (.bl false)
  | .ref _, .non => some (.bl false)
  | _, _ => none
def dNot : D → Option D
  | .bl b => some (.bl (!b))
  | _ => none
def dIsnt (a b : D) : Option D := (dIs a b).bind dNot
theorem dIs_ref {F H : Hp} {M : Mp} {x : V} {dx dy d : D} (rx : PB K F H M x dx) (e : dIs dx dy = some d) : dy = .non ∧ d = .bl (decide (x = .non)) := by
  unfold dIs at e
  rcases rx with h | ⟨a, vs, ds, rfl, rfl, _⟩
  · split at e <;> cases e <;> cases h <;> exact ⟨rfl, rfl⟩
  · split at e <;> simp_all
theorem ops_is : OpS K (fun x y H Q => y = .non ∧ Q (.bl (decide (x = .non))) H) dIs := by
  intro F H M σ ρ st x y dx dy d Q S rx ry e q
  obtain ⟨rfl, rfl⟩ := dIs_ref rx e
  exact ⟨ry.non, q _ F H M S Fr.refl (.bl _)⟩
theorem ops_isnt : OpS K (fun x y H Q => y = .non ∧ Q (.bl (!decide (x = .non))) H) dIsnt := by
  intro F H M σ ρ st x y dx dy d Q S rx ry e q
  unfold dIsnt at e
  cases e2 : dIs dx dy with
  | none => rw [e2] at e; cases e
  | some z =>
    obtain ⟨rfl, rfl⟩ := dIs_ref rx e2
    rw [e2] at e
    cases e
    exact ⟨ry.non, q _ F H M S Fr.refl (.bl _)⟩
/-- x in a list of data -/
def dIn : D → D → Option D
  | x, .lst ds => match x.py, D.pys ds with
    | some p, some ps => if SeqAt.shaped p && SeqAt.shaped (.list ps) then some (.bl (ps.any fun z => PyData.eqv z p)) else none
    | _, _ => none
  | _, _ => none
def dNin (a b : D) : Option D := (dIn a b).bind dNot
theorem dIn_dp {F H : Hp} {M : Mp} {x y : V} {dx dy d : D} (s : Same F H) (rx : PB K F H M x dx) (ry : PB K F H M y dy) (e : dIn dx dy = some d) :
    ∃ p ps, Dp K H x p ∧ Dp K H y (.list ps) ∧ SeqAt.shaped p = true ∧ SeqAt.shaped (.list ps) = true ∧ d = .bl (ps.any fun z => PyData.eqv z p) := by
  cases dy with
  | lst ds =>
    cases ep : dx.py with
    | none => simp [dIn, ep] at e
    | some p =>
      cases eq : D.pys ds with
      | none => simp [dIn, ep, eq] at e
      | some ps =>
        simp only [dIn, ep, eq] at e
        split at e
        · rename_i hs
          rw [Bool.and_eq_true] at hs
          cases e
          exact ⟨p, ps, rx.dp s ep, ry.dp s (by simp [D.py, eq]), hs.1, hs.2, rfl⟩
        · cases e
  | _ => simp [dIn] at e
theorem ops_in : OpS K (rInD K) dIn := by
  intro F H M σ ρ st x y dx dy d Q S rx ry e q
  obtain ⟨p, ps, h1, h2, h3, h4, rfl⟩ := dIn_dp S.ss.sub rx ry e
  exact ⟨p, ps, h1, h2, h3, h4, q _ F H M S Fr.refl (.bl _)⟩
theorem ops_nin : OpS K (rNotInD K) dNin := by
  intro F H M σ ρ st x y dx dy d Q S rx ry e q
  unfold dNin at e
  cases e2 : dIn dx dy with
  | none => rw [e2] at e; cases e
  | some z =>
    obtain ⟨p, ps, h1, h2, h3, h4, rfl⟩ := dIn_dp S.ss.sub rx ry e2
    rw [e2] at e
    cases e
    exact ⟨p, ps, h1, h2, h3, h4, q _ F H M S Fr.refl (.bl _)⟩
/-- x in a tuple of ints, or of texts -/
def flatD : D → Option V
  | .int i => some (.int i)
  | .bl b => some (.bl b)
  | .str x => some (.str x)
  | .non => some .non
  | _ => none
def flatDs : List D → Option (List V)
  | [] => some []
  | d :: ds => match flatD d, flatDs ds with
    | some a, some b => some (a :: b)
    | _, _ => none
def dInT : D → D → Option D
  | x, .tup ds => match flatD x, flatDs ds with
    | some a, some b => some (.bl (inV a b))
    | _, _ => none
  | _, _ => none
def dNinT (a b : D) : Option D := (dInT a b).bind dNot
theorem flatD_v {F : Hp} {M : Mp} {x : V} {d : D} {v : V} (r : RV K F M x d) (e : flatD d = some v) : x = v ∧ flatV v = true := by
  cases d <;> simp only [flatD, Option.some.injEq, reduceCtorEq] at e <;> subst e <;> cases r <;> exact ⟨rfl, rfl⟩
theorem flatDs_v {F : Hp} {M : Mp} : ∀ {ds : List D} {xs vs : List V}, RVs K F M xs ds → flatDs ds = some vs → xs = vs ∧ vs.all flatV = true
  | [], _, _, h, e => by cases h; simp only [flatDs, Option.some.injEq] at e; subst e; exact ⟨rfl, rfl⟩
  | d :: ds, _, _, h, e => by
    cases h with
    | cons a b =>
      cases q1 : flatD d with
      | none => simp [flatDs, q1] at e
      | some p =>
        cases q2 : flatDs ds with
        | none => simp [flatDs, q1, q2] at e
        | some ps =>
          simp only [flatDs, q1, q2, Option.some.injEq] at e
          subst e
          obtain ⟨rfl, h2⟩ := flatD_v a q1
          obtain ⟨rfl, h4⟩ := flatDs_v b q2
          exact ⟨rfl, by rw [List.all_cons, h2, h4]; rfl⟩
theorem dInT_v {F H : Hp} {M : Mp} {x y : V} {dx dy d : D} (s : Same F H) (rx : PB K F H M x dx) (ry : PB K F H M y dy) (e : dInT dx dy = some d) :
    ∃ p xs, y = .ref p ∧ SqT K H p xs ∧ flatV x = true ∧ xs.all flatV = true ∧ d = .bl (inV x xs) := by
  cases dy with
  | tup ds =>
    cases ep : flatD dx with
    | none => simp [dInT, ep] at e
    | some p =>
      cases eq : flatDs ds with
      | none => simp [dInT, ep, eq] at e
      | some ps =>
        simp only [dInT, ep, eq, Option.some.injEq] at e
        subst e
        obtain ⟨a, vs, rfl, h1, _, h2⟩ := ry.tup s
        obtain ⟨rfl, h4⟩ := flatDs_v h2 eq
        rcases rx with h | ⟨a', _, _, _, rfl, _⟩
        · obtain ⟨rfl, h5⟩ := flatD_v h ep
          exact ⟨a, vs, rfl, h1, h5, h4, rfl⟩
        · simp [flatD] at ep
  | _ => simp [dInT] at e
theorem ops_inT : OpS K (rIn K false) dInT := by
  intro F H M σ ρ st x y dx dy d Q S rx ry e q
  obtain ⟨p, xs, h1, h2, h3, h4, rfl⟩ := dInT_v S.ss.sub rx ry e
  exact ⟨p, xs, h1, .inr h2, h3, h4, q _ F H M S Fr.refl (.bl _)⟩
theorem ops_ninT : OpS K (rIn K true) dNinT := by
  intro F H M σ ρ st x y dx dy d Q S rx ry e q
  unfold dNinT at e
  cases e2 : dInT dx dy with
  | none => rw [e2] at e; cases e
  | some z =>
    obtain ⟨p, xs, h1, h2, h3, h4, rfl⟩ := dInT_v S.ss.sub rx ry e2
    rw [e2] at e
    cases e
    exact ⟨p, xs, h1, .inr h2, h3, h4, q _ F H M S Fr.refl (.bl _)⟩
end
end OM
namespace OM
open PySem PySem.Spec PyProof.Rows L2
section
variable {X : Cx} {T : Tab} {W : WX} {e a b c : Expr} {es rest : List Expr} {f fa fb fc : Ev} {t ta tb : Tv} {fs : Av} {pos : Pos}
/-! ### comparisons, tests -/
theorem de_cmp {op : CmpOp} {r : R2} {g : D → D → Option D} (ho : OpR X (compareOp op) r) (hg : OpS X.K r g) (ha : BE X T W a fa) (hb : BE X T W b fb) (hm : behindInMarks op b = false) : DE X T W (.Compare a [op] [b] pos) (eBin g fa fb) :=
  PE.wk (pe_cmpR ho ha hb hm) fun _ _ _ h => op2 hg h
/-- a value that must be a bool, as a test -/
def tBl (f : Ev) : Tv := fun ρ st => (f ρ st).bind fun d st1 => match d with
  | .bl k => .ok k st1
  | _ => .stuck
theorem tB_of {K : PySem.W.Frag} {σ : L2.St} {H : Hp} {Q : Bool → Hp → Prop} (h : tR K T W PBo (tBl f) σ H Q) : tR K T W (PV K) f σ H fun x H1 => ∃ k, x = .bl k ∧ Q k H1 := by
  obtain ⟨F, M, ρ, st, S, h⟩ := h
  refine tR_bind S h fun d st1 v F1 H1 M1 S1 f1 r h1 => ?_
  cases d with
  | bl k => cases r; exact ⟨k, rfl, h1 k F1 H1 M1 S1 Fr.refl rfl⟩
  | _ => exact False.elim h1
theorem dt_cmp {op : CmpOp} {r : R2} {g : D → D → Option D} (ho : OpR X (compareOp op) r) (hg : OpS X.K r g) (ha : BE X T W a fa) (hb : BE X T W b fb) (hm : behindInMarks op b = false) : DT X T W (.Compare a [op] [b] pos) (tBl (eBin g fa fb)) := by
  refine PT.wk (pt_cmpR ho ha hb hm) fun σ H Q h => ?_
  obtain ⟨F, M, ρ, st, S, h⟩ := tB_of h
  exact op2 hg ⟨F, M, ρ, st, S, h⟩
/-- a op b op' c -/
def eCh (g g' : D → D → Option D) (a b c : Ev) : Ev := fun ρ st => (a ρ st).bind fun x st1 => (b ρ st1).bind fun y st2 => match g x y with
  | some (.bl true) => (c ρ st2).bind fun z st3 => R.of (g' y z) st3
  | some (.bl false) => .ok (.bl false) st2
  | _ => .stuck
/-- an operator that only looks -/
def OpB (K : PySem.W.Frag) (r : R2) (g : D → D → Option D) : Prop := ∀ (F H : Hp) (M : Mp) (x y : V) (dx dy : D) (k : Bool) (Q : VK), Same F H → PB K F H M x dx → PB K F H M y dy → g dx dy = some (.bl k) → Q (.bl k) H → r x y H Q
theorem opb_I {K : PySem.W.Frag} {p : Int → Int → Bool} : OpB K (rI0 fun i j => .bl (p i j)) (gI (fun _ _ => true) fun i j => .bl (p i j)) := by
  intro F H M x y dx dy k Q s rx ry e q
  cases dx <;> try (simp [gI] at e; done)
  cases dy <;> try (simp [gI] at e; done)
  rename_i i j
  simp only [gI, if_true, Option.some.injEq, D.bl.injEq] at e
  subst e
  exact ⟨i, j, rx.int, ry.int, q⟩
theorem ch2 {r r' : R2} {g g' : D → D → Option D} (hg : OpB X.K r g) (hg' : OpS X.K r' g') {Q : VK} {σ : L2.St} {H : Hp} (h : tR X.K T W (PV X.K) (eCh g g' fa fb fc) σ H Q) :
    tChain r r' (tR X.K T W (PB X.K) fa) (tR X.K T W (PB X.K) fb) (tR X.K T W (PB X.K) fc) σ H Q := by
  obtain ⟨F, M, ρ, st, S, h⟩ := h
  refine tR_bind S h fun dx st1 x F1 H1 M1 S1 f1 rx h1 => ?_
  refine tR_bind S1 h1 fun dy st2 y F2 H2 M2 S2 f2 ry h2 => ?_
  cases e : g dx dy with
  | none => simp only [e] at h2; exact False.elim h2
  | some d =>
    cases d with
    | bl k =>
      refine hg F2 H2 M2 x y dx dy k _ S2.ss.sub (PB.fr rx f2) ry e ⟨k, rfl, ?_⟩
      cases k with
      | false =>
        simp only [e] at h2
        exact iteF (h2 _ F2 H2 M2 S2 Fr.refl (.bl _))
      | true =>
        simp only [e] at h2
        refine iteT (tR_bind S2 h2 fun dz st3 z F3 H3 M3 S3 f3 rz h3 => ?_)
        obtain ⟨d, e3, h3⟩ := h3.of
        exact hg' F3 H3 M3 σ ρ st3 y z dy dz d Q S3 (PB.fr ry f3) rz e3 h3
    | _ => simp only [e] at h2; exact False.elim h2
theorem de_chain {op op' : CmpOp} {r r' : R2} {g g' : D → D → Option D} (ho : OpR X (compareOp op) r) (hg : OpB X.K r g) (ho' : OpR X (compareOp op') r') (hg' : OpS X.K r' g') (ha : BE X T W a fa) (hb : BE X T W b fb) (hc : BE X T W c fc)
    (hm : lastMarks [op, op'] [b, c] = false := by with_unfolding_all rfl) : DE X T W (.Compare a [op, op'] [b, c] pos) (eCh g g' fa fb fc) :=
  PE.wk (pe_chain ho ho' ha hb hc hm) fun _ _ _ h => ch2 hg hg' h
theorem dt_chain {op op' : CmpOp} {r r' : R2} {g g' : D → D → Option D} (ho : OpR X (compareOp op) r) (hg : OpB X.K r g) (ho' : OpR X (compareOp op') r') (hg' : OpS X.K r' g') (ha : BE X T W a fa) (hb : BE X T W b fb) (hc : BE X T W c fc)
    (hm : lastMarks [op, op'] [b, c] = false := by with_unfolding_all rfl) : DT X T W (.Compare a [op, op'] [b, c] pos) (tBl (eCh g g' fa fb fc)) := by
  refine PT.wk (pt_chain ho ho' ha hb hc hm) fun σ H Q h => ?_
  obtain ⟨F, M, ρ, st, S, h⟩ := tB_of h
  exact ch2 hg hg' ⟨F, M, ρ, st, S, h⟩
/-- truth -/
def dTru : D → Option Bool
  | .non => some false
  | .bl b => some b
  | .int i => some (i != 0)
  | .str x => some ((x.length : Int) != 0)
  | .tup ds => some (!ds.isEmpty)
  | .lst ds => some (!ds.isEmpty)
  | _ => none
theorem emp_of {K : PySem.W.Frag} {F : Hp} {M : Mp} {vs : List V} {ds : List D} (r : RVs K F M vs ds) : ds.isEmpty = vs.isEmpty := by
  cases r <;> rfl
theorem dTru_ok {K : PySem.W.Frag} {F H : Hp} {M : Mp} {x : V} {d : D} {k : Bool} (s : Same F H) (r : PB K F H M x d) (e : dTru d = some k) : TruV K x H k := by
  rcases r with r | ⟨a, vs, ds, rfl, rfl, h1, _, r, _⟩
  · cases d with
    | non => cases r; cases e; rfl
    | bl b => cases r; cases e; rfl
    | int i => cases r; cases e; rfl
    | str y => cases r with | str _ z => cases e; exact ⟨z, rfl⟩
    | tup ds => cases r with | tup q z r => cases e; exact .inr (.inl ⟨_, Same.sqt s q, by rw [emp_of r]⟩)
    | lst ds => cases r with | lst q z r => cases e; exact .inl ⟨_, SqL.of (s _ _ q), by rw [emp_of r]⟩
    | ref n => cases e
    | scr ns => cases e
  · cases e; exact .inl ⟨vs, SqL.of h1, by rw [emp_of r]⟩
def tTru (f : Ev) : Tv := fun ρ st => (f ρ st).bind fun d st1 => R.of (dTru d) st1
theorem dt_tru (ha : BE X T W a fa) (he : ∀ whole, isTrue a X.env whole = (do let v ← whole; standAt a.pos; holding [v] (truthy v)) := by intro _; rfl) : DT X T W a (tTru fa) := by
  refine PT.wk (pt_truth ha he) fun σ H Q ⟨F, M, ρ, st, S, h⟩ => ?_
  refine tR_bind S h fun d st1 v F1 H1 M1 S1 f1 r h1 => ?_
  obtain ⟨k, e, h2⟩ := h1.of
  exact ⟨k, dTru_ok S1.ss.sub r e, h2 k F1 H1 M1 S1 Fr.refl rfl⟩
def tNo (t : Tv) : Tv := fun ρ st => (t ρ st).bind fun k st1 => .ok (!k) st1
theorem dt_not (ha : DT X T W a ta) : DT X T W (.UnaryOp .Not a pos) (tNo ta) := by
  refine PT.wk (pt_not ha) fun σ H Q ⟨F, M, ρ, st, S, h⟩ => ?_
  refine tR_bind S h fun d st1 v F1 H1 M1 S1 f1 r h1 => ?_
  cases r
  exact h1 _ F1 H1 M1 S1 Fr.refl rfl
def tAn (t u : Tv) : Tv := fun ρ st => (t ρ st).bind fun k st1 => if k = true then u ρ st1 else .ok false st1
def tOu (t u : Tv) : Tv := fun ρ st => (t ρ st).bind fun k st1 => if k = true then .ok true st1 else u ρ st1
theorem dw_and1 (ha : DT X T W a ta) : DW X T W (.BoolOp .And [a] pos) ta := pw_and1 ha
theorem dw_or1 (ha : DT X T W a ta) : DW X T W (.BoolOp .Or [a] pos) ta := pw_or1 ha
theorem dw_and (ha : DT X T W a ta) (hb : DW X T W (.BoolOp .And (b :: rest) pos) tb) : DW X T W (.BoolOp .And (a :: b :: rest) pos) (tAn ta tb) := by
  refine PW.wk (pw_and ha hb) fun σ H Q ⟨F, M, ρ, st, S, h⟩ => ?_
  refine tR_bind S h fun d st1 v F1 H1 M1 S1 f1 r h1 => ?_
  cases r
  cases d with
  | true => exact iteT (tR_last S1 (by simpa using h1))
  | false => exact iteF ((show wR X.K T W PBo F1 H1 M1 σ ρ (.ok false st1) Q by simpa using h1) _ F1 H1 M1 S1 Fr.refl rfl)
theorem dw_or (ha : DT X T W a ta) (hb : DW X T W (.BoolOp .Or (b :: rest) pos) tb) : DW X T W (.BoolOp .Or (a :: b :: rest) pos) (tOu ta tb) := by
  refine PW.wk (pw_or ha hb) fun σ H Q ⟨F, M, ρ, st, S, h⟩ => ?_
  refine tR_bind S h fun d st1 v F1 H1 M1 S1 f1 r h1 => ?_
  cases r
  cases d with
  | true => exact iteT ((show wR X.K T W PBo F1 H1 M1 σ ρ (.ok true st1) Q by simpa using h1) _ F1 H1 M1 S1 Fr.refl rfl)
  | false => exact iteF (tR_last S1 (by simpa using h1))
theorem dt_bool {op : PySem.BoolOp} (h : DW X T W (.BoolOp op es pos) t) : DT X T W (.BoolOp op es pos) t := PW.pt h
/-- and, or, not as values: bools (the last one may be anything) -/
def eAn (a b : Ev) : Ev := fun ρ st => (a ρ st).bind fun d st1 => match d with
  | .bl true => b ρ st1
  | .bl false => .ok (.bl false) st1
  | _ => .stuck
def eOu (a b : Ev) : Ev := fun ρ st => (a ρ st).bind fun d st1 => match d with
  | .bl true => .ok (.bl true) st1
  | .bl false => b ρ st1
  | _ => .stuck
theorem de_one {op : PySem.BoolOp} (h : DE X T W a fa) : DE X T W (.BoolOp op [a] pos) fa := pe_one h
theorem de_and (ha : DE X T W a fa) (hb : DE X T W (.BoolOp .And (b :: rest) pos) fb) : DE X T W (.BoolOp .And (a :: b :: rest) pos) (eAn fa fb) := by
  refine PE.wk (pe_and ha hb) fun σ H Q ⟨F, M, ρ, st, S, h⟩ => ?_
  refine tR_bind S h fun d st1 v F1 H1 M1 S1 f1 r h1 => ?_
  cases d with
  | bl k =>
    cases r
    refine ⟨k, rfl, ?_⟩
    cases k with
    | true => exact iteT (tR_last S1 h1)
    | false => exact iteF (h1 _ F1 H1 M1 S1 Fr.refl (.bl _))
  | _ => exact False.elim h1
theorem de_or (ha : DE X T W a fa) (hb : DE X T W (.BoolOp .Or (b :: rest) pos) fb) : DE X T W (.BoolOp .Or (a :: b :: rest) pos) (eOu fa fb) := by
  refine PE.wk (pe_or ha hb) fun σ H Q ⟨F, M, ρ, st, S, h⟩ => ?_
  refine tR_bind S h fun d st1 v F1 H1 M1 S1 f1 r h1 => ?_
  cases d with
  | bl k =>
    cases r
    refine ⟨k, rfl, ?_⟩
    cases k with
    | true => exact iteT (h1 _ F1 H1 M1 S1 Fr.refl (.bl _))
    | false => exact iteF (tR_last S1 h1)
  | _ => exact False.elim h1
def eNo (a : Ev) : Ev := fun ρ st => (a ρ st).bind fun d st1 => R.of ((dTru d).map fun k => .bl (!k)) st1
theorem de_not (ha : BE X T W a fa) : DE X T W (.UnaryOp .Not a pos) (eNo fa) := by
  refine PE.wk (pe_notT ha) fun σ H Q ⟨F, M, ρ, st, S, h⟩ => ?_
  refine tR_bind S h fun d st1 v F1 H1 M1 S1 f1 r h1 => ?_
  obtain ⟨z, e, h2⟩ := h1.of
  obtain ⟨k, e1, rfl⟩ := Option.map_eq_some_iff.mp e
  exact ⟨k, dTru_ok S1.ss.sub r e1, h2 _ F1 H1 M1 S1 Fr.refl (.bl _)⟩
def eIf (t : Tv) (a b : Ev) : Ev := fun ρ st => (t ρ st).bind fun k st1 => if k = true then a ρ st1 else b ρ st1
theorem de_if (hc : DT X T W c t) (ha : DE X T W a fa) (hb : DE X T W b fb) : DE X T W (.IfExp c a b pos) (eIf t fa fb) := by
  refine PE.wk (pe_ifExp hc ha hb) fun σ H Q ⟨F, M, ρ, st, S, h⟩ => ?_
  refine tR_bind S h fun d st1 v F1 H1 M1 S1 f1 r h1 => ?_
  cases r
  cases d with
  | true => exact iteT (tR_last S1 (by simpa using h1))
  | false => exact iteF (tR_last S1 (by simpa using h1))
/-! ### unary -/
def eUn (g : D → Option D) (a : Ev) : Ev := fun ρ st => (a ρ st).bind fun x st1 => R.of (g x) st1
def dNeg : D → Option D
  | .int i => some (.int (-i))
  | _ => none
def dInv : D → Option D
  | .int i => some (.int (Builtin.bitNot i))
  | _ => none
theorem de_neg (ha : BE X T W a fa) : DE X T W (.UnaryOp .USub a pos) (eUn dNeg fa) := by
  refine PE.wk (pe_un un_neg ha) fun σ H Q ⟨F, M, ρ, st, S, h⟩ => ?_
  refine tR_bind S h fun d st1 v F1 H1 M1 S1 f1 r h1 => ?_
  obtain ⟨z, e, h2⟩ := h1.of
  cases d <;> simp only [dNeg, Option.some.injEq, reduceCtorEq] at e
  subst e
  exact ⟨_, r.int, h2 _ F1 H1 M1 S1 Fr.refl (.int _)⟩
theorem de_inv (ha : BE X T W a fa) : DE X T W (.UnaryOp .Invert a pos) (eUn dInv fa) := by
  refine PE.wk (pe_un un_inv ha) fun σ H Q ⟨F, M, ρ, st, S, h⟩ => ?_
  refine tR_bind S h fun d st1 v F1 H1 M1 S1 f1 r h1 => ?_
  obtain ⟨z, e, h2⟩ := h1.of
  cases d <;> simp only [dInv, Option.some.injEq, reduceCtorEq] at e
  subst e
  exact ⟨_, r.int, h2 _ F1 H1 M1 S1 Fr.refl (.int _)⟩
/-! ### displays -/
def aNil : Av := fun _ st => .ok [] st
def aCons (f : Ev) (g : Av) : Av := fun ρ st => (f ρ st).bind fun d st1 => (g ρ st1).bind fun ds st2 => .ok (d :: ds) st2
theorem da_nil : DA X T W [] aNil := PA.wk pa_nil fun σ H Q ⟨F, M, ρ, st, S, h⟩ => h [] F H M S Fr.refl .nil
theorem da_cons (ha : DE X T W e f) (hr : DA X T W es fs) (hs : starEach (e :: es) X.env = (false, eval e X.env) :: starEach es X.env := by rfl) : DA X T W (e :: es) (aCons f fs) := by
  refine PA.wk (pa_cons ha hr hs) fun σ H Q ⟨F, M, ρ, st, S, h⟩ => ?_
  refine tR_bind S h fun d st1 v F1 H1 M1 S1 f1 r h1 => ?_
  refine tR_bind S1 h1 fun ds st2 vs F2 H2 M2 S2 f2 rs h2 => ?_
  exact h2 (v :: vs) F2 H2 M2 S2 Fr.refl (.cons (f2.rv r) rs)
def eTup (g : Av) : Ev := fun ρ st => (g ρ st).bind fun ds st1 => if lenOk ds.length then .ok (.tup ds) st1 else .stuck
def eLst (g : Av) : Ev := fun ρ st => (g ρ st).bind fun ds st1 => if lenOk ds.length then .ok (.lst ds) st1 else .stuck
theorem de_tup {k : Nat} (h : DA X T W es fs) : DE X T W (.Tuple es k pos) (eTup fs) := by
  refine PE.wk (pe_tup h) fun σ H Q ⟨F, M, ρ, st, S, h⟩ => ?_
  refine tR_bind S h fun ds st1 vs F1 H1 M1 S1 f1 r h1 => ?_
  by_cases hz : lenOk ds.length = true
  · rw [if_pos hz] at h1
    have hz' := of_decide_eq_true hz
    exact ⟨by rw [r.length]; exact hz', ret_tup S1 hz' r h1⟩
  · rw [if_neg hz] at h1; exact False.elim h1
theorem de_lst (h : DA X T W es fs) : DE X T W (.List es pos) (eLst fs) := by
  refine PE.wk (pe_lst h) fun σ H Q ⟨F, M, ρ, st, S, h⟩ => ?_
  refine tR_bind S h fun ds st1 vs F1 H1 M1 S1 f1 r h1 => ?_
  by_cases hz : lenOk ds.length = true
  · rw [if_pos hz] at h1
    have hz' := of_decide_eq_true hz
    exact ⟨by rw [r.length]; exact hz', ret_lst S1 hz' r h1⟩
  · rw [if_neg hz] at h1; exact False.elim h1
/-! ### a new list for a slot of one's own -/
def tN (K : PySem.W.Frag) (T : Tab) (W : WX) (f : Av) : TE := fun σ H Q => ∃ F M ρ st, SR K F H M σ ρ st ∧ wR K T W (PN K H) F H M σ ρ (f ρ st) Q
def NE (X : Cx) (T : Tab) (W : WX) (e : Expr) (f : Av) : Prop := PE X e (tN X.K T W f)
def aLst (g : Av) : Av := fun ρ st => (g ρ st).bind fun ds st1 => if lenOk ds.length then .ok ds st1 else .stuck
theorem ne_lst (h : DA X T W es fs) : NE X T W (.List es pos) (aLst fs) := by
  refine PE.wk (pe_lst h) fun σ H Q ⟨F, M, ρ, st, S, h⟩ => ?_
  refine tR_bind S h fun ds st1 vs F1 H1 M1 S1 f1 r h1 => ?_
  by_cases hz : lenOk ds.length = true
  · rw [if_pos hz] at h1
    have hz' := of_decide_eq_true hz
    exact ⟨by rw [r.length]; exact hz', ret_own f1 S1 hz' r h1⟩
  · rw [if_neg hz] at h1; exact False.elim h1
/-! ### items, slices -/
def dIx (st : Stor) : D → D → Option D
  | .tup ds, .int i => atI ds i
  | .lst ds, .int i => atI ds i
  | .str z, .int i => (atI z.cps.toList i).map fun c => .str ⟨#[c]⟩
  | .ref n, .int i => match st[n]? with
    | some (.lst ds) => atI ds i
    | none => none
  | _, _ => none
def eIx (a b : Ev) : Ev := fun ρ st => (a ρ st).bind fun x st1 => (b ρ st1).bind fun y st2 => R.of (dIx st2 x y) st2
theorem atI_rv {K : PySem.W.Frag} {F : Hp} {M : Mp} {vs : List V} {ds : List D} {i : Int} {d : D} (r : RVs K F M vs ds) (e : atI ds i = some d) : ∃ v, atI vs i = some v ∧ RV K F M v d := by
  unfold atI at e ⊢
  rw [← r.length] at e
  cases q : ixN vs.length i with
  | none => rw [q] at e; cases e
  | some j =>
    rw [q] at e
    obtain ⟨v, h1, h2⟩ := r.get e
    exact ⟨v, h1, h2⟩
theorem de_ix (ha : BE X T W a fa) (hb : BE X T W b fb) (hs : PlainIx b := by intro _ _; rfl) : DE X T W (.Subscript a b pos) (eIx fa fb) := by
  refine PE.wk (pe_ix ix_seq ha hb hs) fun σ H Q ⟨F, M, ρ, st, S, h⟩ => ?_
  refine tR_bind S h fun dx st1 x F1 H1 M1 S1 f1 rx h1 => ?_
  refine tR_bind S1 h1 fun dy st2 y F2 H2 M2 S2 f2 ry h2 => ?_
  obtain ⟨d, e, h3⟩ := h2.of
  have rx := PB.fr rx f2
  cases dy <;> try (cases dx <;> simp [dIx] at e; done)
  rename_i i
  have ey := ry.int
  subst ey
  cases dx with
  | tup ds =>
    obtain ⟨p, vs, rfl, q, _, r⟩ := rx.tup S2.ss.sub
    rcases rx with rx | ⟨_, _, _, _, z, _⟩
    · cases rx with
      | tup q z r =>
        obtain ⟨v, e1, r1⟩ := atI_rv r e
        exact .inr (.inl ⟨_, _, i, v, rfl, rfl, Same.sqt S2.ss.sub q, e1, h3 v F2 H2 M2 S2 Fr.refl r1⟩)
    · cases z
  | lst ds =>
    obtain ⟨p, vs, rfl, q, _, r⟩ := rx.lst S2.ss.sub
    obtain ⟨v, e1, r1⟩ := atI_rv r e
    exact .inl ⟨_, _, i, v, rfl, rfl, SqL.of q, e1, h3 v F2 H2 M2 S2 Fr.refl r1⟩
  | str z =>
    obtain ⟨rfl, hz⟩ := rx.str
    obtain ⟨c, e1, rfl⟩ := Option.map_eq_some_iff.mp (show (atI z.cps.toList i).map (fun c => D.str ⟨#[c]⟩) = some d from e)
    exact .inr (.inr ⟨_, i, c, rfl, rfl, hz, e1, h3 _ F2 H2 M2 S2 Fr.refl (.str _ (by show 1 ≤ sizeLine; rw [sizeLine_eq]; omega))⟩)
  | ref n =>
    cases q : st2[n]? with
    | none => simp [dIx, q] at e
    | some ob =>
      cases ob with
      | lst ds =>
        simp only [dIx, q] at e
        obtain ⟨p, hm, _, vs, hp, _, r⟩ := S2.ss.obs n _ q
        obtain ⟨v, e1, r1⟩ := atI_rv r e
        rcases rx with rx | ⟨_, _, _, _, z, _⟩
        · cases rx with
          | ref hm' =>
            rw [hm] at hm'
            cases hm'
            exact .inl ⟨_, _, i, v, rfl, rfl, SqL.of hp, e1, h3 v F2 H2 M2 S2 Fr.refl r1⟩
        · cases z
  | _ => simp [dIx] at e
/-- a slice's part -/
def PoI : Hp → Hp → Mp → Option Int → Option Int → Prop := fun _ _ _ a b => a = b
abbrev Pv := En → Stor → R (Option Int)
def DP (X : Cx) (T : Tab) (W : WX) (e : Option Expr) (f : Pv) : Prop := PO X e (tR X.K T W PoI f)
theorem PO.wk {e : Option Expr} {t t' : TO} (h : PO X e t) (k : ∀ σ H Q, t' σ H Q → t σ H Q) : PO X e t' := ⟨fun p s σ H Q I q => h.run p s σ H Q I (k σ H Q q)⟩
def pNo : Pv := fun _ st => .ok none st
def pSo (f : Ev) : Pv := fun ρ st => (f ρ st).bind fun d st1 => match d with
  | .int i => .ok (some i) st1
  | _ => .stuck
theorem dp_no : DP X T W none pNo := PO.wk po_none fun σ H Q ⟨F, M, ρ, st, S, h⟩ => h none F H M S Fr.refl rfl
theorem dp_so (h : DE X T W e f) : DP X T W (some e) (pSo f) := by
  refine PO.wk (po_some h) fun σ H Q ⟨F, M, ρ, st, S, h⟩ => ?_
  refine tR_bind S h fun d st1 v F1 H1 M1 S1 f1 r h1 => ?_
  cases d with
  | int i => cases r; exact ⟨i, rfl, h1 _ F1 H1 M1 S1 Fr.refl rfl⟩
  | _ => exact False.elim h1
def cutD {α : Type} (xs : List α) (lo hi : Option Int) : List α := (xs.drop (HT.sIx xs.length 0 lo)).take (HT.sIx xs.length xs.length hi - HT.sIx xs.length 0 lo)
theorem cutD_length {α : Type} (xs : List α) (lo hi : Option Int) : (cutD xs lo hi).length ≤ xs.length := by
  unfold cutD
  rw [List.length_take, List.length_drop]
  omega
theorem cut_rv {K : PySem.W.Frag} {F : Hp} {M : Mp} {vs : List V} {ds : List D} (r : RVs K F M vs ds) (lo hi : Option Int) : RVs K F M (cutV vs lo hi) (cutD ds lo hi) := by
  unfold cutV cutD
  rw [r.length]
  exact (r.drop _).take _
def dSl : D → Option Int → Option Int → Option D
  | .tup ds, lo, hi => some (.tup (cutD ds lo hi))
  | .lst ds, lo, hi => some (.lst (cutD ds lo hi))
  | .scr ns, lo, hi => some (.lst ((cutD ns lo hi).map .int))
  | _, _, _ => none
def eSl (a : Ev) (l u : Pv) : Ev := fun ρ st => (a ρ st).bind fun x st1 => (l ρ st1).bind fun i st2 => (u ρ st2).bind fun j st3 => R.of (dSl x i j) st3
theorem de_sl {lo hi : Option Expr} {l u : Pv} {p2 : Pos} (ha : BE X T W a fa) (hl : DP X T W lo l) (hu : DP X T W hi u) : DE X T W (.Subscript a (.Slice lo hi none p2) pos) (eSl fa l u) := by
  refine PE.wk (pe_slice (sl_list.or sl_tupA) ha hl hu) fun σ H Q ⟨F, M, ρ, st, S, h⟩ => ?_
  refine tR_bind S h fun dx st1 x F1 H1 M1 S1 f1 rx h1 => ?_
  refine tR_bind S1 h1 fun i st2 i' F2 H2 M2 S2 f2 ri h2 => ?_
  cases ri
  refine tR_bind S2 h2 fun j st3 j' F3 H3 M3 S3 f3 rj h3 => ?_
  cases rj
  obtain ⟨d, e, h3⟩ := h3.of
  have rx := PB.fr (PB.fr rx f2) f3
  cases dx with
  | tup ds =>
    cases e
    rcases rx with rx | ⟨_, _, _, _, z, _⟩
    · cases rx with
      | tup q z r =>
        refine .inr ⟨_, _, rfl, Same.sqt S3.ss.sub q, fun hw => ?_, fun _ => ret_tup S3 (Nat.le_trans (cutD_length _ _ _) z) (cut_rv r i j) h3⟩
        have e1 : cutD ds i j = ds := by
          unfold cutD
          rw [← r.length, hw.1, hw.2, List.drop_zero, r.length, Nat.sub_zero, List.take_length]
        rw [e1] at h3
        exact h3 _ F3 H3 M3 S3 Fr.refl (.tup q z r)
    · cases z
  | lst ds =>
    cases e
    obtain ⟨p, vs, rfl, q, z, r⟩ := rx.lst S3.ss.sub
    exact .inl ⟨p, vs, rfl, SqL.of q, ret_lst S3 (Nat.le_trans (cutD_length _ _ _) z) (cut_rv r i j) h3⟩
  | scr ns =>
    cases e
    rcases rx with rx | ⟨_, _, _, _, z, _⟩
    · cases rx with
      | scr q z =>
        refine .inl ⟨_, _, rfl, S3.ss.sub.seq q, ?_⟩
        have e1 : cutV (ns.map V.int) i j = (cutD ns i j).map V.int := by
          unfold cutV cutD
          rw [List.length_map, List.map_take, List.map_drop]
        rw [e1]
        exact ret_lst S3 (by rw [List.length_map]; exact Nat.le_trans (cutD_length _ _ _) z) (RVs.of_ints _) h3
    · cases z
  | _ => simp [dSl] at e
end
end OM
namespace OM
open PySem PySem.Spec PyProof.Rows L2
/-! ### what a plain statement asks -/
def OwG (σ : L2.St) (ρ : En) (H : Hp) (σ' : L2.St) (ρ' : En) : Prop := ∀ a, OwnA σ' ρ' a → OwnA σ ρ a ∨ H a = none
theorem OwG.refl {σ : L2.St} {ρ : En} {H : Hp} : OwG σ ρ H σ ρ := fun _ h => .inl h
def wS (K : PySem.W.Frag) (T : Tab) (W : WX) (F H : Hp) (M : Mp) (σ : L2.St) (ρ : En) (o : O) (N : Ends) : Prop := match o with
  | .nx r st => ∀ σ' F' H' M', SR K F' H' M' σ' r st → Fr (OwnA σ ρ) F H M F' H' M' → OwG σ ρ H σ' r → N.nx σ' H'
  | .rt d st => ∀ v F' H' M', SS K F' H' M' st → Fr (OwnA σ ρ) F H M F' H' M' → RV K F' M' v d → N.rt v H'
  | .bk r st => ∀ σ' F' H' M', SR K F' H' M' σ' r st → Fr (OwnA σ ρ) F H M F' H' M' → OwG σ ρ H σ' r → N.bk σ' H'
  | .ct r st => ∀ σ' F' H' M', SR K F' H' M' σ' r st → Fr (OwnA σ ρ) F H M F' H' M' → OwG σ ρ H σ' r → N.ct σ' H'
  | .ex e r st => ∀ σ' F' H' M', SR K F' H' M' σ' r st → Fr (OwnA σ ρ) F H M F' H' M' → OwG σ ρ H σ' r → XW T W e σ' H'
  | .stuck => False
def tS (K : PySem.W.Frag) (T : Tab) (W : WX) (s : Sv) : TS := fun N σ H => ∃ F M ρ st, SR K F H M σ ρ st ∧ wS K T W F H M σ ρ (s ρ st) N
section
variable {α β : Type} {K : PySem.W.Frag} {T : Tab} {W : WX} {P : Hp → Hp → Mp → β → α → Prop} {F H F1 H1 F2 H2 : Hp} {M M1 M2 : Mp} {σ σ1 σ2 : L2.St} {ρ ρ1 ρ2 : En} {st : Stor} {Q : β → Hp → Prop} {N N' : Ends} {o : O}
theorem OwG.trans (a : OwG σ ρ H σ1 ρ1) (b : OwG σ1 ρ1 H1 σ2 ρ2) (t : ∀ x, H x ≠ none → H1 x ≠ none) : OwG σ ρ H σ2 ρ2 := fun x h => by
  rcases b x h with h | h
  · exact a x h
  · refine .inr ?_
    cases q : H x with
    | none => rfl
    | some u => exact absurd h (t x (by rw [q]; simp))
theorem wS.base (h : wS K T W F H M σ ρ o N) (f : Fr (OwnA σ ρ) F H M F1 H1 M1) (g : OwG σ ρ H σ1 ρ1) : wS K T W F1 H1 M1 σ1 ρ1 o N := by
  cases o with
  | nx r st => exact fun σ' F' H' M' s f' g' => h σ' F' H' M' s (f.trans f' g) (g.trans g' f.there)
  | bk r st => exact fun σ' F' H' M' s f' g' => h σ' F' H' M' s (f.trans f' g) (g.trans g' f.there)
  | ct r st => exact fun σ' F' H' M' s f' g' => h σ' F' H' M' s (f.trans f' g) (g.trans g' f.there)
  | ex e r st => exact fun σ' F' H' M' s f' g' => h σ' F' H' M' s (f.trans f' g) (g.trans g' f.there)
  | rt d st => exact fun v F' H' M' s f' r => h v F' H' M' s (f.trans f' g) r
  | stuck => exact h
/-- an expression within a statement -/
theorem tS_bind {f : En → Stor → R α} {g : α → Stor → O} (S : SR K F H M σ ρ st) (h : wS K T W F H M σ ρ ((f ρ st).out ρ g) N)
    (k : ∀ d st1 v F1 H1 M1, SR K F1 H1 M1 σ ρ st1 → Fr No F H M F1 H1 M1 → P F1 H1 M1 v d → wS K T W F1 H1 M1 σ ρ (g d st1) N → Q v H1) : tR K T W P f σ H Q := by
  refine ⟨F, M, ρ, st, S, ?_⟩
  cases e : f ρ st with
  | ok d st1 =>
    rw [e] at h
    intro v F1 H1 M1 s1 f1 p1
    exact k d st1 v F1 H1 M1 s1 f1 p1 (wS.base h f1.wk OwG.refl)
  | exn x st1 =>
    rw [e] at h
    exact fun F' H' M' s f => h σ F' H' M' s f.wk OwG.refl
  | stuck => rw [e] at h; exact h
/-- .. whose value is a new list -/
theorem tS_bindN {f : Av} {g : List D → Stor → O} {Q : VK} (S : SR K F H M σ ρ st) (h : wS K T W F H M σ ρ ((f ρ st).out ρ g) N)
    (k : ∀ d st1 v F1 H1 M1, SR K F1 H1 M1 σ ρ st1 → Fr No F H M F1 H1 M1 → PN K H F1 H1 M1 v d → wS K T W F H M σ ρ (g d st1) N → Q v H1) : tN K T W f σ H Q := by
  refine ⟨F, M, ρ, st, S, ?_⟩
  cases e : f ρ st with
  | ok d st1 =>
    rw [e] at h
    intro v F1 H1 M1 s1 f1 p1
    exact k d st1 v F1 H1 M1 s1 f1 p1 h
  | exn x st1 =>
    rw [e] at h
    exact fun F' H' M' s f => h σ F' H' M' s f.wk OwG.refl
  | stuck => rw [e] at h; exact h
/-! ### slots stored -/
theorem set_at {α : Type} {xs : List α} {i j : Nat} {x y : α} (h : (xs.set i x)[j]? = some y) : (i = j ∧ y = x) ∨ (i ≠ j ∧ xs[j]? = some y) := by
  by_cases e : i = j
  · subst e
    rw [List.getElem?_set] at h
    simp only [if_true] at h
    split at h
    · exact .inl ⟨rfl, (Option.some.inj h).symm⟩
    · cases h
  · rw [List.getElem?_set_ne e] at h
    exact .inr ⟨e, h⟩
theorem at_set {α : Type} {xs : List α} {i : Nat} (h : i < xs.length) (x : α) : (xs.set i x)[i]? = some x := by
  rw [List.getElem?_set]; simp [h]
theorem SR.at (S : SR K F H M σ ρ st) {i : Nat} {x y : Sl} {ρ' : En} (h : (ρ.set i x)[i]? = some y) : i < σ.length := by
  have : i < (ρ.set i x).length := (List.getElem?_eq_some_iff.mp h).1
  rw [List.length_set] at this
  rw [S.len]; exact this
theorem SR.set (S : SR K F H M σ ρ st) {v : V} {d : D} (i : Nat) (r : RV K F M v d) : SR K F H M (σ.set i (some v)) (ρ.set i (.vl d)) st := by
  refine ⟨S.ss, by rw [List.length_set, List.length_set]; exact S.len, fun j d' e => ?_, fun j ds e => ?_, fun j k ds es a h1 h2 h3 h4 => ?_⟩
  · rcases set_at e with ⟨rfl, e'⟩ | ⟨n, e'⟩
    · cases e'
      exact ⟨v, at_set (S.at (ρ' := ρ) e) _, r⟩
    · rw [List.getElem?_set_ne n]
      exact S.vl j d' e'
  · rcases set_at e with ⟨rfl, e'⟩ | ⟨n, e'⟩
    · cases e'
    · rw [List.getElem?_set_ne n]
      exact S.ow j ds e'
  · rcases set_at h1 with ⟨rfl, e'⟩ | ⟨n, e'⟩
    · cases e'
    · rcases set_at h2 with ⟨rfl, e2⟩ | ⟨n2, e2⟩
      · cases e2
      · rw [List.getElem?_set_ne n] at h3
        rw [List.getElem?_set_ne n2] at h4
        exact S.ap j k ds es a e' e2 h3 h4
theorem OwG.set {v : V} {d : D} (i : Nat) : OwG σ ρ H (σ.set i (some v)) (ρ.set i (.vl d)) := fun a ⟨j, ds, h1, h2⟩ => by
  rcases set_at h1 with ⟨rfl, e'⟩ | ⟨n, e'⟩
  · cases e'
  · rw [List.getElem?_set_ne n] at h2
    exact .inl ⟨j, ds, e', h2⟩
/-- a slot gets a list of its own -/
theorem SR.setO (S : SR K F H M σ ρ st) {a : Addr} {vs : List V} {ds : List D} (i : Nat) (h : H a = some (.lst vs)) (z : ds.length ≤ sizeLine) (r : RVs K F M vs ds) (hf : F a = none) (hm : ∀ n, M n ≠ some a) (ho : ∀ j es, j ≠ i → ρ[j]? = some (Sl.ow es) → σ[j]? ≠ some (some (V.ref a))) :
    SR K F H M (σ.set i (some (.ref a))) (ρ.set i (.ow ds)) st := by
  refine ⟨S.ss, by rw [List.length_set, List.length_set]; exact S.len, fun j d' e => ?_, fun j es e => ?_, fun j k es es' b h1 h2 h3 h4 => ?_⟩
  · rcases set_at e with ⟨rfl, e'⟩ | ⟨n, e'⟩
    · cases e'
    · rw [List.getElem?_set_ne n]
      exact S.vl j d' e'
  · rcases set_at e with ⟨rfl, e'⟩ | ⟨n, e'⟩
    · cases e'
      exact ⟨a, vs, at_set (S.at (ρ' := ρ) e) _, h, z, r, hf, hm⟩
    · rw [List.getElem?_set_ne n]
      exact S.ow j es e'
  · rcases set_at h1 with ⟨rfl, e1⟩ | ⟨n1, e1⟩
    · rw [at_set (S.at (ρ' := ρ) h1)] at h3
      cases h3
      rcases set_at h2 with ⟨rfl, e2⟩ | ⟨n2, e2⟩
      · rfl
      · rw [List.getElem?_set_ne n2] at h4
        exact absurd h4 (ho k es' (Ne.symm n2) e2)
    · rcases set_at h2 with ⟨rfl, e2⟩ | ⟨n2, e2⟩
      · rw [at_set (S.at (ρ' := ρ) h2)] at h4
        cases h4
        rw [List.getElem?_set_ne n1] at h3
        exact absurd h3 (ho j es (Ne.symm n1) e1)
      · rw [List.getElem?_set_ne n1] at h3
        rw [List.getElem?_set_ne n2] at h4
        exact S.ap j k es es' b e1 e2 h3 h4
theorem OwG.setO {a : Addr} {ds : List D} (i : Nat) (h : OwnA σ ρ a ∨ H a = none) : OwG σ ρ H (σ.set i (some (.ref a))) (ρ.set i (.ow ds)) := fun b ⟨j, es, h1, h2⟩ => by
  rcases set_at h1 with ⟨rfl, e'⟩ | ⟨n, e'⟩
  · have hl : i < (σ.set i (some (V.ref a))).length := (List.getElem?_eq_some_iff.mp h2).1
    rw [List.length_set] at hl
    rw [at_set hl] at h2
    cases h2
    exact h
  · rw [List.getElem?_set_ne n] at h2
    exact .inl ⟨j, es, e', h2⟩
end
/-! ### the judgements -/
def DS (X : Cx) (T : Tab) (W : WX) (s : Stmt) (f : Sv) : Prop := PS X s (tS X.K T W f)
def DSs (X : Cx) (T : Tab) (W : WX) (s : List Stmt) (f : Sv) : Prop := PSs X s (tS X.K T W f)
theorem PS.wk {X : Cx} {e : Stmt} {t t' : TS} (h : PS X e t) (k : ∀ N σ H, t' N σ H → t N σ H) : PS X e t' := ⟨fun p s σ H Q I q => h.run p s σ H Q I (k Q σ H q)⟩
theorem PSs.wk {X : Cx} {e : List Stmt} {t t' : TS} (h : PSs X e t) (k : ∀ N σ H, t' N σ H → t N σ H) : PSs X e t' := ⟨fun p s σ H Q I q => h.run p s σ H Q I (k Q σ H q)⟩
section
variable {X : Cx} {T : Tab} {W : WX} {e a b c : Expr} {s : Stmt} {ss ss' : List Stmt} {f fa fb fc : Ev} {t : Tv} {fs : Av} {u u' : Sv} {pos : Pos}
def sNo : Sv := fun ρ st => .nx ρ st
def sSeq (u u' : Sv) : Sv := fun ρ st => match u ρ st with
  | .nx r st1 => u' r st1
  | o => o
theorem ds_nil : DSs X T W [] sNo := PSs.wk pss_nil fun N σ H ⟨F, M, ρ, st, S, h⟩ => h σ F H M S Fr.refl OwG.refl
theorem ds_one (h : DS X T W s u) : DSs X T W [s] u := pss_one h
theorem ds_cons (h : DS X T W s u) (h' : DSs X T W ss u') : DSs X T W (s :: ss) (sSeq u u') := by
  refine PSs.wk (pss_cons h h') fun N σ H ⟨F, M, ρ, st, S, q⟩ => ⟨F, M, ρ, st, S, ?_⟩
  unfold sSeq at q
  cases e : u ρ st with
  | nx r st1 =>
    rw [e] at q
    exact fun σ' F' H' M' s f g => ⟨F', M', r, st1, s, wS.base q f g⟩
  | rt d st1 => rw [e] at q; exact q
  | bk r st1 => rw [e] at q; exact q
  | ct r st1 => rw [e] at q; exact q
  | ex x r st1 => rw [e] at q; exact q
  | stuck => rw [e] at q; exact q
/-- the def's own list in slot i is shared from here on -/
def fz (i : Nat) (ρ : En) : En := match ρ[i]? with
  | some (.ow ds) => ρ.set i (.vl (.lst ds))
  | _ => ρ
def sFz (i : Nat) (u : Sv) : Sv := fun ρ st => u (fz i ρ) st
theorem fz_ok {K : PySem.W.Frag} {F H : Hp} {M : Mp} {σ : L2.St} {ρ : En} {st : Stor} (i : Nat) (S : SR K F H M σ ρ st) : ∃ F', SR K F' H M σ (fz i ρ) st ∧ Fr (OwnA σ ρ) F H M F' H M ∧ OwG σ ρ H σ (fz i ρ) := by
  unfold fz
  cases e : ρ[i]? with
  | none => exact ⟨F, S, Fr.refl, OwG.refl⟩
  | some sl =>
    cases sl with
    | un => exact ⟨F, S, Fr.refl, OwG.refl⟩
    | vl d => exact ⟨F, S, Fr.refl, OwG.refl⟩
    | ow ds =>
      obtain ⟨a, vs, h1, h2, h3, h4, h5, h6⟩ := S.ow i ds e
      have sm : Same F (upd F a (.lst vs)) := fun b o q => by rw [upd_ne (ne_of_none q h5)]; exact q
      have f : Fr (OwnA σ ρ) F H M (upd F a (.lst vs)) H M := ⟨sm, fun _ _ q => q, fun _ _ q _ _ => q, fun _ q => q, fun b q q' => by
        by_cases eb : b = a
        · subst eb; exact .inr ⟨i, ds, e, h1⟩
        · rw [upd_ne eb] at q'; exact absurd q q', fun n b q q' => by rw [q] at q'; cases q'⟩
      have hi : i < ρ.length := (List.getElem?_eq_some_iff.mp e).1
      refine ⟨upd F a (.lst vs), ⟨⟨fun b o q => ?_, fun n ob q => ?_, S.ss.dom, S.ss.inj⟩, by rw [List.length_set]; exact S.len, fun j d' q => ?_, fun j es q => ?_, fun j k es es' b q1 q2 q3 q4 => ?_⟩, f, fun b ⟨j, es, q1, q2⟩ => ?_⟩
      · by_cases eb : b = a
        · subst eb; rw [upd_same] at q; cases q; exact h2
        · rw [upd_ne eb] at q; exact S.ss.sub _ _ q
      · obtain ⟨b, q1, q2, q3⟩ := S.ss.obs n ob q
        have nb : b ≠ a := fun z => h6 n (by rw [q1, z])
        exact ⟨b, q1, by rw [upd_ne nb]; exact q2, q3.mono sm (fun _ _ z => z) fun _ z => z⟩
      · rcases set_at q with ⟨rfl, e'⟩ | ⟨n, e'⟩
        · cases e'
          exact ⟨_, h1, .lst upd_same h3 (h4.mono sm fun _ _ z => z)⟩
        · obtain ⟨v, q1, q2⟩ := S.vl j d' e'
          exact ⟨v, q1, q2.mono sm fun _ _ z => z⟩
      · rcases set_at q with ⟨rfl, e'⟩ | ⟨n, e'⟩
        · cases e'
        · obtain ⟨b, ws, q1, q2, q3, q4, q5, q6⟩ := S.ow j es e'
          refine ⟨b, ws, q1, q2, q3, q4.mono sm (fun _ _ z => z), ?_, q6⟩
          have nb : b ≠ a := fun z => by
            subst z
            exact n (S.ap i j ds es b e e' h1 q1)
          rw [upd_ne nb]; exact q5
      · rcases set_at q1 with ⟨rfl, e'⟩ | ⟨n, e'⟩
        · cases e'
        · rcases set_at q2 with ⟨rfl, e2⟩ | ⟨n2, e2⟩
          · cases e2
          · exact S.ap j k es es' b e' e2 q3 q4
      · rcases set_at q1 with ⟨rfl, e'⟩ | ⟨n, e'⟩
        · cases e'
        · exact .inl ⟨j, es, e', q2⟩
theorem tS_fz {K : PySem.W.Frag} {N : Ends} {σ : L2.St} {H : Hp} (i : Nat) (h : tS K T W (sFz i u) N σ H) : tS K T W u N σ H := by
  obtain ⟨F, M, ρ, st, S, q⟩ := h
  obtain ⟨F', S', f, g⟩ := fz_ok i S
  exact ⟨F', M, fz i ρ, st, S', wS.base q f g⟩
theorem ds_fz (i : Nat) (h : DSs X T W ss u) : DSs X T W ss (sFz i u) := PSs.wk h fun N σ H q => tS_fz i q
theorem d1_fz (i : Nat) (h : DS X T W s u) : DS X T W s (sFz i u) := PS.wk h fun N σ H q => tS_fz i q
/-! ### small statements -/
theorem d1_pass : DS X T W (.Pass pos) sNo := PS.wk ps_pass fun N σ H ⟨F, M, ρ, st, S, h⟩ => h σ F H M S Fr.refl OwG.refl
def sBk : Sv := fun ρ st => .bk ρ st
def sCt : Sv := fun ρ st => .ct ρ st
theorem d1_bk : DS X T W (.Break pos) sBk := PS.wk ps_break fun N σ H ⟨F, M, ρ, st, S, h⟩ => h σ F H M S Fr.refl OwG.refl
theorem d1_ct : DS X T W (.Continue pos) sCt := PS.wk ps_continue fun N σ H ⟨F, M, ρ, st, S, h⟩ => h σ F H M S Fr.refl OwG.refl
def sEx (f : Ev) : Sv := fun ρ st => (f ρ st).out ρ fun _ st1 => .nx ρ st1
theorem d1_expr (he : DE X T W e f) (hs : swapsWith e none pos.line X.env = pure false := by rfl) : DS X T W (.Expr e pos) (sEx f) := by
  refine PS.wk (ps_expr he hs) fun N σ H ⟨F, M, ρ, st, S, h⟩ => ?_
  refine tS_bind S h fun d st1 v F1 H1 M1 S1 f1 r h1 => ?_
  exact h1 σ F1 H1 M1 S1 Fr.refl OwG.refl
def sRt (f : Ev) : Sv := fun ρ st => (f ρ st).out ρ fun d st1 => .rt d st1
theorem d1_ret (he : DE X T W e f) : DS X T W (.Return (some e) pos) (sRt f) := by
  refine PS.wk (ps_ret he) fun N σ H ⟨F, M, ρ, st, S, h⟩ => ?_
  refine tS_bind S h fun d st1 v F1 H1 M1 S1 f1 r h1 => ?_
  exact h1 v F1 H1 M1 S1.ss Fr.refl r
theorem d1_retN : DS X T W (.Return none pos) (sRt (eK .non)) := PS.wk ps_retN fun N σ H ⟨F, M, ρ, st, S, h⟩ => h .non F H M S.ss Fr.refl .non
def sIf (t : Tv) (u u' : Sv) : Sv := fun ρ st => (t ρ st).out ρ fun k st1 => if k = true then u ρ st1 else u' ρ st1
theorem d1_if (hc : DT X T W c t) (ha : DSs X T W ss u) (hb : DSs X T W ss' u') : DS X T W (.If c ss ss' pos) (sIf t u u') := by
  refine PS.wk (ps_if hc ha hb) fun N σ H ⟨F, M, ρ, st, S, h⟩ => ?_
  refine tS_bind S h fun d st1 v F1 H1 M1 S1 f1 r h1 => ?_
  cases r
  cases d with
  | true => exact iteT ⟨F1, M1, ρ, st1, S1, by simpa using h1⟩
  | false => exact iteF ⟨F1, M1, ρ, st1, S1, by simpa using h1⟩
/-! ### names stored -/
def sSet (i : Nat) (f : Ev) : Sv := fun ρ st => (f ρ st).out ρ fun d st1 => .nx (ρ.set i (.vl d)) st1
theorem d1_set {i : Nat} {x : Str} {pos' : Pos} (hN : X.N.Nodup) (hi : X.N[i]? = some x) (hx : Loc X.env.scope x) (he : DE X T W e f) (hs : swapsWith e (some (.Name x pos')) pos.line X.env = pure false := by rfl) (hf : X.fn x = true ∨ X.env.scope.names.lookup x = some .local := by first | exact .inl rfl | exact .inr rfl | assumption) :
    DS X T W (.Assign [.Name x pos'] e pos) (sSet i f) := by
  refine PS.wk (ps_set hN hi hx he hs hf) fun N σ H ⟨F, M, ρ, st, S, h⟩ => ?_
  refine tS_bind S h fun d st1 v F1 H1 M1 S1 f1 r h1 => ?_
  exact h1 _ F1 H1 M1 (S1.set i r) Fr.refl (OwG.set i)
def sOwn (i : Nat) (f : Av) : Sv := fun ρ st => (f ρ st).out ρ fun ds st1 => .nx (ρ.set i (.ow ds)) st1
theorem own_in {K : PySem.W.Frag} {F H : Hp} {M : Mp} {σ : L2.St} {ρ : En} {st : Stor} {a : Addr} (S : SR K F H M σ ρ st) (h : H a = none) : ¬ OwnA σ ρ a := fun ⟨j, es, h1, h2⟩ => by
  obtain ⟨b, ws, q1, q2, _⟩ := S.ow j es h1
  rw [h2] at q1; cases q1
  rw [h] at q2; cases q2
theorem sOwn_ok {K : PySem.W.Frag} {i : Nat} {N : Ends} {σ : L2.St} {H : Hp} (h : tS K T W (sOwn i fs) N σ H) : tN K T W fs σ H fun x H1 => N.nx (σ.set i (some x)) H1 := by
  obtain ⟨F, M, ρ, st, S, h⟩ := h
  refine tS_bindN S h fun ds st1 v F1 H1 M1 S1 f1 r h1 => ?_
  obtain ⟨a, vs, rfl, h0, h2, z, r, hf, hm⟩ := r
  refine h1 _ F1 H1 M1 (S1.setO i h2 z r hf hm fun j es nj e e2 => own_in S h0 ⟨j, es, e, e2⟩) f1.wk (OwG.setO i (.inr h0))
theorem d1_own {i : Nat} {x : Str} {pos' : Pos} (hN : X.N.Nodup) (hi : X.N[i]? = some x) (hx : Loc X.env.scope x) (he : NE X T W e fs) (hs : swapsWith e (some (.Name x pos')) pos.line X.env = pure false := by rfl) (hf : X.fn x = true ∨ X.env.scope.names.lookup x = some .local := by first | exact .inl rfl | exact .inr rfl | assumption) :
    DS X T W (.Assign [.Name x pos'] e pos) (sOwn i fs) :=
  PS.wk (ps_set hN hi hx he hs hf) fun N σ H h => sOwn_ok h
/-- x op= e of ints -/
def sAug (i : Nat) (g : Int → Int → Int) (f : Ev) : Sv := fun ρ st => match ρ[i]? with
  | some (.vl (.int m)) => (f ρ st).out ρ fun d st1 => match d with
    | .int n => .nx (ρ.set i (.vl (.int (g m n)))) st1
    | _ => .stuck
  | _ => .stuck
theorem d1_aug {i : Nat} {x : Str} {op : Operator} {g : Int → Int → Int} {pos' : Pos} (hN : X.N.Nodup) (hi : X.N[i]? = some x) (hx : Loc X.env.scope x) (ho : PIp X op (ipI g)) (he : DE X T W e f) (hf : X.fn x = true ∨ X.env.scope.names.lookup x = some .local := by first | exact .inl rfl | exact .inr rfl | assumption) :
    DS X T W (.AugAssign (.Name x pos') op e pos) (sAug i g f) := by
  refine PS.wk (ps_aug hN hi hx he ho hf) fun N σ H ⟨F, M, ρ, st, S, h⟩ => ?_
  unfold sAug at h
  cases e : ρ[i]? with
  | none => rw [e] at h; exact False.elim h
  | some sl =>
    rw [e] at h
    cases sl with
    | vl d =>
      cases d with
      | int m =>
        obtain ⟨v, h1, h2⟩ := S.vl i _ e
        cases h2
        refine ⟨_, h1, tS_bind S h fun d st1 v F1 H1 M1 S1 f1 r h1 => ?_⟩
        cases d with
        | int n =>
          cases r
          exact ⟨m, n, rfl, rfl, h1 _ F1 H1 M1 (S1.set i (.int _)) Fr.refl (OwG.set i)⟩
        | _ => exact False.elim h1
      | _ => exact False.elim h
    | _ => exact False.elim h
end
end OM
namespace OM
open PySem PySem.Spec PyProof.Rows L2
section
variable {K : PySem.W.Frag} {F H : Hp} {M : Mp} {σ : L2.St} {ρ : En} {st : Stor}
/-- the own list in slot i is written -/
theorem own_write (S : SR K F H M σ ρ st) {i : Nat} {ds es : List D} {a : Addr} {vs ws : List V} (e : ρ[i]? = some (.ow ds)) (h1 : σ[i]? = some (some (.ref a))) (h2 : H a = some (.lst vs)) (h5 : F a = none) (h6 : ∀ n, M n ≠ some a)
    (z : es.length ≤ sizeLine) (r : RVs K F M ws es) : SR K F (upd H a (.lst ws)) M σ (ρ.set i (.ow es)) st ∧ Fr (OwnA σ ρ) F H M F (upd H a (.lst ws)) M ∧ OwG σ ρ H σ (ρ.set i (.ow es)) := by
  have hi : i < ρ.length := (List.getElem?_eq_some_iff.mp e).1
  have own : OwnA σ ρ a := ⟨i, ds, e, h1⟩
  refine ⟨⟨⟨fun b o q => ?_, fun n ob q => ?_, S.ss.dom, S.ss.inj⟩, by rw [List.length_set]; exact S.len, fun j d' q => ?_, fun j fs q => ?_, fun j k fs fs' b q1 q2 q3 q4 => ?_⟩, ⟨fun _ _ q => q, fun _ _ q => q, fun b o q no _ => ?_, fun b q => ?_, fun b q q' => absurd q q', fun n b q q' => by rw [q] at q'; cases q'⟩, fun b ⟨j, fs, q1, q2⟩ => ?_⟩
  · rw [upd_ne (ne_of_none q h5)]; exact S.ss.sub _ _ q
  · obtain ⟨b, q1, q2, q3⟩ := S.ss.obs n ob q
    have nb : b ≠ a := fun y => h6 n (by rw [q1, y])
    exact ⟨b, q1, q2, q3.mono (fun _ _ y => y) (fun _ _ y => y) fun u y => by rw [upd_ne nb]; exact y⟩
  · rcases set_at q with ⟨rfl, e'⟩ | ⟨n, e'⟩
    · cases e'
    · exact S.vl j d' e'
  · rcases set_at q with ⟨rfl, e'⟩ | ⟨n, e'⟩
    · cases e'
      exact ⟨a, ws, h1, upd_same, z, r, h5, h6⟩
    · obtain ⟨b, xs, q1, q2, q3, q4, q5, q6⟩ := S.ow j fs e'
      have nb : b ≠ a := fun y => by
        subst y
        exact n (S.ap i j ds fs b e e' h1 q1)
      exact ⟨b, xs, q1, by rw [upd_ne nb]; exact q2, q3, q4, q5, q6⟩
  · have old : ∀ {j : Nat} {fs : List D}, (ρ.set i (.ow es))[j]? = some (Sl.ow fs) → ∃ gs, ρ[j]? = some (.ow gs) := fun {j fs} y => by
      rcases set_at y with ⟨rfl, _⟩ | ⟨n, e'⟩
      · exact ⟨ds, e⟩
      · exact ⟨fs, e'⟩
    obtain ⟨g1, y1⟩ := old q1
    obtain ⟨g2, y2⟩ := old q2
    exact S.ap j k g1 g2 b y1 y2 q3 q4
  · have nb : b ≠ a := fun y => no (by rw [y]; exact own)
    rw [upd_ne nb]; exact q
  · by_cases nb : b = a
    · subst nb; rw [upd_same]; simp
    · rw [upd_ne nb]; exact q
  · rcases set_at q1 with ⟨rfl, _⟩ | ⟨n, e'⟩
    · exact .inl ⟨i, ds, e, q2⟩
    · exact .inl ⟨j, fs, e', q2⟩
/-- a list of the store is written -/
theorem obj_write (S : SR K F H M σ ρ st) {n : Nat} {ds es : List D} {ws : List V} {a : Addr} (e : st[n]? = some (.lst ds)) (hm : M n = some a) (h2 : F a = none) (h0 : H a ≠ none) (z : es.length ≤ sizeLine) (r : RVs K F M ws es) :
    SR K F (upd H a (.lst ws)) M σ ρ (st.set n (.lst es)) ∧ Fr No F H M F (upd H a (.lst ws)) M := by
  have hn : n < st.length := (List.getElem?_eq_some_iff.mp e).1
  have f : Fr No F H M F (upd H a (.lst ws)) M := ⟨fun _ _ q => q, fun _ _ q => q, fun b o q _ nm => by
    have nb : b ≠ a := fun y => nm n (by rw [hm, y])
    rw [upd_ne nb]; exact q, fun b q => by
    by_cases nb : b = a
    · subst nb; rw [upd_same]; simp
    · rw [upd_ne nb]; exact q, fun b q q' => absurd q q', fun m b q q' => by rw [q] at q'; cases q'⟩
  refine ⟨S.fr f ⟨fun b o q => ?_, fun m ob q => ?_, fun m b q => by rw [List.length_set]; exact S.ss.dom m b q, S.ss.inj⟩, f⟩
  · rw [upd_ne (ne_of_none q h2)]; exact S.ss.sub _ _ q
  · by_cases em : n = m
    · subst em
      rw [List.getElem?_set] at q
      simp only [if_true, hn] at q
      cases q
      exact ⟨a, hm, h2, ws, upd_same, z, r⟩
    · rw [List.getElem?_set_ne em] at q
      obtain ⟨b, q1, q2, q3⟩ := S.ss.obs m ob q
      have nb : b ≠ a := fun y => em (S.ss.inj n m a hm (by rw [q1, y]))
      exact ⟨b, q1, q2, q3.mono (fun _ _ y => y) (fun _ _ y => y) fun u y => by rw [upd_ne nb]; exact y⟩
end
section
variable {X : Cx} {T : Tab} {W : WX} {e a b c : Expr} {s : Stmt} {ss ss' : List Stmt} {f fa fb fc : Ev} {t : Tv} {fs : Av} {u u' : Sv} {pos : Pos}
/-! ### lists changed -/
/-- x.append(e), x in slot i the def's own -/
def sApp (i : Nat) (f : Ev) : Sv := fun ρ st => match ρ[i]? with
  | some (.ow ds) => (f ρ st).out ρ fun d st1 => if lenOk (ds.length + 1) then .nx (ρ.set i (.ow (ds ++ [d]))) st1 else .stuck
  | _ => .stuck
def tApp (K : PySem.W.Frag) (i : Nat) (te : TE) : TS := tDrop (tBM K "list" rAppend (tVar i) (tCons te tNil))
theorem d1_app {i : Nat} (h : ∀ te, PE X e te → PS X s (tApp X.K i te)) (he : DE X T W e f) : DS X T W s (sApp i f) := by
  refine PS.wk (h _ he) fun N σ H ⟨F, M, ρ, st, S, h⟩ => ?_
  unfold sApp at h
  cases ei : ρ[i]? with
  | none => rw [ei] at h; exact False.elim h
  | some sl =>
    rw [ei] at h
    cases sl with
    | ow ds =>
      obtain ⟨a, vs, h1, h2, h3, h4, h5, h6⟩ := S.ow i ds ei
      refine ⟨.ref a, h1, .inl ⟨rfl, vs, SqL.of h2⟩, tS_bind S h fun d st1 v F1 H1 M1 S1 f1 r h1' => ?_⟩
      have h2' : H1 a = some (.lst vs) := f1.keep _ _ h2 (fun z => z) h6
      obtain ⟨a', vs', k1, k2, k3, k4, k5, k6⟩ := S1.ow i ds ei
      rw [h1] at k1; cases k1
      rw [h2'] at k2; cases k2
      by_cases hz : lenOk (ds.length + 1) = true
      · rw [if_pos hz] at h1'
        have hz' := of_decide_eq_true hz
        refine ⟨a, vs, v, rfl, rfl, h2', by rw [k4.length]; omega, ?_⟩
        obtain ⟨w1, w2, w3⟩ := own_write S1 ei h1 h2' k5 k6 (es := ds ++ [d]) (ws := vs ++ [v]) (by simpa using hz') (k4.append (.cons r .nil))
        exact h1' _ _ _ _ w1 w2 w3
      · rw [if_neg hz] at h1'; exact False.elim h1'
    | _ => exact False.elim h
/-- x[k] = e: x the def's own list, or an object of the store -/
def sPut (i : Nat) (f g : Ev) : Sv := fun ρ st => (f ρ st).out ρ fun d st1 => match ρ[i]? with
  | some (.ow ds) => (g ρ st1).out ρ fun k st2 => match k with
    | .int k => match ixN ds.length k with
      | some j => .nx (ρ.set i (.ow (ds.set j d))) st2
      | none => .stuck
    | _ => .stuck
  | some (.vl (.ref n)) => (g ρ st1).out ρ fun k st2 => match k, st2[n]? with
    | .int k, some (.lst ds) => match ixN ds.length k with
      | some j => .nx ρ (st2.set n (.lst (ds.set j d)))
      | none => .stuck
    | _, _ => .stuck
  | _ => .stuck
def tPut (i : Nat) (te tk : TE) : TS := tAsg te (gSub (tVar i) tk rSetL)
theorem d1_put {i : Nat} (h : ∀ te tk, PE X e te → PE X a tk → PS X s (tPut i te tk)) (he : DE X T W e f) (hk : DE X T W a fa) : DS X T W s (sPut i f fa) := by
  refine PS.wk (h _ _ he hk) fun N σ H ⟨F, M, ρ, st, S, h⟩ => ?_
  refine tS_bind S h fun d st1 v F1 H1 M1 S1 f1 r h1 => ?_
  cases ei : ρ[i]? with
  | none => simp only [ei] at h1; exact False.elim h1
  | some sl =>
    cases sl with
    | un => simp only [ei] at h1; exact False.elim h1
    | ow ds =>
      simp only [ei] at h1
      obtain ⟨p, vs, k1, k2, k3, k4, k5, k6⟩ := S1.ow i ds ei
      refine ⟨.ref p, k1, tS_bind S1 h1 fun dk st2 x F2 H2 M2 S2 f2 rk h2 => ?_⟩
      cases dk with
      | int k =>
        cases rk
        cases ej : ixN ds.length k with
        | none => simp only [ej] at h2; exact False.elim h2
        | some j =>
          simp only [ej] at h2
          have q2 : H2 p = some (.lst vs) := f2.keep _ _ k2 (fun z => z) k6
          obtain ⟨p', vs', m1, m2, m3, m4, m5, m6⟩ := S2.ow i ds ei
          rw [k1] at m1; cases m1
          rw [q2] at m2; cases m2
          refine ⟨p, vs, k, j, rfl, rfl, q2, by rw [m4.length]; exact ej, ?_⟩
          obtain ⟨w1, w2, w3⟩ := own_write S2 ei k1 q2 m5 m6 (es := ds.set j d) (ws := vs.set j v) (by rw [List.length_set]; exact m3) (m4.set j (f2.rv r))
          exact h2 _ _ _ _ w1 w2 w3
      | _ => exact False.elim h2
    | vl dd =>
      cases dd with
      | ref n =>
        simp only [ei] at h1
        obtain ⟨vv, k1, k2⟩ := S1.vl i _ ei
        cases k2 with
        | ref hm =>
          rename_i p
          refine ⟨.ref p, k1, tS_bind S1 h1 fun dk st2 x F2 H2 M2 S2 f2 rk h2 => ?_⟩
          cases dk with
          | int k =>
            cases rk
            cases eo : st2[n]? with
            | none => simp only [eo] at h2; exact False.elim h2
            | some ob =>
              cases ob with
              | lst ds =>
                simp only [eo] at h2
                cases ej : ixN ds.length k with
                | none => simp only [ej] at h2; exact False.elim h2
                | some j =>
                  simp only [ej] at h2
                  obtain ⟨p', m1, m2, vs, m3, m4, m5⟩ := S2.ss.obs n _ eo
                  have hm2 := f2.ms n p hm
                  rw [m1] at hm2; cases hm2
                  refine ⟨p, vs, k, j, rfl, rfl, m3, by rw [m5.length]; exact ej, ?_⟩
                  obtain ⟨w1, w2⟩ := obj_write S2 eo m1 m2 (by rw [m3]; simp) (es := ds.set j d) (ws := vs.set j v) (by rw [List.length_set]; exact m4) (m5.set j (f2.rv r))
                  exact h2 _ _ _ _ w1 w2.wk OwG.refl
          | _ => exact False.elim h2
      | _ => simp only [ei] at h1; exact False.elim h1
/-- x.extend(e): e a list -/
def sExt (i : Nat) (f : Ev) : Sv := fun ρ st => match ρ[i]? with
  | some (.ow ds) => (f ρ st).out ρ fun d st1 => match d with
    | .lst es => if lenOk (ds.length + es.length) then .nx (ρ.set i (.ow (ds ++ es))) st1 else .stuck
    | _ => .stuck
  | _ => .stuck
def tExt (K : PySem.W.Frag) (i : Nat) (te : TE) : TS := tDrop (tBM K "list" rExtend (tVar i) (tCons te tNil))
theorem d1_ext {i : Nat} (h : ∀ te, PE X e te → PS X s (tExt X.K i te)) (he : DE X T W e f) : DS X T W s (sExt i f) := by
  refine PS.wk (h _ he) fun N σ H ⟨F, M, ρ, st, S, h⟩ => ?_
  unfold sExt at h
  cases ei : ρ[i]? with
  | none => rw [ei] at h; exact False.elim h
  | some sl =>
    rw [ei] at h
    cases sl with
    | ow ds =>
      obtain ⟨a, vs, h1, h2, h3, h4, h5, h6⟩ := S.ow i ds ei
      refine ⟨.ref a, h1, .inl ⟨rfl, vs, SqL.of h2⟩, tS_bind S h fun d st1 v F1 H1 M1 S1 f1 r h1' => ?_⟩
      have h2' : H1 a = some (.lst vs) := f1.keep _ _ h2 (fun z => z) h6
      obtain ⟨a', vs', k1, k2, k3, k4, k5, k6⟩ := S1.ow i ds ei
      rw [h1] at k1; cases k1
      rw [h2'] at k2; cases k2
      cases d with
      | lst es =>
        cases r with
        | lst q z rr =>
          by_cases hz : lenOk (ds.length + es.length) = true
          · simp only [hz, if_true] at h1'
            have hz' := of_decide_eq_true hz
            refine ⟨a, _, vs, _, rfl, rfl, h2', S1.ss.sub _ _ q, by rw [k4.length, rr.length]; exact hz', ?_⟩
            obtain ⟨w1, w2, w3⟩ := own_write S1 ei h1 h2' k5 k6 (es := ds ++ es) (by rw [List.length_append]; exact hz') (k4.append rr)
            exact h1' _ _ _ _ w1 w2 w3
          · simp only [hz] at h1'; exact False.elim h1'
      | _ => exact False.elim h1'
    | _ => exact False.elim h
/-! ### targets -/
/-- a target: what it stores -/
abbrev Gv := D → En → Option En
def tG (K : PySem.W.Frag) (is : List Nat) (g : Gv) : TG := fun v σ H Q => ∃ F M ρ st d r, SR K F H M σ ρ st ∧ RV K F M v d ∧ g d ρ = some r ∧ ∀ σ', SR K F H M σ' r st → (∀ x, OwnA σ' r x → OwnA σ ρ x) → (σ'.length = σ.length ∧ ∀ j, j ∉ is → σ'[j]? = σ[j]?) → Q σ' H
def DG (X : Cx) (is : List Nat) (e : Expr) (g : Gv) : Prop := PG X e (tG X.K is g)
theorem PG.wk {X : Cx} {e : Expr} {t t' : TG} (h : PG X e t) (k : ∀ v σ H Q, t' v σ H Q → t v σ H Q) : PG X e t' := ⟨fun p s σ H v w Q I r q => h.run p s σ H v w Q I r (k v σ H Q q)⟩
def gNm (i : Nat) : Gv := fun d ρ => some (ρ.set i (.vl d))
theorem dg_nm {i : Nat} {x : Str} (h : PG X (.Name x pos) (gName i)) : DG X [i] (.Name x pos) (gNm i) := PG.wk h fun v σ H Q ⟨F, M, ρ, st, d, r, S, rv, e, k⟩ => by
  cases e
  refine k _ (S.set i rv) (fun x h => ?_) ⟨List.length_set .., fun j hj => ?_⟩
  · obtain ⟨j, ds, h1, h2⟩ := h
    rcases set_at h1 with ⟨rfl, e'⟩ | ⟨n, e'⟩
    · cases e'
    · rw [List.getElem?_set_ne n] at h2
      exact ⟨j, ds, e', h2⟩
  · rw [List.getElem?_set_ne]
    intro z
    exact hj (by simp [z])
abbrev Gs := List D → En → Option En
def tGs (K : PySem.W.Frag) (is : List Nat) (g : Gs) : TGs := fun vs σ H Q => ∃ F M ρ st ds r, SR K F H M σ ρ st ∧ RVs K F M vs ds ∧ g ds ρ = some r ∧ ∀ σ', SR K F H M σ' r st → (∀ x, OwnA σ' r x → OwnA σ ρ x) → (σ'.length = σ.length ∧ ∀ j, j ∉ is → σ'[j]? = σ[j]?) → Q σ' H
def DGs (X : Cx) (is : List Nat) (es : List Expr) (g : Gs) : Prop := PGs X es (tGs X.K is g)
theorem PGs.wk {X : Cx} {e : List Expr} {t t' : TGs} (h : PGs X e t) (k : ∀ v σ H Q, t' v σ H Q → t v σ H Q) : PGs X e t' := ⟨fun p s σ H v w Q I r q => h.run p s σ H v w Q I r (k v σ H Q q)⟩
def gsNo : Gs := fun ds ρ => match ds with
  | [] => some ρ
  | _ => none
def gsCo (g : Gv) (h : Gs) : Gs := fun ds ρ => match ds with
  | d :: r => (g d ρ).bind fun ρ1 => h r ρ1
  | [] => none
theorem dgs_no : DGs X [] [] gsNo := PGs.wk pgs_nil fun vs σ H Q ⟨F, M, ρ, st, ds, r, S, rv, e, k⟩ => by
  cases rv with
  | nil => cases e; exact ⟨rfl, k σ S (fun _ h => h) ⟨rfl, fun _ _ => rfl⟩⟩
  | cons _ _ => cases e
theorem dgs_co {is js : List Nat} {es : List Expr} {g : Gv} {h : Gs} (h1 : DG X is e g) (h2 : DGs X js es h) (hs : (assignEach (e :: es) X.env).map (·.2) = assign e X.env :: (assignEach es X.env).map (·.2) := by rfl) : DGs X (is ++ js) (e :: es) (gsCo g h) :=
  PGs.wk (pgs_cons h1 h2 hs) fun vs σ H Q ⟨F, M, ρ, st, ds, r, S, rv, e, k⟩ => by
    cases rv with
    | nil => cases e
    | @cons v vs d ds a b =>
      cases e1 : g d ρ with
      | none => simp [gsCo, e1] at e
      | some ρ1 =>
        simp only [gsCo, e1, Option.bind_some] at e
        exact ⟨v, vs, rfl, F, M, ρ, st, d, ρ1, S, a, e1, fun σ1 S1 o1 n1 => ⟨F, M, ρ1, st, ds, r, S1, b, e, fun σ2 S2 o2 n2 => k σ2 S2 (fun x h => o1 x (o2 x h)) ⟨n2.1.trans n1.1, fun j hj => by
          rw [List.mem_append, not_or] at hj
          rw [n2.2 j hj.2, n1.2 j hj.1]⟩⟩⟩
def gTp (n : Nat) (g : Gs) : Gv := fun d ρ => match d with
  | .tup ds => if ds.length = n then g ds ρ else none
  | _ => none
theorem dg_tp {is : List Nat} {es : List Expr} {n k : Nat} {g : Gs} (hc : X.calm = true) (h : DGs X is es g) (hn : (assignEach es X.env).length = n := by rfl) (hst : (assignEach es X.env).findIdx? (·.1) = none := by rfl) : DG X is (.Tuple es k pos) (gTp n g) :=
  PG.wk (pg_tup hc h hn hst) fun v σ H Q ⟨F, M, ρ, st, d, r, S, rv, e, k⟩ => by
    cases d with
    | tup ds =>
      cases rv with
      | tup q z rr =>
        simp only [gTp] at e
        split at e
        · rename_i hl
          exact ⟨_, _, rfl, Same.sqt S.ss.sub q, by rw [rr.length]; exact hl, F, M, ρ, st, ds, r, S, rr, e, k⟩
        · cases e
    | _ => cases e
/-- target = e -/
def sAsg (g : Gv) (f : Ev) : Sv := fun ρ st => (f ρ st).out ρ fun d st1 => match g d ρ with
  | some r => .nx r st1
  | none => .stuck
theorem d1_asg {tg : Expr} {is : List Nat} {g : Gv} (he : DE X T W e f) (hg : DG X is tg g) (hs : swapsWithSole [tg] e pos.line X.env = pure false := by rfl) (hw : swappedStores [tg] e X.env = pure none := by rfl)
    (h1 : (assignEach [tg] X.env).map (·.2) = [assign tg X.env] := by rfl) : DS X T W (.Assign [tg] e pos) (sAsg g f) := by
  refine PS.wk (ps_asg he hg hs hw h1) fun N σ H ⟨F, M, ρ, st, S, h⟩ => ?_
  refine tS_bind S h fun d st1 v F1 H1 M1 S1 f1 r h1 => ?_
  cases e1 : g d ρ with
  | none => simp only [e1] at h1; exact False.elim h1
  | some r' =>
    simp only [e1] at h1
    exact ⟨F1, M1, ρ, st1, d, r', S1, r, e1, fun σ' S' o _ => h1 σ' F1 H1 M1 S' Fr.refl fun x h => .inl (o x h)⟩
/-- x, y = a, b with plain local names -/
def sPar (i j : Nat) (g : Av) : Sv := fun ρ st => (g ρ st).out ρ fun ds st1 => match ds with
  | [d, e] => .nx ((ρ.set i (.vl d)).set j (.vl e)) st1
  | _ => .stuck
theorem d1_par {es : List Expr} {i j : Nat} (h : ∀ ta, PA X es ta → PS X s (tPar i j ta)) (he : DA X T W es fs) : DS X T W s (sPar i j fs) := by
  refine PS.wk (h _ he) fun N σ H ⟨F, M, ρ, st, S, h⟩ => ?_
  refine tS_bind S h fun ds st1 vs F1 H1 M1 S1 f1 r h1 => ?_
  cases r with
  | nil => exact False.elim h1
  | cons a b =>
    cases b with
    | nil => exact False.elim h1
    | cons c d =>
      cases d with
      | cons _ _ => exact False.elim h1
      | nil =>
        refine ⟨_, _, rfl, h1 _ F1 H1 M1 ((S1.set i a).set j c) Fr.refl ?_⟩
        exact OwG.trans (OwG.set i) (OwG.set j) fun _ z => z
/-! ### what is walked -/
def YD (K : PySem.W.Frag) (F : Hp) (M : Mp) (H : Hp) (x : V) (H' : Hp) (d : D) : Prop := (H' = H ∧ RV K F M x d) ∨ ∃ p vs es, x = .ref p ∧ H p = none ∧ H' = upd H p (.tup vs) ∧ d = .tup es ∧ es.length ≤ sizeLine ∧ RVs K F M vs es
def WalkD (K : PySem.W.Frag) (F : Hp) (M : Mp) (J : It) (ds : List D) : Prop := ∃ (G : Hp → Prop) (Y : Nat → Hp → V → Hp → Prop), Walk J ds.length G Y ∧ (∀ H, Same F H → G H) ∧ ∀ (i : Nat) H x H', i < ds.length → Same F H → Y i H x H' → ∃ d, ds[i]? = some d ∧ YD K F M H x H' d
def PJ (K : PySem.W.Frag) : Hp → Hp → Mp → It → List D → Prop := fun F _ M J ds => ds.length ≤ sizeLine ∧ WalkD K F M J ds
def DI (X : Cx) (T : Tab) (W : WX) (tg e : Expr) (f : Av) : Prop := PI X tg e (tR X.K T W (PJ X.K) f)
theorem PI.wk {X : Cx} {tg e : Expr} {t t' : TI} (h : PI X tg e t) (k : ∀ σ H Q, t' σ H Q → t σ H Q) : PI X tg e t' := ⟨fun p s σ H Q I q => h.run p s σ H Q I (k σ H Q q)⟩
theorem PI.or {X : Cx} {tg e : Expr} {t t' : TI} (h : PI X tg e t) (h' : PI X tg e t') : PI X tg e (fun σ H Q => t σ H Q ∨ t' σ H Q) := ⟨fun p s σ H Q I q => q.elim (h.run p s σ H Q I) (h'.run p s σ H Q I)⟩
/-- a list or a tuple -/
def iSeq (f : Ev) : Av := fun ρ st => (f ρ st).bind fun d st1 => match d with
  | .lst ds => .ok ds st1
  | .tup ds => .ok ds st1
  | _ => .stuck
theorem walkD_list {K : PySem.W.Frag} {F : Hp} {M : Mp} {a : Addr} {vs : List V} {ds : List D} (h : F a = some (.lst vs)) (r : RVs K F M vs ds) : WalkD K F M (Itl K a) ds := by
  refine ⟨_, _, by rw [← r.length]; exact walk_list (K := K) (a := a) (xs := vs), fun H s => SqL.of (s _ _ h), fun i H x H' hi s y => ?_⟩
  obtain ⟨e, y⟩ := y
  obtain ⟨d, h1, h2⟩ := r.getV y
  exact ⟨d, h1, .inl ⟨e, h2⟩⟩
theorem walkD_tup {K : PySem.W.Frag} {F : Hp} {M : Mp} {a : Addr} {vs : List V} {ds : List D} (h : SqT K F a vs) (r : RVs K F M vs ds) : WalkD K F M (Itt K a) ds := by
  refine ⟨_, _, by rw [← r.length]; exact walk_tup (K := K) (a := a) (xs := vs), fun H s => Same.sqt s h, fun i H x H' hi s y => ?_⟩
  obtain ⟨e, y⟩ := y
  obtain ⟨d, h1, h2⟩ := r.getV y
  exact ⟨d, h1, .inl ⟨e, h2⟩⟩
theorem di_seq {tg : Expr} (he : DE X T W e f) : DI X T W tg e (iSeq f) := by
  refine PI.wk (PI.or (pi_list he) (pi_tup he)) fun σ H Q ⟨F, M, ρ, st, S, h⟩ => ?_
  cases ev : f ρ st with
  | ok d st1 =>
    cases d with
    | tup ds =>
      refine .inr (tR_bindE S h fun d' st1' v F1 H1 M1 e' S1 f1 r h1 => ?_)
      rw [ev] at e'
      cases e'
      cases r with
      | tup q z rr => exact ⟨_, rfl, ⟨_, Same.sqt S1.ss.sub q⟩, h1 _ F1 H1 M1 S1 Fr.refl ⟨z, walkD_tup q rr⟩⟩
    | lst ds =>
      refine .inl (tR_bindE S h fun d' st1' v F1 H1 M1 e' S1 f1 r h1 => ?_)
      rw [ev] at e'
      cases e'
      cases r with
      | lst q z rr => exact ⟨_, rfl, ⟨_, SqL.of (S1.ss.sub _ _ q)⟩, h1 _ F1 H1 M1 S1 Fr.refl ⟨z, walkD_list q rr⟩⟩
    | _ =>
      refine .inl (tR_bindE S h fun d' st1' v F1 H1 M1 e' S1 f1 r h1 => ?_)
      rw [ev] at e'
      cases e'
      exact False.elim h1
  | exn x st1 =>
    refine .inl (tR_bindE S h fun d' st1' v F1 H1 M1 e' S1 f1 r h1 => ?_)
    rw [ev] at e'
    cases e'
  | stuck =>
    refine .inl (tR_bindE S h fun d' st1' v F1 H1 M1 e' S1 f1 r h1 => ?_)
    rw [ev] at e'
    cases e'
/-- range(n), range(a, b) -/
def rgD (a b : Int) : List D := (List.range (b - a).toNat).map fun i => D.int (a + (i : Nat))
def rgOk (a b : Int) : Bool := decide (-(2 ^ 62) ≤ a) && decide (a < 2 ^ 62) && decide (-(2 ^ 62) ≤ b) && decide (b < 2 ^ 62) && lenOk (b - a).toNat
def iRg1 (f : Ev) : Av := fun ρ st => (f ρ st).bind fun d st1 => match d with
  | .int n => if rgOk 0 n then .ok (rgD 0 n) st1 else .stuck
  | _ => .stuck
def iRg2 (f g : Ev) : Av := fun ρ st => (f ρ st).bind fun d st1 => (g ρ st1).bind fun e st2 => match d, e with
  | .int m, .int n => if rgOk m n then .ok (rgD m n) st2 else .stuck
  | _, _ => .stuck
theorem walkD_range {K : PySem.W.Frag} {F : Hp} {M : Mp} (a b : Int) : WalkD K F M (Itr a (b - a).toNat) (rgD a b) := by
  have hl : (rgD a b).length = (b - a).toNat := by unfold rgD; rw [List.length_map, List.length_range]
  refine ⟨_, _, by rw [hl]; exact walk_range, fun _ _ => trivial, fun i H x H' hi s y => ?_⟩
  obtain ⟨e, y⟩ := y
  rw [hl] at hi
  refine ⟨.int (a + i), by unfold rgD; rw [List.getElem?_map, List.getElem?_range hi]; rfl, .inl ⟨e, ?_⟩⟩
  rw [y]
  exact .int _
theorem rgOk_ok {a b : Int} (h : rgOk a b = true) : -(2 ^ 62) ≤ a ∧ a < 2 ^ 62 ∧ -(2 ^ 62) ≤ b ∧ b < 2 ^ 62 ∧ (rgD a b).length ≤ sizeLine := by
  unfold rgOk at h
  rw [Bool.and_eq_true, Bool.and_eq_true, Bool.and_eq_true, Bool.and_eq_true] at h
  exact ⟨of_decide_eq_true h.1.1.1.1, of_decide_eq_true h.1.1.1.2, of_decide_eq_true h.1.1.2, of_decide_eq_true h.1.2, by unfold rgD; rw [List.length_map, List.length_range]; exact of_decide_eq_true h.2⟩
theorem di_rg1 {tg : Expr} {p : Pos} (hg : Gl X "range") (hm : X.mg "range" = none) (ha : DE X T W a f) (hs : starEach [a] X.env = [(false, eval a X.env)] := by rfl) : DI X T W tg (.Call (.Name "range" p) [a] [] pos) (iRg1 f) := by
  refine PI.wk (pi_range1 hg hm (pa_cons ha pa_nil hs) hs) fun σ H Q ⟨F, M, ρ, st, S, h⟩ => ?_
  refine tR_bind S h fun d st1 v F1 H1 M1 S1 f1 r h1 => ?_
  cases d with
  | int n =>
    cases r
    by_cases hr : rgOk 0 n = true
    · simp only [hr, if_true] at h1
      obtain ⟨_, _, h3, h4, h5⟩ := rgOk_ok hr
      have w := walkD_range (K := X.K) (F := F1) (M := M1) 0 n
      rw [Int.sub_zero] at w
      exact ⟨n, rfl, h3, h4, h1 _ F1 H1 M1 S1 Fr.refl ⟨h5, w⟩⟩
    · simp only [hr] at h1; exact False.elim h1
  | _ => exact False.elim h1
theorem di_rg2 {tg : Expr} {p : Pos} (hg : Gl X "range") (hm : X.mg "range" = none) (ha : DE X T W a fa) (hb : DE X T W b fb) (hs : starEach [a, b] X.env = [(false, eval a X.env), (false, eval b X.env)] := by rfl) (hs2 : starEach [b] X.env = [(false, eval b X.env)] := by rfl) :
    DI X T W tg (.Call (.Name "range" p) [a, b] [] pos) (iRg2 fa fb) := by
  refine PI.wk (pi_range2 hg hm (pa_cons ha (pa_cons hb pa_nil hs2) (by rw [hs, hs2])) hs hs2) fun σ H Q ⟨F, M, ρ, st, S, h⟩ => ?_
  refine tR_bind S h fun d st1 v F1 H1 M1 S1 f1 r h1 => ?_
  refine tR_bind S1 h1 fun e st2 w F2 H2 M2 S2 f2 r2 h2 => ?_
  cases d with
  | int m =>
    cases e with
    | int n =>
      cases r
      cases r2
      by_cases hr : rgOk m n = true
      · simp only [hr, if_true] at h2
        obtain ⟨k1, k2, h3, h4, h5⟩ := rgOk_ok hr
        exact ⟨m, n, rfl, ⟨k1, k2, h3, h4⟩, h2 _ F2 H2 M2 S2 Fr.refl ⟨h5, walkD_range m n⟩⟩
      · simp only [hr] at h2; exact False.elim h2
    | _ => exact False.elim h2
  | _ => exact False.elim h2
/-! ### for -/
def forL (g : Gv) (u : Sv) : List D → Sv
  | [], ρ, st => .nx ρ st
  | d :: ds, ρ, st => match g d ρ with
    | none => .stuck
    | some r => match u r st with
      | .nx r1 st1 => forL g u ds r1 st1
      | .ct r1 st1 => forL g u ds r1 st1
      | .bk r1 st1 => .nx r1 st1
      | o => o
def sFor (src : Av) (g : Gv) (u : Sv) : Sv := fun ρ st => (src ρ st).out ρ fun ds st1 => forL g u ds ρ st1
theorem d1_for {tg : Expr} {is : List Nat} {src : Av} {g : Gv} (hp : PassesOwn (model X.prog X.w) X.A X.env X.xe) (hc : X.calm = true) (hi : DI X T W tg e src) (hg : DG X is tg g) (hb : DSs X T W ss u)
    (hs : ∀ x, foldedSetIterable e X.env x = pure x := by intro _; rfl) : DS X T W (.For tg e ss [] pos) (sFor src g u) := by
  refine PS.wk (ps_for hp hc hi hg hb hs) fun N σ H ⟨F, M, ρ, st, S, h⟩ => ?_
  refine tS_bind S h fun ds st1 J F1 H1 M1 S1 f1 r h1 => ?_
  obtain ⟨_, G, Y, w, hG, hY⟩ := r
  refine for_it w (fun i σ' H' => ∃ F' M' ρ' st', SR X.K F' H' M' σ' ρ' st' ∧ Same F1 F' ∧ (∀ n x, M1 n = some x → M' n = some x) ∧ wS X.K T W F' H' M' σ' ρ' (forL g u (ds.drop i) ρ' st') N) ?_ ?_ ?_ ?_
  · exact ⟨F1, M1, ρ, st1, S1, fun _ _ z => z, fun _ _ z => z, by rw [List.drop_zero]; exact h1⟩
  · rintro i σ' H' _ ⟨F', M', ρ', st', S', sm, _, _⟩
    exact hG H' fun x o z => S'.ss.sub _ _ (sm x o z)
  · rintro i x σ' H' H'' hi ⟨F', M', ρ', st', S', sm, mm, q⟩ y
    obtain ⟨d, ed, yd⟩ := hY i H' x H'' hi (fun x o z => S'.ss.sub _ _ (sm x o z)) y
    have edr : ds.drop i = d :: ds.drop (i + 1) := by
      rw [List.drop_eq_getElem_cons hi]
      rw [List.getElem?_eq_getElem hi] at ed
      cases ed; rfl
    rw [edr] at q
    unfold forL at q
    cases eg : g d ρ' with
    | none => simp only [eg] at q; exact False.elim q
    | some r =>
      simp only [eg] at q
      -- the state behind the item
      obtain ⟨F2, S2, fr2, rv⟩ : ∃ F2, SR X.K F2 H'' M' σ' ρ' st' ∧ Fr (OwnA σ' ρ') F' H' M' F2 H'' M' ∧ RV X.K F2 M' x d := by
        rcases yd with ⟨rfl, rv⟩ | ⟨p, vs, es, rfl, hp, rfl, rfl, z, rs⟩
        · exact ⟨F', S', Fr.refl, rv.mono sm mm⟩
        · have fz : Fr (OwnA σ' ρ') F' H' M' (upd F' p (.tup vs)) (upd H' p (.tup vs)) M' := Fr.new S'.ss.sub hp
          exact ⟨_, S'.new hp, fz, .tup (SqT.of upd_same) z (fz.rvs (rs.mono sm mm))⟩
      refine ⟨F2, M', ρ', st', d, r, S2, rv, eg, fun σ3 S3 o3 _ => ⟨F2, M', r, st', S3, ?_⟩⟩
      have g3 : OwG σ' ρ' H' σ3 r := fun x h => .inl (o3 x h)
      have nxt : ∀ (r1 : En) (st1 : Stor), wS X.K T W F' H' M' σ' ρ' (forL g u (ds.drop (i + 1)) r1 st1) N → ∀ σ4 F4 H4 M4, SR X.K F4 H4 M4 σ4 r1 st1 → Fr (OwnA σ3 r) F2 H'' M' F4 H4 M4 → OwG σ3 r H'' σ4 r1 →
          ∃ F' M' ρ' st', SR X.K F' H4 M' σ4 ρ' st' ∧ Same F1 F' ∧ (∀ n x, M1 n = some x → M' n = some x) ∧ wS X.K T W F' H4 M' σ4 ρ' (forL g u (ds.drop (i + 1)) ρ' st') N := fun r1 st1 q σ4 F4 H4 M4 S4 f4 g4 => by
        have ft : Fr (OwnA σ' ρ') F' H' M' F4 H4 M4 := fr2.trans f4 fun x h => .inl (o3 x h)
        exact ⟨F4, M4, r1, st1, S4, fun x o z => ft.fs x o (sm x o z), fun n x z => ft.ms n x (mm n x z), wS.base q ft (OwG.trans g3 g4 fr2.there)⟩
      cases eu : u r st' with
      | nx r1 st1 =>
        simp only [eu] at q
        exact nxt r1 st1 q
      | ct r1 st1 =>
        simp only [eu] at q
        exact nxt r1 st1 q
      | bk r1 st1 =>
        simp only [eu] at q
        exact (wS.base q fr2 g3 : wS X.K T W F2 H'' M' σ3 r (.nx r1 st1) N)
      | rt d' st1 =>
        simp only [eu] at q
        exact (wS.base q fr2 g3 : wS X.K T W F2 H'' M' σ3 r (.rt d' st1) N)
      | ex x' r1 st1 =>
        simp only [eu] at q
        exact (wS.base q fr2 g3 : wS X.K T W F2 H'' M' σ3 r (.ex x' r1 st1) N)
      | stuck => simp only [eu] at q; exact False.elim q
  · rintro σ' H' ⟨F', M', ρ', st', S', sm, mm, q⟩
    rw [List.drop_length] at q
    exact q σ' F' H' M' S' Fr.refl OwG.refl
/-! ### while -/
def whl (t : Tv) (u : Sv) : Nat → Sv
  | 0, _, _ => .stuck
  | n + 1, ρ, st => match t ρ st with
    | .ok true st1 => match u ρ st1 with
      | .nx r1 st2 => whl t u n r1 st2
      | .ct r1 st2 => whl t u n r1 st2
      | .bk r1 st2 => .nx r1 st2
      | o => o
    | .ok false st1 => .nx ρ st1
    | .exn x st1 => .ex x ρ st1
    | .stuck => .stuck
theorem d1_while (n : Nat) (hp : PassesOwn (model X.prog X.w) X.A X.env X.xe) (hc : DT X T W c t) (hb : DSs X T W ss u) : DS X T W (.While c ss [] pos) (whl t u n) := by
  refine PS.wk (ps_while hp hc hb) fun N σ H ⟨F, M, ρ, st, S, h⟩ => ?_
  refine ⟨fun m σ H => ∃ F M ρ st, SR X.K F H M σ ρ st ∧ wS X.K T W F H M σ ρ (whl t u m ρ st) N, ⟨n, F, M, ρ, st, S, h⟩, ?_⟩
  rintro m σ1 H1 ⟨F1, M1, ρ1, st1, S1, q⟩
  cases m with
  | zero => exact False.elim q
  | succ m =>
    refine ⟨F1, M1, ρ1, st1, S1, ?_⟩
    unfold whl at q
    cases et : t ρ1 st1 with
    | exn x st2 =>
      simp only [et] at q
      exact fun F' H' M' s f => q σ1 F' H' M' s f.wk OwG.refl
    | stuck => simp only [et] at q; exact False.elim q
    | ok k st2 =>
      intro b F2 H2 M2 S2 f2 e
      cases e
      cases k with
      | false =>
        simp only [et] at q
        exact iteF (q σ1 F2 H2 M2 S2 f2.wk OwG.refl)
      | true =>
        simp only [et] at q
        refine iteT ⟨_, fun σ' H' w => ⟨m, Nat.lt_succ_self m, w⟩, F2, M2, ρ1, st2, S2, ?_⟩
        cases eu : u ρ1 st2 with
        | nx r1 st3 =>
          simp only [eu] at q
          exact fun σ3 F3 H3 M3 S3 f3 g3 => ⟨F3, M3, r1, st3, S3, wS.base (wS.base q f2.wk OwG.refl) f3 g3⟩
        | ct r1 st3 =>
          simp only [eu] at q
          exact fun σ3 F3 H3 M3 S3 f3 g3 => ⟨F3, M3, r1, st3, S3, wS.base (wS.base q f2.wk OwG.refl) f3 g3⟩
        | bk r1 st3 =>
          simp only [eu] at q
          exact (wS.base q f2.wk OwG.refl : wS X.K T W F2 H2 M2 σ1 ρ1 (.nx r1 st3) N)
        | rt d' st3 =>
          simp only [eu] at q
          exact (wS.base q f2.wk OwG.refl : wS X.K T W F2 H2 M2 σ1 ρ1 (.rt d' st3) N)
        | ex x' r1 st3 =>
          simp only [eu] at q
          exact (wS.base q f2.wk OwG.refl : wS X.K T W F2 H2 M2 σ1 ρ1 (.ex x' r1 st3) N)
        | stuck => simp only [eu] at q; exact False.elim q
end
end OM
namespace OM
open PySem PySem.Spec PyProof.Rows L2
def wipeE (ρ : En) : List Nat → En
  | [] => ρ
  | v :: vs => (wipeE ρ vs).set v .un
section
variable {K : PySem.W.Frag} {F H : Hp} {M : Mp} {σ : L2.St} {ρ : En} {st : Stor}
theorem wipeE_length (ρ : En) : ∀ vs : List Nat, (wipeE ρ vs).length = ρ.length
  | [] => rfl
  | v :: vs => by unfold wipeE; rw [List.length_set, wipeE_length ρ vs]
theorem wipeE_at {i : Nat} {x : Sl} (hx : x ≠ .un) : ∀ {vs : List Nat}, (wipeE ρ vs)[i]? = some x → ρ[i]? = some x ∧ i ∉ vs
  | [], h => ⟨h, by simp⟩
  | v :: vs, h => by
    unfold wipeE at h
    rcases set_at h with ⟨_, e⟩ | ⟨n, e⟩
    · exact absurd e hx
    · obtain ⟨h1, h2⟩ := wipeE_at hx e
      exact ⟨h1, by simp only [List.mem_cons, not_or]; exact ⟨fun z => n z.symm, h2⟩⟩
theorem wipe_in {i : Nat} : ∀ {vs : List Nat}, i ∈ vs → i < σ.length → (wipe σ vs)[i]? = some none
  | [], h, _ => by simp at h
  | v :: vs, h, hl => by
    unfold wipe
    by_cases e : v = i
    · subst e
      exact at_set (by rw [wipe_length]; exact hl) _
    · rw [List.getElem?_set_ne e]
      rcases List.mem_cons.mp h with z | z
      · exact absurd z.symm e
      · exact wipe_in z hl
theorem SR.wipe (S : SR K F H M σ ρ st) (vs : List Nat) : SR K F H M (wipe σ vs) (wipeE ρ vs) st := by
  refine ⟨S.ss, by rw [wipe_length, wipeE_length]; exact S.len, fun i d e => ?_, fun i ds e => ?_, fun i j ds es a h1 h2 h3 h4 => ?_⟩
  · obtain ⟨e1, n⟩ := wipeE_at (by simp) e
    rw [wipe_out n]
    exact S.vl i d e1
  · obtain ⟨e1, n⟩ := wipeE_at (by simp) e
    rw [wipe_out n]
    exact S.ow i ds e1
  · obtain ⟨e1, n1⟩ := wipeE_at (by simp) h1
    obtain ⟨e2, n2⟩ := wipeE_at (by simp) h2
    rw [wipe_out n1] at h3
    rw [wipe_out n2] at h4
    exact S.ap i j ds es a e1 e2 h3 h4
theorem wipe_same {σ' : L2.St} {is vs : List Nat} (h : ∀ j, j ∉ is → σ'[j]? = (wipe σ vs)[j]?) (hs : ∀ j ∈ is, j ∈ vs) (hl : σ'.length = σ.length) : wipe σ' vs = wipe σ vs := by
  refine List.ext_getElem? fun j => ?_
  by_cases hj : j ∈ vs
  · by_cases hjl : j < σ.length
    · rw [wipe_in hj hjl, wipe_in hj (by rw [hl]; exact hjl)]
    · rw [List.getElem?_eq_none (by rw [wipe_length, hl]; omega), List.getElem?_eq_none (by rw [wipe_length]; omega)]
  · rw [wipe_out hj, h j fun z => hj (hs j z), wipe_out hj]
/-- an object that nothing knows of is written -/
theorem SR.wr (S : SR K F H M σ ρ st) {p : Addr} {o : HO} (hf : F p = none) (hm : ∀ n, M n ≠ some p) (ho : ¬ OwnA σ ρ p) : SR K F (upd H p o) M σ ρ st := by
  refine ⟨⟨fun b u q => ?_, fun n ob q => ?_, S.ss.dom, S.ss.inj⟩, S.len, S.vl, fun i ds e => ?_, S.ap⟩
  · rw [upd_ne (ne_of_none q hf)]; exact S.ss.sub _ _ q
  · obtain ⟨b, q1, q2, q3⟩ := S.ss.obs n ob q
    have nb : b ≠ p := fun y => hm n (by rw [q1, y])
    exact ⟨b, q1, q2, q3.mono (fun _ _ y => y) (fun _ _ y => y) fun u y => by rw [upd_ne nb]; exact y⟩
  · obtain ⟨a, vs, h1, h2, h3⟩ := S.ow i ds e
    have na : a ≠ p := fun y => ho (by subst y; exact ⟨i, ds, e, h1⟩)
    exact ⟨a, vs, h1, by rw [upd_ne na]; exact h2, h3⟩
theorem OwnA.wipe {vs : List Nat} {a : Addr} (h : OwnA (wipe σ vs) (wipeE ρ vs) a) : OwnA σ ρ a := by
  obtain ⟨i, ds, h1, h2⟩ := h
  obtain ⟨e1, n1⟩ := wipeE_at (by simp) h1
  rw [wipe_out n1] at h2
  exact ⟨i, ds, e1, h2⟩
end
abbrev Wno : WX := fun _ _ _ _ => False
def DTs (X : Cx) (T : Tab) (W : WX) (es : List Expr) (t : Tv) : Prop := PTs X es (tR X.K T W PBo t)
def tYe : Tv := fun _ st => .ok true st
section
variable {X : Cx} {T : Tab} {W : WX} {e a b c elt tg iter : Expr} {ifs : List Expr} {f fa fb fc : Ev} {t : Tv} {src : Av} {pos : Pos}
theorem dts_nil : DTs X T W [] tYe := ⟨fun pins s σ H Q I ⟨F, M, ρ, st, S, h⟩ => pts_nil.run pins s σ H Q I (h true F H M S Fr.refl rfl)⟩
theorem dts_one (h : DT X T W c t) : DTs X T W [c] t := pts_one h
/-- the items of a comprehension -/
def lcL (g : Gv) (t : Tv) (f : Ev) : List D → Av
  | [], _, st => .ok [] st
  | d :: ds, ρ, st => match g d ρ with
    | none => .stuck
    | some r => match t r st with
      | .ok true st1 => match f r st1 with
        | .ok x st2 => (lcL g t f ds ρ st2).bind fun xs st3 => .ok (x :: xs) st3
        | _ => .stuck
      | .ok false st1 => lcL g t f ds ρ st1
      | _ => .stuck
theorem lcL_len {g : Gv} {t : Tv} {f : Ev} : ∀ {ds : List D} {ρ : En} {st st' : Stor} {xs : List D}, lcL g t f ds ρ st = .ok xs st' → xs.length ≤ ds.length
  | [], _, _, _, _, h => by cases h; exact Nat.le_refl _
  | d :: ds, ρ, st, st', xs, h => by
    unfold lcL at h
    cases e1 : g d ρ with
    | none => simp only [e1] at h; cases h
    | some r =>
      simp only [e1] at h
      cases e2 : t r st with
      | ok k st1 =>
        simp only [e2] at h
        cases k with
        | true =>
          simp only at h
          cases e3 : f r st1 with
          | ok x st2 =>
            simp only [e3] at h
            cases e4 : lcL g t f ds ρ st2 with
            | ok ys st3 =>
              rw [e4] at h
              cases h
              have := lcL_len e4
              simp only [List.length_cons]; omega
            | exn _ _ => rw [e4] at h; cases h
            | stuck => rw [e4] at h; cases h
          | exn _ _ => simp only [e3] at h; cases h
          | stuck => simp only [e3] at h; cases h
        | false =>
          simp only at h
          have := lcL_len h
          simp only [List.length_cons]; omega
      | exn _ _ => simp only [e2] at h; cases h
      | stuck => simp only [e2] at h; cases h
def aLc (src : Av) (vs : List Nat) (g : Gv) (t : Tv) (f : Ev) : Av := fun ρ st => (src ρ st).bind fun ds st1 => lcL g t f ds (wipeE ρ vs) st1
def eLc (src : Av) (vs : List Nat) (g : Gv) (t : Tv) (f : Ev) : Ev := fun ρ st => (aLc src vs g t f ρ st).bind fun xs st1 => .ok (.lst xs) st1
theorem lc_ok {is vs : List Nat} {g : Gv} {α : Type} {P : Hp → Hp → Mp → V → α → Prop} {F H : Hp} {M : Mp} {σ : L2.St} {ρ : En} {st : Stor} {Q : VK} {k : List D → α} (hiv : ∀ j ∈ is, j ∈ vs) (S : SR X.K F H M σ ρ st)
    (h : wR X.K T W P F H M σ ρ ((aLc src vs g t f ρ st).bind fun xs st1 => .ok (k xs) st1) Q)
    (hP : ∀ F' H' M' p ws xs, H p = none → H' p = some (.lst ws) → F' p = none → (∀ n, M' n ≠ some p) → xs.length ≤ sizeLine → RVs X.K F' M' ws xs →
      ∃ F'', (F'' = F' ∨ F'' = upd F' p (.lst ws)) ∧ P F'' H' M' (.ref p) (k xs)) :
    tLc (tR X.K T W (PJ X.K) src) (tG X.K is g) (tR X.K T Wno PBo t) (tR X.K T Wno (PV X.K) f) vs σ H Q := by
  unfold aLc at h
  have h' : wR X.K T W P F H M σ ρ ((src ρ st).bind fun ds st1 => (lcL g t f ds (wipeE ρ vs) st1).bind fun xs st2 => .ok (k xs) st2) Q := by
    cases e : src ρ st with
    | ok ds st1 => rw [e] at h; exact h
    | exn x st1 => rw [e] at h; exact h
    | stuck => rw [e] at h; exact h
  refine tR_bind S h' fun ds st1 J F1 H1 M1 S1 f1 r h1 => ?_
  obtain ⟨hlen, G, Y, w, hG, hY⟩ := r
  intro p hp
  have nF1 : F1 p = none := by
    cases e : F1 p with
    | none => rfl
    | some o => rw [S1.ss.sub _ _ e] at hp; cases hp
  have nM1 : ∀ n, M1 n ≠ some p := fun n e => by
    cases e2 : st1[n]? with
    | none => exact absurd (S1.ss.dom n p e) (by simpa using e2)
    | some ob =>
      obtain ⟨a, h1, h2, h3⟩ := S1.ss.obs n ob e2
      rw [e] at h1; cases h1
      exact h3.there hp
  have notOwn : ¬ OwnA (wipe σ vs) (wipeE ρ vs) p := own_in (S1.wipe vs) hp
  refine lc_it w (fun i H' => ∃ F' M' st' ws acc, SR X.K F' H' M' (wipe σ vs) (wipeE ρ vs) st' ∧ Fr No F1 H1 M1 F' H' M' ∧ F' p = none ∧ (∀ n, M' n ≠ some p) ∧ H' p = some (.lst ws) ∧ RVs X.K F' M' ws acc ∧ acc.length ≤ i ∧
    wR X.K T W P F1 H1 M1 σ ρ ((lcL g t f (ds.drop i) (wipeE ρ vs) st').bind fun xs st2 => .ok (k (acc ++ xs)) st2) Q) ?_ ?_ ?_ ?_
  · refine ⟨F1, M1, st1, [], [], (S1.newO hp).wipe vs, Fr.newO hp, nF1, nM1, upd_same, .nil, Nat.le_refl _, ?_⟩
    rw [List.drop_zero]
    exact h1
  · rintro i H' _ ⟨F', M', st', ws, acc, S', fr, _⟩
    exact hG H' fun x o z => S'.ss.sub _ _ (fr.fs x o z)
  · rintro i x H' H'' hi ⟨F', M', st', ws, acc, S', fr, nF, nM, hD, rs, hl, q⟩ y
    obtain ⟨d, ed, yd⟩ := hY i H' x H'' hi (fun x o z => S'.ss.sub _ _ (fr.fs x o z)) y
    have edr : ds.drop i = d :: ds.drop (i + 1) := by
      rw [List.drop_eq_getElem_cons hi]
      rw [List.getElem?_eq_getElem hi] at ed
      cases ed; rfl
    rw [edr] at q
    unfold lcL at q
    cases eg : g d (wipeE ρ vs) with
    | none => simp only [eg] at q; exact False.elim q
    | some r =>
      simp only [eg] at q
      -- the state behind the item
      obtain ⟨F2, S2, fr2, rv⟩ : ∃ F2, SR X.K F2 H'' M' (wipe σ vs) (wipeE ρ vs) st' ∧ Fr No F' H' M' F2 H'' M' ∧ RV X.K F2 M' x d := by
        rcases yd with ⟨rfl, rv⟩ | ⟨p', vs', es, rfl, hp', rfl, rfl, z, rs'⟩
        · exact ⟨F', S', Fr.refl, rv.mono fr.fs fr.ms⟩
        · have fz : Fr No F' H' M' (upd F' p' (.tup vs')) (upd H' p' (.tup vs')) M' := Fr.new S'.ss.sub hp'
          exact ⟨_, S'.new hp', fz, .tup (SqT.of upd_same) z (fz.rvs (rs'.mono fr.fs fr.ms))⟩
      -- the new list stands while the block runs
      have stay : ∀ {F3 H3 : Hp} {M3 : Mp}, Fr No F' H' M' F3 H3 M3 → F3 p = none ∧ (∀ n, M3 n ≠ some p) ∧ H3 p = some (.lst ws) := fun {F3 H3 M3} f3 => by
        refine ⟨?_, fun n e => ?_, f3.keep _ _ hD (fun z => z) nM⟩
        · cases e : F3 p with
          | none => rfl
          | some o =>
            rcases f3.nf p nF (by rw [e]; simp) with z | z
            · rw [hD] at z; cases z
            · exact z.elim
        · cases e2 : M' n with
          | none => have z := f3.nm n p e2 e; rw [hD] at z; cases z
          | some y =>
            have z := f3.ms n y e2
            rw [e] at z; cases z
            exact nM n e2
      refine ⟨F2, M', wipeE ρ vs, st', d, r, S2, rv, eg, fun σ3 S3 o3 n3 => ⟨wipe_same n3.2 hiv (by rw [n3.1, wipe_length]), F2, M', r, st', S3, ?_⟩⟩
      cases et : t r st' with
      | exn x1 st2 => simp only [et] at q; exact False.elim q
      | stuck => simp only [et] at q; exact False.elim q
      | ok b st2 =>
        simp only [et] at q
        intro b' F3 H3 M3 S4 f4 e
        cases e
        cases b with
        | false =>
          have fr3 := fr2.seq f4
          obtain ⟨a1, a2, a3⟩ := stay fr3
          exact iteF ⟨F3, M3, st2, ws, acc, S2.fr f4 S4.ss, fr.seq fr3, a1, a2, a3, fr3.rvs rs, Nat.le_succ_of_le hl, q⟩
        | true =>
          refine iteT ⟨F3, M3, r, st2, S4, ?_⟩
          cases ef : f r st2 with
          | exn x1 st3 => simp only [ef] at q; exact False.elim q
          | stuck => simp only [ef] at q; exact False.elim q
          | ok z st3 =>
            simp only [ef] at q
            intro v F4 H4 M4 S5 f5 rz
            have fr4 := fr2.seq (f4.seq f5)
            obtain ⟨a1, a2, a3⟩ := stay fr4
            have rs4 := fr4.rvs rs
            have fw : Fr No F4 H4 M4 F4 (upd H4 p (.lst (ws ++ [v]))) M4 ∨ True := .inr trivial
            refine ⟨ws, a3, by rw [rs.length]; omega, F4, M4, st3, ws ++ [v], acc ++ [z], (S2.fr (f4.seq f5) S5.ss).wr a1 a2 notOwn, ?_, a1, a2, upd_same, rs4.append (.cons rz .nil), by rw [List.length_append]; exact Nat.succ_le_succ hl, ?_⟩
            · have g := fr.seq fr4
              refine ⟨g.fs, g.ms, fun a o ha no nm => ?_, fun a ha => ?_, g.nf, g.nm⟩
              · have na : a ≠ p := ne_of_none ha hp
                rw [upd_ne na]
                exact g.keep a o ha no nm
              · by_cases na : a = p
                · subst na; rw [upd_same]; simp
                · rw [upd_ne na]; exact g.there a ha
            · cases el : lcL g t f (ds.drop (i + 1)) (wipeE ρ vs) st3 with
              | exn x1 st4 => rw [el] at q; exact q
              | stuck => rw [el] at q; exact q
              | ok xs st4 =>
                rw [el] at q
                have e5 : acc ++ z :: xs = acc ++ [z] ++ xs := by simp
                simp only [R.bind, e5] at q
                exact q
  · rintro H' ⟨F', M', st', ws, acc, S', fr, nF, nM, hD, rs, hl, q⟩
    rw [List.drop_length] at q
    have q : wR X.K T W P F1 H1 M1 σ ρ (.ok (k acc) st') Q := by
      have e5 : acc ++ [] = acc := List.append_nil _
      simp only [lcL, R.bind, e5] at q
      exact q
    have hp0 : H p = none := by
      cases e : H p with
      | none => rfl
      | some o => exact absurd hp (f1.there p (by rw [e]; simp))
    obtain ⟨F'', hF, hPP⟩ := hP F' H' M' p ws acc hp0 hD nF nM (Nat.le_trans hl hlen) rs
    rcases hF with rfl | rfl
    · exact q _ _ _ _ (S1.fr fr S'.ss) fr hPP
    · have sm : Same F' (upd F' p (.lst ws)) := fun b o z => by rw [upd_ne (ne_of_none z nF)]; exact z
      have fr' : Fr No F1 H1 M1 (upd F' p (.lst ws)) H' M' := ⟨fun b o z => sm b o (fr.fs b o z), fr.ms, fr.keep, fr.there, fun b z z' => by
        by_cases e : b = p
        · subst e; exact .inl hp
        · rw [upd_ne e] at z'; exact fr.nf b z z', fr.nm⟩
      refine q _ _ _ _ (S1.fr fr' ⟨fun b o z => ?_, fun n ob z => ?_, S'.ss.dom, S'.ss.inj⟩) fr' hPP
      · by_cases e : b = p
        · subst e; rw [upd_same] at z; cases z; exact hD
        · rw [upd_ne e] at z; exact S'.ss.sub _ _ z
      · obtain ⟨b, q1, q2, q3⟩ := S'.ss.obs n ob z
        have nb : b ≠ p := fun y => nM n (by rw [q1, y])
        exact ⟨b, q1, by rw [upd_ne nb]; exact q2, q3.mono sm (fun _ _ y => y) fun _ y => y⟩
theorem lc_E {is vs : List Nat} {g : Gv} {σ : L2.St} {H : Hp} {Q : VK} (hiv : ∀ j ∈ is, j ∈ vs) (h : tR X.K T W (PV X.K) (eLc src vs g t f) σ H Q) :
    tLc (tR X.K T W (PJ X.K) src) (tG X.K is g) (tR X.K T Wno PBo t) (tR X.K T Wno (PV X.K) f) vs σ H Q := by
  obtain ⟨F, M, ρ, st, S, h⟩ := h
  exact lc_ok hiv S h fun F' H' M' p ws xs h0 h1 h2 h3 h4 h5 => ⟨upd F' p (.lst ws), .inr rfl, .lst upd_same h4 (h5.mono (fun b o z => by rw [upd_ne (ne_of_none z h2)]; exact z) fun _ _ z => z)⟩
theorem lc_N {is vs : List Nat} {g : Gv} {σ : L2.St} {H : Hp} {Q : VK} (hiv : ∀ j ∈ is, j ∈ vs) (h : tN X.K T W (aLc src vs g t f) σ H Q) :
    tLc (tR X.K T W (PJ X.K) src) (tG X.K is g) (tR X.K T Wno PBo t) (tR X.K T Wno (PV X.K) f) vs σ H Q := by
  obtain ⟨F, M, ρ, st, S, h⟩ := h
  refine lc_ok (P := PN X.K H) (k := fun xs => xs) hiv S ?_ fun F' H' M' p ws xs h0 h1 h2 h3 h4 h5 => ⟨F', .inl rfl, p, ws, rfl, h0, h1, h4, h5, h2, h3⟩
  cases e : aLc src vs g t f ρ st with
  | ok a b => rw [e] at h; exact h
  | exn a b => rw [e] at h; exact h
  | stuck => rw [e] at h; exact h
/-- [elt for tg in iter if ..] -/
theorem de_lc {is : List Nat} {g : Gv} {scope : Scope} {own : List (Str × Nat)} (hc : X.calm = true) (hN : X.N.Nodup) (hi : DI X T W tg iter src) (ok : BlkOk X.N X.env.scope scope own) (hiv : ∀ j ∈ is, j ∈ own.map (·.2))
    (hg : ∀ (s : Shared) (H : Hp) (C : Addr) (cl : List (Str × Addr)) (fp : List Addr), DG (X.blk s H scope (compEnvC scope cl C X.env) fp) is tg g) (ht : ∀ (s : Shared) (H : Hp) (C : Addr) (cl : List (Str × Addr)) (fp : List Addr), DTs (X.blk s H scope (compEnvC scope cl C X.env) fp) T Wno ifs t)
    (he : ∀ (s : Shared) (H : Hp) (C : Addr) (cl : List (Str × Addr)) (fp : List Addr), DE (X.blk s H scope (compEnvC scope cl C X.env) fp) T Wno elt f) (hs : ∀ x, foldedSetIterable iter X.env x = pure x := by intro _; rfl) :
    DE X T W (.ListComp elt [⟨tg, iter, ifs, 0⟩] scope pos) (eLc src (own.map (·.2)) g t f) :=
  PE.wk (pe_lc (g := tG X.K is g) (tt := tR X.K T Wno PBo t) (te := tR X.K T Wno (PV X.K) f) hc hN hi ok hg ht he hs) fun σ H Q h => lc_E hiv h
theorem ne_lc {is : List Nat} {g : Gv} {scope : Scope} {own : List (Str × Nat)} (hc : X.calm = true) (hN : X.N.Nodup) (hi : DI X T W tg iter src) (ok : BlkOk X.N X.env.scope scope own) (hiv : ∀ j ∈ is, j ∈ own.map (·.2))
    (hg : ∀ (s : Shared) (H : Hp) (C : Addr) (cl : List (Str × Addr)) (fp : List Addr), DG (X.blk s H scope (compEnvC scope cl C X.env) fp) is tg g) (ht : ∀ (s : Shared) (H : Hp) (C : Addr) (cl : List (Str × Addr)) (fp : List Addr), DTs (X.blk s H scope (compEnvC scope cl C X.env) fp) T Wno ifs t)
    (he : ∀ (s : Shared) (H : Hp) (C : Addr) (cl : List (Str × Addr)) (fp : List Addr), DE (X.blk s H scope (compEnvC scope cl C X.env) fp) T Wno elt f) (hs : ∀ x, foldedSetIterable iter X.env x = pure x := by intro _; rfl) :
    NE X T W (.ListComp elt [⟨tg, iter, ifs, 0⟩] scope pos) (aLc src (own.map (·.2)) g t f) :=
  PE.wk (pe_lc (g := tG X.K is g) (tt := tR X.K T Wno PBo t) (te := tR X.K T Wno (PV X.K) f) hc hN hi ok hg ht he hs) fun σ H Q h => lc_N hiv h
/-- y = [..] on one line, y a local name -/
theorem d1_setLc {is : List Nat} {g : Gv} {scope : Scope} {own : List (Str × Nat)} {i : Nat} {y : Str} {py spos : Pos} (hc : X.calm = true) (hN : X.N.Nodup) (hy : X.N[i]? = some y) (hyl : X.env.scope.names.lookup y = some .local)
    (hsw : swapsWith (.ListComp elt [⟨tg, iter, ifs, 0⟩] scope pos) (some (.Name y py)) spos.line X.env = pure true) (hi : DI X T W tg iter src) (ok : BlkOk X.N X.env.scope scope own) (hiv : ∀ j ∈ is, j ∈ own.map (·.2))
    (hg : ∀ (s : Shared) (H : Hp) (C : Addr) (cl : List (Str × Addr)) (fp : List Addr), DG (X.blk s H scope (compEnvC scope cl C X.env) fp) is tg g) (ht : ∀ (s : Shared) (H : Hp) (C : Addr) (cl : List (Str × Addr)) (fp : List Addr), DTs (X.blk s H scope (compEnvC scope cl C X.env) fp) T Wno ifs t)
    (he : ∀ (s : Shared) (H : Hp) (C : Addr) (cl : List (Str × Addr)) (fp : List Addr), DE (X.blk s H scope (compEnvC scope cl C X.env) fp) T Wno elt f) (hs : ∀ x, foldedSetIterable iter X.env x = pure x := by intro _; rfl) :
    DS X T W (.Assign [.Name y py] (.ListComp elt [⟨tg, iter, ifs, 0⟩] scope pos) spos) (sSet i (eLc src (own.map (·.2)) g t f)) := by
  refine PS.wk (ps_setLc (g := tG X.K is g) (tt := tR X.K T Wno PBo t) (te := tR X.K T Wno (PV X.K) f) hc hN hy hyl hsw hi ok hg ht he hs) fun N σ H ⟨F, M, ρ, st, S, h⟩ => lc_E hiv (tS_bind S h fun d st1 v F1 H1 M1 S1 f1 r h1 => ?_)
  exact h1 _ F1 H1 M1 (S1.set i r) Fr.refl (OwG.set i)
theorem d1_ownLc {is : List Nat} {g : Gv} {scope : Scope} {own : List (Str × Nat)} {i : Nat} {y : Str} {py spos : Pos} (hc : X.calm = true) (hN : X.N.Nodup) (hy : X.N[i]? = some y) (hyl : X.env.scope.names.lookup y = some .local)
    (hsw : swapsWith (.ListComp elt [⟨tg, iter, ifs, 0⟩] scope pos) (some (.Name y py)) spos.line X.env = pure true) (hi : DI X T W tg iter src) (ok : BlkOk X.N X.env.scope scope own) (hiv : ∀ j ∈ is, j ∈ own.map (·.2))
    (hg : ∀ (s : Shared) (H : Hp) (C : Addr) (cl : List (Str × Addr)) (fp : List Addr), DG (X.blk s H scope (compEnvC scope cl C X.env) fp) is tg g) (ht : ∀ (s : Shared) (H : Hp) (C : Addr) (cl : List (Str × Addr)) (fp : List Addr), DTs (X.blk s H scope (compEnvC scope cl C X.env) fp) T Wno ifs t)
    (he : ∀ (s : Shared) (H : Hp) (C : Addr) (cl : List (Str × Addr)) (fp : List Addr), DE (X.blk s H scope (compEnvC scope cl C X.env) fp) T Wno elt f) (hs : ∀ x, foldedSetIterable iter X.env x = pure x := by intro _; rfl) :
    DS X T W (.Assign [.Name y py] (.ListComp elt [⟨tg, iter, ifs, 0⟩] scope pos) spos) (sOwn i (aLc src (own.map (·.2)) g t f)) :=
  PS.wk (ps_setLc (g := tG X.K is g) (tt := tR X.K T Wno PBo t) (te := tR X.K T Wno (PV X.K) f) hc hN hy hyl hsw hi ok hg ht he hs) fun N σ H h => lc_N hiv (sOwn_ok h)
end
end OM
namespace OM
open PySem PySem.Spec PyProof.Rows L2
/-! ### what a def promises; nothing is being shown around it -/
structure Fn (P : Program) (w : World) (K : PySem.W.Frag) (mg : Str → Option Value) (base : Heap) (k : Nat) (f : Addr) (fd : FuncData) (ps : List Str) (sp : Sp) : Prop where
  len : ∀ vs H Q E, sp vs H Q E → vs.length = ps.length
  run : ∀ (A : Around) (outer : List Env) (s : Shared) (H : Hp) (args : Args) (us : List Value) (vs : List V) (Q : VK) (E : XK), A.guards = some [] → Room k A → Env0 P w K mg base A outer s H → BindsTo s fd args (ps.zip us) → Vals vs us → sp vs H Q E →
    codeAny (model P w) A (.call (.ref f) args) (CR (L2N.CX P w) outer P w H s Q E) s
/-- the context of a def's body -/
abbrev bodyX (P : Program) (w : World) (K : PySem.W.Frag) (mg : Str → Option Value) (base : Heap) (N : List Str) (qual : Str) (st : Stmt) (f : Addr) (cd : Value) (A : Around) (outer : List Env) (s : Shared) (H : Hp) (E : XK) : Cx :=
  cxOf (L2N.CX P w) P w K mg base N qual (defScope st) f cd A outer s H E
abbrev WB (E : XK) : WX := fun cls d _ H => E cls d H
def XE (T : Tab) (E : XK) (e : Ex) (H : Hp) : Prop := XW T (WB E) e [] H
/-- a plain function -/
abbrev Fv := List D → Stor → R D
def wF (K : PySem.W.Frag) (T : Tab) (E : XK) (F H : Hp) (M : Mp) (r : R D) (Q : VK) : Prop := match r with
  | .ok d st => ∀ v F' H' M', SS K F' H' M' st → Fr No F H M F' H' M' → RV K F' M' v d → Q v H'
  | .exn e st => ∀ F' H' M', SS K F' H' M' st → Fr No F H M F' H' M' → XW T (WB E) e [] H'
  | .stuck => False
def spF (K : PySem.W.Frag) (T : Tab) (n : Nat) (φ : Fv) : Sp := fun vs H Q E => vs.length = n ∧ ∃ F M st ds, SS K F H M st ∧ RVs K F M vs ds ∧ wF K T E F H M (φ ds st) Q
/-- the body's run -/
def runB (n : Nat) (u : Sv) : Fv := fun ds st => match u (ds.map .vl ++ List.replicate (n - ds.length) .un) st with
  | .nx _ st1 => .ok .non st1
  | .rt d st1 => .ok d st1
  | .ex e _ st1 => .exn e st1
  | _ => .stuck
section
variable {P : Program} {w : World} {K : PySem.W.Frag} {mg : Str → Option Value} {base : Heap} {T : Tab}
theorem sr_start {F H : Hp} {M : Mp} {st : Stor} {vs : List V} {ds : List D} (S : SS K F H M st) (r : RVs K F M vs ds) (N : List Str) : SR K F H M (L2.start N vs) (ds.map .vl ++ List.replicate (N.length - ds.length) .un) st := by
  have noOw : ∀ {i : Nat} {es : List D}, (ds.map Sl.vl ++ List.replicate (N.length - ds.length) Sl.un)[i]? = some (Sl.ow es) → False := fun {i es} h => by
    rcases List.mem_append.mp (List.mem_of_getElem? h) with z | z
    · obtain ⟨d, _, e⟩ := List.mem_map.mp z; cases e
    · cases (List.mem_replicate.mp z).2
  refine ⟨S, ?_, fun i d e => ?_, fun i es e => (noOw e).elim, fun i j es fs a h _ _ _ => (noOw h).elim⟩
  · unfold L2.start
    simp only [List.length_append, List.length_map, List.length_replicate, r.length]
  · unfold L2.start
    by_cases hi : i < ds.length
    · rw [List.getElem?_append_left (by rw [List.length_map]; exact hi), List.getElem?_map] at e
      cases q : ds[i]? with
      | none => rw [q] at e; cases e
      | some d' =>
        rw [q] at e
        cases e
        obtain ⟨v, h1, h2⟩ := r.get q
        refine ⟨v, ?_, h2⟩
        rw [List.getElem?_append_left (by rw [List.length_map, r.length]; exact hi), List.getElem?_map, h1]; rfl
    · rw [List.getElem?_append_right (by rw [List.length_map]; omega), List.getElem?_replicate] at e
      split at e <;> cases e
theorem noOwn_start {H : Hp} {vs : List V} {ds : List D} {N : List Str} {a : Addr} : ¬ OwnA (L2.start N vs) (ds.map .vl ++ List.replicate (N.length - ds.length) .un) a := fun ⟨i, es, h, _⟩ => by
  rcases List.mem_append.mp (List.mem_of_getElem? h) with z | z
  · obtain ⟨d, _, e⟩ := List.mem_map.mp z; cases e
  · cases (List.mem_replicate.mp z).2
theorem Fr.no {F H F1 H1 : Hp} {M M1 : Mp} {Ow : Addr → Prop} (f : Fr Ow F H M F1 H1 M1) (h : ∀ a, ¬ Ow a) : Fr No F H M F1 H1 M1 :=
  ⟨f.fs, f.ms, fun a o e _ m => f.keep a o e (h a) m, f.there, fun a e e' => (f.nf a e e').imp id fun z => absurd z (h a), f.nm⟩
/-- THE RULE: a def by the plain run of its body -/
theorem fn_body {x qual : Str} {st : Stmt} {f : Addr} {fd : FuncData} {N ps : List Str} {k : Nat} {u : Sv} (F : Fun K x qual st f fd) (S : FnScope N ps (defScope st))
    (hb : ∀ (cd : Value) (A : Around) (outer : List Env) (s : Shared) (H : Hp) (E : XK), A.guards = some [] → Room k (A.deeper (envOfC qual (defScope st) s.heap.objs.size f cd)) → DSs (bodyX P w K mg base N qual st f cd A outer s H E) T (WB E) (defBody st) u) :
    Fn P w K mg base (k + 1) f fd ps (spF K T ps.length (runB N.length u)) := by
  obtain ⟨oc, od, kV, doc, pm, an, cd, ct, osl, rfl, lk, hcd⟩ := F.ex
  refine ⟨fun vs H Q E h => h.1, fun A outer s H args us vs Q E hgd hr e0 hbd r hsp => ?_⟩
  obtain ⟨hl, F0, M0, st0, ds, SS0, rs, q⟩ := hsp
  have KX : K.In s.heap := e0.mod.kin.keeps fun b o e => (e0.bs b o e).1
  have lim : s.heap.NoLimit := e0.mod.nolimit.keeps fun b o e => (e0.bs b o e).1
  have kinds : ∀ y ∈ ps.zip us, (defScope st).names.lookup y.1 = some .local ∨ ((defScope st).names.lookup y.1 = some .cell ∧ ((cellsFrom (s.heap.objs.size + 1) (defScope st).names []).lookup y.1).isSome = true) := fun ⟨n, v⟩ hy =>
    (S.par n (List.of_mem_zip hy).1).imp id fun z => ⟨z, PySem.W.cellsFrom_some _ _ _ (.inl z)⟩
  refine codeAny_call_function hr.depth (KX _ _ lk) rfl S.co S.gen rfl (PySem.W.codeRec_of KX hcd) (hbd _ _ _ _ ?_)
  refine wpAny_newFunctionEnv_cells S.kind kinds fun env he s1 ic => ?_
  subst he
  refine ⟨lim.keeps ic.toInCall.keep, codeAny_func ?_⟩
  have body := hb cd A outer s H E hgd (hr.deeper _)
  have I : Inv (bodyX P w K mg base N qual st f cd A outer s H E) [] (L2.start N vs) H s1 := inv_start S hr.hd e0 hl r ic
  have SR0 := sr_start SS0 rs N
  have goal : tS K T (WB E) u { nx := fun _ H' => Q .non H', rt := Q } (L2.start N vs) H := by
    refine ⟨F0, M0, _, st0, SR0, ?_⟩
    unfold runB at q
    cases eu : u (ds.map .vl ++ List.replicate (N.length - ds.length) .un) st0 with
    | nx r1 st1 =>
      rw [eu] at q
      exact fun σ' F' H' M' s' f' _ => q .non F' H' M' s'.ss (f'.no fun a => noOwn_start (H := H)) .non
    | rt d st1 =>
      rw [eu] at q
      exact fun v F' H' M' s' f' r' => q v F' H' M' s' (f'.no fun a => noOwn_start (H := H)) r'
    | ex x1 r1 st1 =>
      rw [eu] at q
      exact fun σ' F' H' M' s' f' _ => q F' H' M' s'.ss (f'.no fun a => noOwn_start (H := H))
    | bk r1 st1 => rw [eu] at q; exact False.elim q
    | ct r1 st1 => rw [eu] at q; exact False.elim q
    | stuck => rw [eu] at q; exact False.elim q
  refine wpAny_mono (body.run [] s1 (L2.start N vs) H _ I goal) (fun fl s' hs => ?_) fun e s' hs => hs
  have fin : ∀ {σ' : L2.St} {H' : Hp} {v : V} {uu : Value}, Inv (bodyX P w K mg base N qual st f cd A outer s H E) [] σ' H' s' → RelV v uu → Q v H' → CE outer P w H s Q uu s' :=
    fun {σ' H' v uu} J rv hq => ⟨v, H', J.os, J.bare, J.base, J.hok, rv, hq⟩
  cases fl with
  | ret uu => obtain ⟨v, σ', H', J, rv, hq⟩ := hs; exact fin J rv hq
  | next => obtain ⟨σ', H', J, hq⟩ := hs; exact fin (v := .non) (uu := Value.none) J rfl hq
  | brk => obtain ⟨_, _, _, hq⟩ := hs; exact hq.elim
  | cont => obtain ⟨_, _, _, hq⟩ := hs; exact hq.elim
theorem fn_none {f : Addr} {fd : FuncData} {ps : List Str} {k : Nat} : Fn P w K mg base k f fd ps (spF K T ps.length fun _ _ => .stuck) :=
  ⟨fun _ _ _ _ h => h.1, fun A outer s H args us vs Q E _ _ _ _ _ h => by obtain ⟨_, _, _, _, _, _, _, z⟩ := h; exact False.elim z⟩
end
/-! ### calls -/
/-- the def behind the name x does what φ tells -/
structure Callee (P : Program) (w : World) (K : PySem.W.Frag) (mg : Str → Option Value) (base : Heap) (T : Tab) (k : Nat) (x : Str) (n : Nat) (φ : Fv) : Prop where
  ex : ∃ (f : Addr) (fd : FuncData) (ps : List Str), ps.length = n ∧ Fn P w K mg base k f fd ps (spF K T n φ) ∧ mg x = some (.ref f) ∧ PySem.W.keepIn K (.ref f) = true ∧ Binds K fd ps []
section
variable {X : Cx} {T : Tab} {W : WX} {e : Expr} {es : List Expr} {fs : Av} {φ : Fv} {k n : Nat} {x : Str} {p pos : Pos}
theorem run_F {pins : List (Addr × Obj)} {σ : L2.St} {H : Hp} {s : Shared} {Q : VK} {us : List Value} {vs : List V} {f : Addr} {fd : FuncData} {ps : List Str} {sp : Sp} (F : Fn X.prog X.w X.K X.mg X.base k f fd ps sp) (hgd : X.A.guards = some []) (hr : Room k X.A) (hb : Binds X.K fd ps []) (tk : L2N.Takes X W)
    (I : Inv X pins σ H s) (r : Vals vs us) (h : sp vs H Q (WE W σ)) : wpAny (model X.prog X.w) X.A (call (.ref f) us) (EP X pins σ Q) X.xe s := by
  have hl : us.length = ps.length := r.length.symm.trans (F.len _ _ _ _ h)
  have b := hb s us I.kIn ((List.append_nil us).symm ▸ hl)
  rw [List.append_nil] at b
  refine wpAny_call (codeAny_mono (F.run X.A X.stack s H ⟨us, []⟩ us vs Q (WE W σ) hgd hr I.env0 b r h) fun r s' hq => ?_)
  cases r with
  | error ee => exact L2N.passAt tk σ pins H s ee s' I hq
  | ok fl =>
    cases fl with
    | ret uu => exact I.after hq
    | next => exact hq.elim
    | brk => exact hq.elim
    | cont => exact hq.elim
/-- f(e, ..) -/
def eCall (n : Nat) (φ : Fv) (g : Av) : Ev := fun ρ st => (g ρ st).bind fun ds st1 => if ds.length = n then φ ds st1 else .stuck
theorem XW_at {T : Tab} {W : WX} {σ : L2.St} {e : Ex} {H : Hp} (h : XW T W e σ H) : XW T (WB (WE W σ)) e [] H := by
  unfold XW at h ⊢
  cases q : e.arg with
  | none => simp only [q] at h ⊢; exact h
  | some i => simp only [q] at h ⊢; exact h
theorem de_call (C : Callee X.prog X.w X.K X.mg X.base T k x n φ) (hgd : X.A.guards = some []) (hr : Room k X.A) (hg : Gl X x) (tk : L2N.Takes X W)
    (ha : DA X T W (e :: es) fs) (hdb : (x == ("__debug__" : Str)) = false := by decide) (he : starEach (e :: es) X.env = (false, eval e X.env) :: starEach es X.env := by rfl) (hpl : (backTo pos (starEach es X.env)).any (·.1) = false := by rfl) :
    DE X T W (.Call (.Name x p) (e :: es) [] pos) (eCall n φ fs) := by
  obtain ⟨f, fd, ps, hn, F, hm, hk, hb⟩ := C.ex
  refine ⟨fun pins s σ H Q I ⟨F0, M0, ρ, st, S, h⟩ => ?_⟩
  refine wpAny_Call_Name_kw (ld_glob I hg hm ?_ hdb)
  refine PySem.W.callWith_K (h₀ := X.base) I.ok.mod.kin hk (thn (ha.run pos pins s σ H (fun vs H1 => spF X.K T n φ vs H1 Q (WE W σ)) I (tR_bind S h fun ds st1 vs F1 H1 M1 S1 f1 r h1 => ?_)) fun us s1 ⟨vs, H1, I1, r, q⟩ => ⟨I1.kIn, ?_⟩) he hpl
  · by_cases hl : ds.length = n
    · rw [if_pos hl] at h1
      refine ⟨r.length.trans hl, F1, M1, st1, ds, S1.ss, r, ?_⟩
      cases eφ : φ ds st1 with
      | ok d st2 =>
        rw [eφ] at h1
        exact fun v F' H' M' s' f' r' => h1 v F' H' M' (S1.fr f' s') f' r'
      | exn x1 st2 =>
        rw [eφ] at h1
        exact fun F' H' M' s' f' => XW_at (h1 F' H' M' (S1.fr f' s') f')
      | stuck => rw [eφ] at h1; exact False.elim h1
    · rw [if_neg hl] at h1; exact False.elim h1
  · exact run_F F hgd hr hb tk I1 r q
/-- in a comprehension's block nothing is let out -/
theorem takes_no {X : Cx} : L2N.Takes X Wno := fun u s' ⟨_, _, _, _, _, _, _, _, _, _, _, _, _, _, _, _, w⟩ => w.elim
end
end OM
namespace OM
open PySem PySem.Spec PyProof.Rows L2
section
variable {X : Cx} {T : Tab} {W : WX} {e a b c : Expr} {es : List Expr} {f fa fb fc : Ev} {fs : Av} {p pos : Pos} {x : Str} {id Ty : String}
/-! ### built-ins of one argument that is looked at -/
def CallS (K : PySem.W.Frag) (r : List V → Hp → VK → Prop) (g : D → Option D) : Prop := ∀ (F H : Hp) (M : Mp) (σ : L2.St) (ρ : En) (st : Stor) (x : V) (dx d : D) (Q : VK), SR K F H M σ ρ st → PB K F H M x dx → g dx = some d →
  (∀ v F' H' M', SR K F' H' M' σ ρ st → Fr No F H M F' H' M' → RV K F' M' v d → Q v H') → r [x] H Q
theorem c1 {r : List V → Hp → VK → Prop} {g : D → Option D} (hg : CallS X.K r g) {Q : VK} {σ : L2.St} {H : Hp} (h : tR X.K T W (PV X.K) (eUn g fa) σ H Q) : tCB r (tCons (tR X.K T W (PB X.K) fa) tNil) σ H Q := by
  obtain ⟨F, M, ρ, st, S, h⟩ := h
  refine tR_bind S h fun dx st1 x F1 H1 M1 S1 f1 rx h1 => ?_
  obtain ⟨d, e, h2⟩ := h1.of
  exact hg F1 H1 M1 σ ρ st1 x dx d Q S1 rx e h2
theorem de_b1 {r : List V → Hp → VK → Prop} {g : D → Option D} (hc : CallR X (.builtin id) r) (hs : CallS X.K r g) (hg : Gl X x) (hm : X.mg x = none) (hv : bootBuiltins x = some (.builtin id)) (ha : BE X T W a fa) (hn : x ≠ "__name__" := by decide) (hdb : (x == ("__debug__" : Str)) = false := by decide)
    (he : starEach [a] X.env = (false, eval a X.env) :: starEach [] X.env := by rfl) (hpl : (backTo pos (starEach [] X.env)).any (·.1) = false := by rfl) : DE X T W (.Call (.Name x p) [a] [] pos) (eUn g fa) :=
  PE.wk (pe_callB hc hg hm hv (pa_cons ha pa_nil he) hn hdb he hpl) fun _ _ _ h => c1 hs h
theorem de_t1 {r : List V → Hp → VK → Prop} {g : D → Option D} (hc : CallR X (.type Ty) r) (hs : CallS X.K r g) (hg : Gl X x) (hm : X.mg x = none) (hv : bootBuiltins x = some (.type Ty)) (ha : BE X T W a fa) (hn : x ≠ "__name__" := by decide) (hdb : (x == ("__debug__" : Str)) = false := by decide)
    (he : starEach [a] X.env = (false, eval a X.env) :: starEach [] X.env := by rfl) (hpl : (backTo pos (starEach [] X.env)).any (·.1) = false := by rfl) : DE X T W (.Call (.Name x p) [a] [] pos) (eUn g fa) :=
  PE.wk (pe_callTy hc hg hm hv (pa_cons ha pa_nil he) hn hdb he hpl) fun _ _ _ h => c1 hs h
/-- len -/
def dLen : D → Option D
  | .str x => some (.int x.length)
  | .tup ds => some (.int ds.length)
  | .lst ds => some (.int ds.length)
  | _ => none
theorem cs_len {K : PySem.W.Frag} : CallS K (fun xs H Q => ∃ x n, xs = [x] ∧ LenV K x H n ∧ Q (.int n) H) dLen := by
  intro F H M σ ρ st x dx d Q S rx e q
  cases dx with
  | str z =>
    cases e
    obtain ⟨rfl, hz⟩ := rx.str
    exact ⟨_, _, rfl, ⟨hz, rfl⟩, q _ F H M S Fr.refl (.int _)⟩
  | tup ds =>
    cases e
    obtain ⟨a, vs, rfl, h, _, r⟩ := rx.tup S.ss.sub
    exact ⟨_, _, rfl, .inr ⟨vs, h, r.length.symm⟩, q _ F H M S Fr.refl (.int _)⟩
  | lst ds =>
    cases e
    obtain ⟨a, vs, rfl, h, _, r⟩ := rx.lst S.ss.sub
    exact ⟨_, _, rfl, .inl ⟨vs, SqL.of h, r.length.symm⟩, q _ F H M S Fr.refl (.int _)⟩
  | _ => cases e
/-- abs, int -/
def dAbs : D → Option D
  | .int i => some (.int (if i < 0 then -i else i))
  | _ => none
theorem cs_abs {K : PySem.W.Frag} : CallS K (fun xs H Q => ∃ i, xs = [.int i] ∧ Q (.int (if i < 0 then -i else i)) H) dAbs := by
  intro F H M σ ρ st x dx d Q S rx e q
  cases dx with
  | int i => cases e; exact ⟨i, by rw [rx.int], q _ F H M S Fr.refl (.int _)⟩
  | _ => cases e
def dInt : D → Option D
  | .int i => some (.int i)
  | .bl b => some (.int (if b then 1 else 0))
  | _ => none
theorem cs_int {K : PySem.W.Frag} : CallS K (fun xs H Q => (∃ i, xs = [.int i] ∧ Q (.int i) H) ∨ ∃ k, xs = [.bl k] ∧ Q (.int (if k then 1 else 0)) H) dInt := by
  intro F H M σ ρ st x dx d Q S rx e q
  cases dx with
  | int i => cases e; exact .inl ⟨i, by rw [rx.int], q _ F H M S Fr.refl (.int _)⟩
  | bl b => cases e; exact .inr ⟨b, by rw [rx.bl], q _ F H M S Fr.refl (.int _)⟩
  | _ => cases e
/-- tuple(x), list(x) -/
def dTup : D → Option D
  | .lst ds => some (.tup ds)
  | .tup ds => some (.tup ds)
  | _ => none
theorem cs_tup {K : PySem.W.Frag} : CallS K (fun xs H Q => ∃ p ys, xs = [.ref p] ∧ ((SqL K H p ys ∧ ∀ l, H l = none → Q (.ref l) (upd H l (.tup ys))) ∨ (SqT K H p ys ∧ Q (.ref p) H))) dTup := by
  intro F H M σ ρ st x dx d Q S rx e q
  cases dx with
  | lst ds =>
    cases e
    obtain ⟨a, vs, rfl, h, z, r⟩ := rx.lst S.ss.sub
    exact ⟨a, vs, rfl, .inl ⟨SqL.of h, ret_tup S z r q⟩⟩
  | tup ds =>
    cases e
    rcases rx with rx | ⟨_, _, _, _, z, _⟩
    · cases rx with
      | tup h z r => exact ⟨_, _, rfl, .inr ⟨Same.sqt S.ss.sub h, q _ F H M S Fr.refl (.tup h z r)⟩⟩
    · cases z
  | _ => cases e
def dLst : D → Option D
  | .lst ds => some (.lst ds)
  | .tup ds => some (.lst ds)
  | _ => none
theorem cs_lst {K : PySem.W.Frag} : CallS K (fun xs H Q => ∃ p ys, xs = [.ref p] ∧ (SqL K H p ys ∨ SqT K H p ys) ∧ ∀ l, H l = none → Q (.ref l) (upd H l (.lst ys))) dLst := by
  intro F H M σ ρ st x dx d Q S rx e q
  cases dx with
  | lst ds =>
    cases e
    obtain ⟨a, vs, rfl, h, z, r⟩ := rx.lst S.ss.sub
    exact ⟨a, vs, rfl, .inl (SqL.of h), ret_lst S z r q⟩
  | tup ds =>
    cases e
    obtain ⟨a, vs, rfl, h, z, r⟩ := rx.tup S.ss.sub
    exact ⟨a, vs, rfl, .inr h, ret_lst S z r q⟩
  | _ => cases e
/-- list(x) for a slot of one's own -/
def aOfL (f : Ev) : Av := fun ρ st => (f ρ st).bind fun d st1 => match d with
  | .lst ds => .ok ds st1
  | .tup ds => .ok ds st1
  | _ => .stuck
theorem ne_list (hg : Gl X "list") (hm : X.mg "list" = none) (ha : BE X T W a fa)
    (he : starEach [a] X.env = (false, eval a X.env) :: starEach [] X.env := by rfl) (hpl : (backTo pos (starEach [] X.env)).any (·.1) = false := by rfl) : NE X T W (.Call (.Name "list" p) [a] [] pos) (aOfL fa) := by
  refine PE.wk (pe_callTy call_list_of hg hm (by decide +kernel) (pa_cons ha pa_nil he) (by decide) (by decide) he hpl) fun σ H Q ⟨F, M, ρ, st, S, h⟩ => ?_
  refine tR_bind S h fun d st1 v F1 H1 M1 S1 f1 rx h1 => ?_
  cases d with
  | lst ds =>
    obtain ⟨a, vs, rfl, h, z, r⟩ := rx.lst S1.ss.sub
    exact ⟨a, vs, rfl, .inl (SqL.of h), ret_own f1 S1 z r h1⟩
  | tup ds =>
    obtain ⟨a, vs, rfl, h, z, r⟩ := rx.tup S1.ss.sub
    exact ⟨a, vs, rfl, .inr h, ret_own f1 S1 z r h1⟩
  | _ => exact False.elim h1
/-- the intsD of a list -/
def intsD : List D → Option (List Int)
  | [] => some []
  | .int i :: ds => (intsD ds).map (i :: ·)
  | _ => none
theorem intsD_map : ∀ {ds : List D} {ns : List Int}, intsD ds = some ns → ds = ns.map .int
  | [], ns, h => by cases h; rfl
  | d :: ds, ns, h => by
    cases d <;> try (simp [intsD] at h; done)
    simp only [intsD, Option.map_eq_some_iff] at h
    obtain ⟨ms, h1, rfl⟩ := h
    rw [intsD_map h1]; rfl
theorem intsD_of (ns : List Int) : intsD (ns.map .int) = some ns := by
  induction ns with
  | nil => rfl
  | cons n ns ih => simp [intsD, ih]
def seqD : D → Option (List D)
  | .lst ds => some ds
  | .tup ds => some ds
  | _ => none
def dSum (d : D) : Option D := (seqD d).bind fun ds => (intsD ds).map fun ns => .int ns.sum
/-- sum of a list or tuple of intsD -/
def rSumA (K : PySem.W.Frag) : List V → Hp → VK → Prop := fun vs H Q => ∃ (a : Addr) (ns : List Int), vs = [V.ref a] ∧ (SqL K H a (ns.map V.int) ∨ SqT K H a (ns.map V.int)) ∧ Q (.int ns.sum) H
theorem cr_sumA (hc : X.calm = true) : CallR X (.builtin "sum") (rSumA X.K) := by
  intro pins s σ H vs us Q I r h
  obtain ⟨a, ns, rfl, hs, q⟩ := h
  rw [Vals.ref1 r]
  rcases hs with hs | hs
  · obtain ⟨its, rv, hl, _⟩ := I.list hs
    exact sum_raw (I.ok.hd hc) hl.isList rv.ints fun h' tk t' hk => ⟨.int _, H, I.kept hk, ⟨_, rfl⟩, q⟩
  · obtain ⟨its, rv, hl, _⟩ := I.tuple hs
    have hlt : a < s.heap.objs.size := hl.lt
    refine call_sum_walkG (wpAny_pyIter_tuple (show s.heap.IsTuple a its.toArray from hl) ⟨s.heap.objs.size, _, _, _, _, _, fun i => ns.getD i 0, rfl, Walks.tuple (A := X.A.in1) (I.ok.hd hc) _ a (Nat.ne_of_lt hlt) its.toArray, ⟨⟨_, Heap.get?_push_size _ rfl, rfl, rfl⟩, IsTup.push hl _⟩, fun b hb => ?_, fun i v hv => ?_, fun h' tk t' hk' => ?_⟩)
    · show b < (s.heap.push _).objs.size
      rw [Heap.size_push]
      have e : b = s.heap.objs.size ∨ b = a := by simpa using hb
      rcases e with e | e
      · rw [e]; exact Nat.lt_succ_self _
      · rw [e]; exact Nat.lt_succ_of_lt hlt
    · have e2 : its[i]? = some v := by simpa using hv
      cases q2 : (ns.map V.int)[i]? with
      | none => rw [rv.none_of q2] at e2; cases e2
      | some x =>
        obtain ⟨u, h1, h2⟩ := rv.get q2
        rw [e2] at h1; cases h1
        rw [List.getElem?_map] at q2
        cases q3 : ns[i]? with
        | none => rw [q3] at q2; cases q2
        | some n =>
          rw [q3] at q2
          cases q2
          obtain ⟨t, rfl⟩ := h2
          exact ⟨t, by simp [List.getD, q3]⟩
    · have hn : its.toArray.size = ns.length := by rw [List.size_toArray, ← rv.length, List.length_map]
      have es : preSum (fun i => ns.getD i 0) its.toArray.size = ns.sum := by
        have : ∀ j, preSum (fun i => ns.getD i 0) j = (ns.take j).sum := fun j => by
          induction j with
          | zero => simp [preSum]
          | succ j ih =>
            rw [preSum, ih]
            by_cases hj : j < ns.length
            · rw [List.take_add_one, List.getElem?_eq_getElem hj]
              simp only [List.getD, List.getElem?_eq_getElem hj, Option.getD_some, Option.toList_some, List.sum_append, List.sum_cons, List.sum_nil, Int.add_zero]
            · rw [List.take_of_length_le (by omega), List.take_of_length_le (by omega)]
              simp [List.getD, List.getElem?_eq_none (show ns.length ≤ j by omega)]
        rw [this, hn, List.take_length]
      rw [es]
      refine ⟨.int ns.sum, H, I.kept (t' := tk) fun b o e => hk' b o (fun z => ?_) (Heap.get?_push_of_some _ e), ⟨_, rfl⟩, q⟩
      have e2 : b = s.heap.objs.size := by simpa using z
      exact absurd (Heap.lt_size e) (by rw [e2]; exact Nat.lt_irrefl _)
theorem cs_sum {K : PySem.W.Frag} : CallS K (rSumA K) dSum := by
  intro F H M σ ρ st x dx d Q S rx e q
  cases dx with
  | lst ds =>
    simp only [dSum, seqD, Option.bind_some, Option.map_eq_some_iff] at e
    obtain ⟨ns, e1, rfl⟩ := e
    have e2 := intsD_map e1
    subst e2
    obtain ⟨a, vs, rfl, h, z, r⟩ := rx.lst S.ss.sub
    rw [r.ints] at h
    exact ⟨a, ns, rfl, .inl (SqL.of h), q _ F H M S Fr.refl (.int _)⟩
  | tup ds =>
    simp only [dSum, seqD, Option.bind_some, Option.map_eq_some_iff] at e
    obtain ⟨ns, e1, rfl⟩ := e
    have e2 := intsD_map e1
    subst e2
    obtain ⟨a, vs, rfl, h, z, r⟩ := rx.tup S.ss.sub
    rw [r.ints] at h
    exact ⟨a, ns, rfl, .inr h, q _ F H M S Fr.refl (.int _)⟩
  | _ => cases e
end
end OM
namespace OM
open PySem PySem.Spec PyProof.Rows L2
/-! ### repr of data -/
mutual
theorem py_plain : ∀ (d : D) {p : PyData}, d.py = some p → p.hasDict = false
  | .non, _, e => by simp only [D.py, Option.some.injEq] at e; subst e; rfl
  | .bl b, _, e => by simp only [D.py, Option.some.injEq] at e; subst e; rfl
  | .int i, _, e => by simp only [D.py, Option.some.injEq] at e; subst e; rfl
  | .str x, _, e => by simp only [D.py, Option.some.injEq] at e; subst e; rfl
  | .tup ds, _, e => by
    cases q : D.pys ds with
    | none => simp [D.py, q] at e
    | some ps =>
      simp only [D.py, q, Option.map_some, Option.some.injEq] at e
      subst e
      simp only [PyData.hasDict]
      exact pys_plain ds q
  | .lst ds, _, e => by
    cases q : D.pys ds with
    | none => simp [D.py, q] at e
    | some ps =>
      simp only [D.py, q, Option.map_some, Option.some.injEq] at e
      subst e
      simp only [PyData.hasDict]
      exact pys_plain ds q
  | .ref _, _, e => by simp [D.py] at e
  | .scr _, _, e => by simp [D.py] at e
theorem pys_plain : ∀ (ds : List D) {ps : List PyData}, D.pys ds = some ps → PyData.hasDictAll ps = false
  | [], _, e => by simp only [D.pys, Option.some.injEq] at e; subst e; rfl
  | d :: ds, _, e => by
    cases q1 : d.py with
    | none => simp [D.pys, q1] at e
    | some p =>
      cases q2 : D.pys ds with
      | none => simp [D.pys, q1, q2] at e
      | some ps =>
        simp only [D.pys, q1, q2, Option.some.injEq] at e
        subst e
        simp only [PyData.hasDictAll, py_plain d q1, pys_plain ds q2, Bool.or_self]
end
def reprOk (p : PyData) : Bool := p.showable && decide (p.depth ≤ 64) && decide (p.shown.length ≤ sizeLine)
def dRepr (d : D) : Option D := match d with
  | .lst ds => (D.pys ds).bind fun ps => if reprOk (.list ps) then some (.str (PyData.list ps).shown) else none
  | .tup ds => (D.pys ds).bind fun ps => if reprOk (.tuple ps) then some (.str (PyData.tuple ps).shown) else none
  | _ => none
def rRepr (K : PySem.W.Frag) : List V → Hp → VK → Prop := fun vs H Q => ∃ a d, vs = [V.ref a] ∧ Dp K H (.ref a) d ∧ d.hasDict = false ∧ reprOk d = true ∧ Q (.str d.shown) H
section
variable {X : Cx} {T : Tab} {W : WX}
theorem cr_repr (hgd : X.A.guards = some []) (hu : X.A.units + 100 < cLine) : CallR X (.builtin "repr") (rRepr X.K) := by
  intro pins s σ H vs us Q I r h
  obtain ⟨a, d, rfl, hd, hnd, ok, q⟩ := h
  rw [Vals.ref1 r]
  unfold reprOk at ok
  rw [Bool.and_eq_true, Bool.and_eq_true] at ok
  have hdep := of_decide_eq_true ok.1.2
  obtain ⟨as, rd⟩ := Dp.reads I d (.ref a) (.ref a) hd rfl
  exact repr_of_reads' rd ok.1.1 (PyData.noDict_hsm hnd) hgd (by omega) (fun _ _ z => z) (fun h' u tk hk => ⟨.str d.shown, H, I.kept hk, ⟨_, rfl⟩, q⟩) (of_decide_eq_true ok.2)
theorem cs_repr {K : PySem.W.Frag} : CallS K (rRepr K) dRepr := by
  intro F H M σ ρ st x dx d Q S rx e q
  cases dx with
  | lst ds =>
    simp only [dRepr] at e
    cases q2 : D.pys ds with
    | none => rw [q2] at e; cases e
    | some ps =>
      simp only [q2, Option.bind_some] at e
      split at e
      · rename_i ok
        cases e
        have rx0 := rx
        obtain ⟨a, vs, rfl, h, z, r⟩ := rx.lst S.ss.sub
        have ep : (D.lst ds).py = some (.list ps) := by simp [D.py, q2]
        refine ⟨a, .list ps, rfl, rx0.dp S.ss.sub ep, py_plain _ ep, ok, q _ F H M S Fr.refl (.str _ ?_)⟩
        unfold reprOk at ok
        rw [Bool.and_eq_true] at ok
        exact of_decide_eq_true ok.2
      · cases e
  | tup ds =>
    simp only [dRepr] at e
    cases q2 : D.pys ds with
    | none => rw [q2] at e; cases e
    | some ps =>
      simp only [q2, Option.bind_some] at e
      split at e
      · rename_i ok
        cases e
        have rx0 := rx
        obtain ⟨a, vs, rfl, h, z, r⟩ := rx.tup S.ss.sub
        have ep : (D.tup ds).py = some (.tuple ps) := by simp [D.py, q2]
        refine ⟨a, .tuple ps, rfl, rx0.dp S.ss.sub ep, py_plain _ ep, ok, q _ F H M S Fr.refl (.str _ ?_)⟩
        unfold reprOk at ok
        rw [Bool.and_eq_true] at ok
        exact of_decide_eq_true ok.2
      · cases e
  | _ => cases e
/-! ### in, whatever stands on the right -/
def dInA (a b : D) : Option D := match b with
  | .lst _ => dIn a b
  | .tup _ => dInT a b
  | _ => none
def dNinA (a b : D) : Option D := match b with
  | .lst _ => dNin a b
  | .tup _ => dNinT a b
  | _ => none
theorem ops_inA {K : PySem.W.Frag} : OpS K (fun x y H Q => rInD K x y H Q ∨ rIn K false x y H Q) dInA := by
  intro F H M σ ρ st x y dx dy d Q S rx ry e q
  cases dy with
  | lst ds => exact .inl (ops_in F H M σ ρ st x y dx _ d Q S rx ry e q)
  | tup ds => exact .inr (ops_inT F H M σ ρ st x y dx _ d Q S rx ry e q)
  | _ => cases e
theorem ops_ninA {K : PySem.W.Frag} : OpS K (fun x y H Q => rNotInD K x y H Q ∨ rIn K true x y H Q) dNinA := by
  intro F H M σ ρ st x y dx dy d Q S rx ry e q
  cases dy with
  | lst ds => exact .inl (ops_nin F H M σ ρ st x y dx _ d Q S rx ry e q)
  | tup ds => exact .inr (ops_ninT F H M σ ρ st x y dx _ d Q S rx ry e q)
  | _ => cases e
theorem opr_inA (hu : X.A.units + 65 < cLine) : OpR X (compareOp .In) (fun x y H Q => rInD X.K x y H Q ∨ rIn X.K false x y H Q) := (op_inD hu).or op_in_seq
theorem opr_ninA (hu : X.A.units + 65 < cLine) : OpR X (compareOp .NotIn) (fun x y H Q => rNotInD X.K x y H Q ∨ rIn X.K true x y H Q) := (op_notInD hu).or op_notIn_seq
/-! ### sorted of a list of ints -/
def sortI (ns : List Int) : List Int := ns.mergeSort fun a b => decide (a ≤ b)
theorem sortI_perm (ns : List Int) : (sortI ns).Perm ns := List.mergeSort_perm ns _
theorem sortI_sorted (ns : List Int) : (sortI ns).Pairwise (· ≤ ·) := by
  have h := List.pairwise_mergeSort (le := fun a b : Int => decide (a ≤ b)) (fun a b c h1 h2 => by
    have h1 := of_decide_eq_true h1
    have h2 := of_decide_eq_true h2
    exact decide_eq_true (Int.le_trans h1 h2)) (fun a b => by
    rcases Int.le_total a b with h | h
    · simp [h]
    · simp [h]) ns
  exact h.imp fun h => of_decide_eq_true h
theorem sorted_one {xs ys : List Int} (p : xs.Perm ys) (hx : xs.Pairwise (· ≤ ·)) (hy : ys.Pairwise (· ≤ ·)) : xs = ys := p.eq_of_pairwise (fun a b _ _ h1 h2 => Int.le_antisymm h1 h2) hx hy
def dSrt (d : D) : Option D := match d with
  | .lst ds => (intsD ds).map fun ns => .lst ((sortI ns).map .int)
  | _ => none
end
end OM
/-! ### enumerate of a tuple -/
namespace PySem
open Sem (wp)
open AutoSeq1 (wpAny_loadPart')
set_option maxHeartbeats 1000000 in
theorem om_enumNew {v : Value} {o : Obj} {H : Heap → Prop} (B : Begins v o H) :
    Meets (Builtin.«enumerate.__new__» ⟨[.type "enumerate", v], []⟩) (fun _ R s => H s.heap ∧
      R (.ok (.ret (.ref (s.heap.push o).objs.size))) { s with heap := (s.heap.push o).push { cls := .type "enumerate", data := .fields #[.none, .bool false, .ref s.heap.objs.size, rawInt 0, .none, .none] } }) :=
  .of_wp fun prog w A R s h => by
    obtain ⟨hp, g, d, tk, os⟩ := s
    obtain ⟨h1, h⟩ := h
    have hsub := sub_enumerate
    have it1 : ∀ {A' : Around} {E : Value → Shared → Prop} {Q : Value → Shared → Prop}, Q (.ref hp.objs.size) ⟨hp.push o, g, d, tk, os⟩ → wpAny (model prog w) A' (pyIter v) Q E ⟨hp, g, d, tk, os⟩ :=
      fun q => B.iter prog w _ _ ⟨hp, g, d, tk, os⟩ _ h1 q
    wp_walk using it1
    refine wpAny_stack_any fun st => wpAny_pure ?_
    split
    · rename_i c _ _ _ _ _
      cases (c == Value.type "enumerate")
      · wp_walk using it1
        exact ⟨_, rfl, h⟩
      · wp_walk using it1
        exact ⟨_, rfl, h⟩
    · wp_walk using it1
      exact ⟨_, rfl, h⟩
theorem om_enumCall {prog : Program} {w : World} {A : Around} {E : Value → Shared → Prop} {s : Shared} {v : Value} {o : Obj} {H : Heap → Prop} {Q : Value → Shared → Prop} (B : Begins v o H) (h1 : H s.heap)
    (h : ∀ h', IsEnum h' (s.heap.objs.size + 1) s.heap.objs.size 0 .none → h'.get? s.heap.objs.size = some o → h'.objs.size = s.heap.objs.size + 2 →
      (∀ b o, s.heap.get? b = some o → h'.get? b = some o) → Q (.ref (s.heap.objs.size + 1)) { s with heap := h' }) :
    wpAny (model prog w) A (call (.type "enumerate") [v]) Q E s := by
  refine callType_new F.called_enumerate (by decide) (F.typeCall_enumerate_1 _) (F.newCall_enumerate_1 _) (fun obj => F.args_object_init_2 obj _) F.entry_enumerate_new (om_enumNew B) ⟨h1, ?_⟩
  have hz : (s.heap.push o).objs.size = s.heap.objs.size + 1 := Heap.size_push ..
  show _ ∧ _
  rw [hz]
  have he : IsEnum ((s.heap.push o).push { cls := .type "enumerate", data := .fields #[.none, .bool false, .ref s.heap.objs.size, rawInt 0, .none, .none] }) (s.heap.objs.size + 1) s.heap.objs.size 0 .none := by
    have := Heap.get?_push_size (s.heap.push o) (o := { cls := .type "enumerate", data := .fields #[.none, .bool false, .ref s.heap.objs.size, rawInt 0, .none, .none] }) rfl
    rw [hz] at this; exact this
  exact ⟨⟨_, he, rfl⟩, h _ he (Heap.get?_push_of_some _ (Heap.get?_push_size _ B.free)) (by rw [Heap.size_push, hz]) fun b o x => Heap.get?_push_of_some _ (Heap.get?_push_of_some _ x)⟩
end PySem
namespace OM
open PySem PySem.Spec PyProof.Rows L2
def IteT (K : PySem.W.Frag) (a : Addr) : It :=
  ⟨fun i H => ∃ (xs : List V) (x : V), SqT K H a xs ∧ xs[i]? = some x, fun i H v H' => ∃ p x, v = .ref p ∧ H p = none ∧ H' = upd H p (.tup [.int (i : Nat), x]) ∧ ∀ xs, SqT K H a xs → xs[i]? = some x, fun i H => ∃ xs : List V, SqT K H a xs ∧ xs.length = i⟩
theorem turn_enumT {P : Program} {w : World} {K : PySem.W.Frag} {elts : List Expr} {kk : Nat} {tpos : Pos} (a e it : Addr) (hae : e ≠ a) :
    Turn P w K (.Tuple elts kk tpos) (IteT K a) [e, it] e (fun i h => (∃ old, IsEnum h e it ((i : Nat) : Int) old) ∧ h.IsTupleIter it a i ∧ e ≠ it) where
  mem := by simp
  obj := fun i h st b hb => by
    obtain ⟨⟨old, he⟩, ⟨o, ho, hc, hd⟩, _⟩ := st
    have e' : b = e ∨ b = it := by simpa using hb
    rcases e' with z | z
    · rw [z]; exact ⟨_, he, fun v q => nomatch q⟩
    · rw [z]; exact ⟨o, ho, fun v q => by rw [hd] at q; cases q⟩
  keep := fun i h h' st k => let ⟨⟨old, he⟩, hi, hne⟩ := st; ⟨⟨old, k e (by simp) _ he⟩, hi.at fun o q => k it (by simp) o q, hne⟩
  item := by
    intro X hP hw hK hc i pins s σ H E I hf st hg
    subst hP hw hK
    obtain ⟨⟨old, he⟩, hit, hne⟩ := st
    obtain ⟨xs, x, hq, hx⟩ := hg
    obtain ⟨its, rv, p, hz⟩ := I.tuple hq
    obtain ⟨u, hu, ru⟩ := rv.get hx
    have hel : e < s.heap.objs.size := Heap.lt_size he
    have hil : it < s.heap.objs.size := by obtain ⟨_, q, _⟩ := hit; exact Heap.lt_size q
    have nai : a ≠ it := fun z => by
      obtain ⟨o, q, c, _⟩ := hit
      obtain ⟨o', q', c', _⟩ := p
      rw [z, q] at q'; cases q'
      rw [c] at c'
      injection c' with z2
      exact absurd z2 (by decide)
    have hlt : i < its.toArray.size := by
      have := (List.getElem?_eq_some_iff.mp hu).1
      simpa using this
    refine wpAny_pyNext_enum_itemD (Draws.tuple (A := X.A.in1) (I.ok.hd hc) it a nai its.toArray) he ⟨hit, p⟩ hlt hne (by simp only [List.mem_cons, List.not_mem_nil, or_false, not_or]; exact ⟨hne, hae⟩) fun u' h' tk hu' ho ⟨hit', _⟩ hT hsz hk => ?_
    have hu2 : its[i]? = some u' := by simpa using hu'
    rw [hu] at hu2
    cases hu2
    refine ⟨_, rfl, wpAny_letOwnedTupleGo_enum (s := { s with heap := h', toks := tk + 1 }) ho fun h'' he' sb => ?_⟩
    have hT2 : h''.get? s.heap.objs.size = some { cls := .type "tuple", data := .seq #[.int i tk, u] } := (sb.2 _ (Nat.ne_of_gt hel)).trans hT
    have new : ObjOk X.prog X.w (upd H s.heap.objs.size (.tup [.int (i : Nat), x])) h'' s.heap.objs.size (.tup [.int (i : Nat), x]) :=
      ⟨by show 2 ≤ sizeLine; decide, [.int i tk, u], .cons ⟨_, rfl⟩ (.cons ru .nil), ⟨_, hT2, rfl, _, rfl⟩⟩
    have I1 : Inv X pins σ (upd H s.heap.objs.size (.tup [.int (i : Nat), x])) { s with heap := h'', toks := tk + 1 } :=
      I.turnedNew (ch := [e, it]) (fun b ob hb q => (sb.2 b (fun z => hb (by simp [z]))).trans (hk b ob (fun z => hb (by simp [z])) (fun z => hb (by simp [z])) q)) hf (Nat.le_refl _) new
    refine ⟨.ref s.heap.objs.size, _, I1, rfl, ⟨_, x, rfl, I.hok.fresh (Nat.le_refl _), rfl, fun ys hy => by rw [I.tuple_inj hy hq]; exact hx⟩, ⟨⟨u, ?_⟩, hit'.at fun o q => (sb.2 it (Ne.symm hne)).trans q, hne⟩, fun b hb => ?_⟩
    · have e1 : ((i + 1 : Nat) : Int) = (i : Int) + 1 := by omega
      rw [e1]; exact he'
    · have hb' : b < s.heap.objs.size := by
        have e' : b = e ∨ b = it := by simpa using hb
        rcases e' with z | z
        · rw [z]; exact hel
        · rw [z]; exact hil
      rw [upd_ne (Nat.ne_of_lt hb')]
      exact (hf b hb).1
  done := by
    intro X hP hw hK hc i pins s σ H E I hf st hg
    subst hP hw hK
    obtain ⟨⟨old, he⟩, hit, hne⟩ := st
    obtain ⟨xs, hq, hx⟩ := hg
    obtain ⟨its, rv, p, hz⟩ := I.tuple hq
    obtain ⟨f0, f1, f2, f3, f4, f5⟩ := hf it (by simp)
    have nai : a ≠ it := fun z => by
      obtain ⟨o, q, c, _⟩ := hit
      obtain ⟨o', q', c', _⟩ := p
      rw [z, q] at q'; cases q'
      rw [c] at c'
      injection c' with z2
      exact absurd z2 (by decide)
    have hl := rv.length
    have D := Draws.tuple (prog := X.prog) (w := X.w) (A := X.A.in1) (I.ok.hd hc) it a nai its.toArray
    have ei : i = its.toArray.size := by simp; omega
    subst ei
    exact wpAny_pyNext_enum_endD D he ⟨hit, p⟩ fun h' eb => ⟨rfl, I.turned (t' := s.toks) (fun b o hb q => eb b o hb q) f0 f1 f3 f4 f5⟩
  self := fun A i s Q E st h => let ⟨⟨_, he⟩, _⟩ := st; wpAny_pyIter_enum he h
def iEnumT (K : PySem.W.Frag) (ta : TA) : TI := fun σ H R => ta σ H fun vs H1 => ∃ a xs, vs = [.ref a] ∧ SqT K H1 a xs ∧ R (IteT K a) H1
theorem begins_tup (t : Addr) (items : Array Value) : Begins (.ref t) { cls := .type "tuple_iterator", data := .fields #[.ref t, .int 0 0] } fun h => h.IsTuple t items where
  iter := fun prog w A E s Q hl h => wpAny_pyIter_tuple hl h
  keeps := fun h h' x hk => x.at fun o e => hk t o e
  free := rfl
theorem pi_enumT {X : Cx} {e : Expr} {ta : TA} {p pos tpos : Pos} {elts : List Expr} {kk : Nat} (hg : Gl X "enumerate") (hm : X.mg "enumerate" = none) (ha : PA X [e] ta) (hs : starEach [e] X.env = [(false, eval e X.env)] := by rfl) :
    PI X (.Tuple elts kk tpos) (.Call (.Name "enumerate" p) [e] [] pos) (iEnumT X.K ta) := by
  refine ⟨fun pins s σ H R I h => ?_⟩
  refine Call_ (ld_blt I hg hm boot_enumerate (PyProof.Rows.callWith_type1 (thn (ha.run pos pins s σ H _ I h) fun us s1 ⟨vs, H1, I1, r1, q1⟩ => ?_) hs rfl))
  obtain ⟨a, xs, ex, hq, q⟩ := q1
  subst ex
  cases r1 with
  | cons r rr =>
    cases rr
    cases r
    obtain ⟨its, rv, pt, hz⟩ := I1.tuple hq
    have hlt : a < s1.heap.objs.size := pt.lt
    refine om_enumCall (begins_tup a its.toArray) (show s1.heap.IsTuple a its.toArray from pt) fun h' he hit hsz hk => wpAny_pyIter_enum he ?_
    have I2 : Inv X pins σ H1 { s1 with heap := h' } := I1.kept (t' := s1.toks) hk
    refine ⟨s1.heap.objs.size + 1, [s1.heap.objs.size + 1, s1.heap.objs.size], _, _, H1, rfl, I2, turn_enumT a (s1.heap.objs.size + 1) s1.heap.objs.size (Nat.ne_of_gt (Nat.lt_succ_of_lt hlt)), ⟨⟨.none, he⟩, ⟨_, hit, rfl, rfl⟩, Nat.succ_ne_self _⟩, fun b hb => ?_, q⟩
    have e' : b = s1.heap.objs.size + 1 ∨ b = s1.heap.objs.size := by simpa using hb
    have hle : s1.heap.objs.size ≤ b := by
      rcases e' with z | z
      · rw [z]; exact Nat.le_add_right _ _
      · rw [z]; exact Nat.le_refl _
    exact I1.fpOk hle (I1.hok.fresh hle)
theorem walk_enumT {K : PySem.W.Frag} {a : Addr} {xs : List V} : Walk (IteT K a) xs.length (fun H => SqT K H a xs) (YPair (fun i => some (.int (i : Nat))) (fun i => xs[i]?)) :=
  ⟨fun i _ hi q => ⟨xs, xs[i], q, by simp [hi]⟩, fun _ q => ⟨xs, q, rfl⟩, fun i H v H' hi q ⟨p, x, h1, h2, h3, h4⟩ => ⟨p, .int (i : Nat), x, h1, h2, h3, rfl, h4 xs q⟩⟩
/-! ### the walks of enumerate, zip -/
section
variable {X : Cx} {T : Tab} {W : WX} {a b : Expr} {f fa fb : Ev} {p pos tpos : Pos} {elts : List Expr} {kk : Nat}
def enumD (ds : List D) : List D := ds.zipIdx.map fun (d, i) => .tup [.int (i : Nat), d]
def zipD (ds es : List D) : List D := (ds.zip es).map fun (d, e) => .tup [d, e]
theorem two_ok : 2 ≤ sizeLine := by decide
theorem enumD_len (ds : List D) : (enumD ds).length = ds.length := by unfold enumD; rw [List.length_map, List.length_zipIdx]
theorem walkD_pair {K : PySem.W.Frag} {F : Hp} {M : Mp} {J : It} {n : Nat} {G : Hp → Prop} {xs ys : Nat → Option V} {ds : List D} (hl : ds.length = n) (w : Walk J n G (YPair xs ys)) (hG : ∀ H, Same F H → G H)
    (hd : ∀ i x y, i < n → xs i = some x → ys i = some y → ∃ d e, ds[i]? = some (.tup [d, e]) ∧ RV K F M x d ∧ RV K F M y e) : WalkD K F M J ds := by
  subst hl
  refine ⟨G, _, w, hG, fun i H x H' hi s y => ?_⟩
  obtain ⟨q, u, v, rfl, h1, h2, h3, h4⟩ := y
  obtain ⟨d, e, e1, r1, r2⟩ := hd i u v hi h3 h4
  exact ⟨_, e1, .inr ⟨q, [u, v], [d, e], rfl, h1, h2, rfl, two_ok, .cons r1 (.cons r2 .nil)⟩⟩
theorem enum_at {K : PySem.W.Frag} {F : Hp} {M : Mp} {vs : List V} {ds : List D} (r : RVs K F M vs ds) (i : Nat) (x y : V) (hx : some (V.int (i : Nat)) = some x) (hy : vs[i]? = some y) : ∃ d e, (enumD ds)[i]? = some (.tup [d, e]) ∧ RV K F M x d ∧ RV K F M y e := by
  cases hx
  obtain ⟨d, h1, h2⟩ := r.getV hy
  refine ⟨.int (i : Nat), d, ?_, .int _, h2⟩
  unfold enumD
  rw [List.getElem?_map, List.getElem?_zipIdx, h1]
  simp
def iEnu (f : Ev) : Av := fun ρ st => (f ρ st).bind fun d st1 => match seqD d with
  | some ds => .ok (enumD ds) st1
  | none => .stuck
theorem di_enum (hg : Gl X "enumerate") (hm : X.mg "enumerate" = none) (ha : DE X T W a f) (hs : starEach [a] X.env = [(false, eval a X.env)] := by rfl) :
    DI X T W (.Tuple elts kk tpos) (.Call (.Name "enumerate" p) [a] [] pos) (iEnu f) := by
  refine PI.wk (PI.or (pi_enum hg hm (pa_cons ha pa_nil hs) hs) (pi_enumT hg hm (pa_cons ha pa_nil hs) hs)) fun σ H Q ⟨F, M, ρ, st, S, h⟩ => ?_
  cases ev : f ρ st with
  | ok d st1 =>
    cases d with
    | tup ds =>
      refine .inr (tR_bindE S h fun d' st1' v F1 H1 M1 e' S1 f1 r h1 => ?_)
      rw [ev] at e'
      cases e'
      cases r with
      | tup q z rr =>
        refine ⟨_, _, rfl, Same.sqt S1.ss.sub q, h1 _ F1 H1 M1 S1 Fr.refl ⟨by rw [enumD_len]; exact z, ?_⟩⟩
        exact walkD_pair (by rw [enumD_len, rr.length]) walk_enumT (fun H s => Same.sqt s q) fun i x y _ hx hy => enum_at rr i x y hx hy
    | lst ds =>
      refine .inl (tR_bindE S h fun d' st1' v F1 H1 M1 e' S1 f1 r h1 => ?_)
      rw [ev] at e'
      cases e'
      cases r with
      | lst q z rr =>
        refine ⟨_, _, rfl, SqL.of (S1.ss.sub _ _ q), h1 _ F1 H1 M1 S1 Fr.refl ⟨by rw [enumD_len]; exact z, ?_⟩⟩
        exact walkD_pair (by rw [enumD_len, rr.length]) walk_enum (fun H s => SqL.of (s _ _ q)) fun i x y _ hx hy => enum_at rr i x y hx hy
    | _ =>
      refine .inl (tR_bindE S h fun d' st1' v F1 H1 M1 e' S1 f1 r h1 => ?_)
      rw [ev] at e'
      cases e'
      exact False.elim h1
  | exn x st1 =>
    refine .inl (tR_bindE S h fun d' st1' v F1 H1 M1 e' S1 f1 r h1 => ?_)
    rw [ev] at e'
    cases e'
  | stuck =>
    refine .inl (tR_bindE S h fun d' st1' v F1 H1 M1 e' S1 f1 r h1 => ?_)
    rw [ev] at e'
    cases e'
/-! ### list(range(..)), tuple(range(..)), sorted -/
def PRD (X : Cx) (T : Tab) (W : WX) (e : Expr) (f : En → Stor → R (Int × Int)) : Prop := PRg X e (fun σ H Q => tR X.K T W (fun _ _ _ (b : Int × Int) c => b = c) f σ H fun p H1 => Q p.1 p.2 H1)
theorem cs_srt {K : PySem.W.Frag} : CallS K (rSortedI K) dSrt := by
  intro F H M σ ρ st x dx d Q S rx e q
  cases dx with
  | lst ds =>
    simp only [dSrt, Option.map_eq_some_iff] at e
    obtain ⟨ns, e1, rfl⟩ := e
    have e2 := intsD_map e1
    subst e2
    obtain ⟨a, vs, rfl, h, z, r⟩ := rx.lst S.ss.sub
    rw [r.ints] at h
    refine ⟨a, ns, rfl, SqL.of h, fun ns' p hp hs hn => ?_⟩
    have e3 : ns' = sortI ns := sorted_one (hp.trans (sortI_perm ns).symm) hs (sortI_sorted ns)
    subst e3
    exact ret_lst S (by rw [List.length_map, (sortI_perm ns).length_eq]; rw [List.length_map] at z; exact z) (RVs.of_ints _) q p hn
  | _ => cases e
/-- a range that is made a list or a tuple -/
def rRg1 (f : Ev) : En → Stor → R (List D) := iRg1 f
theorem rgOk_rg {a b : Int} (h : rgOk a b = true) : RgOk a b := by
  obtain ⟨h1, h2, h3, h4, h5⟩ := rgOk_ok h
  refine ⟨h1, h2, h3, h4, ?_⟩
  unfold rgD at h5
  rw [List.length_map, List.length_range, sizeLine_eq] at h5
  omega
theorem rg_rvs {K : PySem.W.Frag} {F : Hp} {M : Mp} (a b : Int) : RVs K F M (rgV a b) (rgD a b) := by
  have : ∀ l : List Nat, RVs K F M (l.map fun i => V.int (a + (i : Nat))) (l.map fun i => D.int (a + (i : Nat))) := fun l => by
    induction l with
    | nil => exact .nil
    | cons n l ih => exact .cons (.int _) ih
  exact this _
def eLRg (f : Ev) : Ev := fun ρ st => (iRg1 f ρ st).bind fun ds st1 => .ok (.lst ds) st1
def eTRg (f : Ev) : Ev := fun ρ st => (iRg1 f ρ st).bind fun ds st1 => .ok (.tup ds) st1
theorem rg_step {K : PySem.W.Frag} {α : Type} {P : Hp → Hp → Mp → V → α → Prop} {F H : Hp} {M : Mp} {σ : L2.St} {ρ : En} {st : Stor} {Q : VK} {k : List D → α} {R' : Int → Int → Hp → Prop} (S : SR K F H M σ ρ st) (h : wR K T W P F H M σ ρ ((iRg1 f ρ st).bind fun ds st1 => .ok (k ds) st1) Q)
    (c : ∀ n F1 H1 M1 st1, SR K F1 H1 M1 σ ρ st1 → Fr No F H M F1 H1 M1 → rgOk 0 n = true → wR K T W P F1 H1 M1 σ ρ (.ok (k (rgD 0 n)) st1) Q → R' 0 n H1) : tR K T W (PV K) f σ H fun x H1 => ∃ n, x = .int n ∧ R' 0 n H1 := by
  have h' : wR K T W P F H M σ ρ ((f ρ st).bind fun d st1 => (match d with | .int n => if rgOk 0 n then (.ok (rgD 0 n) st1 : R (List D)) else .stuck | _ => .stuck).bind fun ds st2 => .ok (k ds) st2) Q := by
    unfold iRg1 at h
    cases e : f ρ st with
    | ok d st1 => rw [e] at h; exact h
    | exn x st1 => rw [e] at h; exact h
    | stuck => rw [e] at h; exact h
  refine tR_bind S h' fun d st1 v F1 H1 M1 S1 f1 r h1 => ?_
  cases d with
  | int n =>
    cases r
    by_cases hr : rgOk 0 n = true
    · simp only [hr, if_true] at h1
      exact ⟨n, rfl, c n F1 H1 M1 st1 S1 f1 hr h1⟩
    · simp only [hr] at h1; exact False.elim h1
  | _ => exact False.elim h1
theorem de_lrg {q : Pos} {pr : Pos} (hc : X.calm = true) (hg : Gl X "list") (hm : X.mg "list" = none) (hg2 : Gl X "range") (hm2 : X.mg "range" = none) (ha : DE X T W a f) (na : starEach [a] X.env = (false, eval a X.env) :: starEach [] X.env := by rfl)
    (na2 : starEach [.Call (.Name "range" p) [a] [] pr] X.env = (false, eval (.Call (.Name "range" p) [a] [] pr) X.env) :: starEach [] X.env := by rfl) : DE X T W (.Call (.Name "list" q) [.Call (.Name "range" p) [a] [] pr] [] pos) (eLRg f) := by
  refine PE.wk (pe_listRg hc hg hm (prg_1 hg2 hm2 ha na) na2) fun σ H Q ⟨F, M, ρ, st, S, h⟩ => ?_
  exact rg_step (k := D.lst) (R' := fun a b H1 => RgOk a b ∧ ∀ q, H1 q = none → Q (.ref q) (upd H1 q (.lst (rgV a b)))) S h fun n F1 H1 M1 st1 S1 f1 hr h1 => ⟨rgOk_rg hr, ret_lst S1 (rgOk_ok hr).2.2.2.2 (rg_rvs 0 n) h1⟩
theorem de_trg {q : Pos} {pr : Pos} (hc : X.calm = true) (hg : Gl X "tuple") (hm : X.mg "tuple" = none) (hg2 : Gl X "range") (hm2 : X.mg "range" = none) (ha : DE X T W a f) (na : starEach [a] X.env = (false, eval a X.env) :: starEach [] X.env := by rfl)
    (na2 : starEach [.Call (.Name "range" p) [a] [] pr] X.env = (false, eval (.Call (.Name "range" p) [a] [] pr) X.env) :: starEach [] X.env := by rfl) : DE X T W (.Call (.Name "tuple" q) [.Call (.Name "range" p) [a] [] pr] [] pos) (eTRg f) := by
  refine PE.wk (pe_tupRg hc hg hm (prg_1 hg2 hm2 ha na) na2) fun σ H Q ⟨F, M, ρ, st, S, h⟩ => ?_
  exact rg_step (k := D.tup) (R' := fun a b H1 => RgOk a b ∧ ∀ q, H1 q = none → Q (.ref q) (upd H1 q (.tup (rgV a b)))) S h fun n F1 H1 M1 st1 S1 f1 hr h1 => ⟨rgOk_rg hr, ret_tup S1 (rgOk_ok hr).2.2.2.2 (rg_rvs 0 n) h1⟩
theorem ne_lrg {q : Pos} {pr : Pos} (hc : X.calm = true) (hg : Gl X "list") (hm : X.mg "list" = none) (hg2 : Gl X "range") (hm2 : X.mg "range" = none) (ha : DE X T W a f) (na : starEach [a] X.env = (false, eval a X.env) :: starEach [] X.env := by rfl)
    (na2 : starEach [.Call (.Name "range" p) [a] [] pr] X.env = (false, eval (.Call (.Name "range" p) [a] [] pr) X.env) :: starEach [] X.env := by rfl) : NE X T W (.Call (.Name "list" q) [.Call (.Name "range" p) [a] [] pr] [] pos) (iRg1 f) := by
  refine PE.wk (pe_listRg hc hg hm (prg_1 hg2 hm2 ha na) na2) fun σ H Q ⟨F, M, ρ, st, S, h⟩ => ?_
  have h' : wR X.K T W (PN X.K H) F H M σ ρ ((iRg1 f ρ st).bind fun ds st1 => .ok (id ds) st1) Q := by
    cases e : iRg1 f ρ st with
    | ok d st1 => rw [e] at h; exact h
    | exn x st1 => rw [e] at h; exact h
    | stuck => rw [e] at h; exact h
  exact rg_step (k := id) (R' := fun a b H1 => RgOk a b ∧ ∀ q, H1 q = none → Q (.ref q) (upd H1 q (.lst (rgV a b)))) S h' fun n F1 H1 M1 st1 S1 f1 hr h1 => ⟨rgOk_rg hr, ret_own f1 S1 (rgOk_ok hr).2.2.2.2 (rg_rvs 0 n) h1⟩
end
end OM
namespace OM
open PySem PySem.Spec PyProof.Rows L2
/-! ### constants of the module -/
section
variable {X : Cx} {T : Tab} {W : WX} {e : Expr} {es : List Expr} {f : Ev} {fs : Av} {p pos : Pos} {x : Str} {s : Stmt}
theorem de_gint {i : Int} (h : ∃ t, X.mg x = some (.int i t)) (hg : Gl X x) (hd : (x == ("__debug__" : Str)) = false := by decide) : DE X T W (.Name x pos) (eK (.int i)) := by
  obtain ⟨t, h⟩ := h
  exact de_k (v := .int i) (pe_glob hg h ⟨t, rfl⟩ hd) fun _ _ => .int i
/-- a written tuple of texts or ints -/
def TupIn (K : PySem.W.Frag) (mg : Str → Option Value) (x : Str) (ds : List D) : Prop := ∃ a, mg x = some (.ref a) ∧ ∀ F M, RV K F M (.ref a) (.tup ds)
theorem de_gtup {ds : List D} (h : TupIn X.K X.mg x ds) (hg : Gl X x) (hd : (x == ("__debug__" : Str)) = false := by decide) : DE X T W (.Name x pos) (eK (.tup ds)) := by
  obtain ⟨a, h, r⟩ := h
  exact de_k (v := .ref a) (pe_glob (v := .ref a) hg h rfl hd) r
/-! ### a new object of the store -/
def sRef (i : Nat) (f : Av) : Sv := fun ρ st => (f ρ st).out ρ fun ds st1 => .nx (ρ.set i (.vl (.ref st1.length))) (st1 ++ [.lst ds])
theorem d1_ref {i : Nat} {y : Str} {pos' : Pos} (hN : X.N.Nodup) (hi : X.N[i]? = some y) (hx : Loc X.env.scope y) (he : NE X T W e fs) (hs : swapsWith e (some (.Name y pos')) pos.line X.env = pure false := by rfl) (hf : X.fn y = true ∨ X.env.scope.names.lookup y = some .local := by first | exact .inl rfl | exact .inr rfl | assumption) :
    DS X T W (.Assign [.Name y pos'] e pos) (sRef i fs) := by
  refine PS.wk (ps_set hN hi hx he hs hf) fun N σ H ⟨F, M, ρ, st, S, h⟩ => ?_
  refine tS_bindN S h fun ds st1 v F1 H1 M1 S1 f1 r h1 => ?_
  obtain ⟨a, vs, rfl, h0, h2, z, r, hF, hm⟩ := r
  have nM : ∀ n b, M1 n = some b → n ≠ st1.length := fun n b e z => by
    have := S1.ss.dom n b e
    omega
  let M2 : Mp := fun n => if n = st1.length then some a else M1 n
  have m2 : ∀ n b, M1 n = some b → M2 n = some b := fun n b e => by
    show (if n = st1.length then some a else M1 n) = some b
    rw [if_neg (nM n b e)]; exact e
  have notOwn : ¬ OwnA σ ρ a := own_in S h0
  have ss2 : SS X.K F1 H1 M2 (st1 ++ [.lst ds]) := by
    refine ⟨S1.ss.sub, fun n ob e => ?_, fun n b e => ?_, fun n m b e1 e2 => ?_⟩
    · by_cases hn : n < st1.length
      · rw [List.getElem?_append_left hn] at e
        obtain ⟨b, q1, q2, q3⟩ := S1.ss.obs n ob e
        exact ⟨b, m2 n b q1, q2, q3.mono (fun _ _ y => y) m2 fun _ y => y⟩
      · rw [List.getElem?_append_right (by omega)] at e
        have hn0 : n - st1.length = 0 := by
          have := (List.getElem?_eq_some_iff.mp e).1
          simp at this; omega
        rw [hn0] at e
        cases e
        have en : n = st1.length := by omega
        exact ⟨a, by show (if n = st1.length then some a else M1 n) = some a; rw [if_pos en], hF, vs, h2, z, r.mono (fun _ _ y => y) m2⟩
    · rw [List.length_append]
      by_cases en : n = st1.length
      · rw [en]; exact Nat.lt_succ_self _
      · have e' : M1 n = some b := by
          have e : (if n = st1.length then some a else M1 n) = some b := e
          rwa [if_neg en] at e
        exact Nat.lt_succ_of_lt (S1.ss.dom n b e')
    · have e1 : (if n = st1.length then some a else M1 n) = some b := e1
      have e2 : (if m = st1.length then some a else M1 m) = some b := e2
      by_cases en : n = st1.length
      · by_cases em : m = st1.length
        · rw [en, em]
        · rw [if_pos en] at e1; rw [if_neg em] at e2
          cases e1
          exact absurd e2 (hm m)
      · by_cases em : m = st1.length
        · rw [if_neg en] at e1; rw [if_pos em] at e2
          cases e2
          exact absurd e1 (hm n)
        · rw [if_neg en] at e1; rw [if_neg em] at e2
          exact S1.ss.inj n m b e1 e2
  have fr2 : Fr No F H M F1 H1 M2 := ⟨f1.fs, fun n b e => m2 n b (f1.ms n b e), f1.keep, f1.there, f1.nf, fun n b e e' => by
    have e' : (if n = st1.length then some a else M1 n) = some b := e'
    by_cases en : n = st1.length
    · rw [if_pos en] at e'; cases e'; exact h0
    · rw [if_neg en] at e'; exact f1.nm n b e e'⟩
  have S2 : SR X.K F1 H1 M2 σ ρ (st1 ++ [.lst ds]) := S.fr fr2 ss2
  exact h1 _ F1 H1 M2 (S2.set i (.ref (by show (if st1.length = st1.length then some a else M1 _) = some a; rw [if_pos rfl]))) fr2.wk (OwG.set i)
/-! ### raise -/
structure Err (K : PySem.W.Frag) (mg : Str → Option Value) (C : Addr) (x : Str) : Prop where
  gC : mg x = some (.ref C)
  xC : PySem.W.excIn K C [.type "ValueError", .type "Exception", .type "BaseException", .type "object"] "ValueError.__new__" = true
  kC : PySem.W.keepIn K (.ref C) = true
  bC : PySem.W.subIn K (.ref C) (.type "BaseException") = some true
  tC : PySem.W.typeIn K (.ref C) = some (.type "type")
def sRs (c : Nat) : Sv := fun ρ st => .ex ⟨c, none⟩ ρ st
theorem d1_raise {c : Nat} {m : Str} {j : Nat} {p2 pos1 : Pos} (hc : X.calm = true) (tk : L2N.Takes X W) (G : Err X.K X.mg (T.cls c) x) (hg : Gl X x) (hdb : (x == ("__debug__" : Str)) = false := by decide) :
    DS X T W (.Raise (some (.Call (.Name x p) [.Constant (.str m) j p2] [] pos1)) none pos) (sRs c) :=
  PS.wk (L2N.ps_raise hc tk (L2N.pmk_own PySem.F.excBase_ValueError G.xC G.gC G.kC (raises_own G.bC G.tC) hg hdb)) fun N σ H ⟨F, M, ρ, st, S, h⟩ => h σ F H M S Fr.refl OwG.refl
end
end OM
namespace OM
open PySem PySem.Spec PyProof.Rows L2 HotX L2H
/-! ### what runs while an exception is handled -/
section
variable {prog : Program} {w : World} {A : Around} {E : Value → Shared → Prop} {s : Shared}
/-- the handled exception's object -/
def HotO (h : Heap) (x1 : Addr) : Prop := ∃ (o : Obj) (vs : Array Value), h.get? x1 = some o ∧ o.data = .fields vs ∧ vs[2]? = some .none
theorem HotO.at {h h' : Heap} {x1 : Addr} (x : HotO h x1) (k : ∀ o, h.get? x1 = some o → h'.get? x1 = some o) : HotO h' x1 := by
  obtain ⟨o, vs, a, b, c⟩ := x
  exact ⟨o, vs, k o a, b, c⟩
theorem list_end_hot {it l x1 : Addr} {i : Nat} {items : Array Value} {Q : Option Value → Shared → Prop} (hh : A.handled = some (.ref x1)) (hot : HotO s.heap x1) (hne : x1 ≠ it)
    (hit : s.heap.IsListIter it l i) (hl : s.heap.IsList l items) (hx : items[i]? = none)
    (hQ : ∀ h', (∀ b o, b ≠ it → s.heap.get? b = some o → h'.get? b = some o) → Q none { s with heap := h' }) : wpAny (model prog w) A (pyNext (.ref it)) Q E s := by
  obtain ⟨o, ho, hc, hd⟩ := id hit
  obtain ⟨ol, hol, _, nl, hdl⟩ := hl
  unfold pyNext
  refine wpAny_bind (wpAny_attempt (wpAny_callSpecial?_slot (name := Str.ofString "__next__") hit.typeIs slot_listiter_next
    (wpAny_call_entry slot_listiter_next hit.typeIs entry_listiter_next ?_ (args_listiter_next _))))
  show wpAny _ _ (field (.ref it) 0 >>= _) _ _ s
  refine wpAny_bind (wpAny_field ho hd (x := .ref l) rfl ?_)
  show wpAny _ _ (if (Value.ref l == Value.none) = true then _ else _) _ _ s
  rw [if_neg (show ¬ ((Value.ref l == Value.none) = true) from Bool.false_ne_true)]
  show wpAny _ _ (field (.ref it) 1 >>= _) _ _ s
  refine wpAny_bind (wpAny_field ho hd (x := .int i 0) rfl ?_)
  show wpAny _ _ (seqItems? (.ref l) >>= _) _ _ s
  refine wpAny_bind (wpAny_seqItems hol hdl ?_)
  simp only [Int.toNat_natCast, hx]
  refine wpAny_bind (wpAny_rule (wpAny_bind (wpAny_setField ho hd (by simp) ?_)))
  show wpAny _ _ (newExc (.type "StopIteration") [] >>= _) _ _ _
  refine wpAny_bind ?_
  simp only [newExc, newTuple]
  refine wpAny_bind (wpAny_newObj_type ?_ (by size_fits))
  refine wpAny_bind (m := firstArgMember _ _) (wpAny_of_eq (a := Value.none) (by first | rfl | (simp only [firstArgMember]; rfl)) ?_)
  refine wpAny_newObj_type ?_ (by size_fits)
  have k0 : ∀ b o, b ≠ it → s.heap.get? b = some o → (s.heap.update it (Obj.mapFields (·.setIfInBounds 0 .none))).get? b = some o := fun b o hb e => (Heap.get?_update_other _ _ (Ne.symm hb)).trans e
  obtain ⟨o1, vs1, h1, d1, c1⟩ := hot
  have h1' := k0 _ _ hne h1
  refine raiseNew_hot ⟨hh, o1, vs1, Heap.get?_push_of_some _ (Heap.get?_push_of_some _ h1'), d1, c1⟩ (Nat.ne_of_lt (Heap.lt_size (Heap.get?_push_of_some _ h1'))) (Heap.get?_push_size _ rfl) rfl (by first | (simp; done) | (simp; omega) | (simp only [Array.size_append]; simp; omega)) ?_
  refine wpAny_bind (wpAny_isInstance (T := "StopIteration") (b := true) ⟨_, Heap.get?_update_self _ (Heap.get?_push_size _ rfl) rfl, rfl⟩ isSubtype_stop ?_)
  refine wpAny_pure (hQ _ fun b o hb e => ?_)
  have e' := k0 b o hb e
  rw [Heap.get?_update_other _ _ (Nat.ne_of_gt (Heap.lt_size (Heap.get?_push_of_some _ e')))]
  exact Heap.get?_push_of_some _ (Heap.get?_push_of_some _ e')
theorem walks_listH {x1 : Addr} (hh : A.handled = some (.ref x1)) (I ax : Addr) (hne : ax ≠ I) (hx : x1 ≠ I) (items : Array Value) :
    Walks prog w A I [I, ax, x1] [I] items.size (fun i v => items[i]? = some v) (fun i h => h.IsListIter I ax i ∧ h.IsList ax items ∧ HotO h x1) where
  sub := fun b hb => by simp at hb; simp [hb]
  frame := fun _ _ _ st hk => ⟨st.1.at fun o e => hk I (by simp) o e, st.2.1.at fun o e => hk ax (by simp) o e, st.2.2.at fun o e => hk x1 (by simp) o e⟩
  item := fun i s Q E hi st hQ => by
    refine wpAny_pyNext_list_item st.1 st.2.1 (x := items[i]) (by simp [hi]) fun h' hit' hs' => ?_
    exact hQ _ h' s.toks (by simp [hi]) ⟨hit', st.2.1.extBut hs'.extBut hne, st.2.2.at fun o e => hs'.extBut x1 o hx e⟩ fun b o hb e => hs'.extBut b o (fun h => hb (by simp [h])) e
  done := fun s Q E st hQ => list_end_hot hh st.2.2 hx st.1 st.2.1 (by simp) fun h' he' => hQ h' s.toks fun b o hb e => he' b o (fun h => hb (by simp [h])) e
  self := fun _ _ _ _ st hQ => wpAny_pyIter_listiter st.1 hQ
end
/-- the context bears the exception a of the class D -/
def HotX (X : Cx) (a D : Addr) : Prop := ∃ oe : Obj, Hot1 X.A (a, oe) ∧ (a, oe) ∈ X.pn ∧ oe.cls = .ref D ∧ oe.dict = none
section
variable {X : Cx} {a D : Addr} {pins : List (Addr × Obj)} {σ : L2.St} {H : Hp} {s : Shared} {p pos : Pos}
theorem HotX.at (x : HotX X a D) (I : Inv X pins σ H s) : X.A.handled = some (.ref a) ∧ HotO s.heap a ∧ H a = none ∧ a < s.heap.objs.size := by
  obtain ⟨oe, ⟨h1, vs, e, c⟩, h2, _⟩ := x
  obtain ⟨g, n, _⟩ := I.pin (a, oe) (List.mem_append_left _ h2)
  exact ⟨h1, ⟨oe, vs, g, e, c⟩, n, Heap.lt_size g⟩
/-- sum of a list of ints -/
theorem cr_sumH (x : HotX X a D) : CallR X (.builtin "sum") (fun vs H Q => ∃ (b : Addr) (ns : List Int), vs = [V.ref b] ∧ SqL X.K H b (ns.map V.int) ∧ Q (.int ns.sum) H) := by
  intro pins s σ H vs us Q I r h
  obtain ⟨b, ns, rfl, hs, q⟩ := h
  rw [Vals.ref1 r]
  obtain ⟨its, rv, hl, _⟩ := I.list hs
  obtain ⟨hh, ho, hn, hlt⟩ := x.at I
  obtain ⟨xs, e⟩ := rv.ints.allInts.items
  have hn : numsOf (intItems xs).toList = ns := by rw [← e]; exact rv.ints.numsOf
  rw [nums_intItems] at hn
  have hl2 := hl.isList
  rw [e] at hl2
  refine call_sum_walkG (iter_intList hl2 fun s₂ e2 st hfp hlI => ?_)
  subst e2
  refine ⟨_, _, _, _, _, _, numAt xs, rfl, walks_listH (A := X.A.in1) hh _ b hlI (Nat.ne_of_lt hlt) (intItems xs), ⟨st.1, st.2, ho.at fun o e => Heap.get?_push_of_some _ e⟩, fun c hc => ?_, (fun _ _ => intItems_at), fun h' tk t' hk => ?_⟩
  · have hc : c = s.heap.objs.size ∨ c = b ∨ c = a := by simpa using hc
    rcases hc with z | z | z
    · exact hfp _ (by simp [z])
    · exact hfp _ (by simp [z])
    · rw [z]
      show a < (s.heap.push _).objs.size
      rw [Heap.size_push]
      exact Nat.lt_succ_of_lt hlt
  · have hk2 := old_kept hk
    have e3 : preSum (numAt xs) (intItems xs).size = ns.sum := by
      rw [preSum_eq, List.take_of_length_le (by simp [intItems]), hn]
    rw [e3]
    exact ⟨.int ns.sum, H, I.kept (t' := tk) hk2, ⟨_, rfl⟩, q⟩
theorem vals_bls : ∀ {bs : List Bool} {its : List Value}, Vals (bs.map V.bl) its → its = bs.map Value.bool
  | [], _, h => by cases h; rfl
  | k :: bs, _, h => by
    cases h with
    | cons a b =>
      cases a
      rw [vals_bls b]; rfl
theorem vals_01 : ∀ {bs : List Bool} {ts : List Value}, Paired (fun v u => ∃ k t, v = Value.bool k ∧ u = Value.int (if k = true then 1 else 0) t) (bs.map Value.bool) ts → Vals ((bs.map fun k => if k then (1 : Int) else 0).map V.int) ts
  | [], _, h => by cases h; exact .nil
  | k :: bs, _, h => by
    cases h with
    | cons e t =>
      obtain ⟨k', t', e1, e2⟩ := e
      cases e1
      subst e2
      exact .cons ⟨t', rfl⟩ (vals_01 t)
/-- [int(y) for y in x], x a list of truth values -/
theorem pe_lcH {i : Nat} {x y : Str} {px py : Pos} {scope : Scope} {q1 q2 q3 : Pos} (hx : HotX X a D) (hN : X.N[i]? = some x) (hv : Vis X.env.scope x) (hi : X.mg "int" = none)
    (hcell : ∀ z ∈ scope.names, z.2 ≠ .cell ∧ z.2 ≠ .free) (hkind : scope.kind = .function) (hnames : ∀ z ∈ scope.names, z.2 = .local → scope.names.lookup z.1 = some .local) (hy : scope.names.lookup y = some .local)
    (hint : (relabel scope X.env).names.lookup ("int" : Str) = some .globalImplicit)
    (hd : (x == ("__debug__" : Str)) = false := by decide) (hcd : (x == ("__classdict__" : Str)) = false := by decide) (hyd : (y == ("__debug__" : Str)) = false := by decide) :
    PE X (.ListComp (.Call (.Name "int" q1) [.Name y q2] [] q3) [⟨.Name y py, .Name x px, [], 0⟩] scope pos)
      (fun σ H Q => ∃ (b : Addr) (bs : List Bool), σ[i]? = some (some (.ref b)) ∧ SqL X.K H b (bs.map V.bl) ∧ bs.length ≤ sizeLine ∧ ∀ p, H p = none → Q (.ref p) (upd H p (.lst ((bs.map fun k => if k then (1 : Int) else 0).map V.int)))) := by
  refine ⟨fun pins s σ H Q I ⟨b, bs, hσ, hb, hz, q⟩ => ?_⟩
  obtain ⟨its, rv, hl, _⟩ := I.list hb
  obtain ⟨hh, ho, hn, hlt⟩ := hx.at I
  have nocl : closureFor scope X.env = pure (cloFrom X.env.cells scope.names []) := closure_ok fun z hz e => absurd e (hcell z hz).2
  refine wpAny_ListComp_free (fun _ => true) (fun v u => ∃ k t, v = Value.bool k ∧ u = Value.int (if k = true then 1 else 0) t) nocl (fun z hz => (hcell z hz).1) hkind hnames hy (thn ((pe_var hN hv hd hcd).run pins s σ H (fun v H1 => v = .ref b ∧ H1 = H) I ⟨_, hσ, rfl, rfl⟩) fun u s1 ⟨v, H1, I1, r1, e1, e2⟩ => ?_)
  subst e1; subst e2
  cases (show u = Value.ref b from r1)
  obtain ⟨its1, rv1, hl1, _⟩ := I1.list hb
  obtain ⟨_, ho1, hn1, hlt1⟩ := hx.at I1
  have hits : its1 = bs.map Value.bool := vals_bls rv1
  subst hits
  have hbl1 : b < s1.heap.objs.size := by obtain ⟨_, e, _⟩ := hl1.isList; exact Heap.lt_size e
  have bk : ∀ (h3 : Heap), (∀ c o, c ∉ [s1.heap.objs.size] → (s1.heap.push { cls := .type "list_iterator", data := .fields #[.ref b, .int 0 0] }).get? c = some o → h3.get? c = some o) → ∀ c o, s1.heap.get? c = some o → h3.get? c = some o := fun h3 hk c o e =>
    hk c o (fun hm => by
      have e2 : c = s1.heap.objs.size := by simpa using hm
      exact absurd (Heap.lt_size e) (by rw [e2]; exact Nat.lt_irrefl _)) (Heap.get?_push_of_some _ e)
  refine wpAny_pyIter_list hl1.isList ⟨s1.heap.objs.size, [s1.heap.objs.size, b, a], [s1.heap.objs.size], _, _, _, rfl, walks_listH hh _ b (Nat.ne_of_lt hbl1) (Nat.ne_of_lt hlt1) _, ?_, ⟨⟨_, Heap.get?_push_size _ rfl, rfl, rfl⟩, hl1.isList.push _, ho1.at fun o e => Heap.get?_push_of_some _ e⟩, fun c hc => ?_, ⟨fun C j v s3 m3 E' _ hP hn3 hm3 hk htk => wpAny_tests_nil ⟨rfl, _, _, rfl, fun _ _ z => z⟩, fun C j v s3 m3 E' _ hP _ hn3 hm3 hk htk => ?_⟩, fun p h' tk ys vs hp hls hpl hlen hP hF hk => ?_⟩
  · rw [List.size_toArray, List.length_map]; exact hz
  · have hc : c = s1.heap.objs.size ∨ c = b ∨ c = a := by simpa using hc
    show c < (s1.heap.push _).objs.size
    rw [Heap.size_push]
    rcases hc with z | z | z
    · rw [z]; exact Nat.lt_succ_self _
    · rw [z]; exact Nat.lt_succ_of_lt hbl1
    · rw [z]; exact Nat.lt_succ_of_lt hlt1
  · obtain ⟨k, rfl⟩ : ∃ k, v = Value.bool k := by
      have e : (bs.map Value.bool)[j]? = some v := by simpa using hP
      rw [List.getElem?_map] at e
      cases e2 : bs[j]? with
      | none => rw [e2] at e; cases e
      | some k => rw [e2] at e; exact ⟨k, (Option.some.inj e).symm⟩
    have bk3 : ∀ c o, X.base.get? c = some o → s3.heap.get? c = some o := fun c o e => bk s3.heap hk c o (I1.bk c o e)
    obtain ⟨mb, g1, g2⟩ := I1.mod.blt
    have kf : (compEnvC scope (cloFrom X.env.cells scope.names []) C X.env).scope.kind = .function := hkind
    have kl : (compEnvC scope (cloFrom X.env.cells scope.names []) C X.env).kindOf y = some .local := lookup_relabel_local hy
    have kg : (compEnvC scope (cloFrom X.env.cells scope.names []) C X.env).kindOf "int" = some .globalImplicit := hint
    refine Call_ (Calls.Name_function_global kf kg (Calls.loadGlobal_builtin (by show s3.heap.Ns X.env.globals _; rw [I1.ok.glob]; exact I1.mod.glob.keeps bk3) hi (by show s3.heap.Ns X.env.builtins _; rw [I1.ok.blt]; exact g1.keeps bk3) (g2 "int" (by decide)) (callWith_type1 (Calls.spliced_cons (wpAny_Name (wpAny_loadName_local kf kl hn3 hm3 (Calls.spliced_nil (call_int_bool ?_))) hyd)) rfl rfl)) (by decide))
    exact ⟨⟨k, _, rfl, rfl⟩, _, _, rfl, fun _ _ z => z⟩
  · have hp1 : s1.heap.get? p = none := by
      cases e : s1.heap.get? p with
      | none => rfl
      | some o => rw [Heap.get?_push_of_some _ e] at hp; cases hp
    have hHp := HOk.gone I1.hok hp1
    obtain ⟨n, hpn⟩ := hpl
    have hvs : vs = bs.map Value.bool := by
      have h1 : vs.length = (bs.map Value.bool).length := by rw [hlen, List.size_toArray]
      refine list_of_places (by simpa using h1) (fun j v e => by simpa using hP j v e)
    subst hvs
    have hys : ∃ ts : List Value, ys.toList = ts ∧ Vals ((bs.map fun k => if k then (1 : Int) else 0).map V.int) ts := ⟨_, rfl, by
      have hF' : Paired (fun v u => ∃ k t, v = Value.bool k ∧ u = Value.int (if k = true then 1 else 0) t) (bs.map Value.bool) ys.toList := by
        have : (bs.map Value.bool).filter (fun _ => true) = bs.map Value.bool := List.filter_eq_self.mpr fun _ _ => rfl
        rw [this] at hF; exact hF
      exact vals_01 hF'⟩
    obtain ⟨ts, e1, e2⟩ := hys
    refine ⟨.ref p, _, I1.laidN (t' := tk) (bk h' hk) hp1 hHp (o := .lst ((bs.map fun k => if k then (1 : Int) else 0).map V.int)) ⟨by rw [List.length_map, List.length_map]; exact hz, ts, n, e2, ?_⟩, rfl, q p hHp⟩
    rw [← e1, Array.toArray_toList]
    exact hpn
end
end OM
namespace OM
open PySem PySem.Spec PyProof.Rows L2 HotX L2H
/-! ### a def of the handled exception -/
/-- called with the handled exception, of the class cl: the answer is r -/
structure FnX (P : Program) (w : World) (K : PySem.W.Frag) (mg : Str → Option Value) (base : Heap) (k : Nat) (f : Addr) (fd : FuncData) (ps : List Str) (D : Addr) (r : Str) : Prop where
  len : ps.length = 1
  run : ∀ (A : Around) (outer : List Env) (s : Shared) (H : Hp) (args : Args) (us : List Value) (Q : VK) (E : XK) (p : Addr × Obj), RoomH k A → Hot1 A p → p.2.cls = .ref D → p.2.dict = none → PinOk outer H s p → Env0 P w K mg base A outer s H → BindsTo s fd args (ps.zip us) → Vals [.ref p.1] us →
    (∀ H', Same H H' → Q (.str r) H') → codeAny (model P w) A (.call (.ref f) args) (CR (L2N.CX P w) outer P w H s Q E) s
section
variable {P : Program} {w : World} {K : PySem.W.Frag} {mg : Str → Option Value} {base : Heap}
theorem fn_hot {x qual : Str} {st : Stmt} {f : Addr} {fd : FuncData} {N ps : List Str} {k : Nat} {D : Addr} {r : Str} (F : Fun K x qual st f fd) (S : FnScope N ps (defScope st)) (hl1 : ps.length = 1)
    (hb : ∀ (cd : Value) (A : Around) (outer : List Env) (s : Shared) (H : Hp) (E : XK) (p : Addr × Obj), HotX (cxH (L2N.CX P w) P w K mg base N qual (defScope st) f cd A outer s H E p) p.1 D →
      ∃ t, PSs (cxH (L2N.CX P w) P w K mg base N qual (defScope st) f cd A outer s H E p) (defBody st) t ∧ ∀ D1 σ H1, σ[0]? = some (some (.ref p.1)) → 1 < σ.length → (∀ H', Same H1 H' → D1.rt (.str r) H') → t D1 σ H1) (hN : 1 < N.length) :
    FnX P w K mg base (k + 1) f fd ps D r := by
  obtain ⟨oc, od, kV, doc, pm, an, cd, ct, osl, rfl, lk, hcd⟩ := F.ex
  refine ⟨hl1, fun A outer s H args us Q E p hr hot hcls hdict hpin e0 hbd r hsp => ?_⟩
  have KX : K.In s.heap := e0.mod.kin.keeps fun b o e => (e0.bs b o e).1
  have lim : s.heap.NoLimit := e0.mod.nolimit.keeps fun b o e => (e0.bs b o e).1
  have kinds : ∀ y ∈ ps.zip us, (defScope st).names.lookup y.1 = some .local ∨ ((defScope st).names.lookup y.1 = some .cell ∧ ((cellsFrom (s.heap.objs.size + 1) (defScope st).names []).lookup y.1).isSome = true) := fun ⟨n, v⟩ hy =>
    (S.par n (List.of_mem_zip hy).1).imp id fun z => ⟨z, PySem.W.cellsFrom_some _ _ _ (.inl z)⟩
  refine codeAny_call_function hr.depth (KX _ _ lk) rfl S.co S.gen rfl (PySem.W.codeRec_of KX hcd) (hbd _ _ _ _ ?_)
  refine wpAny_newFunctionEnv_cells S.kind kinds fun env he s1 ic => ?_
  subst he
  refine ⟨lim.keeps ic.toInCall.keep, codeAny_func ?_⟩
  have I := inv_startH (CX := L2N.CX P w) (E := E) S hpin e0 (by rw [hl1]; rfl) r ic
  obtain ⟨t, ht, hq⟩ := hb cd A outer s H E p ⟨p.2, hot, List.mem_cons_self, hcls, hdict⟩
  have go := hq { nx := fun _ H' => Q .non H', rt := Q, bk := fun _ _ => False, ct := fun _ _ => False } (L2.start N [.ref p.1]) H rfl (by
    unfold L2.start
    simp only [List.length_append, List.length_map, List.length_replicate, List.length_cons, List.length_nil]; omega) hsp
  refine wpAny_mono (ht.run [] s1 _ H _ I go) (fun fl s' hs => ?_) fun e s' hs => hs
  have fin : ∀ {σ' : L2.St} {H' : Hp} {v : V} {uu : Value}, Inv (cxH (L2N.CX P w) P w K mg base N qual (defScope st) f cd A outer s H E p) [] σ' H' s' → RelV v uu → Q v H' → CE outer P w H s Q uu s' :=
    fun {σ' H' v uu} J rv hq => ⟨v, H', J.os, J.bare, J.base, J.hok, rv, hq⟩
  cases fl with
  | ret uu => obtain ⟨v, σ', H', J, rv, hq⟩ := hs; exact fin J rv hq
  | next => obtain ⟨σ', H', J, hq⟩ := hs; exact fin (v := .non) (uu := Value.none) J rfl hq
  | brk => obtain ⟨_, _, _, hq⟩ := hs; exact hq.elim
  | cont => obtain ⟨_, _, _, hq⟩ := hs; exact hq.elim
end
section
variable {X : Cx} {a D : Addr} {bs : List Bool} {p pos : Pos} {e : Expr} {es : List Expr}
/-! ### the body of such a def -/
def tIsE (i : Nat) (a : Addr) (b : Bool) : TE := fun σ H Q => σ[i]? = some (some (.ref a)) ∧ Q (.bl b) H
def tIsEs (i : Nat) (a : Addr) (bs : List Bool) : TA := fun σ H Q => σ[i]? = some (some (.ref a)) ∧ Q (bs.map V.bl) H
theorem cr_isX (x : HotX X a D) (C : ExcC X.K D) : CallR X (.builtin "isinstance") (rIsE X.K D a) := by
  intro pins s σ H xs us Q I r h
  obtain ⟨c, cv, b, rfl, hcv, e, q⟩ := h
  obtain ⟨oe, ⟨h1, vs, ed, c2⟩, hm, hcl, hdi⟩ := x
  cases r with
  | cons rx rr =>
    cases rr with
    | cons rt rr =>
      cases rr
      cases rx
      have ec := hcv _ rt
      subst ec
      obtain ⟨hget, _⟩ := I.pin (a, oe) (List.mem_append_left _ hm)
      have J : PySem.W.InstAt s.heap a oe D none := by
        obtain ⟨oc, od, oda, osl⟩ := oe
        dsimp only at hcl hdi ed
        subst hcl hdi ed
        exact ⟨hget, rfl, rfl, trivial⟩
      exact PySem.W.kia_one (PySem.W.handS_kitx_exc C.hg C.hk C.hs C.hd C.ha C.hn C.ht C.hm) I.kIn J e (fun z => nomatch z) fun tk => ⟨.bl b, H, I.kept (t' := tk) fun _ _ z => z, rfl, q⟩
theorem pe_isX {i : Nat} {y c : Str} {p2 p3 : Pos} {cv : Value} {v : V} {b : Bool} (x : HotX X a D) (C : ExcC X.K D) (hi : X.N[i]? = some y) (hv : Vis X.env.scope y) (hg0 : Gl X "isinstance") (hm0 : X.mg "isinstance" = none) (ha : PE X (.Name c p3) (tC v)) (hr : ∀ u, RelV v u → u = cv) (hk : PySem.W.kitOne X.K (.ref D) cv = some b)
    (hd : (y == ("__debug__" : Str)) = false := by decide) (hcd : (y == ("__classdict__" : Str)) = false := by decide) : PE X (.Call (.Name "isinstance" p) [.Name y p2, .Name c p3] [] pos) (tIsE i a b) :=
  PE.wk (pe_callB (cr_isX x C) hg0 hm0 (by decide +kernel) (pa_cons (pe_var hi hv hd hcd) (pa_cons ha pa_nil))) fun σ H Q ⟨h1, h2⟩ => ⟨_, h1, _, _, _, rfl, hr, hk, h2⟩
theorem pa_isNil {i : Nat} : PA X [] (tIsEs i a []) := PA.wk pa_nil fun σ H Q h => h.2
theorem pa_isCons {i : Nat} {b : Bool} (h : PE X e (tIsE i a b)) (hr : PA X es (tIsEs i a bs)) (hs : starEach (e :: es) X.env = (false, eval e X.env) :: starEach es X.env := by rfl) : PA X (e :: es) (tIsEs i a (b :: bs)) :=
  PA.wk (pa_cons h hr hs) fun σ H Q ⟨h1, h2⟩ => ⟨h1, h1, h2⟩
def tH1 (a : Addr) (bs : List Bool) : TS := fun D σ H => σ[0]? = some (some (.ref a)) ∧ ∀ l, H l = none → D.nx (σ.set 1 (some (.ref l))) (upd H l (.lst (bs.map V.bl)))
def tH2 (bs : List Bool) : TS := fun D σ H => ∃ l, σ[1]? = some (some (.ref l)) ∧ H l = some (.lst (bs.map V.bl)) ∧ ∀ p, H p = none → D.nx σ (upd H p (.lst ((bs.map fun k => if k then (1 : Int) else 0).map V.int)))
def tH3 (bs : List Bool) (r : Str) : TS := fun D σ H => ∃ l, σ[1]? = some (some (.ref l)) ∧ H l = some (.lst (bs.map V.bl)) ∧ ∀ H', Same H H' → D.rt (.str r) H'
theorem ps_h1 {y : Str} {pos' q : Pos} (hN : X.N.Nodup) (hi : X.N[1]? = some y) (hx : Loc X.env.scope y) (hz : bs.length ≤ sizeLine) (ha : PA X es (tIsEs 0 a bs)) (hs : swapsWith (.List es q) (some (.Name y pos')) pos.line X.env = pure false := by rfl) (hf : X.fn y = true ∨ X.env.scope.names.lookup y = some .local := by first | exact .inl rfl | exact .inr rfl | assumption) :
    PS X (.Assign [.Name y pos'] (.List es q) pos) (tH1 a bs) :=
  PS.wk (ps_set hN hi hx (pe_lst ha) hs hf) fun D σ H ⟨h1, h2⟩ => ⟨h1, by rw [List.length_map]; exact hz, fun l hl => h2 l hl⟩
theorem ps_h2 {y z : Str} {m : Str} {scope : Scope} {py px pn q1 q2 q3 q4 q5 q6 q7 q8 q9 : Pos} {j1 j2 : Nat} (hx : HotX X a D) (hN : X.N[1]? = some y) (hv : Vis X.env.scope y) (hi : X.mg "int" = none) (hsum : X.mg "sum" = none) (hgs : Gl X "sum") (hz : bs.length ≤ sizeLine) (h1 : (bs.map fun k => if k then (1 : Int) else 0).sum = 1)
    (hcell : ∀ z ∈ scope.names, z.2 ≠ .cell ∧ z.2 ≠ .free) (hkind : scope.kind = .function) (hnames : ∀ z ∈ scope.names, z.2 = .local → scope.names.lookup z.1 = some .local) (hy : scope.names.lookup z = some .local)
    (hint : (relabel scope X.env).names.lookup ("int" : Str) = some .globalImplicit)
    (hd : (y == ("__debug__" : Str)) = false := by decide) (hcd : (y == ("__classdict__" : Str)) = false := by decide) (hyd : (z == ("__debug__" : Str)) = false := by decide) :
    PS X (.If (.Compare (.Call (.Name "sum" q5) [.ListComp (.Call (.Name "int" q1) [.Name z q2] [] q3) [⟨.Name z py, .Name y px, [], 0⟩] scope q4] [] q6) [.NotEq] [.Constant (.int 1) j1 q7] q8) [.Return (some (.Constant (.str m) j2 pn)) q9] [] pos) (tH2 bs) := by
  refine PS.wk (ps_if (pt_cmp (pc_neI (pe_callB (cr_sumH hx) hgs hsum (by decide +kernel) (pa_cons (pe_lcH (q1 := q1) hx hN hv hi hcell hkind hnames hy hint hd hcd hyd) pa_nil)) pe_int)) (pss_one (ps_ret pe_str)) pss_nil) fun D1 σ H ⟨l, e1, e2, e3⟩ => ?_
  refine ⟨l, bs, e1, SqL.of e2, hz, fun p hp => ⟨p, _, rfl, SqL.of upd_same, 1, 1, by rw [h1], rfl, false, rfl, ?_⟩⟩
  exact e3 p hp
theorem ps_h3 {y : Str} {r : Str} {q1 q2 q3 q4 q5 q6 : Pos} {j : Nat} {ws : List Str} {k : Nat} (hN : X.N[1]? = some y) (hv : Vis X.env.scope y) (hw : PA X es fun σ H Q => Q (ws.map V.str) H) (hz : ws.length ≤ sizeLine) (hk : bs[k]? = some true) (hk0 : ∀ m, m < k → bs[m]? = some false) (hr : ws[k]? = some r)
    (hlate : (q2.endLine == q4.line) = true := by rfl) (hs : PlainIx (.Call (.Attribute (.Name y q1) "index" q2) [.Constant (.bool true) j q3] [] q4) := by intro _ _; rfl) (hd : (y == ("__debug__" : Str)) = false := by decide) (hcd : (y == ("__classdict__" : Str)) = false := by decide) :
    PS X (.Return (some (.Subscript (.List es q5) (.Call (.Attribute (.Name y q1) "index" q2) [.Constant (.bool true) j q3] [] q4) q6)) pos) (tH3 bs r) := by
  refine PS.wk (ps_ret (pe_ix ix_list (pe_lst hw) (pe_bm PySem.F.plainAttrs_list PySem.F.slot_list_index PySem.F.type_list_index mt_index (pe_var hN hv hd hcd) (pa_cons pe_bl pa_nil) (hline := hlate)) hs)) fun D1 σ H ⟨l, e1, e2, e3⟩ => ?_
  refine ⟨by rw [List.length_map]; exact hz, fun p hp => ⟨.ref l, e1, .inl ⟨rfl, _, SqL.of (by rw [upd_ne (ne_of_none e2 hp)]; exact e2)⟩, l, bs.map V.bl, .bl true, k, .bl true, rfl, rfl, SqL.of (by rw [upd_ne (ne_of_none e2 hp)]; exact e2), rfl, ?_, ?_, rfl, fun m z' hm hz' => ?_, p, _, k, .str r, rfl, rfl, SqL.of upd_same, ?_, e3 _ fun b o z => by rw [upd_ne (ne_of_none z hp)]; exact z⟩⟩
  · exact List.all_eq_true.mpr fun v hv => by obtain ⟨b, _, rfl⟩ := List.mem_map.mp hv; rfl
  · rw [List.getElem?_map, hk]; rfl
  · rw [List.getElem?_map, hk0 m hm] at hz'; cases hz'; rfl
  · exact atI_nat (by rw [List.getElem?_map, hr]; rfl)
/-- the three together -/
theorem hot_all {s1 s2 s3 : Stmt} {r : Str} (h1 : PS X s1 (tH1 a bs)) (h2 : PS X s2 (tH2 bs)) (h3 : PS X s3 (tH3 bs r)) : PSs X [s1, s2, s3] (fun D σ H => σ[0]? = some (some (.ref a)) ∧ 1 < σ.length ∧ ∀ H', Same H H' → D.rt (.str r) H') := by
  refine ⟨fun pins s σ H D I ⟨e1, e2, e3⟩ => (pss_cons h1 (pss_cons h2 (pss_one h3))).run pins s σ H D I ⟨e1, fun l hl => ⟨l, ?_, upd_same, fun p hp => ⟨l, ?_, ?_, fun H' sm => e3 H' fun b o z => sm b o ?_⟩⟩⟩⟩
  · rw [List.getElem?_set_self e2]
  · rw [List.getElem?_set_self e2]
  · have : l ≠ p := fun z => by rw [z, upd_same] at hp; cases hp
    rw [upd_ne this, upd_same]
  · have n1 : b ≠ l := ne_of_none z hl
    have n2 : b ≠ p := fun y => by subst y; rw [upd_ne n1, z] at hp; cases hp
    rw [upd_ne n2, upd_ne n1]; exact z
end
/-! ### the call of it -/
/-- the def behind the name x tells the handled exception's class -/
structure CalleeX (P : Program) (w : World) (K : PySem.W.Frag) (mg : Str → Option Value) (base : Heap) (T : Tab) (k : Nat) (x : Str) (ws : Nat → Option Str) : Prop where
  ex : ∀ c r, ws c = some r → ∃ (f : Addr) (fd : FuncData) (ps : List Str), FnX P w K mg base k f fd ps (T.cls c) r ∧ mg x = some (.ref f) ∧ PySem.W.keepIn K (.ref f) = true ∧ Binds K fd ps []
section
variable {X : Cx} {T : Tab} {W : WX} {p p2 pos : Pos} {x y : Str} {k i : Nat} {ws : Nat → Option Str} {a D : Addr}
theorem pe_callX {c : Nat} {r : Str} (C : CalleeX X.prog X.w X.K X.mg X.base T k x ws) (hw : ws c = some r) (hx : HotX X a (T.cls c)) (hr : RoomH k X.A) (hi : X.N[i]? = some y) (hv : Vis X.env.scope y) (hg : Gl X x) (hdb : (x == ("__debug__" : Str)) = false := by decide)
    (hd : (y == ("__debug__" : Str)) = false := by decide) (hcd : (y == ("__classdict__" : Str)) = false := by decide) :
    PE X (.Call (.Name x p) [.Name y p2] [] pos) (fun σ H Q => σ[i]? = some (some (.ref a)) ∧ ∀ H', Same H H' → Q (.str r) H') := by
  obtain ⟨f, fd, ps, F, hm, hk, hb⟩ := C.ex c r hw
  refine ⟨fun pins s σ H Q I ⟨h1, h2⟩ => ?_⟩
  refine wpAny_Call_Name_kw (ld_glob I hg hm ?_ hdb)
  refine PySem.W.callWith_K (h₀ := X.base) I.ok.mod.kin hk (thn ((pa_cons (pe_var hi hv hd hcd) pa_nil).run pos pins s σ H (fun vs H1 => vs = [.ref a] ∧ H1 = H) I ⟨_, h1, rfl, rfl⟩) fun us s1 ⟨vs, H1, I1, rv, e1, e2⟩ => ⟨I1.kIn, ?_⟩) (by rfl) (by rfl)
  subst e1
  subst e2
  obtain ⟨oe, hot, hm2, hcl, hdi⟩ := hx
  have hl : us.length = ps.length := by rw [← rv.length, F.len]; rfl
  have b := hb s1 us I1.kIn (by rw [List.append_nil]; exact hl)
  rw [List.append_nil] at b
  have P1 := I1.pin (a, oe) (List.mem_append_left _ hm2)
  have hpin : PinOk X.stack H1 s1 (a, oe) := ⟨P1.1, P1.2.1, fun hm => (List.mem_cons.mp (I1.stkSub a hm)).elim P1.2.2.1 P1.2.2.2.1, P1.2.2.2.2⟩
  refine wpAny_call (codeAny_mono (F.run X.A X.stack s1 H1 ⟨us, []⟩ us Q (fun _ _ _ => False) (a, oe) hr hot hcl hdi hpin I1.env0 b rv h2) fun r s' hq => ?_)
  cases r with
  | error e =>
    obtain ⟨_, _, _, _, _, _, _, _, _, _, _, _, z⟩ := hq
    exact False.elim z
  | ok fl =>
    cases fl with
    | ret u => exact I1.after hq
    | next => exact False.elim hq
    | brk => exact False.elim hq
    | cont => exact False.elim hq
/-! ### try -/
def tsX (T : Tab) (ws : Nat → Option Str) (i : Nat) (a : Addr) (cls : Value) (d : Option Addr) : TS := fun N σ H => σ[i]? = some (some (.ref a)) ∧ ∃ c r, ws c = some r ∧ cls = .ref (T.cls c) ∧ d = none ∧ ∀ H', Same H H' → N.rt (.str r) H'
theorem hotX_suite {oe : Obj} {pn : List (Addr × Obj)} (hz : L2N.Zn (.ref D) none oe) (hf : ∃ vs, oe.data = .fields vs) : HotX (X.suite a ((a, oe) :: pn)) a D := by
  obtain ⟨vs, e⟩ := hf
  exact ⟨oe, ⟨rfl, vs, e, hz.2.2 vs e⟩, List.mem_cons_self, hz.1, hz.2.1⟩
/-- return f(e) -/
theorem su_ret {oe : Obj} {pos1 : Pos} {pn : List (Addr × Obj)} {cls : Value} {d : Option Addr} (C : CalleeX X.prog X.w X.K X.mg X.base T k x ws) (hr : Room k X.A) (hi : X.N[i]? = some y) (hv : Vis X.env.scope y) (hg : Gl X x) (hz : L2N.Zn cls d oe) (hf : ∃ vs, oe.data = .fields vs) (hdb : (x == ("__debug__" : Str)) = false := by decide)
    (hd : (y == ("__debug__" : Str)) = false := by decide) (hcd : (y == ("__classdict__" : Str)) = false := by decide) :
    PS (X.suite a ((a, oe) :: pn)) (.Return (some (.Call (.Name x p) [.Name y p2] [] pos)) pos1) (tsX T ws i a cls d) := by
  refine ⟨fun pins s σ H N I ⟨h1, c, r, hw, e1, e2, h2⟩ => ?_⟩
  subst e1
  subst e2
  exact (ps_ret (pe_callX (X := X.suite a ((a, oe) :: pn)) (T := T) C hw (hotX_suite (X := X) hz hf) ⟨hr.dp, hr.un⟩ hi hv hg hdb hd hcd)).run pins s σ H N I ⟨h1, h2⟩
/-- if not isinstance(e, ValueError): return 'odd' -/
theorem su_isnt {oe : Obj} {pn : List (Addr × Obj)} {cls : Value} {d : Option Addr} {m : Str} {j : Nat} {q1 q2 q3 q4 q5 q6 q7 : Pos} {s2 : Stmt} (hv2 : ∀ c r, ws c = some r → ExcC X.K (T.cls c) ∧ PySem.W.kitOne X.K (.ref (T.cls c)) (.type "ValueError") = some true) (hi : X.N[i]? = some y) (hv : Vis X.env.scope y)
    (hg0 : Gl X "isinstance") (hm0 : X.mg "isinstance" = none) (hg1 : Gl X "ValueError") (hm1 : X.mg "ValueError" = none) (hz : L2N.Zn cls d oe) (hf : ∃ vs, oe.data = .fields vs) (h2 : PS (X.suite a ((a, oe) :: pn)) s2 (tsX T ws i a cls d)) (hd : (y == ("__debug__" : Str)) = false := by decide) (hcd : (y == ("__classdict__" : Str)) = false := by decide) :
    PSs (X.suite a ((a, oe) :: pn)) [.If (.UnaryOp .Not (.Call (.Name "isinstance" q1) [.Name y q2, .Name "ValueError" q3] [] q4) q5) [.Return (some (.Constant (.str m) j q6)) q7] [] pos, s2] (tsX T ws i a cls d) := by
  refine ⟨fun pins s σ H N I ⟨h1, c, r, hw, e1, e2, h3⟩ => ?_⟩
  subst e1
  subst e2
  obtain ⟨C, hk⟩ := hv2 c r hw
  refine (pss_cons (ps_if (pt_not (pt_val (pe_isX (X := X.suite a ((a, oe) :: pn)) (i := i) (v := .ty "ValueError") (cv := .type "ValueError") (hotX_suite (X := X) hz hf) C hi hv hg0 hm0 (pe_bltn hg1 hm1 (by decide +kernel) rfl) (fun u z => z) hk hd hcd))) (pss_one (ps_ret pe_str)) pss_nil) (pss_one h2)).run pins s σ H N I ⟨h1, true, rfl, ?_⟩
  exact ⟨h1, c, r, hw, rfl, rfl, h3⟩
def sTry (ws : Nat → Option Str) (i : Nat) (u : Sv) : Sv := fun ρ st => match u ρ st with
  | .ex e r st1 => match ws e.c, e.arg with
    | some x, none => if i < r.length then .rt (.str x) st1 else .stuck
    | _, _ => .stuck
  | o => o
theorem d1_try {cM : Str} {C : Value} {body suite : List Stmt} {b₀ : Stmt} {np pos' : Pos} {u : Sv} (hs : X.stack = X.env :: X.outer) (hf : X.env.frame = some X.env.locals) (hN : X.N.Nodup) (hi : X.N[i]? = some y) (hln : X.env.kindOf y = some .local) (hc : Names X cM C) (tk : L2N.Takes X W)
    (hM : ∀ c r, ws c = some r → PySem.W.exmOne X.K (.ref (T.cls c)) C = some true ∧ r.length ≤ sizeLine)
    (hb : ∀ (W : WX) (pn : List (Addr × Obj)) (xe : Value → Shared → Prop), L2N.Takes (X.tr pn xe) W → PassesOwn (model X.prog X.w) X.A X.env xe → DSs (X.tr pn xe) T W body u)
    (hsu : ∀ (a : Addr) (oe : Obj) (cls : Value) (d : Option Addr) (pn : List (Addr × Obj)), L2N.Zn cls d oe → (∃ vs, oe.data = .fields vs) → PSs (X.suite a ((a, oe) :: pn)) (b₀ :: suite) (tsX T ws i a cls d)) :
    DS X T W (.Try body [.ExceptHandler (some (.Name cM np)) (some y) (b₀ :: suite) pos'] [] [] pos) (sTry ws i u) := by
  refine PS.wk (L2N.ps_try_as (tb := fun W' => tS X.K T W' u) hs hf hN hi hln hc tk (fun W' pn xe t p => hb W' pn xe t p) hsu) fun N σ H ⟨F, M, ρ, st, S, h⟩ => ⟨F, M, ρ, st, S, ?_⟩
  unfold sTry at h
  cases eu : u ρ st with
  | nx r1 st1 => rw [eu] at h; exact h
  | rt d st1 => rw [eu] at h; exact h
  | bk r1 st1 => rw [eu] at h; exact h
  | ct r1 st1 => rw [eu] at h; exact h
  | stuck => rw [eu] at h; exact h
  | ex e r1 st1 =>
    rw [eu] at h
    cases ew : ws e.c with
    | none => simp only [ew] at h; exact False.elim h
    | some x1 =>
      cases ea : e.arg with
      | some z => simp only [ew, ea] at h; exact False.elim h
      | none =>
        simp only [ew, ea] at h
        by_cases hl : i < r1.length
        · rw [if_pos hl] at h
          intro σ' F' H' M' S' f' g'
          unfold XW
          simp only [ea]
          obtain ⟨hM1, hM2⟩ := hM _ _ ew
          refine ⟨true, hM1, fun _ a hna => ⟨by rw [List.getElem?_set_self (by rw [S'.len]; exact hl)], e.c, x1, ew, rfl, rfl, fun H2 sm => ?_⟩, fun z => nomatch z⟩
          refine h (.str x1) F' H2 M' ⟨fun b o z => sm b o (S'.ss.sub b o z), fun n ob q => ?_, S'.ss.dom, S'.ss.inj⟩ ⟨f'.fs, f'.ms, fun b o z1 z2 z3 => sm b o (f'.keep b o z1 z2 z3), fun b z => ?_, f'.nf, f'.nm⟩ (.str x1 hM2)
          · obtain ⟨b, q1, q2, q3⟩ := S'.ss.obs n ob q
            exact ⟨b, q1, q2, q3.mono (fun _ _ z => z) (fun _ _ z => z) fun u z => sm _ _ z⟩
          · have := f'.there b z
            cases q : H' b with
            | none => exact absurd q this
            | some o => rw [sm b o q]; simp
        · rw [if_neg hl] at h; exact False.elim h
end
end OM
namespace OM
open PySem PySem.Spec PyProof.Rows L2
/-! ### the law's own call -/
theorem caller_guards : callerA.guards = some [] := rfl
/-- a heap in which nothing but the script may be tracked, and the module's own part -/
structure Sta (P : Program) (w : World) (K : PySem.W.Frag) (s : Shared) (a : Addr) (ob : Obj) (ns : List Int) (H : Hp) : Prop where
  only : ∀ b u, H b = some u → b = a ∧ u = .frz ob (.lst (ns.map V.int))
  seq : SqL K H a (ns.map V.int)
  hok : HOk P w H s.heap
  out : H a ≠ none → K.lookup a = none
theorem sta_of {P : Program} {w : World} {K : PySem.W.Frag} {s : Shared} {a : Addr} {vs : List Value} {ns : List Int} (KX : K.In s.heap) (ha : s.heap.get? a = some { cls := .type "list", data := .seq vs.toArray }) (hi : IntsAre vs ns) (hl : ns.length ≤ sizeLine) :
    ∃ H, Sta P w K s a { cls := .type "list", data := .seq vs.toArray } ns H := by
  have rv := vals_ints hi
  have lenV := hi.length
  by_cases hk : K.lookup a = none
  · have yes : (if a = a then some (HO.frz { cls := .type "list", data := .seq vs.toArray } (.lst (ns.map V.int))) else none) = some (HO.frz { cls := .type "list", data := .seq vs.toArray } (.lst (ns.map V.int))) := if_pos rfl
    have at_ : ∀ b u, (if b = a then some (HO.frz { cls := .type "list", data := .seq vs.toArray } (.lst (ns.map V.int))) else none) = some u → b = a ∧ u = HO.frz { cls := .type "list", data := .seq vs.toArray } (.lst (ns.map V.int)) := fun b u z => by
      by_cases hb : b = a
      · rw [if_pos hb] at z; exact ⟨hb, (Option.some.inj z).symm⟩
      · rw [if_neg hb] at z; cases z
    refine ⟨fun b => if b = a then some (.frz { cls := .type "list", data := .seq vs.toArray } (.lst (ns.map V.int))) else none, at_, .inl (.inr ⟨_, yes⟩), fun b u z => ?_, fun _ => hk⟩
    obtain ⟨rfl, rfl⟩ := at_ b u z
    exact ⟨ha, by rw [List.length_map]; exact hl, vs, _, rv, ha⟩
  · cases hk2 : K.lookup a with
    | none => exact absurd hk2 hk
    | some o =>
      have e := KX a o hk2
      rw [ha] at e
      cases e
      exact ⟨fun _ => none, fun b u z => (by cases z), .inr ⟨_, vs.toArray, _, hk2, rfl, rfl, rfl, by rw [List.size_toArray, lenV]; exact hl, by simpa using rv⟩, fun b u z => (by cases z), fun z => absurd rfl z⟩
theorem om_call {P : Program} {w : World} {K : PySem.W.Frag} {T : Tab} {mg mb : Str → Option Value} {k : Nat} {fa a : Addr} {fd : FuncData} {x : Str} {φ : Fv} {s₁ : Shared} {vs : List Value} {ns : List Int}
    (KX : K.In s₁.heap) (hns : s₁.heap.Ns mainGlobals mg) (hb : s₁.heap.Ns builtinsNs mb) (hbb : ∀ x : Str, x ≠ "__name__" → mb x = bootBuiltins x) (hlim : s₁.heap.NoLimit) (hg : s₁.gens = #[])
    (ha : s₁.heap.get? a = some { cls := .type "list", data := .seq vs.toArray }) (hi : IntsAre vs ns) (hl : ns.length ≤ sizeLine) (hr : Room k callerA)
    (F : ∀ base : Heap, K.In base → base.Ns mainGlobals mg → Fn P w K mg base k fa fd [x] (spF K T 1 φ)) (hbind : ∀ (s : Shared) (u : Value), BindsTo s fd ⟨[u], []⟩ [(x, u)])
    (hφ : ∃ st, φ [.scr ns] [] = .ok (.bl true) st) :
    codeAny (model P w) callerA (.call (.ref fa) ⟨[.ref a], []⟩) (fun r s' => r = .ok (.ret (.bool true)) ∧ OldK s₁.heap s'.heap ∧ s'.os = s₁.os ∧ AllBare s'.gens) s₁ := by
  obtain ⟨H, S⟩ := sta_of (P := P) (w := w) KX ha hi hl
  have kept : ∀ {b : Addr} {o : Obj}, s₁.heap.get? b = some o → (b = a → H a = none) → (hidT s₁.heap H).get? b = some o := fun {b o} e n => hidT_get e (by
    cases q : H b with
    | none => rfl
    | some u =>
      have z := (S.only b u q).1
      have := n z
      rw [← z, q] at this; cases this)
  have nsK : ∀ {b : Addr} {m : Str → Option Value}, s₁.heap.Ns b m → (hidT s₁.heap H).Ns b m := fun {b m} ⟨o, es, ep, e, d, r⟩ => ⟨o, es, ep, kept e (fun z => by
    subst z
    rw [ha] at e; cases e
    cases (show Data.seq vs.toArray _ = Data.dict es ep from d)), d, r⟩
  have hKb : K.In (hidT s₁.heap H) := fun b o e => kept (KX b o e) fun z => by
    subst z
    cases q : H b with
    | none => rfl
    | some u => rw [S.out (by rw [q]; simp)] at e; cases e
  have hM : Mod K mg (hidT s₁.heap H) := ⟨hKb, nsK hns, ⟨mb, nsK hb, hbb⟩, let ⟨mc, h1, h2⟩ := hlim; ⟨mc, nsK h1, h2⟩⟩
  have e0 : Env0 P w K mg (hidT s₁.heap H) callerA [] s₁ H := ⟨rfl, hM, fun b o e => of_hidT e, Nat.le_of_eq (hidT_size _ _), trivial, fun b hb => absurd (show b ∈ ([] : List Addr) from hb) (by simp), S.hok, .of_eq hg⟩
  obtain ⟨st1, hφ⟩ := hφ
  have goal : spF K T 1 φ [.ref a] H (fun v _ => v = .bl true) fun _ _ _ => False := by
    refine ⟨rfl, H, fun _ => none, [], [.scr ns], ⟨fun _ _ z => z, fun n o z => (by simp at z), fun n b z => (by cases z), fun n m b z => (by cases z)⟩, .cons (.scr S.seq hl) .nil, ?_⟩
    unfold wF
    rw [hφ]
    exact fun v F' H' M' _ _ r => by cases r; rfl
  refine codeAny_mono ((F _ hKb (nsK hns)).run callerA [] s₁ H ⟨[.ref a], []⟩ [.ref a] [.ref a] _ _ caller_guards hr e0 (hbind s₁ (.ref a)) (.cons rfl .nil) goal) fun r s' h => ?_
  cases r with
  | error e =>
    obtain ⟨_, _, _, _, _, _, _, _, _, _, _, _, z⟩ := h
    exact False.elim z
  | ok fl =>
    cases fl with
    | next => exact False.elim h
    | brk => exact False.elim h
    | cont => exact False.elim h
    | ret u =>
      obtain ⟨v, H', os, bare, un, hok', r', q⟩ := h
      have q' : v = .bl true := q
      subst q'
      obtain rfl : u = Value.bool true := r'
      refine ⟨rfl, OldK.of_keep fun b o e => ?_, os, bare⟩
      cases q : H b with
      | none => exact un.keep b o e q (by intro z; exact absurd (show b ∈ ([] : List Addr) from z) (by simp)) (by simp)
      | some u =>
        have z := (S.only b u q).2
        subst z
        have z2 := un.frzs b _ _ q
        obtain ⟨e1, _⟩ := S.hok b _ q
        obtain ⟨e2, _⟩ := hok' b _ z2
        rw [e] at e1; cases e1
        exact e2
/-- THE HEAD -/
theorem om_walk {l : PySem.W.OpenLaw} {n k : Nat} {q : Program} {loose : List Str} {XP : (Str → Option Value) → Heap → Prop} {YP : World → Heap → Prop} {d : DefRec} {K : Params → PySem.W.Frag} {x : Str}
    (hn : l.most = some n) (hn2 : n ≤ sizeLine) (hdf : d.params.defaults = []) (hr : Room k callerA) (hY : ∀ (w : World) (h : Heap), YP w h → (K w.params).In h)
    (F : ∀ (w : World) (mg : Str → Option Value) (fa : Addr) (h : Heap), (K w.params).In h → h.Ns mainGlobals mg → mg d.name = some (.ref fa) →
      ∃ (T : Tab) (fd : FuncData) (φ : Fv), (∀ (s : Shared) (u : Value), BindsTo s fd ⟨[u], []⟩ [(x, u)]) ∧ (∀ ns : List Int, ns.length ≤ n → ∃ st, φ [.scr ns] [] = .ok (.bl true) st) ∧
        ∀ base : Heap, (K w.params).In base → base.Ns mainGlobals mg → Fn l.prog w (K w.params) mg base k fa fd [x] (spF (K w.params) T 1 φ)) :
    PySem.W.WalkO q loose XP YP l.row.toRowW d [] (fun f vs => PySem.call f vs) := by
  refine Att.attach_call hn hdf fun w s₀ s₁ mg mb fa o pm cd doc a vs ns G Y ho hd hcd hmg hobj hints hlen hg => ?_
  have KX := hY w _ Y
  obtain ⟨T, fd, φ, hb, hφ, hF⟩ := F w mg fa _ KX G.T.g hmg
  exact om_call KX G.T.g G.T.b G.T.builtins G.T.nolimit hg hobj hints (Nat.le_trans hlen hn2) hr hF hb (hφ ns hlen)
end OM
namespace OM
open PySem PySem.Spec PyProof.Rows L2 L2H
/-! ### the text's own facts -/
/-- a def of the text -/
structure Tx (K : PySem.W.Frag) (mg : Str → Option Value) (x : Str) (st : Stmt) (ps : List Str) : Prop where
  ex : ∃ (f : Addr) (fd : FuncData), Fun K x x st f fd ∧ mg x = some (.ref f) ∧ Binds K fd ps []
/-- the words for the classes of errors -/
def wordsE (c : Nat) : Option Str := match c with
  | 1 => some "refused"
  | 2 => some "large"
  | 3 => some "missing"
  | 4 => some "paper"
  | _ => none
def wsE : List Str := ["refused", "large", "missing", "paper", "form"]
def bsE (c : Nat) : List Bool := [c == 1, c == 2, c == 3, c == 4, c == 5]
theorem bsE_len {c : Nat} : (bsE c).length ≤ sizeLine := by show 5 ≤ sizeLine; rw [sizeLine_eq]; omega
theorem wordsE_ok {c : Nat} {r : Str} (h : wordsE c = some r) : ((bsE c).map fun k => if k then (1 : Int) else 0).sum = 1 ∧ (bsE c)[c - 1]? = some true ∧ (∀ m, m < c - 1 → (bsE c)[m]? = some false) ∧ wsE[c - 1]? = some r ∧ r.length ≤ sizeLine ∧ (c = 1 ∨ c = 2 ∨ c = 3 ∨ c = 4) := by
  match c, h with
  | 1, h => cases h; exact ⟨by decide, rfl, fun m hm => absurd hm (by omega), rfl, by decide +kernel, .inl rfl⟩
  | 2, h => cases h; exact ⟨by decide, rfl, fun m hm => (match m, hm with | 0, _ => rfl), rfl, by decide +kernel, .inr (.inl rfl)⟩
  | 3, h => cases h; exact ⟨by decide, rfl, fun m hm => (match m, hm with | 0, _ => rfl | 1, _ => rfl), rfl, by decide +kernel, .inr (.inr (.inl rfl))⟩
  | 4, h => cases h; exact ⟨by decide, rfl, fun m hm => (match m, hm with | 0, _ => rfl | 1, _ => rfl | 2, _ => rfl), rfl, by decide +kernel, .inr (.inr (.inr rfl))⟩
/-- the plain def that tells the class of an error -/
def dErr : Fv := fun ds st => match ds with
  | [.int c] => match wordsE c.toNat with
    | some r => .ok (.str r) st
    | none => .stuck
  | _ => .stuck
def wsOf (φ : Fv) (c : Nat) : Option Str := match φ [.int c] [] with
  | .ok (.str r) _ => some r
  | _ => none
theorem wsOf_err : wsOf dErr = wordsE := by
  funext c
  unfold wsOf dErr
  simp only [Int.toNat_natCast]
  cases wordsE c <;> rfl
theorem wsOf_stuck : wsOf (fun _ _ => .stuck) = fun _ => none := rfl
/-- what the class c must say -/
structure XF (K : PySem.W.Frag) (T : Tab) (c : Nat) : Prop where
  cc : ExcC K (T.cls c)
  m : PySem.W.exmOne K (.ref (T.cls c)) (.ref (T.cls 0)) = some true
  v : PySem.W.kitOne K (.ref (T.cls c)) (.type "ValueError") = some true
  k1 : PySem.W.kitOne K (.ref (T.cls c)) (.ref (T.cls 1)) = some (c == 1)
  k2 : PySem.W.kitOne K (.ref (T.cls c)) (.ref (T.cls 2)) = some (c == 2)
  k3 : PySem.W.kitOne K (.ref (T.cls c)) (.ref (T.cls 3)) = some (c == 3)
  k4 : PySem.W.kitOne K (.ref (T.cls c)) (.ref (T.cls 4)) = some (c == 4)
  k5 : PySem.W.kitOne K (.ref (T.cls c)) (.ref (T.cls 5)) = some (c == 5)
structure XFs (K : PySem.W.Frag) (mg : Str → Option Value) (T : Tab) : Prop where
  x1 : XF K T 1
  x2 : XF K T 2
  x3 : XF K T 3
  x4 : XF K T 4
  g5 : mg "BadForm" = some (.ref (T.cls 5))
theorem XFs.at {K : PySem.W.Frag} {mg : Str → Option Value} {T : Tab} (X : XFs K mg T) {c : Nat} {r : Str} (h : wordsE c = some r) : XF K T c := by
  rcases (wordsE_ok h).2.2.2.2.2 with rfl | rfl | rfl | rfl
  · exact X.x1
  · exact X.x2
  · exact X.x3
  · exact X.x4
section
variable {P : Program} {w : World} {K : PySem.W.Frag} {mg : Str → Option Value} {base : Heap} {T : Tab} {x : Str} {st : Stmt} {ps N : List Str} {k n : Nat}
theorem cal_none (X : Tx K mg x st ps) (hn : ps.length = n) : Callee P w K mg base T k x n fun _ _ => .stuck := by
  obtain ⟨f, fd, F, g, b⟩ := X.ex
  subst hn
  exact ⟨f, fd, ps, rfl, fn_none, g, F.kp, b⟩
theorem cal_step {u : Sv} (X : Tx K mg x st ps) (hn : ps.length = n) (S : FnScope N ps (defScope st))
    (hb : ∀ (f : Addr) (cd : Value) (A : Around) (outer : List Env) (s : Shared) (H : Hp) (E : XK), A.guards = some [] → Room k (A.deeper (envOfC x (defScope st) s.heap.objs.size f cd)) → DSs (bodyX P w K mg base N x st f cd A outer s H E) T (WB E) (defBody st) u) :
    Callee P w K mg base T (k + 1) x n (runB N.length u) := by
  obtain ⟨f, fd, F, g, b⟩ := X.ex
  subst hn
  exact ⟨f, fd, ps, rfl, fn_body F S (hb f), g, F.kp, b⟩
theorem calx_none : CalleeX P w K mg base T k x (wsOf fun _ _ => .stuck) := ⟨fun c r h => nomatch h⟩
theorem calx_step (X : Tx K mg x st ps) (hl : ps.length = 1) (S : FnScope N ps (defScope st)) (hN : 1 < N.length)
    (hb : ∀ (c : Nat) (r : Str), wordsE c = some r → ∀ (f : Addr) (cd : Value) (A : Around) (outer : List Env) (s : Shared) (H : Hp) (E : XK) (p : Addr × Obj), HotX (cxH (L2N.CX P w) P w K mg base N x (defScope st) f cd A outer s H E p) p.1 (T.cls c) →
      PSs (cxH (L2N.CX P w) P w K mg base N x (defScope st) f cd A outer s H E p) (defBody st) (fun D σ H => σ[0]? = some (some (.ref p.1)) ∧ 1 < σ.length ∧ ∀ H', Same H H' → D.rt (.str r) H')) :
    CalleeX P w K mg base T (k + 1) x (wsOf dErr) := by
  refine ⟨fun c r h => ?_⟩
  rw [wsOf_err] at h
  obtain ⟨f, fd, F, g, b⟩ := X.ex
  exact ⟨f, fd, ps, fn_hot F S hl (fun cd A outer s H E p hx => ⟨_, hb c r h f cd A outer s H E p hx, fun D1 σ H1 h1 h2 h3 => ⟨h1, h2, h3⟩⟩) hN, g, F.kp, b⟩
theorem told_none : ∀ c r, wsOf (fun _ _ => .stuck) c = some r → PySem.W.exmOne K (.ref (T.cls c)) (.ref (T.cls 0)) = some true ∧ r.length ≤ sizeLine := fun c r h => nomatch h
theorem told_step (X : XFs K mg T) : ∀ c r, wsOf dErr c = some r → PySem.W.exmOne K (.ref (T.cls c)) (.ref (T.cls 0)) = some true ∧ r.length ≤ sizeLine := fun c r h => by
  rw [wsOf_err] at h
  exact ⟨(X.at h).m, (wordsE_ok h).2.2.2.2.1⟩
theorem isv_none : ∀ c r, wsOf (fun _ _ => .stuck) c = some r → ExcC K (T.cls c) ∧ PySem.W.kitOne K (.ref (T.cls c)) (.type "ValueError") = some true := fun c r h => nomatch h
theorem isv_step (X : XFs K mg T) : ∀ c r, wsOf dErr c = some r → ExcC K (T.cls c) ∧ PySem.W.kitOne K (.ref (T.cls c)) (.type "ValueError") = some true := fun c r h => by
  rw [wsOf_err] at h
  exact ⟨(X.at h).cc, (X.at h).v⟩
theorem tx_mk {h : Heap} {f : Addr} {fd : FuncData} (X : K.In h) (G : h.Ns mainGlobals mg) (a : PySem.W.nsIn K mainGlobals x = some (some (.ref f))) (F : Fun K x x st f fd) (b : Fun K x x st f fd → Binds K fd ps []) : Tx K mg x st ps := ⟨f, fd, F, PySem.W.mg_of X G a, b F⟩
end
end OM
namespace OM
open PySem PySem.Spec PyProof.Rows L2
def tabE (C0 C1 C2 C3 C4 C5 C6 : Addr) : Tab := ⟨fun i => match i with | 0 => C0 | 1 => C1 | 2 => C2 | 3 => C3 | 4 => C4 | 5 => C5 | _ => C6, fun i => if i = 5 then "line" else "number"⟩
/-- an error class of the text, as the written part says it -/
structure ErrK (K : PySem.W.Frag) (x : Str) (C : Addr) : Prop where
  a : PySem.W.nsIn K mainGlobals x = some (some (.ref C))
  xC : PySem.W.excIn K C [.type "ValueError", .type "Exception", .type "BaseException", .type "object"] "ValueError.__new__" = true
  kC : PySem.W.keepIn K (.ref C) = true
  bC : PySem.W.subIn K (.ref C) (.type "BaseException") = some true
  tC : PySem.W.typeIn K (.ref C) = some (.type "type")
theorem ErrK.err {K : PySem.W.Frag} {mg : Str → Option Value} {h : Heap} {x : Str} {C : Addr} (X : K.In h) (G : h.Ns mainGlobals mg) (e : ErrK K x C) : Err K mg C x := ⟨PySem.W.mg_of X G e.a, e.xC, e.kC, e.bC, e.tC⟩
/-- .. and of an instance that is asked for its class -/
structure AskK (K : PySem.W.Frag) (D C0 C1 C2 C3 C4 C5 : Addr) (c : Nat) : Prop where
  hg : PySem.W.findIn K (.ref D) "__getattribute__" = some (some (.builtin "BaseException.__getattribute__"))
  hk : PySem.W.findIn K (.ref D) "__getattr__" = some none
  hd : PySem.W.hasDictIn K D = true
  ha : PySem.W.findIn K (.ref D) "__class__" = some (some (.builtin "object.__class__"))
  hm : PySem.W.mroIn K D (.type "object") = some true
  s0 : PySem.W.subIn K (.ref D) (.ref C0) = some true
  v : PySem.W.kitOne K (.ref D) (.type "ValueError") = some true
  k1 : PySem.W.kitOne K (.ref D) (.ref C1) = some (c == 1)
  k2 : PySem.W.kitOne K (.ref D) (.ref C2) = some (c == 2)
  k3 : PySem.W.kitOne K (.ref D) (.ref C3) = some (c == 3)
  k4 : PySem.W.kitOne K (.ref D) (.ref C4) = some (c == 4)
  k5 : PySem.W.kitOne K (.ref D) (.ref C5) = some (c == 5)
structure AskG (K : PySem.W.Frag) (C0 : Addr) : Prop where
  hn : PySem.W.specialIn K (.builtin "object.__class__") "__get__" = some (some (.builtin "getset_descriptor.__get__"))
  ht : PySem.W.takesIn K (.builtin "object.__class__") = some true
  h0 : PySem.W.hasDictIn K C0 = true
theorem XFs.mk' {K : PySem.W.Frag} {mg : Str → Option Value} {h : Heap} {C0 C1 C2 C3 C4 C5 C6 : Addr} (X : K.In h) (G : h.Ns mainGlobals mg) (g : AskG K C0) (e0 : ErrK K "MindError" C0) (e1 : ErrK K "NotAllowed" C1) (e2 : ErrK K "TooLarge" C2) (e3 : ErrK K "Missing" C3) (e4 : ErrK K "BadPaper" C4)
    (g5 : PySem.W.nsIn K mainGlobals "BadForm" = some (some (.ref C5))) (a1 : AskK K C1 C0 C1 C2 C3 C4 C5 1) (a2 : AskK K C2 C0 C1 C2 C3 C4 C5 2) (a3 : AskK K C3 C0 C1 C2 C3 C4 C5 3) (a4 : AskK K C4 C0 C1 C2 C3 C4 C5 4) : XFs K mg (tabE C0 C1 C2 C3 C4 C5 C6) := by
  have mk : ∀ (D : Addr) (c : Nat) (x : Str), (tabE C0 C1 C2 C3 C4 C5 C6).cls c = D → ErrK K x D → AskK K D C0 C1 C2 C3 C4 C5 c → XF K (tabE C0 C1 C2 C3 C4 C5 C6) c := fun D c x hD e a => by
    refine { cc := ?_, m := ?_, v := ?_, k1 := ?_, k2 := ?_, k3 := ?_, k4 := ?_, k5 := ?_ } <;> rw [hD]
    · exact ⟨a.hg, a.hk, e.bC, a.hd, a.ha, g.hn, g.ht, a.hm⟩
    · exact PySem.W.exm_ref e0.bC g.h0 e0.tC a.s0
    · exact a.v
    · exact a.k1
    · exact a.k2
    · exact a.k3
    · exact a.k4
    · exact a.k5
  exact ⟨mk C1 1 _ rfl e1 a1, mk C2 2 _ rfl e2 a2, mk C3 3 _ rfl e3 a3, mk C4 4 _ rfl e4 a4, PySem.W.mg_of X G g5⟩
end OM
namespace OM
open PySem PySem.Spec PyProof.Rows L2
/-! ### running plain code towards a wish -/
def wE {α : Type} (r : R α) (Q : α → Stor → Prop) (X : Ex → Stor → Prop) : Prop := match r with
  | .ok a st => Q a st
  | .exn e st => X e st
  | .stuck => False
structure Wi where
  nx : En → Stor → Prop := fun _ _ => False
  rt : D → Stor → Prop := fun _ _ => False
  bk : En → Stor → Prop := fun _ _ => False
  ct : En → Stor → Prop := fun _ _ => False
  ex : Ex → En → Stor → Prop := fun _ _ _ => False
def wO (o : O) (N : Wi) : Prop := match o with
  | .nx r st => N.nx r st
  | .rt d st => N.rt d st
  | .bk r st => N.bk r st
  | .ct r st => N.ct r st
  | .ex e r st => N.ex e r st
  | .stuck => False
def Wi.seq (N : Wi) (v : Sv) : Wi := { N with nx := fun r st1 => wO (v r st1) N }
def wP {α : Type} (o : Option α) (P : α → Prop) : Prop := match o with
  | some a => P a
  | none => False
section
variable {α β : Type} {Q : α → Stor → Prop} {X : Ex → Stor → Prop} {N : Wi} {ρ : En} {st : Stor} {f g : Ev} {t t' : Tv} {u v : Sv} {fs gs : Av} {i j n c : Nat} {d : D}
theorem wE_ok {a : α} : wE (.ok a st) Q X = Q a st := rfl
theorem wE_exn {e : Ex} : wE (α := α) (.exn e st) Q X = X e st := rfl
theorem wE_stuck : wE (α := α) .stuck Q X = False := rfl
theorem wE_bind {r : R β} {k : β → Stor → R α} : wE (r.bind k) Q X = wE r (fun b st1 => wE (k b st1) Q X) X := by cases r <;> rfl
theorem wE_of {o : Option α} : wE (R.of o st) Q X = wP o fun a => Q a st := by cases o <;> rfl
theorem wE_ite {b : Bool} {r : R α} : wE (if b = true then r else .stuck) Q X = (b = true ∧ wE r Q X) := by cases b <;> simp [wE]
theorem wE_iteB {b : Prop} [Decidable b] {r s : R α} : wE (if b then r else s) Q X = if b then wE r Q X else wE s Q X := by split <;> rfl
theorem wP_some {a : α} {P : α → Prop} : wP (some a) P = P a := rfl
theorem wP_none {P : α → Prop} : wP none P = False := rfl
theorem wP_ite {b : Bool} {o : Option α} {P : α → Prop} : wP (if b = true then o else none) P = (b = true ∧ wP o P) := by cases b <;> simp [wP]
theorem wP_map {o : Option β} {k : β → α} {P : α → Prop} : wP (o.map k) P = wP o fun b => P (k b) := by cases o <;> rfl
theorem wP_bind {o : Option β} {k : β → Option α} {P : α → Prop} : wP (o.bind k) P = wP o fun b => wP (k b) P := by cases o <;> rfl
theorem wE_imp {r : R α} {Q' : α → Stor → Prop} (h : wE r Q X) (k : ∀ a st, Q a st → Q' a st) : wE r Q' X := by cases r with
  | ok a st => exact k a st h
  | exn e st => exact h
  | stuck => exact h
theorem wE_eq {r : R α} {a : α} (h : wE r (fun b st' => b = a ∧ st' = st) fun _ _ => False) : r = .ok a st := by cases r with
  | ok b st' => obtain ⟨rfl, rfl⟩ := h; rfl
  | exn e st => exact h.elim
  | stuck => exact h.elim
theorem wE_exeq {r : R α} {e : Ex} (h : wE r (fun _ _ => False) fun e' st' => e' = e ∧ st' = st) : r = .exn e st := by cases r with
  | ok b st' => exact h.elim
  | exn e st => obtain ⟨rfl, rfl⟩ := h; rfl
  | stuck => exact h.elim
theorem wE_ex {r : R α} {Q : α → Stor → Prop} (h : wE r Q fun _ _ => False) : ∃ a st, r = .ok a st ∧ Q a st := by cases r with
  | ok b st' => exact ⟨b, st', rfl, h⟩
  | exn e st => exact h.elim
  | stuck => exact h.elim
theorem wO_out {r : R α} {k : α → Stor → O} : wO (r.out ρ k) N = wE r (fun a st1 => wO (k a st1) N) fun e st1 => N.ex e ρ st1 := by cases r <;> rfl
theorem wO_nx : wO (.nx ρ st) N = N.nx ρ st := rfl
theorem wO_rt : wO (.rt d st) N = N.rt d st := rfl
theorem wO_bk : wO (.bk ρ st) N = N.bk ρ st := rfl
theorem wO_ct : wO (.ct ρ st) N = N.ct ρ st := rfl
theorem wO_ex {e : Ex} : wO (.ex e ρ st) N = N.ex e ρ st := rfl
theorem wO_stuck : wO .stuck N = False := rfl
theorem wO_iteB {b : Prop} [Decidable b] {o p : O} : wO (if b then o else p) N = if b then wO o N else wO p N := by split <;> rfl
theorem wO_ite {b : Bool} {o : O} : wO (if b = true then o else .stuck) N = (b = true ∧ wO o N) := by cases b <;> simp [wO]
theorem wO_seq : wO (sSeq u v ρ st) N = wO (u ρ st) (N.seq v) := by
  unfold sSeq
  cases u ρ st <;> rfl
theorem seq_nx : (N.seq v).nx ρ st = wO (v ρ st) N := rfl
theorem seq_rt : (N.seq v).rt = N.rt := rfl
theorem seq_bk : (N.seq v).bk = N.bk := rfl
theorem seq_ct : (N.seq v).ct = N.ct := rfl
theorem seq_ex : (N.seq v).ex = N.ex := rfl
theorem wO_imp {o : O} {N' : Wi} (h : wO o N) (k1 : ∀ r st, N.nx r st → N'.nx r st) (k2 : ∀ d st, N.rt d st → N'.rt d st) (k3 : ∀ r st, N.bk r st → N'.bk r st) (k4 : ∀ r st, N.ct r st → N'.ct r st) (k5 : ∀ e r st, N.ex e r st → N'.ex e r st) : wO o N' := by
  cases o with
  | nx r st => exact k1 r st h
  | rt r st => exact k2 r st h
  | bk r st => exact k3 r st h
  | ct r st => exact k4 r st h
  | ex e r st => exact k5 e r st h
  | stuck => exact h
theorem sNo_at : sNo ρ st = .nx ρ st := rfl
theorem sBk_at : sBk ρ st = .bk ρ st := rfl
theorem sCt_at : sCt ρ st = .ct ρ st := rfl
theorem sEx_at : sEx f ρ st = (f ρ st).out ρ fun _ st1 => .nx ρ st1 := rfl
theorem sRt_at : sRt f ρ st = (f ρ st).out ρ fun d st1 => .rt d st1 := rfl
theorem sIf_at : sIf t u v ρ st = (t ρ st).out ρ fun k st1 => if k = true then u ρ st1 else v ρ st1 := rfl
theorem sSet_at : sSet i f ρ st = (f ρ st).out ρ fun d st1 => .nx (ρ.set i (.vl d)) st1 := rfl
theorem sOwn_at : sOwn i fs ρ st = (fs ρ st).out ρ fun ds st1 => .nx (ρ.set i (.ow ds)) st1 := rfl
theorem sAug_at {k : Int → Int → Int} : sAug i k f ρ st = match ρ[i]? with
  | some (.vl (.int m)) => (f ρ st).out ρ fun d st1 => match d with
    | .int n => .nx (ρ.set i (.vl (.int (k m n)))) st1
    | _ => .stuck
  | _ => .stuck := rfl
theorem sApp_at : sApp i f ρ st = match ρ[i]? with
  | some (.ow ds) => (f ρ st).out ρ fun d st1 => if lenOk (ds.length + 1) then .nx (ρ.set i (.ow (ds ++ [d]))) st1 else .stuck
  | _ => .stuck := rfl
theorem sPut_at : sPut i f g ρ st = (f ρ st).out ρ fun d st1 => match ρ[i]? with
  | some (.ow ds) => (g ρ st1).out ρ fun k st2 => match k with
    | .int k => match ixN ds.length k with
      | some j => .nx (ρ.set i (.ow (ds.set j d))) st2
      | none => .stuck
    | _ => .stuck
  | some (.vl (.ref n)) => (g ρ st1).out ρ fun k st2 => match k, st2[n]? with
    | .int k, some (.lst ds) => match ixN ds.length k with
      | some j => .nx ρ (st2.set n (.lst (ds.set j d)))
      | none => .stuck
    | _, _ => .stuck
  | _ => .stuck := rfl
theorem sExt_at : sExt i f ρ st = match ρ[i]? with
  | some (.ow ds) => (f ρ st).out ρ fun d st1 => match d with
    | .lst es => if lenOk (ds.length + es.length) then .nx (ρ.set i (.ow (ds ++ es))) st1 else .stuck
    | _ => .stuck
  | _ => .stuck := rfl
theorem sAsg_at {k : Gv} : sAsg k f ρ st = (f ρ st).out ρ fun d st1 => match k d ρ with
  | some r => .nx r st1
  | none => .stuck := rfl
theorem sPar_at : sPar i j fs ρ st = (fs ρ st).out ρ fun ds st1 => match ds with
  | [d, e] => .nx ((ρ.set i (.vl d)).set j (.vl e)) st1
  | _ => .stuck := rfl
theorem sFz_at : sFz i u ρ st = u (fz i ρ) st := rfl
theorem fz_at : fz i ρ = match ρ[i]? with
  | some (.ow ds) => ρ.set i (.vl (.lst ds))
  | _ => ρ := rfl
theorem sRs_at : sRs c ρ st = .ex ⟨c, none⟩ ρ st := rfl
theorem sRef_at : sRef i fs ρ st = (fs ρ st).out ρ fun ds st1 => .nx (ρ.set i (.vl (.ref st1.length))) (st1 ++ [.lst ds]) := rfl
theorem eK_at : eK d ρ st = .ok d st := rfl
theorem eVar_at : eVar i ρ st = match ρ[i]? with
  | some (.vl d) => .ok d st
  | _ => .stuck := rfl
theorem eVarB_at : eVarB i ρ st = match ρ[i]? with
  | some (.vl d) => .ok d st
  | some (.ow ds) => .ok (.lst ds) st
  | _ => .stuck := rfl
theorem eBin_at {o : D → D → Option D} : eBin o f g ρ st = (f ρ st).bind fun x st1 => (g ρ st1).bind fun y st2 => R.of (o x y) st2 := rfl
theorem eUn_at {o : D → Option D} : eUn o f ρ st = (f ρ st).bind fun x st1 => R.of (o x) st1 := rfl
theorem eCh_at {o o' : D → D → Option D} {h : Ev} : eCh o o' f g h ρ st = (f ρ st).bind fun x st1 => (g ρ st1).bind fun y st2 => match o x y with
  | some (.bl true) => (h ρ st2).bind fun z st3 => R.of (o' y z) st3
  | some (.bl false) => .ok (.bl false) st2
  | _ => .stuck := rfl
theorem eNo_at : eNo f ρ st = (f ρ st).bind fun d st1 => R.of ((dTru d).map fun k => .bl (!k)) st1 := rfl
theorem eAn_at : eAn f g ρ st = (f ρ st).bind fun d st1 => match d with
  | .bl true => g ρ st1
  | .bl false => .ok (.bl false) st1
  | _ => .stuck := rfl
theorem eOu_at : eOu f g ρ st = (f ρ st).bind fun d st1 => match d with
  | .bl true => .ok (.bl true) st1
  | .bl false => g ρ st1
  | _ => .stuck := rfl
theorem eIf_at : eIf t f g ρ st = (t ρ st).bind fun k st1 => if k = true then f ρ st1 else g ρ st1 := rfl
theorem tBl_at : tBl f ρ st = (f ρ st).bind fun d st1 => match d with
  | .bl k => .ok k st1
  | _ => .stuck := rfl
theorem tTru_at : tTru f ρ st = (f ρ st).bind fun d st1 => R.of (dTru d) st1 := rfl
theorem tNo_at : tNo t ρ st = (t ρ st).bind fun k st1 => .ok (!k) st1 := rfl
theorem tAn_at : tAn t t' ρ st = (t ρ st).bind fun k st1 => if k = true then t' ρ st1 else .ok false st1 := rfl
theorem tOu_at : tOu t t' ρ st = (t ρ st).bind fun k st1 => if k = true then .ok true st1 else t' ρ st1 := rfl
theorem tYe_at : tYe ρ st = .ok true st := rfl
theorem aNil_at : aNil ρ st = .ok [] st := rfl
theorem aCons_at : aCons f fs ρ st = (f ρ st).bind fun d st1 => (fs ρ st1).bind fun ds st2 => .ok (d :: ds) st2 := rfl
theorem eTup_at : eTup fs ρ st = (fs ρ st).bind fun ds st1 => if lenOk ds.length then .ok (.tup ds) st1 else .stuck := rfl
theorem eLst_at : eLst fs ρ st = (fs ρ st).bind fun ds st1 => if lenOk ds.length then .ok (.lst ds) st1 else .stuck := rfl
theorem aLst_at : aLst fs ρ st = (fs ρ st).bind fun ds st1 => if lenOk ds.length then .ok ds st1 else .stuck := rfl
theorem eIx_at : eIx f g ρ st = (f ρ st).bind fun x st1 => (g ρ st1).bind fun y st2 => R.of (dIx st2 x y) st2 := rfl
theorem pNo_at : pNo ρ st = .ok none st := rfl
theorem pSo_at : pSo f ρ st = (f ρ st).bind fun d st1 => match d with
  | .int i => .ok (some i) st1
  | _ => .stuck := rfl
theorem eSl_at {l h : Pv} : eSl f l h ρ st = (f ρ st).bind fun x st1 => (l ρ st1).bind fun i st2 => (h ρ st2).bind fun j st3 => R.of (dSl x i j) st3 := rfl
theorem eCall_at {φ : Fv} : eCall n φ fs ρ st = (fs ρ st).bind fun ds st1 => if ds.length = n then φ ds st1 else .stuck := rfl
theorem aLc_at {vs : List Nat} {k : Gv} : aLc fs vs k t f ρ st = (fs ρ st).bind fun ds st1 => lcL k t f ds (wipeE ρ vs) st1 := rfl
theorem eLc_at {vs : List Nat} {k : Gv} : eLc fs vs k t f ρ st = (aLc fs vs k t f ρ st).bind fun xs st1 => .ok (.lst xs) st1 := rfl
theorem wipe_nil : wipeE ρ [] = ρ := rfl
theorem wipe_cons {vs : List Nat} : wipeE ρ (i :: vs) = (wipeE ρ vs).set i .un := rfl
theorem iSeq_at : iSeq f ρ st = (f ρ st).bind fun d st1 => match d with
  | .lst ds => .ok ds st1
  | .tup ds => .ok ds st1
  | _ => .stuck := rfl
theorem iRg1_at : iRg1 f ρ st = (f ρ st).bind fun d st1 => match d with
  | .int n => if rgOk 0 n then .ok (rgD 0 n) st1 else .stuck
  | _ => .stuck := rfl
theorem iRg2_at : iRg2 f g ρ st = (f ρ st).bind fun d st1 => (g ρ st1).bind fun e st2 => match d, e with
  | .int m, .int n => if rgOk m n then .ok (rgD m n) st2 else .stuck
  | _, _ => .stuck := rfl
theorem eLRg_at : eLRg f ρ st = (iRg1 f ρ st).bind fun ds st1 => .ok (.lst ds) st1 := rfl
theorem eTRg_at : eTRg f ρ st = (iRg1 f ρ st).bind fun ds st1 => .ok (.tup ds) st1 := rfl
theorem iEnu_at : iEnu f ρ st = (f ρ st).bind fun d st1 => match seqD d with
  | some ds => .ok (enumD ds) st1
  | none => .stuck := rfl
theorem aOfL_at : aOfL f ρ st = (f ρ st).bind fun d st1 => match d with
  | .lst ds => .ok ds st1
  | .tup ds => .ok ds st1
  | _ => .stuck := rfl
theorem gNm_at : gNm i d ρ = some (ρ.set i (.vl d)) := rfl
theorem gsNo_nil : gsNo [] ρ = some ρ := rfl
theorem gsCo_cons {k : Gv} {h : Gs} {ds : List D} : gsCo k h (d :: ds) ρ = (k d ρ).bind fun r => h ds r := rfl
theorem gTp_tup {h : Gs} {ds : List D} : gTp n h (.tup ds) ρ = if ds.length = n then h ds ρ else none := rfl
theorem sFor_at {k : Gv} : sFor fs k u ρ st = (fs ρ st).out ρ fun ds st1 => forL k u ds ρ st1 := rfl
theorem wP_iteP {b : Prop} [Decidable b] {o : Option α} {P : α → Prop} : wP (if b then o else none) P = (b ∧ wP o P) := by by_cases h : b <;> simp [wP, h]
theorem wE_iteP {b : Prop} [Decidable b] {r : R α} : wE (if b then r else .stuck) Q X = (b ∧ wE r Q X) := by by_cases h : b <;> simp [wE, h]
theorem sTry_at {ws : Nat → Option Str} : sTry ws i u ρ st = match u ρ st with
  | .ex e r st1 => match ws e.c, e.arg with
    | some x, none => if i < r.length then .rt (.str x) st1 else .stuck
    | _, _ => .stuck
  | o => o := rfl
theorem wO_try {ws : Nat → Option Str} (h : wO (u ρ st) { N with ex := fun e r st1 => e.arg = none ∧ i < r.length ∧ ∃ x, ws e.c = some x ∧ N.rt (.str x) st1 }) : wO (sTry ws i u ρ st) N := by
  unfold sTry
  cases eu : u ρ st with
  | ex e r st1 =>
    rw [eu] at h
    obtain ⟨h1, h2, x, h3, h4⟩ := h
    simp only [h3, h1, h2, if_true]
    exact h4
  | _ => rw [eu] at h; exact h
/-- a def's body -/
theorem wE_run {m : Nat} {ds : List D} {Q : D → Stor → Prop} : wE (runB m u ds st) Q X = wO (u (ds.map .vl ++ List.replicate (m - ds.length) .un) st) { nx := fun _ st1 => Q .non st1, rt := Q, ex := fun e _ st1 => X e st1 } := by
  unfold runB
  cases u (ds.map .vl ++ List.replicate (m - ds.length) .un) st <;> rfl
/-- a loop: I i holds ahead of the i-th item -/
theorem wO_forL {g : Gv} (I : Nat → En → Stor → Prop) : ∀ (ds : List D) (i : Nat) (ρ : En) (st : Stor), I i ρ st → (∀ ρ st, I (i + ds.length) ρ st → N.nx ρ st) →
    (∀ j d ρ st, ds[j]? = some d → I (i + j) ρ st → wP (g d ρ) fun r => wO (u r st) { N with nx := I (i + j + 1), ct := I (i + j + 1), bk := N.nx }) → wO (forL g u ds ρ st) N
  | [], i, ρ, st, h0, h1, _ => h1 ρ st h0
  | d :: ds, i, ρ, st, h0, h1, h2 => by
    unfold forL
    have h := h2 0 d ρ st rfl h0
    cases eg : g d ρ with
    | none => rw [eg] at h; exact h
    | some r =>
      rw [eg] at h
      have h : wO (u r st) { N with nx := I (i + 0 + 1), ct := I (i + 0 + 1), bk := N.nx } := h
      have again : ∀ ρ' st', I (i + 0 + 1) ρ' st' → wO (forL g u ds ρ' st') N := fun ρ' st' h' => by
        refine wO_forL I ds (i + 1) ρ' st' h' (fun ρ st hh => h1 ρ st ?_) fun j d ρ st e hh => ?_
        · rw [List.length_cons, Nat.add_comm ds.length 1, ← Nat.add_assoc]; exact hh
        · have := h2 (j + 1) d ρ st (by simpa using e) (by rw [← Nat.add_assoc, Nat.add_right_comm]; exact hh)
          rw [← Nat.add_assoc, Nat.add_right_comm i j 1] at this
          exact this
      dsimp only
      cases eu : u r st with
      | nx r1 st1 => rw [eu] at h; exact again r1 st1 h
      | ct r1 st1 => rw [eu] at h; exact again r1 st1 h
      | bk r1 st1 => rw [eu] at h; exact h
      | rt d1 st1 => rw [eu] at h; exact h
      | ex e1 r1 st1 => rw [eu] at h; exact h
      | stuck => rw [eu] at h; exact h
/-- while: I holds ahead of each turn, m goes down -/
theorem wO_whl (I : Nat → En → Stor → Prop) (b : Nat) : ∀ (F m : Nat) (ρ : En) (st : Stor), m < F → I m ρ st →
    (∀ m ρ st, I m ρ st → wE (t ρ st) (fun k st1 => if k = true then wO (u ρ st1) { N with nx := fun r st2 => ∃ m', m' < m ∧ I m' r st2, ct := fun r st2 => ∃ m', m' < m ∧ I m' r st2, bk := N.nx } else N.nx ρ st1) fun e st1 => N.ex e ρ st1) → wO (whl t u F ρ st) N
  | 0, m, ρ, st, hl, _, _ => absurd hl (Nat.not_lt_zero m)
  | F + 1, m, ρ, st, hl, h0, h1 => by
    unfold whl
    have h := h1 m ρ st h0
    cases et : t ρ st with
    | ok k st1 =>
      rw [et] at h
      cases k with
      | false => exact h
      | true =>
        have h : wO (u ρ st1) { N with nx := fun r st2 => ∃ m', m' < m ∧ I m' r st2, ct := fun r st2 => ∃ m', m' < m ∧ I m' r st2, bk := N.nx } := h
        have again : ∀ ρ' st', (∃ m', m' < m ∧ I m' ρ' st') → wO (whl t u F ρ' st') N := fun ρ' st' ⟨m', hm, h'⟩ => wO_whl I b F m' ρ' st' (by omega) h' h1
        dsimp only
        cases eu : u ρ st1 with
        | nx r1 st2 => rw [eu] at h; exact again r1 st2 h
        | ct r1 st2 => rw [eu] at h; exact again r1 st2 h
        | bk r1 st2 => rw [eu] at h; exact h
        | rt d1 st2 => rw [eu] at h; exact h
        | ex e1 r1 st2 => rw [eu] at h; exact h
        | stuck => rw [eu] at h; exact h
    | exn e st1 => rw [et] at h; exact h
    | stuck => rw [et] at h; exact h
/-- a comprehension's items: I i holds ahead of the i-th, with what was made so far -/
theorem wE_lcL {g : Gv} {Q : List D → Stor → Prop} (I : Nat → List D → Stor → Prop) : ∀ (ds : List D) (i : Nat) (acc : List D) (st : Stor) (ρ : En), I i acc st → (∀ acc' st, I (i + ds.length) (acc ++ acc') st → Q acc' st) →
    (∀ j d acc st, ds[j]? = some d → I (i + j) acc st → wP (g d ρ) fun r => wE (t r st) (fun k st1 => if k = true then wE (f r st1) (fun x st2 => I (i + j + 1) (acc ++ [x]) st2) (fun _ _ => False) else I (i + j + 1) acc st1) fun _ _ => False) →
    wE (lcL g t f ds ρ st) Q X
  | [], i, acc, st, ρ, h0, h1, _ => h1 [] st (by rw [List.append_nil]; exact h0)
  | d :: ds, i, acc, st, ρ, h0, h1, h2 => by
    unfold lcL
    have h := h2 0 d acc st rfl h0
    cases eg : g d ρ with
    | none => rw [eg] at h; exact h.elim
    | some r =>
      rw [eg] at h
      have h : wE (t r st) (fun k st1 => if k = true then wE (f r st1) (fun x st2 => I (i + 0 + 1) (acc ++ [x]) st2) (fun _ _ => False) else I (i + 0 + 1) acc st1) fun _ _ => False := h
      have h2' : ∀ j d acc st, ds[j]? = some d → I (i + 1 + j) acc st → wP (g d ρ) fun r => wE (t r st) (fun k st1 => if k = true then wE (f r st1) (fun x st2 => I (i + 1 + j + 1) (acc ++ [x]) st2) (fun _ _ => False) else I (i + 1 + j + 1) acc st1) fun _ _ => False := fun j d acc st e hh => by
        have := h2 (j + 1) d acc st (by simpa using e) (by rw [← Nat.add_assoc, Nat.add_right_comm]; exact hh)
        rw [← Nat.add_assoc, Nat.add_right_comm i j 1] at this
        exact this
      have el : ∀ n : Nat, i + (ds.length + 1) = i + 1 + ds.length := fun n => by omega
      dsimp only
      cases et : t r st with
      | exn e st1 => rw [et] at h; exact h.elim
      | stuck => rw [et] at h; exact h.elim
      | ok k st1 =>
        rw [et] at h
        cases k with
        | false => exact wE_lcL I ds (i + 1) acc st1 ρ h (fun acc' st hh => h1 acc' st (by rw [List.length_cons, el 0]; exact hh)) h2'
        | true =>
          have h : wE (f r st1) (fun x st2 => I (i + 0 + 1) (acc ++ [x]) st2) fun _ _ => False := h
          dsimp only
          cases ef : f r st1 with
          | exn e st1 => rw [ef] at h; exact h.elim
          | stuck => rw [ef] at h; exact h.elim
          | ok x st2 =>
            rw [ef] at h
            dsimp only
            rw [wE_bind]
            exact wE_lcL I ds (i + 1) (acc ++ [x]) st2 ρ h (fun acc' st hh => h1 (x :: acc') st (by rw [List.length_cons, el 0]; simpa using hh)) h2'
/-- .. where nothing but the values is asked -/
theorem lcL_pure {g : Gv} {p : D → Bool} {k : D → D} : ∀ {ds : List D} {ρ : En} {st : Stor}, (∀ d ∈ ds, wP (g d ρ) fun r => t r st = .ok (p d) st ∧ (p d = true → f r st = .ok (k d) st)) → lcL g t f ds ρ st = .ok ((ds.filter p).map k) st
  | [], _, _, _ => rfl
  | d :: ds, ρ, st, h => by
    unfold lcL
    have h1 := h d List.mem_cons_self
    have ih := lcL_pure (ds := ds) (ρ := ρ) (st := st) fun e he => h e (List.mem_cons_of_mem _ he)
    cases eg : g d ρ with
    | none => rw [eg] at h1; exact h1.elim
    | some r =>
      rw [eg] at h1
      obtain ⟨h2, h3⟩ := h1
      simp only [h2]
      cases ep : p d with
      | false =>
        rw [List.filter_cons_of_neg (by rw [ep]; simp)]
        exact ih
      | true =>
        rw [List.filter_cons_of_pos ep]
        simp only [h3 ep, ih]
        rfl
end
theorem lcL_map {α : Type} {g : Gv} {t : Tv} {f : Ev} {f' : α → D} {p : α → Bool} {h : α → D} : ∀ {xs : List α} {ρ : En} {st : Stor}, (∀ x ∈ xs, wP (g (f' x) ρ) fun r => wE (t r st) (fun k st1 => k = p x ∧ st1 = st ∧ (k = true → wE (f r st1) (fun y st2 => y = h x ∧ st2 = st) fun _ _ => False)) fun _ _ => False) →
    lcL g t f (xs.map f') ρ st = .ok ((xs.filter p).map h) st
  | [], _, _, _ => rfl
  | x :: xs, ρ, st, H => by
    have h1 := H x List.mem_cons_self
    have ih := lcL_map (xs := xs) (ρ := ρ) (st := st) fun y hy => H y (List.mem_cons_of_mem _ hy)
    rw [List.map_cons]
    unfold lcL
    cases eg : g (f' x) ρ with
    | none => rw [eg] at h1; exact h1.elim
    | some r =>
      rw [eg] at h1
      have h1 : wE (t r st) (fun k st1 => k = p x ∧ st1 = st ∧ (k = true → wE (f r st1) (fun y st2 => y = h x ∧ st2 = st) fun _ _ => False)) fun _ _ => False := h1
      dsimp only
      cases et : t r st with
      | exn e st1 => rw [et] at h1; exact h1.elim
      | stuck => rw [et] at h1; exact h1.elim
      | ok k st1 =>
        rw [et] at h1
        obtain ⟨rfl, rfl, h3⟩ := h1
        cases ep : p x with
        | false =>
          rw [List.filter_cons_of_neg (by rw [ep]; simp)]
          exact ih
        | true =>
          rw [List.filter_cons_of_pos ep]
          simp only [wE_eq (h3 ep), ih]
          rfl
theorem lcL_mapT {α : Type} {g : Gv} {f : Ev} {f' : α → D} {h : α → D} {xs : List α} {ρ : En} {st : Stor} (H : ∀ x ∈ xs, wP (g (f' x) ρ) fun r => wE (f r st) (fun y st2 => y = h x ∧ st2 = st) fun _ _ => False) : lcL g tYe f (xs.map f') ρ st = .ok (xs.map h) st := by
  have q := lcL_map (t := tYe) (f := f) (p := fun _ => true) (h := h) (xs := xs) (ρ := ρ) (st := st) (g := g) (f' := f') fun x hx => by
    have := H x hx
    cases eg : g (f' x) ρ with
    | none => rw [eg] at this; exact this
    | some r => rw [eg] at this; exact ⟨rfl, rfl, fun _ => this⟩
  rw [q, List.filter_eq_self.mpr fun _ _ => rfl]
theorem lenOk_small {n : Nat} (h : n ≤ 10000000) : lenOk n = true := decide_eq_true (by rw [sizeLine_eq]; omega)
end OM
namespace OM
open PySem PySem.Spec PyProof.Rows L2
/-! ### what all the laws share: the stream, the next number, sameness -/
def uSame : Sv := (sRt (eBin dEqV (eUn dRepr (eLst (aCons (eVar 0) aNil))) (eUn dRepr (eLst (aCons (eVar 1) aNil)))))
def uStream : Sv := (sSeq (sOwn 1 (aLst aNil))
  (sSeq (sFor (iSeq (eSl (eVar 0) pNo (pSo (eK (.int 63))))) (gNm 2)
  (sSeq (sSet 3 (eUn dAbs (eUn dInt (eVar 2))))
  (sIf (tBl (eBin dGe (eVar 3) (eBin dPow (eK (.int 10)) (eK (.int 18)))))
  (sFor (iRg1 (eK (.int 60))) (gNm 4)
  (sSeq (sApp 1 (eBin dMod (eUn dInt (eVar 3)) (eK (.int 1009))))
  (sSeq (sSet 3 (eBin dDiv (eVar 3) (eK (.int 1009))))
  (sIf (tBl (eBin dEqV (eVar 3) (eK (.int 0))))
  sBk
  sNo))))
  (sSeq (sSet 5 (eBin dMod (eUn dInt (eVar 3)) (eK (.int 2147483647))))
  (sFor (iRg1 (eK (.int 10))) (gNm 4)
  (sSeq (sSet 5 (eBin dMod (eUn dInt (eBin dAdd (eBin dAdd (eBin dMul (eVar 5) (eK (.int 48271))) (eBin dMul (eK (.int 7)) (eVar 4))) (eK (.int 11)))) (eK (.int 2147483647))))
  (sApp 1 (eBin dMod (eBin dMod (eUn dInt (eBin dAdd (eBin dMul (eVar 5) (eK (.int 69621))) (eVar 4))) (eK (.int 2147483629))) (eK (.int 1009))))))))))
  (sSeq (sIf (tBl (eBin dEqV (eUn dLen (eVarB 1)) (eK (.int 0))))
  (sApp 1 (eK (.int 0)))
  sNo)
  (sFz 1 (sRt (eVar 1))))))
def uNext : Sv := (sSeq (sPut 0 (eBin dAdd (eIx (eVar 0) (eK (.int 1))) (eK (.int 1))) (eK (.int 1)))
  (sSeq (sSet 2 (eBin dDiv (eIx (eVar 0) (eK (.int 1))) (eUn dLen (eIx (eVar 0) (eK (.int 0))))))
  (sRt (eBin dMod (eUn dInt (eBin dAdd (eBin dAdd (eIx (eIx (eVar 0) (eK (.int 0))) (eBin dMod (eIx (eVar 0) (eK (.int 1))) (eUn dLen (eIx (eVar 0) (eK (.int 0)))))) (eBin dMul (eVar 2) (eK (.int 389)))) (eBin dMul (eBin dMul (eIx (eVar 0) (eK (.int 1))) (eVar 2)) (eK (.int 17))))) (eVar 1)))))
theorem dEqV_int {i j : Int} : dEqV (.int i) (.int j) = some (.bl (i == j)) := by
  unfold dEqV dEq
  simp only [D.py, SeqAt.shaped, PyData.canLay0, PyData.depth, PyData.eqv]
  rfl
theorem dNeV_int {i j : Int} : dNeV (.int i) (.int j) = some (.bl (!(i == j))) := by
  unfold dNeV dEq
  simp only [D.py, SeqAt.shaped, PyData.canLay0, PyData.depth, PyData.eqv]
  rfl
theorem bigI_small {i : Int} (h1 : -18446744073709551616 < i) (h2 : i < 18446744073709551616) : bigI i = true := by
  unfold bigI
  rw [Bool.and_eq_true]
  exact ⟨decide_eq_true (by omega), decide_eq_true (by omega)⟩
theorem mulOk {i j : Int} (h1 : -18446744073709551616 < i) (h2 : i < 18446744073709551616) : (bigI i || bigI j || decide (i.natAbs.log2 + j.natAbs.log2 < 1000000)) = true := by
  rw [bigI_small h1 h2, Bool.true_or, Bool.true_or]
theorem mulOkR {i j : Int} (h1 : -18446744073709551616 < j) (h2 : j < 18446744073709551616) : (bigI i || bigI j || decide (i.natAbs.log2 + j.natAbs.log2 < 1000000)) = true := by
  rw [bigI_small h1 h2, Bool.or_true, Bool.true_or]
theorem rgOk_small {n : Int} (h0 : 0 ≤ n) (h1 : n ≤ 10000000) : rgOk 0 n = true := by
  unfold rgOk
  rw [Bool.and_eq_true, Bool.and_eq_true, Bool.and_eq_true, Bool.and_eq_true]
  exact ⟨⟨⟨⟨decide_eq_true (by omega), decide_eq_true (by omega)⟩, decide_eq_true (by omega)⟩, decide_eq_true (by omega)⟩, lenOk_small (by omega)⟩
theorem rgD_at {a b : Int} {j : Nat} {d : D} (h : (rgD a b)[j]? = some d) : d = .int (a + j) ∧ a + j < b := by
  unfold rgD at h
  rw [List.getElem?_map] at h
  by_cases hj : j < (b - a).toNat
  · rw [List.getElem?_range hj] at h
    exact ⟨(Option.some.inj h).symm, by omega⟩
  · rw [List.getElem?_eq_none (by rw [List.length_range]; omega)] at h; cases h
theorem rgD_len {a b : Int} : (rgD a b).length = (b - a).toNat := by unfold rgD; rw [List.length_map, List.length_range]
/-- the stream's numbers -/
def GoodN (xs : List Int) : Prop := ∀ x ∈ xs, 0 ≤ x ∧ x < 1009
theorem GoodN.snoc {xs : List Int} {x : Int} (h : GoodN xs) (h0 : 0 ≤ x) (h1 : x < 1009) : GoodN (xs ++ [x]) := fun y hy => by
  rcases List.mem_append.mp hy with z | z
  · exact h y z
  · have : y = x := by simpa using z
    rw [this]; exact ⟨h0, h1⟩
theorem map_snoc {α β : Type} (f : α → β) (xs : List α) (x : α) : xs.map f ++ [f x] = (xs ++ [x]).map f := by simp
theorem pow_gate : shOk 10 18 = true := by decide
theorem stream_ok (ns : List Int) (st : Stor) (hn : ns.length ≤ 63) : ∃ xs : List Int, xs ≠ [] ∧ xs.length ≤ 4000 ∧ GoodN xs ∧ runB 6 uStream [.scr ns] st = .ok (.lst (xs.map .int)) st := by
  have key : wE (runB 6 uStream [.scr ns] st) (fun d st' => (∃ xs : List Int, xs ≠ [] ∧ xs.length ≤ 4000 ∧ GoodN xs ∧ d = .lst (xs.map .int)) ∧ st' = st) fun _ _ => False := by
    have hc : (cutD ns none (some 63)).length ≤ 63 := Nat.le_trans (cutD_length _ _ _) hn
    simp only [uStream, wE_run, wE_ok, wE_exn, wE_stuck, wE_bind, wE_of, wE_ite, wE_iteP, wP_some, wP_none, wP_ite, wP_iteP, wP_map, wP_bind, wO_out, wO_nx, wO_rt, wO_bk, wO_ct, wO_ex, wO_stuck, wO_iteB, wO_ite, seq_rt, seq_bk, seq_ct, seq_ex, sNo_at, sBk_at, sCt_at, sEx_at, sRt_at, sIf_at, sSet_at, sOwn_at, sAug_at, sApp_at, sPut_at, sExt_at, sAsg_at, sPar_at, sFz_at, fz_at, sRs_at, sRef_at, eK_at, eVar_at, eVarB_at, eBin_at, eUn_at, eCh_at, eNo_at, eAn_at, eOu_at, eIf_at, tBl_at, tTru_at, tNo_at, tAn_at, tOu_at, tYe_at, aNil_at, aCons_at, eTup_at, eLst_at, aLst_at, eIx_at, pNo_at, pSo_at, eSl_at, eCall_at, aLc_at, eLc_at, wipe_nil, wipe_cons, iSeq_at, iRg1_at, iRg2_at, eLRg_at, eTRg_at, iEnu_at, aOfL_at, gNm_at, gsNo_nil, gsCo_cons, gTp_tup, sFor_at, seqD, dAdd, dMul, gI, dIs, dNot, dIsnt, dTru, dNeg, dInv, dIx, dSl, dLen, dAbs, dInt, dTup, dLst, List.map_cons, List.map_nil, List.cons_append, List.nil_append, List.length_cons, List.length_nil, List.getElem?_cons_zero, List.getElem?_cons_succ, List.set_cons_zero, List.set_cons_succ, Option.bind_some, Option.map_some, List.reduceReplicate, Nat.reduceAdd, Nat.reduceSub, ↓reduceIte, decide_eq_true_eq, Bool.false_eq_true, Bool.not_true, Bool.not_false, Nat.zero_add, true_and, if_false_right, wO_seq]
    refine ⟨lenOk_small (by omega), ?_⟩
    simp only [wE_run, wE_ok, wE_exn, wE_stuck, wE_bind, wE_of, wE_ite, wE_iteP, wP_some, wP_none, wP_ite, wP_iteP, wP_map, wP_bind, wO_out, wO_nx, wO_rt, wO_bk, wO_ct, wO_ex, wO_stuck, wO_iteB, wO_ite, seq_rt, seq_bk, seq_ct, seq_ex, sNo_at, sBk_at, sCt_at, sEx_at, sRt_at, sIf_at, sSet_at, sOwn_at, sAug_at, sApp_at, sPut_at, sExt_at, sAsg_at, sPar_at, sFz_at, fz_at, sRs_at, sRef_at, eK_at, eVar_at, eVarB_at, eBin_at, eUn_at, eCh_at, eNo_at, eAn_at, eOu_at, eIf_at, tBl_at, tTru_at, tNo_at, tAn_at, tOu_at, tYe_at, aNil_at, aCons_at, eTup_at, eLst_at, aLst_at, eIx_at, pNo_at, pSo_at, eSl_at, eCall_at, aLc_at, eLc_at, wipe_nil, wipe_cons, iSeq_at, iRg1_at, iRg2_at, eLRg_at, eTRg_at, iEnu_at, aOfL_at, gNm_at, gsNo_nil, gsCo_cons, gTp_tup, sFor_at, seqD, dAdd, dMul, gI, dIs, dNot, dIsnt, dTru, dNeg, dInv, dIx, dSl, dLen, dAbs, dInt, dTup, dLst, List.map_cons, List.map_nil, List.cons_append, List.nil_append, List.length_cons, List.length_nil, List.getElem?_cons_zero, List.getElem?_cons_succ, List.set_cons_zero, List.set_cons_succ, Option.bind_some, Option.map_some, List.reduceReplicate, Nat.reduceAdd, Nat.reduceSub, ↓reduceIte, decide_eq_true_eq, Bool.false_eq_true, Bool.not_true, Bool.not_false, Nat.zero_add, true_and, if_false_right, wO_seq, seq_nx]
    refine wO_forL (fun i ρ st' => st' = st ∧ ∃ (xs : List Int) (a2 a3 a4 a5 : Sl), ρ = [.vl (.scr ns), .ow (xs.map .int), a2, a3, a4, a5] ∧ xs.length ≤ 60 * i ∧ GoodN xs) _ 0 _ _ ⟨rfl, [], _, _, _, _, rfl, by simp, fun x hx => by simp at hx⟩ ?_ ?_
    · rintro ρ st' ⟨rfl, xs, a2, a3, a4, a5, rfl, hl, hg⟩
      rw [List.length_map] at hl
      simp only [wE_run, wE_ok, wE_exn, wE_stuck, wE_bind, wE_of, wE_ite, wE_iteP, wP_some, wP_none, wP_ite, wP_iteP, wP_map, wP_bind, wO_out, wO_nx, wO_rt, wO_bk, wO_ct, wO_ex, wO_stuck, wO_iteB, wO_ite, seq_rt, seq_bk, seq_ct, seq_ex, sNo_at, sBk_at, sCt_at, sEx_at, sRt_at, sIf_at, sSet_at, sOwn_at, sAug_at, sApp_at, sPut_at, sExt_at, sAsg_at, sPar_at, sFz_at, fz_at, sRs_at, sRef_at, eK_at, eVar_at, eVarB_at, eBin_at, eUn_at, eCh_at, eNo_at, eAn_at, eOu_at, eIf_at, tBl_at, tTru_at, tNo_at, tAn_at, tOu_at, tYe_at, aNil_at, aCons_at, eTup_at, eLst_at, aLst_at, eIx_at, pNo_at, pSo_at, eSl_at, eCall_at, aLc_at, eLc_at, wipe_nil, wipe_cons, iSeq_at, iRg1_at, iRg2_at, eLRg_at, eTRg_at, iEnu_at, aOfL_at, gNm_at, gsNo_nil, gsCo_cons, gTp_tup, sFor_at, seqD, dAdd, dMul, gI, dIs, dNot, dIsnt, dTru, dNeg, dInv, dIx, dSl, dLen, dAbs, dInt, dTup, dLst, List.map_cons, List.map_nil, List.cons_append, List.nil_append, List.length_cons, List.length_nil, List.getElem?_cons_zero, List.getElem?_cons_succ, List.set_cons_zero, List.set_cons_succ, Option.bind_some, Option.map_some, List.reduceReplicate, Nat.reduceAdd, Nat.reduceSub, ↓reduceIte, decide_eq_true_eq, Bool.false_eq_true, Bool.not_true, Bool.not_false, Nat.zero_add, true_and, if_false_right, wO_seq, seq_nx, dEqV_int, List.length_map]
      by_cases h0 : xs.length = 0
      · rw [if_pos (by rw [h0]; rfl)]
        exact ⟨lenOk_small (by omega), ⟨xs ++ [0], by simp, by rw [List.length_append, h0]; decide, hg.snoc (by decide) (by decide), by rw [List.map_append]; rfl⟩, trivial⟩
      · rw [if_neg (by simpa using h0)]
        exact ⟨⟨xs, fun z => h0 (by rw [z]; rfl), by omega, hg, rfl⟩, trivial⟩
    · rintro j d ρ st' hd ⟨rfl, xs, a2, a3, a4, a5, rfl, hl, hg⟩
      have hj : j < 63 := by
        have := (List.getElem?_eq_some_iff.mp hd).1
        rw [List.length_map] at this; omega
      obtain ⟨c, hc', rfl⟩ : ∃ c, (cutD ns none (some 63))[j]? = some c ∧ d = .int c := by
        rw [List.getElem?_map] at hd
        cases e : (cutD ns none (some 63))[j]? with
        | none => rw [e] at hd; cases hd
        | some c => rw [e] at hd; exact ⟨c, rfl, (Option.some.inj hd).symm⟩
      simp only [wE_run, wE_ok, wE_exn, wE_stuck, wE_bind, wE_of, wE_ite, wE_iteP, wP_some, wP_none, wP_ite, wP_iteP, wP_map, wP_bind, wO_out, wO_nx, wO_rt, wO_bk, wO_ct, wO_ex, wO_stuck, wO_iteB, wO_ite, seq_rt, seq_bk, seq_ct, seq_ex, sNo_at, sBk_at, sCt_at, sEx_at, sRt_at, sIf_at, sSet_at, sOwn_at, sAug_at, sApp_at, sPut_at, sExt_at, sAsg_at, sPar_at, sFz_at, fz_at, sRs_at, sRef_at, eK_at, eVar_at, eVarB_at, eBin_at, eUn_at, eCh_at, eNo_at, eAn_at, eOu_at, eIf_at, tBl_at, tTru_at, tNo_at, tAn_at, tOu_at, tYe_at, aNil_at, aCons_at, eTup_at, eLst_at, aLst_at, eIx_at, pNo_at, pSo_at, eSl_at, eCall_at, aLc_at, eLc_at, wipe_nil, wipe_cons, iSeq_at, iRg1_at, iRg2_at, eLRg_at, eTRg_at, iEnu_at, aOfL_at, gNm_at, gsNo_nil, gsCo_cons, gTp_tup, sFor_at, seqD, dAdd, dMul, gI, dIs, dNot, dIsnt, dTru, dNeg, dInv, dIx, dSl, dLen, dAbs, dInt, dTup, dLst, List.map_cons, List.map_nil, List.cons_append, List.nil_append, List.length_cons, List.length_nil, List.getElem?_cons_zero, List.getElem?_cons_succ, List.set_cons_zero, List.set_cons_succ, Option.bind_some, Option.map_some, List.reduceReplicate, Nat.reduceAdd, Nat.reduceSub, ↓reduceIte, decide_eq_true_eq, Bool.false_eq_true, Bool.not_true, Bool.not_false, Nat.zero_add, true_and, if_false_right, wO_seq, seq_nx, dEqV_int]
      refine ⟨pow_gate, ite2 (fun hbig => ⟨rgOk_small (by omega) (by omega), ?_⟩) fun _ => ⟨by omega, rgOk_small (by omega) (by omega), ?_⟩⟩
      · refine wO_forL (fun i ρ st1 => st1 = st' ∧ ∃ (ys : List Int) (a2 : Sl) (n : Int) (a4 a5 : Sl), ρ = [.vl (.scr ns), .ow (ys.map .int), a2, .vl (.int n), a4, a5] ∧ ys.length ≤ 60 * j + i ∧ GoodN ys) _ 0 _ _ ⟨rfl, xs, _, _, _, _, rfl, by omega, hg⟩ ?_ ?_
        · rintro ρ st1 ⟨rfl, ys, b2, n, b4, b5, rfl, hl2, hg2⟩
          rw [rgD_len] at hl2
          exact ⟨rfl, ys, _, _, _, _, rfl, by omega, hg2⟩
        · rintro i d ρ st1 hd2 ⟨rfl, ys, b2, n, b4, b5, rfl, hl2, hg2⟩
          obtain ⟨rfl, hi⟩ := rgD_at hd2
          simp only [wE_run, wE_ok, wE_exn, wE_stuck, wE_bind, wE_of, wE_ite, wE_iteP, wP_some, wP_none, wP_ite, wP_iteP, wP_map, wP_bind, wO_out, wO_nx, wO_rt, wO_bk, wO_ct, wO_ex, wO_stuck, wO_iteB, wO_ite, seq_rt, seq_bk, seq_ct, seq_ex, sNo_at, sBk_at, sCt_at, sEx_at, sRt_at, sIf_at, sSet_at, sOwn_at, sAug_at, sApp_at, sPut_at, sExt_at, sAsg_at, sPar_at, sFz_at, fz_at, sRs_at, sRef_at, eK_at, eVar_at, eVarB_at, eBin_at, eUn_at, eCh_at, eNo_at, eAn_at, eOu_at, eIf_at, tBl_at, tTru_at, tNo_at, tAn_at, tOu_at, tYe_at, aNil_at, aCons_at, eTup_at, eLst_at, aLst_at, eIx_at, pNo_at, pSo_at, eSl_at, eCall_at, aLc_at, eLc_at, wipe_nil, wipe_cons, iSeq_at, iRg1_at, iRg2_at, eLRg_at, eTRg_at, iEnu_at, aOfL_at, gNm_at, gsNo_nil, gsCo_cons, gTp_tup, sFor_at, seqD, dAdd, dMul, gI, dIs, dNot, dIsnt, dTru, dNeg, dInv, dIx, dSl, dLen, dAbs, dInt, dTup, dLst, List.map_cons, List.map_nil, List.cons_append, List.nil_append, List.length_cons, List.length_nil, List.getElem?_cons_zero, List.getElem?_cons_succ, List.set_cons_zero, List.set_cons_succ, Option.bind_some, Option.map_some, List.reduceReplicate, Nat.reduceAdd, Nat.reduceSub, ↓reduceIte, decide_eq_true_eq, Bool.false_eq_true, Bool.not_true, Bool.not_false, Nat.zero_add, true_and, if_false_right, wO_seq, seq_nx, dEqV_int]
          have hi2 : i < 60 := by omega
          have hl3 : ys.length ≤ 60 * j + i := by omega
          have len2 : (ys ++ [n % 1009]).length ≤ 60 * j + (i + 1) := by rw [List.length_append]; simp only [List.length_cons, List.length_nil]; omega
          refine ⟨by omega, lenOk_small (by rw [List.length_map]; omega), by decide, ?_⟩
          refine ite2 (fun _ => ⟨ys ++ [n % 1009], _, _, _, _, by rw [map_snoc], by omega, hg2.snoc (by omega) (by omega)⟩) fun _ => ⟨ys ++ [n % 1009], _, _, _, _, by rw [map_snoc], by omega, hg2.snoc (by omega) (by omega)⟩
      · refine wO_forL (fun i ρ st1 => st1 = st' ∧ ∃ (ys : List Int) (a2 a3 a4 : Sl) (n : Int), ρ = [.vl (.scr ns), .ow (ys.map .int), a2, a3, a4, .vl (.int n)] ∧ ys.length ≤ 60 * j + i ∧ GoodN ys ∧ 0 ≤ n ∧ n < 2147483647) _ 0 _ _ ⟨rfl, xs, _, _, _, _, rfl, by omega, hg, by omega, by omega⟩ ?_ ?_
        · rintro ρ st1 ⟨rfl, ys, b2, b3, b4, n, rfl, hl2, hg2, h0, h1⟩
          rw [rgD_len] at hl2
          exact ⟨rfl, ys, _, _, _, _, rfl, by omega, hg2⟩
        · rintro i d ρ st1 hd2 ⟨rfl, ys, b2, b3, b4, n, rfl, hl2, hg2, h0, h1⟩
          obtain ⟨rfl, hi⟩ := rgD_at hd2
          simp only [wE_run, wE_ok, wE_exn, wE_stuck, wE_bind, wE_of, wE_ite, wE_iteP, wP_some, wP_none, wP_ite, wP_iteP, wP_map, wP_bind, wO_out, wO_nx, wO_rt, wO_bk, wO_ct, wO_ex, wO_stuck, wO_iteB, wO_ite, seq_rt, seq_bk, seq_ct, seq_ex, sNo_at, sBk_at, sCt_at, sEx_at, sRt_at, sIf_at, sSet_at, sOwn_at, sAug_at, sApp_at, sPut_at, sExt_at, sAsg_at, sPar_at, sFz_at, fz_at, sRs_at, sRef_at, eK_at, eVar_at, eVarB_at, eBin_at, eUn_at, eCh_at, eNo_at, eAn_at, eOu_at, eIf_at, tBl_at, tTru_at, tNo_at, tAn_at, tOu_at, tYe_at, aNil_at, aCons_at, eTup_at, eLst_at, aLst_at, eIx_at, pNo_at, pSo_at, eSl_at, eCall_at, aLc_at, eLc_at, wipe_nil, wipe_cons, iSeq_at, iRg1_at, iRg2_at, eLRg_at, eTRg_at, iEnu_at, aOfL_at, gNm_at, gsNo_nil, gsCo_cons, gTp_tup, sFor_at, seqD, dAdd, dMul, gI, dIs, dNot, dIsnt, dTru, dNeg, dInv, dIx, dSl, dLen, dAbs, dInt, dTup, dLst, List.map_cons, List.map_nil, List.cons_append, List.nil_append, List.length_cons, List.length_nil, List.getElem?_cons_zero, List.getElem?_cons_succ, List.set_cons_zero, List.set_cons_succ, Option.bind_some, Option.map_some, List.reduceReplicate, Nat.reduceAdd, Nat.reduceSub, ↓reduceIte, decide_eq_true_eq, Bool.false_eq_true, Bool.not_true, Bool.not_false, Nat.zero_add, true_and, if_false_right, wO_seq, seq_nx, dEqV_int]
          have hi2 : i < 10 := by omega
          refine ⟨mulOk (by omega) (by omega), mulOk (by omega) (by omega), by omega, mulOk (by omega) (by omega), by omega, by omega, lenOk_small (by rw [List.length_map]; omega), ys ++ [_], _, _, _, _, by rw [map_snoc], ?_, hg2.snoc (by omega) (by omega), by omega, by omega⟩
          rw [List.length_append]; simp only [List.length_cons, List.length_nil]; omega
  obtain ⟨d, st1, e, ⟨xs, h1, h2, h3, rfl⟩, rfl⟩ := wE_ex key
  exact ⟨xs, h1, h2, h3, e⟩
/-- the law's state: the stream, the count -/
def Sst (xs : List Int) (c : Int) : Stor := [.lst [.lst (xs.map .int), .int c]]
def nxI (xs : List Int) (c : Int) : Int := xs.getD (c % xs.length).toNat 0 + c / xs.length * 389 + c * (c / xs.length) * 17
theorem atI_D {ds : List D} {i : Int} (h0 : 0 ≤ i) (h1 : i < ds.length) : atI ds i = some (ds.getD i.toNat .non) := by
  have e : i = ((i.toNat : Nat) : Int) := (Int.toNat_of_nonneg h0).symm
  rw [e]
  exact atI_nat (by rw [Int.toNat_natCast, List.getD_eq_getElem?_getD, List.getElem?_eq_getElem (by omega), Option.getD_some])
theorem atI_int {xs : List Int} {i : Int} (h0 : 0 ≤ i) (h1 : i < xs.length) : atI (xs.map D.int) i = some (.int (xs.getD i.toNat 0)) := by
  rw [atI_D h0 (by rw [List.length_map]; exact h1)]
  simp only [List.getD_eq_getElem?_getD, List.getElem?_map]
  rw [List.getElem?_eq_getElem (by omega)]
  rfl
theorem ixN_2 : ixN 2 1 = some 1 := by decide
theorem atI_20 {a b : D} : atI [a, b] 0 = some a := rfl
theorem atI_21 {a b : D} : atI [a, b] 1 = some b := rfl
/-- a stream -/
structure Str0 (xs : List Int) : Prop where
  ne : xs ≠ []
  len : xs.length ≤ 4000
  good : GoodN xs
theorem next_ok {xs : List Int} {c m : Int} (hx : Str0 xs) (h0 : 0 ≤ c) (h1 : c ≤ 1000000000) (hm : 0 < m) : runB 3 uNext [.ref 0, .int m] (Sst xs c) = .ok (.int (nxI xs (c + 1) % m)) (Sst xs (c + 1)) := by
  have hl : (0 : Int) < xs.length := by
    have := List.length_pos_iff.mpr hx.ne
    omega
  have hl2 : (xs.length : Int) ≤ 4000 := by have := hx.len; omega
  refine wE_eq ?_
  have hd0 : 0 ≤ (c + 1) / (xs.length : Int) := Int.ediv_nonneg (by omega) (by omega)
  have hd1 : (c + 1) / (xs.length : Int) ≤ c + 1 := Int.ediv_le_self _ (by omega)
  have hm0 := Int.emod_nonneg (c + 1) (show (xs.length : Int) ≠ 0 by omega)
  have hm1 := Int.emod_lt_of_pos (c + 1) hl
  have hlog : (((xs.length : Nat) : Int).natAbs).log2 < 9000 := by
    rw [Int.natAbs_natCast]
    have := Nat.log2_le_self xs.length
    omega
  simp only [uNext, Sst, wE_run, wE_ok, wE_exn, wE_stuck, wE_bind, wE_of, wE_ite, wE_iteP, wP_some, wP_none, wP_ite, wP_iteP, wP_map, wP_bind, wO_out, wO_nx, wO_rt, wO_bk, wO_ct, wO_ex, wO_stuck, wO_iteB, wO_ite, seq_rt, seq_bk, seq_ct, seq_ex, sNo_at, sBk_at, sCt_at, sEx_at, sRt_at, sIf_at, sSet_at, sOwn_at, sAug_at, sApp_at, sPut_at, sExt_at, sAsg_at, sPar_at, sFz_at, fz_at, sRs_at, sRef_at, eK_at, eVar_at, eVarB_at, eBin_at, eUn_at, eCh_at, eNo_at, eAn_at, eOu_at, eIf_at, tBl_at, tTru_at, tNo_at, tAn_at, tOu_at, tYe_at, aNil_at, aCons_at, eTup_at, eLst_at, aLst_at, eIx_at, pNo_at, pSo_at, eSl_at, eCall_at, aLc_at, eLc_at, wipe_nil, wipe_cons, iSeq_at, iRg1_at, iRg2_at, eLRg_at, eTRg_at, iEnu_at, aOfL_at, gNm_at, gsNo_nil, gsCo_cons, gTp_tup, sFor_at, seqD, dAdd, dMul, gI, dIs, dNot, dIsnt, dTru, dNeg, dInv, dIx, dSl, dLen, dAbs, dInt, dTup, dLst, List.map_cons, List.map_nil, List.cons_append, List.nil_append, List.length_cons, List.length_nil, List.getElem?_cons_zero, List.getElem?_cons_succ, List.set_cons_zero, List.set_cons_succ, Option.bind_some, Option.map_some, List.reduceReplicate, Nat.reduceAdd, Nat.reduceSub, ↓reduceIte, decide_eq_true_eq, Bool.false_eq_true, Bool.not_true, Bool.not_false, Nat.zero_add, true_and, if_false_right, wO_seq, seq_nx, ixN_2, atI_20, atI_21, List.length_map, List.length_set, atI_int hm0 hm1]
  refine ⟨?_, hl, mulOk (by omega) (by omega), mulOk (by omega) (by omega), mulOkR (by omega) (by omega), hm, rfl, trivial⟩
  rw [Bool.and_eq_true]; exact ⟨decide_eq_true hl, decide_eq_true hlog⟩
end OM
namespace OM
open PySem PySem.Spec PyProof.Rows L2
/-! ### data that is shown -/
mutual
def D.nice : D → Bool
  | .non => true
  | .bl _ => true
  | .int i => decide (-100000000000000000000 < i) && decide (i < 100000000000000000000)
  | .str x => PyData.strOk x
  | .tup ds => D.nices ds
  | .lst ds => D.nices ds
  | .ref _ => false
  | .scr _ => false
def D.nices : List D → Bool
  | [] => true
  | d :: ds => d.nice && D.nices ds
end
mutual
def D.wt : D → Nat
  | .int _ => 70
  | .str x => x.cps.size
  | .tup ds => D.wts ds
  | .lst ds => D.wts ds
  | _ => 0
def D.wts : List D → Nat
  | [] => 0
  | d :: ds => d.wt + 1 + D.wts ds
end
mutual
def D.dp : D → Nat
  | .tup ds => D.dps ds + 1
  | .lst ds => D.dps ds + 1
  | _ => 0
def D.dps : List D → Nat
  | [] => 0
  | d :: ds => max d.dp (D.dps ds)
end
theorem int_text {i : Int} (h0 : -100000000000000000000 < i) (h1 : i < 100000000000000000000) : (Str.ofString (toString i)).length ≤ 21 := by
  cases i with
  | ofNat n => exact Nat.le_trans (toString_length_le (k := 20) (by show (0 : Int) ≤ (n : Int); omega) (by decide) (by show (n : Int) < 10 ^ 20; have : (n : Int) < 100000000000000000000 := h1; omega)) (by decide)
  | negSucc n =>
    have h2 : (Str.ofString (toString ((n + 1 : Nat) : Int))).length ≤ 20 := toString_length_le (k := 20) (by omega) (by decide) (by have : Int.negSucc n = -((n + 1 : Nat) : Int) := rfl; rw [this] at h0; omega)
    rw [PyProof.Rows.ofString_length] at h2 ⊢
    have e : toString (Int.negSucc n) = "-" ++ toString ((n + 1 : Nat) : Int) := rfl
    rw [e, String.toList_append, List.length_append]
    have : ("-" : String).toList.length = 1 := by decide
    omega
structure NiceP (d : D) (p : PyData) : Prop where
  py : d.py = some p
  lay : p.canLay0 = true
  short : p.intsShort 21 = true
  show_ : p.showable = true
  w : p.weight ≤ d.wt
  dep : p.depth ≤ d.dp
structure NicePs (ds : List D) (ps : List PyData) : Prop where
  py : D.pys ds = some ps
  lay : PyData.canLayAll0 ps = true
  short : PyData.intsShortAll 21 ps = true
  show_ : PyData.showableAll ps = true
  w : PyData.weightAll ps ≤ D.wts ds
  dep : PyData.depthAll ps ≤ D.dps ds
theorem log2_small {i : Int} (h0 : -100000000000000000000 < i) (h1 : i < 100000000000000000000) : i.natAbs.log2 < 68 := by
  by_cases h : i.natAbs = 0
  · rw [h]; decide
  · rw [Nat.log2_lt h]
    have : i.natAbs < 100000000000000000000 := by omega
    exact Nat.lt_trans this (by decide)
mutual
theorem nice_py : ∀ (d : D), d.nice = true → ∃ p, NiceP d p
  | .non, _ => ⟨.none, rfl, rfl, rfl, rfl, Nat.le_refl _, Nat.le_refl _⟩
  | .bl b, _ => ⟨.bool b, rfl, rfl, rfl, rfl, Nat.le_refl _, Nat.le_refl _⟩
  | .int i, h => by
    simp only [D.nice, Bool.and_eq_true, decide_eq_true_eq] at h
    have hl := log2_small h.1 h.2
    refine ⟨.int i, by simp [D.py], rfl, ?_, ?_, ?_, Nat.le_refl _⟩
    · simp only [PyData.intsShort, PyData.shown]
      exact decide_eq_true (int_text h.1 h.2)
    · simp only [PyData.showable, decide_eq_true_eq]; omega
    · simp only [PyData.weight, D.wt]
      split <;> omega
  | .str x, h => by
    refine ⟨.str x, by simp [D.py], ?_, rfl, rfl, ?_, Nat.le_refl _⟩
    · simpa only [PyData.canLay0, D.nice] using h
    · simp only [PyData.weight, D.wt]; exact Nat.le_refl _
  | .tup ds, h => by
    obtain ⟨ps, a, b, c, d, e, f⟩ := nice_pys ds (by simpa only [D.nice] using h)
    refine ⟨.tuple ps, by simp only [D.py, a, Option.map_some], by simpa only [PyData.canLay0] using b, by simpa only [PyData.intsShort] using c, by simpa only [PyData.showable] using d, by simpa only [PyData.weight, D.wt] using e, ?_⟩
    simp only [PyData.depth, D.dp]; omega
  | .lst ds, h => by
    obtain ⟨ps, a, b, c, d, e, f⟩ := nice_pys ds (by simpa only [D.nice] using h)
    refine ⟨.list ps, by simp only [D.py, a, Option.map_some], by simpa only [PyData.canLay0] using b, by simpa only [PyData.intsShort] using c, by simpa only [PyData.showable] using d, by simpa only [PyData.weight, D.wt] using e, ?_⟩
    simp only [PyData.depth, D.dp]; omega
  | .ref _, h => by simp [D.nice] at h
  | .scr _, h => by simp [D.nice] at h
theorem nice_pys : ∀ (ds : List D), D.nices ds = true → ∃ ps, NicePs ds ps
  | [], _ => ⟨[], rfl, rfl, rfl, rfl, Nat.le_refl _, Nat.le_refl _⟩
  | d :: ds, h => by
    simp only [D.nices, Bool.and_eq_true] at h
    obtain ⟨p, a, b, c, e, f, g⟩ := nice_py d h.1
    obtain ⟨ps, a', b', c', e', f', g'⟩ := nice_pys ds h.2
    refine ⟨p :: ps, by simp only [D.pys, a, a'], by simp only [PyData.canLayAll0, b, b', Bool.and_self], by simp only [PyData.intsShortAll, c, c', Bool.and_self], by simp only [PyData.showableAll, e, e', Bool.and_self], ?_, ?_⟩
    · simp only [PyData.weightAll, D.wts]; omega
    · simp only [PyData.depthAll, D.dps]; omega
end
/-- what may stand in told and due -/
structure Nice (w k : Nat) (d : D) : Prop where
  n : d.nice = true
  w : d.wt ≤ w
  k : d.dp ≤ k
structure Nices (w k : Nat) (ds : List D) : Prop where
  n : D.nices ds = true
  w : D.wts ds ≤ w
  k : D.dps ds ≤ k
section
variable {w w' k k' n : Nat} {d : D} {ds es : List D}
theorem Nice.mono (h : Nice w k d) (hw : w ≤ w') (hk : k ≤ k') : Nice w' k' d := ⟨h.n, Nat.le_trans h.w hw, Nat.le_trans h.k hk⟩
theorem Nices.mono (h : Nices w k ds) (hw : w ≤ w') (hk : k ≤ k') : Nices w' k' ds := ⟨h.n, Nat.le_trans h.w hw, Nat.le_trans h.k hk⟩
theorem nice_non : Nice 0 0 .non := ⟨rfl, Nat.le_refl _, Nat.le_refl _⟩
theorem nice_bl {b : Bool} : Nice 0 0 (.bl b) := ⟨rfl, Nat.le_refl _, Nat.le_refl _⟩
theorem nice_int {i : Int} (h0 : -100000000000000000000 < i) (h1 : i < 100000000000000000000) : Nice 70 0 (.int i) := ⟨by simp only [D.nice, Bool.and_eq_true, decide_eq_true_eq]; exact ⟨h0, h1⟩, Nat.le_refl _, Nat.le_refl _⟩
theorem nice_str {x : Str} (h : PyData.strOk x = true) : Nice x.cps.size 0 (.str x) := ⟨by simpa only [D.nice] using h, Nat.le_refl _, Nat.le_refl _⟩
theorem nice_tup (h : Nices w k ds) : Nice w (k + 1) (.tup ds) := ⟨by simpa only [D.nice] using h.n, by simpa only [D.wt] using h.w, by simp only [D.dp]; have := h.k; omega⟩
theorem nice_lst (h : Nices w k ds) : Nice w (k + 1) (.lst ds) := ⟨by simpa only [D.nice] using h.n, by simpa only [D.wt] using h.w, by simp only [D.dp]; have := h.k; omega⟩
theorem nices_nil : Nices 0 0 [] := ⟨rfl, Nat.le_refl _, Nat.le_refl _⟩
theorem nices_cons (h : Nice w k d) (t : Nices w' k' ds) : Nices (w + 1 + w') (max k k') (d :: ds) := ⟨by simp only [D.nices, h.n, t.n, Bool.and_self], by simp only [D.wts]; have := h.w; have := t.w; omega, by simp only [D.dps]; have := h.k; have := t.k; omega⟩
theorem nices_all (h : ∀ d ∈ ds, Nice w k d) (hl : ds.length ≤ n) : Nices ((w + 1) * n) k ds := by
  induction ds generalizing n with
  | nil => exact nices_nil.mono (Nat.zero_le _) (Nat.zero_le _)
  | cons d ds ih =>
    cases n with
    | zero => simp at hl
    | succ n =>
      refine (nices_cons (h d List.mem_cons_self) (ih (n := n) (fun e he => h e (List.mem_cons_of_mem _ he)) (by simpa using hl))).mono ?_ (by omega)
      rw [Nat.mul_succ]; omega
theorem nices_ints {ns : List Int} (h : ∀ i ∈ ns, -100000000000000000000 < i ∧ i < 100000000000000000000) (hl : ns.length ≤ n) : Nices (71 * n) 0 (ns.map .int) :=
  nices_all (w := 70) (fun d hd => by obtain ⟨i, hi, rfl⟩ := List.mem_map.mp hd; exact nice_int (h i hi).1 (h i hi).2) (by rw [List.length_map]; exact hl)
end
theorem reprOk_list {w k : Nat} {ds : List D} (h : Nices w k ds) (hw : w ≤ 700000) (hk : k ≤ 63) : ∃ p, dRepr (.lst ds) = some (.str p) := by
  obtain ⟨ps, a, b, c, d, e, f⟩ := nice_pys ds h.n
  have hw' := h.w
  have hk' := h.k
  refine ⟨(PyData.list ps).shown, ?_⟩
  simp only [dRepr, a, Option.bind_some]
  rw [if_pos]
  unfold reprOk
  rw [Bool.and_eq_true, Bool.and_eq_true]
  refine ⟨⟨by simpa only [PyData.showable] using d, decide_eq_true ?_⟩, decide_eq_true ?_⟩
  · simp only [PyData.depth]; omega
  · have hs := PyData.shown_le 21 (by decide) (PyData.list ps) (PyData.leavesShort_of_canLay0 21 _ (by simpa only [PyData.canLay0] using b) (by simpa only [PyData.intsShort] using c))
    have hww : (PyData.list ps).weight = PyData.weightAll ps := by simp only [PyData.weight]
    rw [hww] at hs
    have h3 : (21 + 2) * PyData.weightAll ps ≤ 23 * 700000 := Nat.mul_le_mul_left 23 (by omega)
    rw [sizeLine_eq]
    omega
theorem same_refl {d : D} {st : Stor} {w k : Nat} (h : Nice w k d) (hw : w ≤ 690000) (hk : k ≤ 62) : runB 2 uSame [d, d] st = .ok (.bl true) st := by
  obtain ⟨p, e⟩ := reprOk_list (nices_cons h nices_nil) (by omega) (by omega)
  refine wE_eq ?_
  simp only [uSame, wE_run, wE_ok, wE_exn, wE_stuck, wE_bind, wE_of, wE_ite, wE_iteP, wP_some, wP_none, wP_ite, wP_iteP, wP_map, wP_bind, wO_out, wO_nx, wO_rt, wO_bk, wO_ct, wO_ex, wO_stuck, wO_iteB, wO_ite, seq_rt, seq_bk, seq_ct, seq_ex, sNo_at, sBk_at, sCt_at, sEx_at, sRt_at, sIf_at, sSet_at, sOwn_at, sAug_at, sApp_at, sPut_at, sExt_at, sAsg_at, sPar_at, sFz_at, fz_at, sRs_at, sRef_at, eK_at, eVar_at, eVarB_at, eBin_at, eUn_at, eCh_at, eNo_at, eAn_at, eOu_at, eIf_at, tBl_at, tTru_at, tNo_at, tAn_at, tOu_at, tYe_at, aNil_at, aCons_at, eTup_at, eLst_at, aLst_at, eIx_at, pNo_at, pSo_at, eSl_at, eCall_at, aLc_at, eLc_at, wipe_nil, wipe_cons, iSeq_at, iRg1_at, iRg2_at, eLRg_at, eTRg_at, iEnu_at, aOfL_at, gNm_at, gsNo_nil, gsCo_cons, gTp_tup, sFor_at, seqD, dAdd, dMul, gI, dIs, dNot, dIsnt, dTru, dNeg, dInv, dIx, dSl, dLen, dAbs, dInt, dTup, dLst, List.map_cons, List.map_nil, List.cons_append, List.nil_append, List.length_cons, List.length_nil, List.getElem?_cons_zero, List.getElem?_cons_succ, List.set_cons_zero, List.set_cons_succ, Option.bind_some, Option.map_some, List.reduceReplicate, Nat.reduceAdd, Nat.reduceSub, ↓reduceIte, decide_eq_true_eq, Bool.false_eq_true, Bool.not_true, Bool.not_false, Nat.zero_add, true_and, if_false_right, wO_seq, seq_nx, e, dEqV]
  exact ⟨lenOk_small (by omega), lenOk_small (by omega), by simp⟩
theorem same_eq {d d' : D} {st : Stor} {w k : Nat} (h : Nice w k d) (he : d' = d) (hw : w ≤ 690000) (hk : k ≤ 62) : runB 2 uSame [d, d'] st = .ok (.bl true) st := by
  subst he
  exact same_refl h hw hk
end OM
namespace OM
open PySem PySem.Spec PyProof.Rows L2
/-! ### sets of worlds as numbers -/
abbrev nD (n : Nat) : D := .int (n : Int)
def bitsOf (n x : Nat) : List Nat := (List.range n).filter fun i => x.testBit i
def sumP (ws : List Nat) : Nat := (ws.map fun w => 2 ^ w).sum
theorem sumP_append (a b : List Nat) : sumP (a ++ b) = sumP a + sumP b := by unfold sumP; rw [List.map_append, List.sum_append]
theorem filter_range_succ (p : Nat → Bool) (n : Nat) : (List.range (n + 1)).filter p = (List.range n).filter p ++ if p n then [n] else [] := by
  rw [List.range_succ, List.filter_append]
  congr 1
  by_cases h : p n
  · simp [h]
  · simp [h]
theorem sumP_filter (p : Nat → Bool) : ∀ n : Nat, sumP ((List.range n).filter p) < 2 ^ n ∧ ∀ i, (sumP ((List.range n).filter p)).testBit i = (decide (i < n) && p i)
  | 0 => ⟨by show 0 < 1; decide, fun i => by simp [sumP]⟩
  | n + 1 => by
    obtain ⟨h1, h2⟩ := sumP_filter p n
    rw [filter_range_succ, sumP_append]
    have hn : (sumP ((List.range n).filter p)).testBit n = false := by rw [h2]; simp
    cases hp : p n with
    | false =>
      simp only [Bool.false_eq_true, if_false]
      have e : sumP ([] : List Nat) = 0 := rfl
      rw [e, Nat.add_zero]
      refine ⟨Nat.lt_of_lt_of_le h1 (Nat.pow_le_pow_right (by decide) (by omega)), fun i => ?_⟩
      rw [h2]
      by_cases hi : i < n
      · simp [hi, Nat.lt_succ_of_lt hi]
      · by_cases he : i = n
        · subst he; simp [hp]
        · have : ¬ i < n + 1 := by omega
          simp [hi, this]
    | true =>
      simp only [if_true]
      have e : sumP [n] = 2 ^ n := by simp [sumP]
      rw [e, Nat.add_comm]
      refine ⟨by rw [Nat.pow_succ]; omega, fun i => ?_⟩
      by_cases hi : i < n
      · rw [Nat.testBit_two_pow_add_gt hi, h2]
        simp [hi, Nat.lt_succ_of_lt hi]
      · by_cases he : i = n
        · subst he
          rw [Nat.testBit_two_pow_add_eq, hn]
          simp [hp]
        · rw [Nat.testBit_lt_two_pow]
          · have : ¬ i < n + 1 := by omega
            simp [this]
          · have h3 : 2 ^ (n + 1) ≤ 2 ^ i := Nat.pow_le_pow_right (by decide) (by omega)
            have h4 : 2 ^ (n + 1) = 2 ^ n * 2 := Nat.pow_succ ..
            omega
theorem filter_range_low {p : Nat → Bool} {n : Nat} : ∀ {m : Nat}, n ≤ m → (∀ i, n ≤ i → p i = false) → (List.range m).filter p = (List.range n).filter p
  | 0, h, _ => by have : n = 0 := by omega
                  rw [this]
  | m + 1, h, hp => by
    by_cases e : n = m + 1
    · rw [e]
    · rw [filter_range_succ, hp m (by omega), filter_range_low (m := m) (by omega) hp]
      simp
theorem filter_congr' {α : Type} {p q : α → Bool} {l : List α} (h : ∀ x ∈ l, p x = q x) : l.filter p = l.filter q := List.filter_congr h
/-- the members of the number made of a set -/
theorem bits_sum (p : Nat → Bool) {n m : Nat} (h : n ≤ m) : bitsOf m (sumP ((List.range n).filter p)) = (List.range n).filter p := by
  unfold bitsOf
  rw [filter_range_low h (fun i hi => by rw [(sumP_filter p n).2]; simp [Nat.not_lt.mpr hi])]
  refine List.filter_congr fun i hi => ?_
  rw [(sumP_filter p n).2]
  simp [List.mem_range.mp hi]
theorem bits_more {x n m : Nat} (h : x < 2 ^ n) (hm : n ≤ m) : bitsOf m x = bitsOf n x :=
  filter_range_low hm fun i hi => Nat.testBit_lt_two_pow (Nat.lt_of_lt_of_le h (Nat.pow_le_pow_right (by decide) hi))
theorem sum_bits {x : Nat} : ∀ {n : Nat}, x < 2 ^ n → sumP (bitsOf n x) = x := fun {n} h => by
  refine Nat.eq_of_testBit_eq fun i => ?_
  rw [show bitsOf n x = (List.range n).filter fun i => x.testBit i from rfl, (sumP_filter _ n).2]
  by_cases hi : i < n
  · simp [hi]
  · rw [Nat.testBit_lt_two_pow (Nat.lt_of_lt_of_le h (Nat.pow_le_pow_right (by decide) (by omega)))]
    simp [hi]
theorem sumP_range (n : Nat) : sumP (List.range n) = 2 ^ n - 1 := by
  induction n with
  | zero => rfl
  | succ n ih =>
    rw [List.range_succ, sumP_append, ih]
    have : sumP [n] = 2 ^ n := by simp [sumP]
    rw [this, Nat.pow_succ]
    have := Nat.two_pow_pos n
    omega
theorem bits_len {n x : Nat} : (bitsOf n x).length ≤ n := by
  have := List.length_filter_le (fun i => x.testBit i) (List.range n)
  rw [List.length_range] at this
  exact this
theorem mem_bits {n x i : Nat} : i ∈ bitsOf n x ↔ i < n ∧ x.testBit i = true := by unfold bitsOf; rw [List.mem_filter, List.mem_range]
theorem bits_asc {n : Nat} {p : Nat → Bool} : ((List.range n).filter p).Pairwise (· < ·) := List.Pairwise.filter _ List.pairwise_lt_range
/-- the sums of the subsets -/
def subsP (ws : List Nat) : List Nat := ws.foldl (fun f w => f ++ f.map fun o => o + 2 ^ w) [0]
/-- x >> w & 1 -/
theorem bit_int (x w : Nat) : Builtin.bitAnd ((x : Int) / 2 ^ ((w : Int)).toNat) 1 = if x.testBit w then 1 else 0 := by
  rw [Int.toNat_natCast]
  have e : (x : Int) / 2 ^ w = ((x / 2 ^ w : Nat) : Int) := by
    rw [Int.natCast_ediv, Int.natCast_pow]; rfl
  rw [e, bitAnd_pp (Int.natCast_nonneg _) (by decide), Int.toNat_natCast]
  have e2 : (1 : Int).toNat = 1 := rfl
  rw [e2, Nat.and_one_is_mod]
  rw [Nat.testBit, Nat.shiftRight_eq_div_pow]
  have := Nat.mod_two_eq_zero_or_one (x / 2 ^ w)
  rw [Nat.one_and_eq_mod_two]
  rcases this with h | h
  · rw [h]; rfl
  · rw [h]; rfl
theorem or_pow {o w : Nat} (h : o < 2 ^ w) : Builtin.bitOr (o : Int) ((1 : Int) * 2 ^ ((w : Int)).toNat) = ((o + 2 ^ w : Nat) : Int) := by
  rw [Int.toNat_natCast, Int.one_mul]
  have e : (2 : Int) ^ w = ((2 ^ w : Nat) : Int) := by rw [Int.natCast_pow]; rfl
  rw [e, L2.bitOr_nn (Int.natCast_nonneg _) (Int.natCast_nonneg _), Int.toNat_natCast, Int.toNat_natCast]
  have q := Nat.two_pow_add_eq_or_of_lt h 1
  rw [Nat.mul_one] at q
  rw [Nat.or_comm, Nat.add_comm, q]
end OM
namespace OM
open PySem PySem.Spec PyProof.Rows L2
theorem subsP_fold : ∀ (ws : List Nat) (b : Nat) (f : List Nat), (∀ o ∈ f, o < 2 ^ b) → f.Pairwise (· < ·) → (∀ w ∈ ws, b ≤ w) → ws.Pairwise (· < ·) → (ws.foldl (fun f w => f ++ f.map fun o => o + 2 ^ w) f).Pairwise (· < ·)
  | [], _, _, _, hp, _, _ => hp
  | w :: ws, b, f, hb, hp, hw, ha => by
    have hbw : 2 ^ b ≤ 2 ^ w := Nat.pow_le_pow_right (by decide) (hw w List.mem_cons_self)
    refine subsP_fold ws (w + 1) _ (fun o ho => ?_) ?_ (fun v hv => (List.pairwise_cons.mp ha).1 v hv) (List.pairwise_cons.mp ha).2
    · rcases List.mem_append.mp ho with h | h
      · have := hb o h
        rw [Nat.pow_succ]; omega
      · obtain ⟨o', ho', rfl⟩ := List.mem_map.mp h
        have := hb o' ho'
        rw [Nat.pow_succ]; omega
    · refine List.pairwise_append.mpr ⟨hp, List.pairwise_map.mpr (hp.imp fun h => by omega), fun x hx y hy => ?_⟩
      obtain ⟨o', ho', rfl⟩ := List.mem_map.mp hy
      have := hb x hx
      omega
theorem subsP_asc {ws : List Nat} (h : ws.Pairwise (· < ·)) : (subsP ws).Pairwise (· < ·) := subsP_fold ws 0 [0] (by simp) (by simp) (fun _ _ => Nat.zero_le _) h
theorem subsP_len : ∀ (ws : List Nat) (f : List Nat), (ws.foldl (fun f w => f ++ f.map fun o => o + 2 ^ w) f).length = f.length * 2 ^ ws.length
  | [], f => by simp
  | w :: ws, f => by
    rw [List.foldl_cons, subsP_len ws, List.length_append, List.length_map, List.length_cons, Nat.pow_succ]
    rw [← Nat.mul_two, Nat.mul_assoc, Nat.mul_comm 2]
theorem subsP_lt : ∀ (ws : List Nat) (b : Nat) (f : List Nat), (∀ o ∈ f, o < 2 ^ b) → (∀ w ∈ ws, b ≤ w) → ws.Pairwise (· < ·) → ∀ n, (∀ w ∈ ws, w < n) → b ≤ n → ∀ o ∈ (ws.foldl (fun f w => f ++ f.map fun o => o + 2 ^ w) f), o < 2 ^ n
  | [], b, f, hb, _, _, n, _, hn, o, ho => Nat.lt_of_lt_of_le (hb o ho) (Nat.pow_le_pow_right (by decide) hn)
  | w :: ws, b, f, hb, hw, ha, n, hn, hbn, o, ho => by
    have hbw : 2 ^ b ≤ 2 ^ w := Nat.pow_le_pow_right (by decide) (hw w List.mem_cons_self)
    refine subsP_lt ws (w + 1) _ (fun o ho => ?_) (fun v hv => (List.pairwise_cons.mp ha).1 v hv) (List.pairwise_cons.mp ha).2 n (fun v hv => hn v (List.mem_cons_of_mem _ hv)) (hn w List.mem_cons_self) o ho
    rcases List.mem_append.mp ho with h | h
    · have := hb o h
      rw [Nat.pow_succ]; omega
    · obtain ⟨o', ho', rfl⟩ := List.mem_map.mp h
      have := hb o' ho'
      rw [Nat.pow_succ]; omega
theorem sort_asc {ns : List Int} (h : ns.Pairwise (· ≤ ·)) : sortI ns = ns := by
  unfold sortI
  exact List.mergeSort_of_pairwise (h.imp fun h => decide_eq_true h)
theorem intsD_nat : ∀ (ns : List Nat), intsD (ns.map nD) = some (ns.map fun n : Nat => (n : Int))
  | [] => rfl
  | n :: ns => by simp only [List.map_cons, intsD, intsD_nat ns, Option.map_some]
theorem sum_cast : ∀ (ns : List Nat), (ns.map fun n : Nat => (n : Int)).sum = ((ns.sum : Nat) : Int)
  | [] => rfl
  | n :: ns => by rw [List.map_cons, List.sum_cons, List.sum_cons, sum_cast ns, Int.natCast_add]
theorem one_shl (w : Nat) : (1 : Int) * 2 ^ ((w : Int)).toNat = ((2 ^ w : Nat) : Int) := by
  rw [Int.toNat_natCast, Int.one_mul, Int.natCast_pow]; rfl
theorem shOk_one {w : Nat} (h : w ≤ 1000000) : shOk 1 (w : Int) = true := by
  unfold shOk
  rw [Bool.and_eq_true, Bool.and_eq_true]
  exact ⟨⟨decide_eq_true (by omega), decide_eq_true (by omega)⟩, by decide⟩
end OM
namespace OM
open PySem PySem.Spec PyProof.Rows L2
theorem bits_succ {w x : Nat} : bitsOf (w + 1) x = bitsOf w x ++ if x.testBit w then [w] else [] := filter_range_succ _ _
theorem shr_pos {x w : Nat} : (0 < (x : Int) / 2 ^ ((w : Int)).toNat) ↔ 2 ^ w ≤ x := by
  rw [Int.toNat_natCast]
  have e : (x : Int) / 2 ^ w = ((x / 2 ^ w : Nat) : Int) := by
    rw [Int.natCast_ediv, Int.natCast_pow]; rfl
  rw [e]
  have hp := Nat.two_pow_pos w
  constructor
  · intro h
    by_cases hx : 2 ^ w ≤ x
    · exact hx
    · rw [Nat.div_eq_of_lt (by omega)] at h; simp at h
  · intro h
    have := Nat.div_pos h hp
    omega
theorem dSum_nat {ns : List Nat} : dSum (.lst (ns.map nD)) = some (nD ns.sum) := by
  simp only [dSum, seqD, Option.bind_some, intsD_nat, Option.map_some, sum_cast]
theorem dSrt_nat {ns : List Nat} (h : ns.Pairwise (· < ·)) : dSrt (.lst (ns.map nD)) = some (.lst (ns.map nD)) := by
  simp only [dSrt, intsD_nat, Option.map_some]
  rw [sort_asc (List.pairwise_map.mpr (h.imp fun h => by omega)), List.map_map]
  rfl
theorem bit_ne {b : Bool} : ((if b = true then (1 : Int) else 0) != 0) = b := by cases b <;> rfl
theorem enumD_at {α : Type} {f : α → D} {xs : List α} {i : Nat} {d : D} (h : (enumD (xs.map f))[i]? = some d) : ∃ x, xs[i]? = some x ∧ d = .tup [nD i, f x] := by
  unfold enumD at h
  rw [List.getElem?_map, List.getElem?_zipIdx, List.getElem?_map] at h
  cases e : xs[i]? with
  | none => rw [e] at h; cases h
  | some x =>
    rw [e] at h
    refine ⟨x, rfl, ?_⟩
    have := Option.some.inj h
    rw [← this]
    simp
theorem map_at {α : Type} {f : α → D} {xs : List α} {i : Nat} {d : D} (h : (xs.map f)[i]? = some d) : ∃ x, xs[i]? = some x ∧ d = f x := by
  rw [List.getElem?_map] at h
  cases e : xs[i]? with
  | none => rw [e] at h; cases h
  | some x => rw [e] at h; exact ⟨x, rfl, (Option.some.inj h).symm⟩
theorem subsP_snoc {ws : List Nat} {w : Nat} : subsP (ws ++ [w]) = subsP ws ++ (subsP ws).map fun o => o + 2 ^ w := by
  unfold subsP
  rw [List.foldl_append]; rfl
theorem take_snoc {α : Type} {ws : List α} {i : Nat} {w : α} (h : ws[i]? = some w) : ws.take (i + 1) = ws.take i ++ [w] := by
  rw [List.take_add_one, h]; rfl
theorem take_below {ws : List Nat} {i w : Nat} (ha : ws.Pairwise (· < ·)) (h : ws[i]? = some w) : ∀ v ∈ ws.take i, v < w := fun v hv => by
  obtain ⟨j, hj, rfl⟩ := List.mem_take_iff_getElem.mp hv
  obtain ⟨q1, q2⟩ := List.getElem?_eq_some_iff.mp h
  rw [← q2]
  exact List.pairwise_iff_getElem.mp ha j i (by omega) q1 (by omega)
theorem subsP_below {ws : List Nat} {i w : Nat} (ha : ws.Pairwise (· < ·)) (h : ws[i]? = some w) : ∀ o ∈ subsP (ws.take i), o < 2 ^ w :=
  subsP_lt (ws.take i) 0 [0] (by simp) (fun _ _ => Nat.zero_le _) (ha.sublist (List.take_sublist _ _)) w (take_below ha h) (Nat.zero_le _)
theorem subsP_length {ws : List Nat} : (subsP ws).length = 2 ^ ws.length := by
  have := subsP_len ws [0]
  rw [show subsP ws = ws.foldl (fun f w => f ++ f.map fun o => o + 2 ^ w) [0] from rfl, this]
  simp
theorem pow12 {n : Nat} (h : n ≤ 12) : 2 ^ n ≤ 4096 := Nat.le_trans (Nat.pow_le_pow_right (by decide) h) (by decide)
end OM
namespace OM
open PySem PySem.Spec PyProof.Rows L2
theorem nice_word {x : Str} (h : PyData.strOk x = true) (hw : x.cps.size ≤ 20) : Nice 20 0 (.str x) := (nice_str h).mono hw (Nat.le_refl _)
theorem nices_nat {ns : List Nat} {n : Nat} (h : ∀ i ∈ ns, i < 100000000000000000000) (hl : ns.length ≤ n) : Nices (71 * n) 0 (ns.map nD) :=
  nices_all (w := 70) (fun d hd => by obtain ⟨i, hi, rfl⟩ := List.mem_map.mp hd; have := h i hi; exact nice_int (by omega) (by omega)) (by rw [List.length_map]; exact hl)
end OM
namespace OM
open PySem PySem.Spec PyProof.Rows L2
/-! ### more built-ins -/
def blsD : List D → Option (List Bool)
  | [] => some []
  | .bl b :: ds => (blsD ds).map (b :: ·)
  | _ => none
theorem blsD_map : ∀ {ds : List D} {bs : List Bool}, blsD ds = some bs → ds = bs.map .bl
  | [], bs, h => by cases h; rfl
  | d :: ds, bs, h => by
    cases d <;> try (simp [blsD] at h; done)
    rename_i b
    simp only [blsD, Option.map_eq_some_iff] at h
    obtain ⟨cs, h1, rfl⟩ := h
    rw [blsD_map h1]; rfl
def dAll (d : D) : Option D := match d with
  | .lst ds => (blsD ds).map fun bs => .bl (bs.all id)
  | _ => none
def dAny (d : D) : Option D := match d with
  | .lst ds => (blsD ds).map fun bs => .bl (bs.any id)
  | _ => none
section
variable {K : PySem.W.Frag}
theorem cs_all : CallS K (rAll K) dAll := by
  intro F H M σ ρ st x dx d Q S rx e q
  cases dx with
  | lst ds =>
    simp only [dAll, Option.map_eq_some_iff] at e
    obtain ⟨bs, e1, rfl⟩ := e
    have e2 := blsD_map e1
    subst e2
    obtain ⟨a, vs, rfl, h, z, r⟩ := rx.lst S.ss.sub
    rw [r.bls] at h
    exact ⟨a, bs, rfl, SqL.of h, q _ F H M S Fr.refl (.bl _)⟩
  | _ => cases e
theorem cs_any : CallS K (rAny K) dAny := by
  intro F H M σ ρ st x dx d Q S rx e q
  cases dx with
  | lst ds =>
    simp only [dAny, Option.map_eq_some_iff] at e
    obtain ⟨bs, e1, rfl⟩ := e
    have e2 := blsD_map e1
    subst e2
    obtain ⟨a, vs, rfl, h, z, r⟩ := rx.lst S.ss.sub
    rw [r.bls] at h
    exact ⟨a, bs, rfl, SqL.of h, q _ F H M S Fr.refl (.bl _)⟩
  | _ => cases e
end
/-- the greatest, the least -/
def maxI : List Int → Int
  | [] => 0
  | [x] => x
  | x :: y :: xs => max x (maxI (y :: xs))
def minI : List Int → Int
  | [] => 0
  | [x] => x
  | x :: y :: xs => min x (minI (y :: xs))
theorem maxI_mem : ∀ {xs : List Int}, xs ≠ [] → maxI xs ∈ xs
  | [x], _ => List.mem_cons_self
  | x :: y :: xs, _ => by
    show max x (maxI (y :: xs)) ∈ _
    rcases Int.le_total x (maxI (y :: xs)) with h | h
    · rw [Int.max_eq_right h]; exact List.mem_cons_of_mem _ (maxI_mem (by simp))
    · rw [Int.max_eq_left h]; exact List.mem_cons_self
theorem maxI_le : ∀ {xs : List Int} {z : Int}, z ∈ xs → z ≤ maxI xs
  | [x], z, h => by have : z = x := by simpa using h
                    rw [this]; exact Int.le_refl _
  | x :: y :: xs, z, h => by
    show z ≤ max x (maxI (y :: xs))
    rcases List.mem_cons.mp h with h | h
    · rw [h]; exact Int.le_max_left _ _
    · exact Int.le_trans (maxI_le h) (Int.le_max_right _ _)
theorem minI_mem : ∀ {xs : List Int}, xs ≠ [] → minI xs ∈ xs
  | [x], _ => List.mem_cons_self
  | x :: y :: xs, _ => by
    show min x (minI (y :: xs)) ∈ _
    rcases Int.le_total x (minI (y :: xs)) with h | h
    · rw [Int.min_eq_left h]; exact List.mem_cons_self
    · rw [Int.min_eq_right h]; exact List.mem_cons_of_mem _ (minI_mem (by simp))
theorem minI_le : ∀ {xs : List Int} {z : Int}, z ∈ xs → minI xs ≤ z
  | [x], z, h => by have : z = x := by simpa using h
                    rw [this]; exact Int.le_refl _
  | x :: y :: xs, z, h => by
    show min x (minI (y :: xs)) ≤ z
    rcases List.mem_cons.mp h with h | h
    · rw [h]; exact Int.min_le_left _ _
    · exact Int.le_trans (Int.min_le_right _ _) (minI_le h)
theorem maxI_eq {xs : List Int} {m : Int} (h : m ∈ xs) (g : ∀ y ∈ xs, y ≤ m) : m = maxI xs := Int.le_antisymm (maxI_le h) (g _ (maxI_mem fun z => by rw [z] at h; cases h))
theorem minI_eq {xs : List Int} {m : Int} (h : m ∈ xs) (g : ∀ y ∈ xs, m ≤ y) : m = minI xs := Int.le_antisymm (g _ (minI_mem fun z => by rw [z] at h; cases h)) (minI_le h)
def dMax (d : D) : Option D := (seqD d).bind fun ds => (intsD ds).bind fun ns => if ns.isEmpty then none else some (.int (maxI ns))
def dMin (d : D) : Option D := (seqD d).bind fun ds => (intsD ds).bind fun ns => if ns.isEmpty then none else some (.int (minI ns))
def rMaxA (K : PySem.W.Frag) : List V → Hp → VK → Prop := fun vs H Q => ∃ (a : Addr) (ns : List Int), vs = [V.ref a] ∧ (SqL K H a (ns.map V.int) ∨ SqT K H a (ns.map V.int)) ∧ ns ≠ [] ∧ Q (.int (maxI ns)) H
def rMinA (K : PySem.W.Frag) : List V → Hp → VK → Prop := fun vs H Q => ∃ (a : Addr) (ns : List Int), vs = [V.ref a] ∧ (SqL K H a (ns.map V.int) ∨ SqT K H a (ns.map V.int)) ∧ ns ≠ [] ∧ Q (.int (minI ns)) H
section
variable {X : Cx}
theorem vals_at {its : List Value} {ns : List Int} (rv : Vals (ns.map V.int) its) {i : Nat} {v : Value} (hv : its[i]? = some v) : ∃ t, v = .int (ns.getD i 0) t ∧ i < ns.length := by
  cases q2 : (ns.map V.int)[i]? with
  | none => rw [rv.none_of q2] at hv; cases hv
  | some x =>
    obtain ⟨u, h1, h2⟩ := rv.get q2
    rw [hv] at h1; cases h1
    rw [List.getElem?_map] at q2
    cases q3 : ns[i]? with
    | none => rw [q3] at q2; cases q2
    | some n =>
      rw [q3] at q2
      cases q2
      obtain ⟨t, rfl⟩ := h2
      exact ⟨t, by simp [List.getD, q3], (List.getElem?_eq_some_iff.mp q3).1⟩
theorem getD_mem' {ns : List Int} {i : Nat} (h : i < ns.length) : ns.getD i 0 ∈ ns := by
  rw [List.getD_eq_getElem?_getD, List.getElem?_eq_getElem h]
  exact List.getElem_mem h
theorem cr_maxA (hc : X.calm = true) : CallR X (.builtin "max") (rMaxA X.K) := by
  intro pins s σ H vs us Q I r h
  obtain ⟨a, ns, rfl, hs, hne, q⟩ := h
  rcases hs with hs | hs
  · exact cr_max hc pins s σ H _ us Q I r ⟨a, ns, rfl, hs, List.length_pos_iff.mpr hne, fun m h1 h2 => by rw [maxI_eq h1 h2]; exact q⟩
  · rw [Vals.ref1 r]
    obtain ⟨its, rv, hl, _⟩ := I.tuple hs
    have hlt : a < s.heap.objs.size := hl.lt
    have hn : its.toArray.size = ns.length := by rw [List.size_toArray, ← rv.length, List.length_map]
    have hpos := List.length_pos_iff.mpr hne
    refine call_max_walk (wpAny_pyIter_tuple (show s.heap.IsTuple a its.toArray from hl) ⟨s.heap.objs.size, _, _, _, _, _, _, rfl, Walks.tuple (A := X.A.in1) (I.ok.hd hc) _ a (Nat.ne_of_lt hlt) its.toArray, ⟨⟨_, Heap.get?_push_size _ rfl, rfl, rfl⟩, IsTup.push hl _⟩, fun b hb => ?_, by rw [hn]; exact hpos, CmpOf.ints_gt (fun i => ns.getD i 0) (fun i v hv => (vals_at rv (by simpa using hv)).imp fun t h => h.1), fun v h' tk hv hk' => ?_⟩)
    · show b < (s.heap.push _).objs.size
      rw [Heap.size_push]
      have e : b = s.heap.objs.size ∨ b = a := by simpa using hb
      rcases e with e | e
      · rw [e]; exact Nat.lt_succ_self _
      · rw [e]; exact Nat.lt_succ_of_lt hlt
    · simp only [List.getElem?_toArray] at hv
      obtain ⟨t, rfl, hi⟩ := vals_at rv hv
      obtain ⟨h1, h2⟩ := argBest_gt (fun i => ns.getD i 0) (its.toArray.size - 1)
      have em : ns.getD (argBest (fun i j => decide (ns.getD i 0 > ns.getD j 0)) (its.toArray.size - 1)) 0 = maxI ns := maxI_eq (getD_mem' hi) fun y hy => by
        obtain ⟨j, hj, rfl⟩ := List.getElem_of_mem hy
        have := h2 j (by omega)
        rw [show ns[j] = ns.getD j 0 by rw [List.getD_eq_getElem?_getD, List.getElem?_eq_getElem hj]; rfl]
        exact this
      rw [em]
      refine ⟨.int (maxI ns), H, I.kept (t' := tk) fun b o e => hk' b o (fun z => ?_) (Heap.get?_push_of_some _ e), ⟨_, rfl⟩, q⟩
      have e2 : b = s.heap.objs.size := by simpa using z
      exact absurd (Heap.lt_size e) (by rw [e2]; exact Nat.lt_irrefl _)
theorem cr_minA (hc : X.calm = true) : CallR X (.builtin "min") (rMinA X.K) := by
  intro pins s σ H vs us Q I r h
  obtain ⟨a, ns, rfl, hs, hne, q⟩ := h
  rcases hs with hs | hs
  · exact cr_min hc pins s σ H _ us Q I r ⟨a, ns, rfl, hs, List.length_pos_iff.mpr hne, fun m h1 h2 => by rw [minI_eq h1 h2]; exact q⟩
  · rw [Vals.ref1 r]
    obtain ⟨its, rv, hl, _⟩ := I.tuple hs
    have hlt : a < s.heap.objs.size := hl.lt
    have hn : its.toArray.size = ns.length := by rw [List.size_toArray, ← rv.length, List.length_map]
    have hpos := List.length_pos_iff.mpr hne
    refine call_min_walk (wpAny_pyIter_tuple (show s.heap.IsTuple a its.toArray from hl) ⟨s.heap.objs.size, _, _, _, _, _, _, rfl, Walks.tuple (A := X.A.in1) (I.ok.hd hc) _ a (Nat.ne_of_lt hlt) its.toArray, ⟨⟨_, Heap.get?_push_size _ rfl, rfl, rfl⟩, IsTup.push hl _⟩, fun b hb => ?_, by rw [hn]; exact hpos, CmpOf.ints_lt (fun i => ns.getD i 0) (fun i v hv => (vals_at rv (by simpa using hv)).imp fun t h => h.1), fun v h' tk hv hk' => ?_⟩)
    · show b < (s.heap.push _).objs.size
      rw [Heap.size_push]
      have e : b = s.heap.objs.size ∨ b = a := by simpa using hb
      rcases e with e | e
      · rw [e]; exact Nat.lt_succ_self _
      · rw [e]; exact Nat.lt_succ_of_lt hlt
    · simp only [List.getElem?_toArray] at hv
      obtain ⟨t, rfl, hi⟩ := vals_at rv hv
      obtain ⟨h1, h2⟩ := argBest_lt (fun i => ns.getD i 0) (its.toArray.size - 1)
      have em : ns.getD (argBest (fun i j => decide (ns.getD i 0 < ns.getD j 0)) (its.toArray.size - 1)) 0 = minI ns := minI_eq (getD_mem' hi) fun y hy => by
        obtain ⟨j, hj, rfl⟩ := List.getElem_of_mem hy
        have := h2 j (by omega)
        rw [show ns[j] = ns.getD j 0 by rw [List.getD_eq_getElem?_getD, List.getElem?_eq_getElem hj]; rfl]
        exact this
      rw [em]
      refine ⟨.int (minI ns), H, I.kept (t' := tk) fun b o e => hk' b o (fun z => ?_) (Heap.get?_push_of_some _ e), ⟨_, rfl⟩, q⟩
      have e2 : b = s.heap.objs.size := by simpa using z
      exact absurd (Heap.lt_size e) (by rw [e2]; exact Nat.lt_irrefl _)
end
section
variable {K : PySem.W.Frag}
theorem seqI_ok {F H : Hp} {M : Mp} {x : V} {dx : D} {ns : List Int} (s : Same F H) (rx : PB K F H M x dx) (e : (seqD dx).bind intsD = some ns) : ∃ a, x = .ref a ∧ (SqL K H a (ns.map V.int) ∨ SqT K H a (ns.map V.int)) := by
  cases dx with
  | lst ds =>
    have e2 := intsD_map (show intsD ds = some ns from e)
    subst e2
    obtain ⟨a, vs, rfl, h, z, r⟩ := rx.lst s
    rw [r.ints] at h
    exact ⟨a, rfl, .inl (SqL.of h)⟩
  | tup ds =>
    have e2 := intsD_map (show intsD ds = some ns from e)
    subst e2
    obtain ⟨a, vs, rfl, h, z, r⟩ := rx.tup s
    rw [r.ints] at h
    exact ⟨a, rfl, .inr h⟩
  | _ => cases e
theorem cs_max : CallS K (rMaxA K) dMax := by
  intro F H M σ ρ st x dx d Q S rx e q
  unfold dMax at e
  cases q1 : seqD dx with
  | none => rw [q1] at e; cases e
  | some ds =>
    rw [q1, Option.bind_some] at e
    cases q2 : intsD ds with
    | none => rw [q2] at e; cases e
    | some ns =>
      rw [q2, Option.bind_some] at e
      split at e
      · cases e
      · rename_i hn
        cases e
        obtain ⟨a, rfl, h⟩ := seqI_ok S.ss.sub rx (by rw [q1, Option.bind_some, q2])
        exact ⟨a, ns, rfl, h, fun z => hn (by rw [z]; rfl), q _ F H M S Fr.refl (.int _)⟩
theorem cs_min : CallS K (rMinA K) dMin := by
  intro F H M σ ρ st x dx d Q S rx e q
  unfold dMin at e
  cases q1 : seqD dx with
  | none => rw [q1] at e; cases e
  | some ds =>
    rw [q1, Option.bind_some] at e
    cases q2 : intsD ds with
    | none => rw [q2] at e; cases e
    | some ns =>
      rw [q2, Option.bind_some] at e
      split at e
      · cases e
      · rename_i hn
        cases e
        obtain ⟨a, rfl, h⟩ := seqI_ok S.ss.sub rx (by rw [q1, Option.bind_some, q2])
        exact ⟨a, ns, rfl, h, fun z => hn (by rw [z]; rfl), q _ F H M S Fr.refl (.int _)⟩
end
end OM
namespace OM
open PySem PySem.Spec PyProof.Rows L2
section
variable {prog : Program} {w : World} {A : Around} {E : Value → Shared → Prop} {s : Shared}
theorem collect_tup {l : Addr} {vs : List Value} {Q : List Value → Shared → Prop} (hl : s.heap.IsTuple l vs.toArray)
    (h : Q vs { s with heap := (s.heap.push (seqObj "list" #[] 0)).update s.heap.objs.size (Obj.mapSeq (· ++ vs.toArray)) }) (hsz : vs.length ≤ sizeLine) : wpAny (model prog w) A (collect (.ref l)) Q E s := by
  obtain ⟨o, ho, hc, n, hd⟩ := id hl
  unfold collect
  refine wpAny_bind (wpAny_runValue (codeAny_builtin entry_proto_collect' ?_))
  show wpAny _ _ (do again (.builtin "list.__iadd__" ⟨[← newList [], .ref l], []⟩)) _ _ s
  refine wpAny_bind (wpAny_newList (wpAny_pure ⟨Code.quiet_builtin _ (by decide +kernel), codeAny_builtin entry_list_iadd' ?_⟩))
  show wpAny _ _ (Builtin.List.listExtendWith (.ref s.heap.objs.size) (.ref l) (.ref s.heap.objs.size)) _ _ { s with heap := s.heap.push (seqObj "list" #[] 0) }
  unfold Builtin.List.listExtendWith
  have ho' : (s.heap.push (seqObj "list" #[] 0)).get? l = some o := Heap.get?_push_of_some _ ho
  refine wpAny_bind (wpAny_typeOf (T := "tuple") ⟨o, ho', hc⟩ ?_)
  have ht : (Value.type "tuple" == Value.type "tuple") = true := by rfl
  rw [if_pos (by rw [ht]; simp)]
  refine wpAny_bind (listItems_at ho' hd ?_)
  refine wpAny_bind (listItems_at (xs := #[]) (n := 0) (Heap.get?_push_size _ rfl) rfl ?_)
  rw [if_neg (by simp)]
  refine wpAny_bind (listUpdate_at (xs := #[]) (n := 0) (Heap.get?_push_size _ rfl) rfl ?_ (Nat.zero_le _) (by show (#[] ++ vs.toArray).size ≤ sizeLine + 1; simp only [Array.size_append, List.size_toArray, List.length_nil]; omega))
  refine wpAny_pure ?_
  show wpAny (model prog w) A (do
      let o ← load s.heap.objs.size
      match o.data with
      | .seq xs _ => pure xs.toList
      | _ => unsupported "internal:collect") Q E { s with heap := (s.heap.push (seqObj "list" #[] 0)).update s.heap.objs.size (Obj.mapSeq (· ++ vs.toArray)) }
  refine wpAny_bind (wpAny_load (get?_update_seq (Heap.get?_push_size _ rfl) _) ?_)
  show wpAny _ _ (pure ((#[] : Array Value) ++ vs.toArray).toList) Q E _
  rw [show ((#[] : Array Value) ++ vs.toArray).toList = vs by simp]
  exact wpAny_pure h
end
end OM
namespace OM
open PySem PySem.Spec PyProof.Rows L2 PySem.W
/-! ### sorted of a list or a tuple of data -/
section
variable {prog : Program} {w : World} {A : Around} {E : Value → Shared → Prop} {s : Shared}
theorem sorted_of_sortT {l : Addr} {vs : List Value} {kw : List (Str × Value)} {Q : Value → Shared → Prop} (hl : s.heap.IsTuple l vs.toArray) (hL : vs.length ≤ sizeLine) (ha1 : argsOk "sorted" ⟨[.ref l], kw⟩) (ha2 : ∀ x, argsOk "list.sort" ⟨[.ref x], kw⟩)
    (body : ∀ E' : Value → Shared → Prop, wpAny (model prog w) A.in1.in1 (Builtin.«list.sort» ⟨[.ref (s.heap.objs.size + 1)], kw⟩) (fun f s' => f = .done (.ret .none) ∧ Q (.ref (s.heap.objs.size + 1)) s') E' { s with heap := copyHeap s.heap vs }) :
    wpAny (model prog w) A (call (.builtin "sorted") [.ref l] kw) Q E s := by
  refine call_function_entry_kw kind_sorted plain_sorted entry_sorted ha1 ?_
  unfold Builtin.«sorted»
  refine wpAny_bind (m := checkCount "sorted" 1 1 _) (wpAny_pure ?_)
  refine wpAny_bind (collect_tup hl ?_ hL)
  refine wpAny_bind (wpAny_newList ?_ hL)
  have hsz : ((s.heap.push (seqObj "list" #[] 0)).update s.heap.objs.size (Obj.mapSeq (· ++ vs.toArray))).objs.size = s.heap.objs.size + 1 := by
    rw [Heap.size_update, size_push']
  show wpAny _ _ _ _ _ { s with heap := copyHeap s.heap vs }
  rw [hsz]
  refine wpAny_bind (wpAny_holding (wpAny_call_entry_kw slot_list_sort ⟨_, copyHeap_at s.heap vs, rfl⟩ entry_list_sort ?body (ha2 _)))
  case body =>
    show wpAny (model prog w) A.in1.in1 (Builtin.«list.sort» ⟨[.ref (s.heap.objs.size + 1)], kw⟩) _ _ _
    refine wpAny_mono (body _) (fun f s' hf => ?_) fun _ _ e => e
    obtain ⟨rfl, hq⟩ := hf
    exact ⟨_, rfl, wpAny_pure ⟨_, rfl, hq⟩⟩
variable {β : Type} {vs : List Value} {bs : List β} {enc : β → PyData} {R : Value → β → Prop}
theorem sorted_dataA {l : Addr} {Q : Value → Shared → Prop} (hl : s.heap.IsList l vs.toArray ∨ s.heap.IsTuple l vs.toArray) (e : EachIs R vs bs) (er : EachIs (fun v b => ∃ as, Reads s.heap v (enc b) as) vs bs) (hal : AllAlike (bs.map enc)) (hk : Sortable (bs.map enc)) (hL : bs.length ≤ sizeLine)
    (hu : ∀ b, b ∈ bs → A.units + 2 + (enc b).depth < cLine) (h : ∀ out, out.length = bs.length → EachIs R out (bs.mergeSort (dataLe false enc)) → Q (.ref (s.heap.objs.size + 1)) { s with heap := sortedAll s.heap vs (List.toArray out) }) :
    wpAny (model prog w) A (call (.builtin "sorted") [.ref l]) Q E s := by
  rcases hl with hl | hl
  · exact sorted_data hl e er hal hk hL hu h
  have er' : EachIs (fun v b => ∃ as, Reads (sortingHeap (copyHeap s.heap vs) (s.heap.objs.size + 1) vs) v (enc b) as) vs bs := er.mono fun _ _ ⟨as, r⟩ => ⟨as, PyProof.Rows.Reads.keeps (fun _ _ => sorting_copy_old) r⟩
  have S := SortsAt.data (prog := prog) (w := w) (A := A.in1.in1) (s := { s with heap := sortingHeap (copyHeap s.heap vs) (s.heap.objs.size + 1) vs }) (each_map (R := fun v d => ∃ as, Reads (sortingHeap (copyHeap s.heap vs) (s.heap.objs.size + 1) vs) v d as) enc er') hal hk (bound_map hu)
  exact sorted_of_sortT hl (by rw [e.length]; exact hL) (args_sorted1 _) (fun _ => args_list_sort _) fun _ => list_sort_vals (s := { s with heap := copyHeap s.heap vs }) (copyHeap_at s.heap vs) S (by rw [e.length]; exact hL) ⟨rfl, h _ (by rw [sortVals_length false rfl]; exact e.length) (sortVals_data false e er' hal)⟩
end
def encD (d : D) : PyData := (d.py).getD .none
def sortD (ds : List D) : List D := ds.mergeSort (dataLe false encD)
/-- may be sorted -/
def allAlikeB (ps : List PyData) : Bool := ps.all fun p => ps.all fun q => alike p q
def isTupB (p : PyData) : Bool := match p with
  | .tuple (_ :: _) => true
  | _ => false
def isPlainB (p : PyData) : Bool := match p with
  | .none => false
  | .tuple _ => false
  | _ => true
def sortableB (ps : List PyData) : Bool := allAlikeB ps && (ps.all isTupB || ps.all isPlainB) && ps.all fun p => decide (p.depth ≤ 64)
def dSrtA (d : D) : Option D := (seqD d).bind fun ds => (D.pys ds).bind fun ps => if sortableB ps then some (.lst (sortD ds)) else none
theorem pys_map : ∀ {ds : List D} {ps : List PyData}, D.pys ds = some ps → ps = ds.map encD
  | [], ps, h => by simp only [D.pys, Option.some.injEq] at h; rw [← h]; rfl
  | d :: ds, ps, h => by
    cases q1 : d.py with
    | none => simp [D.pys, q1] at h
    | some p =>
      cases q2 : D.pys ds with
      | none => simp [D.pys, q1, q2] at h
      | some qs =>
        simp only [D.pys, q1, q2, Option.some.injEq] at h
        rw [← h, pys_map q2, List.map_cons]
        unfold encD
        rw [q1]; rfl
def rSortD (K : PySem.W.Frag) : List V → Hp → VK → Prop := fun vs H Q => ∃ (a : Addr) (xs : List V) (ds : List D) (ps : List PyData) (F : Hp) (M : Mp), vs = [V.ref a] ∧ (SqL K H a xs ∨ SqT K H a xs) ∧ Same F H ∧ RVs K F M xs ds ∧ ds.length ≤ sizeLine ∧ D.pys ds = some ps ∧ sortableB ps = true ∧
  ∀ (ws : List V) (p : Addr), RVs K F M ws (sortD ds) → H p = none → Q (.ref p) (upd H p (.lst ws))
theorem each_of {F H : Hp} {M : Mp} {X : Cx} {pins : List (Addr × Obj)} {σ : L2.St} {s : Shared} (I : Inv X pins σ H s) (sm : Same F H) : ∀ {xs : List V} {ds : List D} {ps : List PyData} {its : List Value}, RVs X.K F M xs ds → D.pys ds = some ps → Vals xs its →
    EachIs (fun v d => (∃ x, RelV x v ∧ RV X.K F M x d) ∧ ∃ as, Reads s.heap v (encD d) as) its ds
  | _, [], _, _, .nil, _, .nil => .nil
  | _, d :: ds, ps, _, .cons a b, h, .cons r t => by
    cases q1 : d.py with
    | none => simp [D.pys, q1] at h
    | some p =>
      cases q2 : D.pys ds with
      | none => simp [D.pys, q1, q2] at h
      | some qs =>
        refine .cons ⟨⟨_, r, a⟩, ?_⟩ (each_of I sm b q2 t)
        have hd := RV.dp sm d a q1
        obtain ⟨as, h2⟩ := Dp.reads I p _ _ hd r
        exact ⟨as, by unfold encD; rw [q1]; exact h2⟩
theorem each_out {K : PySem.W.Frag} {F : Hp} {M : Mp} : ∀ {out : List Value} {ds : List D}, EachIs (fun v d => (∃ x, RelV x v ∧ RV K F M x d) ∧ True) out ds → ∃ ws, Vals ws out ∧ RVs K F M ws ds
  | _, _, .nil => ⟨[], .nil, .nil⟩
  | _, _, .cons ⟨⟨x, r, a⟩, _⟩ t => by
    obtain ⟨ws, h1, h2⟩ := each_out t
    exact ⟨x :: ws, .cons r h1, .cons a h2⟩
theorem cr_sortD {X : Cx} (hu : X.A.units + 100 < cLine) : CallR X (.builtin "sorted") (rSortD X.K) := by
  intro pins s σ H vs us Q I r h
  obtain ⟨a, xs, ds, ps, F, M, rfl, hs, sm, rs, hz, hp, hsb, q⟩ := h
  rw [Vals.ref1 r]
  have em := pys_map hp
  unfold sortableB at hsb
  rw [Bool.and_eq_true, Bool.and_eq_true] at hsb
  obtain ⟨⟨b1, b2⟩, b3⟩ := hsb
  have hal : AllAlike (ds.map encD) := fun d hd d' hd' => by
    rw [← em] at hd hd'
    exact List.all_eq_true.mp (List.all_eq_true.mp b1 d hd) d' hd'
  have hk : Sortable (ds.map encD) := by
    rw [← em]
    rcases Bool.or_eq_true_iff.mp b2 with b2 | b2
    · refine .inl fun d hd => ?_
      have := List.all_eq_true.mp b2 d hd
      unfold isTupB at this
      split at this
      · exact ⟨_, _, rfl⟩
      · cases this
    · refine .inr fun d hd => ?_
      have := List.all_eq_true.mp b2 d hd
      unfold isPlainB at this
      refine ⟨fun z => by rw [z] at this; simp at this, fun zs z => by rw [z] at this; simp at this⟩
  have main : ∀ its : List Value, Vals xs its → (s.heap.IsList a its.toArray ∨ s.heap.IsTuple a its.toArray) → wpAny (model X.prog X.w) X.A (call (.builtin "sorted") [.ref a]) (EP X pins σ Q) X.xe s := fun its rv hl => by
    have e0 := each_of I sm rs hp rv
    refine sorted_dataA (R := fun v d => (∃ x, RelV x v ∧ RV X.K F M x d) ∧ True) (enc := encD) hl (e0.mono fun _ _ h => ⟨h.1, trivial⟩) (e0.mono fun _ _ h => h.2) hal hk hz (fun d hd => ?_) fun out hlen he => ?_
    · have hd' : encD d ∈ ps := by rw [em]; exact List.mem_map.mpr ⟨d, hd, rfl⟩
      have := of_decide_eq_true (List.all_eq_true.mp b3 _ hd')
      omega
    · obtain ⟨ws, h1, h2⟩ := each_out he
      obtain ⟨ep, he'⟩ := PyProof.Rows.sortedAll_at s.heap its out.toArray
      have hwl : ws.length ≤ sizeLine := by rw [h1.length, hlen]; exact hz
      exact ⟨.ref _, upd H (s.heap.objs.size + 1) (.lst ws), I.laid (t' := s.toks) (fun _ _ => PyProof.Rows.sortedAll_old) (Nat.le_succ _) ⟨hwl, out, ep, h1, he'⟩, rfl, q ws _ h2 (I.hok.fresh (Nat.le_succ _))⟩
  rcases hs with hs | hs
  · obtain ⟨its, rv, hl, _⟩ := I.list hs
    exact main its rv (.inl hl.isList)
  · obtain ⟨its, rv, hl, _⟩ := I.tuple hs
    exact main its rv (.inr hl)
theorem cs_srtA {K : PySem.W.Frag} : CallS K (rSortD K) dSrtA := by
  intro F H M σ ρ st x dx d Q S rx e q
  unfold dSrtA at e
  cases q1 : seqD dx with
  | none => rw [q1] at e; cases e
  | some ds =>
    rw [q1, Option.bind_some] at e
    cases q2 : D.pys ds with
    | none => rw [q2] at e; cases e
    | some ps =>
      rw [q2, Option.bind_some] at e
      split at e
      · rename_i hb
        cases e
        have hperm : (sortD ds).length = ds.length := List.length_mergeSort ds
        cases dx with
        | lst es =>
          cases q1
          obtain ⟨a, vs, rfl, h, z, r⟩ := rx.lst S.ss.sub
          exact ⟨a, vs, ds, ps, F, M, rfl, .inl (SqL.of h), S.ss.sub, r, z, q2, hb, fun ws p hw hp => ret_lst S (by rw [hperm]; exact z) hw q p hp⟩
        | tup es =>
          cases q1
          obtain ⟨a, vs, rfl, h, z, r⟩ := rx.tup S.ss.sub
          exact ⟨a, vs, ds, ps, F, M, rfl, .inr h, S.ss.sub, r, z, q2, hb, fun ws p hw hp => ret_lst S (by rw [hperm]; exact z) hw q p hp⟩
        | _ => cases q1
      · cases e
end OM
namespace OM
open PySem PySem.Spec PyProof.Rows L2 PySem.W
/-! ### ints in rows: comparing, sorting -/
abbrev iD (ns : List Int) : List D := ns.map .int
theorem pys_ints : ∀ ns : List Int, D.pys (iD ns) = some (ns.map .int)
  | [] => rfl
  | n :: ns => by simp only [iD, List.map_cons, D.pys, D.py, pys_ints ns]
theorem lay_ints : ∀ ns : List Int, PyData.canLayAll0 (ns.map .int) = true
  | [] => rfl
  | n :: ns => by simp only [List.map_cons, PyData.canLayAll0, PyData.canLay0, lay_ints ns, Bool.and_self]
theorem dep_ints : ∀ ns : List Int, PyData.depthAll (ns.map .int) = 0
  | [] => rfl
  | n :: ns => by simp only [List.map_cons, PyData.depthAll, PyData.depth, dep_ints ns]; rfl
theorem eqv_ints : ∀ as bs : List Int, PyData.eqvAll (as.map .int) (bs.map .int) = decide (as = bs)
  | [], [] => by simp [PyData.eqvAll]
  | [], b :: bs => by simp [PyData.eqvAll]
  | a :: as, [] => by simp [PyData.eqvAll]
  | a :: as, b :: bs => by
    simp only [List.map_cons, PyData.eqvAll, PyData.eqv, eqv_ints as bs, List.cons.injEq]
    by_cases h : a = b
    · simp [h]
    · simp [h]
theorem dEq_lst {as bs : List Int} : dEq (.lst (iD as)) (.lst (iD bs)) = some (decide (as = bs)) := by
  unfold dEq
  simp only [D.py, pys_ints, Option.map_some]
  rw [if_pos]
  · simp only [PyData.eqv, eqv_ints]
  · simp only [SeqAt.shaped, PyData.canLay0, lay_ints, PyData.depth, dep_ints]; rfl
theorem dEq_tup {as bs : List Int} : dEq (.tup (iD as)) (.tup (iD bs)) = some (decide (as = bs)) := by
  unfold dEq
  simp only [D.py, pys_ints, Option.map_some]
  rw [if_pos]
  · simp only [PyData.eqv, eqv_ints]
  · simp only [SeqAt.shaped, PyData.canLay0, lay_ints, PyData.depth, dep_ints]; rfl
theorem dEqV_tup {as bs : List Int} : dEqV (.tup (iD as)) (.tup (iD bs)) = some (.bl (decide (as = bs))) := by
  simp only [dEqV, dEq_tup, Option.map_some]
theorem dNeV_lst {as bs : List Int} : dNeV (.lst (iD as)) (.lst (iD bs)) = some (.bl (!decide (as = bs))) := by
  simp only [dNeV, dEq_lst, Option.map_some]
theorem alike_intsB (ns : List Int) : allAlikeB (ns.map .int) = true := by
  unfold allAlikeB
  refine List.all_eq_true.mpr fun p hp => List.all_eq_true.mpr fun q hq => ?_
  obtain ⟨a, _, rfl⟩ := List.mem_map.mp hp
  obtain ⟨b, _, rfl⟩ := List.mem_map.mp hq
  rfl
theorem sortable_ints (ns : List Int) : sortableB (ns.map .int) = true := by
  unfold sortableB
  rw [Bool.and_eq_true, Bool.and_eq_true]
  refine ⟨⟨alike_intsB ns, ?_⟩, ?_⟩
  · rw [Bool.or_eq_true]
    refine .inr (List.all_eq_true.mpr fun p hp => ?_)
    obtain ⟨a, _, rfl⟩ := List.mem_map.mp hp
    rfl
  · refine List.all_eq_true.mpr fun p hp => ?_
    obtain ⟨a, _, rfl⟩ := List.mem_map.mp hp
    exact decide_eq_true (Nat.zero_le _)
theorem le_int {a b : Int} : dataLe false encD (.int a) (.int b) = decide (a ≤ b) := by
  have e : dataLe false encD (.int a) (.int b) = !dataLt (.int b) (.int a) := rfl
  rw [e]
  have e2 : dataLt (.int b) (.int a) = decide (b < a) := by
    first
    | exact dataLt_int b a
    | (unfold dataLt; simp [keyToks, PyProof.Rows.lexLt])
  rw [e2]
  by_cases h : a ≤ b
  · rw [decide_eq_true h, decide_eq_false (by omega)]; rfl
  · rw [decide_eq_false h, decide_eq_true (by omega)]; rfl
theorem sortD_ints (ns : List Int) : sortD (iD ns) = iD (sortI ns) := by
  unfold sortD sortI iD
  exact (List.map_mergeSort (f := D.int) (fun a _ b _ => (le_int (a := a) (b := b)).symm)).symm
theorem dSrtA_lst {ns : List Int} : dSrtA (.lst (iD ns)) = some (.lst (iD (sortI ns))) := by
  simp only [dSrtA, seqD, Option.bind_some, pys_ints, sortable_ints, if_true, sortD_ints]
theorem dSrtA_tup {ns : List Int} : dSrtA (.tup (iD ns)) = some (.lst (iD (sortI ns))) := by
  simp only [dSrtA, seqD, Option.bind_some, pys_ints, sortable_ints, if_true, sortD_ints]
theorem sortI_perm' (ns : List Int) : (sortI ns).Perm ns := List.mergeSort_perm ns _
theorem sortI_pw (ns : List Int) : (sortI ns).Pairwise (· ≤ ·) := by
  have := List.pairwise_mergeSort (le := fun a b : Int => decide (a ≤ b)) (fun a b c h1 h2 => by simp only [decide_eq_true_eq] at *; omega) (fun a b => by simp only [Bool.or_eq_true, decide_eq_true_eq]; omega) ns
  exact this.imp fun h => of_decide_eq_true h
/-- all worlds, ascending -/
def rgI (n : Nat) : List Int := (List.range n).map fun i : Nat => (i : Int)
theorem rgD_iD {n : Nat} : rgD 0 (n : Int) = iD (rgI n) := by
  unfold rgD rgI iD
  rw [Int.sub_zero, Int.toNat_natCast, List.map_map]
  refine List.map_congr_left fun i _ => ?_
  rw [Int.zero_add]; rfl
theorem rgI_len {n : Nat} : (rgI n).length = n := by unfold rgI; rw [List.length_map, List.length_range]
theorem sortI_rg {ns : List Int} {n : Nat} : sortI ns = rgI n ↔ ns.Perm (rgI n) := by
  constructor
  · intro h
    rw [← h]; exact (sortI_perm' ns).symm
  · intro h
    have h1 : (rgI n).Pairwise (· ≤ ·) := by
      unfold rgI
      exact List.pairwise_map.mpr (List.pairwise_lt_range.imp fun h => by omega)
    exact sorted_one ((sortI_perm' ns).trans h) (sortI_pw ns) h1
theorem swap_perm {α : Type} {l : List α} {i j : Nat} (hi : i < l.length) (hj : j < l.length) : ((l.set i l[j]).set j l[i]).Perm l := by
  have h := Array.swap_perm (xs := l.toArray) (i := i) (j := j) (by simpa using hi) (by simpa using hj)
  have e := Array.toList_swap l.toArray i j (by simpa using hi) (by simpa using hj)
  have h2 := h.toList
  rw [e] at h2
  simpa using h2
theorem ixN_at {n j : Nat} (h : j < n) : ixN n (j : Int) = some j := by
  unfold ixN
  rw [if_pos (by omega), if_pos (by omega), Int.toNat_natCast]
theorem rgD_nat' {n : Nat} : rgD 0 (n : Int) = (List.range n).map nD := by
  rw [rgD_iD]
  unfold iD rgI
  rw [List.map_map]; rfl
end OM
namespace OM.K12
open PySem PySem.Spec PyProof.Rows L2 OM L2H
abbrev topS (i : Nat) : Stmt := PySem.Challenge.pw_openmind_k12_rows_and_their_tables.main.body.getD i (.Pass ⟨0, 0, 0, 0⟩)
def whFuel : Nat := 1000000000
abbrev i_check_many : Nat := 0
abbrev i_check_set : Nat := 1
abbrev i_check_table : Nat := 2
abbrev i_check_rows : Nat := 3
abbrev i_first_in_row : Nat := 4
abbrev i_firsts : Nat := 5
abbrev i_first_in_rows : Nat := 6
abbrev i_table_of_rows : Nat := 7
abbrev i_check_from_rows : Nat := 8
abbrev i__law_same : Nat := 9
abbrev i__law_stream : Nat := 10
abbrev i__law_next : Nat := 11
abbrev i__law_error : Nat := 12
abbrev i__law_first : Nat := 13
abbrev i__law_rows_table : Nat := 14
abbrev i__law_mixed : Nat := 15
abbrev i__law_drawn_rows : Nat := 16
abbrev i__law_told : Nat := 17
abbrev i__law_chosen : Nat := 18
abbrev i__law_fits : Nat := 19
abbrev i__law_table_fits : Nat := 20
abbrev i_law : Nat := 21
abbrev s_check_many : Stmt := topS 9
abbrev n_check_many : List Str := ["many"]
theorem sc_check_many : FnScope n_check_many ["many"] (defScope s_check_many) := ⟨rfl, rfl, rfl, by decide +kernel, rfl, by decide +kernel, by decide +kernel⟩
abbrev s_check_set : Stmt := topS 10
abbrev n_check_set : List Str := ["many", "one"]
theorem sc_check_set : FnScope n_check_set ["many", "one"] (defScope s_check_set) := ⟨rfl, rfl, rfl, by decide +kernel, rfl, by decide +kernel, by decide +kernel⟩
abbrev s_check_table : Stmt := topS 13
abbrev n_check_table : List Str := ["many", "table", "one", "chosen"]
theorem sc_check_table : FnScope n_check_table ["many", "table"] (defScope s_check_table) := ⟨rfl, rfl, rfl, by decide +kernel, rfl, by decide +kernel, by decide +kernel⟩
abbrev s_check_rows : Stmt := topS 17
abbrev n_check_rows : List Str := ["many", "rows", "row"]
theorem sc_check_rows : FnScope n_check_rows ["many", "rows"] (defScope s_check_rows) := ⟨rfl, rfl, rfl, by decide +kernel, rfl, by decide +kernel, by decide +kernel⟩
abbrev s_first_in_row : Stmt := topS 18
abbrev n_first_in_row : List Str := ["row", "one", "world"]
theorem sc_first_in_row : FnScope n_first_in_row ["row", "one"] (defScope s_first_in_row) := ⟨rfl, rfl, rfl, by decide +kernel, rfl, by decide +kernel, by decide +kernel⟩
abbrev s_firsts : Stmt := topS 19
abbrev n_firsts : List Str := ["rows", "one", "told", "row"]
theorem sc_firsts : FnScope n_firsts ["rows", "one"] (defScope s_firsts) := ⟨rfl, rfl, rfl, by decide +kernel, rfl, by decide +kernel, by decide +kernel⟩
abbrev s_first_in_rows : Stmt := topS 20
abbrev n_first_in_rows : List Str := ["many", "rows", "one"]
theorem sc_first_in_rows : FnScope n_first_in_rows ["many", "rows", "one"] (defScope s_first_in_rows) := ⟨rfl, rfl, rfl, by decide +kernel, rfl, by decide +kernel, by decide +kernel⟩
abbrev s_table_of_rows : Stmt := topS 21
abbrev n_table_of_rows : List Str := ["many", "rows", "one"]
theorem sc_table_of_rows : FnScope n_table_of_rows ["many", "rows"] (defScope s_table_of_rows) := ⟨rfl, rfl, rfl, by decide +kernel, rfl, by decide +kernel, by decide +kernel⟩
abbrev s_check_from_rows : Stmt := topS 22
abbrev n_check_from_rows : List Str := ["many", "table", "rows", "one", "chosen"]
theorem sc_check_from_rows : FnScope n_check_from_rows ["many", "table", "rows"] (defScope s_check_from_rows) := ⟨rfl, rfl, rfl, by decide +kernel, rfl, by decide +kernel, by decide +kernel⟩
abbrev s__law_same : Stmt := topS 24
abbrev n__law_same : List Str := ["told", "due"]
theorem sc__law_same : FnScope n__law_same ["told", "due"] (defScope s__law_same) := ⟨rfl, rfl, rfl, by decide +kernel, rfl, by decide +kernel, by decide +kernel⟩
abbrev s__law_stream : Stmt := topS 25
abbrev n__law_stream : List Str := ["script", "numbers", "cell", "rest", "k", "stirred"]
theorem sc__law_stream : FnScope n__law_stream ["script"] (defScope s__law_stream) := ⟨rfl, rfl, rfl, by decide +kernel, rfl, by decide +kernel, by decide +kernel⟩
abbrev s__law_next : Stmt := topS 26
abbrev n__law_next : List Str := ["state", "many", "turn"]
theorem sc__law_next : FnScope n__law_next ["state", "many"] (defScope s__law_next) := ⟨rfl, rfl, rfl, by decide +kernel, rfl, by decide +kernel, by decide +kernel⟩
abbrev s__law_error : Stmt := topS 27
abbrev n__law_error : List Str := ["e", "names"]
theorem sc__law_error : FnScope n__law_error ["e"] (defScope s__law_error) := ⟨rfl, rfl, rfl, by decide +kernel, rfl, by decide +kernel, by decide +kernel⟩
abbrev s__law_first : Stmt := topS 28
abbrev n__law_first : List Str := ["row", "one", "world"]
theorem sc__law_first : FnScope n__law_first ["row", "one"] (defScope s__law_first) := ⟨rfl, rfl, rfl, by decide +kernel, rfl, by decide +kernel, by decide +kernel⟩
abbrev s__law_rows_table : Stmt := topS 29
abbrev n__law_rows_table : List Str := ["many", "rows", "found", "one", "told", "row"]
theorem sc__law_rows_table : FnScope n__law_rows_table ["many", "rows"] (defScope s__law_rows_table) := ⟨rfl, rfl, rfl, by decide +kernel, rfl, by decide +kernel, by decide +kernel⟩
abbrev s__law_mixed : Stmt := topS 30
abbrev n__law_mixed : List Str := ["state", "row", "k", "at", "other"]
theorem sc__law_mixed : FnScope n__law_mixed ["state", "row"] (defScope s__law_mixed) := ⟨rfl, rfl, rfl, by decide +kernel, rfl, by decide +kernel, by decide +kernel⟩
abbrev s__law_drawn_rows : Stmt := topS 31
abbrev n__law_drawn_rows : List Str := ["state", "many", "most", "k"]
theorem sc__law_drawn_rows : FnScope n__law_drawn_rows ["state", "many", "most"] (defScope s__law_drawn_rows) := ⟨rfl, rfl, rfl, by decide +kernel, rfl, by decide +kernel, by decide +kernel⟩
abbrev s__law_told : Stmt := topS 32
abbrev n__law_told : List Str := ["kind", "many", "rows", "more", "e"]
theorem sc__law_told : FnScope n__law_told ["kind", "many", "rows", "more"] (defScope s__law_told) := ⟨rfl, rfl, rfl, by decide +kernel, rfl, by decide +kernel, by decide +kernel⟩
abbrev s__law_chosen : Stmt := topS 33
abbrev n__law_chosen : List Str := ["rows", "one", "told", "row"]
theorem sc__law_chosen : FnScope n__law_chosen ["rows", "one"] (defScope s__law_chosen) := ⟨rfl, rfl, rfl, by decide +kernel, rfl, by decide +kernel, by decide +kernel⟩
abbrev s__law_fits : Stmt := topS 34
abbrev n__law_fits : List Str := ["state", "many", "rows", "kept", "one", "k", "row", "bad", "told", "other", "world"]
theorem sc__law_fits : FnScope n__law_fits ["state", "many"] (defScope s__law_fits) := ⟨rfl, rfl, rfl, by decide +kernel, rfl, by decide +kernel, by decide +kernel⟩
abbrev s__law_table_fits : Stmt := topS 35
abbrev n__law_table_fits : List Str := ["state", "many", "rows", "table", "one", "other", "changed", "drawn", "told", "due", "right"]
theorem sc__law_table_fits : FnScope n__law_table_fits ["state", "many"] (defScope s__law_table_fits) := ⟨rfl, rfl, rfl, by decide +kernel, rfl, by decide +kernel, by decide +kernel⟩
abbrev s_law : Stmt := topS 36
abbrev n_law : List Str := ["script", "state", "turn", "row", "told"]
theorem sc_law : FnScope n_law ["script"] (defScope s_law) := ⟨rfl, rfl, rfl, by decide +kernel, rfl, by decide +kernel, by decide +kernel⟩
structure Facts (P : Program) (w : World) (K : PySem.W.Frag) (mg : Str → Option Value) (base : Heap) (T : Tab) (k : Nat) (Φ : Nat → Fv) : Prop where
  b_ValueError : mg "ValueError" = none
  b_abs : mg "abs" = none
  b_enumerate : mg "enumerate" = none
  b_int : mg "int" = none
  b_isinstance : mg "isinstance" = none
  b_len : mg "len" = none
  b_list : mg "list" = none
  b_range : mg "range" = none
  b_repr : mg "repr" = none
  b_sorted : mg "sorted" = none
  b_sum : mg "sum" = none
  b_tuple : mg "tuple" = none
  g_MAX_FEWEST : ∃ t, mg "MAX_FEWEST" = some (.int 4 t)
  g_MAX_ROWS : ∃ t, mg "MAX_ROWS" = some (.int 200 t)
  g_MAX_TABLE : ∃ t, mg "MAX_TABLE" = some (.int 5 t)
  g_MAX_WORLDS : ∃ t, mg "MAX_WORLDS" = some (.int 32 t)
  e_MindError : Err K mg (T.cls 0) "MindError"
  e_NotAllowed : Err K mg (T.cls 1) "NotAllowed"
  e_TooLarge : Err K mg (T.cls 2) "TooLarge"
  e_Missing : Err K mg (T.cls 3) "Missing"
  e_BadPaper : Err K mg (T.cls 4) "BadPaper"
  f_check_many : Callee P w K mg base T k "check_many" 1 (Φ i_check_many)
  f_check_set : Callee P w K mg base T k "check_set" 2 (Φ i_check_set)
  f_check_table : Callee P w K mg base T k "check_table" 2 (Φ i_check_table)
  f_check_rows : Callee P w K mg base T k "check_rows" 2 (Φ i_check_rows)
  f_first_in_row : Callee P w K mg base T k "first_in_row" 2 (Φ i_first_in_row)
  f_firsts : Callee P w K mg base T k "firsts" 2 (Φ i_firsts)
  f_first_in_rows : Callee P w K mg base T k "first_in_rows" 3 (Φ i_first_in_rows)
  f_table_of_rows : Callee P w K mg base T k "table_of_rows" 2 (Φ i_table_of_rows)
  f_check_from_rows : Callee P w K mg base T k "check_from_rows" 3 (Φ i_check_from_rows)
  f__law_same : Callee P w K mg base T k "_law_same" 2 (Φ i__law_same)
  f__law_stream : Callee P w K mg base T k "_law_stream" 1 (Φ i__law_stream)
  f__law_next : Callee P w K mg base T k "_law_next" 2 (Φ i__law_next)
  f__law_first : Callee P w K mg base T k "_law_first" 2 (Φ i__law_first)
  f__law_rows_table : Callee P w K mg base T k "_law_rows_table" 2 (Φ i__law_rows_table)
  f__law_mixed : Callee P w K mg base T k "_law_mixed" 2 (Φ i__law_mixed)
  f__law_drawn_rows : Callee P w K mg base T k "_law_drawn_rows" 3 (Φ i__law_drawn_rows)
  f__law_told : Callee P w K mg base T k "_law_told" 4 (Φ i__law_told)
  f__law_chosen : Callee P w K mg base T k "_law_chosen" 2 (Φ i__law_chosen)
  f__law_fits : Callee P w K mg base T k "_law_fits" 2 (Φ i__law_fits)
  f__law_table_fits : Callee P w K mg base T k "_law_table_fits" 2 (Φ i__law_table_fits)
  f_law : Callee P w K mg base T k "law" 1 (Φ i_law)
  x_err : CalleeX P w K mg base T k "_law_error" (wsOf (Φ i__law_error))
  x_told : ∀ c r, wsOf (Φ i__law_error) c = some r → PySem.W.exmOne K (.ref (T.cls c)) (.ref (T.cls 0)) = some true ∧ r.length ≤ sizeLine
  x_isv : ∀ c r, wsOf (Φ i__law_error) c = some r → ExcC K (T.cls c) ∧ PySem.W.kitOne K (.ref (T.cls c)) (.type "ValueError") = some true
def c_check_many (Φ : Nat → Fv) : Sv := (sSeq (sIf (tBl (eBin dGt (eVar 0) (eK (.int 32))))
  (sRs 2)
  sNo)
  (sSeq (sIf (tBl (eBin dLt (eVar 0) (eK (.int 1))))
  (sRs 1)
  sNo)
  (sRt (eK .non))))
def c_check_set (Φ : Nat → Fv) : Sv := (sSeq (sEx (eCall 1 (Φ i_check_many) (aCons (eVar 0) aNil)))
  (sSeq (sIf (tOu (tBl (eBin dLt (eVar 1) (eK (.int 0)))) (tBl (eBin dGe (eVar 1) (eBin dShl (eK (.int 1)) (eVar 0)))))
  (sRs 1)
  sNo)
  (sRt (eK .non))))
def c_check_table (Φ : Nat → Fv) : Sv := (sSeq (sEx (eCall 1 (Φ i_check_many) (aCons (eVar 0) aNil)))
  (sSeq (sIf (tBl (eBin dGt (eVar 0) (eK (.int 5))))
  (sRs 2)
  sNo)
  (sSeq (sIf (tBl (eBin dNeV (eUn dLen (eVar 1)) (eBin dShl (eK (.int 1)) (eVar 0))))
  (sRs 1)
  sNo)
  (sSeq (sFor (iEnu (eVar 1)) (gTp 2 (gsCo (gNm 2) (gsCo (gNm 3) gsNo)))
  (sIf (tOu (tBl (eBin dLt (eVar 3) (eK (.int 0)))) (tBl (eBin dNeV (eBin dAnd (eVar 3) (eUn dInv (eVar 2))) (eK (.int 0)))))
  (sRs 1)
  sNo))
  (sRt (eK .non))))))
def c_check_rows (Φ : Nat → Fv) : Sv := (sSeq (sEx (eCall 1 (Φ i_check_many) (aCons (eVar 0) aNil)))
  (sSeq (sIf (tBl (eBin dGt (eUn dLen (eVar 1)) (eK (.int 200))))
  (sRs 2)
  sNo)
  (sSeq (sIf (tBl (eBin dEqV (eUn dLen (eVar 1)) (eK (.int 0))))
  (sRs 1)
  sNo)
  (sSeq (sFor (iSeq (eVar 1)) (gNm 2)
  (sIf (tBl (eBin dNeV (eUn dSrtA (eVar 2)) (eLRg (eVar 0))))
  (sRs 1)
  sNo))
  (sRt (eK .non))))))
def c_first_in_row (Φ : Nat → Fv) : Sv := (sSeq (sFor (iSeq (eVar 0)) (gNm 2)
  (sIf (tTru (eBin dAnd (eBin dShr (eVar 1) (eVar 2)) (eK (.int 1))))
  (sRt (eBin dShl (eK (.int 1)) (eVar 2)))
  sNo))
  (sRt (eK (.int 0))))
def c_firsts (Φ : Nat → Fv) : Sv := (sSeq (sSet 2 (eK (.int 0)))
  (sSeq (sFor (iSeq (eVar 0)) (gNm 3)
  (sSet 2 (eBin dOr (eVar 2) (eCall 2 (Φ i_first_in_row) (aCons (eVar 3) (aCons (eVar 1) aNil))))))
  (sRt (eVar 2))))
def c_first_in_rows (Φ : Nat → Fv) : Sv := (sSeq (sEx (eCall 2 (Φ i_check_rows) (aCons (eVar 0) (aCons (eVar 1) aNil))))
  (sSeq (sEx (eCall 2 (Φ i_check_set) (aCons (eVar 0) (aCons (eVar 2) aNil))))
  (sRt (eCall 2 (Φ i_firsts) (aCons (eVar 1) (aCons (eVar 2) aNil))))))
def c_table_of_rows (Φ : Nat → Fv) : Sv := (sSeq (sEx (eCall 2 (Φ i_check_rows) (aCons (eVar 0) (aCons (eVar 1) aNil))))
  (sSeq (sIf (tBl (eBin dGt (eVar 0) (eK (.int 5))))
  (sRs 2)
  sNo)
  (sRt (eUn dTup (eLc (iRg1 (eBin dShl (eK (.int 1)) (eVar 0))) [2] (gNm 2) tYe (eCall 2 (Φ i_firsts) (aCons (eVar 1) (aCons (eVar 2) aNil))))))))
def c_check_from_rows (Φ : Nat → Fv) : Sv := (sSeq (sEx (eCall 2 (Φ i_check_table) (aCons (eVar 0) (aCons (eVar 1) aNil))))
  (sSeq (sEx (eCall 2 (Φ i_check_rows) (aCons (eVar 0) (aCons (eVar 2) aNil))))
  (sSeq (sFor (iEnu (eVar 1)) (gTp 2 (gsCo (gNm 3) (gsCo (gNm 4) gsNo)))
  (sIf (tBl (eBin dNeV (eCall 2 (Φ i_firsts) (aCons (eVar 2) (aCons (eVar 3) aNil))) (eVar 4)))
  (sRs 4)
  sNo))
  (sRt (eK (.bl true))))))
def c__law_same (Φ : Nat → Fv) : Sv := (sRt (eBin dEqV (eUn dRepr (eLst (aCons (eVar 0) aNil))) (eUn dRepr (eLst (aCons (eVar 1) aNil)))))
def c__law_stream (Φ : Nat → Fv) : Sv := (sSeq (sOwn 1 (aLst aNil))
  (sSeq (sFor (iSeq (eSl (eVar 0) pNo (pSo (eK (.int 63))))) (gNm 2)
  (sSeq (sSet 3 (eUn dAbs (eUn dInt (eVar 2))))
  (sIf (tBl (eBin dGe (eVar 3) (eBin dPow (eK (.int 10)) (eK (.int 18)))))
  (sFor (iRg1 (eK (.int 60))) (gNm 4)
  (sSeq (sApp 1 (eBin dMod (eUn dInt (eVar 3)) (eK (.int 1009))))
  (sSeq (sSet 3 (eBin dDiv (eVar 3) (eK (.int 1009))))
  (sIf (tBl (eBin dEqV (eVar 3) (eK (.int 0))))
  sBk
  sNo))))
  (sSeq (sSet 5 (eBin dMod (eUn dInt (eVar 3)) (eK (.int 2147483647))))
  (sFor (iRg1 (eK (.int 10))) (gNm 4)
  (sSeq (sSet 5 (eBin dMod (eUn dInt (eBin dAdd (eBin dAdd (eBin dMul (eVar 5) (eK (.int 48271))) (eBin dMul (eK (.int 7)) (eVar 4))) (eK (.int 11)))) (eK (.int 2147483647))))
  (sApp 1 (eBin dMod (eBin dMod (eUn dInt (eBin dAdd (eBin dMul (eVar 5) (eK (.int 69621))) (eVar 4))) (eK (.int 2147483629))) (eK (.int 1009))))))))))
  (sSeq (sIf (tBl (eBin dEqV (eUn dLen (eVarB 1)) (eK (.int 0))))
  (sApp 1 (eK (.int 0)))
  sNo)
  (sFz 1 (sRt (eVar 1))))))
def c__law_next (Φ : Nat → Fv) : Sv := (sSeq (sPut 0 (eBin dAdd (eIx (eVar 0) (eK (.int 1))) (eK (.int 1))) (eK (.int 1)))
  (sSeq (sSet 2 (eBin dDiv (eIx (eVar 0) (eK (.int 1))) (eUn dLen (eIx (eVar 0) (eK (.int 0))))))
  (sRt (eBin dMod (eUn dInt (eBin dAdd (eBin dAdd (eIx (eIx (eVar 0) (eK (.int 0))) (eBin dMod (eIx (eVar 0) (eK (.int 1))) (eUn dLen (eIx (eVar 0) (eK (.int 0)))))) (eBin dMul (eVar 2) (eK (.int 389)))) (eBin dMul (eBin dMul (eIx (eVar 0) (eK (.int 1))) (eVar 2)) (eK (.int 17))))) (eVar 1)))))
def c__law_first (Φ : Nat → Fv) : Sv := (sSeq (sFor (iSeq (eVar 0)) (gNm 2)
  (sIf (tTru (eBin dAnd (eBin dShr (eVar 1) (eVar 2)) (eK (.int 1))))
  (sRt (eBin dShl (eK (.int 1)) (eVar 2)))
  sNo))
  (sRt (eK (.int 0))))
def c__law_rows_table (Φ : Nat → Fv) : Sv := (sSeq (sOwn 2 (aLst aNil))
  (sSeq (sFor (iRg1 (eBin dShl (eK (.int 1)) (eVar 0))) (gNm 3)
  (sSeq (sSet 4 (eK (.int 0)))
  (sSeq (sFor (iSeq (eVar 1)) (gNm 5)
  (sSet 4 (eBin dOr (eVar 4) (eCall 2 (Φ i__law_first) (aCons (eVar 5) (aCons (eVar 3) aNil))))))
  (sApp 2 (eVar 4)))))
  (sRt (eUn dTup (eVarB 2)))))
def c__law_mixed (Φ : Nat → Fv) : Sv := (sSeq (sOwn 1 (aOfL (eVarB 1)))
  (sSeq (sFor (iRg1 (eBin dSub (eUn dLen (eVarB 1)) (eK (.int 1)))) (gNm 2)
  (sSeq (sSet 3 (eBin dAdd (eVar 2) (eCall 2 (Φ i__law_next) (aCons (eVar 0) (aCons (eBin dSub (eUn dLen (eVarB 1)) (eVar 2)) aNil)))))
  (sSeq (sSet 4 (eIx (eVarB 1) (eVar 3)))
  (sSeq (sPut 1 (eIx (eVarB 1) (eVar 2)) (eVar 3))
  (sPut 1 (eVar 4) (eVar 2))))))
  (sRt (eUn dTup (eVarB 1)))))
def c__law_drawn_rows (Φ : Nat → Fv) : Sv := (sRt (eUn dTup (eLc (iRg1 (eBin dAdd (eK (.int 1)) (eCall 2 (Φ i__law_next) (aCons (eVar 0) (aCons (eVar 2) aNil))))) [3] (gNm 3) tYe (eCall 2 (Φ i__law_mixed) (aCons (eVar 0) (aCons (eLRg (eVar 1)) aNil))))))
def c__law_told (Φ : Nat → Fv) : Sv := (sTry (wsOf (Φ i__law_error)) 4 (sSeq (sIf (tBl (eBin dEqV (eVar 0) (eK (.int 0))))
  (sRt (eTup (aCons (eK (.str "told")) (aCons (eCall 2 (Φ i_check_rows) (aCons (eVar 1) (aCons (eVar 2) aNil))) aNil))))
  sNo)
  (sSeq (sIf (tBl (eBin dEqV (eVar 0) (eK (.int 1))))
  (sRt (eTup (aCons (eK (.str "told")) (aCons (eCall 2 (Φ i_table_of_rows) (aCons (eVar 1) (aCons (eVar 2) aNil))) aNil))))
  sNo)
  (sSeq (sIf (tBl (eBin dEqV (eVar 0) (eK (.int 2))))
  (sRt (eTup (aCons (eK (.str "told")) (aCons (eCall 3 (Φ i_first_in_rows) (aCons (eVar 1) (aCons (eVar 2) (aCons (eVar 3) aNil)))) aNil))))
  sNo)
  (sRt (eTup (aCons (eK (.str "told")) (aCons (eCall 3 (Φ i_check_from_rows) (aCons (eVar 1) (aCons (eVar 3) (aCons (eVar 2) aNil)))) aNil))))))))
def c__law_chosen (Φ : Nat → Fv) : Sv := (sSeq (sSet 2 (eK (.int 0)))
  (sSeq (sFor (iSeq (eVar 0)) (gNm 3)
  (sSet 2 (eBin dOr (eVar 2) (eCall 2 (Φ i__law_first) (aCons (eVar 3) (aCons (eVar 1) aNil))))))
  (sRt (eVar 2))))
def c__law_fits (Φ : Nat → Fv) : Sv := (sSeq (sSet 2 (eCall 3 (Φ i__law_drawn_rows) (aCons (eVar 0) (aCons (eVar 1) (aCons (eK (.int 6)) aNil)))))
  (sSeq (sSet 3 (eUn dRepr (eVar 2)))
  (sSeq (sSet 4 (eUn dSum (eLc (iRg1 (eVar 1)) [10] (gNm 10) (tBl (eBin dEqV (eCall 2 (Φ i__law_next) (aCons (eVar 0) (aCons (eK (.int 2)) aNil))) (eK (.int 0)))) (eBin dShl (eK (.int 1)) (eVar 10)))))
  (sSeq (sIf (tNo (tTru (eCall 2 (Φ i__law_same) (aCons (eLst (aCons (eCall 4 (Φ i__law_told) (aCons (eK (.int 0)) (aCons (eVar 1) (aCons (eVar 2) (aCons (eK (.int 0)) aNil))))) (aCons (eCall 4 (Φ i__law_told) (aCons (eK (.int 2)) (aCons (eVar 1) (aCons (eVar 2) (aCons (eVar 4) aNil))))) aNil))) (aCons (eLst (aCons (eTup (aCons (eK (.str "told")) (aCons (eK .non) aNil))) (aCons (eTup (aCons (eK (.str "told")) (aCons (eCall 2 (Φ i__law_chosen) (aCons (eVar 2) (aCons (eVar 4) aNil))) aNil))) aNil))) aNil)))))
  (sRt (eK (.bl false)))
  sNo)
  (sSeq (sSet 5 (eCall 2 (Φ i__law_next) (aCons (eVar 0) (aCons (eUn dLen (eVar 2)) aNil))))
  (sSeq (sSet 6 (eIx (eVar 2) (eVar 5)))
  (sSeq (sSet 7 (eLst (aCons (eSl (eVar 6) (pSo (eK (.int 1))) pNo) (aCons (eBin dAdd (eVar 6) (eSl (eVar 6) pNo (pSo (eK (.int 1))))) (aCons (eBin dAdd (eSl (eVar 6) pNo (pSo (eUn dNeg (eK (.int 1))))) (eTup (aCons (eVar 1) aNil))) (aCons (eBin dAdd (eSl (eVar 6) pNo (pSo (eUn dNeg (eK (.int 1))))) (eTup (aCons (eUn dNeg (eK (.int 1))) aNil))) (aCons (eBin dAdd (eVar 6) (eTup (aCons (eVar 1) aNil))) aNil)))))))
  (sSeq (sSet 8 (eLc (iSeq (eVar 7)) [9] (gNm 9) tYe (eCall 4 (Φ i__law_told) (aCons (eK (.int 0)) (aCons (eVar 1) (aCons (eBin dAdd (eBin dAdd (eSl (eVar 2) pNo (pSo (eVar 5))) (eTup (aCons (eVar 9) aNil))) (eSl (eVar 2) (pSo (eBin dAdd (eVar 5) (eK (.int 1)))) pNo)) (aCons (eK (.int 0)) aNil)))))))
  (sSeq (sSet 8 (eBin dAdd (eVar 8) (eLst (aCons (eCall 4 (Φ i__law_told) (aCons (eK (.int 0)) (aCons (eVar 1) (aCons (eTup aNil) (aCons (eK (.int 0)) aNil))))) (aCons (eCall 4 (Φ i__law_told) (aCons (eK (.int 1)) (aCons (eVar 1) (aCons (eBin dAdd (eVar 2) (eTup (aCons (eTup aNil) aNil))) (aCons (eK (.int 0)) aNil))))) (aCons (eCall 4 (Φ i__law_told) (aCons (eK (.int 2)) (aCons (eVar 1) (aCons (eVar 2) (aCons (eBin dShl (eK (.int 1)) (eVar 1)) aNil))))) aNil))))))
  (sRt (eAn (eCall 2 (Φ i__law_same) (aCons (eVar 8) (aCons (eBin dMul (eLst (aCons (eK (.str "refused")) aNil)) (eK (.int 8))) aNil))) (eBin dEqV (eUn dRepr (eVar 2)) (eVar 3)))))))))))))
def c__law_table_fits (Φ : Nat → Fv) : Sv := (sSeq (sSet 2 (eCall 3 (Φ i__law_drawn_rows) (aCons (eVar 0) (aCons (eVar 1) (aCons (eK (.int 4)) aNil)))))
  (sSeq (sSet 3 (eCall 2 (Φ i__law_rows_table) (aCons (eVar 1) (aCons (eVar 2) aNil))))
  (sSeq (sSet 4 (eCall 2 (Φ i__law_next) (aCons (eVar 0) (aCons (eBin dShl (eK (.int 1)) (eVar 1)) aNil))))
  (sSeq (sSet 5 (eBin dAnd (eVar 4) (eCall 2 (Φ i__law_next) (aCons (eVar 0) (aCons (eBin dShl (eK (.int 1)) (eVar 1)) aNil)))))
  (sSeq (sSet 6 (eBin dAdd (eBin dAdd (eSl (eVar 3) pNo (pSo (eVar 4))) (eTup (aCons (eVar 5) aNil))) (eSl (eVar 3) (pSo (eBin dAdd (eVar 4) (eK (.int 1)))) pNo)))
  (sSeq (sSet 7 (eCall 3 (Φ i__law_drawn_rows) (aCons (eVar 0) (aCons (eVar 1) (aCons (eK (.int 3)) aNil)))))
  (sSeq (sSet 8 (eLst (aCons (eCall 4 (Φ i__law_told) (aCons (eK (.int 1)) (aCons (eVar 1) (aCons (eVar 2) (aCons (eK (.int 0)) aNil))))) (aCons (eCall 4 (Φ i__law_told) (aCons (eK (.int 3)) (aCons (eVar 1) (aCons (eVar 2) (aCons (eVar 3) aNil))))) (aCons (eCall 4 (Φ i__law_told) (aCons (eK (.int 3)) (aCons (eVar 1) (aCons (eVar 2) (aCons (eVar 6) aNil))))) (aCons (eCall 4 (Φ i__law_told) (aCons (eK (.int 3)) (aCons (eVar 1) (aCons (eVar 7) (aCons (eVar 3) aNil))))) (aCons (eCall 4 (Φ i__law_told) (aCons (eK (.int 3)) (aCons (eVar 1) (aCons (eBin dAdd (eVar 2) (eVar 7)) (aCons (eVar 3) aNil))))) aNil)))))))
  (sSeq (sOwn 9 (aLst (aCons (eTup (aCons (eK (.str "told")) (aCons (eVar 3) aNil))) (aCons (eTup (aCons (eK (.str "told")) (aCons (eK (.bl true)) aNil))) aNil))))
  (sSeq (sFor (iSeq (eTup (aCons (eBin dEqV (eVar 6) (eVar 3)) (aCons (eBin dEqV (eCall 2 (Φ i__law_rows_table) (aCons (eVar 1) (aCons (eVar 7) aNil))) (eVar 3)) (aCons (eBin dEqV (eCall 2 (Φ i__law_rows_table) (aCons (eVar 1) (aCons (eBin dAdd (eVar 2) (eVar 7)) aNil))) (eVar 3)) aNil))))) (gNm 10)
  (sApp 9 (eIx (eLst (aCons (eK (.str "paper")) (aCons (eTup (aCons (eK (.str "told")) (aCons (eK (.bl true)) aNil))) aNil))) (eUn dInt (eVar 10)))))
  (sFz 9 (sRt (eCall 2 (Φ i__law_same) (aCons (eVar 8) (aCons (eVar 9) aNil))))))))))))))
def c_law (Φ : Nat → Fv) : Sv := (sSeq (sRef 1 (aLst (aCons (eCall 1 (Φ i__law_stream) (aCons (eVar 0) aNil)) (aCons (eK (.int 0)) aNil))))
  (sSeq (sFor (iRg1 (eK (.int 3))) (gNm 2)
  (sIf (tOu (tNo (tTru (eCall 2 (Φ i__law_fits) (aCons (eVar 1) (aCons (eIx (eLst (aCons (eK (.int 32)) (aCons (eBin dAdd (eK (.int 1)) (eCall 2 (Φ i__law_next) (aCons (eVar 1) (aCons (eK (.int 9)) aNil)))) aNil))) (eUn dInt (eBin dGt (eCall 2 (Φ i__law_next) (aCons (eVar 1) (aCons (eK (.int 5)) aNil))) (eK (.int 0))))) aNil))))) (tNo (tTru (eCall 2 (Φ i__law_table_fits) (aCons (eVar 1) (aCons (eBin dAdd (eK (.int 1)) (eCall 2 (Φ i__law_next) (aCons (eVar 1) (aCons (eK (.int 5)) aNil)))) aNil))))))
  (sRt (eK (.bl false)))
  sNo))
  (sSeq (sSet 3 (eTRg (eK (.int 6))))
  (sSeq (sSet 4 (eLst (aCons (eCall 4 (Φ i__law_told) (aCons (eK (.int 0)) (aCons (eK (.int 6)) (aCons (eBin dMul (eTup (aCons (eVar 3) aNil)) (eK (.int 200))) (aCons (eK (.int 0)) aNil))))) (aCons (eCall 4 (Φ i__law_told) (aCons (eK (.int 0)) (aCons (eK (.int 6)) (aCons (eBin dMul (eTup (aCons (eVar 3) aNil)) (eK (.int 201))) (aCons (eK (.int 0)) aNil))))) (aCons (eCall 4 (Φ i__law_told) (aCons (eK (.int 0)) (aCons (eK (.int 6)) (aCons (eBin dMul (eTup (aCons (eTup aNil) aNil)) (eK (.int 201))) (aCons (eK (.int 0)) aNil))))) (aCons (eCall 4 (Φ i__law_told) (aCons (eK (.int 1)) (aCons (eK (.int 6)) (aCons (eTup (aCons (eVar 3) aNil)) (aCons (eK (.int 0)) aNil))))) (aCons (eCall 4 (Φ i__law_told) (aCons (eK (.int 2)) (aCons (eK (.int 6)) (aCons (eBin dMul (eTup (aCons (eVar 3) aNil)) (eK (.int 200))) (aCons (eK (.int 48)) aNil))))) aNil)))))))
  (sRt (eCall 2 (Φ i__law_same) (aCons (eBin dAdd (eVar 4) (eLst (aCons (eK (.int 4)) (aCons (eK (.int 200)) aNil)))) (aCons (eLst (aCons (eTup (aCons (eK (.str "told")) (aCons (eK .non) aNil))) (aCons (eK (.str "large")) (aCons (eK (.str "large")) (aCons (eK (.str "large")) (aCons (eTup (aCons (eK (.str "told")) (aCons (eK (.int 16)) aNil))) (aCons (eK (.int 4)) (aCons (eK (.int 200)) aNil)))))))) aNil))))))))
section
variable {P : Program} {w : World} {K : PySem.W.Frag} {mg : Str → Option Value} {base : Heap} {T : Tab} {k : Nat} {Φ : Nat → Fv} {f : Addr}
theorem d_check_many (G : Facts P w K mg base T k Φ) (cd : Value) (A : Around) (outer : List Env) (s : Shared) (H : Hp) (E : XK) (hgd : A.guards = some []) (hr : Room k (A.deeper (envOfC "check_many" (defScope s_check_many) s.heap.objs.size f cd))) :
    DSs (bodyX P w K mg base n_check_many "check_many" s_check_many f cd A outer s H E) T (WB E) (defBody s_check_many) (c_check_many Φ) := by
  have hu64 := hr.units
  have hu65 : (A.deeper (envOfC "check_many" (defScope s_check_many) s.heap.objs.size f cd)).units + 65 < cLine := by have := hr.un; omega
  have hu100 : (A.deeper (envOfC "check_many" (defScope s_check_many) s.heap.objs.size f cd)).units + 100 < cLine := by have := hr.un; omega
  exact (ds_cons (d1_if (dt_cmp op_gt ops_gt (be_of (de_var 0 (pv 0))) (be_of (de_gint G.g_MAX_WORLDS rfl)) (nomark _))
  (ds_one (d1_raise rfl (L2N.takes_of rfl rfl rfl rfl) G.e_TooLarge rfl))
  ds_nil)
  (ds_cons (d1_if (dt_cmp op_lt ops_lt (be_of (de_var 0 (pv 0))) (be_of de_int) (nomark _))
  (ds_one (d1_raise rfl (L2N.takes_of rfl rfl rfl rfl) G.e_NotAllowed rfl))
  ds_nil)
  (ds_one (d1_ret de_non))))
theorem d_check_set (G : Facts P w K mg base T k Φ) (cd : Value) (A : Around) (outer : List Env) (s : Shared) (H : Hp) (E : XK) (hgd : A.guards = some []) (hr : Room k (A.deeper (envOfC "check_set" (defScope s_check_set) s.heap.objs.size f cd))) :
    DSs (bodyX P w K mg base n_check_set "check_set" s_check_set f cd A outer s H E) T (WB E) (defBody s_check_set) (c_check_set Φ) := by
  have hu64 := hr.units
  have hu65 : (A.deeper (envOfC "check_set" (defScope s_check_set) s.heap.objs.size f cd)).units + 65 < cLine := by have := hr.un; omega
  have hu100 : (A.deeper (envOfC "check_set" (defScope s_check_set) s.heap.objs.size f cd)).units + 100 < cLine := by have := hr.un; omega
  exact (ds_cons (d1_expr (de_call G.f_check_many hgd hr rfl (L2N.takes_of rfl rfl rfl rfl) (da_cons (de_var 0 (pv 0)) da_nil)))
  (ds_cons (d1_if (dt_bool (dw_or (dt_cmp op_lt ops_lt (be_of (de_var 1 (pv 1))) (be_of de_int) (nomark _)) (dw_or1 (dt_cmp op_ge ops_ge (be_of (de_var 1 (pv 1))) (be_of (de_bin op_shl ops_shl (be_of de_int) (be_of (de_var 0 (pv 0))))) (nomark _)))))
  (ds_one (d1_raise rfl (L2N.takes_of rfl rfl rfl rfl) G.e_NotAllowed rfl))
  ds_nil)
  (ds_one (d1_ret de_non))))
theorem d_check_table (G : Facts P w K mg base T k Φ) (cd : Value) (A : Around) (outer : List Env) (s : Shared) (H : Hp) (E : XK) (hgd : A.guards = some []) (hr : Room k (A.deeper (envOfC "check_table" (defScope s_check_table) s.heap.objs.size f cd))) :
    DSs (bodyX P w K mg base n_check_table "check_table" s_check_table f cd A outer s H E) T (WB E) (defBody s_check_table) (c_check_table Φ) := by
  have hu64 := hr.units
  have hu65 : (A.deeper (envOfC "check_table" (defScope s_check_table) s.heap.objs.size f cd)).units + 65 < cLine := by have := hr.un; omega
  have hu100 : (A.deeper (envOfC "check_table" (defScope s_check_table) s.heap.objs.size f cd)).units + 100 < cLine := by have := hr.un; omega
  exact (ds_cons (d1_expr (de_call G.f_check_many hgd hr rfl (L2N.takes_of rfl rfl rfl rfl) (da_cons (de_var 0 (pv 0)) da_nil)))
  (ds_cons (d1_if (dt_cmp op_gt ops_gt (be_of (de_var 0 (pv 0))) (be_of (de_gint G.g_MAX_TABLE rfl)) (nomark _))
  (ds_one (d1_raise rfl (L2N.takes_of rfl rfl rfl rfl) G.e_TooLarge rfl))
  ds_nil)
  (ds_cons (d1_if (dt_cmp (opr_ne hu64) ops_ne (be_of (de_b1 call_len cs_len rfl G.b_len (by decide +kernel) (be_of (de_var 1 (pv 1))))) (be_of (de_bin op_shl ops_shl (be_of de_int) (be_of (de_var 0 (pv 0))))) (nomark _))
  (ds_one (d1_raise rfl (L2N.takes_of rfl rfl rfl rfl) G.e_NotAllowed rfl))
  ds_nil)
  (ds_cons (d1_for PassesOwn.leaving rfl (di_enum rfl G.b_enumerate (de_var 1 (pv 1))) (dg_tp rfl (dgs_co (dg_nm (pg_name (i := 2) sc_check_table.nd rfl (by first | exact Or.inl rfl | exact Or.inr rfl))) (dgs_co (dg_nm (pg_name (i := 3) sc_check_table.nd rfl (by first | exact Or.inl rfl | exact Or.inr rfl))) dgs_no)))
  (ds_one (d1_if (dt_bool (dw_or (dt_cmp op_lt ops_lt (be_of (de_var 3 (pv 3))) (be_of de_int) (nomark _)) (dw_or1 (dt_cmp (opr_ne hu64) ops_ne (be_of (de_bin op_and ops_and (be_of (de_var 3 (pv 3))) (be_of (de_inv (be_of (de_var 2 (pv 2))))))) (be_of de_int) (nomark _)))))
  (ds_one (d1_raise rfl (L2N.takes_of rfl rfl rfl rfl) G.e_NotAllowed rfl))
  ds_nil)))
  (ds_one (d1_ret de_non))))))
theorem d_check_rows (G : Facts P w K mg base T k Φ) (cd : Value) (A : Around) (outer : List Env) (s : Shared) (H : Hp) (E : XK) (hgd : A.guards = some []) (hr : Room k (A.deeper (envOfC "check_rows" (defScope s_check_rows) s.heap.objs.size f cd))) :
    DSs (bodyX P w K mg base n_check_rows "check_rows" s_check_rows f cd A outer s H E) T (WB E) (defBody s_check_rows) (c_check_rows Φ) := by
  have hu64 := hr.units
  have hu65 : (A.deeper (envOfC "check_rows" (defScope s_check_rows) s.heap.objs.size f cd)).units + 65 < cLine := by have := hr.un; omega
  have hu100 : (A.deeper (envOfC "check_rows" (defScope s_check_rows) s.heap.objs.size f cd)).units + 100 < cLine := by have := hr.un; omega
  exact (ds_cons (d1_expr (de_call G.f_check_many hgd hr rfl (L2N.takes_of rfl rfl rfl rfl) (da_cons (de_var 0 (pv 0)) da_nil)))
  (ds_cons (d1_if (dt_cmp op_gt ops_gt (be_of (de_b1 call_len cs_len rfl G.b_len (by decide +kernel) (be_of (de_var 1 (pv 1))))) (be_of (de_gint G.g_MAX_ROWS rfl)) (nomark _))
  (ds_one (d1_raise rfl (L2N.takes_of rfl rfl rfl rfl) G.e_TooLarge rfl))
  ds_nil)
  (ds_cons (d1_if (dt_cmp (opr_eq hu64) ops_eq (be_of (de_b1 call_len cs_len rfl G.b_len (by decide +kernel) (be_of (de_var 1 (pv 1))))) (be_of de_int) (nomark _))
  (ds_one (d1_raise rfl (L2N.takes_of rfl rfl rfl rfl) G.e_NotAllowed rfl))
  ds_nil)
  (ds_cons (d1_for PassesOwn.leaving rfl (di_seq (de_var 1 (pv 1))) (dg_nm (pg_name (i := 2) sc_check_rows.nd rfl (by first | exact Or.inl rfl | exact Or.inr rfl)))
  (ds_one (d1_if (dt_cmp (opr_ne hu64) ops_ne (be_of (de_b1 (cr_sortD hu100) cs_srtA rfl G.b_sorted (by decide +kernel) (be_of (de_var 2 (pv 2))))) (be_of (de_lrg rfl rfl G.b_list rfl G.b_range (de_var 0 (pv 0)))) (nomark _))
  (ds_one (d1_raise rfl (L2N.takes_of rfl rfl rfl rfl) G.e_NotAllowed rfl))
  ds_nil)))
  (ds_one (d1_ret de_non))))))
theorem d_first_in_row (G : Facts P w K mg base T k Φ) (cd : Value) (A : Around) (outer : List Env) (s : Shared) (H : Hp) (E : XK) (hgd : A.guards = some []) (hr : Room k (A.deeper (envOfC "first_in_row" (defScope s_first_in_row) s.heap.objs.size f cd))) :
    DSs (bodyX P w K mg base n_first_in_row "first_in_row" s_first_in_row f cd A outer s H E) T (WB E) (defBody s_first_in_row) (c_first_in_row Φ) := by
  have hu64 := hr.units
  have hu65 : (A.deeper (envOfC "first_in_row" (defScope s_first_in_row) s.heap.objs.size f cd)).units + 65 < cLine := by have := hr.un; omega
  have hu100 : (A.deeper (envOfC "first_in_row" (defScope s_first_in_row) s.heap.objs.size f cd)).units + 100 < cLine := by have := hr.un; omega
  exact (ds_cons (d1_for PassesOwn.leaving rfl (di_seq (de_var 0 (pv 0))) (dg_nm (pg_name (i := 2) sc_first_in_row.nd rfl (by first | exact Or.inl rfl | exact Or.inr rfl)))
  (ds_one (d1_if (dt_tru (be_of (de_bin op_and ops_and (be_of (de_bin op_shr ops_shr (be_of (de_var 1 (pv 1))) (be_of (de_var 2 (pv 2))))) (be_of de_int))))
  (ds_one (d1_ret (de_bin op_shl ops_shl (be_of de_int) (be_of (de_var 2 (pv 2))))))
  ds_nil)))
  (ds_one (d1_ret de_int)))
theorem d_firsts (G : Facts P w K mg base T k Φ) (cd : Value) (A : Around) (outer : List Env) (s : Shared) (H : Hp) (E : XK) (hgd : A.guards = some []) (hr : Room k (A.deeper (envOfC "firsts" (defScope s_firsts) s.heap.objs.size f cd))) :
    DSs (bodyX P w K mg base n_firsts "firsts" s_firsts f cd A outer s H E) T (WB E) (defBody s_firsts) (c_firsts Φ) := by
  have hu64 := hr.units
  have hu65 : (A.deeper (envOfC "firsts" (defScope s_firsts) s.heap.objs.size f cd)).units + 65 < cLine := by have := hr.un; omega
  have hu100 : (A.deeper (envOfC "firsts" (defScope s_firsts) s.heap.objs.size f cd)).units + 100 < cLine := by have := hr.un; omega
  exact (ds_cons (d1_set (i := 2) sc_firsts.nd rfl (by first | exact Or.inl rfl | exact Or.inr rfl) de_int)
  (ds_cons (d1_for PassesOwn.leaving rfl (di_seq (de_var 0 (pv 0))) (dg_nm (pg_name (i := 3) sc_firsts.nd rfl (by first | exact Or.inl rfl | exact Or.inr rfl)))
  (ds_one (d1_set (i := 2) sc_firsts.nd rfl (by first | exact Or.inl rfl | exact Or.inr rfl) (de_bin op_or ops_or (be_of (de_var 2 (pv 2))) (be_of (de_call G.f_first_in_row hgd hr rfl (L2N.takes_of rfl rfl rfl rfl) (da_cons (de_var 3 (pv 3)) (da_cons (de_var 1 (pv 1)) da_nil))))))))
  (ds_one (d1_ret (de_var 2 (pv 2))))))
theorem d_first_in_rows (G : Facts P w K mg base T k Φ) (cd : Value) (A : Around) (outer : List Env) (s : Shared) (H : Hp) (E : XK) (hgd : A.guards = some []) (hr : Room k (A.deeper (envOfC "first_in_rows" (defScope s_first_in_rows) s.heap.objs.size f cd))) :
    DSs (bodyX P w K mg base n_first_in_rows "first_in_rows" s_first_in_rows f cd A outer s H E) T (WB E) (defBody s_first_in_rows) (c_first_in_rows Φ) := by
  have hu64 := hr.units
  have hu65 : (A.deeper (envOfC "first_in_rows" (defScope s_first_in_rows) s.heap.objs.size f cd)).units + 65 < cLine := by have := hr.un; omega
  have hu100 : (A.deeper (envOfC "first_in_rows" (defScope s_first_in_rows) s.heap.objs.size f cd)).units + 100 < cLine := by have := hr.un; omega
  exact (ds_cons (d1_expr (de_call G.f_check_rows hgd hr rfl (L2N.takes_of rfl rfl rfl rfl) (da_cons (de_var 0 (pv 0)) (da_cons (de_var 1 (pv 1)) da_nil))))
  (ds_cons (d1_expr (de_call G.f_check_set hgd hr rfl (L2N.takes_of rfl rfl rfl rfl) (da_cons (de_var 0 (pv 0)) (da_cons (de_var 2 (pv 2)) da_nil))))
  (ds_one (d1_ret (de_call G.f_firsts hgd hr rfl (L2N.takes_of rfl rfl rfl rfl) (da_cons (de_var 1 (pv 1)) (da_cons (de_var 2 (pv 2)) da_nil)))))))
theorem d_table_of_rows (G : Facts P w K mg base T k Φ) (cd : Value) (A : Around) (outer : List Env) (s : Shared) (H : Hp) (E : XK) (hgd : A.guards = some []) (hr : Room k (A.deeper (envOfC "table_of_rows" (defScope s_table_of_rows) s.heap.objs.size f cd))) :
    DSs (bodyX P w K mg base n_table_of_rows "table_of_rows" s_table_of_rows f cd A outer s H E) T (WB E) (defBody s_table_of_rows) (c_table_of_rows Φ) := by
  have hu64 := hr.units
  have hu65 : (A.deeper (envOfC "table_of_rows" (defScope s_table_of_rows) s.heap.objs.size f cd)).units + 65 < cLine := by have := hr.un; omega
  have hu100 : (A.deeper (envOfC "table_of_rows" (defScope s_table_of_rows) s.heap.objs.size f cd)).units + 100 < cLine := by have := hr.un; omega
  exact (ds_cons (d1_expr (de_call G.f_check_rows hgd hr rfl (L2N.takes_of rfl rfl rfl rfl) (da_cons (de_var 0 (pv 0)) (da_cons (de_var 1 (pv 1)) da_nil))))
  (ds_cons (d1_if (dt_cmp op_gt ops_gt (be_of (de_var 0 (pv 0))) (be_of (de_gint G.g_MAX_TABLE rfl)) (nomark _))
  (ds_one (d1_raise rfl (L2N.takes_of rfl rfl rfl rfl) G.e_TooLarge rfl))
  ds_nil)
  (ds_one (d1_ret (de_t1 call_tuple_of cs_tup rfl G.b_tuple (by decide +kernel) (be_of (de_lc (own := [("one", 2)]) rfl sc_table_of_rows.nd (di_rg1 rfl G.b_range (de_bin op_shl ops_shl (be_of de_int) (be_of (de_var 0 (pv 0))))) (blkOk_by (N := n_table_of_rows) (sc := defScope s_table_of_rows) (by decide +kernel)) (by decide) (fun _ _ _ _ _ => (dg_nm (pg_name (i := 2) sc_table_of_rows.nd rfl (Or.inl rfl)))) (fun _ _ _ _ _ => dts_nil) (fun _ _ _ _ _ => (de_call G.f_firsts hgd hr rfl takes_no (da_cons (de_var 1 (pv 1)) (da_cons (de_var 2 (pv 2)) da_nil)))))))))))
theorem d_check_from_rows (G : Facts P w K mg base T k Φ) (cd : Value) (A : Around) (outer : List Env) (s : Shared) (H : Hp) (E : XK) (hgd : A.guards = some []) (hr : Room k (A.deeper (envOfC "check_from_rows" (defScope s_check_from_rows) s.heap.objs.size f cd))) :
    DSs (bodyX P w K mg base n_check_from_rows "check_from_rows" s_check_from_rows f cd A outer s H E) T (WB E) (defBody s_check_from_rows) (c_check_from_rows Φ) := by
  have hu64 := hr.units
  have hu65 : (A.deeper (envOfC "check_from_rows" (defScope s_check_from_rows) s.heap.objs.size f cd)).units + 65 < cLine := by have := hr.un; omega
  have hu100 : (A.deeper (envOfC "check_from_rows" (defScope s_check_from_rows) s.heap.objs.size f cd)).units + 100 < cLine := by have := hr.un; omega
  exact (ds_cons (d1_expr (de_call G.f_check_table hgd hr rfl (L2N.takes_of rfl rfl rfl rfl) (da_cons (de_var 0 (pv 0)) (da_cons (de_var 1 (pv 1)) da_nil))))
  (ds_cons (d1_expr (de_call G.f_check_rows hgd hr rfl (L2N.takes_of rfl rfl rfl rfl) (da_cons (de_var 0 (pv 0)) (da_cons (de_var 2 (pv 2)) da_nil))))
  (ds_cons (d1_for PassesOwn.leaving rfl (di_enum rfl G.b_enumerate (de_var 1 (pv 1))) (dg_tp rfl (dgs_co (dg_nm (pg_name (i := 3) sc_check_from_rows.nd rfl (by first | exact Or.inl rfl | exact Or.inr rfl))) (dgs_co (dg_nm (pg_name (i := 4) sc_check_from_rows.nd rfl (by first | exact Or.inl rfl | exact Or.inr rfl))) dgs_no)))
  (ds_one (d1_if (dt_cmp (opr_ne hu64) ops_ne (be_of (de_call G.f_firsts hgd hr rfl (L2N.takes_of rfl rfl rfl rfl) (da_cons (de_var 2 (pv 2)) (da_cons (de_var 3 (pv 3)) da_nil)))) (be_of (de_var 4 (pv 4))) (nomark _))
  (ds_one (d1_raise rfl (L2N.takes_of rfl rfl rfl rfl) G.e_BadPaper rfl))
  ds_nil)))
  (ds_one (d1_ret de_bl)))))
theorem d__law_same (G : Facts P w K mg base T k Φ) (cd : Value) (A : Around) (outer : List Env) (s : Shared) (H : Hp) (E : XK) (hgd : A.guards = some []) (hr : Room k (A.deeper (envOfC "_law_same" (defScope s__law_same) s.heap.objs.size f cd))) :
    DSs (bodyX P w K mg base n__law_same "_law_same" s__law_same f cd A outer s H E) T (WB E) (defBody s__law_same) (c__law_same Φ) := by
  have hu64 := hr.units
  have hu65 : (A.deeper (envOfC "_law_same" (defScope s__law_same) s.heap.objs.size f cd)).units + 65 < cLine := by have := hr.un; omega
  have hu100 : (A.deeper (envOfC "_law_same" (defScope s__law_same) s.heap.objs.size f cd)).units + 100 < cLine := by have := hr.un; omega
  exact (ds_one (d1_ret (de_cmp (opr_eq hu64) ops_eq (be_of (de_b1 (cr_repr hgd hu100) cs_repr rfl G.b_repr (by decide +kernel) (be_of (de_lst (da_cons (de_var 0 (pv 0)) da_nil))))) (be_of (de_b1 (cr_repr hgd hu100) cs_repr rfl G.b_repr (by decide +kernel) (be_of (de_lst (da_cons (de_var 1 (pv 1)) da_nil))))) (nomark _))))
theorem d__law_stream (G : Facts P w K mg base T k Φ) (cd : Value) (A : Around) (outer : List Env) (s : Shared) (H : Hp) (E : XK) (hgd : A.guards = some []) (hr : Room k (A.deeper (envOfC "_law_stream" (defScope s__law_stream) s.heap.objs.size f cd))) :
    DSs (bodyX P w K mg base n__law_stream "_law_stream" s__law_stream f cd A outer s H E) T (WB E) (defBody s__law_stream) (c__law_stream Φ) := by
  have hu64 := hr.units
  have hu65 : (A.deeper (envOfC "_law_stream" (defScope s__law_stream) s.heap.objs.size f cd)).units + 65 < cLine := by have := hr.un; omega
  have hu100 : (A.deeper (envOfC "_law_stream" (defScope s__law_stream) s.heap.objs.size f cd)).units + 100 < cLine := by have := hr.un; omega
  exact (ds_cons (d1_own (i := 1) sc__law_stream.nd rfl (by first | exact Or.inl rfl | exact Or.inr rfl) (ne_lst da_nil))
  (ds_cons (d1_for PassesOwn.leaving rfl (di_seq (de_sl (be_of (de_var 0 (pv 0))) dp_no (dp_so de_int))) (dg_nm (pg_name (i := 2) sc__law_stream.nd rfl (by first | exact Or.inl rfl | exact Or.inr rfl)))
  (ds_cons (d1_set (i := 3) sc__law_stream.nd rfl (by first | exact Or.inl rfl | exact Or.inr rfl) (de_b1 call_abs cs_abs rfl G.b_abs (by decide +kernel) (be_of (de_t1 call_int1 cs_int rfl G.b_int (by decide +kernel) (be_of (de_var 2 (pv 2)))))))
  (ds_one (d1_if (dt_cmp op_ge ops_ge (be_of (de_var 3 (pv 3))) (be_of (de_bin op_pow ops_pow (be_of de_int) (be_of de_int))) (nomark _))
  (ds_one (d1_for PassesOwn.leaving rfl (di_rg1 rfl G.b_range de_int) (dg_nm (pg_name (i := 4) sc__law_stream.nd rfl (by first | exact Or.inl rfl | exact Or.inr rfl)))
  (ds_cons (d1_app (i := 1) (fun te he => ps_expr (pe_bm PySem.F.plainAttrs_list PySem.F.slot_list_append PySem.F.type_list_append mt_append (pv 1) (pa_cons he pa_nil))) (de_bin op_mod ops_mod (be_of (de_t1 call_int1 cs_int rfl G.b_int (by decide +kernel) (be_of (de_var 3 (pv 3))))) (be_of de_int)))
  (ds_cons (d1_set (i := 3) sc__law_stream.nd rfl (by first | exact Or.inl rfl | exact Or.inr rfl) (de_bin op_fdivW ops_div (be_of (de_var 3 (pv 3))) (be_of de_int)))
  (ds_one (d1_if (dt_cmp (opr_eq hu64) ops_eq (be_of (de_var 3 (pv 3))) (be_of de_int) (nomark _))
  (ds_one d1_bk)
  ds_nil))))))
  (ds_cons (d1_set (i := 5) sc__law_stream.nd rfl (by first | exact Or.inl rfl | exact Or.inr rfl) (de_bin op_mod ops_mod (be_of (de_t1 call_int1 cs_int rfl G.b_int (by decide +kernel) (be_of (de_var 3 (pv 3))))) (be_of de_int)))
  (ds_one (d1_for PassesOwn.leaving rfl (di_rg1 rfl G.b_range de_int) (dg_nm (pg_name (i := 4) sc__law_stream.nd rfl (by first | exact Or.inl rfl | exact Or.inr rfl)))
  (ds_cons (d1_set (i := 5) sc__law_stream.nd rfl (by first | exact Or.inl rfl | exact Or.inr rfl) (de_bin op_mod ops_mod (be_of (de_t1 call_int1 cs_int rfl G.b_int (by decide +kernel) (be_of (de_bin opr_add ops_add (be_of (de_bin opr_add ops_add (be_of (de_bin opr_mul ops_mul (be_of (de_var 5 (pv 5))) (be_of de_int))) (be_of (de_bin opr_mul ops_mul (be_of de_int) (be_of (de_var 4 (pv 4))))))) (be_of de_int))))) (be_of de_int)))
  (ds_one (d1_app (i := 1) (fun te he => ps_expr (pe_bm PySem.F.plainAttrs_list PySem.F.slot_list_append PySem.F.type_list_append mt_append (pv 1) (pa_cons he pa_nil))) (de_bin op_mod ops_mod (be_of (de_bin op_mod ops_mod (be_of (de_t1 call_int1 cs_int rfl G.b_int (by decide +kernel) (be_of (de_bin opr_add ops_add (be_of (de_bin opr_mul ops_mul (be_of (de_var 5 (pv 5))) (be_of de_int))) (be_of (de_var 4 (pv 4))))))) (be_of de_int))) (be_of de_int))))))))))))
  (ds_cons (d1_if (dt_cmp (opr_eq hu64) ops_eq (be_of (de_b1 call_len cs_len rfl G.b_len (by decide +kernel) (be_var 1 (pv 1)))) (be_of de_int) (nomark _))
  (ds_one (d1_app (i := 1) (fun te he => ps_expr (pe_bm PySem.F.plainAttrs_list PySem.F.slot_list_append PySem.F.type_list_append mt_append (pv 1) (pa_cons he pa_nil))) de_int))
  ds_nil)
  (ds_fz 1 (ds_one (d1_ret (de_var 1 (pv 1))))))))
theorem d__law_next (G : Facts P w K mg base T k Φ) (cd : Value) (A : Around) (outer : List Env) (s : Shared) (H : Hp) (E : XK) (hgd : A.guards = some []) (hr : Room k (A.deeper (envOfC "_law_next" (defScope s__law_next) s.heap.objs.size f cd))) :
    DSs (bodyX P w K mg base n__law_next "_law_next" s__law_next f cd A outer s H E) T (WB E) (defBody s__law_next) (c__law_next Φ) := by
  have hu64 := hr.units
  have hu65 : (A.deeper (envOfC "_law_next" (defScope s__law_next) s.heap.objs.size f cd)).units + 65 < cLine := by have := hr.un; omega
  have hu100 : (A.deeper (envOfC "_law_next" (defScope s__law_next) s.heap.objs.size f cd)).units + 100 < cLine := by have := hr.un; omega
  exact (ds_cons (d1_put (fun te tk he hk => ps_asg he (pg_sub (pv 0) hk set_list)) (de_bin opr_add ops_add (be_of (de_ix (be_of (de_var 0 (pv 0))) (be_of de_int))) (be_of de_int)) de_int)
  (ds_cons (d1_set (i := 2) sc__law_next.nd rfl (by first | exact Or.inl rfl | exact Or.inr rfl) (de_bin op_fdivW ops_div (be_of (de_ix (be_of (de_var 0 (pv 0))) (be_of de_int))) (be_of (de_b1 call_len cs_len rfl G.b_len (by decide +kernel) (be_of (de_ix (be_of (de_var 0 (pv 0))) (be_of de_int)))))))
  (ds_one (d1_ret (de_bin op_mod ops_mod (be_of (de_t1 call_int1 cs_int rfl G.b_int (by decide +kernel) (be_of (de_bin opr_add ops_add (be_of (de_bin opr_add ops_add (be_of (de_ix (be_of (de_ix (be_of (de_var 0 (pv 0))) (be_of de_int))) (be_of (de_bin op_mod ops_mod (be_of (de_ix (be_of (de_var 0 (pv 0))) (be_of de_int))) (be_of (de_b1 call_len cs_len rfl G.b_len (by decide +kernel) (be_of (de_ix (be_of (de_var 0 (pv 0))) (be_of de_int))))))))) (be_of (de_bin opr_mul ops_mul (be_of (de_var 2 (pv 2))) (be_of de_int))))) (be_of (de_bin opr_mul ops_mul (be_of (de_bin opr_mul ops_mul (be_of (de_ix (be_of (de_var 0 (pv 0))) (be_of de_int))) (be_of (de_var 2 (pv 2))))) (be_of de_int))))))) (be_of (de_var 1 (pv 1))))))))
theorem d__law_first (G : Facts P w K mg base T k Φ) (cd : Value) (A : Around) (outer : List Env) (s : Shared) (H : Hp) (E : XK) (hgd : A.guards = some []) (hr : Room k (A.deeper (envOfC "_law_first" (defScope s__law_first) s.heap.objs.size f cd))) :
    DSs (bodyX P w K mg base n__law_first "_law_first" s__law_first f cd A outer s H E) T (WB E) (defBody s__law_first) (c__law_first Φ) := by
  have hu64 := hr.units
  have hu65 : (A.deeper (envOfC "_law_first" (defScope s__law_first) s.heap.objs.size f cd)).units + 65 < cLine := by have := hr.un; omega
  have hu100 : (A.deeper (envOfC "_law_first" (defScope s__law_first) s.heap.objs.size f cd)).units + 100 < cLine := by have := hr.un; omega
  exact (ds_cons (d1_for PassesOwn.leaving rfl (di_seq (de_var 0 (pv 0))) (dg_nm (pg_name (i := 2) sc__law_first.nd rfl (by first | exact Or.inl rfl | exact Or.inr rfl)))
  (ds_one (d1_if (dt_tru (be_of (de_bin op_and ops_and (be_of (de_bin op_shr ops_shr (be_of (de_var 1 (pv 1))) (be_of (de_var 2 (pv 2))))) (be_of de_int))))
  (ds_one (d1_ret (de_bin op_shl ops_shl (be_of de_int) (be_of (de_var 2 (pv 2))))))
  ds_nil)))
  (ds_one (d1_ret de_int)))
theorem d__law_rows_table (G : Facts P w K mg base T k Φ) (cd : Value) (A : Around) (outer : List Env) (s : Shared) (H : Hp) (E : XK) (hgd : A.guards = some []) (hr : Room k (A.deeper (envOfC "_law_rows_table" (defScope s__law_rows_table) s.heap.objs.size f cd))) :
    DSs (bodyX P w K mg base n__law_rows_table "_law_rows_table" s__law_rows_table f cd A outer s H E) T (WB E) (defBody s__law_rows_table) (c__law_rows_table Φ) := by
  have hu64 := hr.units
  have hu65 : (A.deeper (envOfC "_law_rows_table" (defScope s__law_rows_table) s.heap.objs.size f cd)).units + 65 < cLine := by have := hr.un; omega
  have hu100 : (A.deeper (envOfC "_law_rows_table" (defScope s__law_rows_table) s.heap.objs.size f cd)).units + 100 < cLine := by have := hr.un; omega
  exact (ds_cons (d1_own (i := 2) sc__law_rows_table.nd rfl (by first | exact Or.inl rfl | exact Or.inr rfl) (ne_lst da_nil))
  (ds_cons (d1_for PassesOwn.leaving rfl (di_rg1 rfl G.b_range (de_bin op_shl ops_shl (be_of de_int) (be_of (de_var 0 (pv 0))))) (dg_nm (pg_name (i := 3) sc__law_rows_table.nd rfl (by first | exact Or.inl rfl | exact Or.inr rfl)))
  (ds_cons (d1_set (i := 4) sc__law_rows_table.nd rfl (by first | exact Or.inl rfl | exact Or.inr rfl) de_int)
  (ds_cons (d1_for PassesOwn.leaving rfl (di_seq (de_var 1 (pv 1))) (dg_nm (pg_name (i := 5) sc__law_rows_table.nd rfl (by first | exact Or.inl rfl | exact Or.inr rfl)))
  (ds_one (d1_set (i := 4) sc__law_rows_table.nd rfl (by first | exact Or.inl rfl | exact Or.inr rfl) (de_bin op_or ops_or (be_of (de_var 4 (pv 4))) (be_of (de_call G.f__law_first hgd hr rfl (L2N.takes_of rfl rfl rfl rfl) (da_cons (de_var 5 (pv 5)) (da_cons (de_var 3 (pv 3)) da_nil))))))))
  (ds_one (d1_app (i := 2) (fun te he => ps_expr (pe_bm PySem.F.plainAttrs_list PySem.F.slot_list_append PySem.F.type_list_append mt_append (pv 2) (pa_cons he pa_nil))) (de_var 4 (pv 4)))))))
  (ds_one (d1_ret (de_t1 call_tuple_of cs_tup rfl G.b_tuple (by decide +kernel) (be_var 2 (pv 2)))))))
theorem d__law_mixed (G : Facts P w K mg base T k Φ) (cd : Value) (A : Around) (outer : List Env) (s : Shared) (H : Hp) (E : XK) (hgd : A.guards = some []) (hr : Room k (A.deeper (envOfC "_law_mixed" (defScope s__law_mixed) s.heap.objs.size f cd))) :
    DSs (bodyX P w K mg base n__law_mixed "_law_mixed" s__law_mixed f cd A outer s H E) T (WB E) (defBody s__law_mixed) (c__law_mixed Φ) := by
  have hu64 := hr.units
  have hu65 : (A.deeper (envOfC "_law_mixed" (defScope s__law_mixed) s.heap.objs.size f cd)).units + 65 < cLine := by have := hr.un; omega
  have hu100 : (A.deeper (envOfC "_law_mixed" (defScope s__law_mixed) s.heap.objs.size f cd)).units + 100 < cLine := by have := hr.un; omega
  exact (ds_cons (d1_own (i := 1) sc__law_mixed.nd rfl (by first | exact Or.inl rfl | exact Or.inr rfl) (ne_list rfl G.b_list (be_var 1 (pv 1))))
  (ds_cons (d1_for PassesOwn.leaving rfl (di_rg1 rfl G.b_range (de_bin op_sub ops_sub (be_of (de_b1 call_len cs_len rfl G.b_len (by decide +kernel) (be_var 1 (pv 1)))) (be_of de_int))) (dg_nm (pg_name (i := 2) sc__law_mixed.nd rfl (by first | exact Or.inl rfl | exact Or.inr rfl)))
  (ds_cons (d1_set (i := 3) sc__law_mixed.nd rfl (by first | exact Or.inl rfl | exact Or.inr rfl) (de_bin opr_add ops_add (be_of (de_var 2 (pv 2))) (be_of (de_call G.f__law_next hgd hr rfl (L2N.takes_of rfl rfl rfl rfl) (da_cons (de_var 0 (pv 0)) (da_cons (de_bin op_sub ops_sub (be_of (de_b1 call_len cs_len rfl G.b_len (by decide +kernel) (be_var 1 (pv 1)))) (be_of (de_var 2 (pv 2)))) da_nil))))))
  (ds_cons (d1_set (i := 4) sc__law_mixed.nd rfl (by first | exact Or.inl rfl | exact Or.inr rfl) (de_ix (be_var 1 (pv 1)) (be_of (de_var 3 (pv 3)))))
  (ds_cons (d1_put (fun te tk he hk => ps_asg he (pg_sub (pv 1) hk set_list)) (de_ix (be_var 1 (pv 1)) (be_of (de_var 2 (pv 2)))) (de_var 3 (pv 3)))
  (ds_one (d1_put (fun te tk he hk => ps_asg he (pg_sub (pv 1) hk set_list)) (de_var 4 (pv 4)) (de_var 2 (pv 2))))))))
  (ds_one (d1_ret (de_t1 call_tuple_of cs_tup rfl G.b_tuple (by decide +kernel) (be_var 1 (pv 1)))))))
theorem d__law_drawn_rows (G : Facts P w K mg base T k Φ) (cd : Value) (A : Around) (outer : List Env) (s : Shared) (H : Hp) (E : XK) (hgd : A.guards = some []) (hr : Room k (A.deeper (envOfC "_law_drawn_rows" (defScope s__law_drawn_rows) s.heap.objs.size f cd))) :
    DSs (bodyX P w K mg base n__law_drawn_rows "_law_drawn_rows" s__law_drawn_rows f cd A outer s H E) T (WB E) (defBody s__law_drawn_rows) (c__law_drawn_rows Φ) := by
  have hu64 := hr.units
  have hu65 : (A.deeper (envOfC "_law_drawn_rows" (defScope s__law_drawn_rows) s.heap.objs.size f cd)).units + 65 < cLine := by have := hr.un; omega
  have hu100 : (A.deeper (envOfC "_law_drawn_rows" (defScope s__law_drawn_rows) s.heap.objs.size f cd)).units + 100 < cLine := by have := hr.un; omega
  exact (ds_one (d1_ret (de_t1 call_tuple_of cs_tup rfl G.b_tuple (by decide +kernel) (be_of (de_lc (own := [("k", 3)]) rfl sc__law_drawn_rows.nd (di_rg1 rfl G.b_range (de_bin opr_add ops_add (be_of de_int) (be_of (de_call G.f__law_next hgd hr rfl (L2N.takes_of rfl rfl rfl rfl) (da_cons (de_var 0 (pv 0)) (da_cons (de_var 2 (pv 2)) da_nil)))))) (blkOk_by (N := n__law_drawn_rows) (sc := defScope s__law_drawn_rows) (by decide +kernel)) (by decide) (fun _ _ _ _ _ => (dg_nm (pg_name (i := 3) sc__law_drawn_rows.nd rfl (Or.inl rfl)))) (fun _ _ _ _ _ => dts_nil) (fun _ _ _ _ _ => (de_call G.f__law_mixed hgd hr rfl takes_no (da_cons (de_var 0 (pv 0)) (da_cons (de_lrg rfl rfl G.b_list rfl G.b_range (de_var 1 (pv 1))) da_nil)))))))))
theorem d__law_told (G : Facts P w K mg base T k Φ) (cd : Value) (A : Around) (outer : List Env) (s : Shared) (H : Hp) (E : XK) (hgd : A.guards = some []) (hr : Room k (A.deeper (envOfC "_law_told" (defScope s__law_told) s.heap.objs.size f cd))) :
    DSs (bodyX P w K mg base n__law_told "_law_told" s__law_told f cd A outer s H E) T (WB E) (defBody s__law_told) (c__law_told Φ) := by
  have hu64 := hr.units
  have hu65 : (A.deeper (envOfC "_law_told" (defScope s__law_told) s.heap.objs.size f cd)).units + 65 < cLine := by have := hr.un; omega
  have hu100 : (A.deeper (envOfC "_law_told" (defScope s__law_told) s.heap.objs.size f cd)).units + 100 < cLine := by have := hr.un; omega
  exact (ds_one (d1_try rfl rfl sc__law_told.nd rfl rfl ⟨rfl, by decide, Or.inl G.e_MindError.gC⟩ (L2N.takes_of rfl rfl rfl rfl) G.x_told (fun W pn xe tk pw => (ds_cons (d1_if (dt_cmp (opr_eq hu64) ops_eq (be_of (de_var 0 (pv 0))) (be_of de_int) (nomark _))
  (ds_one (d1_ret (de_tup (da_cons (de_str (by decide +kernel)) (da_cons (de_call G.f_check_rows hgd hr rfl tk (da_cons (de_var 1 (pv 1)) (da_cons (de_var 2 (pv 2)) da_nil))) da_nil)))))
  ds_nil)
  (ds_cons (d1_if (dt_cmp (opr_eq hu64) ops_eq (be_of (de_var 0 (pv 0))) (be_of de_int) (nomark _))
  (ds_one (d1_ret (de_tup (da_cons (de_str (by decide +kernel)) (da_cons (de_call G.f_table_of_rows hgd hr rfl tk (da_cons (de_var 1 (pv 1)) (da_cons (de_var 2 (pv 2)) da_nil))) da_nil)))))
  ds_nil)
  (ds_cons (d1_if (dt_cmp (opr_eq hu64) ops_eq (be_of (de_var 0 (pv 0))) (be_of de_int) (nomark _))
  (ds_one (d1_ret (de_tup (da_cons (de_str (by decide +kernel)) (da_cons (de_call G.f_first_in_rows hgd hr rfl tk (da_cons (de_var 1 (pv 1)) (da_cons (de_var 2 (pv 2)) (da_cons (de_var 3 (pv 3)) da_nil)))) da_nil)))))
  ds_nil)
  (ds_one (d1_ret (de_tup (da_cons (de_str (by decide +kernel)) (da_cons (de_call G.f_check_from_rows hgd hr rfl tk (da_cons (de_var 1 (pv 1)) (da_cons (de_var 3 (pv 3)) (da_cons (de_var 2 (pv 2)) da_nil)))) da_nil))))))))) (fun a oe cls d pn hz hf => pss_one (su_ret (i := 4) G.x_err hr rfl (by first | exact Or.inl rfl | exact Or.inr (Or.inl rfl)) rfl hz hf))))
theorem d__law_chosen (G : Facts P w K mg base T k Φ) (cd : Value) (A : Around) (outer : List Env) (s : Shared) (H : Hp) (E : XK) (hgd : A.guards = some []) (hr : Room k (A.deeper (envOfC "_law_chosen" (defScope s__law_chosen) s.heap.objs.size f cd))) :
    DSs (bodyX P w K mg base n__law_chosen "_law_chosen" s__law_chosen f cd A outer s H E) T (WB E) (defBody s__law_chosen) (c__law_chosen Φ) := by
  have hu64 := hr.units
  have hu65 : (A.deeper (envOfC "_law_chosen" (defScope s__law_chosen) s.heap.objs.size f cd)).units + 65 < cLine := by have := hr.un; omega
  have hu100 : (A.deeper (envOfC "_law_chosen" (defScope s__law_chosen) s.heap.objs.size f cd)).units + 100 < cLine := by have := hr.un; omega
  exact (ds_cons (d1_set (i := 2) sc__law_chosen.nd rfl (by first | exact Or.inl rfl | exact Or.inr rfl) de_int)
  (ds_cons (d1_for PassesOwn.leaving rfl (di_seq (de_var 0 (pv 0))) (dg_nm (pg_name (i := 3) sc__law_chosen.nd rfl (by first | exact Or.inl rfl | exact Or.inr rfl)))
  (ds_one (d1_set (i := 2) sc__law_chosen.nd rfl (by first | exact Or.inl rfl | exact Or.inr rfl) (de_bin op_or ops_or (be_of (de_var 2 (pv 2))) (be_of (de_call G.f__law_first hgd hr rfl (L2N.takes_of rfl rfl rfl rfl) (da_cons (de_var 3 (pv 3)) (da_cons (de_var 1 (pv 1)) da_nil))))))))
  (ds_one (d1_ret (de_var 2 (pv 2))))))
theorem d__law_fits (G : Facts P w K mg base T k Φ) (cd : Value) (A : Around) (outer : List Env) (s : Shared) (H : Hp) (E : XK) (hgd : A.guards = some []) (hr : Room k (A.deeper (envOfC "_law_fits" (defScope s__law_fits) s.heap.objs.size f cd))) :
    DSs (bodyX P w K mg base n__law_fits "_law_fits" s__law_fits f cd A outer s H E) T (WB E) (defBody s__law_fits) (c__law_fits Φ) := by
  have hu64 := hr.units
  have hu65 : (A.deeper (envOfC "_law_fits" (defScope s__law_fits) s.heap.objs.size f cd)).units + 65 < cLine := by have := hr.un; omega
  have hu100 : (A.deeper (envOfC "_law_fits" (defScope s__law_fits) s.heap.objs.size f cd)).units + 100 < cLine := by have := hr.un; omega
  exact (ds_cons (d1_set (i := 2) sc__law_fits.nd rfl (by first | exact Or.inl rfl | exact Or.inr rfl) (de_call G.f__law_drawn_rows hgd hr rfl (L2N.takes_of rfl rfl rfl rfl) (da_cons (de_var 0 (pv 0)) (da_cons (de_var 1 (pv 1)) (da_cons de_int da_nil)))))
  (ds_cons (d1_set (i := 3) sc__law_fits.nd rfl (by first | exact Or.inl rfl | exact Or.inr rfl) (de_b1 (cr_repr hgd hu100) cs_repr rfl G.b_repr (by decide +kernel) (be_of (de_var 2 (pv 2)))))
  (ds_cons (d1_set (i := 4) sc__law_fits.nd rfl (by first | exact Or.inl rfl | exact Or.inr rfl) (de_b1 (cr_sumA rfl) cs_sum rfl G.b_sum (by decide +kernel) (be_of (de_lc (own := [("world", 10)]) rfl sc__law_fits.nd (di_rg1 rfl G.b_range (de_var 1 (pv 1))) (blkOk_by (N := n__law_fits) (sc := defScope s__law_fits) (by decide +kernel)) (by decide) (fun _ _ _ _ _ => (dg_nm (pg_name (i := 10) sc__law_fits.nd rfl (Or.inl rfl)))) (fun _ _ _ _ _ => (dts_one (dt_cmp (opr_eq hu64) ops_eq (be_of (de_call G.f__law_next hgd hr rfl takes_no (da_cons (de_var 0 (pv 0)) (da_cons de_int da_nil)))) (be_of de_int) (nomark _)))) (fun _ _ _ _ _ => (de_bin op_shl ops_shl (be_of de_int) (be_of (de_var 10 (pv 10)))))))))
  (ds_cons (d1_if (dt_not (dt_tru (be_of (de_call G.f__law_same hgd hr rfl (L2N.takes_of rfl rfl rfl rfl) (da_cons (de_lst (da_cons (de_call G.f__law_told hgd hr rfl (L2N.takes_of rfl rfl rfl rfl) (da_cons de_int (da_cons (de_var 1 (pv 1)) (da_cons (de_var 2 (pv 2)) (da_cons de_int da_nil))))) (da_cons (de_call G.f__law_told hgd hr rfl (L2N.takes_of rfl rfl rfl rfl) (da_cons de_int (da_cons (de_var 1 (pv 1)) (da_cons (de_var 2 (pv 2)) (da_cons (de_var 4 (pv 4)) da_nil))))) da_nil))) (da_cons (de_lst (da_cons (de_tup (da_cons (de_str (by decide +kernel)) (da_cons de_non da_nil))) (da_cons (de_tup (da_cons (de_str (by decide +kernel)) (da_cons (de_call G.f__law_chosen hgd hr rfl (L2N.takes_of rfl rfl rfl rfl) (da_cons (de_var 2 (pv 2)) (da_cons (de_var 4 (pv 4)) da_nil))) da_nil))) da_nil))) da_nil))))))
  (ds_one (d1_ret de_bl))
  ds_nil)
  (ds_cons (d1_set (i := 5) sc__law_fits.nd rfl (by first | exact Or.inl rfl | exact Or.inr rfl) (de_call G.f__law_next hgd hr rfl (L2N.takes_of rfl rfl rfl rfl) (da_cons (de_var 0 (pv 0)) (da_cons (de_b1 call_len cs_len rfl G.b_len (by decide +kernel) (be_of (de_var 2 (pv 2)))) da_nil))))
  (ds_cons (d1_set (i := 6) sc__law_fits.nd rfl (by first | exact Or.inl rfl | exact Or.inr rfl) (de_ix (be_of (de_var 2 (pv 2))) (be_of (de_var 5 (pv 5)))))
  (ds_cons (d1_set (i := 7) sc__law_fits.nd rfl (by first | exact Or.inl rfl | exact Or.inr rfl) (de_lst (da_cons (de_sl (be_of (de_var 6 (pv 6))) (dp_so de_int) dp_no) (da_cons (de_bin opr_add ops_add (be_of (de_var 6 (pv 6))) (be_of (de_sl (be_of (de_var 6 (pv 6))) dp_no (dp_so de_int)))) (da_cons (de_bin opr_add ops_add (be_of (de_sl (be_of (de_var 6 (pv 6))) dp_no (dp_so (de_neg (be_of de_int))))) (be_of (de_tup (da_cons (de_var 1 (pv 1)) da_nil)))) (da_cons (de_bin opr_add ops_add (be_of (de_sl (be_of (de_var 6 (pv 6))) dp_no (dp_so (de_neg (be_of de_int))))) (be_of (de_tup (da_cons (de_neg (be_of de_int)) da_nil)))) (da_cons (de_bin opr_add ops_add (be_of (de_var 6 (pv 6))) (be_of (de_tup (da_cons (de_var 1 (pv 1)) da_nil)))) da_nil)))))))
  (ds_cons (d1_setLc (i := 8) (own := [("other", 9)]) rfl sc__law_fits.nd rfl rfl (sw_true rfl rfl rfl (by decide +kernel)) (di_seq (de_var 7 (pv 7))) (blkOk_by (N := n__law_fits) (sc := defScope s__law_fits) (by decide +kernel)) (by decide) (fun _ _ _ _ _ => (dg_nm (pg_name (i := 9) sc__law_fits.nd rfl (Or.inl rfl)))) (fun _ _ _ _ _ => dts_nil) (fun _ _ _ _ _ => (de_call G.f__law_told hgd hr rfl takes_no (da_cons de_int (da_cons (de_var 1 (pv 1)) (da_cons (de_bin opr_add ops_add (be_of (de_bin opr_add ops_add (be_of (de_sl (be_of (de_var 2 (pv 2))) dp_no (dp_so (de_var 5 (pv 5))))) (be_of (de_tup (da_cons (de_var 9 (pv 9)) da_nil))))) (be_of (de_sl (be_of (de_var 2 (pv 2))) (dp_so (de_bin opr_add ops_add (be_of (de_var 5 (pv 5))) (be_of de_int))) dp_no))) (da_cons de_int da_nil)))))))
  (ds_cons (d1_set (i := 8) sc__law_fits.nd rfl (by first | exact Or.inl rfl | exact Or.inr rfl) (de_bin opr_add ops_add (be_of (de_var 8 (pv 8))) (be_of (de_lst (da_cons (de_call G.f__law_told hgd hr rfl (L2N.takes_of rfl rfl rfl rfl) (da_cons de_int (da_cons (de_var 1 (pv 1)) (da_cons (de_tup da_nil) (da_cons de_int da_nil))))) (da_cons (de_call G.f__law_told hgd hr rfl (L2N.takes_of rfl rfl rfl rfl) (da_cons de_int (da_cons (de_var 1 (pv 1)) (da_cons (de_bin opr_add ops_add (be_of (de_var 2 (pv 2))) (be_of (de_tup (da_cons (de_tup da_nil) da_nil)))) (da_cons de_int da_nil))))) (da_cons (de_call G.f__law_told hgd hr rfl (L2N.takes_of rfl rfl rfl rfl) (da_cons de_int (da_cons (de_var 1 (pv 1)) (da_cons (de_var 2 (pv 2)) (da_cons (de_bin op_shl ops_shl (be_of de_int) (be_of (de_var 1 (pv 1)))) da_nil))))) da_nil)))))))
  (ds_one (d1_ret (de_and (de_call G.f__law_same hgd hr rfl (L2N.takes_of rfl rfl rfl rfl) (da_cons (de_var 8 (pv 8)) (da_cons (de_bin opr_mul ops_mul (be_of (de_lst (da_cons (de_str (by decide +kernel)) da_nil))) (be_of de_int)) da_nil))) (de_one (de_cmp (opr_eq hu64) ops_eq (be_of (de_b1 (cr_repr hgd hu100) cs_repr rfl G.b_repr (by decide +kernel) (be_of (de_var 2 (pv 2))))) (be_of (de_var 3 (pv 3))) (nomark _)))))))))))))))
theorem d__law_table_fits (G : Facts P w K mg base T k Φ) (cd : Value) (A : Around) (outer : List Env) (s : Shared) (H : Hp) (E : XK) (hgd : A.guards = some []) (hr : Room k (A.deeper (envOfC "_law_table_fits" (defScope s__law_table_fits) s.heap.objs.size f cd))) :
    DSs (bodyX P w K mg base n__law_table_fits "_law_table_fits" s__law_table_fits f cd A outer s H E) T (WB E) (defBody s__law_table_fits) (c__law_table_fits Φ) := by
  have hu64 := hr.units
  have hu65 : (A.deeper (envOfC "_law_table_fits" (defScope s__law_table_fits) s.heap.objs.size f cd)).units + 65 < cLine := by have := hr.un; omega
  have hu100 : (A.deeper (envOfC "_law_table_fits" (defScope s__law_table_fits) s.heap.objs.size f cd)).units + 100 < cLine := by have := hr.un; omega
  exact (ds_cons (d1_set (i := 2) sc__law_table_fits.nd rfl (by first | exact Or.inl rfl | exact Or.inr rfl) (de_call G.f__law_drawn_rows hgd hr rfl (L2N.takes_of rfl rfl rfl rfl) (da_cons (de_var 0 (pv 0)) (da_cons (de_var 1 (pv 1)) (da_cons de_int da_nil)))))
  (ds_cons (d1_set (i := 3) sc__law_table_fits.nd rfl (by first | exact Or.inl rfl | exact Or.inr rfl) (de_call G.f__law_rows_table hgd hr rfl (L2N.takes_of rfl rfl rfl rfl) (da_cons (de_var 1 (pv 1)) (da_cons (de_var 2 (pv 2)) da_nil))))
  (ds_cons (d1_set (i := 4) sc__law_table_fits.nd rfl (by first | exact Or.inl rfl | exact Or.inr rfl) (de_call G.f__law_next hgd hr rfl (L2N.takes_of rfl rfl rfl rfl) (da_cons (de_var 0 (pv 0)) (da_cons (de_bin op_shl ops_shl (be_of de_int) (be_of (de_var 1 (pv 1)))) da_nil))))
  (ds_cons (d1_set (i := 5) sc__law_table_fits.nd rfl (by first | exact Or.inl rfl | exact Or.inr rfl) (de_bin op_and ops_and (be_of (de_var 4 (pv 4))) (be_of (de_call G.f__law_next hgd hr rfl (L2N.takes_of rfl rfl rfl rfl) (da_cons (de_var 0 (pv 0)) (da_cons (de_bin op_shl ops_shl (be_of de_int) (be_of (de_var 1 (pv 1)))) da_nil))))))
  (ds_cons (d1_set (i := 6) sc__law_table_fits.nd rfl (by first | exact Or.inl rfl | exact Or.inr rfl) (de_bin opr_add ops_add (be_of (de_bin opr_add ops_add (be_of (de_sl (be_of (de_var 3 (pv 3))) dp_no (dp_so (de_var 4 (pv 4))))) (be_of (de_tup (da_cons (de_var 5 (pv 5)) da_nil))))) (be_of (de_sl (be_of (de_var 3 (pv 3))) (dp_so (de_bin opr_add ops_add (be_of (de_var 4 (pv 4))) (be_of de_int))) dp_no))))
  (ds_cons (d1_set (i := 7) sc__law_table_fits.nd rfl (by first | exact Or.inl rfl | exact Or.inr rfl) (de_call G.f__law_drawn_rows hgd hr rfl (L2N.takes_of rfl rfl rfl rfl) (da_cons (de_var 0 (pv 0)) (da_cons (de_var 1 (pv 1)) (da_cons de_int da_nil)))))
  (ds_cons (d1_set (i := 8) sc__law_table_fits.nd rfl (by first | exact Or.inl rfl | exact Or.inr rfl) (de_lst (da_cons (de_call G.f__law_told hgd hr rfl (L2N.takes_of rfl rfl rfl rfl) (da_cons de_int (da_cons (de_var 1 (pv 1)) (da_cons (de_var 2 (pv 2)) (da_cons de_int da_nil))))) (da_cons (de_call G.f__law_told hgd hr rfl (L2N.takes_of rfl rfl rfl rfl) (da_cons de_int (da_cons (de_var 1 (pv 1)) (da_cons (de_var 2 (pv 2)) (da_cons (de_var 3 (pv 3)) da_nil))))) (da_cons (de_call G.f__law_told hgd hr rfl (L2N.takes_of rfl rfl rfl rfl) (da_cons de_int (da_cons (de_var 1 (pv 1)) (da_cons (de_var 2 (pv 2)) (da_cons (de_var 6 (pv 6)) da_nil))))) (da_cons (de_call G.f__law_told hgd hr rfl (L2N.takes_of rfl rfl rfl rfl) (da_cons de_int (da_cons (de_var 1 (pv 1)) (da_cons (de_var 7 (pv 7)) (da_cons (de_var 3 (pv 3)) da_nil))))) (da_cons (de_call G.f__law_told hgd hr rfl (L2N.takes_of rfl rfl rfl rfl) (da_cons de_int (da_cons (de_var 1 (pv 1)) (da_cons (de_bin opr_add ops_add (be_of (de_var 2 (pv 2))) (be_of (de_var 7 (pv 7)))) (da_cons (de_var 3 (pv 3)) da_nil))))) da_nil)))))))
  (ds_cons (d1_own (i := 9) sc__law_table_fits.nd rfl (by first | exact Or.inl rfl | exact Or.inr rfl) (ne_lst (da_cons (de_tup (da_cons (de_str (by decide +kernel)) (da_cons (de_var 3 (pv 3)) da_nil))) (da_cons (de_tup (da_cons (de_str (by decide +kernel)) (da_cons de_bl da_nil))) da_nil))))
  (ds_cons (d1_for PassesOwn.leaving rfl (di_seq (de_tup (da_cons (de_cmp (opr_eq hu64) ops_eq (be_of (de_var 6 (pv 6))) (be_of (de_var 3 (pv 3))) (nomark _)) (da_cons (de_cmp (opr_eq hu64) ops_eq (be_of (de_call G.f__law_rows_table hgd hr rfl (L2N.takes_of rfl rfl rfl rfl) (da_cons (de_var 1 (pv 1)) (da_cons (de_var 7 (pv 7)) da_nil)))) (be_of (de_var 3 (pv 3))) (nomark _)) (da_cons (de_cmp (opr_eq hu64) ops_eq (be_of (de_call G.f__law_rows_table hgd hr rfl (L2N.takes_of rfl rfl rfl rfl) (da_cons (de_var 1 (pv 1)) (da_cons (de_bin opr_add ops_add (be_of (de_var 2 (pv 2))) (be_of (de_var 7 (pv 7)))) da_nil)))) (be_of (de_var 3 (pv 3))) (nomark _)) da_nil))))) (dg_nm (pg_name (i := 10) sc__law_table_fits.nd rfl (by first | exact Or.inl rfl | exact Or.inr rfl)))
  (ds_one (d1_app (i := 9) (fun te he => ps_expr (pe_bm PySem.F.plainAttrs_list PySem.F.slot_list_append PySem.F.type_list_append mt_append (pv 9) (pa_cons he pa_nil))) (de_ix (be_of (de_lst (da_cons (de_str (by decide +kernel)) (da_cons (de_tup (da_cons (de_str (by decide +kernel)) (da_cons de_bl da_nil))) da_nil)))) (be_of (de_t1 call_int1 cs_int rfl G.b_int (by decide +kernel) (be_of (de_var 10 (pv 10)))))))))
  (ds_fz 9 (ds_one (d1_ret (de_call G.f__law_same hgd hr rfl (L2N.takes_of rfl rfl rfl rfl) (da_cons (de_var 8 (pv 8)) (da_cons (de_var 9 (pv 9)) da_nil)))))))))))))))
theorem d_law (G : Facts P w K mg base T k Φ) (cd : Value) (A : Around) (outer : List Env) (s : Shared) (H : Hp) (E : XK) (hgd : A.guards = some []) (hr : Room k (A.deeper (envOfC "law" (defScope s_law) s.heap.objs.size f cd))) :
    DSs (bodyX P w K mg base n_law "law" s_law f cd A outer s H E) T (WB E) (defBody s_law) (c_law Φ) := by
  have hu64 := hr.units
  have hu65 : (A.deeper (envOfC "law" (defScope s_law) s.heap.objs.size f cd)).units + 65 < cLine := by have := hr.un; omega
  have hu100 : (A.deeper (envOfC "law" (defScope s_law) s.heap.objs.size f cd)).units + 100 < cLine := by have := hr.un; omega
  exact (ds_cons (d1_ref (i := 1) sc_law.nd rfl (by first | exact Or.inl rfl | exact Or.inr rfl) (ne_lst (da_cons (de_call G.f__law_stream hgd hr rfl (L2N.takes_of rfl rfl rfl rfl) (da_cons (de_var 0 (pv 0)) da_nil)) (da_cons de_int da_nil))))
  (ds_cons (d1_for PassesOwn.leaving rfl (di_rg1 rfl G.b_range de_int) (dg_nm (pg_name (i := 2) sc_law.nd rfl (by first | exact Or.inl rfl | exact Or.inr rfl)))
  (ds_one (d1_if (dt_bool (dw_or (dt_not (dt_tru (be_of (de_call G.f__law_fits hgd hr rfl (L2N.takes_of rfl rfl rfl rfl) (da_cons (de_var 1 (pv 1)) (da_cons (de_ix (be_of (de_lst (da_cons de_int (da_cons (de_bin opr_add ops_add (be_of de_int) (be_of (de_call G.f__law_next hgd hr rfl (L2N.takes_of rfl rfl rfl rfl) (da_cons (de_var 1 (pv 1)) (da_cons de_int da_nil))))) da_nil)))) (be_of (de_t1 call_int1 cs_int rfl G.b_int (by decide +kernel) (be_of (de_cmp op_gt ops_gt (be_of (de_call G.f__law_next hgd hr rfl (L2N.takes_of rfl rfl rfl rfl) (da_cons (de_var 1 (pv 1)) (da_cons de_int da_nil)))) (be_of de_int) (nomark _)))))) da_nil)))))) (dw_or1 (dt_not (dt_tru (be_of (de_call G.f__law_table_fits hgd hr rfl (L2N.takes_of rfl rfl rfl rfl) (da_cons (de_var 1 (pv 1)) (da_cons (de_bin opr_add ops_add (be_of de_int) (be_of (de_call G.f__law_next hgd hr rfl (L2N.takes_of rfl rfl rfl rfl) (da_cons (de_var 1 (pv 1)) (da_cons de_int da_nil))))) da_nil)))))))))
  (ds_one (d1_ret de_bl))
  ds_nil)))
  (ds_cons (d1_set (i := 3) sc_law.nd rfl (by first | exact Or.inl rfl | exact Or.inr rfl) (de_trg rfl rfl G.b_tuple rfl G.b_range de_int))
  (ds_cons (d1_set (i := 4) sc_law.nd rfl (by first | exact Or.inl rfl | exact Or.inr rfl) (de_lst (da_cons (de_call G.f__law_told hgd hr rfl (L2N.takes_of rfl rfl rfl rfl) (da_cons de_int (da_cons de_int (da_cons (de_bin opr_mul ops_mul (be_of (de_tup (da_cons (de_var 3 (pv 3)) da_nil))) (be_of de_int)) (da_cons de_int da_nil))))) (da_cons (de_call G.f__law_told hgd hr rfl (L2N.takes_of rfl rfl rfl rfl) (da_cons de_int (da_cons de_int (da_cons (de_bin opr_mul ops_mul (be_of (de_tup (da_cons (de_var 3 (pv 3)) da_nil))) (be_of de_int)) (da_cons de_int da_nil))))) (da_cons (de_call G.f__law_told hgd hr rfl (L2N.takes_of rfl rfl rfl rfl) (da_cons de_int (da_cons de_int (da_cons (de_bin opr_mul ops_mul (be_of (de_tup (da_cons (de_tup da_nil) da_nil))) (be_of de_int)) (da_cons de_int da_nil))))) (da_cons (de_call G.f__law_told hgd hr rfl (L2N.takes_of rfl rfl rfl rfl) (da_cons de_int (da_cons de_int (da_cons (de_tup (da_cons (de_var 3 (pv 3)) da_nil)) (da_cons de_int da_nil))))) (da_cons (de_call G.f__law_told hgd hr rfl (L2N.takes_of rfl rfl rfl rfl) (da_cons de_int (da_cons de_int (da_cons (de_bin opr_mul ops_mul (be_of (de_tup (da_cons (de_var 3 (pv 3)) da_nil))) (be_of de_int)) (da_cons de_int da_nil))))) da_nil)))))))
  (ds_one (d1_ret (de_call G.f__law_same hgd hr rfl (L2N.takes_of rfl rfl rfl rfl) (da_cons (de_bin opr_add ops_add (be_of (de_var 4 (pv 4))) (be_of (de_lst (da_cons (de_gint G.g_MAX_FEWEST rfl) (da_cons (de_gint G.g_MAX_ROWS rfl) da_nil))))) (da_cons (de_lst (da_cons (de_tup (da_cons (de_str (by decide +kernel)) (da_cons de_non da_nil))) (da_cons (de_str (by decide +kernel)) (da_cons (de_str (by decide +kernel)) (da_cons (de_str (by decide +kernel)) (da_cons (de_tup (da_cons (de_str (by decide +kernel)) (da_cons de_int da_nil))) (da_cons de_int (da_cons de_int da_nil)))))))) da_nil)))))))))
/-- what the text says -/
structure Txt (K : PySem.W.Frag) (mg : Str → Option Value) (T : Tab) : Prop where
  b_ValueError : mg "ValueError" = none
  b_abs : mg "abs" = none
  b_enumerate : mg "enumerate" = none
  b_int : mg "int" = none
  b_isinstance : mg "isinstance" = none
  b_len : mg "len" = none
  b_list : mg "list" = none
  b_range : mg "range" = none
  b_repr : mg "repr" = none
  b_sorted : mg "sorted" = none
  b_sum : mg "sum" = none
  b_tuple : mg "tuple" = none
  g_MAX_FEWEST : ∃ t, mg "MAX_FEWEST" = some (.int 4 t)
  g_MAX_ROWS : ∃ t, mg "MAX_ROWS" = some (.int 200 t)
  g_MAX_TABLE : ∃ t, mg "MAX_TABLE" = some (.int 5 t)
  g_MAX_WORLDS : ∃ t, mg "MAX_WORLDS" = some (.int 32 t)
  e_MindError : Err K mg (T.cls 0) "MindError"
  e_NotAllowed : Err K mg (T.cls 1) "NotAllowed"
  e_TooLarge : Err K mg (T.cls 2) "TooLarge"
  e_Missing : Err K mg (T.cls 3) "Missing"
  e_BadPaper : Err K mg (T.cls 4) "BadPaper"
  t_check_many : Tx K mg "check_many" s_check_many ["many"]
  t_check_set : Tx K mg "check_set" s_check_set ["many", "one"]
  t_check_table : Tx K mg "check_table" s_check_table ["many", "table"]
  t_check_rows : Tx K mg "check_rows" s_check_rows ["many", "rows"]
  t_first_in_row : Tx K mg "first_in_row" s_first_in_row ["row", "one"]
  t_firsts : Tx K mg "firsts" s_firsts ["rows", "one"]
  t_first_in_rows : Tx K mg "first_in_rows" s_first_in_rows ["many", "rows", "one"]
  t_table_of_rows : Tx K mg "table_of_rows" s_table_of_rows ["many", "rows"]
  t_check_from_rows : Tx K mg "check_from_rows" s_check_from_rows ["many", "table", "rows"]
  t__law_same : Tx K mg "_law_same" s__law_same ["told", "due"]
  t__law_stream : Tx K mg "_law_stream" s__law_stream ["script"]
  t__law_next : Tx K mg "_law_next" s__law_next ["state", "many"]
  t__law_error : Tx K mg "_law_error" s__law_error ["e"]
  t__law_first : Tx K mg "_law_first" s__law_first ["row", "one"]
  t__law_rows_table : Tx K mg "_law_rows_table" s__law_rows_table ["many", "rows"]
  t__law_mixed : Tx K mg "_law_mixed" s__law_mixed ["state", "row"]
  t__law_drawn_rows : Tx K mg "_law_drawn_rows" s__law_drawn_rows ["state", "many", "most"]
  t__law_told : Tx K mg "_law_told" s__law_told ["kind", "many", "rows", "more"]
  t__law_chosen : Tx K mg "_law_chosen" s__law_chosen ["rows", "one"]
  t__law_fits : Tx K mg "_law_fits" s__law_fits ["state", "many"]
  t__law_table_fits : Tx K mg "_law_table_fits" s__law_table_fits ["state", "many"]
  t_law : Tx K mg "law" s_law ["script"]
  x : XFs K mg T
theorem d__law_error (X : Txt K mg T) (c : Nat) (r : Str) (hw : wordsE c = some r) (f : Addr) (cd : Value) (A : Around) (outer : List Env) (s : Shared) (H : Hp) (E : XK) (p : Addr × Obj) (hx : HotX (L2H.cxH (L2N.CX P w) P w K mg base n__law_error "_law_error" (defScope s__law_error) f cd A outer s H E p) p.1 (T.cls c)) :
    PSs (L2H.cxH (L2N.CX P w) P w K mg base n__law_error "_law_error" (defScope s__law_error) f cd A outer s H E p) (defBody s__law_error) (fun D σ H => σ[0]? = some (some (.ref p.1)) ∧ 1 < σ.length ∧ ∀ H2, Same H H2 → D.rt (.str r) H2) :=
  hot_all (bs := bsE c) (ps_h1 sc__law_error.nd rfl (Or.inl rfl) bsE_len (pa_isCons (pe_isX (X := cxH (L2N.CX P w) P w K mg base n__law_error "_law_error" (defScope s__law_error) f cd A outer s H E p) hx (X.x.at hw).cc rfl (Or.inl rfl) rfl X.b_isinstance (pe_glob (v := .ref (T.cls 1)) rfl X.e_NotAllowed.gC rfl) (fun u z => z) (X.x.at hw).k1) (pa_isCons (pe_isX (X := cxH (L2N.CX P w) P w K mg base n__law_error "_law_error" (defScope s__law_error) f cd A outer s H E p) hx (X.x.at hw).cc rfl (Or.inl rfl) rfl X.b_isinstance (pe_glob (v := .ref (T.cls 2)) rfl X.e_TooLarge.gC rfl) (fun u z => z) (X.x.at hw).k2) (pa_isCons (pe_isX (X := cxH (L2N.CX P w) P w K mg base n__law_error "_law_error" (defScope s__law_error) f cd A outer s H E p) hx (X.x.at hw).cc rfl (Or.inl rfl) rfl X.b_isinstance (pe_glob (v := .ref (T.cls 3)) rfl X.e_Missing.gC rfl) (fun u z => z) (X.x.at hw).k3) (pa_isCons (pe_isX (X := cxH (L2N.CX P w) P w K mg base n__law_error "_law_error" (defScope s__law_error) f cd A outer s H E p) hx (X.x.at hw).cc rfl (Or.inl rfl) rfl X.b_isinstance (pe_glob (v := .ref (T.cls 4)) rfl X.e_BadPaper.gC rfl) (fun u z => z) (X.x.at hw).k4) (pa_isCons (pe_isX (X := cxH (L2N.CX P w) P w K mg base n__law_error "_law_error" (defScope s__law_error) f cd A outer s H E p) hx (X.x.at hw).cc rfl (Or.inl rfl) rfl X.b_isinstance (pe_glob (v := .ref (T.cls 5)) rfl X.x.g5 rfl) (fun u z => z) (X.x.at hw).k5) pa_isNil))))))
    (ps_h2 hx rfl (Or.inl rfl) X.b_int X.b_sum rfl bsE_len (wordsE_ok hw).1 (by decide +kernel) rfl (by decide +kernel) rfl rfl)
    (ps_h3 (k := c - 1) (ws := wsE) rfl (Or.inl rfl) (PA.wk (pa_cons pe_str (pa_cons pe_str (pa_cons pe_str (pa_cons pe_str (pa_cons pe_str pa_nil))))) fun _ _ _ h => h) (by decide +kernel) (wordsE_ok hw).2.1 (wordsE_ok hw).2.2.1 (wordsE_ok hw).2.2.2.1)
/-- the defs at the call depth k -/
def step (Φ : Nat → Fv) (i : Nat) : Fv := match i with
  | 0 => runB 1 (c_check_many Φ)
  | 1 => runB 2 (c_check_set Φ)
  | 2 => runB 4 (c_check_table Φ)
  | 3 => runB 3 (c_check_rows Φ)
  | 4 => runB 3 (c_first_in_row Φ)
  | 5 => runB 4 (c_firsts Φ)
  | 6 => runB 3 (c_first_in_rows Φ)
  | 7 => runB 3 (c_table_of_rows Φ)
  | 8 => runB 5 (c_check_from_rows Φ)
  | 9 => runB 2 (c__law_same Φ)
  | 10 => runB 6 (c__law_stream Φ)
  | 11 => runB 3 (c__law_next Φ)
  | 12 => dErr
  | 13 => runB 3 (c__law_first Φ)
  | 14 => runB 6 (c__law_rows_table Φ)
  | 15 => runB 5 (c__law_mixed Φ)
  | 16 => runB 4 (c__law_drawn_rows Φ)
  | 17 => runB 5 (c__law_told Φ)
  | 18 => runB 4 (c__law_chosen Φ)
  | 19 => runB 11 (c__law_fits Φ)
  | 20 => runB 11 (c__law_table_fits Φ)
  | 21 => runB 5 (c_law Φ)
  | _ => fun _ _ => .stuck
def callN : Nat → Nat → Fv
  | 0 => fun _ _ _ => .stuck
  | k + 1 => step (callN k)
theorem facts (X : Txt K mg T) : ∀ k, Facts P w K mg base T k (callN k)
  | 0 => { b_ValueError := X.b_ValueError, b_abs := X.b_abs, b_enumerate := X.b_enumerate, b_int := X.b_int, b_isinstance := X.b_isinstance, b_len := X.b_len, b_list := X.b_list, b_range := X.b_range, b_repr := X.b_repr, b_sorted := X.b_sorted, b_sum := X.b_sum, b_tuple := X.b_tuple, g_MAX_FEWEST := X.g_MAX_FEWEST, g_MAX_ROWS := X.g_MAX_ROWS, g_MAX_TABLE := X.g_MAX_TABLE, g_MAX_WORLDS := X.g_MAX_WORLDS, e_MindError := X.e_MindError, e_NotAllowed := X.e_NotAllowed, e_TooLarge := X.e_TooLarge, e_Missing := X.e_Missing, e_BadPaper := X.e_BadPaper, f_check_many := cal_none X.t_check_many rfl, f_check_set := cal_none X.t_check_set rfl, f_check_table := cal_none X.t_check_table rfl, f_check_rows := cal_none X.t_check_rows rfl, f_first_in_row := cal_none X.t_first_in_row rfl, f_firsts := cal_none X.t_firsts rfl, f_first_in_rows := cal_none X.t_first_in_rows rfl, f_table_of_rows := cal_none X.t_table_of_rows rfl, f_check_from_rows := cal_none X.t_check_from_rows rfl, f__law_same := cal_none X.t__law_same rfl, f__law_stream := cal_none X.t__law_stream rfl, f__law_next := cal_none X.t__law_next rfl, f__law_first := cal_none X.t__law_first rfl, f__law_rows_table := cal_none X.t__law_rows_table rfl, f__law_mixed := cal_none X.t__law_mixed rfl, f__law_drawn_rows := cal_none X.t__law_drawn_rows rfl, f__law_told := cal_none X.t__law_told rfl, f__law_chosen := cal_none X.t__law_chosen rfl, f__law_fits := cal_none X.t__law_fits rfl, f__law_table_fits := cal_none X.t__law_table_fits rfl, f_law := cal_none X.t_law rfl, x_err := calx_none, x_told := told_none, x_isv := isv_none }
  | k + 1 => { b_ValueError := X.b_ValueError, b_abs := X.b_abs, b_enumerate := X.b_enumerate, b_int := X.b_int, b_isinstance := X.b_isinstance, b_len := X.b_len, b_list := X.b_list, b_range := X.b_range, b_repr := X.b_repr, b_sorted := X.b_sorted, b_sum := X.b_sum, b_tuple := X.b_tuple, g_MAX_FEWEST := X.g_MAX_FEWEST, g_MAX_ROWS := X.g_MAX_ROWS, g_MAX_TABLE := X.g_MAX_TABLE, g_MAX_WORLDS := X.g_MAX_WORLDS, e_MindError := X.e_MindError, e_NotAllowed := X.e_NotAllowed, e_TooLarge := X.e_TooLarge, e_Missing := X.e_Missing, e_BadPaper := X.e_BadPaper, f_check_many := cal_step X.t_check_many rfl sc_check_many (fun f => d_check_many (facts X k)), f_check_set := cal_step X.t_check_set rfl sc_check_set (fun f => d_check_set (facts X k)), f_check_table := cal_step X.t_check_table rfl sc_check_table (fun f => d_check_table (facts X k)), f_check_rows := cal_step X.t_check_rows rfl sc_check_rows (fun f => d_check_rows (facts X k)), f_first_in_row := cal_step X.t_first_in_row rfl sc_first_in_row (fun f => d_first_in_row (facts X k)), f_firsts := cal_step X.t_firsts rfl sc_firsts (fun f => d_firsts (facts X k)), f_first_in_rows := cal_step X.t_first_in_rows rfl sc_first_in_rows (fun f => d_first_in_rows (facts X k)), f_table_of_rows := cal_step X.t_table_of_rows rfl sc_table_of_rows (fun f => d_table_of_rows (facts X k)), f_check_from_rows := cal_step X.t_check_from_rows rfl sc_check_from_rows (fun f => d_check_from_rows (facts X k)), f__law_same := cal_step X.t__law_same rfl sc__law_same (fun f => d__law_same (facts X k)), f__law_stream := cal_step X.t__law_stream rfl sc__law_stream (fun f => d__law_stream (facts X k)), f__law_next := cal_step X.t__law_next rfl sc__law_next (fun f => d__law_next (facts X k)), f__law_first := cal_step X.t__law_first rfl sc__law_first (fun f => d__law_first (facts X k)), f__law_rows_table := cal_step X.t__law_rows_table rfl sc__law_rows_table (fun f => d__law_rows_table (facts X k)), f__law_mixed := cal_step X.t__law_mixed rfl sc__law_mixed (fun f => d__law_mixed (facts X k)), f__law_drawn_rows := cal_step X.t__law_drawn_rows rfl sc__law_drawn_rows (fun f => d__law_drawn_rows (facts X k)), f__law_told := cal_step X.t__law_told rfl sc__law_told (fun f => d__law_told (facts X k)), f__law_chosen := cal_step X.t__law_chosen rfl sc__law_chosen (fun f => d__law_chosen (facts X k)), f__law_fits := cal_step X.t__law_fits rfl sc__law_fits (fun f => d__law_fits (facts X k)), f__law_table_fits := cal_step X.t__law_table_fits rfl sc__law_table_fits (fun f => d__law_table_fits (facts X k)), f_law := cal_step X.t_law rfl sc_law (fun f => d_law (facts X k)), x_err := calx_step X.t__law_error rfl sc__law_error (by decide) (fun c r hw f => d__law_error X c r hw f), x_told := told_step X.x, x_isv := isv_step X.x }
end
end OM.K12
namespace OM.K12
open PySem PySem.Spec PyProof.Rows L2 OM L2H
section
variable {k : Nat} {st : Stor}
/-! ### the program -/
theorem check_many_ok {m : Nat} (h1 : 1 ≤ m) (h2 : m ≤ 32) : callN (k + 1) i_check_many [nD m] st = .ok .non st := by
  refine wE_eq ?_
  show wE (runB 1 (c_check_many (callN k)) _ _) _ _
  simp -implicitDefEqProofs only [c_check_many, wE_run, wE_ok, wE_exn, wE_stuck, wE_bind, wE_of, wE_ite, wE_iteB, wE_iteP, wP_some, wP_none, wP_ite, wP_iteP, wP_map, wP_bind, wO_out, wO_nx, wO_rt, wO_bk, wO_ct, wO_ex, wO_stuck, wO_iteB, wO_ite, seq_rt, seq_bk, seq_ct, seq_ex, sNo_at, sBk_at, sCt_at, sEx_at, sRt_at, sIf_at, sSet_at, sOwn_at, sAug_at, sApp_at, sPut_at, sExt_at, sAsg_at, sPar_at, sFz_at, fz_at, sRs_at, sRef_at, eK_at, eVar_at, eVarB_at, eBin_at, eUn_at, eCh_at, eNo_at, eAn_at, eOu_at, eIf_at, tBl_at, tTru_at, tNo_at, tAn_at, tOu_at, tYe_at, aNil_at, aCons_at, eTup_at, eLst_at, aLst_at, eIx_at, pNo_at, pSo_at, eSl_at, eCall_at, aLc_at, eLc_at, wipe_nil, wipe_cons, iSeq_at, iRg1_at, iRg2_at, eLRg_at, eTRg_at, iEnu_at, aOfL_at, gNm_at, gsNo_nil, gsCo_cons, gTp_tup, sFor_at, seqD, dAdd, dMul, gI, dIs, dNot, dIsnt, dTru, dNeg, dInv, dIx, dSl, dLen, dAbs, dInt, dTup, dLst, List.map_cons, List.map_nil, List.cons_append, List.nil_append, List.length_cons, List.length_nil, List.getElem?_cons_zero, List.getElem?_cons_succ, List.set_cons_zero, List.set_cons_succ, Option.bind_some, Option.map_some, List.reduceReplicate, Nat.reduceAdd, Nat.reduceSub, ↓reduceIte, decide_eq_true_eq, Bool.false_eq_true, Bool.not_true, Bool.not_false, Nat.zero_add, true_and, if_false_right, wO_seq, seq_nx]
  simp [show ¬ (32 : Int) < (m : Int) by omega, show ¬ (m : Int) < 1 by omega]
theorem check_set_ok {m x : Nat} (h1 : 1 ≤ m) (h2 : m ≤ 32) (hx : x < 2 ^ m) : callN (k + 2) i_check_set [nD m, nD x] st = .ok .non st := by
  refine wE_eq ?_
  show wE (runB 2 (c_check_set (callN (k + 1))) _ _) _ _
  simp -implicitDefEqProofs only [c_check_set, wE_run, wE_ok, wE_exn, wE_stuck, wE_bind, wE_of, wE_ite, wE_iteB, wE_iteP, wP_some, wP_none, wP_ite, wP_iteP, wP_map, wP_bind, wO_out, wO_nx, wO_rt, wO_bk, wO_ct, wO_ex, wO_stuck, wO_iteB, wO_ite, seq_rt, seq_bk, seq_ct, seq_ex, sNo_at, sBk_at, sCt_at, sEx_at, sRt_at, sIf_at, sSet_at, sOwn_at, sAug_at, sApp_at, sPut_at, sExt_at, sAsg_at, sPar_at, sFz_at, fz_at, sRs_at, sRef_at, eK_at, eVar_at, eVarB_at, eBin_at, eUn_at, eCh_at, eNo_at, eAn_at, eOu_at, eIf_at, tBl_at, tTru_at, tNo_at, tAn_at, tOu_at, tYe_at, aNil_at, aCons_at, eTup_at, eLst_at, aLst_at, eIx_at, pNo_at, pSo_at, eSl_at, eCall_at, aLc_at, eLc_at, wipe_nil, wipe_cons, iSeq_at, iRg1_at, iRg2_at, eLRg_at, eTRg_at, iEnu_at, aOfL_at, gNm_at, gsNo_nil, gsCo_cons, gTp_tup, sFor_at, seqD, dAdd, dMul, gI, dIs, dNot, dIsnt, dTru, dNeg, dInv, dIx, dSl, dLen, dAbs, dInt, dTup, dLst, List.map_cons, List.map_nil, List.cons_append, List.nil_append, List.length_cons, List.length_nil, List.getElem?_cons_zero, List.getElem?_cons_succ, List.set_cons_zero, List.set_cons_succ, Option.bind_some, Option.map_some, List.reduceReplicate, Nat.reduceAdd, Nat.reduceSub, ↓reduceIte, decide_eq_true_eq, Bool.false_eq_true, Bool.not_true, Bool.not_false, Nat.zero_add, true_and, if_false_right, wO_seq, seq_nx, check_many_ok h1 h2]
  rw [if_neg (by omega)]
  simp -implicitDefEqProofs only [wE_run, wE_ok, wE_exn, wE_stuck, wE_bind, wE_of, wE_ite, wE_iteB, wE_iteP, wP_some, wP_none, wP_ite, wP_iteP, wP_map, wP_bind, wO_out, wO_nx, wO_rt, wO_bk, wO_ct, wO_ex, wO_stuck, wO_iteB, wO_ite, seq_rt, seq_bk, seq_ct, seq_ex, sNo_at, sBk_at, sCt_at, sEx_at, sRt_at, sIf_at, sSet_at, sOwn_at, sAug_at, sApp_at, sPut_at, sExt_at, sAsg_at, sPar_at, sFz_at, fz_at, sRs_at, sRef_at, eK_at, eVar_at, eVarB_at, eBin_at, eUn_at, eCh_at, eNo_at, eAn_at, eOu_at, eIf_at, tBl_at, tTru_at, tNo_at, tAn_at, tOu_at, tYe_at, aNil_at, aCons_at, eTup_at, eLst_at, aLst_at, eIx_at, pNo_at, pSo_at, eSl_at, eCall_at, aLc_at, eLc_at, wipe_nil, wipe_cons, iSeq_at, iRg1_at, iRg2_at, eLRg_at, eTRg_at, iEnu_at, aOfL_at, gNm_at, gsNo_nil, gsCo_cons, gTp_tup, sFor_at, seqD, dAdd, dMul, gI, dIs, dNot, dIsnt, dTru, dNeg, dInv, dIx, dSl, dLen, dAbs, dInt, dTup, dLst, List.map_cons, List.map_nil, List.cons_append, List.nil_append, List.length_cons, List.length_nil, List.getElem?_cons_zero, List.getElem?_cons_succ, List.set_cons_zero, List.set_cons_succ, Option.bind_some, Option.map_some, List.reduceReplicate, Nat.reduceAdd, Nat.reduceSub, ↓reduceIte, decide_eq_true_eq, Bool.false_eq_true, Bool.not_true, Bool.not_false, Nat.zero_add, true_and, if_false_right, wO_seq, seq_nx, one_shl]
  refine ⟨shOk_one (by omega), ?_⟩
  rw [if_neg (by omega)]
  simp
theorem check_set_big {m : Nat} (h1 : 1 ≤ m) (h2 : m ≤ 32) : callN (k + 2) i_check_set [nD m, nD (2 ^ m)] st = .exn ⟨1, none⟩ st := by
  refine wE_exeq ?_
  show wE (runB 2 (c_check_set (callN (k + 1))) _ _) _ _
  simp -implicitDefEqProofs only [c_check_set, wE_run, wE_ok, wE_exn, wE_stuck, wE_bind, wE_of, wE_ite, wE_iteB, wE_iteP, wP_some, wP_none, wP_ite, wP_iteP, wP_map, wP_bind, wO_out, wO_nx, wO_rt, wO_bk, wO_ct, wO_ex, wO_stuck, wO_iteB, wO_ite, seq_rt, seq_bk, seq_ct, seq_ex, sNo_at, sBk_at, sCt_at, sEx_at, sRt_at, sIf_at, sSet_at, sOwn_at, sAug_at, sApp_at, sPut_at, sExt_at, sAsg_at, sPar_at, sFz_at, fz_at, sRs_at, sRef_at, eK_at, eVar_at, eVarB_at, eBin_at, eUn_at, eCh_at, eNo_at, eAn_at, eOu_at, eIf_at, tBl_at, tTru_at, tNo_at, tAn_at, tOu_at, tYe_at, aNil_at, aCons_at, eTup_at, eLst_at, aLst_at, eIx_at, pNo_at, pSo_at, eSl_at, eCall_at, aLc_at, eLc_at, wipe_nil, wipe_cons, iSeq_at, iRg1_at, iRg2_at, eLRg_at, eTRg_at, iEnu_at, aOfL_at, gNm_at, gsNo_nil, gsCo_cons, gTp_tup, sFor_at, seqD, dAdd, dMul, gI, dIs, dNot, dIsnt, dTru, dNeg, dInv, dIx, dSl, dLen, dAbs, dInt, dTup, dLst, List.map_cons, List.map_nil, List.cons_append, List.nil_append, List.length_cons, List.length_nil, List.getElem?_cons_zero, List.getElem?_cons_succ, List.set_cons_zero, List.set_cons_succ, Option.bind_some, Option.map_some, List.reduceReplicate, Nat.reduceAdd, Nat.reduceSub, ↓reduceIte, decide_eq_true_eq, Bool.false_eq_true, Bool.not_true, Bool.not_false, Nat.zero_add, true_and, if_false_right, wO_seq, seq_nx, check_many_ok h1 h2]
  have := Nat.two_pow_pos m
  rw [if_neg (by show ¬ (((2 ^ m : Nat) : Int) < 0); omega)]
  simp -implicitDefEqProofs only [wE_run, wE_ok, wE_exn, wE_stuck, wE_bind, wE_of, wE_ite, wE_iteB, wE_iteP, wP_some, wP_none, wP_ite, wP_iteP, wP_map, wP_bind, wO_out, wO_nx, wO_rt, wO_bk, wO_ct, wO_ex, wO_stuck, wO_iteB, wO_ite, seq_rt, seq_bk, seq_ct, seq_ex, sNo_at, sBk_at, sCt_at, sEx_at, sRt_at, sIf_at, sSet_at, sOwn_at, sAug_at, sApp_at, sPut_at, sExt_at, sAsg_at, sPar_at, sFz_at, fz_at, sRs_at, sRef_at, eK_at, eVar_at, eVarB_at, eBin_at, eUn_at, eCh_at, eNo_at, eAn_at, eOu_at, eIf_at, tBl_at, tTru_at, tNo_at, tAn_at, tOu_at, tYe_at, aNil_at, aCons_at, eTup_at, eLst_at, aLst_at, eIx_at, pNo_at, pSo_at, eSl_at, eCall_at, aLc_at, eLc_at, wipe_nil, wipe_cons, iSeq_at, iRg1_at, iRg2_at, eLRg_at, eTRg_at, iEnu_at, aOfL_at, gNm_at, gsNo_nil, gsCo_cons, gTp_tup, sFor_at, seqD, dAdd, dMul, gI, dIs, dNot, dIsnt, dTru, dNeg, dInv, dIx, dSl, dLen, dAbs, dInt, dTup, dLst, List.map_cons, List.map_nil, List.cons_append, List.nil_append, List.length_cons, List.length_nil, List.getElem?_cons_zero, List.getElem?_cons_succ, List.set_cons_zero, List.set_cons_succ, Option.bind_some, Option.map_some, List.reduceReplicate, Nat.reduceAdd, Nat.reduceSub, ↓reduceIte, decide_eq_true_eq, Bool.false_eq_true, Bool.not_true, Bool.not_false, Nat.zero_add, true_and, if_false_right, wO_seq, seq_nx, one_shl]
  exact ⟨shOk_one (by omega), by omega, trivial⟩
/-- rows of ints -/
def rowsD (rs : List (List Int)) : D := .tup (rs.map fun r => .tup (iD r))
def GoodR (m : Nat) (rs : List (List Int)) : Prop := ∀ r ∈ rs, r.Perm (rgI m)
theorem check_rows_ok {m : Nat} (h1 : 1 ≤ m) (h2 : m ≤ 32) {rs : List (List Int)} (hl : rs.length ≤ 200) (hn : rs ≠ []) (hg : GoodR m rs) : callN (k + 2) i_check_rows [nD m, rowsD rs] st = .ok .non st := by
  have hpos := List.length_pos_iff.mpr hn
  refine wE_eq ?_
  show wE (runB 3 (c_check_rows (callN (k + 1))) _ _) _ _
  simp -implicitDefEqProofs only [c_check_rows, wE_run, wE_ok, wE_exn, wE_stuck, wE_bind, wE_of, wE_ite, wE_iteB, wE_iteP, wP_some, wP_none, wP_ite, wP_iteP, wP_map, wP_bind, wO_out, wO_nx, wO_rt, wO_bk, wO_ct, wO_ex, wO_stuck, wO_iteB, wO_ite, seq_rt, seq_bk, seq_ct, seq_ex, sNo_at, sBk_at, sCt_at, sEx_at, sRt_at, sIf_at, sSet_at, sOwn_at, sAug_at, sApp_at, sPut_at, sExt_at, sAsg_at, sPar_at, sFz_at, fz_at, sRs_at, sRef_at, eK_at, eVar_at, eVarB_at, eBin_at, eUn_at, eCh_at, eNo_at, eAn_at, eOu_at, eIf_at, tBl_at, tTru_at, tNo_at, tAn_at, tOu_at, tYe_at, aNil_at, aCons_at, eTup_at, eLst_at, aLst_at, eIx_at, pNo_at, pSo_at, eSl_at, eCall_at, aLc_at, eLc_at, wipe_nil, wipe_cons, iSeq_at, iRg1_at, iRg2_at, eLRg_at, eTRg_at, iEnu_at, aOfL_at, gNm_at, gsNo_nil, gsCo_cons, gTp_tup, sFor_at, seqD, dAdd, dMul, gI, dIs, dNot, dIsnt, dTru, dNeg, dInv, dIx, dSl, dLen, dAbs, dInt, dTup, dLst, List.map_cons, List.map_nil, List.cons_append, List.nil_append, List.length_cons, List.length_nil, List.getElem?_cons_zero, List.getElem?_cons_succ, List.set_cons_zero, List.set_cons_succ, Option.bind_some, Option.map_some, List.reduceReplicate, Nat.reduceAdd, Nat.reduceSub, ↓reduceIte, decide_eq_true_eq, Bool.false_eq_true, Bool.not_true, Bool.not_false, Nat.zero_add, true_and, if_false_right, wO_seq, seq_nx, check_many_ok h1 h2, rowsD, List.length_map, dEqV_int]
  rw [if_neg (by omega), if_neg (by simp; omega)]
  refine wO_forL (fun i ρ st' => st' = st ∧ ∃ a b, ρ = [.vl (nD m), b, a]) _ 0 _ _ ⟨rfl, _, _, rfl⟩ ?_ ?_
  · rintro ρ st' ⟨rfl, a, b, rfl⟩
    simp -implicitDefEqProofs only [wE_run, wE_ok, wE_exn, wE_stuck, wE_bind, wE_of, wE_ite, wE_iteB, wE_iteP, wP_some, wP_none, wP_ite, wP_iteP, wP_map, wP_bind, wO_out, wO_nx, wO_rt, wO_bk, wO_ct, wO_ex, wO_stuck, wO_iteB, wO_ite, seq_rt, seq_bk, seq_ct, seq_ex, sNo_at, sBk_at, sCt_at, sEx_at, sRt_at, sIf_at, sSet_at, sOwn_at, sAug_at, sApp_at, sPut_at, sExt_at, sAsg_at, sPar_at, sFz_at, fz_at, sRs_at, sRef_at, eK_at, eVar_at, eVarB_at, eBin_at, eUn_at, eCh_at, eNo_at, eAn_at, eOu_at, eIf_at, tBl_at, tTru_at, tNo_at, tAn_at, tOu_at, tYe_at, aNil_at, aCons_at, eTup_at, eLst_at, aLst_at, eIx_at, pNo_at, pSo_at, eSl_at, eCall_at, aLc_at, eLc_at, wipe_nil, wipe_cons, iSeq_at, iRg1_at, iRg2_at, eLRg_at, eTRg_at, iEnu_at, aOfL_at, gNm_at, gsNo_nil, gsCo_cons, gTp_tup, sFor_at, seqD, dAdd, dMul, gI, dIs, dNot, dIsnt, dTru, dNeg, dInv, dIx, dSl, dLen, dAbs, dInt, dTup, dLst, List.map_cons, List.map_nil, List.cons_append, List.nil_append, List.length_cons, List.length_nil, List.getElem?_cons_zero, List.getElem?_cons_succ, List.set_cons_zero, List.set_cons_succ, Option.bind_some, Option.map_some, List.reduceReplicate, Nat.reduceAdd, Nat.reduceSub, ↓reduceIte, decide_eq_true_eq, Bool.false_eq_true, Bool.not_true, Bool.not_false, Nat.zero_add, true_and, if_false_right, wO_seq, seq_nx]
  · rintro i d ρ st' hd ⟨rfl, a, b, rfl⟩
    obtain ⟨r, h1, rfl⟩ := map_at hd
    have hp := hg r (List.mem_of_getElem? h1)
    simp -implicitDefEqProofs only [wE_run, wE_ok, wE_exn, wE_stuck, wE_bind, wE_of, wE_ite, wE_iteB, wE_iteP, wP_some, wP_none, wP_ite, wP_iteP, wP_map, wP_bind, wO_out, wO_nx, wO_rt, wO_bk, wO_ct, wO_ex, wO_stuck, wO_iteB, wO_ite, seq_rt, seq_bk, seq_ct, seq_ex, sNo_at, sBk_at, sCt_at, sEx_at, sRt_at, sIf_at, sSet_at, sOwn_at, sAug_at, sApp_at, sPut_at, sExt_at, sAsg_at, sPar_at, sFz_at, fz_at, sRs_at, sRef_at, eK_at, eVar_at, eVarB_at, eBin_at, eUn_at, eCh_at, eNo_at, eAn_at, eOu_at, eIf_at, tBl_at, tTru_at, tNo_at, tAn_at, tOu_at, tYe_at, aNil_at, aCons_at, eTup_at, eLst_at, aLst_at, eIx_at, pNo_at, pSo_at, eSl_at, eCall_at, aLc_at, eLc_at, wipe_nil, wipe_cons, iSeq_at, iRg1_at, iRg2_at, eLRg_at, eTRg_at, iEnu_at, aOfL_at, gNm_at, gsNo_nil, gsCo_cons, gTp_tup, sFor_at, seqD, dAdd, dMul, gI, dIs, dNot, dIsnt, dTru, dNeg, dInv, dIx, dSl, dLen, dAbs, dInt, dTup, dLst, List.map_cons, List.map_nil, List.cons_append, List.nil_append, List.length_cons, List.length_nil, List.getElem?_cons_zero, List.getElem?_cons_succ, List.set_cons_zero, List.set_cons_succ, Option.bind_some, Option.map_some, List.reduceReplicate, Nat.reduceAdd, Nat.reduceSub, ↓reduceIte, decide_eq_true_eq, Bool.false_eq_true, Bool.not_true, Bool.not_false, Nat.zero_add, true_and, if_false_right, wO_seq, seq_nx, dSrtA_tup, rgD_iD, sortI_rg.mpr hp, dNeV_lst]
    exact ⟨rgOk_small (by omega) (by omega), by simp⟩
theorem check_rows_ex {m : Nat} (h1 : 1 ≤ m) (h2 : m ≤ 32) {rs : List (List Int)} (h : 200 < rs.length ∨ rs = [] ∨ ∃ r ∈ rs, ¬ r.Perm (rgI m)) : callN (k + 2) i_check_rows [nD m, rowsD rs] st = .exn ⟨if 200 < rs.length then 2 else 1, none⟩ st := by
  refine wE_exeq ?_
  show wE (runB 3 (c_check_rows (callN (k + 1))) _ _) _ _
  simp -implicitDefEqProofs only [c_check_rows, wE_run, wE_ok, wE_exn, wE_stuck, wE_bind, wE_of, wE_ite, wE_iteB, wE_iteP, wP_some, wP_none, wP_ite, wP_iteP, wP_map, wP_bind, wO_out, wO_nx, wO_rt, wO_bk, wO_ct, wO_ex, wO_stuck, wO_iteB, wO_ite, seq_rt, seq_bk, seq_ct, seq_ex, sNo_at, sBk_at, sCt_at, sEx_at, sRt_at, sIf_at, sSet_at, sOwn_at, sAug_at, sApp_at, sPut_at, sExt_at, sAsg_at, sPar_at, sFz_at, fz_at, sRs_at, sRef_at, eK_at, eVar_at, eVarB_at, eBin_at, eUn_at, eCh_at, eNo_at, eAn_at, eOu_at, eIf_at, tBl_at, tTru_at, tNo_at, tAn_at, tOu_at, tYe_at, aNil_at, aCons_at, eTup_at, eLst_at, aLst_at, eIx_at, pNo_at, pSo_at, eSl_at, eCall_at, aLc_at, eLc_at, wipe_nil, wipe_cons, iSeq_at, iRg1_at, iRg2_at, eLRg_at, eTRg_at, iEnu_at, aOfL_at, gNm_at, gsNo_nil, gsCo_cons, gTp_tup, sFor_at, seqD, dAdd, dMul, gI, dIs, dNot, dIsnt, dTru, dNeg, dInv, dIx, dSl, dLen, dAbs, dInt, dTup, dLst, List.map_cons, List.map_nil, List.cons_append, List.nil_append, List.length_cons, List.length_nil, List.getElem?_cons_zero, List.getElem?_cons_succ, List.set_cons_zero, List.set_cons_succ, Option.bind_some, Option.map_some, List.reduceReplicate, Nat.reduceAdd, Nat.reduceSub, ↓reduceIte, decide_eq_true_eq, Bool.false_eq_true, Bool.not_true, Bool.not_false, Nat.zero_add, true_and, if_false_right, wO_seq, seq_nx, check_many_ok h1 h2, rowsD, List.length_map, dEqV_int]
  by_cases hl : 200 < rs.length
  · rw [if_pos (by omega), if_pos hl]
    simp
  · rw [if_neg (by omega), if_neg hl]
    by_cases h0 : rs = []
    · subst h0
      simp
    · have hpos := List.length_pos_iff.mpr h0
      rw [if_neg (by simp; omega)]
      obtain ⟨r0, hr0, hbad⟩ : ∃ r ∈ rs, ¬ r.Perm (rgI m) := by
        rcases h with h | h | h
        · exact absurd h hl
        · exact absurd h h0
        · exact h
      obtain ⟨i0, hi0⟩ := List.getElem?_of_mem hr0
      refine wO_forL (fun i ρ st' => st' = st ∧ i ≤ i0 ∧ ∃ a b, ρ = [.vl (nD m), b, a]) _ 0 _ _ ⟨rfl, Nat.zero_le _, _, _, rfl⟩ ?_ ?_
      · rintro ρ st' ⟨rfl, hi, a, b, rfl⟩
        have := (List.getElem?_eq_some_iff.mp hi0).1
        rw [List.length_map] at hi
        omega
      · rintro i d ρ st' hd ⟨rfl, hi, a, b, rfl⟩
        obtain ⟨r, h1, rfl⟩ := map_at hd
        simp -implicitDefEqProofs only [wE_run, wE_ok, wE_exn, wE_stuck, wE_bind, wE_of, wE_ite, wE_iteB, wE_iteP, wP_some, wP_none, wP_ite, wP_iteP, wP_map, wP_bind, wO_out, wO_nx, wO_rt, wO_bk, wO_ct, wO_ex, wO_stuck, wO_iteB, wO_ite, seq_rt, seq_bk, seq_ct, seq_ex, sNo_at, sBk_at, sCt_at, sEx_at, sRt_at, sIf_at, sSet_at, sOwn_at, sAug_at, sApp_at, sPut_at, sExt_at, sAsg_at, sPar_at, sFz_at, fz_at, sRs_at, sRef_at, eK_at, eVar_at, eVarB_at, eBin_at, eUn_at, eCh_at, eNo_at, eAn_at, eOu_at, eIf_at, tBl_at, tTru_at, tNo_at, tAn_at, tOu_at, tYe_at, aNil_at, aCons_at, eTup_at, eLst_at, aLst_at, eIx_at, pNo_at, pSo_at, eSl_at, eCall_at, aLc_at, eLc_at, wipe_nil, wipe_cons, iSeq_at, iRg1_at, iRg2_at, eLRg_at, eTRg_at, iEnu_at, aOfL_at, gNm_at, gsNo_nil, gsCo_cons, gTp_tup, sFor_at, seqD, dAdd, dMul, gI, dIs, dNot, dIsnt, dTru, dNeg, dInv, dIx, dSl, dLen, dAbs, dInt, dTup, dLst, List.map_cons, List.map_nil, List.cons_append, List.nil_append, List.length_cons, List.length_nil, List.getElem?_cons_zero, List.getElem?_cons_succ, List.set_cons_zero, List.set_cons_succ, Option.bind_some, Option.map_some, List.reduceReplicate, Nat.reduceAdd, Nat.reduceSub, ↓reduceIte, decide_eq_true_eq, Bool.false_eq_true, Bool.not_true, Bool.not_false, Nat.zero_add, true_and, if_false_right, wO_seq, seq_nx, dSrtA_tup, rgD_iD, dNeV_lst]
        refine ⟨rgOk_small (by omega) (by omega), ?_⟩
        by_cases hs : sortI r = rgI m
        · have hne : i ≠ i0 := fun z => by
            subst z
            rw [hi0] at h1
            cases h1
            exact hbad (sortI_rg.mp hs)
          rw [if_neg (by simp [hs])]
          exact ⟨by omega, _, _, rfl⟩
        · rw [if_pos (by simp [hs])]
          trivial
/-! ### what rows choose -/
def firstW (row : List Nat) (x : Nat) : Nat := match row with
  | [] => 0
  | w :: ws => if x.testBit w then 2 ^ w else firstW ws x
def firstsN (rows : List (List Nat)) (x : Nat) : Nat := rows.foldl (fun t row => t ||| firstW row x) 0
theorem first_ok {row : List Nat} {x : Nat} (hw : ∀ w ∈ row, w ≤ 1000) : callN (k + 1) i_first_in_row [.tup (row.map nD), nD x] st = .ok (nD (firstW row x)) st := by
  refine wE_eq ?_
  show wE (runB 3 (c_first_in_row (callN k)) _ _) _ _
  simp -implicitDefEqProofs only [c_first_in_row, wE_run, wE_ok, wE_exn, wE_stuck, wE_bind, wE_of, wE_ite, wE_iteB, wE_iteP, wP_some, wP_none, wP_ite, wP_iteP, wP_map, wP_bind, wO_out, wO_nx, wO_rt, wO_bk, wO_ct, wO_ex, wO_stuck, wO_iteB, wO_ite, seq_rt, seq_bk, seq_ct, seq_ex, sNo_at, sBk_at, sCt_at, sEx_at, sRt_at, sIf_at, sSet_at, sOwn_at, sAug_at, sApp_at, sPut_at, sExt_at, sAsg_at, sPar_at, sFz_at, fz_at, sRs_at, sRef_at, eK_at, eVar_at, eVarB_at, eBin_at, eUn_at, eCh_at, eNo_at, eAn_at, eOu_at, eIf_at, tBl_at, tTru_at, tNo_at, tAn_at, tOu_at, tYe_at, aNil_at, aCons_at, eTup_at, eLst_at, aLst_at, eIx_at, pNo_at, pSo_at, eSl_at, eCall_at, aLc_at, eLc_at, wipe_nil, wipe_cons, iSeq_at, iRg1_at, iRg2_at, eLRg_at, eTRg_at, iEnu_at, aOfL_at, gNm_at, gsNo_nil, gsCo_cons, gTp_tup, sFor_at, seqD, dAdd, dMul, gI, dIs, dNot, dIsnt, dTru, dNeg, dInv, dIx, dSl, dLen, dAbs, dInt, dTup, dLst, List.map_cons, List.map_nil, List.cons_append, List.nil_append, List.length_cons, List.length_nil, List.getElem?_cons_zero, List.getElem?_cons_succ, List.set_cons_zero, List.set_cons_succ, Option.bind_some, Option.map_some, List.reduceReplicate, Nat.reduceAdd, Nat.reduceSub, ↓reduceIte, decide_eq_true_eq, Bool.false_eq_true, Bool.not_true, Bool.not_false, Nat.zero_add, true_and, if_false_right, wO_seq, seq_nx]
  refine wO_forL (fun i ρ st' => st' = st ∧ (∃ a b, ρ = [b, .vl (nD x), a]) ∧ firstW row x = firstW (row.drop i) x) _ 0 _ _ ⟨rfl, ⟨_, _, rfl⟩, rfl⟩ ?_ ?_
  · rintro ρ st' ⟨rfl, ⟨a, b, rfl⟩, hf⟩
    rw [List.length_map, Nat.zero_add, List.drop_length] at hf
    simp -implicitDefEqProofs only [wE_run, wE_ok, wE_exn, wE_stuck, wE_bind, wE_of, wE_ite, wE_iteB, wE_iteP, wP_some, wP_none, wP_ite, wP_iteP, wP_map, wP_bind, wO_out, wO_nx, wO_rt, wO_bk, wO_ct, wO_ex, wO_stuck, wO_iteB, wO_ite, seq_rt, seq_bk, seq_ct, seq_ex, sNo_at, sBk_at, sCt_at, sEx_at, sRt_at, sIf_at, sSet_at, sOwn_at, sAug_at, sApp_at, sPut_at, sExt_at, sAsg_at, sPar_at, sFz_at, fz_at, sRs_at, sRef_at, eK_at, eVar_at, eVarB_at, eBin_at, eUn_at, eCh_at, eNo_at, eAn_at, eOu_at, eIf_at, tBl_at, tTru_at, tNo_at, tAn_at, tOu_at, tYe_at, aNil_at, aCons_at, eTup_at, eLst_at, aLst_at, eIx_at, pNo_at, pSo_at, eSl_at, eCall_at, aLc_at, eLc_at, wipe_nil, wipe_cons, iSeq_at, iRg1_at, iRg2_at, eLRg_at, eTRg_at, iEnu_at, aOfL_at, gNm_at, gsNo_nil, gsCo_cons, gTp_tup, sFor_at, seqD, dAdd, dMul, gI, dIs, dNot, dIsnt, dTru, dNeg, dInv, dIx, dSl, dLen, dAbs, dInt, dTup, dLst, List.map_cons, List.map_nil, List.cons_append, List.nil_append, List.length_cons, List.length_nil, List.getElem?_cons_zero, List.getElem?_cons_succ, List.set_cons_zero, List.set_cons_succ, Option.bind_some, Option.map_some, List.reduceReplicate, Nat.reduceAdd, Nat.reduceSub, ↓reduceIte, decide_eq_true_eq, Bool.false_eq_true, Bool.not_true, Bool.not_false, Nat.zero_add, true_and, if_false_right, wO_seq, seq_nx]
    rw [hf]
    exact ⟨rfl, trivial⟩
  · rintro i d ρ st' hd ⟨rfl, ⟨a, b, rfl⟩, hf⟩
    obtain ⟨w, h1, rfl⟩ := map_at hd
    have hw' := hw w (List.mem_of_getElem? h1)
    obtain ⟨hi, he⟩ := List.getElem?_eq_some_iff.mp h1
    rw [Nat.zero_add, List.drop_eq_getElem_cons hi, he] at hf
    simp -implicitDefEqProofs only [wE_run, wE_ok, wE_exn, wE_stuck, wE_bind, wE_of, wE_ite, wE_iteB, wE_iteP, wP_some, wP_none, wP_ite, wP_iteP, wP_map, wP_bind, wO_out, wO_nx, wO_rt, wO_bk, wO_ct, wO_ex, wO_stuck, wO_iteB, wO_ite, seq_rt, seq_bk, seq_ct, seq_ex, sNo_at, sBk_at, sCt_at, sEx_at, sRt_at, sIf_at, sSet_at, sOwn_at, sAug_at, sApp_at, sPut_at, sExt_at, sAsg_at, sPar_at, sFz_at, fz_at, sRs_at, sRef_at, eK_at, eVar_at, eVarB_at, eBin_at, eUn_at, eCh_at, eNo_at, eAn_at, eOu_at, eIf_at, tBl_at, tTru_at, tNo_at, tAn_at, tOu_at, tYe_at, aNil_at, aCons_at, eTup_at, eLst_at, aLst_at, eIx_at, pNo_at, pSo_at, eSl_at, eCall_at, aLc_at, eLc_at, wipe_nil, wipe_cons, iSeq_at, iRg1_at, iRg2_at, eLRg_at, eTRg_at, iEnu_at, aOfL_at, gNm_at, gsNo_nil, gsCo_cons, gTp_tup, sFor_at, seqD, dAdd, dMul, gI, dIs, dNot, dIsnt, dTru, dNeg, dInv, dIx, dSl, dLen, dAbs, dInt, dTup, dLst, List.map_cons, List.map_nil, List.cons_append, List.nil_append, List.length_cons, List.length_nil, List.getElem?_cons_zero, List.getElem?_cons_succ, List.set_cons_zero, List.set_cons_succ, Option.bind_some, Option.map_some, List.reduceReplicate, Nat.reduceAdd, Nat.reduceSub, ↓reduceIte, decide_eq_true_eq, Bool.false_eq_true, Bool.not_true, Bool.not_false, Nat.zero_add, true_and, if_false_right, wO_seq, seq_nx, bit_int, bit_ne, one_shl]
    refine ⟨by omega, ite2 (fun hb => ⟨shOk_one (by omega), ?_⟩) fun hb => ⟨⟨_, _, rfl⟩, ?_⟩⟩
    · rw [hf]
      unfold firstW
      rw [if_pos hb]
      exact ⟨rfl, trivial⟩
    · rw [hf]
      conv => lhs; unfold firstW
      rw [if_neg hb]
def rowN (row : List Nat) : D := .tup (row.map nD)
def rowsN (rows : List (List Nat)) : D := .tup (rows.map rowN)
theorem or_nat {a b : Nat} : Builtin.bitOr (a : Int) (b : Int) = ((a ||| b : Nat) : Int) := by
  rw [L2.bitOr_nn (Int.natCast_nonneg _) (Int.natCast_nonneg _), Int.toNat_natCast, Int.toNat_natCast]
theorem firsts_snoc {rows : List (List Nat)} {row : List Nat} {x : Nat} : firstsN (rows ++ [row]) x = firstsN rows x ||| firstW row x := by
  unfold firstsN
  rw [List.foldl_append]; rfl
theorem firsts_ok {rows : List (List Nat)} {x : Nat} (hw : ∀ row ∈ rows, ∀ w ∈ row, w ≤ 1000) : callN (k + 2) i_firsts [rowsN rows, nD x] st = .ok (nD (firstsN rows x)) st := by
  refine wE_eq ?_
  show wE (runB 4 (c_firsts (callN (k + 1))) _ _) _ _
  simp -implicitDefEqProofs only [c_firsts, wE_run, wE_ok, wE_exn, wE_stuck, wE_bind, wE_of, wE_ite, wE_iteB, wE_iteP, wP_some, wP_none, wP_ite, wP_iteP, wP_map, wP_bind, wO_out, wO_nx, wO_rt, wO_bk, wO_ct, wO_ex, wO_stuck, wO_iteB, wO_ite, seq_rt, seq_bk, seq_ct, seq_ex, sNo_at, sBk_at, sCt_at, sEx_at, sRt_at, sIf_at, sSet_at, sOwn_at, sAug_at, sApp_at, sPut_at, sExt_at, sAsg_at, sPar_at, sFz_at, fz_at, sRs_at, sRef_at, eK_at, eVar_at, eVarB_at, eBin_at, eUn_at, eCh_at, eNo_at, eAn_at, eOu_at, eIf_at, tBl_at, tTru_at, tNo_at, tAn_at, tOu_at, tYe_at, aNil_at, aCons_at, eTup_at, eLst_at, aLst_at, eIx_at, pNo_at, pSo_at, eSl_at, eCall_at, aLc_at, eLc_at, wipe_nil, wipe_cons, iSeq_at, iRg1_at, iRg2_at, eLRg_at, eTRg_at, iEnu_at, aOfL_at, gNm_at, gsNo_nil, gsCo_cons, gTp_tup, sFor_at, seqD, dAdd, dMul, gI, dIs, dNot, dIsnt, dTru, dNeg, dInv, dIx, dSl, dLen, dAbs, dInt, dTup, dLst, List.map_cons, List.map_nil, List.cons_append, List.nil_append, List.length_cons, List.length_nil, List.getElem?_cons_zero, List.getElem?_cons_succ, List.set_cons_zero, List.set_cons_succ, Option.bind_some, Option.map_some, List.reduceReplicate, Nat.reduceAdd, Nat.reduceSub, ↓reduceIte, decide_eq_true_eq, Bool.false_eq_true, Bool.not_true, Bool.not_false, Nat.zero_add, true_and, if_false_right, wO_seq, seq_nx, rowsN]
  refine wO_forL (fun i ρ st' => st' = st ∧ ∃ a b, ρ = [b, .vl (nD x), .vl (nD (firstsN (rows.take i) x)), a]) _ 0 _ _ ⟨rfl, _, _, rfl⟩ ?_ ?_
  · rintro ρ st' ⟨rfl, a, b, rfl⟩
    rw [List.length_map, Nat.zero_add, List.take_length]
    simp -implicitDefEqProofs only [wE_run, wE_ok, wE_exn, wE_stuck, wE_bind, wE_of, wE_ite, wE_iteB, wE_iteP, wP_some, wP_none, wP_ite, wP_iteP, wP_map, wP_bind, wO_out, wO_nx, wO_rt, wO_bk, wO_ct, wO_ex, wO_stuck, wO_iteB, wO_ite, seq_rt, seq_bk, seq_ct, seq_ex, sNo_at, sBk_at, sCt_at, sEx_at, sRt_at, sIf_at, sSet_at, sOwn_at, sAug_at, sApp_at, sPut_at, sExt_at, sAsg_at, sPar_at, sFz_at, fz_at, sRs_at, sRef_at, eK_at, eVar_at, eVarB_at, eBin_at, eUn_at, eCh_at, eNo_at, eAn_at, eOu_at, eIf_at, tBl_at, tTru_at, tNo_at, tAn_at, tOu_at, tYe_at, aNil_at, aCons_at, eTup_at, eLst_at, aLst_at, eIx_at, pNo_at, pSo_at, eSl_at, eCall_at, aLc_at, eLc_at, wipe_nil, wipe_cons, iSeq_at, iRg1_at, iRg2_at, eLRg_at, eTRg_at, iEnu_at, aOfL_at, gNm_at, gsNo_nil, gsCo_cons, gTp_tup, sFor_at, seqD, dAdd, dMul, gI, dIs, dNot, dIsnt, dTru, dNeg, dInv, dIx, dSl, dLen, dAbs, dInt, dTup, dLst, List.map_cons, List.map_nil, List.cons_append, List.nil_append, List.length_cons, List.length_nil, List.getElem?_cons_zero, List.getElem?_cons_succ, List.set_cons_zero, List.set_cons_succ, Option.bind_some, Option.map_some, List.reduceReplicate, Nat.reduceAdd, Nat.reduceSub, ↓reduceIte, decide_eq_true_eq, Bool.false_eq_true, Bool.not_true, Bool.not_false, Nat.zero_add, true_and, if_false_right, wO_seq, seq_nx]
  · rintro i d ρ st' hd ⟨rfl, a, b, rfl⟩
    obtain ⟨row, h1, rfl⟩ := map_at hd
    simp -implicitDefEqProofs only [wE_run, wE_ok, wE_exn, wE_stuck, wE_bind, wE_of, wE_ite, wE_iteB, wE_iteP, wP_some, wP_none, wP_ite, wP_iteP, wP_map, wP_bind, wO_out, wO_nx, wO_rt, wO_bk, wO_ct, wO_ex, wO_stuck, wO_iteB, wO_ite, seq_rt, seq_bk, seq_ct, seq_ex, sNo_at, sBk_at, sCt_at, sEx_at, sRt_at, sIf_at, sSet_at, sOwn_at, sAug_at, sApp_at, sPut_at, sExt_at, sAsg_at, sPar_at, sFz_at, fz_at, sRs_at, sRef_at, eK_at, eVar_at, eVarB_at, eBin_at, eUn_at, eCh_at, eNo_at, eAn_at, eOu_at, eIf_at, tBl_at, tTru_at, tNo_at, tAn_at, tOu_at, tYe_at, aNil_at, aCons_at, eTup_at, eLst_at, aLst_at, eIx_at, pNo_at, pSo_at, eSl_at, eCall_at, aLc_at, eLc_at, wipe_nil, wipe_cons, iSeq_at, iRg1_at, iRg2_at, eLRg_at, eTRg_at, iEnu_at, aOfL_at, gNm_at, gsNo_nil, gsCo_cons, gTp_tup, sFor_at, seqD, dAdd, dMul, gI, dIs, dNot, dIsnt, dTru, dNeg, dInv, dIx, dSl, dLen, dAbs, dInt, dTup, dLst, List.map_cons, List.map_nil, List.cons_append, List.nil_append, List.length_cons, List.length_nil, List.getElem?_cons_zero, List.getElem?_cons_succ, List.set_cons_zero, List.set_cons_succ, Option.bind_some, Option.map_some, List.reduceReplicate, Nat.reduceAdd, Nat.reduceSub, ↓reduceIte, decide_eq_true_eq, Bool.false_eq_true, Bool.not_true, Bool.not_false, Nat.zero_add, true_and, if_false_right, wO_seq, seq_nx, rowN, first_ok (hw row (List.mem_of_getElem? h1)), or_nat]
    exact ⟨_, _, by rw [take_snoc h1, firsts_snoc]⟩
/-- the law's own reading is the same -/
theorem lfirst_ok {row : List Nat} {x : Nat} (hw : ∀ w ∈ row, w ≤ 1000) : callN (k + 1) i__law_first [.tup (row.map nD), nD x] st = .ok (nD (firstW row x)) st := first_ok (k := k) hw
theorem lchosen_ok {rows : List (List Nat)} {x : Nat} (hw : ∀ row ∈ rows, ∀ w ∈ row, w ≤ 1000) : callN (k + 2) i__law_chosen [rowsN rows, nD x] st = .ok (nD (firstsN rows x)) st := by
  refine wE_eq ?_
  show wE (runB 4 (c__law_chosen (callN (k + 1))) _ _) _ _
  simp -implicitDefEqProofs only [c__law_chosen, wE_run, wE_ok, wE_exn, wE_stuck, wE_bind, wE_of, wE_ite, wE_iteB, wE_iteP, wP_some, wP_none, wP_ite, wP_iteP, wP_map, wP_bind, wO_out, wO_nx, wO_rt, wO_bk, wO_ct, wO_ex, wO_stuck, wO_iteB, wO_ite, seq_rt, seq_bk, seq_ct, seq_ex, sNo_at, sBk_at, sCt_at, sEx_at, sRt_at, sIf_at, sSet_at, sOwn_at, sAug_at, sApp_at, sPut_at, sExt_at, sAsg_at, sPar_at, sFz_at, fz_at, sRs_at, sRef_at, eK_at, eVar_at, eVarB_at, eBin_at, eUn_at, eCh_at, eNo_at, eAn_at, eOu_at, eIf_at, tBl_at, tTru_at, tNo_at, tAn_at, tOu_at, tYe_at, aNil_at, aCons_at, eTup_at, eLst_at, aLst_at, eIx_at, pNo_at, pSo_at, eSl_at, eCall_at, aLc_at, eLc_at, wipe_nil, wipe_cons, iSeq_at, iRg1_at, iRg2_at, eLRg_at, eTRg_at, iEnu_at, aOfL_at, gNm_at, gsNo_nil, gsCo_cons, gTp_tup, sFor_at, seqD, dAdd, dMul, gI, dIs, dNot, dIsnt, dTru, dNeg, dInv, dIx, dSl, dLen, dAbs, dInt, dTup, dLst, List.map_cons, List.map_nil, List.cons_append, List.nil_append, List.length_cons, List.length_nil, List.getElem?_cons_zero, List.getElem?_cons_succ, List.set_cons_zero, List.set_cons_succ, Option.bind_some, Option.map_some, List.reduceReplicate, Nat.reduceAdd, Nat.reduceSub, ↓reduceIte, decide_eq_true_eq, Bool.false_eq_true, Bool.not_true, Bool.not_false, Nat.zero_add, true_and, if_false_right, wO_seq, seq_nx, rowsN]
  refine wO_forL (fun i ρ st' => st' = st ∧ ∃ a b, ρ = [b, .vl (nD x), .vl (nD (firstsN (rows.take i) x)), a]) _ 0 _ _ ⟨rfl, _, _, rfl⟩ ?_ ?_
  · rintro ρ st' ⟨rfl, a, b, rfl⟩
    rw [List.length_map, Nat.zero_add, List.take_length]
    simp -implicitDefEqProofs only [wE_run, wE_ok, wE_exn, wE_stuck, wE_bind, wE_of, wE_ite, wE_iteB, wE_iteP, wP_some, wP_none, wP_ite, wP_iteP, wP_map, wP_bind, wO_out, wO_nx, wO_rt, wO_bk, wO_ct, wO_ex, wO_stuck, wO_iteB, wO_ite, seq_rt, seq_bk, seq_ct, seq_ex, sNo_at, sBk_at, sCt_at, sEx_at, sRt_at, sIf_at, sSet_at, sOwn_at, sAug_at, sApp_at, sPut_at, sExt_at, sAsg_at, sPar_at, sFz_at, fz_at, sRs_at, sRef_at, eK_at, eVar_at, eVarB_at, eBin_at, eUn_at, eCh_at, eNo_at, eAn_at, eOu_at, eIf_at, tBl_at, tTru_at, tNo_at, tAn_at, tOu_at, tYe_at, aNil_at, aCons_at, eTup_at, eLst_at, aLst_at, eIx_at, pNo_at, pSo_at, eSl_at, eCall_at, aLc_at, eLc_at, wipe_nil, wipe_cons, iSeq_at, iRg1_at, iRg2_at, eLRg_at, eTRg_at, iEnu_at, aOfL_at, gNm_at, gsNo_nil, gsCo_cons, gTp_tup, sFor_at, seqD, dAdd, dMul, gI, dIs, dNot, dIsnt, dTru, dNeg, dInv, dIx, dSl, dLen, dAbs, dInt, dTup, dLst, List.map_cons, List.map_nil, List.cons_append, List.nil_append, List.length_cons, List.length_nil, List.getElem?_cons_zero, List.getElem?_cons_succ, List.set_cons_zero, List.set_cons_succ, Option.bind_some, Option.map_some, List.reduceReplicate, Nat.reduceAdd, Nat.reduceSub, ↓reduceIte, decide_eq_true_eq, Bool.false_eq_true, Bool.not_true, Bool.not_false, Nat.zero_add, true_and, if_false_right, wO_seq, seq_nx]
  · rintro i d ρ st' hd ⟨rfl, a, b, rfl⟩
    obtain ⟨row, h1, rfl⟩ := map_at hd
    simp -implicitDefEqProofs only [wE_run, wE_ok, wE_exn, wE_stuck, wE_bind, wE_of, wE_ite, wE_iteB, wE_iteP, wP_some, wP_none, wP_ite, wP_iteP, wP_map, wP_bind, wO_out, wO_nx, wO_rt, wO_bk, wO_ct, wO_ex, wO_stuck, wO_iteB, wO_ite, seq_rt, seq_bk, seq_ct, seq_ex, sNo_at, sBk_at, sCt_at, sEx_at, sRt_at, sIf_at, sSet_at, sOwn_at, sAug_at, sApp_at, sPut_at, sExt_at, sAsg_at, sPar_at, sFz_at, fz_at, sRs_at, sRef_at, eK_at, eVar_at, eVarB_at, eBin_at, eUn_at, eCh_at, eNo_at, eAn_at, eOu_at, eIf_at, tBl_at, tTru_at, tNo_at, tAn_at, tOu_at, tYe_at, aNil_at, aCons_at, eTup_at, eLst_at, aLst_at, eIx_at, pNo_at, pSo_at, eSl_at, eCall_at, aLc_at, eLc_at, wipe_nil, wipe_cons, iSeq_at, iRg1_at, iRg2_at, eLRg_at, eTRg_at, iEnu_at, aOfL_at, gNm_at, gsNo_nil, gsCo_cons, gTp_tup, sFor_at, seqD, dAdd, dMul, gI, dIs, dNot, dIsnt, dTru, dNeg, dInv, dIx, dSl, dLen, dAbs, dInt, dTup, dLst, List.map_cons, List.map_nil, List.cons_append, List.nil_append, List.length_cons, List.length_nil, List.getElem?_cons_zero, List.getElem?_cons_succ, List.set_cons_zero, List.set_cons_succ, Option.bind_some, Option.map_some, List.reduceReplicate, Nat.reduceAdd, Nat.reduceSub, ↓reduceIte, decide_eq_true_eq, Bool.false_eq_true, Bool.not_true, Bool.not_false, Nat.zero_add, true_and, if_false_right, wO_seq, seq_nx, rowN, lfirst_ok (hw row (List.mem_of_getElem? h1)), or_nat]
    exact ⟨_, _, by rw [take_snoc h1, firsts_snoc]⟩
def tableN (m : Nat) (rows : List (List Nat)) : List Nat := (List.range (2 ^ m)).map fun x => firstsN rows x
theorem ltable_ok {m : Nat} {rows : List (List Nat)} (hm : m ≤ 5) (hw : ∀ row ∈ rows, ∀ w ∈ row, w ≤ 1000) : callN (k + 2) i__law_rows_table [nD m, rowsN rows] st = .ok (.tup ((tableN m rows).map nD)) st := by
  have hp : 2 ^ m ≤ 32 := Nat.le_trans (Nat.pow_le_pow_right (by decide) hm) (by decide)
  have hpi : ((2 ^ m : Nat) : Int) ≤ 32 := Int.ofNat_le.mpr hp
  refine wE_eq ?_
  show wE (runB 6 (c__law_rows_table (callN (k + 1))) _ _) _ _
  simp -implicitDefEqProofs only [c__law_rows_table, wE_run, wE_ok, wE_exn, wE_stuck, wE_bind, wE_of, wE_ite, wE_iteB, wE_iteP, wP_some, wP_none, wP_ite, wP_iteP, wP_map, wP_bind, wO_out, wO_nx, wO_rt, wO_bk, wO_ct, wO_ex, wO_stuck, wO_iteB, wO_ite, seq_rt, seq_bk, seq_ct, seq_ex, sNo_at, sBk_at, sCt_at, sEx_at, sRt_at, sIf_at, sSet_at, sOwn_at, sAug_at, sApp_at, sPut_at, sExt_at, sAsg_at, sPar_at, sFz_at, fz_at, sRs_at, sRef_at, eK_at, eVar_at, eVarB_at, eBin_at, eUn_at, eCh_at, eNo_at, eAn_at, eOu_at, eIf_at, tBl_at, tTru_at, tNo_at, tAn_at, tOu_at, tYe_at, aNil_at, aCons_at, eTup_at, eLst_at, aLst_at, eIx_at, pNo_at, pSo_at, eSl_at, eCall_at, aLc_at, eLc_at, wipe_nil, wipe_cons, iSeq_at, iRg1_at, iRg2_at, eLRg_at, eTRg_at, iEnu_at, aOfL_at, gNm_at, gsNo_nil, gsCo_cons, gTp_tup, sFor_at, seqD, dAdd, dMul, gI, dIs, dNot, dIsnt, dTru, dNeg, dInv, dIx, dSl, dLen, dAbs, dInt, dTup, dLst, List.map_cons, List.map_nil, List.cons_append, List.nil_append, List.length_cons, List.length_nil, List.getElem?_cons_zero, List.getElem?_cons_succ, List.set_cons_zero, List.set_cons_succ, Option.bind_some, Option.map_some, List.reduceReplicate, Nat.reduceAdd, Nat.reduceSub, ↓reduceIte, decide_eq_true_eq, Bool.false_eq_true, Bool.not_true, Bool.not_false, Nat.zero_add, true_and, if_false_right, wO_seq, seq_nx, one_shl]
  refine ⟨lenOk_small (by omega), shOk_one (by omega), rgOk_small (Int.natCast_nonneg _) (Int.le_trans hpi (by decide)), ?_⟩
  rw [rgD_nat']
  refine wO_forL (fun i ρ st' => st' = st ∧ ∃ a b c, ρ = [.vl (nD m), .vl (rowsN rows), .ow (((List.range i).map fun x => firstsN rows x).map nD), a, b, c]) _ 0 _ _ ⟨rfl, _, _, _, rfl⟩ ?_ ?_
  · rintro ρ st' ⟨rfl, a, b, c, rfl⟩
    rw [List.length_map, List.length_range, Nat.zero_add]
    simp -implicitDefEqProofs only [wE_run, wE_ok, wE_exn, wE_stuck, wE_bind, wE_of, wE_ite, wE_iteB, wE_iteP, wP_some, wP_none, wP_ite, wP_iteP, wP_map, wP_bind, wO_out, wO_nx, wO_rt, wO_bk, wO_ct, wO_ex, wO_stuck, wO_iteB, wO_ite, seq_rt, seq_bk, seq_ct, seq_ex, sNo_at, sBk_at, sCt_at, sEx_at, sRt_at, sIf_at, sSet_at, sOwn_at, sAug_at, sApp_at, sPut_at, sExt_at, sAsg_at, sPar_at, sFz_at, fz_at, sRs_at, sRef_at, eK_at, eVar_at, eVarB_at, eBin_at, eUn_at, eCh_at, eNo_at, eAn_at, eOu_at, eIf_at, tBl_at, tTru_at, tNo_at, tAn_at, tOu_at, tYe_at, aNil_at, aCons_at, eTup_at, eLst_at, aLst_at, eIx_at, pNo_at, pSo_at, eSl_at, eCall_at, aLc_at, eLc_at, wipe_nil, wipe_cons, iSeq_at, iRg1_at, iRg2_at, eLRg_at, eTRg_at, iEnu_at, aOfL_at, gNm_at, gsNo_nil, gsCo_cons, gTp_tup, sFor_at, seqD, dAdd, dMul, gI, dIs, dNot, dIsnt, dTru, dNeg, dInv, dIx, dSl, dLen, dAbs, dInt, dTup, dLst, List.map_cons, List.map_nil, List.cons_append, List.nil_append, List.length_cons, List.length_nil, List.getElem?_cons_zero, List.getElem?_cons_succ, List.set_cons_zero, List.set_cons_succ, Option.bind_some, Option.map_some, List.reduceReplicate, Nat.reduceAdd, Nat.reduceSub, ↓reduceIte, decide_eq_true_eq, Bool.false_eq_true, Bool.not_true, Bool.not_false, Nat.zero_add, true_and, if_false_right, wO_seq, seq_nx]
    trivial
  · rintro i d ρ st' hd ⟨rfl, a, b, c, rfl⟩
    obtain ⟨x, h1, rfl⟩ := map_at hd
    have hi : i < 2 ^ m := by
      have := (List.getElem?_eq_some_iff.mp h1).1
      rw [List.length_range] at this; exact this
    obtain rfl : x = i := by
      rw [List.getElem?_range hi] at h1; exact (Option.some.inj h1).symm
    simp -implicitDefEqProofs only [wE_run, wE_ok, wE_exn, wE_stuck, wE_bind, wE_of, wE_ite, wE_iteB, wE_iteP, wP_some, wP_none, wP_ite, wP_iteP, wP_map, wP_bind, wO_out, wO_nx, wO_rt, wO_bk, wO_ct, wO_ex, wO_stuck, wO_iteB, wO_ite, seq_rt, seq_bk, seq_ct, seq_ex, sNo_at, sBk_at, sCt_at, sEx_at, sRt_at, sIf_at, sSet_at, sOwn_at, sAug_at, sApp_at, sPut_at, sExt_at, sAsg_at, sPar_at, sFz_at, fz_at, sRs_at, sRef_at, eK_at, eVar_at, eVarB_at, eBin_at, eUn_at, eCh_at, eNo_at, eAn_at, eOu_at, eIf_at, tBl_at, tTru_at, tNo_at, tAn_at, tOu_at, tYe_at, aNil_at, aCons_at, eTup_at, eLst_at, aLst_at, eIx_at, pNo_at, pSo_at, eSl_at, eCall_at, aLc_at, eLc_at, wipe_nil, wipe_cons, iSeq_at, iRg1_at, iRg2_at, eLRg_at, eTRg_at, iEnu_at, aOfL_at, gNm_at, gsNo_nil, gsCo_cons, gTp_tup, sFor_at, seqD, dAdd, dMul, gI, dIs, dNot, dIsnt, dTru, dNeg, dInv, dIx, dSl, dLen, dAbs, dInt, dTup, dLst, List.map_cons, List.map_nil, List.cons_append, List.nil_append, List.length_cons, List.length_nil, List.getElem?_cons_zero, List.getElem?_cons_succ, List.set_cons_zero, List.set_cons_succ, Option.bind_some, Option.map_some, List.reduceReplicate, Nat.reduceAdd, Nat.reduceSub, ↓reduceIte, decide_eq_true_eq, Bool.false_eq_true, Bool.not_true, Bool.not_false, Nat.zero_add, true_and, if_false_right, wO_seq, seq_nx, rowsN]
    refine wO_forL (fun j ρ s2 => s2 = st' ∧ ∃ c b', ρ = [.vl (nD m), .vl (.tup (rows.map rowN)), .ow (((List.range x).map fun x => firstsN rows x).map nD), .vl (nD x), .vl (nD (firstsN (rows.take j) x)), c] ∧ b' = 0) _ 0 _ _ ⟨rfl, _, _, rfl, rfl⟩ ?_ ?_
    · rintro ρ s2 ⟨rfl, c, _, rfl, _⟩
      rw [List.length_map, Nat.zero_add, List.take_length]
      simp -implicitDefEqProofs only [wE_run, wE_ok, wE_exn, wE_stuck, wE_bind, wE_of, wE_ite, wE_iteB, wE_iteP, wP_some, wP_none, wP_ite, wP_iteP, wP_map, wP_bind, wO_out, wO_nx, wO_rt, wO_bk, wO_ct, wO_ex, wO_stuck, wO_iteB, wO_ite, seq_rt, seq_bk, seq_ct, seq_ex, sNo_at, sBk_at, sCt_at, sEx_at, sRt_at, sIf_at, sSet_at, sOwn_at, sAug_at, sApp_at, sPut_at, sExt_at, sAsg_at, sPar_at, sFz_at, fz_at, sRs_at, sRef_at, eK_at, eVar_at, eVarB_at, eBin_at, eUn_at, eCh_at, eNo_at, eAn_at, eOu_at, eIf_at, tBl_at, tTru_at, tNo_at, tAn_at, tOu_at, tYe_at, aNil_at, aCons_at, eTup_at, eLst_at, aLst_at, eIx_at, pNo_at, pSo_at, eSl_at, eCall_at, aLc_at, eLc_at, wipe_nil, wipe_cons, iSeq_at, iRg1_at, iRg2_at, eLRg_at, eTRg_at, iEnu_at, aOfL_at, gNm_at, gsNo_nil, gsCo_cons, gTp_tup, sFor_at, seqD, dAdd, dMul, gI, dIs, dNot, dIsnt, dTru, dNeg, dInv, dIx, dSl, dLen, dAbs, dInt, dTup, dLst, List.map_cons, List.map_nil, List.cons_append, List.nil_append, List.length_cons, List.length_nil, List.getElem?_cons_zero, List.getElem?_cons_succ, List.set_cons_zero, List.set_cons_succ, Option.bind_some, Option.map_some, List.reduceReplicate, Nat.reduceAdd, Nat.reduceSub, ↓reduceIte, decide_eq_true_eq, Bool.false_eq_true, Bool.not_true, Bool.not_false, Nat.zero_add, true_and, if_false_right, wO_seq, seq_nx, List.length_map, List.length_range]
      refine ⟨lenOk_small (by omega), .vl (nD x), .vl (nD (firstsN rows x)), c, ?_⟩
      rw [List.range_succ, List.map_append, List.map_append]
      rfl
    · rintro j d ρ s2 hd ⟨rfl, c, _, rfl, _⟩
      obtain ⟨row, h1, rfl⟩ := map_at hd
      simp -implicitDefEqProofs only [wE_run, wE_ok, wE_exn, wE_stuck, wE_bind, wE_of, wE_ite, wE_iteB, wE_iteP, wP_some, wP_none, wP_ite, wP_iteP, wP_map, wP_bind, wO_out, wO_nx, wO_rt, wO_bk, wO_ct, wO_ex, wO_stuck, wO_iteB, wO_ite, seq_rt, seq_bk, seq_ct, seq_ex, sNo_at, sBk_at, sCt_at, sEx_at, sRt_at, sIf_at, sSet_at, sOwn_at, sAug_at, sApp_at, sPut_at, sExt_at, sAsg_at, sPar_at, sFz_at, fz_at, sRs_at, sRef_at, eK_at, eVar_at, eVarB_at, eBin_at, eUn_at, eCh_at, eNo_at, eAn_at, eOu_at, eIf_at, tBl_at, tTru_at, tNo_at, tAn_at, tOu_at, tYe_at, aNil_at, aCons_at, eTup_at, eLst_at, aLst_at, eIx_at, pNo_at, pSo_at, eSl_at, eCall_at, aLc_at, eLc_at, wipe_nil, wipe_cons, iSeq_at, iRg1_at, iRg2_at, eLRg_at, eTRg_at, iEnu_at, aOfL_at, gNm_at, gsNo_nil, gsCo_cons, gTp_tup, sFor_at, seqD, dAdd, dMul, gI, dIs, dNot, dIsnt, dTru, dNeg, dInv, dIx, dSl, dLen, dAbs, dInt, dTup, dLst, List.map_cons, List.map_nil, List.cons_append, List.nil_append, List.length_cons, List.length_nil, List.getElem?_cons_zero, List.getElem?_cons_succ, List.set_cons_zero, List.set_cons_succ, Option.bind_some, Option.map_some, List.reduceReplicate, Nat.reduceAdd, Nat.reduceSub, ↓reduceIte, decide_eq_true_eq, Bool.false_eq_true, Bool.not_true, Bool.not_false, Nat.zero_add, true_and, if_false_right, wO_seq, seq_nx, rowN, lfirst_ok (hw row (List.mem_of_getElem? h1)), or_nat]
      exact ⟨_, _, by rw [take_snoc h1, firsts_snoc], rfl⟩
/-- rows that are rows -/
structure Rws (m : Nat) (rows : List (List Nat)) : Prop where
  good : ∀ row ∈ rows, row.Perm (List.range m)
theorem Rws.small {m : Nat} {rows : List (List Nat)} (h : Rws m rows) (hm : m ≤ 1000) : ∀ row ∈ rows, ∀ w ∈ row, w ≤ 1000 := fun row hr w hw => by
  have := List.mem_range.mp ((h.good row hr).mem_iff.mp hw)
  omega
def cstI (rows : List (List Nat)) : List (List Int) := rows.map fun row => row.map fun w : Nat => (w : Int)
theorem rows_cast {rows : List (List Nat)} : rowsN rows = rowsD (cstI rows) := by
  unfold rowsN rowsD cstI
  rw [List.map_map]
  congr 1
  refine List.map_congr_left fun row _ => ?_
  show D.tup (row.map nD) = D.tup ((row.map fun w : Nat => (w : Int)).map D.int)
  rw [List.map_map]; rfl
theorem Rws.goodR {m : Nat} {rows : List (List Nat)} (h : Rws m rows) : GoodR m (cstI rows) := fun r hr => by
  obtain ⟨row, h1, rfl⟩ := List.mem_map.mp hr
  exact (h.good row h1).map _
theorem rows_ok {m : Nat} (h1 : 1 ≤ m) (h2 : m ≤ 32) {rows : List (List Nat)} (hl : rows.length ≤ 200) (hn : rows ≠ []) (hg : Rws m rows) : callN (k + 2) i_check_rows [nD m, rowsN rows] st = .ok .non st := by
  rw [rows_cast]
  exact check_rows_ok h1 h2 (by unfold cstI; rw [List.length_map]; exact hl) (by unfold cstI; simpa using hn) hg.goodR
theorem first_in_ok {m x : Nat} (h1 : 1 ≤ m) (h2 : m ≤ 32) {rows : List (List Nat)} (hl : rows.length ≤ 200) (hn : rows ≠ []) (hg : Rws m rows) (hx : x < 2 ^ m) : callN (k + 3) i_first_in_rows [nD m, rowsN rows, nD x] st = .ok (nD (firstsN rows x)) st := by
  refine wE_eq ?_
  show wE (runB 3 (c_first_in_rows (callN (k + 2))) _ _) _ _
  simp -implicitDefEqProofs only [c_first_in_rows, wE_run, wE_ok, wE_exn, wE_stuck, wE_bind, wE_of, wE_ite, wE_iteB, wE_iteP, wP_some, wP_none, wP_ite, wP_iteP, wP_map, wP_bind, wO_out, wO_nx, wO_rt, wO_bk, wO_ct, wO_ex, wO_stuck, wO_iteB, wO_ite, seq_rt, seq_bk, seq_ct, seq_ex, sNo_at, sBk_at, sCt_at, sEx_at, sRt_at, sIf_at, sSet_at, sOwn_at, sAug_at, sApp_at, sPut_at, sExt_at, sAsg_at, sPar_at, sFz_at, fz_at, sRs_at, sRef_at, eK_at, eVar_at, eVarB_at, eBin_at, eUn_at, eCh_at, eNo_at, eAn_at, eOu_at, eIf_at, tBl_at, tTru_at, tNo_at, tAn_at, tOu_at, tYe_at, aNil_at, aCons_at, eTup_at, eLst_at, aLst_at, eIx_at, pNo_at, pSo_at, eSl_at, eCall_at, aLc_at, eLc_at, wipe_nil, wipe_cons, iSeq_at, iRg1_at, iRg2_at, eLRg_at, eTRg_at, iEnu_at, aOfL_at, gNm_at, gsNo_nil, gsCo_cons, gTp_tup, sFor_at, seqD, dAdd, dMul, gI, dIs, dNot, dIsnt, dTru, dNeg, dInv, dIx, dSl, dLen, dAbs, dInt, dTup, dLst, List.map_cons, List.map_nil, List.cons_append, List.nil_append, List.length_cons, List.length_nil, List.getElem?_cons_zero, List.getElem?_cons_succ, List.set_cons_zero, List.set_cons_succ, Option.bind_some, Option.map_some, List.reduceReplicate, Nat.reduceAdd, Nat.reduceSub, ↓reduceIte, decide_eq_true_eq, Bool.false_eq_true, Bool.not_true, Bool.not_false, Nat.zero_add, true_and, if_false_right, wO_seq, seq_nx, rows_ok h1 h2 hl hn hg, check_set_ok h1 h2 hx, firsts_ok (hg.small (by omega))]
theorem first_in_big {m : Nat} (h1 : 1 ≤ m) (h2 : m ≤ 32) {rows : List (List Nat)} (hl : rows.length ≤ 200) (hn : rows ≠ []) (hg : Rws m rows) : callN (k + 3) i_first_in_rows [nD m, rowsN rows, nD (2 ^ m)] st = .exn ⟨1, none⟩ st := by
  refine wE_exeq ?_
  show wE (runB 3 (c_first_in_rows (callN (k + 2))) _ _) _ _
  simp -implicitDefEqProofs only [c_first_in_rows, wE_run, wE_ok, wE_exn, wE_stuck, wE_bind, wE_of, wE_ite, wE_iteB, wE_iteP, wP_some, wP_none, wP_ite, wP_iteP, wP_map, wP_bind, wO_out, wO_nx, wO_rt, wO_bk, wO_ct, wO_ex, wO_stuck, wO_iteB, wO_ite, seq_rt, seq_bk, seq_ct, seq_ex, sNo_at, sBk_at, sCt_at, sEx_at, sRt_at, sIf_at, sSet_at, sOwn_at, sAug_at, sApp_at, sPut_at, sExt_at, sAsg_at, sPar_at, sFz_at, fz_at, sRs_at, sRef_at, eK_at, eVar_at, eVarB_at, eBin_at, eUn_at, eCh_at, eNo_at, eAn_at, eOu_at, eIf_at, tBl_at, tTru_at, tNo_at, tAn_at, tOu_at, tYe_at, aNil_at, aCons_at, eTup_at, eLst_at, aLst_at, eIx_at, pNo_at, pSo_at, eSl_at, eCall_at, aLc_at, eLc_at, wipe_nil, wipe_cons, iSeq_at, iRg1_at, iRg2_at, eLRg_at, eTRg_at, iEnu_at, aOfL_at, gNm_at, gsNo_nil, gsCo_cons, gTp_tup, sFor_at, seqD, dAdd, dMul, gI, dIs, dNot, dIsnt, dTru, dNeg, dInv, dIx, dSl, dLen, dAbs, dInt, dTup, dLst, List.map_cons, List.map_nil, List.cons_append, List.nil_append, List.length_cons, List.length_nil, List.getElem?_cons_zero, List.getElem?_cons_succ, List.set_cons_zero, List.set_cons_succ, Option.bind_some, Option.map_some, List.reduceReplicate, Nat.reduceAdd, Nat.reduceSub, ↓reduceIte, decide_eq_true_eq, Bool.false_eq_true, Bool.not_true, Bool.not_false, Nat.zero_add, true_and, if_false_right, wO_seq, seq_nx, rows_ok h1 h2 hl hn hg, check_set_big h1 h2]
theorem table_ok {m : Nat} (h1 : 1 ≤ m) (h2 : m ≤ 5) {rows : List (List Nat)} (hl : rows.length ≤ 200) (hn : rows ≠ []) (hg : Rws m rows) : callN (k + 3) i_table_of_rows [nD m, rowsN rows] st = .ok (.tup ((tableN m rows).map nD)) st := by
  have hp : 2 ^ m ≤ 32 := Nat.le_trans (Nat.pow_le_pow_right (by decide) h2) (by decide)
  have hpi : ((2 ^ m : Nat) : Int) ≤ 32 := Int.ofNat_le.mpr hp
  refine wE_eq ?_
  show wE (runB 3 (c_table_of_rows (callN (k + 2))) _ _) _ _
  simp -implicitDefEqProofs only [c_table_of_rows, wE_run, wE_ok, wE_exn, wE_stuck, wE_bind, wE_of, wE_ite, wE_iteB, wE_iteP, wP_some, wP_none, wP_ite, wP_iteP, wP_map, wP_bind, wO_out, wO_nx, wO_rt, wO_bk, wO_ct, wO_ex, wO_stuck, wO_iteB, wO_ite, seq_rt, seq_bk, seq_ct, seq_ex, sNo_at, sBk_at, sCt_at, sEx_at, sRt_at, sIf_at, sSet_at, sOwn_at, sAug_at, sApp_at, sPut_at, sExt_at, sAsg_at, sPar_at, sFz_at, fz_at, sRs_at, sRef_at, eK_at, eVar_at, eVarB_at, eBin_at, eUn_at, eCh_at, eNo_at, eAn_at, eOu_at, eIf_at, tBl_at, tTru_at, tNo_at, tAn_at, tOu_at, tYe_at, aNil_at, aCons_at, eTup_at, eLst_at, aLst_at, eIx_at, pNo_at, pSo_at, eSl_at, eCall_at, aLc_at, eLc_at, wipe_nil, wipe_cons, iSeq_at, iRg1_at, iRg2_at, eLRg_at, eTRg_at, iEnu_at, aOfL_at, gNm_at, gsNo_nil, gsCo_cons, gTp_tup, sFor_at, seqD, dAdd, dMul, gI, dIs, dNot, dIsnt, dTru, dNeg, dInv, dIx, dSl, dLen, dAbs, dInt, dTup, dLst, List.map_cons, List.map_nil, List.cons_append, List.nil_append, List.length_cons, List.length_nil, List.getElem?_cons_zero, List.getElem?_cons_succ, List.set_cons_zero, List.set_cons_succ, Option.bind_some, Option.map_some, List.reduceReplicate, Nat.reduceAdd, Nat.reduceSub, ↓reduceIte, decide_eq_true_eq, Bool.false_eq_true, Bool.not_true, Bool.not_false, Nat.zero_add, true_and, if_false_right, wO_seq, seq_nx, rows_ok h1 (by omega) hl hn hg, one_shl]
  rw [if_neg (by omega)]
  refine ⟨shOk_one (by omega), rgOk_small (Int.natCast_nonneg _) (Int.le_trans hpi (by decide)), ?_⟩
  rw [rgD_nat', lcL_mapT (h := fun x => nD (firstsN rows x)) fun x hx => ?_]
  · simp -implicitDefEqProofs only [wE_run, wE_ok, wE_exn, wE_stuck, wE_bind, wE_of, wE_ite, wE_iteB, wE_iteP, wP_some, wP_none, wP_ite, wP_iteP, wP_map, wP_bind, wO_out, wO_nx, wO_rt, wO_bk, wO_ct, wO_ex, wO_stuck, wO_iteB, wO_ite, seq_rt, seq_bk, seq_ct, seq_ex, sNo_at, sBk_at, sCt_at, sEx_at, sRt_at, sIf_at, sSet_at, sOwn_at, sAug_at, sApp_at, sPut_at, sExt_at, sAsg_at, sPar_at, sFz_at, fz_at, sRs_at, sRef_at, eK_at, eVar_at, eVarB_at, eBin_at, eUn_at, eCh_at, eNo_at, eAn_at, eOu_at, eIf_at, tBl_at, tTru_at, tNo_at, tAn_at, tOu_at, tYe_at, aNil_at, aCons_at, eTup_at, eLst_at, aLst_at, eIx_at, pNo_at, pSo_at, eSl_at, eCall_at, aLc_at, eLc_at, wipe_nil, wipe_cons, iSeq_at, iRg1_at, iRg2_at, eLRg_at, eTRg_at, iEnu_at, aOfL_at, gNm_at, gsNo_nil, gsCo_cons, gTp_tup, sFor_at, seqD, dAdd, dMul, gI, dIs, dNot, dIsnt, dTru, dNeg, dInv, dIx, dSl, dLen, dAbs, dInt, dTup, dLst, List.map_cons, List.map_nil, List.cons_append, List.nil_append, List.length_cons, List.length_nil, List.getElem?_cons_zero, List.getElem?_cons_succ, List.set_cons_zero, List.set_cons_succ, Option.bind_some, Option.map_some, List.reduceReplicate, Nat.reduceAdd, Nat.reduceSub, ↓reduceIte, decide_eq_true_eq, Bool.false_eq_true, Bool.not_true, Bool.not_false, Nat.zero_add, true_and, if_false_right, wO_seq, seq_nx]
    unfold tableN
    rw [List.map_map]
    exact ⟨rfl, trivial⟩
  · simp -implicitDefEqProofs only [wE_run, wE_ok, wE_exn, wE_stuck, wE_bind, wE_of, wE_ite, wE_iteB, wE_iteP, wP_some, wP_none, wP_ite, wP_iteP, wP_map, wP_bind, wO_out, wO_nx, wO_rt, wO_bk, wO_ct, wO_ex, wO_stuck, wO_iteB, wO_ite, seq_rt, seq_bk, seq_ct, seq_ex, sNo_at, sBk_at, sCt_at, sEx_at, sRt_at, sIf_at, sSet_at, sOwn_at, sAug_at, sApp_at, sPut_at, sExt_at, sAsg_at, sPar_at, sFz_at, fz_at, sRs_at, sRef_at, eK_at, eVar_at, eVarB_at, eBin_at, eUn_at, eCh_at, eNo_at, eAn_at, eOu_at, eIf_at, tBl_at, tTru_at, tNo_at, tAn_at, tOu_at, tYe_at, aNil_at, aCons_at, eTup_at, eLst_at, aLst_at, eIx_at, pNo_at, pSo_at, eSl_at, eCall_at, aLc_at, eLc_at, wipe_nil, wipe_cons, iSeq_at, iRg1_at, iRg2_at, eLRg_at, eTRg_at, iEnu_at, aOfL_at, gNm_at, gsNo_nil, gsCo_cons, gTp_tup, sFor_at, seqD, dAdd, dMul, gI, dIs, dNot, dIsnt, dTru, dNeg, dInv, dIx, dSl, dLen, dAbs, dInt, dTup, dLst, List.map_cons, List.map_nil, List.cons_append, List.nil_append, List.length_cons, List.length_nil, List.getElem?_cons_zero, List.getElem?_cons_succ, List.set_cons_zero, List.set_cons_succ, Option.bind_some, Option.map_some, List.reduceReplicate, Nat.reduceAdd, Nat.reduceSub, ↓reduceIte, decide_eq_true_eq, Bool.false_eq_true, Bool.not_true, Bool.not_false, Nat.zero_add, true_and, if_false_right, wO_seq, seq_nx, firsts_ok (hg.small (by omega))]
theorem table_large {m : Nat} (h1 : 5 < m) (h2 : m ≤ 32) {rows : List (List Nat)} (hl : rows.length ≤ 200) (hn : rows ≠ []) (hg : Rws m rows) : callN (k + 3) i_table_of_rows [nD m, rowsN rows] st = .exn ⟨2, none⟩ st := by
  refine wE_exeq ?_
  show wE (runB 3 (c_table_of_rows (callN (k + 2))) _ _) _ _
  simp -implicitDefEqProofs only [c_table_of_rows, wE_run, wE_ok, wE_exn, wE_stuck, wE_bind, wE_of, wE_ite, wE_iteB, wE_iteP, wP_some, wP_none, wP_ite, wP_iteP, wP_map, wP_bind, wO_out, wO_nx, wO_rt, wO_bk, wO_ct, wO_ex, wO_stuck, wO_iteB, wO_ite, seq_rt, seq_bk, seq_ct, seq_ex, sNo_at, sBk_at, sCt_at, sEx_at, sRt_at, sIf_at, sSet_at, sOwn_at, sAug_at, sApp_at, sPut_at, sExt_at, sAsg_at, sPar_at, sFz_at, fz_at, sRs_at, sRef_at, eK_at, eVar_at, eVarB_at, eBin_at, eUn_at, eCh_at, eNo_at, eAn_at, eOu_at, eIf_at, tBl_at, tTru_at, tNo_at, tAn_at, tOu_at, tYe_at, aNil_at, aCons_at, eTup_at, eLst_at, aLst_at, eIx_at, pNo_at, pSo_at, eSl_at, eCall_at, aLc_at, eLc_at, wipe_nil, wipe_cons, iSeq_at, iRg1_at, iRg2_at, eLRg_at, eTRg_at, iEnu_at, aOfL_at, gNm_at, gsNo_nil, gsCo_cons, gTp_tup, sFor_at, seqD, dAdd, dMul, gI, dIs, dNot, dIsnt, dTru, dNeg, dInv, dIx, dSl, dLen, dAbs, dInt, dTup, dLst, List.map_cons, List.map_nil, List.cons_append, List.nil_append, List.length_cons, List.length_nil, List.getElem?_cons_zero, List.getElem?_cons_succ, List.set_cons_zero, List.set_cons_succ, Option.bind_some, Option.map_some, List.reduceReplicate, Nat.reduceAdd, Nat.reduceSub, ↓reduceIte, decide_eq_true_eq, Bool.false_eq_true, Bool.not_true, Bool.not_false, Nat.zero_add, true_and, if_false_right, wO_seq, seq_nx, rows_ok (show 1 ≤ m by omega) (by omega) hl hn hg]
  rw [if_pos (by omega)]
  simp
theorem table_ex {m : Nat} (h1 : 1 ≤ m) (h2 : m ≤ 32) {rs : List (List Int)} (hl : rs.length ≤ 200) (h : rs = [] ∨ ∃ r ∈ rs, ¬ r.Perm (rgI m)) : callN (k + 3) i_table_of_rows [nD m, rowsD rs] st = .exn ⟨1, none⟩ st := by
  have := check_rows_ex (k := k) (st := st) h1 h2 (rs := rs) (.inr h)
  rw [if_neg (by omega)] at this
  refine wE_exeq ?_
  show wE (runB 3 (c_table_of_rows (callN (k + 2))) _ _) _ _
  simp -implicitDefEqProofs only [c_table_of_rows, wE_run, wE_ok, wE_exn, wE_stuck, wE_bind, wE_of, wE_ite, wE_iteB, wE_iteP, wP_some, wP_none, wP_ite, wP_iteP, wP_map, wP_bind, wO_out, wO_nx, wO_rt, wO_bk, wO_ct, wO_ex, wO_stuck, wO_iteB, wO_ite, seq_rt, seq_bk, seq_ct, seq_ex, sNo_at, sBk_at, sCt_at, sEx_at, sRt_at, sIf_at, sSet_at, sOwn_at, sAug_at, sApp_at, sPut_at, sExt_at, sAsg_at, sPar_at, sFz_at, fz_at, sRs_at, sRef_at, eK_at, eVar_at, eVarB_at, eBin_at, eUn_at, eCh_at, eNo_at, eAn_at, eOu_at, eIf_at, tBl_at, tTru_at, tNo_at, tAn_at, tOu_at, tYe_at, aNil_at, aCons_at, eTup_at, eLst_at, aLst_at, eIx_at, pNo_at, pSo_at, eSl_at, eCall_at, aLc_at, eLc_at, wipe_nil, wipe_cons, iSeq_at, iRg1_at, iRg2_at, eLRg_at, eTRg_at, iEnu_at, aOfL_at, gNm_at, gsNo_nil, gsCo_cons, gTp_tup, sFor_at, seqD, dAdd, dMul, gI, dIs, dNot, dIsnt, dTru, dNeg, dInv, dIx, dSl, dLen, dAbs, dInt, dTup, dLst, List.map_cons, List.map_nil, List.cons_append, List.nil_append, List.length_cons, List.length_nil, List.getElem?_cons_zero, List.getElem?_cons_succ, List.set_cons_zero, List.set_cons_succ, Option.bind_some, Option.map_some, List.reduceReplicate, Nat.reduceAdd, Nat.reduceSub, ↓reduceIte, decide_eq_true_eq, Bool.false_eq_true, Bool.not_true, Bool.not_false, Nat.zero_add, true_and, if_false_right, wO_seq, seq_nx, this]
/-! ### tables -/
theorem first_sub (row : List Nat) (x : Nat) : firstW row x &&& x = firstW row x := by
  induction row with
  | nil => simp [firstW]
  | cons w ws ih =>
    unfold firstW
    by_cases h : x.testBit w
    · rw [if_pos h]
      refine Nat.eq_of_testBit_eq fun i => ?_
      rw [Nat.testBit_and, Nat.testBit_two_pow]
      by_cases e : w = i
      · subst e; simp [h]
      · simp [e]
    · rw [if_neg h]; exact ih
theorem firsts_sub (rows : List (List Nat)) (x : Nat) : firstsN rows x &&& x = firstsN rows x := by
  unfold firstsN
  suffices h : ∀ (rows : List (List Nat)) (t : Nat), t &&& x = t → rows.foldl (fun t row => t ||| firstW row x) t &&& x = rows.foldl (fun t row => t ||| firstW row x) t from h rows 0 (by simp)
  intro rows
  induction rows with
  | nil => exact fun t h => h
  | cons row rows ih =>
    intro t h
    refine ih _ ?_
    rw [Nat.and_or_distrib_right, h, first_sub]
structure Tbl (m : Nat) (tb : List Nat) : Prop where
  len : tb.length = 2 ^ m
  sub : ∀ x c : Nat, tb[x]? = some c → c &&& x = c
theorem and_not {c x : Nat} (h : c &&& x = c) : Builtin.bitAnd (c : Int) (Builtin.bitNot (x : Int)) = 0 := by
  rw [bitAnd_not, bitAnd_pp (Int.natCast_nonneg _) (Int.natCast_nonneg _), Int.toNat_natCast, Int.toNat_natCast, h]
  omega
theorem check_table_ok {m : Nat} (h1 : 1 ≤ m) (h2 : m ≤ 5) {tb : List Nat} (ht : Tbl m tb) : callN (k + 2) i_check_table [nD m, .tup (tb.map nD)] st = .ok .non st := by
  refine wE_eq ?_
  show wE (runB 4 (c_check_table (callN (k + 1))) _ _) _ _
  simp -implicitDefEqProofs only [c_check_table, wE_run, wE_ok, wE_exn, wE_stuck, wE_bind, wE_of, wE_ite, wE_iteB, wE_iteP, wP_some, wP_none, wP_ite, wP_iteP, wP_map, wP_bind, wO_out, wO_nx, wO_rt, wO_bk, wO_ct, wO_ex, wO_stuck, wO_iteB, wO_ite, seq_rt, seq_bk, seq_ct, seq_ex, sNo_at, sBk_at, sCt_at, sEx_at, sRt_at, sIf_at, sSet_at, sOwn_at, sAug_at, sApp_at, sPut_at, sExt_at, sAsg_at, sPar_at, sFz_at, fz_at, sRs_at, sRef_at, eK_at, eVar_at, eVarB_at, eBin_at, eUn_at, eCh_at, eNo_at, eAn_at, eOu_at, eIf_at, tBl_at, tTru_at, tNo_at, tAn_at, tOu_at, tYe_at, aNil_at, aCons_at, eTup_at, eLst_at, aLst_at, eIx_at, pNo_at, pSo_at, eSl_at, eCall_at, aLc_at, eLc_at, wipe_nil, wipe_cons, iSeq_at, iRg1_at, iRg2_at, eLRg_at, eTRg_at, iEnu_at, aOfL_at, gNm_at, gsNo_nil, gsCo_cons, gTp_tup, sFor_at, seqD, dAdd, dMul, gI, dIs, dNot, dIsnt, dTru, dNeg, dInv, dIx, dSl, dLen, dAbs, dInt, dTup, dLst, List.map_cons, List.map_nil, List.cons_append, List.nil_append, List.length_cons, List.length_nil, List.getElem?_cons_zero, List.getElem?_cons_succ, List.set_cons_zero, List.set_cons_succ, Option.bind_some, Option.map_some, List.reduceReplicate, Nat.reduceAdd, Nat.reduceSub, ↓reduceIte, decide_eq_true_eq, Bool.false_eq_true, Bool.not_true, Bool.not_false, Nat.zero_add, true_and, if_false_right, wO_seq, seq_nx, check_many_ok h1 (show m ≤ 32 by omega), List.length_map, one_shl, dNeV_int, ht.len]
  rw [if_neg (by omega)]
  refine ⟨shOk_one (by omega), ?_⟩
  rw [if_neg (by simp)]
  refine wO_forL (fun i ρ st' => st' = st ∧ ∃ a b, ρ = [.vl (nD m), .vl (.tup (tb.map nD)), a, b]) _ 0 _ _ ⟨rfl, _, _, rfl⟩ ?_ ?_
  · rintro ρ st' ⟨rfl, a, b, rfl⟩
    simp -implicitDefEqProofs only [wE_run, wE_ok, wE_exn, wE_stuck, wE_bind, wE_of, wE_ite, wE_iteB, wE_iteP, wP_some, wP_none, wP_ite, wP_iteP, wP_map, wP_bind, wO_out, wO_nx, wO_rt, wO_bk, wO_ct, wO_ex, wO_stuck, wO_iteB, wO_ite, seq_rt, seq_bk, seq_ct, seq_ex, sNo_at, sBk_at, sCt_at, sEx_at, sRt_at, sIf_at, sSet_at, sOwn_at, sAug_at, sApp_at, sPut_at, sExt_at, sAsg_at, sPar_at, sFz_at, fz_at, sRs_at, sRef_at, eK_at, eVar_at, eVarB_at, eBin_at, eUn_at, eCh_at, eNo_at, eAn_at, eOu_at, eIf_at, tBl_at, tTru_at, tNo_at, tAn_at, tOu_at, tYe_at, aNil_at, aCons_at, eTup_at, eLst_at, aLst_at, eIx_at, pNo_at, pSo_at, eSl_at, eCall_at, aLc_at, eLc_at, wipe_nil, wipe_cons, iSeq_at, iRg1_at, iRg2_at, eLRg_at, eTRg_at, iEnu_at, aOfL_at, gNm_at, gsNo_nil, gsCo_cons, gTp_tup, sFor_at, seqD, dAdd, dMul, gI, dIs, dNot, dIsnt, dTru, dNeg, dInv, dIx, dSl, dLen, dAbs, dInt, dTup, dLst, List.map_cons, List.map_nil, List.cons_append, List.nil_append, List.length_cons, List.length_nil, List.getElem?_cons_zero, List.getElem?_cons_succ, List.set_cons_zero, List.set_cons_succ, Option.bind_some, Option.map_some, List.reduceReplicate, Nat.reduceAdd, Nat.reduceSub, ↓reduceIte, decide_eq_true_eq, Bool.false_eq_true, Bool.not_true, Bool.not_false, Nat.zero_add, true_and, if_false_right, wO_seq, seq_nx]
  · rintro i d ρ st' hd ⟨rfl, a, b, rfl⟩
    obtain ⟨c, hc, rfl⟩ := enumD_at hd
    simp -implicitDefEqProofs only [wE_run, wE_ok, wE_exn, wE_stuck, wE_bind, wE_of, wE_ite, wE_iteB, wE_iteP, wP_some, wP_none, wP_ite, wP_iteP, wP_map, wP_bind, wO_out, wO_nx, wO_rt, wO_bk, wO_ct, wO_ex, wO_stuck, wO_iteB, wO_ite, seq_rt, seq_bk, seq_ct, seq_ex, sNo_at, sBk_at, sCt_at, sEx_at, sRt_at, sIf_at, sSet_at, sOwn_at, sAug_at, sApp_at, sPut_at, sExt_at, sAsg_at, sPar_at, sFz_at, fz_at, sRs_at, sRef_at, eK_at, eVar_at, eVarB_at, eBin_at, eUn_at, eCh_at, eNo_at, eAn_at, eOu_at, eIf_at, tBl_at, tTru_at, tNo_at, tAn_at, tOu_at, tYe_at, aNil_at, aCons_at, eTup_at, eLst_at, aLst_at, eIx_at, pNo_at, pSo_at, eSl_at, eCall_at, aLc_at, eLc_at, wipe_nil, wipe_cons, iSeq_at, iRg1_at, iRg2_at, eLRg_at, eTRg_at, iEnu_at, aOfL_at, gNm_at, gsNo_nil, gsCo_cons, gTp_tup, sFor_at, seqD, dAdd, dMul, gI, dIs, dNot, dIsnt, dTru, dNeg, dInv, dIx, dSl, dLen, dAbs, dInt, dTup, dLst, List.map_cons, List.map_nil, List.cons_append, List.nil_append, List.length_cons, List.length_nil, List.getElem?_cons_zero, List.getElem?_cons_succ, List.set_cons_zero, List.set_cons_succ, Option.bind_some, Option.map_some, List.reduceReplicate, Nat.reduceAdd, Nat.reduceSub, ↓reduceIte, decide_eq_true_eq, Bool.false_eq_true, Bool.not_true, Bool.not_false, Nat.zero_add, true_and, if_false_right, wO_seq, seq_nx, and_not (ht.sub i c hc), dNeV_int]
    rw [if_neg (by omega), if_neg (by simp)]
    exact ⟨_, _, rfl⟩
theorem table_tbl {m : Nat} {rows : List (List Nat)} : Tbl m (tableN m rows) := by
  refine ⟨by unfold tableN; rw [List.length_map, List.length_range], fun x c h => ?_⟩
  unfold tableN at h
  rw [List.getElem?_map] at h
  by_cases hx : x < 2 ^ m
  · rw [List.getElem?_range hx] at h
    cases h
    exact firsts_sub rows x
  · rw [List.getElem?_eq_none (by rw [List.length_range]; omega)] at h; cases h
theorem from_rows_ok {m : Nat} (h1 : 1 ≤ m) (h2 : m ≤ 5) {tb : List Nat} (ht : Tbl m tb) {rows : List (List Nat)} (hl : rows.length ≤ 200) (hn : rows ≠ []) (hg : Rws m rows) :
    callN (k + 3) i_check_from_rows [nD m, .tup (tb.map nD), rowsN rows] st = if tb = tableN m rows then .ok (.bl true) st else .exn ⟨4, none⟩ st := by
  by_cases he : tb = tableN m rows
  · rw [if_pos he]
    refine wE_eq ?_
    show wE (runB 5 (c_check_from_rows (callN (k + 2))) _ _) _ _
    simp -implicitDefEqProofs only [c_check_from_rows, wE_run, wE_ok, wE_exn, wE_stuck, wE_bind, wE_of, wE_ite, wE_iteB, wE_iteP, wP_some, wP_none, wP_ite, wP_iteP, wP_map, wP_bind, wO_out, wO_nx, wO_rt, wO_bk, wO_ct, wO_ex, wO_stuck, wO_iteB, wO_ite, seq_rt, seq_bk, seq_ct, seq_ex, sNo_at, sBk_at, sCt_at, sEx_at, sRt_at, sIf_at, sSet_at, sOwn_at, sAug_at, sApp_at, sPut_at, sExt_at, sAsg_at, sPar_at, sFz_at, fz_at, sRs_at, sRef_at, eK_at, eVar_at, eVarB_at, eBin_at, eUn_at, eCh_at, eNo_at, eAn_at, eOu_at, eIf_at, tBl_at, tTru_at, tNo_at, tAn_at, tOu_at, tYe_at, aNil_at, aCons_at, eTup_at, eLst_at, aLst_at, eIx_at, pNo_at, pSo_at, eSl_at, eCall_at, aLc_at, eLc_at, wipe_nil, wipe_cons, iSeq_at, iRg1_at, iRg2_at, eLRg_at, eTRg_at, iEnu_at, aOfL_at, gNm_at, gsNo_nil, gsCo_cons, gTp_tup, sFor_at, seqD, dAdd, dMul, gI, dIs, dNot, dIsnt, dTru, dNeg, dInv, dIx, dSl, dLen, dAbs, dInt, dTup, dLst, List.map_cons, List.map_nil, List.cons_append, List.nil_append, List.length_cons, List.length_nil, List.getElem?_cons_zero, List.getElem?_cons_succ, List.set_cons_zero, List.set_cons_succ, Option.bind_some, Option.map_some, List.reduceReplicate, Nat.reduceAdd, Nat.reduceSub, ↓reduceIte, decide_eq_true_eq, Bool.false_eq_true, Bool.not_true, Bool.not_false, Nat.zero_add, true_and, if_false_right, wO_seq, seq_nx, check_table_ok h1 h2 ht, rows_ok h1 (by omega) hl hn hg]
    refine wO_forL (fun i ρ st' => st' = st ∧ ∃ a b c, ρ = [c, .vl (.tup (tb.map nD)), .vl (rowsN rows), a, b]) _ 0 _ _ ⟨rfl, _, _, _, rfl⟩ ?_ ?_
    · rintro ρ st' ⟨rfl, a, b, c, rfl⟩
      simp -implicitDefEqProofs only [wE_run, wE_ok, wE_exn, wE_stuck, wE_bind, wE_of, wE_ite, wE_iteB, wE_iteP, wP_some, wP_none, wP_ite, wP_iteP, wP_map, wP_bind, wO_out, wO_nx, wO_rt, wO_bk, wO_ct, wO_ex, wO_stuck, wO_iteB, wO_ite, seq_rt, seq_bk, seq_ct, seq_ex, sNo_at, sBk_at, sCt_at, sEx_at, sRt_at, sIf_at, sSet_at, sOwn_at, sAug_at, sApp_at, sPut_at, sExt_at, sAsg_at, sPar_at, sFz_at, fz_at, sRs_at, sRef_at, eK_at, eVar_at, eVarB_at, eBin_at, eUn_at, eCh_at, eNo_at, eAn_at, eOu_at, eIf_at, tBl_at, tTru_at, tNo_at, tAn_at, tOu_at, tYe_at, aNil_at, aCons_at, eTup_at, eLst_at, aLst_at, eIx_at, pNo_at, pSo_at, eSl_at, eCall_at, aLc_at, eLc_at, wipe_nil, wipe_cons, iSeq_at, iRg1_at, iRg2_at, eLRg_at, eTRg_at, iEnu_at, aOfL_at, gNm_at, gsNo_nil, gsCo_cons, gTp_tup, sFor_at, seqD, dAdd, dMul, gI, dIs, dNot, dIsnt, dTru, dNeg, dInv, dIx, dSl, dLen, dAbs, dInt, dTup, dLst, List.map_cons, List.map_nil, List.cons_append, List.nil_append, List.length_cons, List.length_nil, List.getElem?_cons_zero, List.getElem?_cons_succ, List.set_cons_zero, List.set_cons_succ, Option.bind_some, Option.map_some, List.reduceReplicate, Nat.reduceAdd, Nat.reduceSub, ↓reduceIte, decide_eq_true_eq, Bool.false_eq_true, Bool.not_true, Bool.not_false, Nat.zero_add, true_and, if_false_right, wO_seq, seq_nx]
    · rintro i d ρ st' hd ⟨rfl, a, b, c, rfl⟩
      obtain ⟨v, hv, rfl⟩ := enumD_at hd
      have hi : i < 2 ^ m := by rw [← ht.len]; exact (List.getElem?_eq_some_iff.mp hv).1
      have hv2 : v = firstsN rows i := by
        rw [he] at hv
        unfold tableN at hv
        rw [List.getElem?_map, List.getElem?_range hi] at hv
        exact (Option.some.inj hv).symm
      simp -implicitDefEqProofs only [wE_run, wE_ok, wE_exn, wE_stuck, wE_bind, wE_of, wE_ite, wE_iteB, wE_iteP, wP_some, wP_none, wP_ite, wP_iteP, wP_map, wP_bind, wO_out, wO_nx, wO_rt, wO_bk, wO_ct, wO_ex, wO_stuck, wO_iteB, wO_ite, seq_rt, seq_bk, seq_ct, seq_ex, sNo_at, sBk_at, sCt_at, sEx_at, sRt_at, sIf_at, sSet_at, sOwn_at, sAug_at, sApp_at, sPut_at, sExt_at, sAsg_at, sPar_at, sFz_at, fz_at, sRs_at, sRef_at, eK_at, eVar_at, eVarB_at, eBin_at, eUn_at, eCh_at, eNo_at, eAn_at, eOu_at, eIf_at, tBl_at, tTru_at, tNo_at, tAn_at, tOu_at, tYe_at, aNil_at, aCons_at, eTup_at, eLst_at, aLst_at, eIx_at, pNo_at, pSo_at, eSl_at, eCall_at, aLc_at, eLc_at, wipe_nil, wipe_cons, iSeq_at, iRg1_at, iRg2_at, eLRg_at, eTRg_at, iEnu_at, aOfL_at, gNm_at, gsNo_nil, gsCo_cons, gTp_tup, sFor_at, seqD, dAdd, dMul, gI, dIs, dNot, dIsnt, dTru, dNeg, dInv, dIx, dSl, dLen, dAbs, dInt, dTup, dLst, List.map_cons, List.map_nil, List.cons_append, List.nil_append, List.length_cons, List.length_nil, List.getElem?_cons_zero, List.getElem?_cons_succ, List.set_cons_zero, List.set_cons_succ, Option.bind_some, Option.map_some, List.reduceReplicate, Nat.reduceAdd, Nat.reduceSub, ↓reduceIte, decide_eq_true_eq, Bool.false_eq_true, Bool.not_true, Bool.not_false, Nat.zero_add, true_and, if_false_right, wO_seq, seq_nx, firsts_ok (hg.small (by omega)), dNeV_int, hv2]
      rw [if_neg (by simp)]
      exact ⟨_, _, _, rfl⟩
  · rw [if_neg he]
    obtain ⟨i0, hi0, hne⟩ : ∃ i, i < 2 ^ m ∧ tb[i]? ≠ some (firstsN rows i) := by
      refine Classical.byContradiction fun hc => he ?_
      refine List.ext_getElem? fun i => ?_
      by_cases hi : i < 2 ^ m
      · have := Classical.byContradiction fun hh => hc ⟨i, hi, hh⟩
        rw [this]
        unfold tableN
        rw [List.getElem?_map, List.getElem?_range hi]; rfl
      · rw [List.getElem?_eq_none (by rw [ht.len]; omega), List.getElem?_eq_none (by unfold tableN; rw [List.length_map, List.length_range]; omega)]
    refine wE_exeq ?_
    show wE (runB 5 (c_check_from_rows (callN (k + 2))) _ _) _ _
    simp -implicitDefEqProofs only [c_check_from_rows, wE_run, wE_ok, wE_exn, wE_stuck, wE_bind, wE_of, wE_ite, wE_iteB, wE_iteP, wP_some, wP_none, wP_ite, wP_iteP, wP_map, wP_bind, wO_out, wO_nx, wO_rt, wO_bk, wO_ct, wO_ex, wO_stuck, wO_iteB, wO_ite, seq_rt, seq_bk, seq_ct, seq_ex, sNo_at, sBk_at, sCt_at, sEx_at, sRt_at, sIf_at, sSet_at, sOwn_at, sAug_at, sApp_at, sPut_at, sExt_at, sAsg_at, sPar_at, sFz_at, fz_at, sRs_at, sRef_at, eK_at, eVar_at, eVarB_at, eBin_at, eUn_at, eCh_at, eNo_at, eAn_at, eOu_at, eIf_at, tBl_at, tTru_at, tNo_at, tAn_at, tOu_at, tYe_at, aNil_at, aCons_at, eTup_at, eLst_at, aLst_at, eIx_at, pNo_at, pSo_at, eSl_at, eCall_at, aLc_at, eLc_at, wipe_nil, wipe_cons, iSeq_at, iRg1_at, iRg2_at, eLRg_at, eTRg_at, iEnu_at, aOfL_at, gNm_at, gsNo_nil, gsCo_cons, gTp_tup, sFor_at, seqD, dAdd, dMul, gI, dIs, dNot, dIsnt, dTru, dNeg, dInv, dIx, dSl, dLen, dAbs, dInt, dTup, dLst, List.map_cons, List.map_nil, List.cons_append, List.nil_append, List.length_cons, List.length_nil, List.getElem?_cons_zero, List.getElem?_cons_succ, List.set_cons_zero, List.set_cons_succ, Option.bind_some, Option.map_some, List.reduceReplicate, Nat.reduceAdd, Nat.reduceSub, ↓reduceIte, decide_eq_true_eq, Bool.false_eq_true, Bool.not_true, Bool.not_false, Nat.zero_add, true_and, if_false_right, wO_seq, seq_nx, check_table_ok h1 h2 ht, rows_ok h1 (by omega) hl hn hg]
    refine wO_forL (fun i ρ st' => st' = st ∧ i ≤ i0 ∧ ∃ a b c, ρ = [c, .vl (.tup (tb.map nD)), .vl (rowsN rows), a, b]) _ 0 _ _ ⟨rfl, Nat.zero_le _, _, _, _, rfl⟩ ?_ ?_
    · rintro ρ st' ⟨rfl, hi, a, b, c, rfl⟩
      simp [enumD, ht.len] at hi
      omega
    · rintro i d ρ st' hd ⟨rfl, hi, a, b, c, rfl⟩
      obtain ⟨v, hv, rfl⟩ := enumD_at hd
      simp -implicitDefEqProofs only [wE_run, wE_ok, wE_exn, wE_stuck, wE_bind, wE_of, wE_ite, wE_iteB, wE_iteP, wP_some, wP_none, wP_ite, wP_iteP, wP_map, wP_bind, wO_out, wO_nx, wO_rt, wO_bk, wO_ct, wO_ex, wO_stuck, wO_iteB, wO_ite, seq_rt, seq_bk, seq_ct, seq_ex, sNo_at, sBk_at, sCt_at, sEx_at, sRt_at, sIf_at, sSet_at, sOwn_at, sAug_at, sApp_at, sPut_at, sExt_at, sAsg_at, sPar_at, sFz_at, fz_at, sRs_at, sRef_at, eK_at, eVar_at, eVarB_at, eBin_at, eUn_at, eCh_at, eNo_at, eAn_at, eOu_at, eIf_at, tBl_at, tTru_at, tNo_at, tAn_at, tOu_at, tYe_at, aNil_at, aCons_at, eTup_at, eLst_at, aLst_at, eIx_at, pNo_at, pSo_at, eSl_at, eCall_at, aLc_at, eLc_at, wipe_nil, wipe_cons, iSeq_at, iRg1_at, iRg2_at, eLRg_at, eTRg_at, iEnu_at, aOfL_at, gNm_at, gsNo_nil, gsCo_cons, gTp_tup, sFor_at, seqD, dAdd, dMul, gI, dIs, dNot, dIsnt, dTru, dNeg, dInv, dIx, dSl, dLen, dAbs, dInt, dTup, dLst, List.map_cons, List.map_nil, List.cons_append, List.nil_append, List.length_cons, List.length_nil, List.getElem?_cons_zero, List.getElem?_cons_succ, List.set_cons_zero, List.set_cons_succ, Option.bind_some, Option.map_some, List.reduceReplicate, Nat.reduceAdd, Nat.reduceSub, ↓reduceIte, decide_eq_true_eq, Bool.false_eq_true, Bool.not_true, Bool.not_false, Nat.zero_add, true_and, if_false_right, wO_seq, seq_nx, firsts_ok (hg.small (by omega)), dNeV_int]
      by_cases hvv : v = firstsN rows i
      · have hni : i ≠ i0 := fun z => by
          subst z
          exact hne (by rw [hv, hvv])
        rw [if_neg (by simp [hvv])]
        exact ⟨by omega, _, _, _, rfl⟩
      · rw [if_pos (by simp; omega)]
        trivial
theorem told0 {a b c v : D} (h : callN (k + 1) i_check_rows [a, b] st = .ok v st) : callN (k + 2) i__law_told [.int 0, a, b, c] st = .ok (.tup [.str "told", v]) st := by
  refine wE_eq ?_
  show wE (runB 5 (c__law_told (callN (k + 1))) _ _) _ _
  simp -implicitDefEqProofs only [c__law_told, wE_run, wE_ok, wE_exn, wE_stuck, wE_bind, wE_of, wE_ite, wE_iteB, wE_iteP, wP_some, wP_none, wP_ite, wP_iteP, wP_map, wP_bind, wO_out, wO_nx, wO_rt, wO_bk, wO_ct, wO_ex, wO_stuck, wO_iteB, wO_ite, seq_rt, seq_bk, seq_ct, seq_ex, sNo_at, sBk_at, sCt_at, sEx_at, sRt_at, sIf_at, sSet_at, sOwn_at, sAug_at, sApp_at, sPut_at, sExt_at, sAsg_at, sPar_at, sFz_at, fz_at, sRs_at, sRef_at, eK_at, eVar_at, eVarB_at, eBin_at, eUn_at, eCh_at, eNo_at, eAn_at, eOu_at, eIf_at, tBl_at, tTru_at, tNo_at, tAn_at, tOu_at, tYe_at, aNil_at, aCons_at, eTup_at, eLst_at, aLst_at, eIx_at, pNo_at, pSo_at, eSl_at, eCall_at, aLc_at, eLc_at, wipe_nil, wipe_cons, iSeq_at, iRg1_at, iRg2_at, eLRg_at, eTRg_at, iEnu_at, aOfL_at, gNm_at, gsNo_nil, gsCo_cons, gTp_tup, sFor_at, seqD, dAdd, dMul, gI, dIs, dNot, dIsnt, dTru, dNeg, dInv, dIx, dSl, dLen, dAbs, dInt, dTup, dLst, List.map_cons, List.map_nil, List.cons_append, List.nil_append, List.length_cons, List.length_nil, List.getElem?_cons_zero, List.getElem?_cons_succ, List.set_cons_zero, List.set_cons_succ, Option.bind_some, Option.map_some, List.reduceReplicate, Nat.reduceAdd, Nat.reduceSub, ↓reduceIte, decide_eq_true_eq, Bool.false_eq_true, Bool.not_true, Bool.not_false, Nat.zero_add, true_and, if_false_right, wO_seq, seq_nx]
  refine wO_try ?_
  simp -implicitDefEqProofs only [wE_run, wE_ok, wE_exn, wE_stuck, wE_bind, wE_of, wE_ite, wE_iteB, wE_iteP, wP_some, wP_none, wP_ite, wP_iteP, wP_map, wP_bind, wO_out, wO_nx, wO_rt, wO_bk, wO_ct, wO_ex, wO_stuck, wO_iteB, wO_ite, seq_rt, seq_bk, seq_ct, seq_ex, sNo_at, sBk_at, sCt_at, sEx_at, sRt_at, sIf_at, sSet_at, sOwn_at, sAug_at, sApp_at, sPut_at, sExt_at, sAsg_at, sPar_at, sFz_at, fz_at, sRs_at, sRef_at, eK_at, eVar_at, eVarB_at, eBin_at, eUn_at, eCh_at, eNo_at, eAn_at, eOu_at, eIf_at, tBl_at, tTru_at, tNo_at, tAn_at, tOu_at, tYe_at, aNil_at, aCons_at, eTup_at, eLst_at, aLst_at, eIx_at, pNo_at, pSo_at, eSl_at, eCall_at, aLc_at, eLc_at, wipe_nil, wipe_cons, iSeq_at, iRg1_at, iRg2_at, eLRg_at, eTRg_at, iEnu_at, aOfL_at, gNm_at, gsNo_nil, gsCo_cons, gTp_tup, sFor_at, seqD, dAdd, dMul, gI, dIs, dNot, dIsnt, dTru, dNeg, dInv, dIx, dSl, dLen, dAbs, dInt, dTup, dLst, List.map_cons, List.map_nil, List.cons_append, List.nil_append, List.length_cons, List.length_nil, List.getElem?_cons_zero, List.getElem?_cons_succ, List.set_cons_zero, List.set_cons_succ, Option.bind_some, Option.map_some, List.reduceReplicate, Nat.reduceAdd, Nat.reduceSub, ↓reduceIte, decide_eq_true_eq, Bool.false_eq_true, Bool.not_true, Bool.not_false, Nat.zero_add, true_and, if_false_right, wO_seq, seq_nx, dEqV_int, Int.reduceBEq, h]
  exact ⟨lenOk_small (by omega), by simp⟩
theorem told0x {a b c : D} {e : Nat} {w : Str} (h : callN (k + 1) i_check_rows [a, b] st = .exn ⟨e, none⟩ st) (hw : wordsE e = some w) : callN (k + 2) i__law_told [.int 0, a, b, c] st = .ok (.str w) st := by
  refine wE_eq ?_
  show wE (runB 5 (c__law_told (callN (k + 1))) _ _) _ _
  simp -implicitDefEqProofs only [c__law_told, wE_run, wE_ok, wE_exn, wE_stuck, wE_bind, wE_of, wE_ite, wE_iteB, wE_iteP, wP_some, wP_none, wP_ite, wP_iteP, wP_map, wP_bind, wO_out, wO_nx, wO_rt, wO_bk, wO_ct, wO_ex, wO_stuck, wO_iteB, wO_ite, seq_rt, seq_bk, seq_ct, seq_ex, sNo_at, sBk_at, sCt_at, sEx_at, sRt_at, sIf_at, sSet_at, sOwn_at, sAug_at, sApp_at, sPut_at, sExt_at, sAsg_at, sPar_at, sFz_at, fz_at, sRs_at, sRef_at, eK_at, eVar_at, eVarB_at, eBin_at, eUn_at, eCh_at, eNo_at, eAn_at, eOu_at, eIf_at, tBl_at, tTru_at, tNo_at, tAn_at, tOu_at, tYe_at, aNil_at, aCons_at, eTup_at, eLst_at, aLst_at, eIx_at, pNo_at, pSo_at, eSl_at, eCall_at, aLc_at, eLc_at, wipe_nil, wipe_cons, iSeq_at, iRg1_at, iRg2_at, eLRg_at, eTRg_at, iEnu_at, aOfL_at, gNm_at, gsNo_nil, gsCo_cons, gTp_tup, sFor_at, seqD, dAdd, dMul, gI, dIs, dNot, dIsnt, dTru, dNeg, dInv, dIx, dSl, dLen, dAbs, dInt, dTup, dLst, List.map_cons, List.map_nil, List.cons_append, List.nil_append, List.length_cons, List.length_nil, List.getElem?_cons_zero, List.getElem?_cons_succ, List.set_cons_zero, List.set_cons_succ, Option.bind_some, Option.map_some, List.reduceReplicate, Nat.reduceAdd, Nat.reduceSub, ↓reduceIte, decide_eq_true_eq, Bool.false_eq_true, Bool.not_true, Bool.not_false, Nat.zero_add, true_and, if_false_right, wO_seq, seq_nx]
  refine wO_try ?_
  simp -implicitDefEqProofs only [wE_run, wE_ok, wE_exn, wE_stuck, wE_bind, wE_of, wE_ite, wE_iteB, wE_iteP, wP_some, wP_none, wP_ite, wP_iteP, wP_map, wP_bind, wO_out, wO_nx, wO_rt, wO_bk, wO_ct, wO_ex, wO_stuck, wO_iteB, wO_ite, seq_rt, seq_bk, seq_ct, seq_ex, sNo_at, sBk_at, sCt_at, sEx_at, sRt_at, sIf_at, sSet_at, sOwn_at, sAug_at, sApp_at, sPut_at, sExt_at, sAsg_at, sPar_at, sFz_at, fz_at, sRs_at, sRef_at, eK_at, eVar_at, eVarB_at, eBin_at, eUn_at, eCh_at, eNo_at, eAn_at, eOu_at, eIf_at, tBl_at, tTru_at, tNo_at, tAn_at, tOu_at, tYe_at, aNil_at, aCons_at, eTup_at, eLst_at, aLst_at, eIx_at, pNo_at, pSo_at, eSl_at, eCall_at, aLc_at, eLc_at, wipe_nil, wipe_cons, iSeq_at, iRg1_at, iRg2_at, eLRg_at, eTRg_at, iEnu_at, aOfL_at, gNm_at, gsNo_nil, gsCo_cons, gTp_tup, sFor_at, seqD, dAdd, dMul, gI, dIs, dNot, dIsnt, dTru, dNeg, dInv, dIx, dSl, dLen, dAbs, dInt, dTup, dLst, List.map_cons, List.map_nil, List.cons_append, List.nil_append, List.length_cons, List.length_nil, List.getElem?_cons_zero, List.getElem?_cons_succ, List.set_cons_zero, List.set_cons_succ, Option.bind_some, Option.map_some, List.reduceReplicate, Nat.reduceAdd, Nat.reduceSub, ↓reduceIte, decide_eq_true_eq, Bool.false_eq_true, Bool.not_true, Bool.not_false, Nat.zero_add, true_and, if_false_right, wO_seq, seq_nx, dEqV_int, Int.reduceBEq, h]
  exact ⟨by decide, w, by rw [show wsOf (callN (k + 1) i__law_error) = wordsE from wsOf_err]; exact hw, rfl, trivial⟩
theorem told1 {a b c v : D} (h : callN (k + 1) i_table_of_rows [a, b] st = .ok v st) : callN (k + 2) i__law_told [.int 1, a, b, c] st = .ok (.tup [.str "told", v]) st := by
  refine wE_eq ?_
  show wE (runB 5 (c__law_told (callN (k + 1))) _ _) _ _
  simp -implicitDefEqProofs only [c__law_told, wE_run, wE_ok, wE_exn, wE_stuck, wE_bind, wE_of, wE_ite, wE_iteB, wE_iteP, wP_some, wP_none, wP_ite, wP_iteP, wP_map, wP_bind, wO_out, wO_nx, wO_rt, wO_bk, wO_ct, wO_ex, wO_stuck, wO_iteB, wO_ite, seq_rt, seq_bk, seq_ct, seq_ex, sNo_at, sBk_at, sCt_at, sEx_at, sRt_at, sIf_at, sSet_at, sOwn_at, sAug_at, sApp_at, sPut_at, sExt_at, sAsg_at, sPar_at, sFz_at, fz_at, sRs_at, sRef_at, eK_at, eVar_at, eVarB_at, eBin_at, eUn_at, eCh_at, eNo_at, eAn_at, eOu_at, eIf_at, tBl_at, tTru_at, tNo_at, tAn_at, tOu_at, tYe_at, aNil_at, aCons_at, eTup_at, eLst_at, aLst_at, eIx_at, pNo_at, pSo_at, eSl_at, eCall_at, aLc_at, eLc_at, wipe_nil, wipe_cons, iSeq_at, iRg1_at, iRg2_at, eLRg_at, eTRg_at, iEnu_at, aOfL_at, gNm_at, gsNo_nil, gsCo_cons, gTp_tup, sFor_at, seqD, dAdd, dMul, gI, dIs, dNot, dIsnt, dTru, dNeg, dInv, dIx, dSl, dLen, dAbs, dInt, dTup, dLst, List.map_cons, List.map_nil, List.cons_append, List.nil_append, List.length_cons, List.length_nil, List.getElem?_cons_zero, List.getElem?_cons_succ, List.set_cons_zero, List.set_cons_succ, Option.bind_some, Option.map_some, List.reduceReplicate, Nat.reduceAdd, Nat.reduceSub, ↓reduceIte, decide_eq_true_eq, Bool.false_eq_true, Bool.not_true, Bool.not_false, Nat.zero_add, true_and, if_false_right, wO_seq, seq_nx]
  refine wO_try ?_
  simp -implicitDefEqProofs only [wE_run, wE_ok, wE_exn, wE_stuck, wE_bind, wE_of, wE_ite, wE_iteB, wE_iteP, wP_some, wP_none, wP_ite, wP_iteP, wP_map, wP_bind, wO_out, wO_nx, wO_rt, wO_bk, wO_ct, wO_ex, wO_stuck, wO_iteB, wO_ite, seq_rt, seq_bk, seq_ct, seq_ex, sNo_at, sBk_at, sCt_at, sEx_at, sRt_at, sIf_at, sSet_at, sOwn_at, sAug_at, sApp_at, sPut_at, sExt_at, sAsg_at, sPar_at, sFz_at, fz_at, sRs_at, sRef_at, eK_at, eVar_at, eVarB_at, eBin_at, eUn_at, eCh_at, eNo_at, eAn_at, eOu_at, eIf_at, tBl_at, tTru_at, tNo_at, tAn_at, tOu_at, tYe_at, aNil_at, aCons_at, eTup_at, eLst_at, aLst_at, eIx_at, pNo_at, pSo_at, eSl_at, eCall_at, aLc_at, eLc_at, wipe_nil, wipe_cons, iSeq_at, iRg1_at, iRg2_at, eLRg_at, eTRg_at, iEnu_at, aOfL_at, gNm_at, gsNo_nil, gsCo_cons, gTp_tup, sFor_at, seqD, dAdd, dMul, gI, dIs, dNot, dIsnt, dTru, dNeg, dInv, dIx, dSl, dLen, dAbs, dInt, dTup, dLst, List.map_cons, List.map_nil, List.cons_append, List.nil_append, List.length_cons, List.length_nil, List.getElem?_cons_zero, List.getElem?_cons_succ, List.set_cons_zero, List.set_cons_succ, Option.bind_some, Option.map_some, List.reduceReplicate, Nat.reduceAdd, Nat.reduceSub, ↓reduceIte, decide_eq_true_eq, Bool.false_eq_true, Bool.not_true, Bool.not_false, Nat.zero_add, true_and, if_false_right, wO_seq, seq_nx, dEqV_int, Int.reduceBEq, h]
  exact ⟨lenOk_small (by omega), by simp⟩
theorem told1x {a b c : D} {e : Nat} {w : Str} (h : callN (k + 1) i_table_of_rows [a, b] st = .exn ⟨e, none⟩ st) (hw : wordsE e = some w) : callN (k + 2) i__law_told [.int 1, a, b, c] st = .ok (.str w) st := by
  refine wE_eq ?_
  show wE (runB 5 (c__law_told (callN (k + 1))) _ _) _ _
  simp -implicitDefEqProofs only [c__law_told, wE_run, wE_ok, wE_exn, wE_stuck, wE_bind, wE_of, wE_ite, wE_iteB, wE_iteP, wP_some, wP_none, wP_ite, wP_iteP, wP_map, wP_bind, wO_out, wO_nx, wO_rt, wO_bk, wO_ct, wO_ex, wO_stuck, wO_iteB, wO_ite, seq_rt, seq_bk, seq_ct, seq_ex, sNo_at, sBk_at, sCt_at, sEx_at, sRt_at, sIf_at, sSet_at, sOwn_at, sAug_at, sApp_at, sPut_at, sExt_at, sAsg_at, sPar_at, sFz_at, fz_at, sRs_at, sRef_at, eK_at, eVar_at, eVarB_at, eBin_at, eUn_at, eCh_at, eNo_at, eAn_at, eOu_at, eIf_at, tBl_at, tTru_at, tNo_at, tAn_at, tOu_at, tYe_at, aNil_at, aCons_at, eTup_at, eLst_at, aLst_at, eIx_at, pNo_at, pSo_at, eSl_at, eCall_at, aLc_at, eLc_at, wipe_nil, wipe_cons, iSeq_at, iRg1_at, iRg2_at, eLRg_at, eTRg_at, iEnu_at, aOfL_at, gNm_at, gsNo_nil, gsCo_cons, gTp_tup, sFor_at, seqD, dAdd, dMul, gI, dIs, dNot, dIsnt, dTru, dNeg, dInv, dIx, dSl, dLen, dAbs, dInt, dTup, dLst, List.map_cons, List.map_nil, List.cons_append, List.nil_append, List.length_cons, List.length_nil, List.getElem?_cons_zero, List.getElem?_cons_succ, List.set_cons_zero, List.set_cons_succ, Option.bind_some, Option.map_some, List.reduceReplicate, Nat.reduceAdd, Nat.reduceSub, ↓reduceIte, decide_eq_true_eq, Bool.false_eq_true, Bool.not_true, Bool.not_false, Nat.zero_add, true_and, if_false_right, wO_seq, seq_nx]
  refine wO_try ?_
  simp -implicitDefEqProofs only [wE_run, wE_ok, wE_exn, wE_stuck, wE_bind, wE_of, wE_ite, wE_iteB, wE_iteP, wP_some, wP_none, wP_ite, wP_iteP, wP_map, wP_bind, wO_out, wO_nx, wO_rt, wO_bk, wO_ct, wO_ex, wO_stuck, wO_iteB, wO_ite, seq_rt, seq_bk, seq_ct, seq_ex, sNo_at, sBk_at, sCt_at, sEx_at, sRt_at, sIf_at, sSet_at, sOwn_at, sAug_at, sApp_at, sPut_at, sExt_at, sAsg_at, sPar_at, sFz_at, fz_at, sRs_at, sRef_at, eK_at, eVar_at, eVarB_at, eBin_at, eUn_at, eCh_at, eNo_at, eAn_at, eOu_at, eIf_at, tBl_at, tTru_at, tNo_at, tAn_at, tOu_at, tYe_at, aNil_at, aCons_at, eTup_at, eLst_at, aLst_at, eIx_at, pNo_at, pSo_at, eSl_at, eCall_at, aLc_at, eLc_at, wipe_nil, wipe_cons, iSeq_at, iRg1_at, iRg2_at, eLRg_at, eTRg_at, iEnu_at, aOfL_at, gNm_at, gsNo_nil, gsCo_cons, gTp_tup, sFor_at, seqD, dAdd, dMul, gI, dIs, dNot, dIsnt, dTru, dNeg, dInv, dIx, dSl, dLen, dAbs, dInt, dTup, dLst, List.map_cons, List.map_nil, List.cons_append, List.nil_append, List.length_cons, List.length_nil, List.getElem?_cons_zero, List.getElem?_cons_succ, List.set_cons_zero, List.set_cons_succ, Option.bind_some, Option.map_some, List.reduceReplicate, Nat.reduceAdd, Nat.reduceSub, ↓reduceIte, decide_eq_true_eq, Bool.false_eq_true, Bool.not_true, Bool.not_false, Nat.zero_add, true_and, if_false_right, wO_seq, seq_nx, dEqV_int, Int.reduceBEq, h]
  exact ⟨by decide, w, by rw [show wsOf (callN (k + 1) i__law_error) = wordsE from wsOf_err]; exact hw, rfl, trivial⟩
theorem told2 {a b c v : D} (h : callN (k + 1) i_first_in_rows [a, b, c] st = .ok v st) : callN (k + 2) i__law_told [.int 2, a, b, c] st = .ok (.tup [.str "told", v]) st := by
  refine wE_eq ?_
  show wE (runB 5 (c__law_told (callN (k + 1))) _ _) _ _
  simp -implicitDefEqProofs only [c__law_told, wE_run, wE_ok, wE_exn, wE_stuck, wE_bind, wE_of, wE_ite, wE_iteB, wE_iteP, wP_some, wP_none, wP_ite, wP_iteP, wP_map, wP_bind, wO_out, wO_nx, wO_rt, wO_bk, wO_ct, wO_ex, wO_stuck, wO_iteB, wO_ite, seq_rt, seq_bk, seq_ct, seq_ex, sNo_at, sBk_at, sCt_at, sEx_at, sRt_at, sIf_at, sSet_at, sOwn_at, sAug_at, sApp_at, sPut_at, sExt_at, sAsg_at, sPar_at, sFz_at, fz_at, sRs_at, sRef_at, eK_at, eVar_at, eVarB_at, eBin_at, eUn_at, eCh_at, eNo_at, eAn_at, eOu_at, eIf_at, tBl_at, tTru_at, tNo_at, tAn_at, tOu_at, tYe_at, aNil_at, aCons_at, eTup_at, eLst_at, aLst_at, eIx_at, pNo_at, pSo_at, eSl_at, eCall_at, aLc_at, eLc_at, wipe_nil, wipe_cons, iSeq_at, iRg1_at, iRg2_at, eLRg_at, eTRg_at, iEnu_at, aOfL_at, gNm_at, gsNo_nil, gsCo_cons, gTp_tup, sFor_at, seqD, dAdd, dMul, gI, dIs, dNot, dIsnt, dTru, dNeg, dInv, dIx, dSl, dLen, dAbs, dInt, dTup, dLst, List.map_cons, List.map_nil, List.cons_append, List.nil_append, List.length_cons, List.length_nil, List.getElem?_cons_zero, List.getElem?_cons_succ, List.set_cons_zero, List.set_cons_succ, Option.bind_some, Option.map_some, List.reduceReplicate, Nat.reduceAdd, Nat.reduceSub, ↓reduceIte, decide_eq_true_eq, Bool.false_eq_true, Bool.not_true, Bool.not_false, Nat.zero_add, true_and, if_false_right, wO_seq, seq_nx]
  refine wO_try ?_
  simp -implicitDefEqProofs only [wE_run, wE_ok, wE_exn, wE_stuck, wE_bind, wE_of, wE_ite, wE_iteB, wE_iteP, wP_some, wP_none, wP_ite, wP_iteP, wP_map, wP_bind, wO_out, wO_nx, wO_rt, wO_bk, wO_ct, wO_ex, wO_stuck, wO_iteB, wO_ite, seq_rt, seq_bk, seq_ct, seq_ex, sNo_at, sBk_at, sCt_at, sEx_at, sRt_at, sIf_at, sSet_at, sOwn_at, sAug_at, sApp_at, sPut_at, sExt_at, sAsg_at, sPar_at, sFz_at, fz_at, sRs_at, sRef_at, eK_at, eVar_at, eVarB_at, eBin_at, eUn_at, eCh_at, eNo_at, eAn_at, eOu_at, eIf_at, tBl_at, tTru_at, tNo_at, tAn_at, tOu_at, tYe_at, aNil_at, aCons_at, eTup_at, eLst_at, aLst_at, eIx_at, pNo_at, pSo_at, eSl_at, eCall_at, aLc_at, eLc_at, wipe_nil, wipe_cons, iSeq_at, iRg1_at, iRg2_at, eLRg_at, eTRg_at, iEnu_at, aOfL_at, gNm_at, gsNo_nil, gsCo_cons, gTp_tup, sFor_at, seqD, dAdd, dMul, gI, dIs, dNot, dIsnt, dTru, dNeg, dInv, dIx, dSl, dLen, dAbs, dInt, dTup, dLst, List.map_cons, List.map_nil, List.cons_append, List.nil_append, List.length_cons, List.length_nil, List.getElem?_cons_zero, List.getElem?_cons_succ, List.set_cons_zero, List.set_cons_succ, Option.bind_some, Option.map_some, List.reduceReplicate, Nat.reduceAdd, Nat.reduceSub, ↓reduceIte, decide_eq_true_eq, Bool.false_eq_true, Bool.not_true, Bool.not_false, Nat.zero_add, true_and, if_false_right, wO_seq, seq_nx, dEqV_int, Int.reduceBEq, h]
  exact ⟨lenOk_small (by omega), by simp⟩
theorem told2x {a b c : D} {e : Nat} {w : Str} (h : callN (k + 1) i_first_in_rows [a, b, c] st = .exn ⟨e, none⟩ st) (hw : wordsE e = some w) : callN (k + 2) i__law_told [.int 2, a, b, c] st = .ok (.str w) st := by
  refine wE_eq ?_
  show wE (runB 5 (c__law_told (callN (k + 1))) _ _) _ _
  simp -implicitDefEqProofs only [c__law_told, wE_run, wE_ok, wE_exn, wE_stuck, wE_bind, wE_of, wE_ite, wE_iteB, wE_iteP, wP_some, wP_none, wP_ite, wP_iteP, wP_map, wP_bind, wO_out, wO_nx, wO_rt, wO_bk, wO_ct, wO_ex, wO_stuck, wO_iteB, wO_ite, seq_rt, seq_bk, seq_ct, seq_ex, sNo_at, sBk_at, sCt_at, sEx_at, sRt_at, sIf_at, sSet_at, sOwn_at, sAug_at, sApp_at, sPut_at, sExt_at, sAsg_at, sPar_at, sFz_at, fz_at, sRs_at, sRef_at, eK_at, eVar_at, eVarB_at, eBin_at, eUn_at, eCh_at, eNo_at, eAn_at, eOu_at, eIf_at, tBl_at, tTru_at, tNo_at, tAn_at, tOu_at, tYe_at, aNil_at, aCons_at, eTup_at, eLst_at, aLst_at, eIx_at, pNo_at, pSo_at, eSl_at, eCall_at, aLc_at, eLc_at, wipe_nil, wipe_cons, iSeq_at, iRg1_at, iRg2_at, eLRg_at, eTRg_at, iEnu_at, aOfL_at, gNm_at, gsNo_nil, gsCo_cons, gTp_tup, sFor_at, seqD, dAdd, dMul, gI, dIs, dNot, dIsnt, dTru, dNeg, dInv, dIx, dSl, dLen, dAbs, dInt, dTup, dLst, List.map_cons, List.map_nil, List.cons_append, List.nil_append, List.length_cons, List.length_nil, List.getElem?_cons_zero, List.getElem?_cons_succ, List.set_cons_zero, List.set_cons_succ, Option.bind_some, Option.map_some, List.reduceReplicate, Nat.reduceAdd, Nat.reduceSub, ↓reduceIte, decide_eq_true_eq, Bool.false_eq_true, Bool.not_true, Bool.not_false, Nat.zero_add, true_and, if_false_right, wO_seq, seq_nx]
  refine wO_try ?_
  simp -implicitDefEqProofs only [wE_run, wE_ok, wE_exn, wE_stuck, wE_bind, wE_of, wE_ite, wE_iteB, wE_iteP, wP_some, wP_none, wP_ite, wP_iteP, wP_map, wP_bind, wO_out, wO_nx, wO_rt, wO_bk, wO_ct, wO_ex, wO_stuck, wO_iteB, wO_ite, seq_rt, seq_bk, seq_ct, seq_ex, sNo_at, sBk_at, sCt_at, sEx_at, sRt_at, sIf_at, sSet_at, sOwn_at, sAug_at, sApp_at, sPut_at, sExt_at, sAsg_at, sPar_at, sFz_at, fz_at, sRs_at, sRef_at, eK_at, eVar_at, eVarB_at, eBin_at, eUn_at, eCh_at, eNo_at, eAn_at, eOu_at, eIf_at, tBl_at, tTru_at, tNo_at, tAn_at, tOu_at, tYe_at, aNil_at, aCons_at, eTup_at, eLst_at, aLst_at, eIx_at, pNo_at, pSo_at, eSl_at, eCall_at, aLc_at, eLc_at, wipe_nil, wipe_cons, iSeq_at, iRg1_at, iRg2_at, eLRg_at, eTRg_at, iEnu_at, aOfL_at, gNm_at, gsNo_nil, gsCo_cons, gTp_tup, sFor_at, seqD, dAdd, dMul, gI, dIs, dNot, dIsnt, dTru, dNeg, dInv, dIx, dSl, dLen, dAbs, dInt, dTup, dLst, List.map_cons, List.map_nil, List.cons_append, List.nil_append, List.length_cons, List.length_nil, List.getElem?_cons_zero, List.getElem?_cons_succ, List.set_cons_zero, List.set_cons_succ, Option.bind_some, Option.map_some, List.reduceReplicate, Nat.reduceAdd, Nat.reduceSub, ↓reduceIte, decide_eq_true_eq, Bool.false_eq_true, Bool.not_true, Bool.not_false, Nat.zero_add, true_and, if_false_right, wO_seq, seq_nx, dEqV_int, Int.reduceBEq, h]
  exact ⟨by decide, w, by rw [show wsOf (callN (k + 1) i__law_error) = wordsE from wsOf_err]; exact hw, rfl, trivial⟩
theorem told3 {a b c v : D} (h : callN (k + 1) i_check_from_rows [a, c, b] st = .ok v st) : callN (k + 2) i__law_told [.int 3, a, b, c] st = .ok (.tup [.str "told", v]) st := by
  refine wE_eq ?_
  show wE (runB 5 (c__law_told (callN (k + 1))) _ _) _ _
  simp -implicitDefEqProofs only [c__law_told, wE_run, wE_ok, wE_exn, wE_stuck, wE_bind, wE_of, wE_ite, wE_iteB, wE_iteP, wP_some, wP_none, wP_ite, wP_iteP, wP_map, wP_bind, wO_out, wO_nx, wO_rt, wO_bk, wO_ct, wO_ex, wO_stuck, wO_iteB, wO_ite, seq_rt, seq_bk, seq_ct, seq_ex, sNo_at, sBk_at, sCt_at, sEx_at, sRt_at, sIf_at, sSet_at, sOwn_at, sAug_at, sApp_at, sPut_at, sExt_at, sAsg_at, sPar_at, sFz_at, fz_at, sRs_at, sRef_at, eK_at, eVar_at, eVarB_at, eBin_at, eUn_at, eCh_at, eNo_at, eAn_at, eOu_at, eIf_at, tBl_at, tTru_at, tNo_at, tAn_at, tOu_at, tYe_at, aNil_at, aCons_at, eTup_at, eLst_at, aLst_at, eIx_at, pNo_at, pSo_at, eSl_at, eCall_at, aLc_at, eLc_at, wipe_nil, wipe_cons, iSeq_at, iRg1_at, iRg2_at, eLRg_at, eTRg_at, iEnu_at, aOfL_at, gNm_at, gsNo_nil, gsCo_cons, gTp_tup, sFor_at, seqD, dAdd, dMul, gI, dIs, dNot, dIsnt, dTru, dNeg, dInv, dIx, dSl, dLen, dAbs, dInt, dTup, dLst, List.map_cons, List.map_nil, List.cons_append, List.nil_append, List.length_cons, List.length_nil, List.getElem?_cons_zero, List.getElem?_cons_succ, List.set_cons_zero, List.set_cons_succ, Option.bind_some, Option.map_some, List.reduceReplicate, Nat.reduceAdd, Nat.reduceSub, ↓reduceIte, decide_eq_true_eq, Bool.false_eq_true, Bool.not_true, Bool.not_false, Nat.zero_add, true_and, if_false_right, wO_seq, seq_nx]
  refine wO_try ?_
  simp -implicitDefEqProofs only [wE_run, wE_ok, wE_exn, wE_stuck, wE_bind, wE_of, wE_ite, wE_iteB, wE_iteP, wP_some, wP_none, wP_ite, wP_iteP, wP_map, wP_bind, wO_out, wO_nx, wO_rt, wO_bk, wO_ct, wO_ex, wO_stuck, wO_iteB, wO_ite, seq_rt, seq_bk, seq_ct, seq_ex, sNo_at, sBk_at, sCt_at, sEx_at, sRt_at, sIf_at, sSet_at, sOwn_at, sAug_at, sApp_at, sPut_at, sExt_at, sAsg_at, sPar_at, sFz_at, fz_at, sRs_at, sRef_at, eK_at, eVar_at, eVarB_at, eBin_at, eUn_at, eCh_at, eNo_at, eAn_at, eOu_at, eIf_at, tBl_at, tTru_at, tNo_at, tAn_at, tOu_at, tYe_at, aNil_at, aCons_at, eTup_at, eLst_at, aLst_at, eIx_at, pNo_at, pSo_at, eSl_at, eCall_at, aLc_at, eLc_at, wipe_nil, wipe_cons, iSeq_at, iRg1_at, iRg2_at, eLRg_at, eTRg_at, iEnu_at, aOfL_at, gNm_at, gsNo_nil, gsCo_cons, gTp_tup, sFor_at, seqD, dAdd, dMul, gI, dIs, dNot, dIsnt, dTru, dNeg, dInv, dIx, dSl, dLen, dAbs, dInt, dTup, dLst, List.map_cons, List.map_nil, List.cons_append, List.nil_append, List.length_cons, List.length_nil, List.getElem?_cons_zero, List.getElem?_cons_succ, List.set_cons_zero, List.set_cons_succ, Option.bind_some, Option.map_some, List.reduceReplicate, Nat.reduceAdd, Nat.reduceSub, ↓reduceIte, decide_eq_true_eq, Bool.false_eq_true, Bool.not_true, Bool.not_false, Nat.zero_add, true_and, if_false_right, wO_seq, seq_nx, dEqV_int, Int.reduceBEq, h]
  exact ⟨lenOk_small (by omega), by simp⟩
theorem told3x {a b c : D} {e : Nat} {w : Str} (h : callN (k + 1) i_check_from_rows [a, c, b] st = .exn ⟨e, none⟩ st) (hw : wordsE e = some w) : callN (k + 2) i__law_told [.int 3, a, b, c] st = .ok (.str w) st := by
  refine wE_eq ?_
  show wE (runB 5 (c__law_told (callN (k + 1))) _ _) _ _
  simp -implicitDefEqProofs only [c__law_told, wE_run, wE_ok, wE_exn, wE_stuck, wE_bind, wE_of, wE_ite, wE_iteB, wE_iteP, wP_some, wP_none, wP_ite, wP_iteP, wP_map, wP_bind, wO_out, wO_nx, wO_rt, wO_bk, wO_ct, wO_ex, wO_stuck, wO_iteB, wO_ite, seq_rt, seq_bk, seq_ct, seq_ex, sNo_at, sBk_at, sCt_at, sEx_at, sRt_at, sIf_at, sSet_at, sOwn_at, sAug_at, sApp_at, sPut_at, sExt_at, sAsg_at, sPar_at, sFz_at, fz_at, sRs_at, sRef_at, eK_at, eVar_at, eVarB_at, eBin_at, eUn_at, eCh_at, eNo_at, eAn_at, eOu_at, eIf_at, tBl_at, tTru_at, tNo_at, tAn_at, tOu_at, tYe_at, aNil_at, aCons_at, eTup_at, eLst_at, aLst_at, eIx_at, pNo_at, pSo_at, eSl_at, eCall_at, aLc_at, eLc_at, wipe_nil, wipe_cons, iSeq_at, iRg1_at, iRg2_at, eLRg_at, eTRg_at, iEnu_at, aOfL_at, gNm_at, gsNo_nil, gsCo_cons, gTp_tup, sFor_at, seqD, dAdd, dMul, gI, dIs, dNot, dIsnt, dTru, dNeg, dInv, dIx, dSl, dLen, dAbs, dInt, dTup, dLst, List.map_cons, List.map_nil, List.cons_append, List.nil_append, List.length_cons, List.length_nil, List.getElem?_cons_zero, List.getElem?_cons_succ, List.set_cons_zero, List.set_cons_succ, Option.bind_some, Option.map_some, List.reduceReplicate, Nat.reduceAdd, Nat.reduceSub, ↓reduceIte, decide_eq_true_eq, Bool.false_eq_true, Bool.not_true, Bool.not_false, Nat.zero_add, true_and, if_false_right, wO_seq, seq_nx]
  refine wO_try ?_
  simp -implicitDefEqProofs only [wE_run, wE_ok, wE_exn, wE_stuck, wE_bind, wE_of, wE_ite, wE_iteB, wE_iteP, wP_some, wP_none, wP_ite, wP_iteP, wP_map, wP_bind, wO_out, wO_nx, wO_rt, wO_bk, wO_ct, wO_ex, wO_stuck, wO_iteB, wO_ite, seq_rt, seq_bk, seq_ct, seq_ex, sNo_at, sBk_at, sCt_at, sEx_at, sRt_at, sIf_at, sSet_at, sOwn_at, sAug_at, sApp_at, sPut_at, sExt_at, sAsg_at, sPar_at, sFz_at, fz_at, sRs_at, sRef_at, eK_at, eVar_at, eVarB_at, eBin_at, eUn_at, eCh_at, eNo_at, eAn_at, eOu_at, eIf_at, tBl_at, tTru_at, tNo_at, tAn_at, tOu_at, tYe_at, aNil_at, aCons_at, eTup_at, eLst_at, aLst_at, eIx_at, pNo_at, pSo_at, eSl_at, eCall_at, aLc_at, eLc_at, wipe_nil, wipe_cons, iSeq_at, iRg1_at, iRg2_at, eLRg_at, eTRg_at, iEnu_at, aOfL_at, gNm_at, gsNo_nil, gsCo_cons, gTp_tup, sFor_at, seqD, dAdd, dMul, gI, dIs, dNot, dIsnt, dTru, dNeg, dInv, dIx, dSl, dLen, dAbs, dInt, dTup, dLst, List.map_cons, List.map_nil, List.cons_append, List.nil_append, List.length_cons, List.length_nil, List.getElem?_cons_zero, List.getElem?_cons_succ, List.set_cons_zero, List.set_cons_succ, Option.bind_some, Option.map_some, List.reduceReplicate, Nat.reduceAdd, Nat.reduceSub, ↓reduceIte, decide_eq_true_eq, Bool.false_eq_true, Bool.not_true, Bool.not_false, Nat.zero_add, true_and, if_false_right, wO_seq, seq_nx, dEqV_int, Int.reduceBEq, h]
  exact ⟨by decide, w, by rw [show wsOf (callN (k + 1) i__law_error) = wordsE from wsOf_err]; exact hw, rfl, trivial⟩
/-! ### what the law asks of the defs -/
theorem next_eq {xs : List Int} (hx : Str0 xs) {c m : Int} (h0 : 0 ≤ c) (h1 : c ≤ 1000000000) (hm : 0 < m) : callN (k + 1) i__law_next [.ref 0, .int m] (Sst xs c) = .ok (.int (nxI xs (c + 1) % m)) (Sst xs (c + 1)) := next_ok hx h0 h1 hm
theorem mixed_ok {xs : List Int} (hx : Str0 xs) {c : Int} (h0 : 0 ≤ c) (h1 : c ≤ 1000000) {row : List Nat} (hl : row.length ≤ 100) (hl1 : 1 ≤ row.length) :
    ∃ (row' : List Nat) (c' : Int), callN (k + 2) i__law_mixed [.ref 0, .lst (row.map nD)] (Sst xs c) = .ok (rowN row') (Sst xs c') ∧ row'.Perm row ∧ 0 ≤ c' ∧ c' ≤ c + row.length := by
  have key : wE (callN (k + 2) i__law_mixed [.ref 0, .lst (row.map nD)] (Sst xs c)) (fun d st' => ∃ (row' : List Nat) (c' : Int), d = rowN row' ∧ st' = Sst xs c' ∧ row'.Perm row ∧ 0 ≤ c' ∧ c' ≤ c + row.length) fun _ _ => False := by
    have hnx : ∀ c m : Int, 0 ≤ c → c ≤ 2000000 → 0 < m → callN (k + 1) i__law_next [.ref 0, .int m] (Sst xs c) = .ok (.int (nxI xs (c + 1) % m)) (Sst xs (c + 1)) := fun c m h0 h1 h2 => next_eq hx h0 (by omega) h2
    show wE (runB 5 (c__law_mixed (callN (k + 1))) _ _) _ _
    simp -implicitDefEqProofs only [c__law_mixed, wE_run, wE_ok, wE_exn, wE_stuck, wE_bind, wE_of, wE_ite, wE_iteB, wE_iteP, wP_some, wP_none, wP_ite, wP_iteP, wP_map, wP_bind, wO_out, wO_nx, wO_rt, wO_bk, wO_ct, wO_ex, wO_stuck, wO_iteB, wO_ite, seq_rt, seq_bk, seq_ct, seq_ex, sNo_at, sBk_at, sCt_at, sEx_at, sRt_at, sIf_at, sSet_at, sOwn_at, sAug_at, sApp_at, sPut_at, sExt_at, sAsg_at, sPar_at, sFz_at, fz_at, sRs_at, sRef_at, eK_at, eVar_at, eVarB_at, eBin_at, eUn_at, eCh_at, eNo_at, eAn_at, eOu_at, eIf_at, tBl_at, tTru_at, tNo_at, tAn_at, tOu_at, tYe_at, aNil_at, aCons_at, eTup_at, eLst_at, aLst_at, eIx_at, pNo_at, pSo_at, eSl_at, eCall_at, aLc_at, eLc_at, wipe_nil, wipe_cons, iSeq_at, iRg1_at, iRg2_at, eLRg_at, eTRg_at, iEnu_at, aOfL_at, gNm_at, gsNo_nil, gsCo_cons, gTp_tup, sFor_at, seqD, dAdd, dMul, gI, dIs, dNot, dIsnt, dTru, dNeg, dInv, dIx, dSl, dLen, dAbs, dInt, dTup, dLst, List.map_cons, List.map_nil, List.cons_append, List.nil_append, List.length_cons, List.length_nil, List.getElem?_cons_zero, List.getElem?_cons_succ, List.set_cons_zero, List.set_cons_succ, Option.bind_some, Option.map_some, List.reduceReplicate, Nat.reduceAdd, Nat.reduceSub, ↓reduceIte, decide_eq_true_eq, Bool.false_eq_true, Bool.not_true, Bool.not_false, Nat.zero_add, true_and, if_false_right, wO_seq, seq_nx, List.length_map]
    refine ⟨rgOk_small (by omega) (by omega), ?_⟩
    refine wO_forL (fun i ρ st' => ∃ (row' : List Nat) (a b e : Sl), ρ = [.vl (.ref 0), .ow (row'.map nD), a, b, e] ∧ st' = Sst xs (c + i) ∧ row'.Perm row) _ 0 _ _ ⟨row, _, _, _, rfl, by simp, List.Perm.refl _⟩ ?_ ?_
    · rintro ρ st' ⟨row', a, b, e, rfl, rfl, hp⟩
      rw [rgD_len]
      simp -implicitDefEqProofs only [wE_run, wE_ok, wE_exn, wE_stuck, wE_bind, wE_of, wE_ite, wE_iteB, wE_iteP, wP_some, wP_none, wP_ite, wP_iteP, wP_map, wP_bind, wO_out, wO_nx, wO_rt, wO_bk, wO_ct, wO_ex, wO_stuck, wO_iteB, wO_ite, seq_rt, seq_bk, seq_ct, seq_ex, sNo_at, sBk_at, sCt_at, sEx_at, sRt_at, sIf_at, sSet_at, sOwn_at, sAug_at, sApp_at, sPut_at, sExt_at, sAsg_at, sPar_at, sFz_at, fz_at, sRs_at, sRef_at, eK_at, eVar_at, eVarB_at, eBin_at, eUn_at, eCh_at, eNo_at, eAn_at, eOu_at, eIf_at, tBl_at, tTru_at, tNo_at, tAn_at, tOu_at, tYe_at, aNil_at, aCons_at, eTup_at, eLst_at, aLst_at, eIx_at, pNo_at, pSo_at, eSl_at, eCall_at, aLc_at, eLc_at, wipe_nil, wipe_cons, iSeq_at, iRg1_at, iRg2_at, eLRg_at, eTRg_at, iEnu_at, aOfL_at, gNm_at, gsNo_nil, gsCo_cons, gTp_tup, sFor_at, seqD, dAdd, dMul, gI, dIs, dNot, dIsnt, dTru, dNeg, dInv, dIx, dSl, dLen, dAbs, dInt, dTup, dLst, List.map_cons, List.map_nil, List.cons_append, List.nil_append, List.length_cons, List.length_nil, List.getElem?_cons_zero, List.getElem?_cons_succ, List.set_cons_zero, List.set_cons_succ, Option.bind_some, Option.map_some, List.reduceReplicate, Nat.reduceAdd, Nat.reduceSub, ↓reduceIte, decide_eq_true_eq, Bool.false_eq_true, Bool.not_true, Bool.not_false, Nat.zero_add, true_and, if_false_right, wO_seq, seq_nx]
      exact ⟨row', _, rfl, rfl, hp, by omega, by omega⟩
    · rintro i d ρ st' hd ⟨row', a, b, e, rfl, rfl, hp⟩
      obtain ⟨rfl, hi⟩ := rgD_at hd
      have hlen := hp.length_eq
      rw [Nat.zero_add]
      simp -implicitDefEqProofs (disch := omega) only [wE_run, wE_ok, wE_exn, wE_stuck, wE_bind, wE_of, wE_ite, wE_iteB, wE_iteP, wP_some, wP_none, wP_ite, wP_iteP, wP_map, wP_bind, wO_out, wO_nx, wO_rt, wO_bk, wO_ct, wO_ex, wO_stuck, wO_iteB, wO_ite, seq_rt, seq_bk, seq_ct, seq_ex, sNo_at, sBk_at, sCt_at, sEx_at, sRt_at, sIf_at, sSet_at, sOwn_at, sAug_at, sApp_at, sPut_at, sExt_at, sAsg_at, sPar_at, sFz_at, fz_at, sRs_at, sRef_at, eK_at, eVar_at, eVarB_at, eBin_at, eUn_at, eCh_at, eNo_at, eAn_at, eOu_at, eIf_at, tBl_at, tTru_at, tNo_at, tAn_at, tOu_at, tYe_at, aNil_at, aCons_at, eTup_at, eLst_at, aLst_at, eIx_at, pNo_at, pSo_at, eSl_at, eCall_at, aLc_at, eLc_at, wipe_nil, wipe_cons, iSeq_at, iRg1_at, iRg2_at, eLRg_at, eTRg_at, iEnu_at, aOfL_at, gNm_at, gsNo_nil, gsCo_cons, gTp_tup, sFor_at, seqD, dAdd, dMul, gI, dIs, dNot, dIsnt, dTru, dNeg, dInv, dIx, dSl, dLen, dAbs, dInt, dTup, dLst, List.map_cons, List.map_nil, List.cons_append, List.nil_append, List.length_cons, List.length_nil, List.getElem?_cons_zero, List.getElem?_cons_succ, List.set_cons_zero, List.set_cons_succ, Option.bind_some, Option.map_some, List.reduceReplicate, Nat.reduceAdd, Nat.reduceSub, ↓reduceIte, decide_eq_true_eq, Bool.false_eq_true, Bool.not_true, Bool.not_false, Nat.zero_add, true_and, if_false_right, wO_seq, seq_nx, hnx, List.length_map]
      obtain ⟨n, hn, en⟩ : ∃ n : Nat, n < row'.length ∧ 0 + (i : Int) + nxI xs (c + ↑i + 1) % ((row'.length : Int) - (0 + ↑i)) = (n : Int) := by
        have q1 := Int.emod_nonneg (nxI xs (c + ↑i + 1)) (show ((row'.length : Int) - (0 + ↑i)) ≠ 0 by omega)
        have q2 := Int.emod_lt_of_pos (nxI xs (c + ↑i + 1)) (show 0 < ((row'.length : Int) - (0 + ↑i)) by omega)
        exact ⟨(0 + (i : Int) + nxI xs (c + ↑i + 1) % ((row'.length : Int) - (0 + ↑i))).toNat, by omega, by omega⟩
      have hi2 : i < row'.length := by omega
      rw [en, Int.zero_add, atI_nat (v := nD row'[n]) (by rw [List.getElem?_map, List.getElem?_eq_getElem hn]; rfl), atI_nat (v := nD row'[i]) (by rw [List.getElem?_map, List.getElem?_eq_getElem hi2]; rfl), ixN_at hn]
      simp -implicitDefEqProofs only [wE_run, wE_ok, wE_exn, wE_stuck, wE_bind, wE_of, wE_ite, wE_iteB, wE_iteP, wP_some, wP_none, wP_ite, wP_iteP, wP_map, wP_bind, wO_out, wO_nx, wO_rt, wO_bk, wO_ct, wO_ex, wO_stuck, wO_iteB, wO_ite, seq_rt, seq_bk, seq_ct, seq_ex, sNo_at, sBk_at, sCt_at, sEx_at, sRt_at, sIf_at, sSet_at, sOwn_at, sAug_at, sApp_at, sPut_at, sExt_at, sAsg_at, sPar_at, sFz_at, fz_at, sRs_at, sRef_at, eK_at, eVar_at, eVarB_at, eBin_at, eUn_at, eCh_at, eNo_at, eAn_at, eOu_at, eIf_at, tBl_at, tTru_at, tNo_at, tAn_at, tOu_at, tYe_at, aNil_at, aCons_at, eTup_at, eLst_at, aLst_at, eIx_at, pNo_at, pSo_at, eSl_at, eCall_at, aLc_at, eLc_at, wipe_nil, wipe_cons, iSeq_at, iRg1_at, iRg2_at, eLRg_at, eTRg_at, iEnu_at, aOfL_at, gNm_at, gsNo_nil, gsCo_cons, gTp_tup, sFor_at, seqD, dAdd, dMul, gI, dIs, dNot, dIsnt, dTru, dNeg, dInv, dIx, dSl, dLen, dAbs, dInt, dTup, dLst, List.map_cons, List.map_nil, List.cons_append, List.nil_append, List.length_cons, List.length_nil, List.getElem?_cons_zero, List.getElem?_cons_succ, List.set_cons_zero, List.set_cons_succ, Option.bind_some, Option.map_some, List.reduceReplicate, Nat.reduceAdd, Nat.reduceSub, ↓reduceIte, decide_eq_true_eq, Bool.false_eq_true, Bool.not_true, Bool.not_false, Nat.zero_add, true_and, if_false_right, wO_seq, seq_nx, List.length_set, List.length_map, ixN_at hi2]
      refine ⟨(row'.set n row'[i]).set i row'[n], _, _, _, by rw [List.map_set, List.map_set], congrArg (Sst xs) (by omega), (swap_perm hn hi2).trans hp⟩
  obtain ⟨d, st', e, row', c', rfl, rfl, h1, h2, h3⟩ := wE_ex key
  exact ⟨row', c', e, h1, h2, h3⟩
theorem rng_len {m : Nat} : (List.range m).length = m := List.length_range
def DrI (xs : List Int) (m : Nat) (c : Int) (j : Nat) (acc : List D) (st : Stor) : Prop := ∃ (rows : List (List Nat)) (c' : Int), acc = rows.map rowN ∧ st = Sst xs c' ∧ Rws m rows ∧ rows.length = j ∧ 0 ≤ c' ∧ c' ≤ c + 32 * (j : Int)
theorem DrI.out {xs : List Int} {m : Nat} {c : Int} {j : Nat} {acc : List D} {st : Stor} (h : DrI xs m c j acc st) {P : Prop} (k : ∀ (rows : List (List Nat)) (c' : Int), acc = rows.map rowN → st = Sst xs c' → Rws m rows → rows.length = j → 0 ≤ c' → c' ≤ c + 32 * (j : Int) → P) : P := by
  obtain ⟨rows, c', e1, e2, h1, h2, h3, h4⟩ := h
  exact k rows c' e1 e2 h1 h2 h3 h4
theorem ex2_out {A B : Type} {F : A → B → Prop} (h : ∃ a b, F a b) {P : Prop} (k : ∀ a b, F a b → P) : P := by
  obtain ⟨a, b, h⟩ := h
  exact k a b h
def MixF (Φ : Nat → Fv) (xs : List Int) : Prop := ∀ {c : Int}, 0 ≤ c → c ≤ 1000000 → ∀ {row : List Nat}, row.length ≤ 100 → 1 ≤ row.length →
    ∃ (row' : List Nat) (c' : Int), Φ i__law_mixed [.ref 0, .lst (row.map nD)] (Sst xs c) = .ok (rowN row') (Sst xs c') ∧ row'.Perm row ∧ 0 ≤ c' ∧ c' ≤ c + row.length
def NxtF (Φ : Nat → Fv) (xs : List Int) : Prop := ∀ c m : Int, 0 ≤ c → c ≤ 1000000 → 0 < m → Φ i__law_next [.ref 0, .int m] (Sst xs c) = .ok (.int (nxI xs (c + 1) % m)) (Sst xs (c + 1))
section
variable {Φ : Nat → Fv} {xs : List Int}
theorem drawn_step (hmx : MixF Φ xs) {g : Av} {c : Int} (h1 : c ≤ 900000) {m : Nat} (hm1 : 1 ≤ m) (hm : m ≤ 32) {j : Nat} (hj : j ≤ 200) {acc : List D} {a b : Sl} (hgg : ∀ b st, g [.vl (.ref 0), .vl (nD m), a, b] st = .ok [.ref 0, .lst ((List.range m).map nD)] st) (hI : DrI xs m c j acc st) :
    wE (eCall 2 (Φ i__law_mixed) g [.vl (.ref 0), .vl (nD m), a, b] st) (fun x st2 => DrI xs m c (j + 1) (acc ++ [x]) st2) fun _ _ => False := by
  refine hI.out fun rows c' ea es hg hlen g1 g2 => ?_
  rw [ea, es]
  refine ex2_out (hmx g1 (by omega) (row := List.range m) (by rw [rng_len]; omega) (by rw [rng_len]; omega)) fun row' c2 hh => ?_
  have e1 := hh.1
  have p1 := hh.2.1
  have q1 := hh.2.2.1
  have q2 := hh.2.2.2
  clear hh hI
  rw [rng_len] at q2
  rw [eCall_at, hgg]
  simp -implicitDefEqProofs only [wE_run, wE_ok, wE_exn, wE_stuck, wE_bind, wE_of, wE_ite, wE_iteB, wE_iteP, wP_some, wP_none, wP_ite, wP_iteP, wP_map, wP_bind, wO_out, wO_nx, wO_rt, wO_bk, wO_ct, wO_ex, wO_stuck, wO_iteB, wO_ite, seq_rt, seq_bk, seq_ct, seq_ex, sNo_at, sBk_at, sCt_at, sEx_at, sRt_at, sIf_at, sSet_at, sOwn_at, sAug_at, sApp_at, sPut_at, sExt_at, sAsg_at, sPar_at, sFz_at, fz_at, sRs_at, sRef_at, eK_at, eVar_at, eVarB_at, eBin_at, eUn_at, eCh_at, eNo_at, eAn_at, eOu_at, eIf_at, tBl_at, tTru_at, tNo_at, tAn_at, tOu_at, tYe_at, aNil_at, aCons_at, eTup_at, eLst_at, aLst_at, eIx_at, pNo_at, pSo_at, eSl_at, eCall_at, aLc_at, eLc_at, wipe_nil, wipe_cons, iSeq_at, iRg1_at, iRg2_at, eLRg_at, eTRg_at, iEnu_at, aOfL_at, gNm_at, gsNo_nil, gsCo_cons, gTp_tup, sFor_at, seqD, dAdd, dMul, gI, dIs, dNot, dIsnt, dTru, dNeg, dInv, dIx, dSl, dLen, dAbs, dInt, dTup, dLst, List.map_cons, List.map_nil, List.cons_append, List.nil_append, List.length_cons, List.length_nil, List.getElem?_cons_zero, List.getElem?_cons_succ, List.set_cons_zero, List.set_cons_succ, Option.bind_some, Option.map_some, List.reduceReplicate, Nat.reduceAdd, Nat.reduceSub, ↓reduceIte, decide_eq_true_eq, Bool.false_eq_true, Bool.not_true, Bool.not_false, Nat.zero_add, true_and, if_false_right, wO_seq, seq_nx, e1]
  refine ⟨rows ++ [row'], c2, by rw [List.map_append]; rfl, rfl, ⟨fun r hr => ?_⟩, by rw [List.length_append, hlen]; rfl, q1, by omega⟩
  rcases List.mem_append.mp hr with h | h
  · exact hg.good r h
  · have : r = row' := by simpa using h
    rw [this]; exact p1
theorem drawn_comp (hmx : MixF Φ xs) {g : Av} {c : Int} (h0 : 0 ≤ c) (h1 : c ≤ 900000) {m : Nat} (hm1 : 1 ≤ m) (hm : m ≤ 32) {v : Nat} (hv : v ≤ 200) {a b : Sl} (hgg : ∀ b st, g [.vl (.ref 0), .vl (nD m), a, b] st = .ok [.ref 0, .lst ((List.range m).map nD)] st) :
    ∃ (rows : List (List Nat)) (c' : Int), lcL (gNm 3) tYe (eCall 2 (Φ i__law_mixed) g) ((List.range v).map nD) [.vl (.ref 0), .vl (nD m), a, b] (Sst xs c) = .ok (rows.map rowN) (Sst xs c') ∧ Rws m rows ∧ rows.length = v ∧ 0 ≤ c' ∧ c' ≤ c + 32 * (v : Int) := by
  have key : wE (lcL (gNm 3) tYe (eCall 2 (Φ i__law_mixed) g) ((List.range v).map nD) [.vl (.ref 0), .vl (nD m), a, b] (Sst xs c)) (DrI xs m c v) fun _ _ => False := by
    refine wE_lcL (DrI xs m c) _ 0 [] _ _ ⟨[], c, rfl, rfl, ⟨fun r hr => by cases hr⟩, rfl, h0, by omega⟩ ?_ ?_
    · intro acc st' h
      rw [List.length_map, rng_len, Nat.zero_add, List.nil_append] at h
      exact h
    · intro j d acc st' hd hI
      have hj : j < v := by
        have := (List.getElem?_eq_some_iff.mp hd).1
        rw [List.length_map, rng_len] at this; exact this
      rw [Nat.zero_add] at hI ⊢
      rw [gNm_at, wP_some, tYe_at, wE_ok, if_pos rfl]
      exact drawn_step hmx h1 hm1 hm (by omega) hgg hI
  obtain ⟨l, st', e, rows, c', rfl, rfl, h⟩ := wE_ex key
  exact ⟨rows, c', e, h⟩
theorem drawn_Φ (hnx : NxtF Φ xs) (hmx : MixF Φ xs) {c : Int} (h0 : 0 ≤ c) (h1 : c ≤ 800000) {m : Nat} (hm1 : 1 ≤ m) (hm : m ≤ 32) {n : Nat} (hn1 : 1 ≤ n) (hn : n ≤ 100) :
    ∃ (rows : List (List Nat)) (c' : Int), runB 4 (c__law_drawn_rows Φ) [.ref 0, nD m, nD n] (Sst xs c) = .ok (rowsN rows) (Sst xs c') ∧ Rws m rows ∧ 1 ≤ rows.length ∧ rows.length ≤ n ∧ 0 ≤ c' ∧ c' ≤ c + 1 + 32 * n := by
  obtain ⟨v, hv, ev⟩ : ∃ v : Nat, v < n ∧ nxI xs (c + 1) % (n : Int) = (v : Int) := ⟨(nxI xs (c + 1) % (n : Int)).toNat, by
    have q1 := Int.emod_nonneg (nxI xs (c + 1)) (show (n : Int) ≠ 0 by omega)
    have q2 := Int.emod_lt_of_pos (nxI xs (c + 1)) (show 0 < (n : Int) by omega)
    omega, by
    have q1 := Int.emod_nonneg (nxI xs (c + 1)) (show (n : Int) ≠ 0 by omega)
    omega⟩
  obtain ⟨rows, c', e1, hg, hlen, g1, g2⟩ := drawn_comp hmx (c := c + 1) (by omega) (by omega) hm1 hm (v := 1 + v) (by omega) (a := .vl (nD n)) (b := .un) (g := aCons (eVar 0) (aCons (eLRg (eVar 1)) aNil)) (fun b st => by
    refine wE_eq ?_
    simp -implicitDefEqProofs only [wE_run, wE_ok, wE_exn, wE_stuck, wE_bind, wE_of, wE_ite, wE_iteB, wE_iteP, wP_some, wP_none, wP_ite, wP_iteP, wP_map, wP_bind, wO_out, wO_nx, wO_rt, wO_bk, wO_ct, wO_ex, wO_stuck, wO_iteB, wO_ite, seq_rt, seq_bk, seq_ct, seq_ex, sNo_at, sBk_at, sCt_at, sEx_at, sRt_at, sIf_at, sSet_at, sOwn_at, sAug_at, sApp_at, sPut_at, sExt_at, sAsg_at, sPar_at, sFz_at, fz_at, sRs_at, sRef_at, eK_at, eVar_at, eVarB_at, eBin_at, eUn_at, eCh_at, eNo_at, eAn_at, eOu_at, eIf_at, tBl_at, tTru_at, tNo_at, tAn_at, tOu_at, tYe_at, aNil_at, aCons_at, eTup_at, eLst_at, aLst_at, eIx_at, pNo_at, pSo_at, eSl_at, eCall_at, aLc_at, eLc_at, wipe_nil, wipe_cons, iSeq_at, iRg1_at, iRg2_at, eLRg_at, eTRg_at, iEnu_at, aOfL_at, gNm_at, gsNo_nil, gsCo_cons, gTp_tup, sFor_at, seqD, dAdd, dMul, gI, dIs, dNot, dIsnt, dTru, dNeg, dInv, dIx, dSl, dLen, dAbs, dInt, dTup, dLst, List.map_cons, List.map_nil, List.cons_append, List.nil_append, List.length_cons, List.length_nil, List.getElem?_cons_zero, List.getElem?_cons_succ, List.set_cons_zero, List.set_cons_succ, Option.bind_some, Option.map_some, List.reduceReplicate, Nat.reduceAdd, Nat.reduceSub, ↓reduceIte, decide_eq_true_eq, Bool.false_eq_true, Bool.not_true, Bool.not_false, Nat.zero_add, true_and, if_false_right, wO_seq, seq_nx, rgD_nat']
    exact ⟨rgOk_small (by omega) (by omega), trivial⟩)
  refine ⟨rows, c', ?_, hg, by omega, by omega, g1, by omega⟩
  have hn' := hnx c n h0 (by omega) (by omega)
  refine wE_eq ?_
  simp -implicitDefEqProofs only [c__law_drawn_rows, wE_run, wE_ok, wE_exn, wE_stuck, wE_bind, wE_of, wE_ite, wE_iteB, wE_iteP, wP_some, wP_none, wP_ite, wP_iteP, wP_map, wP_bind, wO_out, wO_nx, wO_rt, wO_bk, wO_ct, wO_ex, wO_stuck, wO_iteB, wO_ite, seq_rt, seq_bk, seq_ct, seq_ex, sNo_at, sBk_at, sCt_at, sEx_at, sRt_at, sIf_at, sSet_at, sOwn_at, sAug_at, sApp_at, sPut_at, sExt_at, sAsg_at, sPar_at, sFz_at, fz_at, sRs_at, sRef_at, eK_at, eVar_at, eVarB_at, eBin_at, eUn_at, eCh_at, eNo_at, eAn_at, eOu_at, eIf_at, tBl_at, tTru_at, tNo_at, tAn_at, tOu_at, tYe_at, aNil_at, aCons_at, eTup_at, eLst_at, aLst_at, eIx_at, pNo_at, pSo_at, eSl_at, eCall_at, aLc_at, eLc_at, wipe_nil, wipe_cons, iSeq_at, iRg1_at, iRg2_at, eLRg_at, eTRg_at, iEnu_at, aOfL_at, gNm_at, gsNo_nil, gsCo_cons, gTp_tup, sFor_at, seqD, dAdd, dMul, gI, dIs, dNot, dIsnt, dTru, dNeg, dInv, dIx, dSl, dLen, dAbs, dInt, dTup, dLst, List.map_cons, List.map_nil, List.cons_append, List.nil_append, List.length_cons, List.length_nil, List.getElem?_cons_zero, List.getElem?_cons_succ, List.set_cons_zero, List.set_cons_succ, Option.bind_some, Option.map_some, List.reduceReplicate, Nat.reduceAdd, Nat.reduceSub, ↓reduceIte, decide_eq_true_eq, Bool.false_eq_true, Bool.not_true, Bool.not_false, Nat.zero_add, true_and, if_false_right, wO_seq, seq_nx, hn', ev]
  refine ⟨rgOk_small (by omega) (by omega), ?_⟩
  rw [show (1 : Int) + (v : Int) = ((1 + v : Nat) : Int) by omega, rgD_nat', e1]
  simp -implicitDefEqProofs only [wE_run, wE_ok, wE_exn, wE_stuck, wE_bind, wE_of, wE_ite, wE_iteB, wE_iteP, wP_some, wP_none, wP_ite, wP_iteP, wP_map, wP_bind, wO_out, wO_nx, wO_rt, wO_bk, wO_ct, wO_ex, wO_stuck, wO_iteB, wO_ite, seq_rt, seq_bk, seq_ct, seq_ex, sNo_at, sBk_at, sCt_at, sEx_at, sRt_at, sIf_at, sSet_at, sOwn_at, sAug_at, sApp_at, sPut_at, sExt_at, sAsg_at, sPar_at, sFz_at, fz_at, sRs_at, sRef_at, eK_at, eVar_at, eVarB_at, eBin_at, eUn_at, eCh_at, eNo_at, eAn_at, eOu_at, eIf_at, tBl_at, tTru_at, tNo_at, tAn_at, tOu_at, tYe_at, aNil_at, aCons_at, eTup_at, eLst_at, aLst_at, eIx_at, pNo_at, pSo_at, eSl_at, eCall_at, aLc_at, eLc_at, wipe_nil, wipe_cons, iSeq_at, iRg1_at, iRg2_at, eLRg_at, eTRg_at, iEnu_at, aOfL_at, gNm_at, gsNo_nil, gsCo_cons, gTp_tup, sFor_at, seqD, dAdd, dMul, gI, dIs, dNot, dIsnt, dTru, dNeg, dInv, dIx, dSl, dLen, dAbs, dInt, dTup, dLst, List.map_cons, List.map_nil, List.cons_append, List.nil_append, List.length_cons, List.length_nil, List.getElem?_cons_zero, List.getElem?_cons_succ, List.set_cons_zero, List.set_cons_succ, Option.bind_some, Option.map_some, List.reduceReplicate, Nat.reduceAdd, Nat.reduceSub, ↓reduceIte, decide_eq_true_eq, Bool.false_eq_true, Bool.not_true, Bool.not_false, Nat.zero_add, true_and, if_false_right, wO_seq, seq_nx, rowsN]
end
end
theorem sIx_nat {n d k : Nat} (h : k ≤ n) : HT.sIx n d (some (k : Int)) = k := by
  show (if (k : Int) < 0 then ((k : Int) + n).toNat else min (k : Int).toNat n) = k
  rw [if_neg (by omega)]; omega
theorem cut_take {α : Type} {xs : List α} {n : Nat} (h : n ≤ xs.length) : OM.cutD xs none (some (n : Int)) = xs.take n := by
  unfold OM.cutD
  rw [sIx_nat h]; rfl
theorem cut_drop {α : Type} {xs : List α} {n : Nat} (h : n ≤ xs.length) : OM.cutD xs (some (n : Int)) none = xs.drop n := by
  unfold OM.cutD
  rw [sIx_nat h]
  show List.take (xs.length - n) (xs.drop n) = xs.drop n
  exact List.take_of_length_le (by rw [List.length_drop]; exact Nat.le_refl _)
theorem cut_init {α : Type} {xs : List α} (h : 1 ≤ xs.length) : OM.cutD xs none (some (-1)) = xs.take (xs.length - 1) := by
  unfold OM.cutD
  have : HT.sIx xs.length xs.length (some (-1)) = xs.length - 1 := by
    show (if (-1 : Int) < 0 then ((-1 : Int) + xs.length).toNat else min (-1 : Int).toNat xs.length) = xs.length - 1
    rw [if_pos (by decide)]; omega
  rw [this]; rfl
theorem reprOk_tup {w k : Nat} {ds : List D} (h : Nices w k ds) (hw : w ≤ 700000) (hk : k ≤ 63) : ∃ p, dRepr (.tup ds) = some (.str p) := by
  obtain ⟨ps, a, b, c, d, e, f⟩ := nice_pys ds h.n
  have hw' := h.w
  have hk' := h.k
  refine ⟨(PyData.tuple ps).shown, ?_⟩
  simp only [dRepr, a, Option.bind_some]
  rw [if_pos]
  unfold reprOk
  rw [Bool.and_eq_true, Bool.and_eq_true]
  refine ⟨⟨by simpa only [PyData.showable] using d, decide_eq_true ?_⟩, decide_eq_true ?_⟩
  · simp only [PyData.depth]; omega
  · have hs := PyData.shown_le 21 (by decide) (PyData.tuple ps) (PyData.leavesShort_of_canLay0 21 _ (by simpa only [PyData.canLay0] using b) (by simpa only [PyData.intsShort] using c))
    have hww : (PyData.tuple ps).weight = PyData.weightAll ps := by simp only [PyData.weight]
    rw [hww] at hs
    have h3 : (21 + 2) * PyData.weightAll ps ≤ 23 * 700000 := Nat.mul_le_mul_left 23 (by omega)
    rw [sizeLine_eq]
    omega
theorem Rws.len {m : Nat} {rows : List (List Nat)} (h : Rws m rows) {r : List Nat} (hr : r ∈ rows) : r.length = m := by
  rw [(h.good r hr).length_eq, rng_len]
theorem Rws.append {m : Nat} {rows rows' : List (List Nat)} (h : Rws m rows) (h' : Rws m rows') : Rws m (rows ++ rows') := ⟨fun r hr => by
  rcases List.mem_append.mp hr with q | q
  · exact h.good r q
  · exact h'.good r q⟩
theorem nice_row {m : Nat} {r : List Nat} (h : r.Perm (List.range m)) (hm : m ≤ 32) : Nice 2272 1 (rowN r) := by
  refine nice_tup (nices_nat (n := 32) (fun i hi => ?_) (by rw [h.length_eq, rng_len]; exact hm))
  have := List.mem_range.mp (h.mem_iff.mp hi)
  omega
theorem nices_rows {m : Nat} {rows : List (List Nat)} (h : Rws m rows) (hm : m ≤ 32) (hl : rows.length ≤ 10) : Nices 22730 1 (rows.map rowN) := by
  refine nices_all (w := 2272) (n := 10) (fun d hd => ?_) (by rw [List.length_map]; exact hl)
  obtain ⟨r, hr, rfl⟩ := List.mem_map.mp hd
  exact nice_row (h.good r hr) hm
/-! ### rows that are not allowed -/
def rowI (r : List Int) : D := .tup (iD r)
theorem rowN_I {r : List Nat} : rowN r = rowI (r.map fun w : Nat => (w : Int)) := by
  unfold rowN rowI iD
  rw [List.map_map]; rfl
theorem bad_rows {m : Nat} (h1 : 1 ≤ m) (h2 : m ≤ 32) {ds ds' : List (List Nat)} {o : List Int} (hl : ds.length + 1 + ds'.length ≤ 200) (ho : ¬ o.Perm (rgI m)) {k : Nat} {st : Stor} :
    callN (k + 2) i_check_rows [nD m, .tup (ds.map rowN ++ [rowI o] ++ ds'.map rowN)] st = .exn ⟨1, none⟩ st := by
  have e : D.tup (ds.map rowN ++ [rowI o] ++ ds'.map rowN) = rowsD (cstI ds ++ [o] ++ cstI ds') := by
    unfold rowsD cstI
    rw [List.map_append, List.map_append, List.map_map, List.map_map]
    congr 1
    congr 1
    · congr 1
      exact List.map_congr_left fun r _ => rowN_I
    · exact List.map_congr_left fun r _ => rowN_I
  have hlen : ¬ 200 < (cstI ds ++ [o] ++ cstI ds').length := by
    unfold cstI
    rw [List.length_append, List.length_append, List.length_map, List.length_map]
    simp only [List.length_cons, List.length_nil]
    omega
  have q := check_rows_ex (k := k) (st := st) h1 h2 (rs := cstI ds ++ [o] ++ cstI ds') (Or.inr (Or.inr ⟨o, by simp, ho⟩))
  rw [if_neg hlen] at q
  rw [e]; exact q
def BadO (m : Nat) (d : D) : Prop := ∃ o, d = rowI o ∧ ¬ o.Perm (rgI m)
theorem rgI_perm {m : Nat} {r : List Nat} (h : r.Perm (List.range m)) : (r.map fun w : Nat => (w : Int)).Perm (rgI m) := by
  unfold rgI; exact h.map _
theorem not_perm_len {m : Nat} {o : List Int} (h : o.length ≠ m) : ¬ o.Perm (rgI m) := fun p => h (by rw [p.length_eq, rgI_len])
theorem not_perm_mem {m : Nat} {o : List Int} {v : Int} (h : v ∈ o) (hv : v < 0 ∨ (m : Int) ≤ v) : ¬ o.Perm (rgI m) := fun p => by
  have := p.mem_iff.mp h
  unfold rgI at this
  obtain ⟨i, hi, rfl⟩ := List.mem_map.mp this
  have := List.mem_range.mp hi
  omega
theorem bad1 {m : Nat} {r : List Nat} (h : r.length = m) (hm : 1 ≤ m) : BadO m (.tup ((r.map nD).drop 1)) := ⟨(r.drop 1).map fun w : Nat => (w : Int), by unfold rowI iD; rw [List.map_map, List.map_drop]; rfl, not_perm_len (by rw [List.length_map, List.length_drop]; omega)⟩
theorem bad2 {m : Nat} {r : List Nat} (h : r.length = m) (hm : 1 ≤ m) : BadO m (.tup (r.map nD ++ (r.map nD).take 1)) := ⟨(r ++ r.take 1).map fun w : Nat => (w : Int), by unfold rowI iD; rw [List.map_map, ← List.map_take, ← List.map_append]; rfl, not_perm_len (by rw [List.length_map, List.length_append, List.length_take]; omega)⟩
theorem bad3 {m : Nat} {r : List Nat} : BadO m (.tup ((r.map nD).take (r.length - 1) ++ [nD m])) := ⟨(r.take (r.length - 1) ++ [m]).map fun w : Nat => (w : Int), by unfold rowI iD; rw [List.map_map, ← List.map_take, List.map_append]; rfl, not_perm_mem (v := m) (by simp) (Or.inr (by omega))⟩
theorem bad4 {m : Nat} {r : List Nat} : BadO m (.tup ((r.map nD).take (r.length - 1) ++ [.int (-1)])) := ⟨((r.take (r.length - 1)).map fun w : Nat => (w : Int)) ++ [-1], by unfold rowI iD; rw [List.map_append, List.map_map, ← List.map_take]; rfl, not_perm_mem (v := -1) (by simp) (Or.inl (by omega))⟩
theorem bad5 {m : Nat} {r : List Nat} : BadO m (.tup (r.map nD ++ [nD m])) := ⟨(r ++ [m]).map fun w : Nat => (w : Int), by unfold rowI iD; rw [List.map_map, List.map_append]; rfl, not_perm_mem (v := m) (by simp) (Or.inr (by omega))⟩
/-! ### what the law asks -/
structure Sp (Φ : Nat → Fv) (xs : List Int) : Prop where
  nx : NxtF Φ xs
  dr : ∀ {c : Int}, 0 ≤ c → c ≤ 800000 → ∀ {m : Nat}, 1 ≤ m → m ≤ 32 → ∀ {n : Nat}, 1 ≤ n → n ≤ 100 → ∃ (rows : List (List Nat)) (c' : Int), Φ i__law_drawn_rows [.ref 0, nD m, nD n] (Sst xs c) = .ok (rowsN rows) (Sst xs c') ∧ Rws m rows ∧ 1 ≤ rows.length ∧ rows.length ≤ n ∧ 0 ≤ c' ∧ c' ≤ c + 1 + 32 * n
  same : ∀ {st : Stor} {d d' : D} {w j : Nat}, Nice w j d → d' = d → w ≤ 690000 → j ≤ 62 → Φ i__law_same [d, d'] st = .ok (.bl true) st
  ch : ∀ {st : Stor} {rows : List (List Nat)} {x : Nat}, (∀ row ∈ rows, ∀ w ∈ row, w ≤ 1000) → Φ i__law_chosen [rowsN rows, nD x] st = .ok (nD (firstsN rows x)) st
  tb : ∀ {st : Stor} {m : Nat} {rows : List (List Nat)}, m ≤ 5 → (∀ row ∈ rows, ∀ w ∈ row, w ≤ 1000) → Φ i__law_rows_table [nD m, rowsN rows] st = .ok (.tup ((tableN m rows).map nD)) st
  t0 : ∀ {st : Stor} {m : Nat} {rows : List (List Nat)} {b : D}, 1 ≤ m → m ≤ 32 → rows.length ≤ 200 → rows ≠ [] → Rws m rows → Φ i__law_told [.int 0, nD m, rowsN rows, b] st = .ok (.tup [.str "told", .non]) st
  t0x : ∀ {st : Stor} {m : Nat} {ds ds' : List (List Nat)} {o b : D}, 1 ≤ m → m ≤ 32 → ds.length + 1 + ds'.length ≤ 200 → BadO m o → Φ i__law_told [.int 0, nD m, .tup (ds.map rowN ++ [o] ++ ds'.map rowN), b] st = .ok (.str "refused") st
  t0e : ∀ {st : Stor} {m : Nat} {b : D}, 1 ≤ m → m ≤ 32 → Φ i__law_told [.int 0, nD m, .tup [], b] st = .ok (.str "refused") st
  t0l : ∀ {st : Stor} {m : Nat} {rs : List (List Int)} {b : D}, 1 ≤ m → m ≤ 32 → 200 < rs.length → Φ i__law_told [.int 0, nD m, rowsD rs, b] st = .ok (.str "large") st
  t1 : ∀ {st : Stor} {m : Nat} {rows : List (List Nat)} {b : D}, 1 ≤ m → m ≤ 5 → rows.length ≤ 200 → rows ≠ [] → Rws m rows → Φ i__law_told [.int 1, nD m, rowsN rows, b] st = .ok (.tup [.str "told", .tup ((tableN m rows).map nD)]) st
  t1l : ∀ {st : Stor} {m : Nat} {rows : List (List Nat)} {b : D}, 5 < m → m ≤ 32 → rows.length ≤ 200 → rows ≠ [] → Rws m rows → Φ i__law_told [.int 1, nD m, rowsN rows, b] st = .ok (.str "large") st
  t1x : ∀ {st : Stor} {m : Nat} {rows : List (List Nat)} {b : D}, 1 ≤ m → m ≤ 32 → rows.length < 200 → Φ i__law_told [.int 1, nD m, .tup (rows.map rowN ++ [.tup []]), b] st = .ok (.str "refused") st
  t2 : ∀ {st : Stor} {m x : Nat} {rows : List (List Nat)}, 1 ≤ m → m ≤ 32 → rows.length ≤ 200 → rows ≠ [] → Rws m rows → x < 2 ^ m → Φ i__law_told [.int 2, nD m, rowsN rows, nD x] st = .ok (.tup [.str "told", nD (firstsN rows x)]) st
  t2x : ∀ {st : Stor} {m : Nat} {rows : List (List Nat)}, 1 ≤ m → m ≤ 32 → rows.length ≤ 200 → rows ≠ [] → Rws m rows → Φ i__law_told [.int 2, nD m, rowsN rows, nD (2 ^ m)] st = .ok (.str "refused") st
  t3 : ∀ {st : Stor} {m : Nat} {rows : List (List Nat)} {tb : List Nat}, 1 ≤ m → m ≤ 5 → rows.length ≤ 200 → rows ≠ [] → Rws m rows → Tbl m tb → Φ i__law_told [.int 3, nD m, rowsN rows, .tup (tb.map nD)] st = .ok (if tb = tableN m rows then .tup [.str "told", .bl true] else .str "paper") st
theorem sp_ok (k : Nat) {xs : List Int} (hx : Str0 xs) : Sp (callN (k + 6)) xs where
  nx := fun c m h0 h1 h2 => next_eq (k := k + 5) hx h0 (by omega) h2
  dr := fun {c} h0 h1 {m} hm1 hm {n} hn1 hn => drawn_Φ (Φ := callN (k + 5)) (fun c m h0 h1 h2 => next_eq (k := k + 4) hx h0 (by omega) h2) (fun {c} h0 h1 {row} hl hl1 => mixed_ok (k := k + 3) hx h0 h1 hl hl1) h0 h1 hm1 hm hn1 hn
  same := fun h e h1 h2 => same_eq h e h1 h2
  ch := fun h => lchosen_ok (k := k + 4) h
  tb := fun h1 h => ltable_ok (k := k + 4) h1 h
  t0 := fun h1 h2 hl hn hg => told0 (k := k + 4) (rows_ok (k := k + 3) h1 h2 hl hn hg)
  t0x := fun {st m ds ds' o b} h1 h2 hl ho => by
    obtain ⟨o', rfl, h⟩ := ho
    exact told0x (k := k + 4) (bad_rows (k := k + 3) h1 h2 hl h) rfl
  t0e := fun h1 h2 => told0x (k := k + 4) (check_rows_ex (k := k + 3) h1 h2 (rs := []) (Or.inr (Or.inl rfl))) rfl
  t0l := fun {st m rs b} h1 h2 hl => by
    have q := check_rows_ex (k := k + 3) (st := st) h1 h2 (rs := rs) (Or.inl hl)
    rw [if_pos hl] at q
    exact told0x (k := k + 4) q rfl
  t1 := fun h1 h2 hl hn hg => told1 (k := k + 4) (table_ok (k := k + 2) h1 h2 hl hn hg)
  t1l := fun h1 h2 hl hn hg => told1x (k := k + 4) (table_large (k := k + 2) h1 h2 hl hn hg) rfl
  t1x := fun {st m rows b} h1 h2 hl => by
    have e : D.tup (rows.map rowN ++ [.tup []]) = rowsD (cstI rows ++ [[]]) := by
      unfold rowsD cstI
      rw [List.map_append, List.map_map]
      congr 1
      congr 1
      exact List.map_congr_left fun r _ => rowN_I
    rw [e]
    refine told1x (k := k + 4) (table_ex (k := k + 2) h1 h2 (rs := cstI rows ++ [[]]) ?_ (Or.inr ⟨[], by simp, not_perm_len (by simp; omega)⟩)) rfl
    unfold cstI
    rw [List.length_append, List.length_map]
    simp only [List.length_cons, List.length_nil]
    omega
  t2 := fun h1 h2 hl hn hg hx => told2 (k := k + 4) (first_in_ok (k := k + 2) h1 h2 hl hn hg hx)
  t2x := fun h1 h2 hl hn hg => told2x (k := k + 4) (first_in_big (k := k + 2) h1 h2 hl hn hg) rfl
  t3 := fun {st m rows tb} h1 h2 hl hn hg ht => by
    have q := from_rows_ok (k := k + 2) (st := st) h1 h2 ht hl hn hg
    by_cases he : tb = tableN m rows
    · rw [if_pos he] at q ⊢
      exact told3 (k := k + 4) q
    · rw [if_neg he] at q ⊢
      exact told3x (k := k + 4) q rfl
theorem cut_t1 {α : Type} {xs : List α} (h : 1 ≤ xs.length) : OM.cutD xs none (some 1) = xs.take 1 := cut_take (n := 1) h
theorem cut_d1 {α : Type} {xs : List α} (h : 1 ≤ xs.length) : OM.cutD xs (some 1) none = xs.drop 1 := cut_drop (n := 1) h
section
variable {Φ : Nat → Fv} {xs : List Int}
theorem fits_ok (F : Sp Φ xs) {c : Int} (h0 : 0 ≤ c) (h1 : c ≤ 100000) {m : Nat} (hm1 : 1 ≤ m) (hm : m ≤ 32) :
    wE (runB 11 (c__law_fits Φ) [.ref 0, nD m] (Sst xs c)) (fun d st' => d = .bl true ∧ ∃ c', st' = Sst xs c' ∧ 0 ≤ c' ∧ c' ≤ c + 300) fun _ _ => False := by
  have hnx : ∀ c m : Int, 0 ≤ c → c ≤ 1000000 → 0 < m → Φ i__law_next [.ref 0, .int m] (Sst xs c) = .ok (.int (nxI xs (c + 1) % m)) (Sst xs (c + 1)) := F.nx
  obtain ⟨rows, c1, e1, hg, hl1, hl6, q1, q2⟩ := F.dr h0 (by omega) hm1 hm (n := 6) (by omega) (by omega)
  have e1' : Φ i__law_drawn_rows [.ref 0, nD m, .int 6] (Sst xs c) = .ok (rowsN rows) (Sst xs c1) := e1
  have hne : rows ≠ [] := fun h => by rw [h] at hl1; simp at hl1
  have nr := nices_rows hg hm (by omega)
  obtain ⟨pr, hrep⟩ := reprOk_tup nr (by omega) (by omega)
  have hrep' : dRepr (rowsN rows) = some (.str pr) := hrep
  simp -implicitDefEqProofs only [c__law_fits, wE_run, wE_ok, wE_exn, wE_stuck, wE_bind, wE_of, wE_ite, wE_iteB, wE_iteP, wP_some, wP_none, wP_ite, wP_iteP, wP_map, wP_bind, wO_out, wO_nx, wO_rt, wO_bk, wO_ct, wO_ex, wO_stuck, wO_iteB, wO_ite, seq_rt, seq_bk, seq_ct, seq_ex, sNo_at, sBk_at, sCt_at, sEx_at, sRt_at, sIf_at, sSet_at, sOwn_at, sAug_at, sApp_at, sPut_at, sExt_at, sAsg_at, sPar_at, sFz_at, fz_at, sRs_at, sRef_at, eK_at, eVar_at, eVarB_at, eBin_at, eUn_at, eCh_at, eNo_at, eAn_at, eOu_at, eIf_at, tBl_at, tTru_at, tNo_at, tAn_at, tOu_at, tYe_at, aNil_at, aCons_at, eTup_at, eLst_at, aLst_at, eIx_at, pNo_at, pSo_at, eSl_at, eCall_at, aLc_at, eLc_at, wipe_nil, wipe_cons, iSeq_at, iRg1_at, iRg2_at, eLRg_at, eTRg_at, iEnu_at, aOfL_at, gNm_at, gsNo_nil, gsCo_cons, gTp_tup, sFor_at, seqD, dAdd, dMul, gI, dIs, dNot, dIsnt, dTru, dNeg, dInv, dIx, dSl, dLen, dAbs, dInt, dTup, dLst, List.map_cons, List.map_nil, List.cons_append, List.nil_append, List.length_cons, List.length_nil, List.getElem?_cons_zero, List.getElem?_cons_succ, List.set_cons_zero, List.set_cons_succ, Option.bind_some, Option.map_some, List.reduceReplicate, Nat.reduceAdd, Nat.reduceSub, ↓reduceIte, decide_eq_true_eq, Bool.false_eq_true, Bool.not_true, Bool.not_false, Nat.zero_add, true_and, if_false_right, wO_seq, seq_nx, e1', hrep']
  refine ⟨rgOk_small (by omega) (by omega), ?_⟩
  rw [rgD_nat']
  refine wE_lcL (fun j acc st' => ∃ p : Nat → Bool, acc = (((List.range j).filter p).map (2 ^ ·)).map nD ∧ st' = Sst xs (c1 + j)) _ 0 [] _ _ ⟨fun _ => true, rfl, by simp⟩ ?_ ?_
  · rintro acc st' ⟨p, hacc, rfl⟩
    rw [List.nil_append] at hacc
    subst hacc
    rw [List.length_map, List.length_range, Nat.zero_add, dSum_nat]
    have hxm := (sumP_filter p m).1
    unfold sumP at hxm
    generalize hx : (((List.range m).filter p).map (2 ^ ·)).sum = x at hxm ⊢
    clear hx
    have hlr : rows.length ≤ 200 := by omega
    have hsm := hg.small (show m ≤ 1000 by omega)
    generalize hcc : c1 + (m : Int) = c2
    have a0 := F.t0 (st := Sst xs c2) (b := .int 0) hm1 hm hlr hne hg
    have a2 := F.t2 (st := Sst xs c2) hm1 hm hlr hne hg hxm
    have a3 := F.ch (st := Sst xs c2) (x := x) hsm
    have a4 := F.t2x (st := Sst xs (c2 + 1)) hm1 hm hlr hne hg
    simp only [rowsN] at a0 a2 a3 a4 hrep'
    simp -implicitDefEqProofs only [wE_run, wE_ok, wE_exn, wE_stuck, wE_bind, wE_of, wE_ite, wE_iteB, wE_iteP, wP_some, wP_none, wP_ite, wP_iteP, wP_map, wP_bind, wO_out, wO_nx, wO_rt, wO_bk, wO_ct, wO_ex, wO_stuck, wO_iteB, wO_ite, seq_rt, seq_bk, seq_ct, seq_ex, sNo_at, sBk_at, sCt_at, sEx_at, sRt_at, sIf_at, sSet_at, sOwn_at, sAug_at, sApp_at, sPut_at, sExt_at, sAsg_at, sPar_at, sFz_at, fz_at, sRs_at, sRef_at, eK_at, eVar_at, eVarB_at, eBin_at, eUn_at, eCh_at, eNo_at, eAn_at, eOu_at, eIf_at, tBl_at, tTru_at, tNo_at, tAn_at, tOu_at, tYe_at, aNil_at, aCons_at, eTup_at, eLst_at, aLst_at, eIx_at, pNo_at, pSo_at, eSl_at, eCall_at, aLc_at, eLc_at, wipe_nil, wipe_cons, iSeq_at, iRg1_at, iRg2_at, eLRg_at, eTRg_at, iEnu_at, aOfL_at, gNm_at, gsNo_nil, gsCo_cons, gTp_tup, sFor_at, seqD, dAdd, dMul, gI, dIs, dNot, dIsnt, dTru, dNeg, dInv, dIx, dSl, dLen, dAbs, dInt, dTup, dLst, List.map_cons, List.map_nil, List.cons_append, List.nil_append, List.length_cons, List.length_nil, List.getElem?_cons_zero, List.getElem?_cons_succ, List.set_cons_zero, List.set_cons_succ, Option.bind_some, Option.map_some, List.reduceReplicate, Nat.reduceAdd, Nat.reduceSub, ↓reduceIte, decide_eq_true_eq, Bool.false_eq_true, Bool.not_true, Bool.not_false, Nat.zero_add, true_and, if_false_right, wO_seq, seq_nx, rowsN, a0, a2, a3]
    refine ⟨lenOk_small (by omega), lenOk_small (by omega), lenOk_small (by omega), lenOk_small (by omega), ?_⟩
    have ntold : Nice 20 0 (.str "told") := nice_word (by decide +kernel) (by decide +kernel)
    have nrf : Nice 20 0 (.str "refused") := nice_word (by decide +kernel) (by decide +kernel)
    have hfl : firstsN rows x ≤ x := by
      have := firsts_sub rows x
      rw [← this]; exact Nat.and_le_right
    have h2m : 2 ^ m ≤ 2 ^ 32 := Nat.pow_le_pow_right (by decide) hm
    rw [F.same (nice_lst (nices_cons (nice_tup (nices_cons ntold (nices_cons nice_non nices_nil))) (nices_cons (nice_tup (nices_cons ntold (nices_cons (nice_int (i := (firstsN rows x : Int)) (by omega) (by omega)) nices_nil))) nices_nil))) rfl (by decide) (by decide)]
    have hn' := hnx c2 rows.length (by omega) (by omega) (by omega)
    simp -implicitDefEqProofs only [wE_run, wE_ok, wE_exn, wE_stuck, wE_bind, wE_of, wE_ite, wE_iteB, wE_iteP, wP_some, wP_none, wP_ite, wP_iteP, wP_map, wP_bind, wO_out, wO_nx, wO_rt, wO_bk, wO_ct, wO_ex, wO_stuck, wO_iteB, wO_ite, seq_rt, seq_bk, seq_ct, seq_ex, sNo_at, sBk_at, sCt_at, sEx_at, sRt_at, sIf_at, sSet_at, sOwn_at, sAug_at, sApp_at, sPut_at, sExt_at, sAsg_at, sPar_at, sFz_at, fz_at, sRs_at, sRef_at, eK_at, eVar_at, eVarB_at, eBin_at, eUn_at, eCh_at, eNo_at, eAn_at, eOu_at, eIf_at, tBl_at, tTru_at, tNo_at, tAn_at, tOu_at, tYe_at, aNil_at, aCons_at, eTup_at, eLst_at, aLst_at, eIx_at, pNo_at, pSo_at, eSl_at, eCall_at, aLc_at, eLc_at, wipe_nil, wipe_cons, iSeq_at, iRg1_at, iRg2_at, eLRg_at, eTRg_at, iEnu_at, aOfL_at, gNm_at, gsNo_nil, gsCo_cons, gTp_tup, sFor_at, seqD, dAdd, dMul, gI, dIs, dNot, dIsnt, dTru, dNeg, dInv, dIx, dSl, dLen, dAbs, dInt, dTup, dLst, List.map_cons, List.map_nil, List.cons_append, List.nil_append, List.length_cons, List.length_nil, List.getElem?_cons_zero, List.getElem?_cons_succ, List.set_cons_zero, List.set_cons_succ, Option.bind_some, Option.map_some, List.reduceReplicate, Nat.reduceAdd, Nat.reduceSub, ↓reduceIte, decide_eq_true_eq, Bool.false_eq_true, Bool.not_true, Bool.not_false, Nat.zero_add, true_and, if_false_right, wO_seq, seq_nx, List.length_map, hn']
    obtain ⟨kk, hk, ek⟩ : ∃ kk : Nat, kk < rows.length ∧ nxI xs (c2 + 1) % (rows.length : Int) = (kk : Int) := ⟨(nxI xs (c2 + 1) % (rows.length : Int)).toNat, by
      have q1 := Int.emod_nonneg (nxI xs (c2 + 1)) (show (rows.length : Int) ≠ 0 by omega)
      have q2 := Int.emod_lt_of_pos (nxI xs (c2 + 1)) (show 0 < (rows.length : Int) by omega)
      omega, by
      have q1 := Int.emod_nonneg (nxI xs (c2 + 1)) (show (rows.length : Int) ≠ 0 by omega)
      omega⟩
    have hrl : (rows[kk]).length = m := hg.len (List.getElem_mem hk)
    have hrl' : 1 ≤ ((rows[kk]).map nD).length := by rw [List.length_map]; omega
    rw [ek, atI_nat (v := .tup ((rows[kk]).map nD)) (by rw [List.getElem?_map, List.getElem?_eq_getElem hk]; rfl)]
    generalize hr : rows[kk] = r at hrl hrl'
    simp -implicitDefEqProofs only [wE_run, wE_ok, wE_exn, wE_stuck, wE_bind, wE_of, wE_ite, wE_iteB, wE_iteP, wP_some, wP_none, wP_ite, wP_iteP, wP_map, wP_bind, wO_out, wO_nx, wO_rt, wO_bk, wO_ct, wO_ex, wO_stuck, wO_iteB, wO_ite, seq_rt, seq_bk, seq_ct, seq_ex, sNo_at, sBk_at, sCt_at, sEx_at, sRt_at, sIf_at, sSet_at, sOwn_at, sAug_at, sApp_at, sPut_at, sExt_at, sAsg_at, sPar_at, sFz_at, fz_at, sRs_at, sRef_at, eK_at, eVar_at, eVarB_at, eBin_at, eUn_at, eCh_at, eNo_at, eAn_at, eOu_at, eIf_at, tBl_at, tTru_at, tNo_at, tAn_at, tOu_at, tYe_at, aNil_at, aCons_at, eTup_at, eLst_at, aLst_at, eIx_at, pNo_at, pSo_at, eSl_at, eCall_at, aLc_at, eLc_at, wipe_nil, wipe_cons, iSeq_at, iRg1_at, iRg2_at, eLRg_at, eTRg_at, iEnu_at, aOfL_at, gNm_at, gsNo_nil, gsCo_cons, gTp_tup, sFor_at, seqD, dAdd, dMul, gI, dIs, dNot, dIsnt, dTru, dNeg, dInv, dIx, dSl, dLen, dAbs, dInt, dTup, dLst, List.map_cons, List.map_nil, List.cons_append, List.nil_append, List.length_cons, List.length_nil, List.getElem?_cons_zero, List.getElem?_cons_succ, List.set_cons_zero, List.set_cons_succ, Option.bind_some, Option.map_some, List.reduceReplicate, Nat.reduceAdd, Nat.reduceSub, ↓reduceIte, decide_eq_true_eq, Bool.false_eq_true, Bool.not_true, Bool.not_false, Nat.zero_add, true_and, if_false_right, wO_seq, seq_nx, cut_t1 hrl', cut_d1 hrl', cut_init hrl', List.length_map, List.length_append, List.length_take, List.length_drop]
    refine ⟨lenOk_small (by omega), lenOk_small (by omega), lenOk_small (by omega), lenOk_small (by omega), lenOk_small (by omega), lenOk_small (by omega), lenOk_small (by omega), lenOk_small (by omega), ?_⟩
    generalize hB : [D.tup (List.drop 1 (List.map nD r)), D.tup (List.map nD r ++ List.take 1 (List.map nD r)), D.tup (List.take (r.length - 1) (List.map nD r) ++ [nD m]), D.tup (List.take (r.length - 1) (List.map nD r) ++ [D.int (-1)]), D.tup (List.map nD r ++ [nD m])] = B
    have hbad : ∀ d ∈ B, BadO m d := by
      rw [← hB]
      intro d hd
      simp only [List.mem_cons, List.not_mem_nil, or_false] at hd
      rcases hd with rfl | rfl | rfl | rfl | rfl
      · exact bad1 hrl hm1
      · exact bad2 hrl hm1
      · exact bad3
      · exact bad4
      · exact bad5
    have hBl : B.map (fun _ => D.str "refused") = List.replicate 5 (D.str "refused") := by rw [← hB]; rfl
    have hkr : kk ≤ (rows.map rowN).length := by rw [List.length_map]; omega
    have hkr1 : kk + 1 ≤ (rows.map rowN).length := by rw [List.length_map]; omega
    have q := lcL_mapT (g := gNm 9) (f' := id) (h := fun _ => D.str "refused") (xs := B) (f := eCall 4 (Φ i__law_told) (aCons (eK (D.int 0)) (aCons (eVar 1) (aCons (eBin dAdd (eBin dAdd (eSl (eVar 2) pNo (pSo (eVar 5))) (eTup (aCons (eVar 9) aNil))) (eSl (eVar 2) (pSo (eBin dAdd (eVar 5) (eK (D.int 1)))) pNo)) (aCons (eK (D.int 0)) aNil))))) (ρ := [Sl.vl (D.ref 0), Sl.vl (nD m), Sl.vl (D.tup (List.map rowN rows)), Sl.vl (D.str pr), Sl.vl (nD x), Sl.vl (D.int ↑kk), Sl.vl (D.tup (List.map nD r)), Sl.vl (D.lst B), Sl.un, Sl.un, Sl.un]) (st := Sst xs (c2 + 1)) fun d hd => by
      have t := F.t0x (st := Sst xs (c2 + 1)) (ds := rows.take kk) (ds' := rows.drop (kk + 1)) (b := .int 0) hm1 hm (by rw [List.length_take, List.length_drop]; omega) (hbad d hd)
      rw [List.map_take, List.map_drop] at t
      have hkk : ((kk : Int) + 1) = ((kk + 1 : Nat) : Int) := rfl
      simp -implicitDefEqProofs only [wE_run, wE_ok, wE_exn, wE_stuck, wE_bind, wE_of, wE_ite, wE_iteB, wE_iteP, wP_some, wP_none, wP_ite, wP_iteP, wP_map, wP_bind, wO_out, wO_nx, wO_rt, wO_bk, wO_ct, wO_ex, wO_stuck, wO_iteB, wO_ite, seq_rt, seq_bk, seq_ct, seq_ex, sNo_at, sBk_at, sCt_at, sEx_at, sRt_at, sIf_at, sSet_at, sOwn_at, sAug_at, sApp_at, sPut_at, sExt_at, sAsg_at, sPar_at, sFz_at, fz_at, sRs_at, sRef_at, eK_at, eVar_at, eVarB_at, eBin_at, eUn_at, eCh_at, eNo_at, eAn_at, eOu_at, eIf_at, tBl_at, tTru_at, tNo_at, tAn_at, tOu_at, tYe_at, aNil_at, aCons_at, eTup_at, eLst_at, aLst_at, eIx_at, pNo_at, pSo_at, eSl_at, eCall_at, aLc_at, eLc_at, wipe_nil, wipe_cons, iSeq_at, iRg1_at, iRg2_at, eLRg_at, eTRg_at, iEnu_at, aOfL_at, gNm_at, gsNo_nil, gsCo_cons, gTp_tup, sFor_at, seqD, dAdd, dMul, gI, dIs, dNot, dIsnt, dTru, dNeg, dInv, dIx, dSl, dLen, dAbs, dInt, dTup, dLst, List.map_cons, List.map_nil, List.cons_append, List.nil_append, List.length_cons, List.length_nil, List.getElem?_cons_zero, List.getElem?_cons_succ, List.set_cons_zero, List.set_cons_succ, Option.bind_some, Option.map_some, List.reduceReplicate, Nat.reduceAdd, Nat.reduceSub, ↓reduceIte, decide_eq_true_eq, Bool.false_eq_true, Bool.not_true, Bool.not_false, Nat.zero_add, true_and, if_false_right, wO_seq, seq_nx, id_eq, hkk, cut_take hkr, cut_drop hkr1, t, List.length_append, List.length_take, List.length_drop, List.length_map]
      exact ⟨lenOk_small (by omega), lenOk_small (by omega), lenOk_small (by omega), trivial⟩
    rw [List.map_id, hBl] at q
    have b0 := F.t0e (st := Sst xs (c2 + 1)) (b := .int 0) hm1 hm
    have b1 := F.t1x (st := Sst xs (c2 + 1)) (rows := rows) (b := .int 0) hm1 hm (by omega)
    have e2 : (1 : Int) * 2 ^ ((m : Int)).toNat = ((2 ^ m : Nat) : Int) := one_shl m
    simp -implicitDefEqProofs only [q, wE_run, wE_ok, wE_exn, wE_stuck, wE_bind, wE_of, wE_ite, wE_iteB, wE_iteP, wP_some, wP_none, wP_ite, wP_iteP, wP_map, wP_bind, wO_out, wO_nx, wO_rt, wO_bk, wO_ct, wO_ex, wO_stuck, wO_iteB, wO_ite, seq_rt, seq_bk, seq_ct, seq_ex, sNo_at, sBk_at, sCt_at, sEx_at, sRt_at, sIf_at, sSet_at, sOwn_at, sAug_at, sApp_at, sPut_at, sExt_at, sAsg_at, sPar_at, sFz_at, fz_at, sRs_at, sRef_at, eK_at, eVar_at, eVarB_at, eBin_at, eUn_at, eCh_at, eNo_at, eAn_at, eOu_at, eIf_at, tBl_at, tTru_at, tNo_at, tAn_at, tOu_at, tYe_at, aNil_at, aCons_at, eTup_at, eLst_at, aLst_at, eIx_at, pNo_at, pSo_at, eSl_at, eCall_at, aLc_at, eLc_at, wipe_nil, wipe_cons, iSeq_at, iRg1_at, iRg2_at, eLRg_at, eTRg_at, iEnu_at, aOfL_at, gNm_at, gsNo_nil, gsCo_cons, gTp_tup, sFor_at, seqD, dAdd, dMul, gI, dIs, dNot, dIsnt, dTru, dNeg, dInv, dIx, dSl, dLen, dAbs, dInt, dTup, dLst, List.map_cons, List.map_nil, List.cons_append, List.nil_append, List.length_cons, List.length_nil, List.getElem?_cons_zero, List.getElem?_cons_succ, List.set_cons_zero, List.set_cons_succ, Option.bind_some, Option.map_some, List.reduceReplicate, Nat.reduceAdd, Nat.reduceSub, ↓reduceIte, decide_eq_true_eq, Bool.false_eq_true, Bool.not_true, Bool.not_false, Nat.zero_add, true_and, if_false_right, wO_seq, seq_nx, b0, b1, e2, a4]
    refine ⟨lenOk_small (by omega), lenOk_small (by omega), lenOk_small (by omega), lenOk_small (by omega), shOk_one (by omega), lenOk_small (by omega), lenOk_small (by decide), lenOk_small (by omega), by decide, ?_⟩
    change wE (Φ i__law_same [D.lst (List.replicate 8 (.str "refused")), _] _) _ _
    rw [F.same (d := .lst (List.replicate 8 (.str "refused"))) (d' := D.lst (List.replicate (Int.toNat 8) [D.str "refused"]).flatten) (nice_lst (nices_all (w := 20) (k := 0) (n := 8) (fun d hd => by rw [(List.mem_replicate.mp hd).2]; exact nrf) (by rw [List.length_replicate]; exact Nat.le_refl 8))) rfl (by decide) (by decide)]
    simp -implicitDefEqProofs only [wE_run, wE_ok, wE_exn, wE_stuck, wE_bind, wE_of, wE_ite, wE_iteB, wE_iteP, wP_some, wP_none, wP_ite, wP_iteP, wP_map, wP_bind, wO_out, wO_nx, wO_rt, wO_bk, wO_ct, wO_ex, wO_stuck, wO_iteB, wO_ite, seq_rt, seq_bk, seq_ct, seq_ex, sNo_at, sBk_at, sCt_at, sEx_at, sRt_at, sIf_at, sSet_at, sOwn_at, sAug_at, sApp_at, sPut_at, sExt_at, sAsg_at, sPar_at, sFz_at, fz_at, sRs_at, sRef_at, eK_at, eVar_at, eVarB_at, eBin_at, eUn_at, eCh_at, eNo_at, eAn_at, eOu_at, eIf_at, tBl_at, tTru_at, tNo_at, tAn_at, tOu_at, tYe_at, aNil_at, aCons_at, eTup_at, eLst_at, aLst_at, eIx_at, pNo_at, pSo_at, eSl_at, eCall_at, aLc_at, eLc_at, wipe_nil, wipe_cons, iSeq_at, iRg1_at, iRg2_at, eLRg_at, eTRg_at, iEnu_at, aOfL_at, gNm_at, gsNo_nil, gsCo_cons, gTp_tup, sFor_at, seqD, dAdd, dMul, gI, dIs, dNot, dIsnt, dTru, dNeg, dInv, dIx, dSl, dLen, dAbs, dInt, dTup, dLst, List.map_cons, List.map_nil, List.cons_append, List.nil_append, List.length_cons, List.length_nil, List.getElem?_cons_zero, List.getElem?_cons_succ, List.set_cons_zero, List.set_cons_succ, Option.bind_some, Option.map_some, List.reduceReplicate, Nat.reduceAdd, Nat.reduceSub, ↓reduceIte, decide_eq_true_eq, Bool.false_eq_true, Bool.not_true, Bool.not_false, Nat.zero_add, true_and, if_false_right, wO_seq, seq_nx, hrep', dEqV]
    exact ⟨by simp, c2 + 1, rfl, by omega, by omega⟩
  · rintro j d acc st' hd ⟨p, rfl, rfl⟩
    obtain ⟨w, h1', rfl⟩ := map_at hd
    have hjm : j < m := by
      have := (List.getElem?_eq_some_iff.mp h1').1
      rw [List.length_range] at this; exact this
    obtain rfl : w = j := by
      rw [List.getElem?_range hjm] at h1'; exact (Option.some.inj h1').symm
    rw [Nat.zero_add] at *
    simp -implicitDefEqProofs (disch := omega) only [wE_run, wE_ok, wE_exn, wE_stuck, wE_bind, wE_of, wE_ite, wE_iteB, wE_iteP, wP_some, wP_none, wP_ite, wP_iteP, wP_map, wP_bind, wO_out, wO_nx, wO_rt, wO_bk, wO_ct, wO_ex, wO_stuck, wO_iteB, wO_ite, seq_rt, seq_bk, seq_ct, seq_ex, sNo_at, sBk_at, sCt_at, sEx_at, sRt_at, sIf_at, sSet_at, sOwn_at, sAug_at, sApp_at, sPut_at, sExt_at, sAsg_at, sPar_at, sFz_at, fz_at, sRs_at, sRef_at, eK_at, eVar_at, eVarB_at, eBin_at, eUn_at, eCh_at, eNo_at, eAn_at, eOu_at, eIf_at, tBl_at, tTru_at, tNo_at, tAn_at, tOu_at, tYe_at, aNil_at, aCons_at, eTup_at, eLst_at, aLst_at, eIx_at, pNo_at, pSo_at, eSl_at, eCall_at, aLc_at, eLc_at, wipe_nil, wipe_cons, iSeq_at, iRg1_at, iRg2_at, eLRg_at, eTRg_at, iEnu_at, aOfL_at, gNm_at, gsNo_nil, gsCo_cons, gTp_tup, sFor_at, seqD, dAdd, dMul, gI, dIs, dNot, dIsnt, dTru, dNeg, dInv, dIx, dSl, dLen, dAbs, dInt, dTup, dLst, List.map_cons, List.map_nil, List.cons_append, List.nil_append, List.length_cons, List.length_nil, List.getElem?_cons_zero, List.getElem?_cons_succ, List.set_cons_zero, List.set_cons_succ, Option.bind_some, Option.map_some, List.reduceReplicate, Nat.reduceAdd, Nat.reduceSub, ↓reduceIte, decide_eq_true_eq, Bool.false_eq_true, Bool.not_true, Bool.not_false, Nat.zero_add, true_and, if_false_right, wO_seq, seq_nx, hnx, dEqV_int]
    have es : Sst xs (c1 + ↑w + 1) = Sst xs (c1 + ↑(w + 1)) := congrArg (Sst xs) (by omega)
    have step : ∀ b : Bool, ∃ q : Nat → Bool, List.map nD (List.map (fun x => 2 ^ x) (List.filter p (List.range w))) ++ (if b then [nD (2 ^ w)] else []) = List.map nD (List.map (fun x => 2 ^ x) (List.filter q (List.range (w + 1)))) := fun b => by
      refine ⟨fun v => if v < w then p v else b, ?_⟩
      rw [filter_range_succ, List.map_append, List.map_append, List.filter_congr (p := fun v => if v < w then p v else b) (q := p) fun v hv => if_pos (List.mem_range.mp hv)]
      congr 1
      cases b <;> simp
    refine ite2 (fun _ => ?_) fun _ => ?_
    · obtain ⟨q, hq⟩ := step true
      refine ⟨shOk_one (by omega), q, ?_, es⟩
      rw [← hq, one_shl]; rfl
    · obtain ⟨q, hq⟩ := step false
      exact ⟨q, by rw [← hq]; simp, es⟩
end
theorem and_nat {a b : Nat} : Builtin.bitAnd (a : Int) (b : Int) = ((a &&& b : Nat) : Int) := by
  simp [Builtin.bitAnd]
theorem nD_iD {as : List Nat} : as.map nD = iD (as.map fun w : Nat => (w : Int)) := by
  unfold iD
  rw [List.map_map]; rfl
theorem cast_inj {as bs : List Nat} : (as.map fun w : Nat => (w : Int)) = (bs.map fun w : Nat => (w : Int)) ↔ as = bs := by
  refine ⟨fun h => ?_, fun h => by rw [h]⟩
  have := congrArg (List.map Int.toNat) h
  rw [List.map_map, List.map_map] at this
  have e : (Int.toNat ∘ fun w : Nat => (w : Int)) = id := rfl
  rwa [e, List.map_id, List.map_id] at this
theorem dEqV_tupN {as bs : List Nat} : dEqV (.tup (as.map nD)) (.tup (bs.map nD)) = some (.bl (decide (as = bs))) := by
  rw [nD_iD, nD_iD, dEqV_tup]
  congr 2
  exact decide_eq_decide.mpr cast_inj
theorem tbl_len {m : Nat} {rows : List (List Nat)} : (tableN m rows).length = 2 ^ m := table_tbl.len
theorem tbl_changed {m : Nat} {rows : List (List Nat)} {o o' : Nat} (ho : o < 2 ^ m) (hs : o' &&& o = o') : Tbl m ((tableN m rows).take o ++ [o'] ++ (tableN m rows).drop (o + 1)) := by
  have hl := tbl_len (m := m) (rows := rows)
  have ht := table_tbl (m := m) (rows := rows)
  refine ⟨by rw [List.length_append, List.length_append, List.length_take, List.length_drop, hl]; simp only [List.length_cons, List.length_nil]; omega, fun x v h => ?_⟩
  have hlt : ((tableN m rows).take o).length = o := by rw [List.length_take, hl]; omega
  rw [List.append_assoc] at h
  rcases Nat.lt_trichotomy x o with hx | rfl | hx
  · rw [List.getElem?_append_left (by omega), List.getElem?_take_of_lt hx] at h
    exact ht.sub _ _ h
  · rw [List.getElem?_append_right (by omega), hlt, Nat.sub_self] at h
    cases h
    exact hs
  · rw [List.getElem?_append_right (by omega), hlt] at h
    obtain ⟨y, rfl⟩ : ∃ y, x = o + 1 + y := ⟨x - (o + 1), by omega⟩
    rw [show o + 1 + y - o = y + 1 by omega] at h
    have h : ((tableN m rows).drop (o + 1))[y]? = some v := h
    rw [List.getElem?_drop] at h
    exact ht.sub _ _ h
def ansD (b : Bool) : D := if b then .tup [.str "told", .bl true] else .str "paper"
section
variable {Φ : Nat → Fv} {xs : List Int}
theorem table_fits_ok (F : Sp Φ xs) {c : Int} (h0 : 0 ≤ c) (h1 : c ≤ 100000) {m : Nat} (hm1 : 1 ≤ m) (hm : m ≤ 5) :
    wE (runB 11 (c__law_table_fits Φ) [.ref 0, nD m] (Sst xs c)) (fun d st' => d = .bl true ∧ ∃ c', st' = Sst xs c' ∧ 0 ≤ c' ∧ c' ≤ c + 300) fun _ _ => False := by
  have hnx : ∀ c m : Int, 0 ≤ c → c ≤ 1000000 → 0 < m → Φ i__law_next [.ref 0, .int m] (Sst xs c) = .ok (.int (nxI xs (c + 1) % m)) (Sst xs (c + 1)) := F.nx
  obtain ⟨rows, c1, e1, hg, hl1, hl6, q1, q2⟩ := F.dr h0 (by omega) hm1 (show m ≤ 32 by omega) (n := 4) (by omega) (by omega)
  obtain ⟨rows', c2, e2, hg', hl1', hl6', q1', q2'⟩ := F.dr (c := c1 + 1 + 1) (by omega) (by omega) hm1 (show m ≤ 32 by omega) (n := 3) (by omega) (by omega)
  have e1' : Φ i__law_drawn_rows [.ref 0, nD m, .int 4] (Sst xs c) = .ok (rowsN rows) (Sst xs c1) := e1
  have e2' : Φ i__law_drawn_rows [.ref 0, nD m, .int 3] (Sst xs (c1 + 1 + 1)) = .ok (rowsN rows') (Sst xs c2) := e2
  have hne : rows ≠ [] := fun h => by rw [h] at hl1; simp at hl1
  have hne' : rows' ≠ [] := fun h => by rw [h] at hl1'; simp at hl1'
  have hga := hg.append hg'
  have hnea : rows ++ rows' ≠ [] := by simp [hne]
  have hla : (rows ++ rows').length ≤ 200 := by rw [List.length_append]; omega
  have hpow : 2 ^ m ≤ 2 ^ 5 := Nat.pow_le_pow_right (by decide) hm
  have hpos : 0 < 2 ^ m := Nat.pow_pos (by decide)
  have t1 := F.tb (st := Sst xs c1) (rows := rows) hm (hg.small (by omega))
  have t2 := F.tb (st := Sst xs c2) (rows := rows') hm (hg'.small (by omega))
  have t3 := F.tb (st := Sst xs c2) (rows := rows ++ rows') hm (hga.small (by omega))
  have n1 := hnx c1 ((2 ^ m : Nat) : Int) (by omega) (by omega) (by omega)
  have n2 := hnx (c1 + 1) ((2 ^ m : Nat) : Int) (by omega) (by omega) (by omega)
  have es := one_shl m
  have md : ∀ z : Int, ∃ o : Nat, o < 2 ^ m ∧ z % ((2 ^ m : Nat) : Int) = (o : Int) := fun z => by
    have q1 := Int.emod_nonneg z (show ((2 ^ m : Nat) : Int) ≠ 0 by omega)
    have q2 := Int.emod_lt_of_pos z (show 0 < ((2 ^ m : Nat) : Int) by omega)
    exact ⟨(z % ((2 ^ m : Nat) : Int)).toNat, by omega, by omega⟩
  obtain ⟨o, ho, eo⟩ := md (nxI xs (c1 + 1))
  obtain ⟨o2, ho2, eo2⟩ := md (nxI xs (c1 + 1 + 1))
  rw [eo] at n1
  rw [eo2] at n2
  have hlt : ((tableN m rows).map nD).length = 2 ^ m := by rw [List.length_map, tbl_len]
  have ho1 : ((o : Int) + 1) = ((o + 1 : Nat) : Int) := rfl
  have k1 : OM.cutD ((tableN m rows).map nD) none (some (o : Int)) = ((tableN m rows).take o).map nD := by rw [cut_take (by omega), List.map_take]
  have k2 : OM.cutD ((tableN m rows).map nD) (some ((o + 1 : Nat) : Int)) none = ((tableN m rows).drop (o + 1)).map nD := by rw [cut_drop (by omega), List.map_drop]
  have hcl : ((tableN m rows).take o).length + 1 + ((tableN m rows).drop (o + 1)).length = 2 ^ m := by rw [List.length_take, List.length_drop, tbl_len]; omega
  have hT : Tbl m ((tableN m rows).take o ++ [o &&& o2] ++ (tableN m rows).drop (o + 1)) := tbl_changed ho (by rw [Nat.and_comm, ← Nat.and_assoc, Nat.and_self])
  have f1 := F.t1 (st := Sst xs c2) (b := .int 0) hm1 hm (show rows.length ≤ 200 by omega) hne hg
  have f2 := F.t3 (st := Sst xs c2) hm1 hm (show rows.length ≤ 200 by omega) hne hg (table_tbl (m := m) (rows := rows))
  have f3 := F.t3 (st := Sst xs c2) hm1 hm (show rows.length ≤ 200 by omega) hne hg hT
  have f4 := F.t3 (st := Sst xs c2) hm1 hm (show rows'.length ≤ 200 by omega) hne' hg' (table_tbl (m := m) (rows := rows))
  have f5 := F.t3 (st := Sst xs c2) hm1 hm hla hnea hga (table_tbl (m := m) (rows := rows))
  rw [if_pos rfl] at f2
  have ech : ((tableN m rows).take o).map nD ++ [D.int ((o &&& o2 : Nat) : Int)] ++ ((tableN m rows).drop (o + 1)).map nD = ((tableN m rows).take o ++ [o &&& o2] ++ (tableN m rows).drop (o + 1)).map nD := by rw [List.map_append, List.map_append]; rfl
  have era : rows.map rowN ++ rows'.map rowN = (rows ++ rows').map rowN := by rw [List.map_append]
  have hla' : rows.length + rows'.length ≤ 200 := by omega
  have tod : ∀ {P : Prop} [Decidable P], (if P then D.tup [.str "told", .bl true] else .str "paper") = ansD (decide P) := fun {P} _ => by
    unfold ansD
    by_cases h : P
    · rw [if_pos h, if_pos (decide_eq_true h)]
    · rw [if_neg h, if_neg (by simp [h])]
  rw [tod] at f3 f4 f5
  have d4 : decide (tableN m rows = tableN m rows') = decide (tableN m rows' = tableN m rows) := decide_eq_decide.mpr eq_comm
  have d5 : decide (tableN m rows = tableN m (rows ++ rows')) = decide (tableN m (rows ++ rows') = tableN m rows) := decide_eq_decide.mpr eq_comm
  rw [d4] at f4
  rw [d5] at f5
  clear d4 d5 tod
  have nsm : ∀ v ∈ tableN m rows, v < 100000000000000000000 := fun v hv => by
    unfold tableN at hv
    obtain ⟨x, hx, rfl⟩ := List.mem_map.mp hv
    have hx := List.mem_range.mp hx
    have := firsts_sub rows x
    have h2 : firstsN rows x ≤ x := by rw [← this]; exact Nat.and_le_right
    omega
  have ntb : Nice 2272 1 (.tup ((tableN m rows).map nD)) := nice_tup (nices_nat (n := 32) nsm (by rw [tbl_len]; omega))
  simp only [rowsN] at e1' e2' t1 t2 t3 f1 f2 f3 f4 f5
  generalize htb : tableN m rows = tb at *
  generalize hch : tb.take o ++ [o &&& o2] ++ tb.drop (o + 1) = ch at *
  simp -implicitDefEqProofs only [c__law_table_fits, wE_run, wE_ok, wE_exn, wE_stuck, wE_bind, wE_of, wE_ite, wE_iteB, wE_iteP, wP_some, wP_none, wP_ite, wP_iteP, wP_map, wP_bind, wO_out, wO_nx, wO_rt, wO_bk, wO_ct, wO_ex, wO_stuck, wO_iteB, wO_ite, seq_rt, seq_bk, seq_ct, seq_ex, sNo_at, sBk_at, sCt_at, sEx_at, sRt_at, sIf_at, sSet_at, sOwn_at, sAug_at, sApp_at, sPut_at, sExt_at, sAsg_at, sPar_at, sFz_at, fz_at, sRs_at, sRef_at, eK_at, eVar_at, eVarB_at, eBin_at, eUn_at, eCh_at, eNo_at, eAn_at, eOu_at, eIf_at, tBl_at, tTru_at, tNo_at, tAn_at, tOu_at, tYe_at, aNil_at, aCons_at, eTup_at, eLst_at, aLst_at, eIx_at, pNo_at, pSo_at, eSl_at, eCall_at, aLc_at, eLc_at, wipe_nil, wipe_cons, iSeq_at, iRg1_at, iRg2_at, eLRg_at, eTRg_at, iEnu_at, aOfL_at, gNm_at, gsNo_nil, gsCo_cons, gTp_tup, sFor_at, seqD, dAdd, dMul, gI, dIs, dNot, dIsnt, dTru, dNeg, dInv, dIx, dSl, dLen, dAbs, dInt, dTup, dLst, List.map_cons, List.map_nil, List.cons_append, List.nil_append, List.length_cons, List.length_nil, List.getElem?_cons_zero, List.getElem?_cons_succ, List.set_cons_zero, List.set_cons_succ, Option.bind_some, Option.map_some, List.reduceReplicate, Nat.reduceAdd, Nat.reduceSub, ↓reduceIte, decide_eq_true_eq, Bool.false_eq_true, Bool.not_true, Bool.not_false, Nat.zero_add, true_and, if_false_right, wO_seq, seq_nx, e1', e2', t1, t2, n1, n2, es, and_nat, ho1, k1, k2, List.length_map, List.length_append]
  simp -implicitDefEqProofs only [ech, era, f1, f2, f3, f4, f5, t2, t3, dEqV_tupN, wE_run, wE_ok, wE_exn, wE_stuck, wE_bind, wE_of, wE_ite, wE_iteB, wE_iteP, wP_some, wP_none, wP_ite, wP_iteP, wP_map, wP_bind, wO_out, wO_nx, wO_rt, wO_bk, wO_ct, wO_ex, wO_stuck, wO_iteB, wO_ite, seq_rt, seq_bk, seq_ct, seq_ex, sNo_at, sBk_at, sCt_at, sEx_at, sRt_at, sIf_at, sSet_at, sOwn_at, sAug_at, sApp_at, sPut_at, sExt_at, sAsg_at, sPar_at, sFz_at, fz_at, sRs_at, sRef_at, eK_at, eVar_at, eVarB_at, eBin_at, eUn_at, eCh_at, eNo_at, eAn_at, eOu_at, eIf_at, tBl_at, tTru_at, tNo_at, tAn_at, tOu_at, tYe_at, aNil_at, aCons_at, eTup_at, eLst_at, aLst_at, eIx_at, pNo_at, pSo_at, eSl_at, eCall_at, aLc_at, eLc_at, wipe_nil, wipe_cons, iSeq_at, iRg1_at, iRg2_at, eLRg_at, eTRg_at, iEnu_at, aOfL_at, gNm_at, gsNo_nil, gsCo_cons, gTp_tup, sFor_at, seqD, dAdd, dMul, gI, dIs, dNot, dIsnt, dTru, dNeg, dInv, dIx, dSl, dLen, dAbs, dInt, dTup, dLst, List.map_cons, List.map_nil, List.cons_append, List.nil_append, List.length_cons, List.length_nil, List.getElem?_cons_zero, List.getElem?_cons_succ, List.set_cons_zero, List.set_cons_succ, Option.bind_some, Option.map_some, List.reduceReplicate, Nat.reduceAdd, Nat.reduceSub, ↓reduceIte, decide_eq_true_eq, Bool.false_eq_true, Bool.not_true, Bool.not_false, Nat.zero_add, true_and, if_false_right, wO_seq, seq_nx]
  have hsh : shOk 1 (m : Int) = true := shOk_one (by omega)
  refine ⟨hsh, hsh, lenOk_small (by omega), lenOk_small (by omega), lenOk_small (by omega), lenOk_small (by omega), lenOk_small (by omega), lenOk_small (by omega), lenOk_small (by omega), lenOk_small (by omega), lenOk_small (by omega), lenOk_small (by omega), ?_⟩
  generalize ha : decide (ch = tb) = b1
  generalize hb : decide (tableN m rows' = tb) = b2
  generalize hc : decide (tableN m (rows ++ rows') = tb) = b3
  have ntold : Nice 20 0 (.str "told") := nice_word (by decide +kernel) (by decide +kernel)
  have npap : Nice 20 0 (.str "paper") := nice_word (by decide +kernel) (by decide +kernel)
  have nans : ∀ b, Nice 40 1 (ansD b) := fun b => by
    unfold ansD
    split
    · exact (nice_tup (nices_cons ntold (nices_cons nice_bl nices_nil))).mono (by decide) (by decide)
    · exact npap.mono (by decide) (by decide)
  change wO (forL _ _ ([b1, b2, b3].map D.bl) _ _) _
  refine wO_forL (fun i ρ st' => st' = Sst xs c2 ∧ ∃ z, ρ = [Sl.vl (D.ref 0), Sl.vl (nD m), Sl.vl (D.tup (List.map rowN rows)), Sl.vl (D.tup (List.map nD tb)), Sl.vl (D.int ↑o), Sl.vl (D.int ↑(o &&& o2)), Sl.vl (D.tup (List.map nD ch)), Sl.vl (D.tup (List.map rowN rows')), Sl.vl (D.lst [D.tup [.str "told", D.tup (List.map nD tb)], D.tup [.str "told", .bl true], ansD b1, ansD b2, ansD b3]), Sl.ow ([D.tup [.str "told", D.tup (List.map nD tb)], D.tup [.str "told", D.bl true]] ++ ([b1, b2, b3].take i).map ansD), z]) _ 0 _ _ ⟨rfl, _, rfl⟩ ?_ ?_
  · rintro ρ st' ⟨rfl, z, rfl⟩
    simp -implicitDefEqProofs only [wE_run, wE_ok, wE_exn, wE_stuck, wE_bind, wE_of, wE_ite, wE_iteB, wE_iteP, wP_some, wP_none, wP_ite, wP_iteP, wP_map, wP_bind, wO_out, wO_nx, wO_rt, wO_bk, wO_ct, wO_ex, wO_stuck, wO_iteB, wO_ite, seq_rt, seq_bk, seq_ct, seq_ex, sNo_at, sBk_at, sCt_at, sEx_at, sRt_at, sIf_at, sSet_at, sOwn_at, sAug_at, sApp_at, sPut_at, sExt_at, sAsg_at, sPar_at, sFz_at, fz_at, sRs_at, sRef_at, eK_at, eVar_at, eVarB_at, eBin_at, eUn_at, eCh_at, eNo_at, eAn_at, eOu_at, eIf_at, tBl_at, tTru_at, tNo_at, tAn_at, tOu_at, tYe_at, aNil_at, aCons_at, eTup_at, eLst_at, aLst_at, eIx_at, pNo_at, pSo_at, eSl_at, eCall_at, aLc_at, eLc_at, wipe_nil, wipe_cons, iSeq_at, iRg1_at, iRg2_at, eLRg_at, eTRg_at, iEnu_at, aOfL_at, gNm_at, gsNo_nil, gsCo_cons, gTp_tup, sFor_at, seqD, dAdd, dMul, gI, dIs, dNot, dIsnt, dTru, dNeg, dInv, dIx, dSl, dLen, dAbs, dInt, dTup, dLst, List.map_cons, List.map_nil, List.cons_append, List.nil_append, List.length_cons, List.length_nil, List.getElem?_cons_zero, List.getElem?_cons_succ, List.set_cons_zero, List.set_cons_succ, Option.bind_some, Option.map_some, List.reduceReplicate, Nat.reduceAdd, Nat.reduceSub, ↓reduceIte, decide_eq_true_eq, Bool.false_eq_true, Bool.not_true, Bool.not_false, Nat.zero_add, true_and, if_false_right, wO_seq, seq_nx, List.take, List.length_map]
    rw [F.same (d' := D.lst [D.tup [.str "told", D.tup (List.map nD tb)], D.tup [.str "told", .bl true], ansD b1, ansD b2, ansD b3]) (nice_lst (nices_cons (nice_tup (nices_cons ntold (nices_cons ntb nices_nil))) (nices_cons (nice_tup (nices_cons ntold (nices_cons (nice_bl (b := true)) nices_nil))) (nices_cons (nans b1) (nices_cons (nans b2) (nices_cons (nans b3) nices_nil)))))) rfl (by decide) (by decide)]
    rw [wE_ok]
    exact ⟨rfl, c2, rfl, by omega, by omega⟩
  · rintro j d ρ st' hd ⟨rfl, z, rfl⟩
    obtain ⟨b, hb', rfl⟩ := map_at hd
    rw [Nat.zero_add, List.take_succ, hb']
    simp -implicitDefEqProofs only [wE_run, wE_ok, wE_exn, wE_stuck, wE_bind, wE_of, wE_ite, wE_iteB, wE_iteP, wP_some, wP_none, wP_ite, wP_iteP, wP_map, wP_bind, wO_out, wO_nx, wO_rt, wO_bk, wO_ct, wO_ex, wO_stuck, wO_iteB, wO_ite, seq_rt, seq_bk, seq_ct, seq_ex, sNo_at, sBk_at, sCt_at, sEx_at, sRt_at, sIf_at, sSet_at, sOwn_at, sAug_at, sApp_at, sPut_at, sExt_at, sAsg_at, sPar_at, sFz_at, fz_at, sRs_at, sRef_at, eK_at, eVar_at, eVarB_at, eBin_at, eUn_at, eCh_at, eNo_at, eAn_at, eOu_at, eIf_at, tBl_at, tTru_at, tNo_at, tAn_at, tOu_at, tYe_at, aNil_at, aCons_at, eTup_at, eLst_at, aLst_at, eIx_at, pNo_at, pSo_at, eSl_at, eCall_at, aLc_at, eLc_at, wipe_nil, wipe_cons, iSeq_at, iRg1_at, iRg2_at, eLRg_at, eTRg_at, iEnu_at, aOfL_at, gNm_at, gsNo_nil, gsCo_cons, gTp_tup, sFor_at, seqD, dAdd, dMul, gI, dIs, dNot, dIsnt, dTru, dNeg, dInv, dIx, dSl, dLen, dAbs, dInt, dTup, dLst, List.map_cons, List.map_nil, List.cons_append, List.nil_append, List.length_cons, List.length_nil, List.getElem?_cons_zero, List.getElem?_cons_succ, List.set_cons_zero, List.set_cons_succ, Option.bind_some, Option.map_some, List.reduceReplicate, Nat.reduceAdd, Nat.reduceSub, ↓reduceIte, decide_eq_true_eq, Bool.false_eq_true, Bool.not_true, Bool.not_false, Nat.zero_add, true_and, if_false_right, wO_seq, seq_nx]
    have ab : atI [D.str "paper", D.tup [D.str "told", D.bl true]] (if b = true then 1 else 0) = some (ansD b) := by cases b <;> rfl
    have hl : (List.take j [b1, b2, b3]).length ≤ 3 := by rw [List.length_take]; exact Nat.min_le_right _ _
    refine ⟨lenOk_small (by omega), lenOk_small (by omega), ?_⟩
    rw [ab, wP_some]
    exact ⟨lenOk_small (by rw [List.length_map]; omega), _, by rw [List.map_append]; rfl⟩
def InvL (ns xs : List Int) (i : Nat) (ρ : En) (st : Stor) : Prop := ∃ (c : Int) (a2 a3 a4 : Sl), ρ = [.vl (.scr ns), .vl (.ref 0), a2, a3, a4] ∧ st = Sst xs c ∧ 0 ≤ c ∧ c ≤ 700 * i
theorem flat_rep {α : Type} (a : α) : ∀ n : Nat, (List.replicate n [a]).flatten = List.replicate n a
  | 0 => rfl
  | n + 1 => by rw [List.replicate_succ, List.flatten_cons, flat_rep a n, List.replicate_succ]; rfl
theorem md_ok (z : Int) {n : Nat} (h : 0 < n) : ∃ o : Nat, o < n ∧ z % (n : Int) = (o : Int) := by
  have q1 := Int.emod_nonneg z (show (n : Int) ≠ 0 by omega)
  have q2 := Int.emod_lt_of_pos z (show 0 < (n : Int) by omega)
  exact ⟨(z % (n : Int)).toNat, by omega, by omega⟩
def FitF (Φ : Nat → Fv) (xs : List Int) (i : Nat) (n : Nat) : Prop := ∀ {c : Int}, 0 ≤ c → c ≤ 100000 → ∀ {m : Nat}, 1 ≤ m → m ≤ n → ∃ c', Φ i [.ref 0, nD m] (Sst xs c) = .ok (.bl true) (Sst xs c') ∧ 0 ≤ c' ∧ c' ≤ c + 300
theorem law_ok {ns : List Int} (F : Sp Φ xs) (hf : FitF Φ xs i__law_fits 32) (ht : FitF Φ xs i__law_table_fits 5) (hs : Φ i__law_stream [.scr ns] [] = .ok (.lst (xs.map .int)) []) : wE (runB 5 (c_law Φ) [.scr ns] []) (fun d _ => d = .bl true) fun _ _ => False := by
  have hnx : ∀ c m : Int, 0 ≤ c → c ≤ 1000000 → 0 < m → Φ i__law_next [.ref 0, .int m] (Sst xs c) = .ok (.int (nxI xs (c + 1) % m)) (Sst xs (c + 1)) := F.nx
  simp -implicitDefEqProofs only [c_law, wE_run, wE_ok, wE_exn, wE_stuck, wE_bind, wE_of, wE_ite, wE_iteB, wE_iteP, wP_some, wP_none, wP_ite, wP_iteP, wP_map, wP_bind, wO_out, wO_nx, wO_rt, wO_bk, wO_ct, wO_ex, wO_stuck, wO_iteB, wO_ite, seq_rt, seq_bk, seq_ct, seq_ex, sNo_at, sBk_at, sCt_at, sEx_at, sRt_at, sIf_at, sSet_at, sOwn_at, sAug_at, sApp_at, sPut_at, sExt_at, sAsg_at, sPar_at, sFz_at, fz_at, sRs_at, sRef_at, eK_at, eVar_at, eVarB_at, eBin_at, eUn_at, eCh_at, eNo_at, eAn_at, eOu_at, eIf_at, tBl_at, tTru_at, tNo_at, tAn_at, tOu_at, tYe_at, aNil_at, aCons_at, eTup_at, eLst_at, aLst_at, eIx_at, pNo_at, pSo_at, eSl_at, eCall_at, aLc_at, eLc_at, wipe_nil, wipe_cons, iSeq_at, iRg1_at, iRg2_at, eLRg_at, eTRg_at, iEnu_at, aOfL_at, gNm_at, gsNo_nil, gsCo_cons, gTp_tup, sFor_at, seqD, dAdd, dMul, gI, dIs, dNot, dIsnt, dTru, dNeg, dInv, dIx, dSl, dLen, dAbs, dInt, dTup, dLst, List.map_cons, List.map_nil, List.cons_append, List.nil_append, List.length_cons, List.length_nil, List.getElem?_cons_zero, List.getElem?_cons_succ, List.set_cons_zero, List.set_cons_succ, Option.bind_some, Option.map_some, List.reduceReplicate, Nat.reduceAdd, Nat.reduceSub, ↓reduceIte, decide_eq_true_eq, Bool.false_eq_true, Bool.not_true, Bool.not_false, Nat.zero_add, true_and, if_false_right, wO_seq, seq_nx, hs]
  refine ⟨lenOk_small (by omega), ?_⟩
  refine ⟨rgOk_small (by omega) (by omega), ?_⟩
  refine wO_forL (InvL ns xs) _ 0 _ _ ⟨0, _, _, _, rfl, rfl, by omega, by omega⟩ ?_ ?_
  · rintro ρ st ⟨c, a2, a3, a4, rfl, rfl, hc0, hc1⟩
    simp -implicitDefEqProofs only [wE_run, wE_ok, wE_exn, wE_stuck, wE_bind, wE_of, wE_ite, wE_iteB, wE_iteP, wP_some, wP_none, wP_ite, wP_iteP, wP_map, wP_bind, wO_out, wO_nx, wO_rt, wO_bk, wO_ct, wO_ex, wO_stuck, wO_iteB, wO_ite, seq_rt, seq_bk, seq_ct, seq_ex, sNo_at, sBk_at, sCt_at, sEx_at, sRt_at, sIf_at, sSet_at, sOwn_at, sAug_at, sApp_at, sPut_at, sExt_at, sAsg_at, sPar_at, sFz_at, fz_at, sRs_at, sRef_at, eK_at, eVar_at, eVarB_at, eBin_at, eUn_at, eCh_at, eNo_at, eAn_at, eOu_at, eIf_at, tBl_at, tTru_at, tNo_at, tAn_at, tOu_at, tYe_at, aNil_at, aCons_at, eTup_at, eLst_at, aLst_at, eIx_at, pNo_at, pSo_at, eSl_at, eCall_at, aLc_at, eLc_at, wipe_nil, wipe_cons, iSeq_at, iRg1_at, iRg2_at, eLRg_at, eTRg_at, iEnu_at, aOfL_at, gNm_at, gsNo_nil, gsCo_cons, gTp_tup, sFor_at, seqD, dAdd, dMul, gI, dIs, dNot, dIsnt, dTru, dNeg, dInv, dIx, dSl, dLen, dAbs, dInt, dTup, dLst, List.map_cons, List.map_nil, List.cons_append, List.nil_append, List.length_cons, List.length_nil, List.getElem?_cons_zero, List.getElem?_cons_succ, List.set_cons_zero, List.set_cons_succ, Option.bind_some, Option.map_some, List.reduceReplicate, Nat.reduceAdd, Nat.reduceSub, ↓reduceIte, decide_eq_true_eq, Bool.false_eq_true, Bool.not_true, Bool.not_false, Nat.zero_add, true_and, if_false_right, wO_seq, seq_nx]
    have e6 : rgD 0 6 = (List.range 6).map nD := rgD_nat' (n := 6)
    have g6 : ∀ n, Rws 6 (List.replicate n (List.range 6)) := fun n => ⟨fun r hr => by rw [(List.mem_replicate.mp hr).2]⟩
    have er : ∀ n : Nat, (List.replicate n [D.tup (rgD 0 6)]).flatten = (List.replicate n (List.range 6)).map rowN := fun n => by rw [flat_rep, e6, List.map_replicate]; rfl
    have er2 : ∀ n : Nat, D.tup ((List.replicate n (List.range 6)).map rowN) = rowsD (cstI (List.replicate n (List.range 6))) := fun n => rows_cast
    have ee : ∀ n : Nat, D.tup (List.replicate n [D.tup []]).flatten = rowsD (List.replicate n []) := fun n => by unfold rowsD; rw [flat_rep, List.map_replicate]; rfl
    have n200 : List.replicate (Int.toNat 200) (List.range 6) ≠ [] := by simp
    have b0 := F.t0 (st := Sst xs c) (b := .int 0) (m := 6) (by omega) (by omega) (rows := List.replicate (Int.toNat 200) (List.range 6)) (by rw [List.length_replicate]; decide) n200 (g6 _)
    have b1 := F.t0l (st := Sst xs c) (b := .int 0) (m := 6) (by omega) (by omega) (rs := cstI (List.replicate (Int.toNat 201) (List.range 6))) (by unfold cstI; rw [List.length_map, List.length_replicate]; decide)
    have b2 := F.t0l (st := Sst xs c) (b := .int 0) (m := 6) (by omega) (by omega) (rs := List.replicate (Int.toNat 201) []) (by rw [List.length_replicate]; decide)
    have b3 := F.t1l (st := Sst xs c) (b := .int 0) (m := 6) (by omega) (by omega) (rows := [List.range 6]) (by simp) (by simp) (g6 1)
    have b4 := F.t2 (st := Sst xs c) (m := 6) (x := 48) (by omega) (by omega) (rows := List.replicate (Int.toNat 200) (List.range 6)) (by rw [List.length_replicate]; decide) n200 (g6 _) (by decide)
    have e16 : firstsN (List.replicate (Int.toNat 200) (List.range 6)) 48 = 16 := by decide +kernel
    rw [e16] at b4
    rw [← er2, ← er] at b1
    rw [← ee] at b2
    simp only [rowsN, ← er] at b0 b4
    have b3' : Φ i__law_told [.int 1, .int 6, .tup [.tup (rgD 0 6)], .int 0] (Sst xs c) = .ok (.str "large") (Sst xs c) := by rw [e6]; exact b3
    have b0' : Φ i__law_told [.int 0, .int 6, .tup (List.replicate (Int.toNat 200) [D.tup (rgD 0 6)]).flatten, .int 0] (Sst xs c) = _ := b0
    have b1' : Φ i__law_told [.int 0, .int 6, .tup (List.replicate (Int.toNat 201) [D.tup (rgD 0 6)]).flatten, .int 0] (Sst xs c) = _ := b1
    have b2' : Φ i__law_told [.int 0, .int 6, .tup (List.replicate (Int.toNat 201) [D.tup []]).flatten, .int 0] (Sst xs c) = _ := b2
    have b4' : Φ i__law_told [.int 2, .int 6, .tup (List.replicate (Int.toNat 200) [D.tup (rgD 0 6)]).flatten, .int 48] (Sst xs c) = _ := b4
    simp -implicitDefEqProofs only [wE_run, wE_ok, wE_exn, wE_stuck, wE_bind, wE_of, wE_ite, wE_iteB, wE_iteP, wP_some, wP_none, wP_ite, wP_iteP, wP_map, wP_bind, wO_out, wO_nx, wO_rt, wO_bk, wO_ct, wO_ex, wO_stuck, wO_iteB, wO_ite, seq_rt, seq_bk, seq_ct, seq_ex, sNo_at, sBk_at, sCt_at, sEx_at, sRt_at, sIf_at, sSet_at, sOwn_at, sAug_at, sApp_at, sPut_at, sExt_at, sAsg_at, sPar_at, sFz_at, fz_at, sRs_at, sRef_at, eK_at, eVar_at, eVarB_at, eBin_at, eUn_at, eCh_at, eNo_at, eAn_at, eOu_at, eIf_at, tBl_at, tTru_at, tNo_at, tAn_at, tOu_at, tYe_at, aNil_at, aCons_at, eTup_at, eLst_at, aLst_at, eIx_at, pNo_at, pSo_at, eSl_at, eCall_at, aLc_at, eLc_at, wipe_nil, wipe_cons, iSeq_at, iRg1_at, iRg2_at, eLRg_at, eTRg_at, iEnu_at, aOfL_at, gNm_at, gsNo_nil, gsCo_cons, gTp_tup, sFor_at, seqD, dAdd, dMul, gI, dIs, dNot, dIsnt, dTru, dNeg, dInv, dIx, dSl, dLen, dAbs, dInt, dTup, dLst, List.map_cons, List.map_nil, List.cons_append, List.nil_append, List.length_cons, List.length_nil, List.getElem?_cons_zero, List.getElem?_cons_succ, List.set_cons_zero, List.set_cons_succ, Option.bind_some, Option.map_some, List.reduceReplicate, Nat.reduceAdd, Nat.reduceSub, ↓reduceIte, decide_eq_true_eq, Bool.false_eq_true, Bool.not_true, Bool.not_false, Nat.zero_add, true_and, if_false_right, wO_seq, seq_nx, b0', b1', b2', b3', b4']
    refine ⟨rgOk_small (by omega) (by omega), lenOk_small (by omega), rfl, lenOk_small (by omega), rfl, lenOk_small (by omega), lenOk_small (by omega), rfl, lenOk_small (by omega), lenOk_small (by omega), rfl, lenOk_small (by omega), lenOk_small (by omega), lenOk_small (by omega), lenOk_small (by omega), lenOk_small (by omega), lenOk_small (by omega), ?_⟩
    have ntold : Nice 20 0 (.str "told") := nice_word (by decide +kernel) (by decide +kernel)
    have nlg : Nice 20 0 (.str "large") := nice_word (by decide +kernel) (by decide +kernel)
    have ni : ∀ i : Int, 0 ≤ i → i ≤ 1000 → Nice 70 0 (.int i) := fun i h0 h1 => nice_int (by omega) (by omega)
    rw [F.same (d := .lst [.tup [.str "told", .non], .str "large", .str "large", .str "large", .tup [.str "told", nD 16], .int 4, .int 200]) (d' := .lst [.tup [.str "told", .non], .str "large", .str "large", .str "large", .tup [.str "told", .int 16], .int 4, .int 200]) (nice_lst (nices_cons (nice_tup (nices_cons ntold (nices_cons nice_non nices_nil))) (nices_cons nlg (nices_cons nlg (nices_cons nlg (nices_cons (nice_tup (nices_cons ntold (nices_cons (ni 16 (by omega) (by omega)) nices_nil))) (nices_cons (ni 4 (by omega) (by omega)) (nices_cons (ni 200 (by omega) (by omega)) nices_nil)))))))) rfl (by decide) (by decide)]
    rw [wE_ok]
  · rintro i d ρ st' hd ⟨c, a2, a3, a4, rfl, rfl, hc0, hc1⟩
    obtain ⟨rfl, hi⟩ := rgD_at hd
    rw [Nat.zero_add] at *
    have n1 := hnx c 9 hc0 (by omega) (by omega)
    have n2 := hnx (c + 1) 5 (by omega) (by omega) (by omega)
    obtain ⟨x9, h9, ex9⟩ := md_ok (nxI xs (c + 1)) (n := 9) (by omega)
    obtain ⟨x5, h5, ex5⟩ := md_ok (nxI xs (c + 1 + 1)) (n := 5) (by omega)
    have ex9 : nxI xs (c + 1) % 9 = (x9 : Int) := ex9
    have ex5 : nxI xs (c + 1 + 1) % 5 = (x5 : Int) := ex5
    rw [ex9] at n1
    rw [ex5] at n2
    obtain ⟨m, hm1, hm2, em⟩ : ∃ m : Nat, 1 ≤ m ∧ m ≤ 32 ∧ atI [D.int 32, D.int (1 + (x9 : Int))] (if 0 < (x5 : Int) then 1 else 0) = some (nD m) := by
      by_cases h : (x5 : Int) > 0
      · exact ⟨1 + x9, by omega, by omega, by rw [if_pos h]; rfl⟩
      · exact ⟨32, by omega, by omega, by rw [if_neg h]; rfl⟩
    obtain ⟨c1, f1, g1, g1'⟩ := hf (c := c + 1 + 1) (by omega) (by omega) hm1 hm2
    have n3 := hnx c1 5 (by omega) (by omega) (by omega)
    obtain ⟨y5, k5, ey5⟩ := md_ok (nxI xs (c1 + 1)) (n := 5) (by omega)
    have ey5 : nxI xs (c1 + 1) % 5 = (y5 : Int) := ey5
    rw [ey5] at n3
    obtain ⟨c2, f2, g2, g2'⟩ := ht (c := c1 + 1) (by omega) (by omega) (m := 1 + y5) (by omega) (by omega)
    have f2' : Φ i__law_table_fits [.ref 0, .int (1 + (y5 : Int))] (Sst xs (c1 + 1)) = .ok (.bl true) (Sst xs c2) := f2
    have E1 : tNo (tTru (eCall 2 (Φ i__law_fits) (aCons (eVar 1) (aCons (eIx (eLst (aCons (eK (.int 32)) (aCons (eBin dAdd (eK (.int 1)) (eCall 2 (Φ i__law_next) (aCons (eVar 1) (aCons (eK (.int 9)) aNil)))) aNil))) (eUn dInt (eBin dGt (eCall 2 (Φ i__law_next) (aCons (eVar 1) (aCons (eK (.int 5)) aNil))) (eK (.int 0))))) aNil)))) [Sl.vl (D.scr ns), Sl.vl (D.ref 0), Sl.vl (.int (0 + (i : Int))), a3, a4] (Sst xs c) = .ok false (Sst xs c1) := by
      refine wE_eq ?_
      simp -implicitDefEqProofs only [wE_run, wE_ok, wE_exn, wE_stuck, wE_bind, wE_of, wE_ite, wE_iteB, wE_iteP, wP_some, wP_none, wP_ite, wP_iteP, wP_map, wP_bind, wO_out, wO_nx, wO_rt, wO_bk, wO_ct, wO_ex, wO_stuck, wO_iteB, wO_ite, seq_rt, seq_bk, seq_ct, seq_ex, sNo_at, sBk_at, sCt_at, sEx_at, sRt_at, sIf_at, sSet_at, sOwn_at, sAug_at, sApp_at, sPut_at, sExt_at, sAsg_at, sPar_at, sFz_at, fz_at, sRs_at, sRef_at, eK_at, eVar_at, eVarB_at, eBin_at, eUn_at, eCh_at, eNo_at, eAn_at, eOu_at, eIf_at, tBl_at, tTru_at, tNo_at, tAn_at, tOu_at, tYe_at, aNil_at, aCons_at, eTup_at, eLst_at, aLst_at, eIx_at, pNo_at, pSo_at, eSl_at, eCall_at, aLc_at, eLc_at, wipe_nil, wipe_cons, iSeq_at, iRg1_at, iRg2_at, eLRg_at, eTRg_at, iEnu_at, aOfL_at, gNm_at, gsNo_nil, gsCo_cons, gTp_tup, sFor_at, seqD, dAdd, dMul, gI, dIs, dNot, dIsnt, dTru, dNeg, dInv, dIx, dSl, dLen, dAbs, dInt, dTup, dLst, List.map_cons, List.map_nil, List.cons_append, List.nil_append, List.length_cons, List.length_nil, List.getElem?_cons_zero, List.getElem?_cons_succ, List.set_cons_zero, List.set_cons_succ, Option.bind_some, Option.map_some, List.reduceReplicate, Nat.reduceAdd, Nat.reduceSub, ↓reduceIte, decide_eq_true_eq, Bool.false_eq_true, Bool.not_true, Bool.not_false, Nat.zero_add, true_and, if_false_right, wO_seq, seq_nx, n1, n2, em, f1]
      exact ⟨lenOk_small (by omega), trivial⟩
    have E2 : tNo (tTru (eCall 2 (Φ i__law_table_fits) (aCons (eVar 1) (aCons (eBin dAdd (eK (.int 1)) (eCall 2 (Φ i__law_next) (aCons (eVar 1) (aCons (eK (.int 5)) aNil)))) aNil)))) [Sl.vl (D.scr ns), Sl.vl (D.ref 0), Sl.vl (.int (0 + (i : Int))), a3, a4] (Sst xs c1) = .ok false (Sst xs c2) := by
      refine wE_eq ?_
      simp -implicitDefEqProofs only [wE_run, wE_ok, wE_exn, wE_stuck, wE_bind, wE_of, wE_ite, wE_iteB, wE_iteP, wP_some, wP_none, wP_ite, wP_iteP, wP_map, wP_bind, wO_out, wO_nx, wO_rt, wO_bk, wO_ct, wO_ex, wO_stuck, wO_iteB, wO_ite, seq_rt, seq_bk, seq_ct, seq_ex, sNo_at, sBk_at, sCt_at, sEx_at, sRt_at, sIf_at, sSet_at, sOwn_at, sAug_at, sApp_at, sPut_at, sExt_at, sAsg_at, sPar_at, sFz_at, fz_at, sRs_at, sRef_at, eK_at, eVar_at, eVarB_at, eBin_at, eUn_at, eCh_at, eNo_at, eAn_at, eOu_at, eIf_at, tBl_at, tTru_at, tNo_at, tAn_at, tOu_at, tYe_at, aNil_at, aCons_at, eTup_at, eLst_at, aLst_at, eIx_at, pNo_at, pSo_at, eSl_at, eCall_at, aLc_at, eLc_at, wipe_nil, wipe_cons, iSeq_at, iRg1_at, iRg2_at, eLRg_at, eTRg_at, iEnu_at, aOfL_at, gNm_at, gsNo_nil, gsCo_cons, gTp_tup, sFor_at, seqD, dAdd, dMul, gI, dIs, dNot, dIsnt, dTru, dNeg, dInv, dIx, dSl, dLen, dAbs, dInt, dTup, dLst, List.map_cons, List.map_nil, List.cons_append, List.nil_append, List.length_cons, List.length_nil, List.getElem?_cons_zero, List.getElem?_cons_succ, List.set_cons_zero, List.set_cons_succ, Option.bind_some, Option.map_some, List.reduceReplicate, Nat.reduceAdd, Nat.reduceSub, ↓reduceIte, decide_eq_true_eq, Bool.false_eq_true, Bool.not_true, Bool.not_false, Nat.zero_add, true_and, if_false_right, wO_seq, seq_nx, n3, f2']
    rw [gNm_at, wP_some, sIf_at, tOu_at]
    simp only [List.set_cons_succ, List.set_cons_zero]
    rw [E1]
    simp only [wO_out, wE_bind, wE_ok, Bool.false_eq_true, ↓reduceIte]
    rw [E2]
    simp -implicitDefEqProofs only [wE_run, wE_ok, wE_exn, wE_stuck, wE_bind, wE_of, wE_ite, wE_iteB, wE_iteP, wP_some, wP_none, wP_ite, wP_iteP, wP_map, wP_bind, wO_out, wO_nx, wO_rt, wO_bk, wO_ct, wO_ex, wO_stuck, wO_iteB, wO_ite, seq_rt, seq_bk, seq_ct, seq_ex, sNo_at, sBk_at, sCt_at, sEx_at, sRt_at, sIf_at, sSet_at, sOwn_at, sAug_at, sApp_at, sPut_at, sExt_at, sAsg_at, sPar_at, sFz_at, fz_at, sRs_at, sRef_at, eK_at, eVar_at, eVarB_at, eBin_at, eUn_at, eCh_at, eNo_at, eAn_at, eOu_at, eIf_at, tBl_at, tTru_at, tNo_at, tAn_at, tOu_at, tYe_at, aNil_at, aCons_at, eTup_at, eLst_at, aLst_at, eIx_at, pNo_at, pSo_at, eSl_at, eCall_at, aLc_at, eLc_at, wipe_nil, wipe_cons, iSeq_at, iRg1_at, iRg2_at, eLRg_at, eTRg_at, iEnu_at, aOfL_at, gNm_at, gsNo_nil, gsCo_cons, gTp_tup, sFor_at, seqD, dAdd, dMul, gI, dIs, dNot, dIsnt, dTru, dNeg, dInv, dIx, dSl, dLen, dAbs, dInt, dTup, dLst, List.map_cons, List.map_nil, List.cons_append, List.nil_append, List.length_cons, List.length_nil, List.getElem?_cons_zero, List.getElem?_cons_succ, List.set_cons_zero, List.set_cons_succ, Option.bind_some, Option.map_some, List.reduceReplicate, Nat.reduceAdd, Nat.reduceSub, ↓reduceIte, decide_eq_true_eq, Bool.false_eq_true, Bool.not_true, Bool.not_false, Nat.zero_add, true_and, if_false_right, wO_seq, seq_nx]
    exact ⟨c2, _, _, _, rfl, rfl, g2, by omega⟩
end
theorem law_true : ∀ ns : List Int, ns.length ≤ 63 → ∃ st, callN 24 i_law [.scr ns] [] = .ok (.bl true) st := by
  intro ns hns
  obtain ⟨xs, a, b, c, hs⟩ := stream_ok ns [] hns
  have hx : Str0 xs := ⟨a, b, c⟩
  have hs : callN 23 i__law_stream [.scr ns] [] = .ok (.lst (xs.map .int)) [] := hs
  have F : Sp (callN 23) xs := sp_ok 17 hx
  have F' : Sp (callN 22) xs := sp_ok 16 hx
  have hf : FitF (callN 23) xs i__law_fits 32 := fun {c} h0 h1 {m} hm1 hm => by
    obtain ⟨d, st', e, rfl, c', rfl, q⟩ := wE_ex (fits_ok F' h0 h1 hm1 hm)
    exact ⟨c', e, q⟩
  have ht : FitF (callN 23) xs i__law_table_fits 5 := fun {c} h0 h1 {m} hm1 hm => by
    obtain ⟨d, st', e, rfl, c', rfl, q⟩ := wE_ex (table_fits_ok F' h0 h1 hm1 hm)
    exact ⟨c', e, q⟩
  obtain ⟨d, st, e, rfl⟩ := wE_ex (law_ok F hf ht hs)
  exact ⟨st, e⟩
end OM.K12
namespace OM.K12
open PySem PySem.Spec PyProof.Rows L2 OM L2H
theorem b_check_many {K : PySem.W.Frag} {f : Addr} {fd : FuncData} (F : Fun K "check_many" "check_many" s_check_many f fd) : Binds K fd ["many"] [] := F.binds fun _ _ _ _ _ _ us hl => match us, hl with | [_], _ => rfl
theorem b_check_set {K : PySem.W.Frag} {f : Addr} {fd : FuncData} (F : Fun K "check_set" "check_set" s_check_set f fd) : Binds K fd ["many", "one"] [] := F.binds fun _ _ _ _ _ _ us hl => match us, hl with | [_, _], _ => rfl
theorem b_check_table {K : PySem.W.Frag} {f : Addr} {fd : FuncData} (F : Fun K "check_table" "check_table" s_check_table f fd) : Binds K fd ["many", "table"] [] := F.binds fun _ _ _ _ _ _ us hl => match us, hl with | [_, _], _ => rfl
theorem b_check_rows {K : PySem.W.Frag} {f : Addr} {fd : FuncData} (F : Fun K "check_rows" "check_rows" s_check_rows f fd) : Binds K fd ["many", "rows"] [] := F.binds fun _ _ _ _ _ _ us hl => match us, hl with | [_, _], _ => rfl
theorem b_first_in_row {K : PySem.W.Frag} {f : Addr} {fd : FuncData} (F : Fun K "first_in_row" "first_in_row" s_first_in_row f fd) : Binds K fd ["row", "one"] [] := F.binds fun _ _ _ _ _ _ us hl => match us, hl with | [_, _], _ => rfl
theorem b_firsts {K : PySem.W.Frag} {f : Addr} {fd : FuncData} (F : Fun K "firsts" "firsts" s_firsts f fd) : Binds K fd ["rows", "one"] [] := F.binds fun _ _ _ _ _ _ us hl => match us, hl with | [_, _], _ => rfl
theorem b_first_in_rows {K : PySem.W.Frag} {f : Addr} {fd : FuncData} (F : Fun K "first_in_rows" "first_in_rows" s_first_in_rows f fd) : Binds K fd ["many", "rows", "one"] [] := F.binds fun _ _ _ _ _ _ us hl => match us, hl with | [_, _, _], _ => rfl
theorem b_table_of_rows {K : PySem.W.Frag} {f : Addr} {fd : FuncData} (F : Fun K "table_of_rows" "table_of_rows" s_table_of_rows f fd) : Binds K fd ["many", "rows"] [] := F.binds fun _ _ _ _ _ _ us hl => match us, hl with | [_, _], _ => rfl
theorem b_check_from_rows {K : PySem.W.Frag} {f : Addr} {fd : FuncData} (F : Fun K "check_from_rows" "check_from_rows" s_check_from_rows f fd) : Binds K fd ["many", "table", "rows"] [] := F.binds fun _ _ _ _ _ _ us hl => match us, hl with | [_, _, _], _ => rfl
theorem b__law_same {K : PySem.W.Frag} {f : Addr} {fd : FuncData} (F : Fun K "_law_same" "_law_same" s__law_same f fd) : Binds K fd ["told", "due"] [] := F.binds fun _ _ _ _ _ _ us hl => match us, hl with | [_, _], _ => rfl
theorem b__law_stream {K : PySem.W.Frag} {f : Addr} {fd : FuncData} (F : Fun K "_law_stream" "_law_stream" s__law_stream f fd) : Binds K fd ["script"] [] := F.binds fun _ _ _ _ _ _ us hl => match us, hl with | [_], _ => rfl
theorem b__law_next {K : PySem.W.Frag} {f : Addr} {fd : FuncData} (F : Fun K "_law_next" "_law_next" s__law_next f fd) : Binds K fd ["state", "many"] [] := F.binds fun _ _ _ _ _ _ us hl => match us, hl with | [_, _], _ => rfl
theorem b__law_error {K : PySem.W.Frag} {f : Addr} {fd : FuncData} (F : Fun K "_law_error" "_law_error" s__law_error f fd) : Binds K fd ["e"] [] := F.binds fun _ _ _ _ _ _ us hl => match us, hl with | [_], _ => rfl
theorem b__law_first {K : PySem.W.Frag} {f : Addr} {fd : FuncData} (F : Fun K "_law_first" "_law_first" s__law_first f fd) : Binds K fd ["row", "one"] [] := F.binds fun _ _ _ _ _ _ us hl => match us, hl with | [_, _], _ => rfl
theorem b__law_rows_table {K : PySem.W.Frag} {f : Addr} {fd : FuncData} (F : Fun K "_law_rows_table" "_law_rows_table" s__law_rows_table f fd) : Binds K fd ["many", "rows"] [] := F.binds fun _ _ _ _ _ _ us hl => match us, hl with | [_, _], _ => rfl
theorem b__law_mixed {K : PySem.W.Frag} {f : Addr} {fd : FuncData} (F : Fun K "_law_mixed" "_law_mixed" s__law_mixed f fd) : Binds K fd ["state", "row"] [] := F.binds fun _ _ _ _ _ _ us hl => match us, hl with | [_, _], _ => rfl
theorem b__law_drawn_rows {K : PySem.W.Frag} {f : Addr} {fd : FuncData} (F : Fun K "_law_drawn_rows" "_law_drawn_rows" s__law_drawn_rows f fd) : Binds K fd ["state", "many", "most"] [] := F.binds fun _ _ _ _ _ _ us hl => match us, hl with | [_, _, _], _ => rfl
theorem b__law_told {K : PySem.W.Frag} {f : Addr} {fd : FuncData} (F : Fun K "_law_told" "_law_told" s__law_told f fd) : Binds K fd ["kind", "many", "rows", "more"] [] := F.binds fun _ _ _ _ _ _ us hl => match us, hl with | [_, _, _, _], _ => rfl
theorem b__law_chosen {K : PySem.W.Frag} {f : Addr} {fd : FuncData} (F : Fun K "_law_chosen" "_law_chosen" s__law_chosen f fd) : Binds K fd ["rows", "one"] [] := F.binds fun _ _ _ _ _ _ us hl => match us, hl with | [_, _], _ => rfl
theorem b__law_fits {K : PySem.W.Frag} {f : Addr} {fd : FuncData} (F : Fun K "_law_fits" "_law_fits" s__law_fits f fd) : Binds K fd ["state", "many"] [] := F.binds fun _ _ _ _ _ _ us hl => match us, hl with | [_, _], _ => rfl
theorem b__law_table_fits {K : PySem.W.Frag} {f : Addr} {fd : FuncData} (F : Fun K "_law_table_fits" "_law_table_fits" s__law_table_fits f fd) : Binds K fd ["state", "many"] [] := F.binds fun _ _ _ _ _ _ us hl => match us, hl with | [_, _], _ => rfl
theorem b_law {K : PySem.W.Frag} {f : Addr} {fd : FuncData} (F : Fun K "law" "law" s_law f fd) : Binds K fd ["script"] [] := F.binds fun _ _ _ _ _ _ us hl => match us, hl with | [_], _ => rfl
theorem txt_mk {K : PySem.W.Frag} {mg : Str → Option Value} {h : Heap} (X : K.In h) (G : h.Ns mainGlobals mg)
  {t_MAX_FEWEST : Tok}
  {t_MAX_ROWS : Tok}
  {t_MAX_TABLE : Tok}
  {t_MAX_WORLDS : Tok}
  {C0 C1 C2 C3 C4 C5 : Addr}
  {f0 : Addr} {od0 an0 : Option Addr} {sl0 : Array (Option Value)} {oc0 kV0 dc0 pm0 cd0 ct0 : Value}
  {f1 : Addr} {od1 an1 : Option Addr} {sl1 : Array (Option Value)} {oc1 kV1 dc1 pm1 cd1 ct1 : Value}
  {f2 : Addr} {od2 an2 : Option Addr} {sl2 : Array (Option Value)} {oc2 kV2 dc2 pm2 cd2 ct2 : Value}
  {f3 : Addr} {od3 an3 : Option Addr} {sl3 : Array (Option Value)} {oc3 kV3 dc3 pm3 cd3 ct3 : Value}
  {f4 : Addr} {od4 an4 : Option Addr} {sl4 : Array (Option Value)} {oc4 kV4 dc4 pm4 cd4 ct4 : Value}
  {f5 : Addr} {od5 an5 : Option Addr} {sl5 : Array (Option Value)} {oc5 kV5 dc5 pm5 cd5 ct5 : Value}
  {f6 : Addr} {od6 an6 : Option Addr} {sl6 : Array (Option Value)} {oc6 kV6 dc6 pm6 cd6 ct6 : Value}
  {f7 : Addr} {od7 an7 : Option Addr} {sl7 : Array (Option Value)} {oc7 kV7 dc7 pm7 cd7 ct7 : Value}
  {f8 : Addr} {od8 an8 : Option Addr} {sl8 : Array (Option Value)} {oc8 kV8 dc8 pm8 cd8 ct8 : Value}
  {f9 : Addr} {od9 an9 : Option Addr} {sl9 : Array (Option Value)} {oc9 kV9 dc9 pm9 cd9 ct9 : Value}
  {f10 : Addr} {od10 an10 : Option Addr} {sl10 : Array (Option Value)} {oc10 kV10 dc10 pm10 cd10 ct10 : Value}
  {f11 : Addr} {od11 an11 : Option Addr} {sl11 : Array (Option Value)} {oc11 kV11 dc11 pm11 cd11 ct11 : Value}
  {f12 : Addr} {od12 an12 : Option Addr} {sl12 : Array (Option Value)} {oc12 kV12 dc12 pm12 cd12 ct12 : Value}
  {f13 : Addr} {od13 an13 : Option Addr} {sl13 : Array (Option Value)} {oc13 kV13 dc13 pm13 cd13 ct13 : Value}
  {f14 : Addr} {od14 an14 : Option Addr} {sl14 : Array (Option Value)} {oc14 kV14 dc14 pm14 cd14 ct14 : Value}
  {f15 : Addr} {od15 an15 : Option Addr} {sl15 : Array (Option Value)} {oc15 kV15 dc15 pm15 cd15 ct15 : Value}
  {f16 : Addr} {od16 an16 : Option Addr} {sl16 : Array (Option Value)} {oc16 kV16 dc16 pm16 cd16 ct16 : Value}
  {f17 : Addr} {od17 an17 : Option Addr} {sl17 : Array (Option Value)} {oc17 kV17 dc17 pm17 cd17 ct17 : Value}
  {f18 : Addr} {od18 an18 : Option Addr} {sl18 : Array (Option Value)} {oc18 kV18 dc18 pm18 cd18 ct18 : Value}
  {f19 : Addr} {od19 an19 : Option Addr} {sl19 : Array (Option Value)} {oc19 kV19 dc19 pm19 cd19 ct19 : Value}
  {f20 : Addr} {od20 an20 : Option Addr} {sl20 : Array (Option Value)} {oc20 kV20 dc20 pm20 cd20 ct20 : Value}
  {f21 : Addr} {od21 an21 : Option Addr} {sl21 : Array (Option Value)} {oc21 kV21 dc21 pm21 cd21 ct21 : Value}
  (b_ValueError : PySem.W.nsIn K mainGlobals "ValueError" = some none)
  (b_abs : PySem.W.nsIn K mainGlobals "abs" = some none)
  (b_enumerate : PySem.W.nsIn K mainGlobals "enumerate" = some none)
  (b_int : PySem.W.nsIn K mainGlobals "int" = some none)
  (b_isinstance : PySem.W.nsIn K mainGlobals "isinstance" = some none)
  (b_len : PySem.W.nsIn K mainGlobals "len" = some none)
  (b_list : PySem.W.nsIn K mainGlobals "list" = some none)
  (b_range : PySem.W.nsIn K mainGlobals "range" = some none)
  (b_repr : PySem.W.nsIn K mainGlobals "repr" = some none)
  (b_sorted : PySem.W.nsIn K mainGlobals "sorted" = some none)
  (b_sum : PySem.W.nsIn K mainGlobals "sum" = some none)
  (b_tuple : PySem.W.nsIn K mainGlobals "tuple" = some none)
  (g_MAX_FEWEST : PySem.W.nsIn K mainGlobals "MAX_FEWEST" = some (some (.int 4 t_MAX_FEWEST)))
  (g_MAX_ROWS : PySem.W.nsIn K mainGlobals "MAX_ROWS" = some (some (.int 200 t_MAX_ROWS)))
  (g_MAX_TABLE : PySem.W.nsIn K mainGlobals "MAX_TABLE" = some (some (.int 5 t_MAX_TABLE)))
  (g_MAX_WORLDS : PySem.W.nsIn K mainGlobals "MAX_WORLDS" = some (some (.int 32 t_MAX_WORLDS)))
  (e_MindError_a : PySem.W.nsIn K mainGlobals "MindError" = some (some (.ref C0)))
  (e_MindError_xC : PySem.W.excIn K C0 [.type "ValueError", .type "Exception", .type "BaseException", .type "object"] "ValueError.__new__" = true)
  (e_MindError_kC : PySem.W.keepIn K (.ref C0) = true)
  (e_MindError_bC : PySem.W.subIn K (.ref C0) (.type "BaseException") = some true)
  (e_MindError_tC : PySem.W.typeIn K (.ref C0) = some (.type "type"))
  (e_NotAllowed_a : PySem.W.nsIn K mainGlobals "NotAllowed" = some (some (.ref C1)))
  (e_NotAllowed_xC : PySem.W.excIn K C1 [.type "ValueError", .type "Exception", .type "BaseException", .type "object"] "ValueError.__new__" = true)
  (e_NotAllowed_kC : PySem.W.keepIn K (.ref C1) = true)
  (e_NotAllowed_bC : PySem.W.subIn K (.ref C1) (.type "BaseException") = some true)
  (e_NotAllowed_tC : PySem.W.typeIn K (.ref C1) = some (.type "type"))
  (e_TooLarge_a : PySem.W.nsIn K mainGlobals "TooLarge" = some (some (.ref C2)))
  (e_TooLarge_xC : PySem.W.excIn K C2 [.type "ValueError", .type "Exception", .type "BaseException", .type "object"] "ValueError.__new__" = true)
  (e_TooLarge_kC : PySem.W.keepIn K (.ref C2) = true)
  (e_TooLarge_bC : PySem.W.subIn K (.ref C2) (.type "BaseException") = some true)
  (e_TooLarge_tC : PySem.W.typeIn K (.ref C2) = some (.type "type"))
  (e_Missing_a : PySem.W.nsIn K mainGlobals "Missing" = some (some (.ref C3)))
  (e_Missing_xC : PySem.W.excIn K C3 [.type "ValueError", .type "Exception", .type "BaseException", .type "object"] "ValueError.__new__" = true)
  (e_Missing_kC : PySem.W.keepIn K (.ref C3) = true)
  (e_Missing_bC : PySem.W.subIn K (.ref C3) (.type "BaseException") = some true)
  (e_Missing_tC : PySem.W.typeIn K (.ref C3) = some (.type "type"))
  (e_BadPaper_a : PySem.W.nsIn K mainGlobals "BadPaper" = some (some (.ref C4)))
  (e_BadPaper_xC : PySem.W.excIn K C4 [.type "ValueError", .type "Exception", .type "BaseException", .type "object"] "ValueError.__new__" = true)
  (e_BadPaper_kC : PySem.W.keepIn K (.ref C4) = true)
  (e_BadPaper_bC : PySem.W.subIn K (.ref C4) (.type "BaseException") = some true)
  (e_BadPaper_tC : PySem.W.typeIn K (.ref C4) = some (.type "type"))
  (g5 : PySem.W.nsIn K mainGlobals "BadForm" = some (some (.ref C5)))
  (q_hn : PySem.W.specialIn K (.builtin "object.__class__") "__get__" = some (some (.builtin "getset_descriptor.__get__")))
  (q_ht : PySem.W.takesIn K (.builtin "object.__class__") = some true)
  (q_h0 : PySem.W.hasDictIn K C0 = true)
  (a1_hg : PySem.W.findIn K (.ref C1) "__getattribute__" = some (some (.builtin "BaseException.__getattribute__")))
  (a1_hk : PySem.W.findIn K (.ref C1) "__getattr__" = some none)
  (a1_hd : PySem.W.hasDictIn K C1 = true)
  (a1_ha : PySem.W.findIn K (.ref C1) "__class__" = some (some (.builtin "object.__class__")))
  (a1_hm : PySem.W.mroIn K C1 (.type "object") = some true)
  (a1_s0 : PySem.W.subIn K (.ref C1) (.ref C0) = some true)
  (a1_v : PySem.W.kitOne K (.ref C1) (.type "ValueError") = some true)
  (a1_k1 : PySem.W.kitOne K (.ref C1) (.ref C1) = some true)
  (a1_k2 : PySem.W.kitOne K (.ref C1) (.ref C2) = some false)
  (a1_k3 : PySem.W.kitOne K (.ref C1) (.ref C3) = some false)
  (a1_k4 : PySem.W.kitOne K (.ref C1) (.ref C4) = some false)
  (a1_k5 : PySem.W.kitOne K (.ref C1) (.ref C5) = some false)
  (a2_hg : PySem.W.findIn K (.ref C2) "__getattribute__" = some (some (.builtin "BaseException.__getattribute__")))
  (a2_hk : PySem.W.findIn K (.ref C2) "__getattr__" = some none)
  (a2_hd : PySem.W.hasDictIn K C2 = true)
  (a2_ha : PySem.W.findIn K (.ref C2) "__class__" = some (some (.builtin "object.__class__")))
  (a2_hm : PySem.W.mroIn K C2 (.type "object") = some true)
  (a2_s0 : PySem.W.subIn K (.ref C2) (.ref C0) = some true)
  (a2_v : PySem.W.kitOne K (.ref C2) (.type "ValueError") = some true)
  (a2_k1 : PySem.W.kitOne K (.ref C2) (.ref C1) = some false)
  (a2_k2 : PySem.W.kitOne K (.ref C2) (.ref C2) = some true)
  (a2_k3 : PySem.W.kitOne K (.ref C2) (.ref C3) = some false)
  (a2_k4 : PySem.W.kitOne K (.ref C2) (.ref C4) = some false)
  (a2_k5 : PySem.W.kitOne K (.ref C2) (.ref C5) = some false)
  (a3_hg : PySem.W.findIn K (.ref C3) "__getattribute__" = some (some (.builtin "BaseException.__getattribute__")))
  (a3_hk : PySem.W.findIn K (.ref C3) "__getattr__" = some none)
  (a3_hd : PySem.W.hasDictIn K C3 = true)
  (a3_ha : PySem.W.findIn K (.ref C3) "__class__" = some (some (.builtin "object.__class__")))
  (a3_hm : PySem.W.mroIn K C3 (.type "object") = some true)
  (a3_s0 : PySem.W.subIn K (.ref C3) (.ref C0) = some true)
  (a3_v : PySem.W.kitOne K (.ref C3) (.type "ValueError") = some true)
  (a3_k1 : PySem.W.kitOne K (.ref C3) (.ref C1) = some false)
  (a3_k2 : PySem.W.kitOne K (.ref C3) (.ref C2) = some false)
  (a3_k3 : PySem.W.kitOne K (.ref C3) (.ref C3) = some true)
  (a3_k4 : PySem.W.kitOne K (.ref C3) (.ref C4) = some false)
  (a3_k5 : PySem.W.kitOne K (.ref C3) (.ref C5) = some false)
  (a4_hg : PySem.W.findIn K (.ref C4) "__getattribute__" = some (some (.builtin "BaseException.__getattribute__")))
  (a4_hk : PySem.W.findIn K (.ref C4) "__getattr__" = some none)
  (a4_hd : PySem.W.hasDictIn K C4 = true)
  (a4_ha : PySem.W.findIn K (.ref C4) "__class__" = some (some (.builtin "object.__class__")))
  (a4_hm : PySem.W.mroIn K C4 (.type "object") = some true)
  (a4_s0 : PySem.W.subIn K (.ref C4) (.ref C0) = some true)
  (a4_v : PySem.W.kitOne K (.ref C4) (.type "ValueError") = some true)
  (a4_k1 : PySem.W.kitOne K (.ref C4) (.ref C1) = some false)
  (a4_k2 : PySem.W.kitOne K (.ref C4) (.ref C2) = some false)
  (a4_k3 : PySem.W.kitOne K (.ref C4) (.ref C3) = some false)
  (a4_k4 : PySem.W.kitOne K (.ref C4) (.ref C4) = some true)
  (a4_k5 : PySem.W.kitOne K (.ref C4) (.ref C5) = some false)
  (a_check_many : PySem.W.nsIn K mainGlobals "check_many" = some (some (.ref f0))) (l_check_many : K.lookup f0 = some ⟨oc0, od0, .func (PySem.W.fnOf "check_many" "check_many" (defArgs s_check_many) (defBody s_check_many) (defScope s_check_many) .none kV0 dc0 pm0 an0 cd0 ct0), sl0⟩) (c_check_many : PySem.W.codeIn K cd0 "check_many" = true) (k_check_many : PySem.W.keepIn K (.ref f0) = true)
  (a_check_set : PySem.W.nsIn K mainGlobals "check_set" = some (some (.ref f1))) (l_check_set : K.lookup f1 = some ⟨oc1, od1, .func (PySem.W.fnOf "check_set" "check_set" (defArgs s_check_set) (defBody s_check_set) (defScope s_check_set) .none kV1 dc1 pm1 an1 cd1 ct1), sl1⟩) (c_check_set : PySem.W.codeIn K cd1 "check_set" = true) (k_check_set : PySem.W.keepIn K (.ref f1) = true)
  (a_check_table : PySem.W.nsIn K mainGlobals "check_table" = some (some (.ref f2))) (l_check_table : K.lookup f2 = some ⟨oc2, od2, .func (PySem.W.fnOf "check_table" "check_table" (defArgs s_check_table) (defBody s_check_table) (defScope s_check_table) .none kV2 dc2 pm2 an2 cd2 ct2), sl2⟩) (c_check_table : PySem.W.codeIn K cd2 "check_table" = true) (k_check_table : PySem.W.keepIn K (.ref f2) = true)
  (a_check_rows : PySem.W.nsIn K mainGlobals "check_rows" = some (some (.ref f3))) (l_check_rows : K.lookup f3 = some ⟨oc3, od3, .func (PySem.W.fnOf "check_rows" "check_rows" (defArgs s_check_rows) (defBody s_check_rows) (defScope s_check_rows) .none kV3 dc3 pm3 an3 cd3 ct3), sl3⟩) (c_check_rows : PySem.W.codeIn K cd3 "check_rows" = true) (k_check_rows : PySem.W.keepIn K (.ref f3) = true)
  (a_first_in_row : PySem.W.nsIn K mainGlobals "first_in_row" = some (some (.ref f4))) (l_first_in_row : K.lookup f4 = some ⟨oc4, od4, .func (PySem.W.fnOf "first_in_row" "first_in_row" (defArgs s_first_in_row) (defBody s_first_in_row) (defScope s_first_in_row) .none kV4 dc4 pm4 an4 cd4 ct4), sl4⟩) (c_first_in_row : PySem.W.codeIn K cd4 "first_in_row" = true) (k_first_in_row : PySem.W.keepIn K (.ref f4) = true)
  (a_firsts : PySem.W.nsIn K mainGlobals "firsts" = some (some (.ref f5))) (l_firsts : K.lookup f5 = some ⟨oc5, od5, .func (PySem.W.fnOf "firsts" "firsts" (defArgs s_firsts) (defBody s_firsts) (defScope s_firsts) .none kV5 dc5 pm5 an5 cd5 ct5), sl5⟩) (c_firsts : PySem.W.codeIn K cd5 "firsts" = true) (k_firsts : PySem.W.keepIn K (.ref f5) = true)
  (a_first_in_rows : PySem.W.nsIn K mainGlobals "first_in_rows" = some (some (.ref f6))) (l_first_in_rows : K.lookup f6 = some ⟨oc6, od6, .func (PySem.W.fnOf "first_in_rows" "first_in_rows" (defArgs s_first_in_rows) (defBody s_first_in_rows) (defScope s_first_in_rows) .none kV6 dc6 pm6 an6 cd6 ct6), sl6⟩) (c_first_in_rows : PySem.W.codeIn K cd6 "first_in_rows" = true) (k_first_in_rows : PySem.W.keepIn K (.ref f6) = true)
  (a_table_of_rows : PySem.W.nsIn K mainGlobals "table_of_rows" = some (some (.ref f7))) (l_table_of_rows : K.lookup f7 = some ⟨oc7, od7, .func (PySem.W.fnOf "table_of_rows" "table_of_rows" (defArgs s_table_of_rows) (defBody s_table_of_rows) (defScope s_table_of_rows) .none kV7 dc7 pm7 an7 cd7 ct7), sl7⟩) (c_table_of_rows : PySem.W.codeIn K cd7 "table_of_rows" = true) (k_table_of_rows : PySem.W.keepIn K (.ref f7) = true)
  (a_check_from_rows : PySem.W.nsIn K mainGlobals "check_from_rows" = some (some (.ref f8))) (l_check_from_rows : K.lookup f8 = some ⟨oc8, od8, .func (PySem.W.fnOf "check_from_rows" "check_from_rows" (defArgs s_check_from_rows) (defBody s_check_from_rows) (defScope s_check_from_rows) .none kV8 dc8 pm8 an8 cd8 ct8), sl8⟩) (c_check_from_rows : PySem.W.codeIn K cd8 "check_from_rows" = true) (k_check_from_rows : PySem.W.keepIn K (.ref f8) = true)
  (a__law_same : PySem.W.nsIn K mainGlobals "_law_same" = some (some (.ref f9))) (l__law_same : K.lookup f9 = some ⟨oc9, od9, .func (PySem.W.fnOf "_law_same" "_law_same" (defArgs s__law_same) (defBody s__law_same) (defScope s__law_same) .none kV9 dc9 pm9 an9 cd9 ct9), sl9⟩) (c__law_same : PySem.W.codeIn K cd9 "_law_same" = true) (k__law_same : PySem.W.keepIn K (.ref f9) = true)
  (a__law_stream : PySem.W.nsIn K mainGlobals "_law_stream" = some (some (.ref f10))) (l__law_stream : K.lookup f10 = some ⟨oc10, od10, .func (PySem.W.fnOf "_law_stream" "_law_stream" (defArgs s__law_stream) (defBody s__law_stream) (defScope s__law_stream) .none kV10 dc10 pm10 an10 cd10 ct10), sl10⟩) (c__law_stream : PySem.W.codeIn K cd10 "_law_stream" = true) (k__law_stream : PySem.W.keepIn K (.ref f10) = true)
  (a__law_next : PySem.W.nsIn K mainGlobals "_law_next" = some (some (.ref f11))) (l__law_next : K.lookup f11 = some ⟨oc11, od11, .func (PySem.W.fnOf "_law_next" "_law_next" (defArgs s__law_next) (defBody s__law_next) (defScope s__law_next) .none kV11 dc11 pm11 an11 cd11 ct11), sl11⟩) (c__law_next : PySem.W.codeIn K cd11 "_law_next" = true) (k__law_next : PySem.W.keepIn K (.ref f11) = true)
  (a__law_error : PySem.W.nsIn K mainGlobals "_law_error" = some (some (.ref f12))) (l__law_error : K.lookup f12 = some ⟨oc12, od12, .func (PySem.W.fnOf "_law_error" "_law_error" (defArgs s__law_error) (defBody s__law_error) (defScope s__law_error) .none kV12 dc12 pm12 an12 cd12 ct12), sl12⟩) (c__law_error : PySem.W.codeIn K cd12 "_law_error" = true) (k__law_error : PySem.W.keepIn K (.ref f12) = true)
  (a__law_first : PySem.W.nsIn K mainGlobals "_law_first" = some (some (.ref f13))) (l__law_first : K.lookup f13 = some ⟨oc13, od13, .func (PySem.W.fnOf "_law_first" "_law_first" (defArgs s__law_first) (defBody s__law_first) (defScope s__law_first) .none kV13 dc13 pm13 an13 cd13 ct13), sl13⟩) (c__law_first : PySem.W.codeIn K cd13 "_law_first" = true) (k__law_first : PySem.W.keepIn K (.ref f13) = true)
  (a__law_rows_table : PySem.W.nsIn K mainGlobals "_law_rows_table" = some (some (.ref f14))) (l__law_rows_table : K.lookup f14 = some ⟨oc14, od14, .func (PySem.W.fnOf "_law_rows_table" "_law_rows_table" (defArgs s__law_rows_table) (defBody s__law_rows_table) (defScope s__law_rows_table) .none kV14 dc14 pm14 an14 cd14 ct14), sl14⟩) (c__law_rows_table : PySem.W.codeIn K cd14 "_law_rows_table" = true) (k__law_rows_table : PySem.W.keepIn K (.ref f14) = true)
  (a__law_mixed : PySem.W.nsIn K mainGlobals "_law_mixed" = some (some (.ref f15))) (l__law_mixed : K.lookup f15 = some ⟨oc15, od15, .func (PySem.W.fnOf "_law_mixed" "_law_mixed" (defArgs s__law_mixed) (defBody s__law_mixed) (defScope s__law_mixed) .none kV15 dc15 pm15 an15 cd15 ct15), sl15⟩) (c__law_mixed : PySem.W.codeIn K cd15 "_law_mixed" = true) (k__law_mixed : PySem.W.keepIn K (.ref f15) = true)
  (a__law_drawn_rows : PySem.W.nsIn K mainGlobals "_law_drawn_rows" = some (some (.ref f16))) (l__law_drawn_rows : K.lookup f16 = some ⟨oc16, od16, .func (PySem.W.fnOf "_law_drawn_rows" "_law_drawn_rows" (defArgs s__law_drawn_rows) (defBody s__law_drawn_rows) (defScope s__law_drawn_rows) .none kV16 dc16 pm16 an16 cd16 ct16), sl16⟩) (c__law_drawn_rows : PySem.W.codeIn K cd16 "_law_drawn_rows" = true) (k__law_drawn_rows : PySem.W.keepIn K (.ref f16) = true)
  (a__law_told : PySem.W.nsIn K mainGlobals "_law_told" = some (some (.ref f17))) (l__law_told : K.lookup f17 = some ⟨oc17, od17, .func (PySem.W.fnOf "_law_told" "_law_told" (defArgs s__law_told) (defBody s__law_told) (defScope s__law_told) .none kV17 dc17 pm17 an17 cd17 ct17), sl17⟩) (c__law_told : PySem.W.codeIn K cd17 "_law_told" = true) (k__law_told : PySem.W.keepIn K (.ref f17) = true)
  (a__law_chosen : PySem.W.nsIn K mainGlobals "_law_chosen" = some (some (.ref f18))) (l__law_chosen : K.lookup f18 = some ⟨oc18, od18, .func (PySem.W.fnOf "_law_chosen" "_law_chosen" (defArgs s__law_chosen) (defBody s__law_chosen) (defScope s__law_chosen) .none kV18 dc18 pm18 an18 cd18 ct18), sl18⟩) (c__law_chosen : PySem.W.codeIn K cd18 "_law_chosen" = true) (k__law_chosen : PySem.W.keepIn K (.ref f18) = true)
  (a__law_fits : PySem.W.nsIn K mainGlobals "_law_fits" = some (some (.ref f19))) (l__law_fits : K.lookup f19 = some ⟨oc19, od19, .func (PySem.W.fnOf "_law_fits" "_law_fits" (defArgs s__law_fits) (defBody s__law_fits) (defScope s__law_fits) .none kV19 dc19 pm19 an19 cd19 ct19), sl19⟩) (c__law_fits : PySem.W.codeIn K cd19 "_law_fits" = true) (k__law_fits : PySem.W.keepIn K (.ref f19) = true)
  (a__law_table_fits : PySem.W.nsIn K mainGlobals "_law_table_fits" = some (some (.ref f20))) (l__law_table_fits : K.lookup f20 = some ⟨oc20, od20, .func (PySem.W.fnOf "_law_table_fits" "_law_table_fits" (defArgs s__law_table_fits) (defBody s__law_table_fits) (defScope s__law_table_fits) .none kV20 dc20 pm20 an20 cd20 ct20), sl20⟩) (c__law_table_fits : PySem.W.codeIn K cd20 "_law_table_fits" = true) (k__law_table_fits : PySem.W.keepIn K (.ref f20) = true)
  (a_law : PySem.W.nsIn K mainGlobals "law" = some (some (.ref f21))) (l_law : K.lookup f21 = some ⟨oc21, od21, .func (PySem.W.fnOf "law" "law" (defArgs s_law) (defBody s_law) (defScope s_law) .none kV21 dc21 pm21 an21 cd21 ct21), sl21⟩) (c_law : PySem.W.codeIn K cd21 "law" = true) (k_law : PySem.W.keepIn K (.ref f21) = true)
  : Txt K mg (tabE C0 C1 C2 C3 C4 C5 C0) :=
  { b_ValueError := PySem.W.mg_none_of X G b_ValueError, b_abs := PySem.W.mg_none_of X G b_abs, b_enumerate := PySem.W.mg_none_of X G b_enumerate, b_int := PySem.W.mg_none_of X G b_int, b_isinstance := PySem.W.mg_none_of X G b_isinstance, b_len := PySem.W.mg_none_of X G b_len, b_list := PySem.W.mg_none_of X G b_list, b_range := PySem.W.mg_none_of X G b_range, b_repr := PySem.W.mg_none_of X G b_repr, b_sorted := PySem.W.mg_none_of X G b_sorted, b_sum := PySem.W.mg_none_of X G b_sum, b_tuple := PySem.W.mg_none_of X G b_tuple, g_MAX_FEWEST := ⟨_, PySem.W.mg_of X G g_MAX_FEWEST⟩, g_MAX_ROWS := ⟨_, PySem.W.mg_of X G g_MAX_ROWS⟩, g_MAX_TABLE := ⟨_, PySem.W.mg_of X G g_MAX_TABLE⟩, g_MAX_WORLDS := ⟨_, PySem.W.mg_of X G g_MAX_WORLDS⟩, e_MindError := ErrK.err X G (ErrK.mk e_MindError_a e_MindError_xC e_MindError_kC e_MindError_bC e_MindError_tC), e_NotAllowed := ErrK.err X G (ErrK.mk e_NotAllowed_a e_NotAllowed_xC e_NotAllowed_kC e_NotAllowed_bC e_NotAllowed_tC), e_TooLarge := ErrK.err X G (ErrK.mk e_TooLarge_a e_TooLarge_xC e_TooLarge_kC e_TooLarge_bC e_TooLarge_tC), e_Missing := ErrK.err X G (ErrK.mk e_Missing_a e_Missing_xC e_Missing_kC e_Missing_bC e_Missing_tC), e_BadPaper := ErrK.err X G (ErrK.mk e_BadPaper_a e_BadPaper_xC e_BadPaper_kC e_BadPaper_bC e_BadPaper_tC), t_check_many := tx_mk X G a_check_many (fun_mk (st := s_check_many) l_check_many c_check_many k_check_many) b_check_many, t_check_set := tx_mk X G a_check_set (fun_mk (st := s_check_set) l_check_set c_check_set k_check_set) b_check_set, t_check_table := tx_mk X G a_check_table (fun_mk (st := s_check_table) l_check_table c_check_table k_check_table) b_check_table, t_check_rows := tx_mk X G a_check_rows (fun_mk (st := s_check_rows) l_check_rows c_check_rows k_check_rows) b_check_rows, t_first_in_row := tx_mk X G a_first_in_row (fun_mk (st := s_first_in_row) l_first_in_row c_first_in_row k_first_in_row) b_first_in_row, t_firsts := tx_mk X G a_firsts (fun_mk (st := s_firsts) l_firsts c_firsts k_firsts) b_firsts, t_first_in_rows := tx_mk X G a_first_in_rows (fun_mk (st := s_first_in_rows) l_first_in_rows c_first_in_rows k_first_in_rows) b_first_in_rows, t_table_of_rows := tx_mk X G a_table_of_rows (fun_mk (st := s_table_of_rows) l_table_of_rows c_table_of_rows k_table_of_rows) b_table_of_rows, t_check_from_rows := tx_mk X G a_check_from_rows (fun_mk (st := s_check_from_rows) l_check_from_rows c_check_from_rows k_check_from_rows) b_check_from_rows, t__law_same := tx_mk X G a__law_same (fun_mk (st := s__law_same) l__law_same c__law_same k__law_same) b__law_same, t__law_stream := tx_mk X G a__law_stream (fun_mk (st := s__law_stream) l__law_stream c__law_stream k__law_stream) b__law_stream, t__law_next := tx_mk X G a__law_next (fun_mk (st := s__law_next) l__law_next c__law_next k__law_next) b__law_next, t__law_error := tx_mk X G a__law_error (fun_mk (st := s__law_error) l__law_error c__law_error k__law_error) b__law_error, t__law_first := tx_mk X G a__law_first (fun_mk (st := s__law_first) l__law_first c__law_first k__law_first) b__law_first, t__law_rows_table := tx_mk X G a__law_rows_table (fun_mk (st := s__law_rows_table) l__law_rows_table c__law_rows_table k__law_rows_table) b__law_rows_table, t__law_mixed := tx_mk X G a__law_mixed (fun_mk (st := s__law_mixed) l__law_mixed c__law_mixed k__law_mixed) b__law_mixed, t__law_drawn_rows := tx_mk X G a__law_drawn_rows (fun_mk (st := s__law_drawn_rows) l__law_drawn_rows c__law_drawn_rows k__law_drawn_rows) b__law_drawn_rows, t__law_told := tx_mk X G a__law_told (fun_mk (st := s__law_told) l__law_told c__law_told k__law_told) b__law_told, t__law_chosen := tx_mk X G a__law_chosen (fun_mk (st := s__law_chosen) l__law_chosen c__law_chosen k__law_chosen) b__law_chosen, t__law_fits := tx_mk X G a__law_fits (fun_mk (st := s__law_fits) l__law_fits c__law_fits k__law_fits) b__law_fits, t__law_table_fits := tx_mk X G a__law_table_fits (fun_mk (st := s__law_table_fits) l__law_table_fits c__law_table_fits k__law_table_fits) b__law_table_fits, t_law := tx_mk X G a_law (fun_mk (st := s_law) l_law c_law k_law) b_law, x := XFs.mk' X G ⟨q_hn, q_ht, q_h0⟩ (ErrK.mk e_MindError_a e_MindError_xC e_MindError_kC e_MindError_bC e_MindError_tC) (ErrK.mk e_NotAllowed_a e_NotAllowed_xC e_NotAllowed_kC e_NotAllowed_bC e_NotAllowed_tC) (ErrK.mk e_TooLarge_a e_TooLarge_xC e_TooLarge_kC e_TooLarge_bC e_TooLarge_tC) (ErrK.mk e_Missing_a e_Missing_xC e_Missing_kC e_Missing_bC e_Missing_tC) (ErrK.mk e_BadPaper_a e_BadPaper_xC e_BadPaper_kC e_BadPaper_bC e_BadPaper_tC) g5 ⟨a1_hg, a1_hk, a1_hd, a1_ha, a1_hm, a1_s0, a1_v, a1_k1, a1_k2, a1_k3, a1_k4, a1_k5⟩ ⟨a2_hg, a2_hk, a2_hd, a2_ha, a2_hm, a2_s0, a2_v, a2_k1, a2_k2, a2_k3, a2_k4, a2_k5⟩ ⟨a3_hg, a3_hk, a3_hd, a3_ha, a3_hm, a3_s0, a3_v, a3_k1, a3_k2, a3_k3, a3_k4, a3_k5⟩ ⟨a4_hg, a4_hk, a4_hd, a4_ha, a4_hm, a4_s0, a4_v, a4_k1, a4_k2, a4_k3, a4_k4, a4_k5⟩ }
end OM.K12
namespace OM.K12
open PySem PySem.Spec PyProof.Rows L2 OM L2H
theorem fin {P : Program} {w : World} {K : PySem.W.Frag} {mg : Str → Option Value} {T : Tab} {fa : Addr} (X : Txt K mg T) (hmg : mg "law" = some (.ref fa)) :
    ∃ (T : Tab) (fd : FuncData) (φ : Fv), (∀ (s : Shared) (u : Value), BindsTo s fd ⟨[u], []⟩ [("script", u)]) ∧ (∀ ns : List Int, ns.length ≤ 63 → ∃ st, φ [.scr ns] [] = .ok (.bl true) st) ∧
      ∀ base : Heap, K.In base → base.Ns mainGlobals mg → Fn P w K mg base 24 fa fd ["script"] (spF K T 1 φ) := by
  obtain ⟨f, fd, F, hm, _⟩ := X.t_law.ex
  rw [hm] at hmg
  cases hmg
  refine ⟨T, fd, callN 24 i_law, ?_, law_true, fun base _ _ => fn_body F sc_law (d_law (facts X 23))⟩
  obtain ⟨_, _, _, _, _, _, _, _, _, rfl, _, _⟩ := F.ex
  exact fun s u => .of_eq rfl
end OM.K12
open PySem PySem.W PyProof.Rows
set_option maxHeartbeats 0 in
theorem PySem.Challenge.cw_openmind_k12_rows_and_their_tables_holds : PySem.Challenge.rw_openmind_k12_rows_and_their_tables.Holds := by
  w_on; o_law; k_head; (case hw => w_witness2)
  k_fill
  refine OM.om_walk (l := PySem.Challenge.rw_openmind_k12_rows_and_their_tables) (n := 63) (k := 24) (x := "script") rfl (by decide) rfl ⟨rfl, by decide, by decide⟩ (fun w h Y => PySem.W.kIn_of Y) ?F
  case F =>
    intro w mg fa h KX G hmg
    refine' OM.K12.fin (OM.K12.txt_mk KX G ?b_ValueError ?b_abs ?b_enumerate ?b_int ?b_isinstance ?b_len ?b_list ?b_range ?b_repr ?b_sorted ?b_sum ?b_tuple ?g_MAX_FEWEST ?g_MAX_ROWS ?g_MAX_TABLE ?g_MAX_WORLDS ?e_MindError_a ?e_MindError_xC ?e_MindError_kC ?e_MindError_bC ?e_MindError_tC ?e_NotAllowed_a ?e_NotAllowed_xC ?e_NotAllowed_kC ?e_NotAllowed_bC ?e_NotAllowed_tC ?e_TooLarge_a ?e_TooLarge_xC ?e_TooLarge_kC ?e_TooLarge_bC ?e_TooLarge_tC ?e_Missing_a ?e_Missing_xC ?e_Missing_kC ?e_Missing_bC ?e_Missing_tC ?e_BadPaper_a ?e_BadPaper_xC ?e_BadPaper_kC ?e_BadPaper_bC ?e_BadPaper_tC ?g5 ?q_hn ?q_ht ?q_h0 ?a1_hg ?a1_hk ?a1_hd ?a1_ha ?a1_hm ?a1_s0 ?a1_v ?a1_k1 ?a1_k2 ?a1_k3 ?a1_k4 ?a1_k5 ?a2_hg ?a2_hk ?a2_hd ?a2_ha ?a2_hm ?a2_s0 ?a2_v ?a2_k1 ?a2_k2 ?a2_k3 ?a2_k4 ?a2_k5 ?a3_hg ?a3_hk ?a3_hd ?a3_ha ?a3_hm ?a3_s0 ?a3_v ?a3_k1 ?a3_k2 ?a3_k3 ?a3_k4 ?a3_k5 ?a4_hg ?a4_hk ?a4_hd ?a4_ha ?a4_hm ?a4_s0 ?a4_v ?a4_k1 ?a4_k2 ?a4_k3 ?a4_k4 ?a4_k5 ?a_check_many ?l_check_many ?c_check_many ?k_check_many ?a_check_set ?l_check_set ?c_check_set ?k_check_set ?a_check_table ?l_check_table ?c_check_table ?k_check_table ?a_check_rows ?l_check_rows ?c_check_rows ?k_check_rows ?a_first_in_row ?l_first_in_row ?c_first_in_row ?k_first_in_row ?a_firsts ?l_firsts ?c_firsts ?k_firsts ?a_first_in_rows ?l_first_in_rows ?c_first_in_rows ?k_first_in_rows ?a_table_of_rows ?l_table_of_rows ?c_table_of_rows ?k_table_of_rows ?a_check_from_rows ?l_check_from_rows ?c_check_from_rows ?k_check_from_rows ?a__law_same ?l__law_same ?c__law_same ?k__law_same ?a__law_stream ?l__law_stream ?c__law_stream ?k__law_stream ?a__law_next ?l__law_next ?c__law_next ?k__law_next ?a__law_error ?l__law_error ?c__law_error ?k__law_error ?a__law_first ?l__law_first ?c__law_first ?k__law_first ?a__law_rows_table ?l__law_rows_table ?c__law_rows_table ?k__law_rows_table ?a__law_mixed ?l__law_mixed ?c__law_mixed ?k__law_mixed ?a__law_drawn_rows ?l__law_drawn_rows ?c__law_drawn_rows ?k__law_drawn_rows ?a__law_told ?l__law_told ?c__law_told ?k__law_told ?a__law_chosen ?l__law_chosen ?c__law_chosen ?k__law_chosen ?a__law_fits ?l__law_fits ?c__law_fits ?k__law_fits ?a__law_table_fits ?l__law_table_fits ?c__law_table_fits ?k__law_table_fits ?a_law ?l_law ?c_law ?k_law) hmg
    (case b_ValueError => k_is)
    (case b_abs => k_is)
    (case b_enumerate => k_is)
    (case b_int => k_is)
    (case b_isinstance => k_is)
    (case b_len => k_is)
    (case b_list => k_is)
    (case b_range => k_is)
    (case b_repr => k_is)
    (case b_sorted => k_is)
    (case b_sum => k_is)
    (case b_tuple => k_is)
    (case g_MAX_FEWEST => k_is)
    (case g_MAX_ROWS => k_is)
    (case g_MAX_TABLE => k_is)
    (case g_MAX_WORLDS => k_is)
    (case e_MindError_a => k_is)
    (case e_MindError_xC => k_exc)
    (case e_MindError_kC => k_is)
    (case e_MindError_bC => k_is)
    (case e_MindError_tC => k_is)
    (case e_NotAllowed_a => k_is)
    (case e_NotAllowed_xC => k_exc)
    (case e_NotAllowed_kC => k_is)
    (case e_NotAllowed_bC => k_is)
    (case e_NotAllowed_tC => k_is)
    (case e_TooLarge_a => k_is)
    (case e_TooLarge_xC => k_exc)
    (case e_TooLarge_kC => k_is)
    (case e_TooLarge_bC => k_is)
    (case e_TooLarge_tC => k_is)
    (case e_Missing_a => k_is)
    (case e_Missing_xC => k_exc)
    (case e_Missing_kC => k_is)
    (case e_Missing_bC => k_is)
    (case e_Missing_tC => k_is)
    (case e_BadPaper_a => k_is)
    (case e_BadPaper_xC => k_exc)
    (case e_BadPaper_kC => k_is)
    (case e_BadPaper_bC => k_is)
    (case e_BadPaper_tC => k_is)
    (case g5 => k_is)
    (case q_hn => k_is)
    (case q_ht => k_is)
    (case q_h0 => k_is)
    (case a1_hg => k_is)
    (case a1_hk => k_is)
    (case a1_hd => k_is)
    (case a1_ha => k_is)
    (case a1_hm => k_is)
    (case a1_s0 => k_is)
    (case a1_v => kit_is)
    (case a1_k1 => kit_is)
    (case a1_k2 => kit_is)
    (case a1_k3 => kit_is)
    (case a1_k4 => kit_is)
    (case a1_k5 => kit_is)
    (case a2_hg => k_is)
    (case a2_hk => k_is)
    (case a2_hd => k_is)
    (case a2_ha => k_is)
    (case a2_hm => k_is)
    (case a2_s0 => k_is)
    (case a2_v => kit_is)
    (case a2_k1 => kit_is)
    (case a2_k2 => kit_is)
    (case a2_k3 => kit_is)
    (case a2_k4 => kit_is)
    (case a2_k5 => kit_is)
    (case a3_hg => k_is)
    (case a3_hk => k_is)
    (case a3_hd => k_is)
    (case a3_ha => k_is)
    (case a3_hm => k_is)
    (case a3_s0 => k_is)
    (case a3_v => kit_is)
    (case a3_k1 => kit_is)
    (case a3_k2 => kit_is)
    (case a3_k3 => kit_is)
    (case a3_k4 => kit_is)
    (case a3_k5 => kit_is)
    (case a4_hg => k_is)
    (case a4_hk => k_is)
    (case a4_hd => k_is)
    (case a4_ha => k_is)
    (case a4_hm => k_is)
    (case a4_s0 => k_is)
    (case a4_v => kit_is)
    (case a4_k1 => kit_is)
    (case a4_k2 => kit_is)
    (case a4_k3 => kit_is)
    (case a4_k4 => kit_is)
    (case a4_k5 => kit_is)
    (case a_check_many => k_is)
    (case l_check_many => k_is)
    (case c_check_many => k_is)
    (case k_check_many => k_is)
    (case a_check_set => k_is)
    (case l_check_set => k_is)
    (case c_check_set => k_is)
    (case k_check_set => k_is)
    (case a_check_table => k_is)
    (case l_check_table => k_is)
    (case c_check_table => k_is)
    (case k_check_table => k_is)
    (case a_check_rows => k_is)
    (case l_check_rows => k_is)
    (case c_check_rows => k_is)
    (case k_check_rows => k_is)
    (case a_first_in_row => k_is)
    (case l_first_in_row => k_is)
    (case c_first_in_row => k_is)
    (case k_first_in_row => k_is)
    (case a_firsts => k_is)
    (case l_firsts => k_is)
    (case c_firsts => k_is)
    (case k_firsts => k_is)
    (case a_first_in_rows => k_is)
    (case l_first_in_rows => k_is)
    (case c_first_in_rows => k_is)
    (case k_first_in_rows => k_is)
    (case a_table_of_rows => k_is)
    (case l_table_of_rows => k_is)
    (case c_table_of_rows => k_is)
    (case k_table_of_rows => k_is)
    (case a_check_from_rows => k_is)
    (case l_check_from_rows => k_is)
    (case c_check_from_rows => k_is)
    (case k_check_from_rows => k_is)
    (case a__law_same => k_is)
    (case l__law_same => k_is)
    (case c__law_same => k_is)
    (case k__law_same => k_is)
    (case a__law_stream => k_is)
    (case l__law_stream => k_is)
    (case c__law_stream => k_is)
    (case k__law_stream => k_is)
    (case a__law_next => k_is)
    (case l__law_next => k_is)
    (case c__law_next => k_is)
    (case k__law_next => k_is)
    (case a__law_error => k_is)
    (case l__law_error => k_is)
    (case c__law_error => k_is)
    (case k__law_error => k_is)
    (case a__law_first => k_is)
    (case l__law_first => k_is)
    (case c__law_first => k_is)
    (case k__law_first => k_is)
    (case a__law_rows_table => k_is)
    (case l__law_rows_table => k_is)
    (case c__law_rows_table => k_is)
    (case k__law_rows_table => k_is)
    (case a__law_mixed => k_is)
    (case l__law_mixed => k_is)
    (case c__law_mixed => k_is)
    (case k__law_mixed => k_is)
    (case a__law_drawn_rows => k_is)
    (case l__law_drawn_rows => k_is)
    (case c__law_drawn_rows => k_is)
    (case k__law_drawn_rows => k_is)
    (case a__law_told => k_is)
    (case l__law_told => k_is)
    (case c__law_told => k_is)
    (case k__law_told => k_is)
    (case a__law_chosen => k_is)
    (case l__law_chosen => k_is)
    (case c__law_chosen => k_is)
    (case k__law_chosen => k_is)
    (case a__law_fits => k_is)
    (case l__law_fits => k_is)
    (case c__law_fits => k_is)
    (case k__law_fits => k_is)
    (case a__law_table_fits => k_is)
    (case l__law_table_fits => k_is)
    (case c__law_table_fits => k_is)
    (case k__law_table_fits => k_is)
    (case a_law => k_is)
    (case l_law => k_is)
    (case c_law => k_is)
    (case k_law => k_is)
