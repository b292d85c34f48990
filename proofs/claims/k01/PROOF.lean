import PyProof.Rows.All
import Wide.All
import OpenK.AllK
import Wide.FinOn
import PyProof.EqAt
import PyProof.EqKinds
import PyProof.TupleCall
import HandS.ForMost
import HandS.IsInst
import HandS.Wide
import HandS.TupAny
import HandS.WideBits
import HandS.Style
import HandS.Deep
import KE.DataEq
import HandS.SetKeys
import HandS.DictComp
import HandS.Flt
import KE.KEqDict
import HandS.Zip
import HandS.More
import KE.GoesZip
import KE.GoesMore
import HandS.ExcIs
import HandS.ExcOwn
import HandS.ExcValue
import HandS.WordsExc
import PySem.Challenge.RW_wishplace_k01_fractions
set_option Elab.async false
set_option linter.all false
set_option maxRecDepth 100000
set_option maxHeartbeats 2000000
/-! Mir: every def of the text has a mirror, a plain Lean function upon data (D) and slots; one rule a construct says that the text keeps to its mirror. -/
namespace Mr
open PySem PySem.Spec PyProof.Rows L2

/-! ### data -/
inductive D where
  | non | bl (b : Bool) | int (i : Int) | str (s : Str) | lst (ds : List D) | rl (ds : List D) | tup (ds : List D) | dct (kvs : List (Key × D)) | obj (a : Addr)

def Ex (H H' : Hp) : Prop := ∀ a o, H a = some o → H' a = some o
theorem Ex.refl (H : Hp) : Ex H H := fun _ _ h => h
theorem Ex.trans {H H1 H2 : Hp} (a : Ex H H1) (b : Ex H1 H2) : Ex H H2 := fun x o h => b x o (a x o h)
theorem Ex.rd {H H' : Hp} {a : Addr} {u : HO} (e : Ex H H') (h : Rd H a u) : Rd H' a u := by
  rcases h with h | ⟨o, h⟩
  · exact Or.inl (e a _ h)
  · exact Or.inr ⟨o, e a _ h⟩
theorem Ex.l {K : PySem.W.Frag} {H H' : Hp} {a : Addr} {xs : List V} (e : Ex H H') (h : SqL K H a xs) : SqL K H' a xs := by
  rcases h with h | h
  · exact Or.inl (e.rd h)
  · exact Or.inr h
theorem Ex.t {K : PySem.W.Frag} {H H' : Hp} {a : Addr} {xs : List V} (e : Ex H H') (h : SqT K H a xs) : SqT K H' a xs := by
  rcases h with h | h
  · exact Or.inl (e.rd h)
  · exact Or.inr h
theorem Ex.new {H : Hp} {p : Addr} {o : HO} (h : H p = none) : Ex H (upd H p o) := fun a u e => by
  rw [upd_ne (ne_of_none e h)]
  exact e
theorem Ex.free {H H' : Hp} {p : Addr} (e : Ex H H') (h : H' p = none) : H p = none := by
  cases h1 : H p with
  | none => rfl
  | some o =>
    rw [e p o h1] at h
    cases h

mutual
inductive Rp (K : PySem.W.Frag) (F : Hp) : V → D → Prop
  | non : Rp K F .non .non
  | bl (b : Bool) : Rp K F (.bl b) (.bl b)
  | int (i : Int) : Rp K F (.int i) (.int i)
  | str (x : Str) : Rp K F (.str x) (.str x)
  | lst {a : Addr} {xs : List V} {ds : List D} : F a = some (.lst xs) → RpAll K F xs ds → Rp K F (.ref a) (.lst ds)
  | rl {a : Addr} {xs : List V} {ds : List D} : SqL K F a xs → RpAll K F xs ds → Rp K F (.ref a) (.rl ds)
  | tup {a : Addr} {xs : List V} {ds : List D} : SqT K F a xs → RpAll K F xs ds → Rp K F (.ref a) (.tup ds)
  | dct {a : Addr} {o : Obj} {xs : List (Key × V)} {ds : List (Key × D)} : F a = some (.frz o (.dK xs)) → RpKv K F xs ds → Rp K F (.ref a) (.dct ds)
  | obj (a : Addr) : Rp K F (.ref a) (.obj a)
inductive RpAll (K : PySem.W.Frag) (F : Hp) : List V → List D → Prop
  | nil : RpAll K F [] []
  | cons {v : V} {vs : List V} {d : D} {ds : List D} : Rp K F v d → RpAll K F vs ds → RpAll K F (v :: vs) (d :: ds)
inductive RpKv (K : PySem.W.Frag) (F : Hp) : List (Key × V) → List (Key × D) → Prop
  | nil : RpKv K F [] []
  | cons {k : Key} {v : V} {vs : List (Key × V)} {d : D} {ds : List (Key × D)} : Rp K F v d → RpKv K F vs ds → RpKv K F ((k, v) :: vs) ((k, d) :: ds)
end
section
variable {K : PySem.W.Frag} {F F' : Hp}
mutual
theorem Rp.mono (e : Ex F F') : ∀ (d : D) (v : V), Rp K F v d → Rp K F' v d
  | .non, _, h => by cases h; exact .non
  | .bl b, _, h => by cases h; exact .bl b
  | .int i, _, h => by cases h; exact .int i
  | .str x, _, h => by cases h; exact .str x
  | .lst ds, _, h => by
    cases h with
    | lst h1 h2 => exact .lst (e _ _ h1) (RpAll.mono e ds _ h2)
  | .rl ds, _, h => by
    cases h with
    | rl h1 h2 => exact .rl (e.l h1) (RpAll.mono e ds _ h2)
  | .tup ds, _, h => by
    cases h with
    | tup h1 h2 => exact .tup (e.t h1) (RpAll.mono e ds _ h2)
  | .dct ds, _, h => by
    cases h with
    | dct h1 h2 => exact .dct (e _ _ h1) (RpKv.mono e ds _ h2)
  | .obj a, _, h => by cases h; exact .obj a
theorem RpAll.mono (e : Ex F F') : ∀ (ds : List D) (vs : List V), RpAll K F vs ds → RpAll K F' vs ds
  | [], _, h => by cases h; exact .nil
  | d :: ds, _, h => by
    cases h with
    | cons h1 h2 => exact .cons (Rp.mono e d _ h1) (RpAll.mono e ds _ h2)
theorem RpKv.mono (e : Ex F F') : ∀ (ds : List (Key × D)) (vs : List (Key × V)), RpKv K F vs ds → RpKv K F' vs ds
  | [], _, h => by cases h; exact .nil
  | (k, d) :: ds, _, h => by
    cases h with
    | cons h1 h2 => exact .cons (Rp.mono e d _ h1) (RpKv.mono e ds _ h2)
end
theorem Rp.ex {v : V} {d : D} (h : Rp K F v d) (e : Ex F F') : Rp K F' v d := Rp.mono e d v h
theorem RpAll.ex {vs : List V} {ds : List D} (h : RpAll K F vs ds) (e : Ex F F') : RpAll K F' vs ds := RpAll.mono e ds vs h
theorem RpKv.ex {vs : List (Key × V)} {ds : List (Key × D)} (h : RpKv K F vs ds) (e : Ex F F') : RpKv K F' vs ds := RpKv.mono e ds vs h
theorem RpAll.length : ∀ {vs : List V} {ds : List D}, RpAll K F vs ds → vs.length = ds.length
  | _, _, .nil => rfl
  | _, _, .cons _ t => congrArg (· + 1) (RpAll.length t)
theorem RpKv.length : ∀ {vs : List (Key × V)} {ds : List (Key × D)}, RpKv K F vs ds → vs.length = ds.length
  | _, _, .nil => rfl
  | _, _, .cons _ t => congrArg (· + 1) (RpKv.length t)
theorem RpAll.get : ∀ {vs : List V} {ds : List D} {i : Nat} {d : D}, RpAll K F vs ds → ds[i]? = some d → ∃ v, vs[i]? = some v ∧ Rp K F v d
  | _, _, _, _, .nil, e => by simp at e
  | _, _, 0, _, .cons h _, e => by simp at e; subst e; exact ⟨_, rfl, h⟩
  | _, _, i + 1, d, .cons _ t, e => by
    obtain ⟨u, h1, h2⟩ := RpAll.get (i := i) (d := d) t (by simpa using e)
    exact ⟨u, by simpa using h1, h2⟩
theorem RpAll.getV : ∀ {vs : List V} {ds : List D} {i : Nat} {v : V}, RpAll K F vs ds → vs[i]? = some v → ∃ d, ds[i]? = some d ∧ Rp K F v d
  | _, _, _, _, .nil, e => by simp at e
  | _, _, 0, _, .cons h _, e => by simp at e; subst e; exact ⟨_, rfl, h⟩
  | _, _, i + 1, v, .cons _ t, e => by
    obtain ⟨u, h1, h2⟩ := RpAll.getV (i := i) (v := v) t (by simpa using e)
    exact ⟨u, by simpa using h1, h2⟩
theorem RpAll.append : ∀ {vs ws : List V} {ds es : List D}, RpAll K F vs ds → RpAll K F ws es → RpAll K F (vs ++ ws) (ds ++ es)
  | _, _, _, _, .nil, s => s
  | _, _, _, _, .cons h t, s => .cons h (RpAll.append t s)
theorem RpAll.set {v : V} {d : D} (h : Rp K F v d) : ∀ {vs : List V} {ds : List D} (i : Nat), RpAll K F vs ds → RpAll K F (vs.set i v) (ds.set i d)
  | _, _, _, .nil => .nil
  | _, _, 0, .cons _ t => .cons h t
  | _, _, i + 1, .cons q t => .cons q (RpAll.set h i t)
theorem RpAll.drop : ∀ {vs : List V} {ds : List D} (n : Nat), RpAll K F vs ds → RpAll K F (vs.drop n) (ds.drop n)
  | _, _, 0, h => h
  | _, _, _ + 1, .nil => .nil
  | _, _, n + 1, .cons _ t => RpAll.drop n t
theorem RpAll.take : ∀ {vs : List V} {ds : List D} (n : Nat), RpAll K F vs ds → RpAll K F (vs.take n) (ds.take n)
  | _, _, 0, _ => .nil
  | _, _, _ + 1, .nil => .nil
  | _, _, n + 1, .cons h t => .cons h (RpAll.take n t)
theorem RpAll.reverse : ∀ {vs : List V} {ds : List D}, RpAll K F vs ds → RpAll K F vs.reverse ds.reverse
  | _, _, .nil => .nil
  | _, _, .cons h t => by
    rw [List.reverse_cons, List.reverse_cons]
    exact RpAll.append (RpAll.reverse t) (.cons h .nil)
theorem RpAll.eraseIdx : ∀ {vs : List V} {ds : List D} (i : Nat), RpAll K F vs ds → RpAll K F (vs.eraseIdx i) (ds.eraseIdx i)
  | _, _, _, .nil => .nil
  | _, _, 0, .cons _ t => t
  | _, _, i + 1, .cons h t => .cons h (RpAll.eraseIdx i t)
theorem RpAll.dropLast {vs : List V} {ds : List D} (h : RpAll K F vs ds) : RpAll K F vs.dropLast ds.dropLast := by
  rw [List.dropLast_eq_take, List.dropLast_eq_take, h.length]
  exact h.take _
end

/-! ### what a slot holds -/
/-- an object that the slot alone knows -/
inductive Own where
  | lst (ds : List D) | dct (kvs : List (Key × D))
def Own.toD : Own → D
  | .lst ds => .lst ds
  | .dct kvs => .dct kvs
/-- nothing that is told; data; an object of its own (pinned: a parameter's, which the caller goes on with) -/
inductive Slot where
  | un | val (d : D) | own (pin : Bool) (o : Own)
abbrev Rho := List Slot

def OAt (K : PySem.W.Frag) (F H : Hp) (a : Addr) : Own → Prop
  | .lst ds => ∃ xs, H a = some (.lst xs) ∧ RpAll K F xs ds
  | .dct kvs => ∃ xs, H a = some (.dK xs) ∧ RpKv K F xs kvs
theorem OAt.mono {K : PySem.W.Frag} {F F' H H' : Hp} {a : Addr} (e : Ex F F') (h : H' a = H a) : ∀ {o : Own}, OAt K F H a o → OAt K F' H' a o
  | .lst ds, ⟨xs, h1, h2⟩ => ⟨xs, h.trans h1, h2.ex e⟩
  | .dct kvs, ⟨xs, h1, h2⟩ => ⟨xs, h.trans h1, h2.ex e⟩
theorem OAt.there {K : PySem.W.Frag} {F H : Hp} {a : Addr} : ∀ {o : Own}, OAt K F H a o → H a ≠ none
  | .lst _, ⟨_, h1, _⟩, z => by rw [h1] at z; cases z
  | .dct _, ⟨_, h1, _⟩, z => by rw [h1] at z; cases z

def SlotOk (K : PySem.W.Frag) (F H : Hp) (x : Option (Option V)) : Slot → Prop
  | .un => True
  | .val d => ∃ v, x = some (some v) ∧ Rp K F v d
  | .own _ o => ∃ a, x = some (some (.ref a)) ∧ F a = none ∧ OAt K F H a o
def Owns (σ : L2.St) (ρ : Rho) (a : Addr) : Prop := ∃ (i : Nat) (p : Bool) (o : Own), ρ[i]? = some (.own p o) ∧ σ[i]? = some (some (.ref a))
/-- .. not pinned -/
def OwnsU (σ : L2.St) (ρ : Rho) (a : Addr) : Prop := ∃ (i : Nat) (o : Own), ρ[i]? = some (.own false o) ∧ σ[i]? = some (some (.ref a))
theorem OwnsU.owns {σ : L2.St} {ρ : Rho} {a : Addr} : OwnsU σ ρ a → Owns σ ρ a := fun ⟨i, o, h1, h2⟩ => ⟨i, _, o, h1, h2⟩

structure Cfg (K : PySem.W.Frag) (F H : Hp) (σ : L2.St) (ρ : Rho) : Prop where
  ex : Ex F H
  len : ρ.length = σ.length
  sl : ∀ (i : Nat) s, ρ[i]? = some s → SlotOk K F H σ[i]? s
  sep : ∀ (i j : Nat) (p q : Bool) (o u : Own) (a : Addr), ρ[i]? = some (.own p o) → ρ[j]? = some (.own q u) → σ[i]? = some (some (.ref a)) → σ[j]? = some (some (.ref a)) → i = j
theorem Cfg.own {K : PySem.W.Frag} {F H : Hp} {σ : L2.St} {ρ : Rho} (c : Cfg K F H σ ρ) {a : Addr} (h : Owns σ ρ a) : F a = none ∧ H a ≠ none := by
  obtain ⟨i, p, o, h1, h2⟩ := h
  obtain ⟨b, e, h3, h4⟩ := c.sl i _ h1
  rw [h2] at e
  cases e
  exact ⟨h3, h4.there⟩

/-- what may have happened between two points of a def -/
structure Stp (σ : L2.St) (ρ : Rho) (F H : Hp) (σ' : L2.St) (ρ' : Rho) (F' H' : Hp) : Prop where
  exF : Ex F F'
  fr : ∀ a o, H a = some o → ¬ Owns σ ρ a → H' a = some o
  th : ∀ a, H a ≠ none → H' a ≠ none
  nF : ∀ a, F a = none → F' a ≠ none → H a = none ∨ Owns σ ρ a
  own : ∀ a, Owns σ' ρ' a → Owns σ ρ a ∨ H a = none
  ownU : ∀ a, OwnsU σ' ρ' a → OwnsU σ ρ a ∨ H a = none
  pin : ∀ (i : Nat) o, ρ[i]? = some (.own true o) → σ'[i]? = σ[i]? ∧ ∃ o', ρ'[i]? = some (.own true o')
theorem Stp.refl (σ : L2.St) (ρ : Rho) (F H : Hp) : Stp σ ρ F H σ ρ F H :=
  ⟨.refl F, fun _ _ h _ => h, fun _ h => h, fun _ h k => absurd h k, fun _ h => .inl h, fun _ h => .inl h, fun _ o h => ⟨rfl, o, h⟩⟩
theorem Stp.trans {σ σ1 σ2 : L2.St} {ρ ρ1 ρ2 : Rho} {F F1 F2 H H1 H2 : Hp} (a : Stp σ ρ F H σ1 ρ1 F1 H1) (b : Stp σ1 ρ1 F1 H1 σ2 ρ2 F2 H2) : Stp σ ρ F H σ2 ρ2 F2 H2 where
  exF := a.exF.trans b.exF
  fr := fun x o h n => b.fr x o (a.fr x o h n) fun z => (a.own x z).elim n fun q => by rw [q] at h; cases h
  th := fun x h => b.th x (a.th x h)
  nF := fun x h k => by
    by_cases h1 : F1 x = none
    · rcases b.nF x h1 k with q | q
      · refine .inl ?_
        cases e : H x with
        | none => rfl
        | some o => exact absurd q (a.th x (by rw [e]; simp))
      · exact (a.own x q).symm
    · exact a.nF x h h1
  own := fun x h => by
    rcases b.own x h with q | q
    · exact a.own x q
    · refine .inr ?_
      cases e : H x with
      | none => rfl
      | some o => exact absurd q (a.th x (by rw [e]; simp))
  ownU := fun x h => by
    rcases b.ownU x h with q | q
    · exact a.ownU x q
    · refine .inr ?_
      cases e : H x with
      | none => rfl
      | some o => exact absurd q (a.th x (by rw [e]; simp))
  pin := fun i o h => by
    obtain ⟨e1, o1, h1⟩ := a.pin i o h
    obtain ⟨e2, o2, h2⟩ := b.pin i o1 h1
    exact ⟨e2.trans e1, o2, h2⟩

/-- new objects came, nothing else -/
structure Grow (F H F' H' : Hp) : Prop where
  f : Ex F F'
  h : Ex H H'
  fh : Ex F' H'
  n : ∀ a, F a = none → F' a ≠ none → H a = none
theorem Grow.refl {F H : Hp} (e : Ex F H) : Grow F H F H := ⟨.refl F, .refl H, e, fun _ h k => absurd h k⟩
theorem Grow.trans {F F1 F2 H H1 H2 : Hp} (a : Grow F H F1 H1) (b : Grow F1 H1 F2 H2) : Grow F H F2 H2 := ⟨a.f.trans b.f, a.h.trans b.h, b.fh, fun x h k => by
  by_cases h1 : F1 x = none
  · have q := b.n x h1 k
    exact a.h.free q
  · exact a.n x h h1⟩
/-- a new object that is data from now on -/
theorem Grow.new {F H : Hp} (e : Ex F H) {p : Addr} {o : HO} (h : H p = none) : Grow F H (upd F p o) (upd H p o) := by
  have hF : F p = none := e.free h
  refine ⟨.new hF, .new h, fun a u k => ?_, fun a h1 h2 => ?_⟩
  · by_cases z : a = p
    · subst z
      rw [upd_same] at k ⊢
      exact k
    · rw [upd_ne z] at k ⊢
      exact e a u k
  · by_cases z : a = p
    · subst z
      exact h
    · rw [upd_ne z] at h2
      exact absurd h1 h2
/-- a new object that nobody but us knows -/
theorem Grow.mine {F H : Hp} (e : Ex F H) {p : Addr} {o : HO} (h : H p = none) : Grow F H F (upd H p o) :=
  ⟨.refl F, .new h, e.trans (.new h), fun a h1 h2 => absurd h1 h2⟩
section
variable {K : PySem.W.Frag} {F F' H H' : Hp} {σ : L2.St} {ρ : Rho}
theorem SlotOk.mono {x : Option (Option V)} (e : Ex F F') (n : ∀ a, F a = none → F' a ≠ none → H a = none) (h : ∀ a, F a = none → H a ≠ none → H' a = H a) : ∀ {s : Slot}, SlotOk K F H x s → SlotOk K F' H' x s
  | .un, _ => trivial
  | .val d, ⟨v, e1, r⟩ => ⟨v, e1, r.ex e⟩
  | .own p o, ⟨a, e1, f, at'⟩ => ⟨a, e1, by
      cases q : F' a with
      | none => rfl
      | some u => exact absurd (n a f (by rw [q]; simp)) at'.there, at'.mono e (h a f at'.there)⟩
theorem Grow.cfg (g : Grow F H F' H') (c : Cfg K F H σ ρ) : Cfg K F' H' σ ρ :=
  ⟨g.fh, c.len, fun i s h => (c.sl i s h).mono g.f g.n fun a _ k => by
    cases q : H a with
    | none => exact absurd q k
    | some o => exact g.h a o q, c.sep⟩
theorem Grow.stp (g : Grow F H F' H') : Stp σ ρ F H σ ρ F' H' :=
  ⟨g.f, fun a o h _ => g.h a o h, fun a h k => h (g.h.free k), fun a h k => .inl (g.n a h k), fun _ h => .inl h, fun _ h => .inl h, fun _ o h => ⟨rfl, o, h⟩⟩
end

/-! ### readings by mirrors -/
abbrev ME := Rho → Option (D × Rho)
abbrev MS := Rho → Option (Slot × Rho)
abbrev MT := Rho → Option (Bool × Rho)
abbrev MA := Rho → Option (List D × Rho)
inductive Out where
  | nx | bk | ct | ret (s : Slot)
abbrev MSt := Rho → Option (Out × Rho)

/-- a value that came of (σ, ρ, H) is what the slot s tells -/
def VOk (K : PySem.W.Frag) (σ : L2.St) (ρ : Rho) (H : Hp) (σ' : L2.St) (ρ' : Rho) (F' H' : Hp) (v : V) : Slot → Prop
  | .un => False
  | .val d => Rp K F' v d
  | .own p o => p = false ∧ ∃ a, v = .ref a ∧ F' a = none ∧ (H a = none ∨ OwnsU σ ρ a) ∧ ¬ Owns σ' ρ' a ∧ OAt K F' H' a o
theorem VOk.back {K : PySem.W.Frag} {σ σ1 σ' : L2.St} {ρ ρ1 ρ' : Rho} {F F1 H H1 F' H' : Hp} {v : V} (st : Stp σ ρ F H σ1 ρ1 F1 H1) : ∀ {s : Slot}, VOk K σ1 ρ1 H1 σ' ρ' F' H' v s → VOk K σ ρ H σ' ρ' F' H' v s
  | .un, h => h
  | .val _, h => h
  | .own _ _, ⟨h1, a, h2, h3, h4, h5, h6⟩ => ⟨h1, a, h2, h3, by
      rcases h4 with q | q
      · refine .inl ?_
        cases e : H a with
        | none => rfl
        | some o => exact absurd q (st.th a (by rw [e]; simp))
      · exact (st.ownU a q).symm, h5, h6⟩

def tD (K : PySem.W.Frag) (m : ME) : TE := fun σ H Q => ∃ F ρ d ρ', Cfg K F H σ ρ ∧ m ρ = some (d, ρ') ∧ ∀ v F' H', Cfg K F' H' σ ρ' → Stp σ ρ F H σ ρ' F' H' → Rp K F' v d → Q v H'
def tS (K : PySem.W.Frag) (m : MS) : TE := fun σ H Q => ∃ F ρ s ρ', Cfg K F H σ ρ ∧ m ρ = some (s, ρ') ∧ ∀ v F' H', Cfg K F' H' σ ρ' → Stp σ ρ F H σ ρ' F' H' → VOk K σ ρ H σ ρ' F' H' v s → Q v H'
def tT (K : PySem.W.Frag) (m : MT) : TT := fun σ H Q => ∃ F ρ b ρ', Cfg K F H σ ρ ∧ m ρ = some (b, ρ') ∧ ∀ F' H', Cfg K F' H' σ ρ' → Stp σ ρ F H σ ρ' F' H' → Q b H'
def tA (K : PySem.W.Frag) (m : MA) : TA := fun σ H Q => ∃ F ρ ds ρ', Cfg K F H σ ρ ∧ m ρ = some (ds, ρ') ∧ ∀ vs F' H', Cfg K F' H' σ ρ' → Stp σ ρ F H σ ρ' F' H' → RpAll K F' vs ds → Q vs H'

structure XD (X : Cx) (e : Expr) (m : ME) : Prop where pe : PE X e (tD X.K m)
structure XS (X : Cx) (e : Expr) (m : MS) : Prop where pe : PE X e (tS X.K m)
structure XT (X : Cx) (e : Expr) (m : MT) : Prop where pt : PT X e (tT X.K m)
structure XW (X : Cx) (e : Expr) (m : MT) : Prop where pw : PW X e (tT X.K m)
structure XA (X : Cx) (es : List Expr) (m : MA) : Prop where pa : PA X es (tA X.K m)

theorem pe_imp {X : Cx} {e : Expr} {t t' : TE} (h : PE X e t) (i : ∀ σ H Q, t' σ H Q → t σ H Q) : PE X e t' := ⟨fun pins s σ H Q I q => h.run pins s σ H Q I (i σ H Q q)⟩
theorem pt_imp {X : Cx} {e : Expr} {t t' : TT} (h : PT X e t) (i : ∀ σ H Q, t' σ H Q → t σ H Q) : PT X e t' := ⟨fun pins s σ H Q I q => h.run pins s σ H Q I (i σ H Q q)⟩
theorem pw_imp {X : Cx} {e : Expr} {t t' : TT} (h : PW X e t) (i : ∀ σ H Q, t' σ H Q → t σ H Q) : PW X e t' := ⟨fun w pins s σ H Q I q => h.run w pins s σ H Q I (i σ H Q q)⟩
theorem pa_imp {X : Cx} {e : List Expr} {t t' : TA} (h : PA X e t) (i : ∀ σ H Q, t' σ H Q → t σ H Q) : PA X e t' := ⟨fun p pins s σ H Q I q => h.run p pins s σ H Q I (i σ H Q q)⟩
theorem ps_imp {X : Cx} {e : Stmt} {t t' : TS} (h : PS X e t) (i : ∀ D σ H, t' D σ H → t D σ H) : PS X e t' := ⟨fun pins s σ H D I q => h.run pins s σ H D I (i D σ H q)⟩
theorem pss_imp {X : Cx} {e : List Stmt} {t t' : TS} (h : PSs X e t) (i : ∀ D σ H, t' D σ H → t D σ H) : PSs X e t' := ⟨fun pins s σ H D I q => h.run pins s σ H D I (i D σ H q)⟩

/-! ### names -/
/-- what is read may be locked, for good -/
theorem pe_lockV {X : Cx} {e : Expr} {t : TE} (h : PE X e t) : PE X e (fun σ H Q => t σ H fun x H1 => Q x H1 ∨ ∃ d kvs, H1 d = some (.dK kvs) ∧ ∀ od, Q x (upd H1 d (.frz od (.dK kvs)))) := by
  refine ⟨fun pins s σ H Q I hw => ?_⟩
  refine thn (h.run pins s σ _ _ I hw) fun v s1 ⟨x, H1, I2, r, q⟩ => ?_
  rcases q with q | ⟨d, kvs, hd, q⟩
  · exact ⟨x, _, I2, r, q⟩
  · obtain ⟨od, I3⟩ := I2.lock hd True.intro
    exact ⟨x, _, I3, r, q od⟩
/-- an own object becomes data: a list stays as it stands, a dict is locked -/
theorem own_frz {K : PySem.W.Frag} {F H : Hp} {a : Addr} {o : Own} (hF : F a = none) (h : OAt K F H a o) :
    (∃ u, H a = some u ∧ Rp K (upd F a u) (.ref a) o.toD) ∨ ∃ xs, H a = some (.dK xs) ∧ ∀ od, Rp K (upd F a (.frz od (.dK xs))) (.ref a) o.toD := by
  cases o with
  | lst ds =>
    obtain ⟨xs, h1, h2⟩ := h
    exact .inl ⟨_, h1, .lst upd_same (h2.ex (.new hF))⟩
  | dct kvs =>
    obtain ⟨xs, h1, h2⟩ := h
    exact .inr ⟨xs, h1, fun od => .dct upd_same (h2.ex (.new hF))⟩

def mVar (i : Nat) : ME := fun ρ => match ρ[i]? with
  | some (.val d) => some (d, ρ)
  | some (.own false o) => some (o.toD, ρ.set i (.val o.toD))
  | _ => none
section
variable {K : PySem.W.Frag} {F H : Hp} {σ : L2.St} {ρ : Rho}
/-- the own object at slot i becomes data -/
theorem Cfg.frz (c : Cfg K F H σ ρ) {i : Nat} {o : Own} {a : Addr} (hi : ρ[i]? = some (.own false o)) (ha : σ[i]? = some (some (.ref a))) {u : HO} {H' : Hp} (hu : H' a = some u) (hs : ∀ b, b ≠ a → H' b = H b) (hH : H a ≠ none) (hF : F a = none) (r : Rp K (upd F a u) (.ref a) o.toD) :
    Cfg K (upd F a u) H' σ (ρ.set i (.val o.toD)) ∧ Stp σ ρ F H σ (ρ.set i (.val o.toD)) (upd F a u) H' := by
  have ex : Ex (upd F a u) H' := fun b w k => by
    by_cases z : b = a
    · subst z
      rw [upd_same] at k
      rw [hu]
      exact k
    · rw [upd_ne z] at k
      rw [hs b z]
      exact c.ex b w k
  have il : i < ρ.length := (List.getElem?_eq_some_iff.mp hi).1
  have mono : Ex F (upd F a u) := .new hF
  refine ⟨⟨ex, by rw [List.length_set]; exact c.len, fun j s h => ?_, fun j k p q o1 u1 b h1 h2 h3 h4 => ?_⟩, ⟨mono, fun b w h n => ?_, fun b h => ?_, fun b h k => ?_, fun b h => ?_, fun b h => ?_, fun j o1 h => ?_⟩⟩
  · by_cases z : j = i
    · subst z
      rw [List.getElem?_set_self il] at h
      cases h
      exact ⟨_, ha, r⟩
    · rw [List.getElem?_set_ne (Ne.symm z)] at h
      have q := c.sl j s h
      cases s with
      | un => trivial
      | val d =>
        obtain ⟨v, e1, r1⟩ := q
        exact ⟨v, e1, r1.ex mono⟩
      | own p o1 =>
        obtain ⟨b, e1, f1, at1⟩ := q
        have nb : b ≠ a := fun e => z (c.sep j i p false o1 o a h hi (by rw [e1, e]) ha)
        exact ⟨b, e1, by rw [upd_ne nb]; exact f1, at1.mono mono (hs b nb)⟩
  · have nj : j ≠ i := fun e => by
      subst e
      rw [List.getElem?_set_self il] at h1
      cases h1
    have nk : k ≠ i := fun e => by
      subst e
      rw [List.getElem?_set_self il] at h2
      cases h2
    rw [List.getElem?_set_ne (Ne.symm nj)] at h1
    rw [List.getElem?_set_ne (Ne.symm nk)] at h2
    exact c.sep j k p q o1 u1 b h1 h2 h3 h4
  · have nb : b ≠ a := fun e => n ⟨i, _, o, hi, by rw [ha, e]⟩
    rw [hs b nb]
    exact h
  · by_cases z : b = a
    · subst z
      rw [hu]
      intro k
      cases k
    · rw [hs b z]
      exact h
  · by_cases z : b = a
    · subst z
      exact .inr ⟨i, _, _, hi, ha⟩
    · rw [upd_ne z] at k
      exact absurd h k
  · obtain ⟨j, p, o1, h1, h2⟩ := h
    have nj : j ≠ i := fun e => by
      subst e
      rw [List.getElem?_set_self il] at h1
      cases h1
    rw [List.getElem?_set_ne (Ne.symm nj)] at h1
    exact .inl ⟨j, p, o1, h1, h2⟩
  · obtain ⟨j, o1, h1, h2⟩ := h
    have nj : j ≠ i := fun e => by
      subst e
      rw [List.getElem?_set_self il] at h1
      cases h1
    rw [List.getElem?_set_ne (Ne.symm nj)] at h1
    exact .inl ⟨j, o1, h1, h2⟩
  · refine ⟨rfl, o1, ?_⟩
    have nj : j ≠ i := fun e => by
      subst e
      rw [hi] at h
      cases h
    rw [List.getElem?_set_ne (Ne.symm nj)]
    exact h
end
theorem xd_var {X : Cx} (i : Nat) {x : Str} {pos : Pos} (hN : X.N[i]? = some x := by rfl) (hv : Vis X.env.scope x := by first | exact Or.inl rfl | exact Or.inr (Or.inl rfl) | exact Or.inr (Or.inr rfl)) (hd : (x == ("__debug__" : Str)) = false := by decide)
    (hcd : (x == ("__classdict__" : Str)) = false := by decide) : XD X (.Name x pos) (mVar i) := by
  refine ⟨pe_imp (pe_lockV (pv i hN hv hd hcd)) fun σ H Q h => ?_⟩
  obtain ⟨F, ρ, d, ρ', c, e, k⟩ := h
  unfold mVar at e
  split at e
  · rename_i d1 hi
    cases e
    obtain ⟨v, e1, r⟩ := c.sl i _ hi
    exact ⟨v, e1, .inl (k v F H c (.refl _ _ _ _) r)⟩
  · rename_i o hi
    cases e
    obtain ⟨a, e1, f, at1⟩ := c.sl i _ hi
    rcases own_frz f at1 with ⟨u, hu, r⟩ | ⟨xs, hu, r⟩
    · obtain ⟨c1, s1⟩ := c.frz hi e1 hu (fun _ _ => rfl) at1.there f r
      exact ⟨_, e1, .inl (k _ _ H c1 s1 r)⟩
    · refine ⟨_, e1, .inr ⟨a, xs, hu, fun od => ?_⟩⟩
      obtain ⟨c1, s1⟩ := c.frz (u := .frz od (.dK xs)) (H' := upd H a (.frz od (.dK xs))) hi e1 upd_same (fun b z => upd_ne z) at1.there f (r od)
      exact k _ _ _ c1 s1 (r od)
  · cases e

/-! ### constants -/
def mC (d : D) : ME := fun ρ => some (d, ρ)
theorem xd_c {X : Cx} {e : Expr} {v : V} {d : D} (h : PE X e (tC v)) (r : ∀ F, Rp X.K F v d) : XD X e (mC d) := by
  refine ⟨pe_imp h fun σ H Q q => ?_⟩
  obtain ⟨F, ρ, d1, ρ', c, e1, k⟩ := q
  cases e1
  exact k v F H c (.refl _ _ _ _) (r F)
section
variable {X : Cx}
theorem xd_int {i j pos} : XD X (.Constant (.int i) j pos) (mC (.int i)) := xd_c pe_int fun _ => .int i
theorem xd_bl {i j pos} : XD X (.Constant (.bool i) j pos) (mC (.bl i)) := xd_c pe_bl fun _ => .bl i
theorem xd_non {j pos} : XD X (.Constant .none j pos) (mC .non) := xd_c pe_non fun _ => .non
theorem xd_str {i j pos} : XD X (.Constant (.str i) j pos) (mC (.str i)) := xd_c pe_str fun _ => .str i
end

/-! ### slots and data -/
def mV (m : ME) : MS := fun ρ => match m ρ with
  | some (d, ρ') => some (.val d, ρ')
  | none => none
def mFz (m : MS) : ME := fun ρ => match m ρ with
  | some (.val d, ρ') => some (d, ρ')
  | some (.own _ o, ρ') => some (o.toD, ρ')
  | _ => none
theorem xs_v {X : Cx} {e : Expr} {m : ME} (h : XD X e m) : XS X e (mV m) := by
  refine ⟨pe_imp h.pe fun σ H Q q => ?_⟩
  obtain ⟨F, ρ, s, ρ', c, e1, k⟩ := q
  unfold mV at e1
  split at e1
  · rename_i d ρ1 h1
    cases e1
    exact ⟨F, ρ, d, _, c, h1, fun v F' H' c' st r => k v F' H' c' st r⟩
  · cases e1
/-- a new object becomes data -/
theorem fz_put {K : PySem.W.Frag} {F H F' H' H2 : Hp} {σ : L2.St} {ρ ρ' : Rho} {a : Addr} {u : HO} (c : Cfg K F' H' σ ρ') (st : Stp σ ρ F H σ ρ' F' H') (f : F' a = none) (n : H a = none ∨ OwnsU σ ρ a) (no : ¬ Owns σ ρ' a) (hh : H' a ≠ none) (hu : H2 a = some u) (hs : ∀ b, b ≠ a → H2 b = H' b) :
    Cfg K (upd F' a u) H2 σ ρ' ∧ Stp σ ρ F H σ ρ' (upd F' a u) H2 := by
  have ex1 : Ex F' (upd F' a u) := .new f
  have ex2 : Ex (upd F' a u) H2 := fun b w k => by
    by_cases z : b = a
    · subst z
      rw [upd_same] at k
      rw [hu]
      exact k
    · rw [upd_ne z] at k
      rw [hs b z]
      exact c.ex b w k
  refine ⟨⟨ex2, c.len, fun i s h => ?_, c.sep⟩, ⟨st.exF.trans ex1, fun b w h k => ?_, fun b h => ?_, fun b h k => ?_, st.own, st.ownU, st.pin⟩⟩
  · have q := c.sl i s h
    cases s with
    | un => trivial
    | val d =>
      obtain ⟨v, e1, r1⟩ := q
      exact ⟨v, e1, r1.ex ex1⟩
    | own p o1 =>
      obtain ⟨b, e1, f1, at2⟩ := q
      have nb : b ≠ a := fun e => no ⟨i, p, o1, h, by rw [e1, e]⟩
      exact ⟨b, e1, by rw [upd_ne nb]; exact f1, at2.mono ex1 (hs b nb)⟩
  · have nb : b ≠ a := fun e => by
      rcases n with n | n
      · rw [e, n] at h
        cases h
      · exact k (by rw [e]; exact n.owns)
    rw [hs b nb]
    exact st.fr b w h k
  · by_cases z : b = a
    · subst z
      rw [hu]
      intro k
      cases k
    · rw [hs b z]
      exact st.th b h
  · by_cases z : b = a
    · subst z
      exact n.imp_right OwnsU.owns
    · rw [upd_ne z] at k
      exact st.nF b h k
theorem fz_ok {K : PySem.W.Frag} {F H F' H' : Hp} {σ : L2.St} {ρ ρ' : Rho} {v : V} {p : Bool} {o : Own} (c : Cfg K F' H' σ ρ') (st : Stp σ ρ F H σ ρ' F' H') (h : VOk K σ ρ H σ ρ' F' H' v (.own p o)) :
    (∃ F2, Cfg K F2 H' σ ρ' ∧ Stp σ ρ F H σ ρ' F2 H' ∧ Rp K F2 v o.toD) ∨ ∃ a xs, H' a = some (.dK xs) ∧ ∀ od, ∃ F2, Cfg K F2 (upd H' a (.frz od (.dK xs))) σ ρ' ∧ Stp σ ρ F H σ ρ' F2 (upd H' a (.frz od (.dK xs))) ∧ Rp K F2 v o.toD := by
  obtain ⟨_, a, rfl, f, n, no, at1⟩ := h
  rcases own_frz f at1 with ⟨u, hu, r⟩ | ⟨xs, hu, r⟩
  · obtain ⟨c2, s2⟩ := fz_put c st f n no at1.there hu fun _ _ => rfl
    exact .inl ⟨_, c2, s2, r⟩
  · refine .inr ⟨a, xs, hu, fun od => ?_⟩
    obtain ⟨c2, s2⟩ := fz_put (u := .frz od (.dK xs)) (H2 := upd H' a (.frz od (.dK xs))) c st f n no at1.there upd_same fun b z => upd_ne z
    exact ⟨_, c2, s2, r od⟩
theorem xd_fz {X : Cx} {e : Expr} {m : MS} (h : XS X e m) : XD X e (mFz m) := by
  refine ⟨pe_imp (pe_lockV h.pe) fun σ H Q q => ?_⟩
  obtain ⟨F, ρ, d, ρ', c, e1, k⟩ := q
  unfold mFz at e1
  split at e1
  · rename_i d1 ρ1 h1
    cases e1
    exact ⟨F, ρ, _, _, c, h1, fun v F' H' c' st r => .inl (k v F' H' c' st r)⟩
  · rename_i p o ρ1 h1
    cases e1
    refine ⟨F, ρ, _, _, c, h1, fun v F' H' c' st r => ?_⟩
    rcases fz_ok c' st r with ⟨F2, c2, st2, r2⟩ | ⟨a, xs, ha, q⟩
    · exact .inl (k v F2 H' c2 st2 r2)
    · refine .inr ⟨a, xs, ha, fun od => ?_⟩
      obtain ⟨F2, c2, st2, r2⟩ := q od
      exact k v F2 _ c2 st2 r2
  · cases e1

/-! ### two in a row -/
def mBin (f : D → D → Option D) (ma mb : ME) : ME := fun ρ => match ma ρ with
  | some (x, ρ1) => (match mb ρ1 with
    | some (y, ρ2) => (match f x y with
      | some z => some (z, ρ2)
      | none => none)
    | none => none)
  | none => none
/-- a rule on values keeps to f: it gives data (new objects may come) -/
def RvD (K : PySem.W.Frag) (r : R2) (f : D → D → Option D) : Prop := ∀ (F H : Hp) (vx vy : V) (x y z : D) (Q : VK), Ex F H → Rp K F vx x → Rp K F vy y → f x y = some z →
  (∀ v F' H', Grow F H F' H' → Rp K F' v z → Q v H') → r vx vy H Q
theorem t_bin {K : PySem.W.Frag} {r : R2} {f : D → D → Option D} {ma mb : ME} (hr : RvD K r f) (σ : L2.St) (H : Hp) (Q : VK) (h : tD K (mBin f ma mb) σ H Q) : tOp r (tD K ma) (tD K mb) σ H Q := by
  obtain ⟨F, ρ, d, ρ', c, e, k⟩ := h
  unfold mBin at e
  split at e
  · rename_i x ρ1 h1
    split at e
    · rename_i y ρ2 h2
      split at e
      · rename_i z h3
        cases e
        refine ⟨F, ρ, x, ρ1, c, h1, fun v F1 H1 c1 s1 r1 => ?_⟩
        refine ⟨F1, ρ1, y, _, c1, h2, fun w F2 H2 c2 s2 r2 => ?_⟩
        refine hr F2 H2 v w x y _ Q c2.ex (r1.ex s2.exF) r2 h3 fun u F3 H3 g r3 => ?_
        exact k u F3 H3 (g.cfg c2) ((s1.trans s2).trans g.stp) r3
      · cases e
    · cases e
  · cases e
theorem xd_bin {X : Cx} {a b : Expr} {pos : Pos} {op : Operator} {r : R2} {f : D → D → Option D} {ma mb : ME} (ho : OpR X (binaryOp op) r) (hr : RvD X.K r f) (ha : XD X a ma) (hb : XD X b mb) : XD X (.BinOp a op b pos) (mBin f ma mb) :=
  ⟨pe_imp (pe_op ho ha.pe hb.pe) (t_bin hr)⟩
theorem xd_cmp {X : Cx} {a b : Expr} {pos : Pos} {op : CmpOp} {r : R2} {f : D → D → Option D} {ma mb : ME} (ho : OpR X (compareOp op) r) (hr : RvD X.K r f) (ha : XD X a ma) (hb : XD X b mb) (hm : behindInMarks op b = false) : XD X (.Compare a [op] [b] pos) (mBin f ma mb) :=
  ⟨pe_imp (pe_cmpR ho ha.pe hb.pe hm) (t_bin hr)⟩
/-- .. as a test -/
def mBinT (f : D → D → Option Bool) (ma mb : ME) : MT := fun ρ => match ma ρ with
  | some (x, ρ1) => (match mb ρ1 with
    | some (y, ρ2) => (match f x y with
      | some z => some (z, ρ2)
      | none => none)
    | none => none)
  | none => none
def blD (f : D → D → Option Bool) : D → D → Option D := fun x y => match f x y with
  | some b => some (.bl b)
  | none => none
theorem t_binT {K : PySem.W.Frag} {r : R2} {f : D → D → Option Bool} {ma mb : ME} (hr : RvD K r (blD f)) (σ : L2.St) (H : Hp) (Q : Bool → Hp → Prop) (h : tT K (mBinT f ma mb) σ H Q) : tTest (tOp r (tD K ma) (tD K mb)) σ H Q := by
  obtain ⟨F, ρ, d, ρ', c, e, k⟩ := h
  unfold mBinT at e
  split at e
  · rename_i x ρ1 h1
    split at e
    · rename_i y ρ2 h2
      split at e
      · rename_i z h3
        cases e
        refine ⟨F, ρ, x, ρ1, c, h1, fun v F1 H1 c1 s1 r1 => ?_⟩
        refine ⟨F1, ρ1, y, _, c1, h2, fun w F2 H2 c2 s2 r2 => ?_⟩
        refine hr F2 H2 v w x y (.bl _) _ c2.ex (r1.ex s2.exF) r2 (by unfold blD; rw [h3]) fun u F3 H3 g r3 => ?_
        cases r3
        exact ⟨_, rfl, k F3 H3 (g.cfg c2) ((s1.trans s2).trans g.stp)⟩
      · cases e
    · cases e
  · cases e
theorem xt_cmp {X : Cx} {a b : Expr} {pos : Pos} {op : CmpOp} {r : R2} {f : D → D → Option Bool} {ma mb : ME} (ho : OpR X (compareOp op) r) (hr : RvD X.K r (blD f)) (ha : XD X a ma) (hb : XD X b mb) (hm : behindInMarks op b = false) : XT X (.Compare a [op] [b] pos) (mBinT f ma mb) :=
  ⟨pt_imp (pt_cmpR ho ha.pe hb.pe hm) (t_binT hr)⟩

/-! ### ints -/
def I2 (g : Int → Int → D) : D → D → Option D
  | .int i, .int j => some (g i j)
  | _, _ => none
def I2C (C : Int → Int → Bool) (g : Int → Int → D) : D → D → Option D
  | .int i, .int j => if C i j = true then some (g i j) else none
  | _, _ => none
def dV : D → V
  | .int i => .int i | .bl b => .bl b | .str s => .str s | _ => .non
theorem rv_I0 {K : PySem.W.Frag} {g : Int → Int → Int} : RvD K (rI0 fun i j => .int (g i j)) (I2 fun i j => .int (g i j)) := by
  intro F H vx vy x y z Q ex rx ry e k
  unfold I2 at e
  split at e
  · cases e
    cases rx
    cases ry
    exact ⟨_, _, rfl, rfl, k _ F H (.refl ex) (.int _)⟩
  · cases e
theorem rv_I {K : PySem.W.Frag} {C : Int → Int → Prop} {c : Int → Int → Bool} {g : Int → Int → Int} (hc : ∀ i j, c i j = true → C i j) : RvD K (rI C fun i j => .int (g i j)) (I2C c fun i j => .int (g i j)) := by
  intro F H vx vy x y z Q ex rx ry e k
  unfold I2C at e
  split at e
  · split at e
    · rename_i hq
      cases e
      cases rx
      cases ry
      exact ⟨_, _, rfl, rfl, hc _ _ hq, k _ F H (.refl ex) (.int _)⟩
    · cases e
  · cases e
end Mr

set_option Elab.async false
set_option linter.all false
set_option maxRecDepth 100000
set_option maxHeartbeats 2000000
/-! Mir2: operators, comparisons, tests, displays, subscripts, built-ins by mirrors. -/
namespace Mr
open PySem PySem.Spec PyProof.Rows L2

/-! ### a rule whose result may be a new object -/
def VG (K : PySem.W.Frag) (H F' H' : Hp) (v : V) : Slot → Prop
  | .un => False
  | .val d => Rp K F' v d
  | .own p o => p = false ∧ ∃ a, v = .ref a ∧ F' a = none ∧ H a = none ∧ OAt K F' H' a o
def RvS (K : PySem.W.Frag) (r : R2) (f : D → D → Option Slot) : Prop := ∀ (F H : Hp) (vx vy : V) (x y : D) (z : Slot) (Q : VK), Ex F H → Rp K F vx x → Rp K F vy y → f x y = some z →
  (∀ v F' H', Grow F H F' H' → VG K H F' H' v z → Q v H') → r vx vy H Q
theorem none_of_th {a : Addr} {H H' : Hp} (th : ∀ a, H a ≠ none → H' a ≠ none) (h : H' a = none) : H a = none := by
  cases e : H a with
  | none => rfl
  | some o => exact absurd h (th a (by rw [e]; simp))
theorem VG.vok {K : PySem.W.Frag} {σ : L2.St} {ρ ρ' : Rho} {F H F1 H1 F' H' : Hp} {v : V} (st : Stp σ ρ F H σ ρ' F1 H1) (g : Grow F1 H1 F' H') (c : Cfg K F1 H1 σ ρ') : ∀ {s : Slot}, VG K H1 F' H' v s → VOk K σ ρ H σ ρ' F' H' v s
  | .un, h => h
  | .val _, h => h
  | .own _ _, ⟨h1, a, h2, h3, h4, h5⟩ => ⟨h1, a, h2, h3, .inl (none_of_th st.th h4), fun z => (c.own z).2 h4, h5⟩
def mBinS (f : D → D → Option Slot) (ma mb : ME) : MS := fun ρ => match ma ρ with
  | some (x, ρ1) => (match mb ρ1 with
    | some (y, ρ2) => (match f x y with
      | some z => some (z, ρ2)
      | none => none)
    | none => none)
  | none => none
theorem t_binS {K : PySem.W.Frag} {r : R2} {f : D → D → Option Slot} {ma mb : ME} (hr : RvS K r f) (σ : L2.St) (H : Hp) (Q : VK) (h : tS K (mBinS f ma mb) σ H Q) : tOp r (tD K ma) (tD K mb) σ H Q := by
  obtain ⟨F, ρ, d, ρ', c, e, k⟩ := h
  unfold mBinS at e
  split at e
  · rename_i x ρ1 h1
    split at e
    · rename_i y ρ2 h2
      split at e
      · rename_i z h3
        cases e
        refine ⟨F, ρ, x, ρ1, c, h1, fun v F1 H1 c1 s1 r1 => ?_⟩
        refine ⟨F1, ρ1, y, _, c1, h2, fun w F2 H2 c2 s2 r2 => ?_⟩
        refine hr F2 H2 v w x y _ Q c2.ex (r1.ex s2.exF) r2 h3 fun u F3 H3 g r3 => ?_
        exact k u F3 H3 (g.cfg c2) ((s1.trans s2).trans g.stp) (VG.vok (s1.trans s2) g c2 r3)
      · cases e
    · cases e
  · cases e
theorem xs_bin {X : Cx} {a b : Expr} {pos : Pos} {op : Operator} {r : R2} {f : D → D → Option Slot} {ma mb : ME} (ho : OpR X (binaryOp op) r) (hr : RvS X.K r f) (ha : XD X a ma) (hb : XD X b mb) : XS X (.BinOp a op b pos) (mBinS f ma mb) :=
  ⟨pe_imp (pe_op ho ha.pe hb.pe) (t_binS hr)⟩
theorem RvS.or1 {K : PySem.W.Frag} {r r' : R2} {f : D → D → Option Slot} (h : RvS K r f) : RvS K (fun x y H Q => r x y H Q ∨ r' x y H Q) f := fun F H vx vy x y z Q ex rx ry e k => .inl (h F H vx vy x y z Q ex rx ry e k)
theorem RvS.or2 {K : PySem.W.Frag} {r r' : R2} {f : D → D → Option Slot} (h : RvS K r' f) : RvS K (fun x y H Q => r x y H Q ∨ r' x y H Q) f := fun F H vx vy x y z Q ex rx ry e k => .inr (h F H vx vy x y z Q ex rx ry e k)
/-- the new tuple, the new list at p -/
theorem new_tup {K : PySem.W.Frag} {F H : Hp} {p : Addr} {xs : List V} {ds : List D} (ex : Ex F H) (n : H p = none) (r : RpAll K F xs ds) : Grow F H (upd F p (.tup xs)) (upd H p (.tup xs)) ∧ Rp K (upd F p (.tup xs)) (.ref p) (.tup ds) :=
  ⟨Grow.new ex n, .tup (SqT.of upd_same) (r.ex (.new (ex.free n)))⟩
theorem new_lst {K : PySem.W.Frag} {F H : Hp} {p : Addr} {xs : List V} {ds : List D} (ex : Ex F H) (n : H p = none) (r : RpAll K F xs ds) : Grow F H F (upd H p (.lst xs)) ∧ VG K H F (upd H p (.lst xs)) (.ref p) (.own false (.lst ds)) :=
  ⟨Grow.mine ex n, rfl, p, rfl, ex.free n, n, xs, upd_same, r⟩

/-! ### + -/
def szL : Nat := 16777216
theorem szL_eq : sizeLine = szL := sizeLine_eq
def addS : D → D → Option Slot
  | .int i, .int j => some (.val (.int (i + j)))
  | .str a, .str b => if a.length + b.length ≤ szL then some (.val (.str (a ++ b))) else none
  | .tup a, .tup b => if a.length + b.length ≤ szL then some (.val (.tup (a ++ b))) else none
  | .lst a, .lst b => if a.length + b.length ≤ szL then some (.own false (.lst (a ++ b))) else none
  | .int i, .bl k => some (.val (.int (i + b2i k)))
  | _, _ => none
def rAddAll (K : PySem.W.Frag) : R2 := fun x y H Q => (∃ i j, x = .int i ∧ y = .int j ∧ Q (.int (i + j)) H) ∨ (∃ i j, x = .str i ∧ y = .str j ∧ i.length + j.length ≤ sizeLine ∧ Q (.str (i ++ j)) H) ∨ rCatA K x y H Q ∨ rCat x y H Q ∨ (∃ i k, x = .int i ∧ y = .bl k ∧ Q (.int (i + b2i k)) H)
theorem op_addAll {X : Cx} : OpR X (binaryOp .Add) (rAddAll X.K) := op_add.or (op_add_str.or (op_catA.or (op_cat.or op_add_ib)))
theorem rpAll_nil {K : PySem.W.Frag} {F : Hp} {xs : List V} {ds : List D} (r : RpAll K F xs ds) : xs = [] ↔ ds = [] := by
  cases r with
  | nil => simp
  | cons _ _ => simp
theorem rv_add {K : PySem.W.Frag} : RvS K (rAddAll K) addS := by
  intro F H vx vy x y z Q ex rx ry e k
  unfold addS at e
  split at e
  · cases e
    cases rx
    cases ry
    exact .inl ⟨_, _, rfl, rfl, k _ F H (.refl ex) (.int _)⟩
  · split at e
    · rename_i hz
      cases e
      cases rx
      cases ry
      exact .inr (.inl ⟨_, _, rfl, rfl, by rw [szL_eq]; exact hz, k _ F H (.refl ex) (.str _)⟩)
    · cases e
  · split at e
    · rename_i a b hz
      cases e
      cases rx with
      | tup h1 r1 =>
        cases ry with
        | tup h2 r2 =>
          refine .inr (.inr (.inl ⟨_, _, _, _, rfl, rfl, ex.t h1, ex.t h2, by rw [szL_eq, r1.length, r2.length]; exact hz, fun z => ?_, fun _ z => ?_, fun _ _ p hp => ?_⟩))
          · have z' := (rpAll_nil r1).mp z
            subst z'
            exact k _ F H (.refl ex) (.tup h2 r2)
          · have z' := (rpAll_nil r2).mp z
            subst z'
            rw [List.append_nil] at k
            exact k _ F H (.refl ex) (.tup h1 r1)
          · obtain ⟨g, r⟩ := new_tup ex hp (r1.append r2)
            exact k _ _ _ g r
    · cases e
  · split at e
    · rename_i a b hz
      cases e
      cases rx with
      | lst h1 r1 =>
        cases ry with
        | lst h2 r2 =>
          refine .inr (.inr (.inr (.inl ⟨_, _, _, _, rfl, rfl, ex _ _ h1, ex _ _ h2, by rw [szL_eq, r1.length, r2.length]; exact hz, fun p hp => ?_⟩)))
          obtain ⟨g, r⟩ := new_lst ex hp (r1.append r2)
          exact k _ _ _ g r
    · cases e
  · cases e
    cases rx
    cases ry
    exact .inr (.inr (.inr (.inr ⟨_, _, rfl, rfl, k _ F H (.refl ex) (.int _)⟩)))
  · cases e
theorem xs_add {X : Cx} {a b : Expr} {pos : Pos} {ma mb : ME} (ha : XD X a ma) (hb : XD X b mb) : XS X (.BinOp a .Add b pos) (mBinS addS ma mb) := xs_bin op_addAll rv_add ha hb

/-! ### - * // % ** -/
def subD : D → D → Option D := I2 fun i j => .int (i - j)
def mulOk (i j : Int) : Bool := decide (i.natAbs.log2 + j.natAbs.log2 < 1000000)
def mulSm (i j : Int) : Bool := decide (i.natAbs < 2 ^ 64) || decide (j.natAbs < 2 ^ 64) || mulOk i j
def mulS : D → D → Option Slot
  | .int i, .int j => if mulSm i j = true then some (.val (.int (i * j))) else none
  | .lst a, .int k => if decide (0 ≤ k) && decide (k ≤ 1000000) && decide (a.length * k.toNat ≤ szL) then some (.own false (.lst ((List.replicate k.toNat a).flatten))) else none
  | _, _ => none
def CMulA (i j : Int) : Prop := CMul i j ∨ CMulW i j
theorem CMulA.ok {i j : Int} (h : CMulA i j) : IntMulOk i j := by
  rcases h with h | h
  · exact h.ok
  · exact h.ok
theorem mulSm_ok {i j : Int} (h : mulSm i j = true) : CMulA i j := by
  unfold mulSm mulOk at h
  simp only [Bool.or_eq_true, decide_eq_true_eq] at h
  rcases h with (h | h) | h
  · exact .inl (.inl (by omega))
  · exact .inl (.inr (by omega))
  · exact .inr h
theorem op_mulA {X : Cx} : OpR X (binaryOp .Mult) (rI CMulA fun i j => .int (i * j)) := opI fun _ _ _ _ _ _ _ hc q => mul_int q hc.ok
def rMulAll : R2 := fun x y H Q => rI CMulA (fun i j => .int (i * j)) x y H Q ∨ rRep x y H Q
theorem op_mulAll {X : Cx} : OpR X (binaryOp .Mult) rMulAll := op_mulA.or op_rep
theorem RpAll.rep {K : PySem.W.Frag} {F : Hp} {xs : List V} {ds : List D} (h : RpAll K F xs ds) : ∀ k : Nat, RpAll K F (List.replicate k xs).flatten (List.replicate k ds).flatten
  | 0 => .nil
  | k + 1 => by
    rw [List.replicate_succ, List.replicate_succ, List.flatten_cons, List.flatten_cons]
    exact h.append (RpAll.rep h k)
theorem rv_mul {K : PySem.W.Frag} : RvS K rMulAll mulS := by
  intro F H vx vy x y z Q ex rx ry e k
  unfold mulS at e
  split at e
  · split at e
    · rename_i hz
      cases e
      cases rx
      cases ry
      exact .inl ⟨_, _, rfl, rfl, mulSm_ok hz, k _ F H (.refl ex) (.int _)⟩
    · cases e
  · split at e
    · rename_i a j hz
      cases e
      simp only [Bool.and_eq_true, decide_eq_true_eq] at hz
      cases rx with
      | lst h1 r1 =>
        cases ry
        refine .inr ⟨_, _, _, rfl, rfl, ex _ _ h1, by omega, by omega, by rw [szL_eq, r1.length]; exact hz.2, fun p hp => ?_⟩
        obtain ⟨g, r⟩ := new_lst ex hp (r1.rep j.toNat)
        exact k _ _ _ g r
    · cases e
  · cases e
theorem xs_mul {X : Cx} {a b : Expr} {pos : Pos} {ma mb : ME} (ha : XD X a ma) (hb : XD X b mb) : XS X (.BinOp a .Mult b pos) (mBinS mulS ma mb) := xs_bin op_mulAll rv_mul ha hb
theorem xd_sub {X : Cx} {a b : Expr} {pos : Pos} {ma mb : ME} (ha : XD X a ma) (hb : XD X b mb) : XD X (.BinOp a .Sub b pos) (mBin subD ma mb) := xd_bin op_sub rv_I0 ha hb
def CDivX (_ j : Int) : Prop := j ≠ 0 ∧ j.natAbs.log2 < 9000
def divOk (_ j : Int) : Bool := decide (j ≠ 0) && decide (j.natAbs.log2 < 9000)
theorem op_fdivX {X : Cx} : OpR X (binaryOp .FloorDiv) (rI CDivX fun i j => .int (i.fdiv j)) := opI fun _ _ _ _ _ _ _ hc q => floordiv_int hc.1 q (.inl (PyProof.noPylong_of_log2 hc.2))
def divD : D → D → Option D := I2C divOk fun i j => .int (i.fdiv j)
theorem divOk_ok (i j : Int) (h : divOk i j = true) : CDivX i j := by
  unfold divOk at h
  unfold CDivX
  simpa using h
theorem xd_div {X : Cx} {a b : Expr} {pos : Pos} {ma mb : ME} (ha : XD X a ma) (hb : XD X b mb) : XD X (.BinOp a .FloorDiv b pos) (mBin divD ma mb) := xd_bin op_fdivX (rv_I divOk_ok) ha hb
def modOk (_ j : Int) : Bool := decide (j ≠ 0)
def modD : D → D → Option D := I2C modOk fun i j => .int (i.fmod j)
theorem xd_mod {X : Cx} {a b : Expr} {pos : Pos} {ma mb : ME} (ha : XD X a ma) (hb : XD X b mb) : XD X (.BinOp a .Mod b pos) (mBin modD ma mb) := xd_bin op_modN (rv_I fun i j h => of_decide_eq_true h) ha hb
def powOk (i j : Int) : Bool := decide (0 ≤ j) && decide (j ≤ 1000000) && decide (i.natAbs < 2 ^ 64)
def powD : D → D → Option D := I2C powOk fun i j => .int (i ^ j.toNat)
theorem xd_pow {X : Cx} {a b : Expr} {pos : Pos} {ma mb : ME} (ha : XD X a ma) (hb : XD X b mb) : XD X (.BinOp a .Pow b pos) (mBin powD ma mb) := xd_bin op_pow (rv_I fun i j h => by
  unfold powOk at h
  simp only [Bool.and_eq_true, decide_eq_true_eq] at h
  exact ⟨h.1.1, h.1.2, h.2⟩) ha hb

/-! ### one-place things -/
def RuD (K : PySem.W.Frag) (r : V → Hp → VK → Prop) (f : D → Option D) : Prop := ∀ (F H : Hp) (vx : V) (x z : D) (Q : VK), Ex F H → Rp K F vx x → f x = some z →
  (∀ v F' H', Grow F H F' H' → Rp K F' v z → Q v H') → r vx H Q
def mU (f : D → Option D) (ma : ME) : ME := fun ρ => match ma ρ with
  | some (x, ρ1) => (match f x with
    | some z => some (z, ρ1)
    | none => none)
  | none => none
theorem xd_un {X : Cx} {a : Expr} {pos : Pos} {op : UnaryOp} {r : V → Hp → VK → Prop} {f : D → Option D} {ma : ME} (ho : UnR X (unaryOp op) r) (hr : RuD X.K r f) (ha : XD X a ma) : XD X (.UnaryOp op a pos) (mU f ma) := by
  refine ⟨pe_imp (pe_un ho ha.pe) fun σ H Q h => ?_⟩
  obtain ⟨F, ρ, d, ρ', c, e, k⟩ := h
  unfold mU at e
  split at e
  · rename_i x ρ1 h1
    split at e
    · rename_i z h3
      cases e
      refine ⟨F, ρ, x, _, c, h1, fun v F1 H1 c1 s1 r1 => ?_⟩
      refine hr F1 H1 v x _ Q c1.ex r1 h3 fun u F3 H3 g r3 => ?_
      exact k u F3 H3 (g.cfg c1) (s1.trans g.stp) r3
    · cases e
  · cases e
def negD : D → Option D
  | .int i => some (.int (-i))
  | _ => none
theorem xd_neg {X : Cx} {a : Expr} {pos : Pos} {ma : ME} (ha : XD X a ma) : XD X (.UnaryOp .USub a pos) (mU negD ma) := xd_un un_neg (by
  intro F H vx x z Q ex rx e k
  unfold negD at e
  split at e
  · cases e
    cases rx
    exact ⟨_, rfl, k _ F H (.refl ex) (.int _)⟩
  · cases e) ha

/-! ### comparisons of ints -/
def cmpI (p : Int → Int → Bool) : D → D → Option Bool
  | .int i, .int j => some (p i j)
  | _, _ => none
theorem rv_cmpI {K : PySem.W.Frag} {p : Int → Int → Bool} : RvD K (rI0 fun i j => .bl (p i j)) (blD (cmpI p)) := by
  intro F H vx vy x y z Q ex rx ry e k
  unfold blD cmpI at e
  split at e
  · rename_i b hb
    cases e
    split at hb
    · cases hb
      cases rx
      cases ry
      exact ⟨_, _, rfl, rfl, k _ F H (.refl ex) (.bl _)⟩
    · cases hb
  · cases e
abbrev ltD := cmpI fun i j => decide (i < j)
abbrev leD := cmpI fun i j => decide (i ≤ j)
abbrev gtD := cmpI fun i j => decide (j < i)
abbrev geD := cmpI fun i j => decide (j ≤ i)
section
variable {X : Cx} {a b : Expr} {pos : Pos} {ma mb : ME}
theorem xt_lt (ha : XD X a ma) (hb : XD X b mb) : XT X (.Compare a [.Lt] [b] pos) (mBinT ltD ma mb) := xt_cmp op_lt rv_cmpI ha hb (nomark _)
theorem xt_le (ha : XD X a ma) (hb : XD X b mb) : XT X (.Compare a [.LtE] [b] pos) (mBinT leD ma mb) := xt_cmp op_le rv_cmpI ha hb (nomark _)
theorem xt_gt (ha : XD X a ma) (hb : XD X b mb) : XT X (.Compare a [.Gt] [b] pos) (mBinT gtD ma mb) := xt_cmp op_gt rv_cmpI ha hb (nomark _)
theorem xt_ge (ha : XD X a ma) (hb : XD X b mb) : XT X (.Compare a [.GtE] [b] pos) (mBinT geD ma mb) := xt_cmp op_ge rv_cmpI ha hb (nomark _)
theorem xd_lt (ha : XD X a ma) (hb : XD X b mb) : XD X (.Compare a [.Lt] [b] pos) (mBin (blD ltD) ma mb) := xd_cmp op_lt rv_cmpI ha hb (nomark _)
theorem xd_le (ha : XD X a ma) (hb : XD X b mb) : XD X (.Compare a [.LtE] [b] pos) (mBin (blD leD) ma mb) := xd_cmp op_le rv_cmpI ha hb (nomark _)
theorem xd_gt (ha : XD X a ma) (hb : XD X b mb) : XD X (.Compare a [.Gt] [b] pos) (mBin (blD gtD) ma mb) := xd_cmp op_gt rv_cmpI ha hb (nomark _)
theorem xd_ge (ha : XD X a ma) (hb : XD X b mb) : XD X (.Compare a [.GtE] [b] pos) (mBin (blD geD) ma mb) := xd_cmp op_ge rv_cmpI ha hb (nomark _)
end

/-! ### == of data -/
mutual
def D.py : D → PyData
  | .non => .none
  | .bl b => .bool b
  | .int i => .int i
  | .str s => .str s
  | .lst ds => .list (D.pys ds)
  | .rl ds => .list (D.pys ds)
  | .tup ds => .tuple (D.pys ds)
  | .dct _ => .dict []
  | .obj _ => .dict []
def D.pys : List D → List PyData
  | [] => []
  | d :: ds => D.py d :: D.pys ds
end
mutual
/-- no dict, no object within -/
def plD : D → Bool
  | .non => true
  | .bl _ => true
  | .int _ => true
  | .str _ => true
  | .lst ds => plDs ds
  | .rl ds => plDs ds
  | .tup ds => plDs ds
  | .dct _ => false
  | .obj _ => false
def plDs : List D → Bool
  | [] => true
  | d :: ds => plD d && plDs ds
end
mutual
def dpD : D → Nat
  | .non => 0
  | .bl _ => 0
  | .int _ => 0
  | .str _ => 0
  | .lst ds => dpDs ds + 1
  | .rl ds => dpDs ds + 1
  | .tup ds => dpDs ds + 1
  | .dct _ => 1
  | .obj _ => 1
def dpDs : List D → Nat
  | [] => 0
  | d :: ds => max (dpD d) (dpDs ds)
end
mutual
/-- x == y -/
def qD : D → D → Bool
  | .non, y => (match y with
    | .non => true
    | _ => false)
  | .bl a, y => (match y with
    | .bl b => a == b
    | .int b => (if a then 1 else 0) == b
    | _ => false)
  | .int a, y => (match y with
    | .bl b => a == (if b then 1 else 0)
    | .int b => a == b
    | _ => false)
  | .str a, y => (match y with
    | .str b => a == b
    | _ => false)
  | .lst xs, y => (match y with
    | .lst ys => qDs xs ys
    | .rl ys => qDs xs ys
    | _ => false)
  | .rl xs, y => (match y with
    | .lst ys => qDs xs ys
    | .rl ys => qDs xs ys
    | _ => false)
  | .tup xs, y => (match y with
    | .tup ys => qDs xs ys
    | _ => false)
  | .dct _, _ => false
  | .obj _, _ => false
def qDs : List D → List D → Bool
  | [], [] => true
  | x :: xs, y :: ys => qD x y && qDs xs ys
  | [], _ :: _ => false
  | _ :: _, [] => false
end
mutual
theorem pl_py : ∀ d : D, d.py.plain = plD d
  | .non => rfl
  | .bl _ => rfl
  | .int _ => rfl
  | .str _ => rfl
  | .lst ds => by
    unfold D.py PyData.plain plD
    exact pl_pys ds
  | .rl ds => by
    unfold D.py PyData.plain plD
    exact pl_pys ds
  | .tup ds => by
    unfold D.py PyData.plain plD
    exact pl_pys ds
  | .dct _ => rfl
  | .obj _ => rfl
theorem pl_pys : ∀ ds : List D, PyData.plainAll (D.pys ds) = plDs ds
  | [] => rfl
  | d :: ds => by
    unfold D.pys PyData.plainAll plDs
    rw [pl_py d, pl_pys ds]
end
mutual
theorem dp_py : ∀ d : D, d.py.depth ≤ dpD d
  | .non => Nat.le_refl _
  | .bl _ => Nat.le_refl _
  | .int _ => Nat.le_refl _
  | .str _ => Nat.le_refl _
  | .lst ds => by
    unfold D.py PyData.depth dpD
    exact Nat.succ_le_succ (dp_pys ds)
  | .rl ds => by
    unfold D.py PyData.depth dpD
    exact Nat.succ_le_succ (dp_pys ds)
  | .tup ds => by
    unfold D.py PyData.depth dpD
    exact Nat.succ_le_succ (dp_pys ds)
  | .dct _ => by
    unfold D.py PyData.depth PyData.depthKv dpD
    exact Nat.le_refl 1
  | .obj _ => by
    unfold D.py PyData.depth PyData.depthKv dpD
    exact Nat.le_refl 1
theorem dp_pys : ∀ ds : List D, PyData.depthAll (D.pys ds) ≤ dpDs ds
  | [] => Nat.le_refl _
  | d :: ds => by
    unfold D.pys PyData.depthAll dpDs
    have h1 := dp_py d
    have h2 := dp_pys ds
    omega
end
mutual
theorem qD_py : ∀ x y : D, PyData.eqv x.py y.py = qD x y
  | .non, y => by cases y <;> (unfold D.py; unfold PyData.eqv qD; rfl)
  | .bl _, y => by cases y <;> (unfold D.py; unfold PyData.eqv qD; rfl)
  | .int _, y => by cases y <;> (unfold D.py; unfold PyData.eqv qD; rfl)
  | .str _, y => by cases y <;> (unfold D.py; unfold PyData.eqv qD; rfl)
  | .lst xs, y => by cases y <;> (unfold D.py; unfold PyData.eqv qD; first | exact qDs_py xs _ | rfl)
  | .rl xs, y => by cases y <;> (unfold D.py; unfold PyData.eqv qD; first | exact qDs_py xs _ | rfl)
  | .tup xs, y => by cases y <;> (unfold D.py; unfold PyData.eqv qD; first | exact qDs_py xs _ | rfl)
  | .dct _, y => by cases y <;> (unfold D.py; unfold PyData.eqv qD; rfl)
  | .obj _, y => by cases y <;> (unfold D.py; unfold PyData.eqv qD; rfl)
theorem qDs_py : ∀ xs ys : List D, PyData.eqvAll (D.pys xs) (D.pys ys) = qDs xs ys
  | [], [] => rfl
  | [], _ :: _ => rfl
  | _ :: _, [] => rfl
  | x :: xs, y :: ys => by
    unfold D.pys PyData.eqvAll qDs
    rw [qD_py x y, qDs_py xs ys]
end
section
variable {K : PySem.W.Frag} {F : Hp}
mutual
theorem Rp.dp : ∀ (d : D) (v : V), Rp K F v d → plD d = true → Dp K F v d.py
  | .non, _, h, _ => by cases h; exact .non
  | .bl b, _, h, _ => by cases h; exact .bl b
  | .int i, _, h, _ => by cases h; exact .int i
  | .str s, _, h, _ => by cases h; exact .str s
  | .lst ds, _, h, z => by
    cases h with
    | lst h1 h2 => exact .lst (SqL.of h1) (RpAll.dp ds _ h2 (by unfold plD at z; exact z))
  | .rl ds, _, h, z => by
    cases h with
    | rl h1 h2 => exact .lst h1 (RpAll.dp ds _ h2 (by unfold plD at z; exact z))
  | .tup ds, _, h, z => by
    cases h with
    | tup h1 h2 => exact .tup h1 (RpAll.dp ds _ h2 (by unfold plD at z; exact z))
  | .dct kvs, _, h, z => by
    unfold plD at z
    cases z
  | .obj _, _, h, z => by
    unfold plD at z
    cases z
theorem RpAll.dp : ∀ (ds : List D) (vs : List V), RpAll K F vs ds → plDs ds = true → DpAll K F vs (D.pys ds)
  | [], _, h, _ => by cases h; exact .nil
  | d :: ds, _, h, z => by
    cases h with
    | cons h1 h2 =>
      unfold plDs at z
      simp only [Bool.and_eq_true] at z
      exact .cons (Rp.dp d _ h1 z.1) (RpAll.dp ds _ h2 z.2)
end
end
def eqOk (d : D) : Bool := plD d && decide (dpD d ≤ 64)
theorem eqOk_pl {d : D} (h : eqOk d = true) : plD d = true := (Bool.and_eq_true_iff.mp h).1
theorem eqOk_py {d : D} (h : eqOk d = true) : d.py.plain = true := (pl_py d).trans (Bool.and_eq_true_iff.mp h).1
theorem eqOk_dp {d : D} (h : eqOk d = true) : d.py.depth ≤ 64 := Nat.le_trans (dp_py d) (of_decide_eq_true (Bool.and_eq_true_iff.mp h).2)
def eqD : D → D → Option Bool := fun x y => if (eqOk x && eqOk y) = true then some (qD x y) else none
def neD : D → D → Option Bool := fun x y => if (eqOk x && eqOk y) = true then some (!qD x y) else none
def rEqP (K : PySem.W.Frag) : R2 := fun x y H Q => ∃ d e, Dp K H x d ∧ Dp K H y e ∧ d.plain = true ∧ e.plain = true ∧ d.depth ≤ 64 ∧ Q (.bl (PyData.eqv d e)) H
def rNeP (K : PySem.W.Frag) : R2 := fun x y H Q => ∃ d e, Dp K H x d ∧ Dp K H y e ∧ d.plain = true ∧ e.plain = true ∧ d.depth ≤ 64 ∧ Q (.bl (!PyData.eqv d e)) H
theorem op_eqP {X : Cx} (hu : X.A.units + 64 < cLine) : OpR X (compareOp .Eq) (rEqP X.K) := by
  intro pins s σ H x y v u Q I rx ry h
  obtain ⟨d, e, hd, he, sd, se, dp, q⟩ := h
  obtain ⟨as, r1⟩ := Dp.reads I d x v hd rx
  obtain ⟨bs, r2⟩ := Dp.reads I e y u he ry
  exact SeqAt.eq_plain r1 r2 sd se (by have := Nat.min_le_left d.depth e.depth; omega) ⟨.bl _, H, I, rfl, q⟩
theorem op_neP {X : Cx} (hu : X.A.units + 64 < cLine) : OpR X (compareOp .NotEq) (rNeP X.K) := by
  intro pins s σ H x y v u Q I rx ry h
  obtain ⟨d, e, hd, he, sd, se, dp, q⟩ := h
  obtain ⟨as, r1⟩ := Dp.reads I d x v hd rx
  obtain ⟨bs, r2⟩ := Dp.reads I e y u he ry
  exact SeqAt.ne_plain r1 r2 sd se (by have := Nat.min_le_left d.depth e.depth; omega) ⟨.bl _, H, I, rfl, q⟩
theorem rv_eq {K : PySem.W.Frag} : RvD K (rEqP K) (blD eqD) := by
  intro F H vx vy x y z Q ex rx ry e k
  unfold blD eqD at e
  split at e
  · rename_i b hb
    cases e
    split at hb
    · rename_i hz
      cases hb
      simp only [Bool.and_eq_true] at hz
      refine ⟨_, _, Rp.dp x vx (rx.ex ex) (eqOk_pl hz.1), Rp.dp y vy (ry.ex ex) (eqOk_pl hz.2), eqOk_py hz.1, eqOk_py hz.2, eqOk_dp hz.1, ?_⟩
      rw [qD_py]
      exact k _ F H (.refl ex) (.bl _)
    · cases hb
  · cases e
theorem rv_ne {K : PySem.W.Frag} : RvD K (rNeP K) (blD neD) := by
  intro F H vx vy x y z Q ex rx ry e k
  unfold blD neD at e
  split at e
  · rename_i b hb
    cases e
    split at hb
    · rename_i hz
      cases hb
      simp only [Bool.and_eq_true] at hz
      refine ⟨_, _, Rp.dp x vx (rx.ex ex) (eqOk_pl hz.1), Rp.dp y vy (ry.ex ex) (eqOk_pl hz.2), eqOk_py hz.1, eqOk_py hz.2, eqOk_dp hz.1, ?_⟩
      rw [qD_py]
      exact k _ F H (.refl ex) (.bl _)
    · cases hb
  · cases e
/-- None, True, False by is -/
def isD : D → D → Option Bool
  | x, .non => some (match x with
    | .non => true
    | _ => false)
  | .bl a, .bl b => some (decide (a = b))
  | _, _ => none
def notD : D → D → Option Bool
  | x, .non => some (match x with
    | .non => false
    | _ => true)
  | .bl a, .bl b => some (!decide (a = b))
  | _, _ => none
theorem rv_is {K : PySem.W.Frag} : RvD K (fun x y H Q => (y = .non ∧ Q (.bl (decide (x = .non))) H) ∨ rIsB x y H Q) (blD isD) := by
  intro F H vx vy x y z Q ex rx ry e k
  unfold blD isD at e
  split at e
  · rename_i b hb
    cases e
    split at hb
    · cases hb
      cases ry
      have q := k _ F H (.refl ex) (.bl _)
      refine .inl ⟨rfl, ?_⟩
      cases rx <;> exact q
    · cases hb
      cases rx
      cases ry
      exact .inr ⟨_, _, rfl, rfl, k _ F H (.refl ex) (.bl _)⟩
    · cases hb
  · cases e
theorem rv_not {K : PySem.W.Frag} : RvD K (fun x y H Q => (y = .non ∧ Q (.bl (!decide (x = .non))) H) ∨ rNotB x y H Q) (blD notD) := by
  intro F H vx vy x y z Q ex rx ry e k
  unfold blD notD at e
  split at e
  · rename_i b hb
    cases e
    split at hb
    · cases hb
      cases ry
      have q := k _ F H (.refl ex) (.bl _)
      refine .inl ⟨rfl, ?_⟩
      cases rx <;> exact q
    · cases hb
      cases rx
      cases ry
      exact .inr ⟨_, _, rfl, rfl, k _ F H (.refl ex) (.bl _)⟩
    · cases hb
  · cases e
section
variable {X : Cx} {a b : Expr} {pos : Pos} {ma mb : ME} {j : Nat}
theorem xt_eq (hr : Room j X.A) (ha : XD X a ma) (hb : XD X b mb) : XT X (.Compare a [.Eq] [b] pos) (mBinT eqD ma mb) := xt_cmp (op_eqP hr.units) rv_eq ha hb (nomark _)
theorem xt_ne (hr : Room j X.A) (ha : XD X a ma) (hb : XD X b mb) : XT X (.Compare a [.NotEq] [b] pos) (mBinT neD ma mb) := xt_cmp (op_neP hr.units) rv_ne ha hb (nomark _)
theorem xd_eq (hr : Room j X.A) (ha : XD X a ma) (hb : XD X b mb) : XD X (.Compare a [.Eq] [b] pos) (mBin (blD eqD) ma mb) := xd_cmp (op_eqP hr.units) rv_eq ha hb (nomark _)
theorem xd_ne (hr : Room j X.A) (ha : XD X a ma) (hb : XD X b mb) : XD X (.Compare a [.NotEq] [b] pos) (mBin (blD neD) ma mb) := xd_cmp (op_neP hr.units) rv_ne ha hb (nomark _)
theorem xt_is (ha : XD X a ma) (hb : XD X b mb) : XT X (.Compare a [.Is] [b] pos) (mBinT isD ma mb) := xt_cmp (op_isN.or op_isBl) rv_is ha hb (nomark _)
theorem xt_isnt (ha : XD X a ma) (hb : XD X b mb) : XT X (.Compare a [.IsNot] [b] pos) (mBinT notD ma mb) := xt_cmp (op_notN.or op_notBl) rv_not ha hb (nomark _)
theorem xd_is (ha : XD X a ma) (hb : XD X b mb) : XD X (.Compare a [.Is] [b] pos) (mBin (blD isD) ma mb) := xd_cmp (op_isN.or op_isBl) rv_is ha hb (nomark _)
theorem xd_isnt (ha : XD X a ma) (hb : XD X b mb) : XD X (.Compare a [.IsNot] [b] pos) (mBin (blD notD) ma mb) := xd_cmp (op_notN.or op_notBl) rv_not ha hb (nomark _)
end

/-! ### in, not in -/
def flatD : D → Bool
  | .non | .bl _ | .int _ | .str _ => true
  | _ => false
def eqF : D → D → Bool
  | .non, .non => true
  | .bl a, .bl b => a == b
  | .bl a, .int b => (if a then 1 else 0) == b
  | .int a, .bl b => a == (if b then 1 else 0)
  | .int a, .int b => a == b
  | .str a, .str b => a == b
  | _, _ => false
theorem flat_of {K : PySem.W.Frag} {F : Hp} {v : V} {d : D} (r : Rp K F v d) (h : flatD d = true) : flatV v = true := by
  cases r <;> first | rfl | exact absurd (show false = true from h) Bool.false_ne_true
theorem eqF_of {K : PySem.W.Frag} {F : Hp} {v w : V} {d e : D} (r : Rp K F v d) (q : Rp K F w e) (h : flatD d = true) (h' : flatD e = true) : eqV v w = eqF d e := by
  cases r <;> first | exact absurd (show false = true from h) Bool.false_ne_true | (cases q <;> first | rfl | exact absurd (show false = true from h') Bool.false_ne_true)
theorem flats_of {K : PySem.W.Frag} {F : Hp} : ∀ {vs : List V} {ds : List D}, RpAll K F vs ds → ds.all flatD = true → vs.all flatV = true
  | _, _, .nil, _ => rfl
  | _, _, .cons r t, h => by
    rw [List.all_cons, Bool.and_eq_true] at h ⊢
    exact ⟨flat_of r h.1, flats_of t h.2⟩
theorem inV_of {K : PySem.W.Frag} {F : Hp} {v : V} {d : D} (r : Rp K F v d) (hd : flatD d = true) : ∀ {vs : List V} {ds : List D}, RpAll K F vs ds → ds.all flatD = true → inV v vs = ds.any fun y => eqF y d
  | _, _, .nil, _ => rfl
  | _, _, .cons q t, h => by
    rw [List.all_cons, Bool.and_eq_true] at h
    show ((eqV _ v) || inV v _) = _
    rw [inV_of r hd t h.2, eqF_of q r h.1 hd, List.any_cons]
/-- x in ds; a single sign in a text -/
def itemsD : D → Option (List D)
  | .lst ds => some ds
  | .rl ds => some ds
  | .tup ds => some ds
  | _ => none
def isRl : D → Bool
  | .tup _ => false
  | _ => true
def inD (neg : Bool) : D → D → Option Bool := fun x y => match itemsD y with
  | some ds => if (flatD x && ds.all flatD) = true then some (if neg then !(ds.any fun z => eqF z x) else ds.any fun z => eqF z x) else
      (if (eqOk x && eqOk y) = true then some (if neg then !(ds.any fun z => qD z x) else ds.any fun z => qD z x) else none)
  | none => (match x, y with
    | .str c, .str s => (match c.cps.toList with
      | [n] => some (if neg then !decide (n ∈ s.cps.toList) else decide (n ∈ s.cps.toList))
      | _ => none)
    | _, _ => none)
def rInAll (K : PySem.W.Frag) (neg : Bool) : R2 := fun x y H Q => rIn K neg x y H Q ∨ (∃ (c : Nat) (z : Str), x = .str ⟨#[c]⟩ ∧ y = .str z ∧ Q (.bl (if neg then !decide (c ∈ z.cps.toList) else decide (c ∈ z.cps.toList))) H) ∨
  (∃ d ds, Dp K H x d ∧ (Dp K H y (.list ds) ∨ Dp K H y (.tuple ds)) ∧ d.plain = true ∧ PyData.plainAll ds = true ∧ d.depth ≤ 64 ∧ Q (.bl (if neg then !ds.any (fun z => PyData.eqv z d) else ds.any fun z => PyData.eqv z d)) H)
theorem op_inP {X : Cx} (hu : X.A.units + 65 < cLine) : OpR X (compareOp .In) (fun x y H Q => ∃ d ds, Dp X.K H x d ∧ (Dp X.K H y (.list ds) ∨ Dp X.K H y (.tuple ds)) ∧ d.plain = true ∧ PyData.plainAll ds = true ∧ d.depth ≤ 64 ∧ Q (.bl (ds.any fun z => PyData.eqv z d)) H) := by
  intro pins s σ H x y v u Q I rx ry h
  obtain ⟨d, ds, hd, he, sd, se, dp, q⟩ := h
  obtain ⟨as, r1⟩ := Dp.reads I d x v hd rx
  have hr : X.A.units + 1 + min (PyData.depthAll ds) d.depth < cLine := by have := Nat.min_le_right (PyData.depthAll ds) d.depth; omega
  rcases he with he | he
  · obtain ⟨bs, r2⟩ := Dp.reads I (.list ds) y u he ry
    exact SeqAt.in_list_data r2 r1 se sd hr ⟨.bl _, H, I, rfl, q⟩
  · obtain ⟨bs, r2⟩ := Dp.reads I (.tuple ds) y u he ry
    exact SeqAt.in_tuple_data r2 r1 se sd hr ⟨.bl _, H, I, rfl, q⟩
theorem op_notInP {X : Cx} (hu : X.A.units + 65 < cLine) : OpR X (compareOp .NotIn) (fun x y H Q => ∃ d ds, Dp X.K H x d ∧ (Dp X.K H y (.list ds) ∨ Dp X.K H y (.tuple ds)) ∧ d.plain = true ∧ PyData.plainAll ds = true ∧ d.depth ≤ 64 ∧ Q (.bl (!ds.any fun z => PyData.eqv z d)) H) := by
  intro pins s σ H x y v u Q I rx ry h
  obtain ⟨d, ds, hd, he, sd, se, dp, q⟩ := h
  obtain ⟨as, r1⟩ := Dp.reads I d x v hd rx
  have hr : X.A.units + 1 + min (PyData.depthAll ds) d.depth < cLine := by have := Nat.min_le_right (PyData.depthAll ds) d.depth; omega
  rcases he with he | he
  · obtain ⟨bs, r2⟩ := Dp.reads I (.list ds) y u he ry
    exact SeqAt.notIn_list_data r2 r1 se sd hr ⟨.bl _, H, I, rfl, q⟩
  · obtain ⟨bs, r2⟩ := Dp.reads I (.tuple ds) y u he ry
    exact SeqAt.notIn_tuple_data r2 r1 se sd hr ⟨.bl _, H, I, rfl, q⟩
theorem anyD (x : D) : ∀ ds : List D, ((D.pys ds).any fun z => PyData.eqv z x.py) = ds.any fun z => qD z x
  | [] => rfl
  | d :: ds => by
    unfold D.pys
    rw [List.any_cons, List.any_cons, anyD x ds, qD_py]
theorem items_py {y : D} {ds : List D} (h : itemsD y = some ds) : y.py = .list (D.pys ds) ∨ y.py = .tuple (D.pys ds) := by
  cases y <;> first
    | (unfold itemsD at h; cases h; first | exact .inl rfl | exact .inr rfl)
    | (unfold itemsD at h; cases h)
theorem items_pl {y : D} {ds : List D} (h : itemsD y = some ds) (hp : plD y = true) : plDs ds = true := by
  cases y <;> first
    | (unfold itemsD at h; cases h; unfold plD at hp; exact hp)
    | (unfold itemsD at h; cases h)
theorem in_dp {K : PySem.W.Frag} {H : Hp} {vy : V} {y : D} {ds : List D} (h : itemsD y = some ds) (r : Rp K H vy y) (hp : plD y = true) : Dp K H vy (.list (D.pys ds)) ∨ Dp K H vy (.tuple (D.pys ds)) := by
  have := Rp.dp y vy r hp
  rcases items_py h with e | e
  · rw [e] at this
    exact .inl this
  · rw [e] at this
    exact .inr this
theorem Rp.seq {K : PySem.W.Frag} {F : Hp} {v : V} {d : D} {ds : List D} (r : Rp K F v d) (h : itemsD d = some ds) : ∃ a xs, v = .ref a ∧ (SqL K F a xs ∨ SqT K F a xs) ∧ RpAll K F xs ds ∧ (isRl d = true → SqL K F a xs) ∧ (isRl d = false → SqT K F a xs) := by
  unfold itemsD at h
  split at h
  · cases h
    cases r with
    | lst h1 h2 => exact ⟨_, _, rfl, .inl (SqL.of h1), h2, fun _ => SqL.of h1, fun z => (by cases z)⟩
  · cases h
    cases r with
    | rl h1 h2 => exact ⟨_, _, rfl, .inl h1, h2, fun _ => h1, fun z => (by cases z)⟩
  · cases h
    cases r with
    | tup h1 h2 => exact ⟨_, _, rfl, .inr h1, h2, fun z => (by cases z), fun _ => h1⟩
  · cases h
theorem rv_in {K : PySem.W.Frag} {neg : Bool} : RvD K (rInAll K neg) (blD (inD neg)) := by
  intro F H vx vy x y z Q ex rx ry e k
  unfold blD at e
  split at e
  · rename_i b hb
    cases e
    unfold inD at hb
    split at hb
    · rename_i ds hds
      obtain ⟨a, xs, rfl, hs, ra, _, _⟩ := ry.seq hds
      split at hb
      · rename_i hz
        cases hb
        rw [Bool.and_eq_true] at hz
        refine .inl ⟨a, xs, rfl, ?_, flat_of rx hz.1, flats_of ra hz.2, ?_⟩
        · rcases hs with hs | hs
          · exact .inl (ex.l hs)
          · exact .inr (ex.t hs)
        · rw [inV_of rx hz.1 ra hz.2]
          exact k _ F H (.refl ex) (.bl _)
      · split at hb
        · rename_i hz
          cases hb
          simp only [Bool.and_eq_true] at hz
          refine .inr (.inr ⟨x.py, D.pys ds, Rp.dp x vx (rx.ex ex) (eqOk_pl hz.1), in_dp hds (ry.ex ex) (eqOk_pl hz.2), eqOk_py hz.1, (pl_pys ds).trans (items_pl hds (eqOk_pl hz.2)), eqOk_dp hz.1, ?_⟩)
          rw [anyD]
          exact k _ F H (.refl ex) (.bl _)
        · cases hb
    · split at hb
      · rename_i c s hds
        split at hb
        · rename_i n hn
          cases hb
          cases rx
          cases ry
          have ec : c = ⟨#[n]⟩ := by
            cases c
            rename_i q
            have q2 : q = #[n] := by
              apply Array.toList_inj.mp
              exact hn
            rw [q2]
          refine .inr (.inl ⟨n, s, by rw [ec], rfl, k _ F H (.refl ex) (.bl _)⟩)
        · cases hb
      · cases hb
  · cases e
section
variable {X : Cx} {a b : Expr} {pos : Pos} {ma mb : ME} {j : Nat}
theorem op_inAll (hu : X.A.units + 65 < cLine) : OpR X (compareOp .In) (rInAll X.K false) := op_in_seq.or (op_in_sign.or (op_inP hu))
theorem op_notInAll (hu : X.A.units + 65 < cLine) : OpR X (compareOp .NotIn) (rInAll X.K true) := op_notIn_seq.or (op_notIn_sign.or (op_notInP hu))
theorem u65 (hr : Room j X.A) : X.A.units + 65 < cLine := by have := hr.un; omega
theorem xt_in (hr : Room j X.A) (ha : XD X a ma) (hb : XD X b mb) (hm : behindInMarks .In b = false := by rfl) : XT X (.Compare a [.In] [b] pos) (mBinT (inD false) ma mb) := xt_cmp (op_inAll (u65 hr)) rv_in ha hb hm
theorem xt_notin (hr : Room j X.A) (ha : XD X a ma) (hb : XD X b mb) (hm : behindInMarks .NotIn b = false := by rfl) : XT X (.Compare a [.NotIn] [b] pos) (mBinT (inD true) ma mb) := xt_cmp (op_notInAll (u65 hr)) rv_in ha hb hm
theorem xd_in (hr : Room j X.A) (ha : XD X a ma) (hb : XD X b mb) (hm : behindInMarks .In b = false := by rfl) : XD X (.Compare a [.In] [b] pos) (mBin (blD (inD false)) ma mb) := xd_cmp (op_inAll (u65 hr)) rv_in ha hb hm
theorem xd_notin (hr : Room j X.A) (ha : XD X a ma) (hb : XD X b mb) (hm : behindInMarks .NotIn b = false := by rfl) : XD X (.Compare a [.NotIn] [b] pos) (mBin (blD (inD true)) ma mb) := xd_cmp (op_notInAll (u65 hr)) rv_in ha hb hm
end

/-! ### tests -/
def truD : D → Option Bool
  | .non => some false
  | .bl b => some b
  | .int i => some (i != 0)
  | .str s => if s.length ≤ szL then some ((s.length : Int) != 0) else none
  | .lst ds => some (!ds.isEmpty)
  | .rl ds => some (!ds.isEmpty)
  | .tup ds => some (!ds.isEmpty)
  | .dct _ => none
  | .obj _ => none
theorem isE {K : PySem.W.Frag} {F : Hp} {xs : List V} {ds : List D} (r : RpAll K F xs ds) : xs.isEmpty = ds.isEmpty := by
  cases r <;> rfl
theorem isEk {K : PySem.W.Frag} {F : Hp} {xs : List (Key × V)} {ds : List (Key × D)} (r : RpKv K F xs ds) : xs.isEmpty = ds.isEmpty := by
  cases r <;> rfl
theorem tru_of {K : PySem.W.Frag} {F H : Hp} {v : V} {d : D} {b : Bool} (ex : Ex F H) (r : Rp K F v d) (h : truD d = some b) : TruV K v H b := by
  cases r with
  | non => cases h; rfl
  | bl b => cases h; rfl
  | int i => cases h; rfl
  | str s =>
    have h' : (if s.length ≤ szL then some ((s.length : Int) != 0) else none) = some b := h
    split at h'
    · rename_i hz
      cases h'
      exact ⟨by rw [szL_eq]; exact hz, rfl⟩
    · cases h'
  | lst h1 h2 => cases h; exact .inl ⟨_, ex.l (SqL.of h1), by rw [isE h2]⟩
  | rl h1 h2 => cases h; exact .inl ⟨_, ex.l h1, by rw [isE h2]⟩
  | tup h1 h2 => cases h; exact .inr (.inl ⟨_, ex.t h1, by rw [isE h2]⟩)
  | dct h1 h2 => cases h
  | obj a => cases h
def mTr (ma : ME) : MT := fun ρ => match ma ρ with
  | some (x, ρ1) => (match truD x with
    | some b => some (b, ρ1)
    | none => none)
  | none => none
/-- a value of any kind as a test -/
theorem xt_tr {X : Cx} {a : Expr} {ma : ME} (ha : XD X a ma) (he : ∀ whole, isTrue a X.env whole = (do let v ← whole; standAt a.pos; holding [v] (truthy v)) := by intro _; rfl) : XT X a (mTr ma) := by
  refine ⟨pt_imp (pt_truth ha.pe he) fun σ H Q h => ?_⟩
  obtain ⟨F, ρ, d, ρ', c, e, k⟩ := h
  unfold mTr at e
  split at e
  · rename_i x ρ1 h1
    split at e
    · rename_i b h3
      cases e
      exact ⟨F, ρ, x, _, c, h1, fun v F1 H1 c1 s1 r1 => ⟨_, tru_of c1.ex r1 h3, k F1 H1 c1 s1⟩⟩
    · cases e
  · cases e
def mAndT (ta tb : MT) : MT := fun ρ => match ta ρ with
  | some (true, ρ1) => tb ρ1
  | r => r
def mOrT (ta tb : MT) : MT := fun ρ => match ta ρ with
  | some (false, ρ1) => tb ρ1
  | r => r
def mNotT (ta : MT) : MT := fun ρ => match ta ρ with
  | some (b, ρ1) => some (!b, ρ1)
  | none => none
section
variable {X : Cx} {a b c : Expr} {rest : List Expr} {pos : Pos} {ta tb : MT} {ma mb : ME}
theorem XW.xt (h : XW X a ta) : XT X a ta := ⟨h.pw.pt⟩
theorem xw_and1 (ha : XT X a ta) : XW X (.BoolOp .And [a] pos) ta := ⟨pw_and1 ha.pt⟩
theorem xw_or1 (ha : XT X a ta) : XW X (.BoolOp .Or [a] pos) ta := ⟨pw_or1 ha.pt⟩
theorem xw_and (ha : XT X a ta) (hb : XW X (.BoolOp .And (b :: rest) pos) tb) : XW X (.BoolOp .And (a :: b :: rest) pos) (mAndT ta tb) := by
  refine ⟨pw_imp (pw_and ha.pt hb.pw) fun σ H Q h => ?_⟩
  obtain ⟨F, ρ, d, ρ', c, e, k⟩ := h
  unfold mAndT at e
  split at e
  · rename_i ρ1 h1
    refine ⟨F, ρ, true, ρ1, c, h1, fun F1 H1 c1 s1 => ?_⟩
    refine iteT ?_
    exact ⟨F1, ρ1, d, ρ', c1, e, fun F2 H2 c2 s2 => k F2 H2 c2 (s1.trans s2)⟩
  · rename_i hne
    cases d with
    | true => exact absurd e (hne _)
    | false =>
      refine ⟨F, ρ, false, ρ', c, e, fun F1 H1 c1 s1 => ?_⟩
      refine iteF ?_
      exact k F1 H1 c1 s1
theorem xw_or (ha : XT X a ta) (hb : XW X (.BoolOp .Or (b :: rest) pos) tb) : XW X (.BoolOp .Or (a :: b :: rest) pos) (mOrT ta tb) := by
  refine ⟨pw_imp (pw_or ha.pt hb.pw) fun σ H Q h => ?_⟩
  obtain ⟨F, ρ, d, ρ', c, e, k⟩ := h
  unfold mOrT at e
  split at e
  · rename_i ρ1 h1
    refine ⟨F, ρ, false, ρ1, c, h1, fun F1 H1 c1 s1 => ?_⟩
    refine iteF ?_
    exact ⟨F1, ρ1, d, ρ', c1, e, fun F2 H2 c2 s2 => k F2 H2 c2 (s1.trans s2)⟩
  · rename_i hne
    cases d with
    | false => exact absurd e (hne _)
    | true =>
      refine ⟨F, ρ, true, ρ', c, e, fun F1 H1 c1 s1 => ?_⟩
      refine iteT ?_
      exact k F1 H1 c1 s1
theorem xt_not (ha : XT X a ta) : XT X (.UnaryOp .Not a pos) (mNotT ta) := by
  refine ⟨pt_imp (pt_not ha.pt) fun σ H Q h => ?_⟩
  obtain ⟨F, ρ, d, ρ', c, e, k⟩ := h
  unfold mNotT at e
  split at e
  · rename_i b ρ1 h1
    cases e
    exact ⟨F, ρ, b, _, c, h1, fun F1 H1 c1 s1 => k F1 H1 c1 s1⟩
  · cases e
/-- and, or, not as values: all but the last truths -/
def mAndV (ma mb : ME) : ME := fun ρ => match ma ρ with
  | some (.bl true, ρ1) => mb ρ1
  | some (.bl false, ρ1) => some (.bl false, ρ1)
  | _ => none
def mOrV (ma mb : ME) : ME := fun ρ => match ma ρ with
  | some (.bl false, ρ1) => mb ρ1
  | some (.bl true, ρ1) => some (.bl true, ρ1)
  | _ => none
def mNotV (ma : ME) : ME := fun ρ => match ma ρ with
  | some (.bl b, ρ1) => some (.bl !b, ρ1)
  | _ => none
theorem xd_one {op} (ha : XD X a ma) : XD X (.BoolOp op [a] pos) ma := ⟨pe_one ha.pe⟩
theorem xd_and (ha : XD X a ma) (hb : XD X (.BoolOp .And (b :: rest) pos) mb) : XD X (.BoolOp .And (a :: b :: rest) pos) (mAndV ma mb) := by
  refine ⟨pe_imp (pe_and ha.pe hb.pe) fun σ H Q h => ?_⟩
  obtain ⟨F, ρ, d, ρ', c, e, k⟩ := h
  unfold mAndV at e
  split at e
  · rename_i ρ1 h1
    refine ⟨F, ρ, _, ρ1, c, h1, fun v F1 H1 c1 s1 r1 => ?_⟩
    cases r1
    refine ⟨true, rfl, ?_⟩
    refine iteT ?_
    exact ⟨F1, ρ1, d, ρ', c1, e, fun v F2 H2 c2 s2 r2 => k v F2 H2 c2 (s1.trans s2) r2⟩
  · rename_i ρ1 h1
    cases e
    refine ⟨F, ρ, _, _, c, h1, fun v F1 H1 c1 s1 r1 => ?_⟩
    cases r1
    refine ⟨false, rfl, ?_⟩
    refine iteF ?_
    exact k _ F1 H1 c1 s1 (.bl false)
  · cases e
theorem xd_or (ha : XD X a ma) (hb : XD X (.BoolOp .Or (b :: rest) pos) mb) : XD X (.BoolOp .Or (a :: b :: rest) pos) (mOrV ma mb) := by
  refine ⟨pe_imp (pe_or ha.pe hb.pe) fun σ H Q h => ?_⟩
  obtain ⟨F, ρ, d, ρ', c, e, k⟩ := h
  unfold mOrV at e
  split at e
  · rename_i ρ1 h1
    refine ⟨F, ρ, _, ρ1, c, h1, fun v F1 H1 c1 s1 r1 => ?_⟩
    cases r1
    refine ⟨false, rfl, ?_⟩
    refine iteF ?_
    exact ⟨F1, ρ1, d, ρ', c1, e, fun v F2 H2 c2 s2 r2 => k v F2 H2 c2 (s1.trans s2) r2⟩
  · rename_i ρ1 h1
    cases e
    refine ⟨F, ρ, _, _, c, h1, fun v F1 H1 c1 s1 r1 => ?_⟩
    cases r1
    refine ⟨true, rfl, ?_⟩
    refine iteT ?_
    exact k _ F1 H1 c1 s1 (.bl true)
  · cases e
theorem xd_not (ha : XD X a ma) : XD X (.UnaryOp .Not a pos) (mNotV ma) := by
  refine ⟨pe_imp (pe_not ha.pe) fun σ H Q h => ?_⟩
  obtain ⟨F, ρ, d, ρ', c, e, k⟩ := h
  unfold mNotV at e
  split at e
  · rename_i b ρ1 h1
    cases e
    refine ⟨F, ρ, _, _, c, h1, fun v F1 H1 c1 s1 r1 => ?_⟩
    cases r1
    exact ⟨b, rfl, k _ F1 H1 c1 s1 (.bl _)⟩
  · cases e
/-- a if t else b -/
def mIfE (t : MT) (ma mb : ME) : ME := fun ρ => match t ρ with
  | some (true, ρ1) => ma ρ1
  | some (false, ρ1) => mb ρ1
  | none => none
def mIfS (t : MT) (ma mb : MS) : MS := fun ρ => match t ρ with
  | some (true, ρ1) => ma ρ1
  | some (false, ρ1) => mb ρ1
  | none => none
theorem xd_if (hc : XT X c ta) (ha : XD X a ma) (hb : XD X b mb) : XD X (.IfExp c a b pos) (mIfE ta ma mb) := by
  refine ⟨pe_imp (pe_ifExp hc.pt ha.pe hb.pe) fun σ H Q h => ?_⟩
  obtain ⟨F, ρ, d, ρ', c, e, k⟩ := h
  unfold mIfE at e
  split at e
  · rename_i ρ1 h1
    refine ⟨F, ρ, true, ρ1, c, h1, fun F1 H1 c1 s1 => ?_⟩
    refine iteT ?_
    exact ⟨F1, ρ1, d, ρ', c1, e, fun v F2 H2 c2 s2 r2 => k v F2 H2 c2 (s1.trans s2) r2⟩
  · rename_i ρ1 h1
    refine ⟨F, ρ, false, ρ1, c, h1, fun F1 H1 c1 s1 => ?_⟩
    refine iteF ?_
    exact ⟨F1, ρ1, d, ρ', c1, e, fun v F2 H2 c2 s2 r2 => k v F2 H2 c2 (s1.trans s2) r2⟩
  · cases e
theorem xs_if {ma mb : MS} (hc : XT X c ta) (ha : XS X a ma) (hb : XS X b mb) : XS X (.IfExp c a b pos) (mIfS ta ma mb) := by
  refine ⟨pe_imp (pe_ifExp hc.pt ha.pe hb.pe) fun σ H Q h => ?_⟩
  obtain ⟨F, ρ, d, ρ', c, e, k⟩ := h
  unfold mIfS at e
  split at e
  · rename_i ρ1 h1
    refine ⟨F, ρ, true, ρ1, c, h1, fun F1 H1 c1 s1 => ?_⟩
    refine iteT ?_
    exact ⟨F1, ρ1, d, ρ', c1, e, fun v F2 H2 c2 s2 r2 => k v F2 H2 c2 (s1.trans s2) (r2.back s1)⟩
  · rename_i ρ1 h1
    refine ⟨F, ρ, false, ρ1, c, h1, fun F1 H1 c1 s1 => ?_⟩
    refine iteF ?_
    exact ⟨F1, ρ1, d, ρ', c1, e, fun v F2 H2 c2 s2 r2 => k v F2 H2 c2 (s1.trans s2) (r2.back s1)⟩
  · cases e
end
end Mr

set_option Elab.async false
set_option linter.all false
set_option maxRecDepth 100000
set_option maxHeartbeats 2000000
/-! Mir3: arguments, displays, subscripts, slices, built-ins, methods by mirrors. -/
namespace Mr
open PySem PySem.Spec PyProof.Rows L2

/-! ### arguments, displays -/
def mNil : MA := fun ρ => some ([], ρ)
def mCons (ma : ME) (mr : MA) : MA := fun ρ => match ma ρ with
  | some (x, ρ1) => (match mr ρ1 with
    | some (xs, ρ2) => some (x :: xs, ρ2)
    | none => none)
  | none => none
section
variable {X : Cx} {e : Expr} {es : List Expr} {m : ME} {ma : MA} {pos : Pos}
theorem xa_nil : XA X [] mNil := ⟨pa_imp pa_nil fun σ H Q h => by
  obtain ⟨F, ρ, ds, ρ', c, e, k⟩ := h
  cases e
  exact k _ F H c (.refl _ _ _ _) .nil⟩
theorem xa_cons (h : XD X e m) (hr : XA X es ma) (hs : starEach (e :: es) X.env = (false, eval e X.env) :: starEach es X.env := by rfl) : XA X (e :: es) (mCons m ma) := ⟨pa_imp (pa_cons h.pe hr.pa hs) fun σ H Q h => by
  obtain ⟨F, ρ, ds, ρ', c, e, k⟩ := h
  unfold mCons at e
  split at e
  · rename_i x ρ1 h1
    split at e
    · rename_i xs ρ2 h2
      cases e
      refine ⟨F, ρ, x, ρ1, c, h1, fun v F1 H1 c1 s1 r1 => ?_⟩
      refine ⟨F1, ρ1, xs, _, c1, h2, fun vs F2 H2 c2 s2 r2 => ?_⟩
      exact k _ F2 H2 c2 (s1.trans s2) (.cons (r1.ex s2.exF) r2)
    · cases e
  · cases e⟩
def mTup (ma : MA) : ME := fun ρ => match ma ρ with
  | some (xs, ρ1) => if xs.length ≤ szL then some (.tup xs, ρ1) else none
  | none => none
def mLst (ma : MA) : MS := fun ρ => match ma ρ with
  | some (xs, ρ1) => if xs.length ≤ szL then some (.own false (.lst xs), ρ1) else none
  | none => none
theorem xd_tup {x1} (h : XA X es ma) : XD X (.Tuple es x1 pos) (mTup ma) := ⟨pe_imp (pe_tup h.pa) fun σ H Q h => by
  obtain ⟨F, ρ, d, ρ', c, e, k⟩ := h
  unfold mTup at e
  split at e
  · rename_i xs ρ1 h1
    split at e
    · rename_i hz
      cases e
      refine ⟨F, ρ, xs, _, c, h1, fun vs F1 H1 c1 s1 r1 => ⟨by rw [szL_eq, r1.length]; exact hz, fun p hp => ?_⟩⟩
      obtain ⟨g, r⟩ := new_tup c1.ex hp r1
      exact k _ _ _ (g.cfg c1) (s1.trans g.stp) r
    · cases e
  · cases e⟩
theorem xs_lst (h : XA X es ma) : XS X (.List es pos) (mLst ma) := ⟨pe_imp (pe_lst h.pa) fun σ H Q h => by
  obtain ⟨F, ρ, d, ρ', c, e, k⟩ := h
  unfold mLst at e
  split at e
  · rename_i xs ρ1 h1
    split at e
    · rename_i hz
      cases e
      refine ⟨F, ρ, xs, _, c, h1, fun vs F1 H1 c1 s1 r1 => ⟨by rw [szL_eq, r1.length]; exact hz, fun p hp => ?_⟩⟩
      obtain ⟨g, r⟩ := new_lst c1.ex hp r1
      exact k _ _ _ (g.cfg c1) (s1.trans g.stp) (VG.vok s1 g c1 r)
    · cases e
  · cases e⟩
end

/-! ### subscripts -/
def atD (ds : List D) (i : Int) : Option D := (ixN ds.length i).bind fun j => ds[j]?
theorem atD_of {K : PySem.W.Frag} {F : Hp} {xs : List V} {ds : List D} {i : Int} {d : D} (r : RpAll K F xs ds) (h : atD ds i = some d) : ∃ v, atI xs i = some v ∧ Rp K F v d := by
  unfold atD at h
  unfold atI
  rw [r.length]
  cases e : ixN ds.length i with
  | none => rw [e] at h; cases h
  | some j =>
    rw [e] at h
    exact r.get h
/-! ### dicts: a value at a key -/
def keyD : D → Option Key
  | .int i => some (.inl i)
  | .str s => some (.inr s)
  | _ => none
def valD (kvs : List (Key × D)) (k : Key) : Option D := (kvs.find? fun kv => decide (kv.1 = k)).map (·.2)
theorem valD_nil {k : Key} : valD [] k = none := rfl
theorem valD_cons {k j : Key} {d : D} {r : List (Key × D)} : valD ((j, d) :: r) k = if j = k then some d else valD r k := by
  unfold valD
  by_cases e : j = k
  · simp [List.find?_cons, e]
  · simp [List.find?_cons, e]
theorem key_kV {K : PySem.W.Frag} {F : Hp} {v : V} {d : D} {k : Key} (r : Rp K F v d) (h : keyD d = some k) : v = kV k := by
  cases d with
  | int i => cases h; cases r; rfl
  | str s => cases h; cases r; rfl
  | _ => cases h
theorem RpKv.val {K : PySem.W.Frag} {F : Hp} {k : Key} : ∀ {xs : List (Key × V)} {kvs : List (Key × D)}, RpKv K F xs kvs → ∀ d, valD kvs k = some d → ∃ v, valV xs k = some v ∧ Rp K F v d
  | _, _, .nil, d, h => by cases h
  | _, _, .cons (k := j) (v := v) (d := e) r t, d, h => by
    rw [valD_cons] at h
    by_cases z : j = k
    · rw [if_pos z] at h
      cases h
      exact ⟨v, valV_pos z, r⟩
    · rw [if_neg z] at h
      obtain ⟨w, h1, h2⟩ := t.val d h
      exact ⟨w, by rw [valV_neg (by exact z)]; exact h1, h2⟩
theorem RpKv.valN {K : PySem.W.Frag} {F : Hp} {k : Key} : ∀ {xs : List (Key × V)} {kvs : List (Key × D)}, RpKv K F xs kvs → valD kvs k = none → valV xs k = none
  | _, _, .nil, h => rfl
  | _, _, .cons (k := j) (v := v) (d := e) r t, h => by
    rw [valD_cons] at h
    by_cases z : j = k
    · rw [if_pos z] at h
      cases h
    · rw [if_neg z] at h
      rw [valV_neg (by exact z)]
      exact t.valN h
def rIxK : R2 := fun x y H Q => ∃ a v, x = .ref a ∧ DGet H a y (some v) ∧ Q v H
theorem ix_dict {X : Cx} (hu : X.A.units + 1 < cLine) : IxR X rIxK := by
  intro value slice pins s σ H x y v u Q I rx ry h hs
  obtain ⟨a, w, rfl, g, q⟩ := h
  obtain rfl : v = Value.ref a := rx
  have hT := dict_typeIs I g
  unfold subscriptTail
  refine wpAny_bind ?_
  rw [PySem.getitemInPython_of_ne hT.not_modules]
  refine wpAny_bind (wpAny_specialOf hT PySem.F.slot_dict_getitem.lookup ?_)
  have fin : wpAny (model X.prog X.w) X.A (subscripted slice false (.ref a) u) (fun r s₃ => wpAny (model X.prog X.w) X.A (letTemporaryGo value (.ref a) r >>= fun _ => pure r) (EP X pins σ Q) X.xe s₃) X.xe s := by
    rw [hs]
    exact wpAny_operating (wpAny_mono (d_getItem hu I g ry fun w' s3 I3 rw' => (⟨w, H, I3, rw', q⟩ : EP X pins σ Q w' s3)) (fun r s₃ h₃ => wpAny_bind (wpAny_letTemporaryGo (wpAny_pure h₃))) fun _ _ x => x)
  first
    | exact wpAny_pure (wpAny_bind fin)
    | exact wpAny_bind (wpAny_pure (wpAny_bind fin))
    | exact wpAny_bind fin
def rIxA (K : PySem.W.Frag) : R2 := fun x y H Q => rIx K x y H Q ∨ rIxK x y H Q
def ixD : D → D → Option D := fun x y => match x with
  | .dct kvs => (match keyD y with
    | some k => valD kvs k
    | none => none)
  | x => (match y with
    | .int i => (match itemsD x with
      | some ds => atD ds i
      | none => (match x with
        | .str s => if s.length ≤ szL then (match atI s.cps.toList i with
          | some c => some (.str ⟨#[c]⟩)
          | none => none) else none
        | _ => none))
    | _ => none)
theorem get_of {H : Hp} {a : Addr} {xs : List (Key × V)} {k : Key} {v : V} (h : Rd H a (.dK xs)) (l : valV xs k = some v) : DGet H a (kV k) (some v) := .inl ⟨xs, k, h, rfl, l.symm⟩
theorem ix_rp {K : PySem.W.Frag} {F H : Hp} {vx vy : V} {x y z : D} {Q : VK} (ex : Ex F H) (rx : Rp K F vx x) (ry : Rp K F vy y) (e : ixD x y = some z) (k : ∀ v, Rp K F v z → Q v H) : rIxA K vx vy H Q := by
  unfold ixD at e
  split at e
  · rename_i kvs
    split at e
    · rename_i key hk
      cases rx with
      | dct h1 h2 =>
        obtain ⟨v, hv, rv⟩ := h2.val _ e
        rw [key_kV ry hk]
        exact .inr ⟨_, v, rfl, get_of (.inr ⟨_, ex _ _ h1⟩) hv, k v rv⟩
    · cases e
  · split at e
    · rename_i i
      cases ry
      split at e
      · rename_i ds hds
        obtain ⟨a, xs, rfl, hs, ra, _, _⟩ := rx.seq hds
        obtain ⟨v, hv, rv⟩ := atD_of ra e
        rcases hs with hs | hs
        · exact .inl (.inl ⟨a, xs, i, v, rfl, rfl, ex.l hs, hv, k v rv⟩)
        · exact .inl (.inr (.inl ⟨a, xs, i, v, rfl, rfl, ex.t hs, hv, k v rv⟩))
      · split at e
        · rename_i s _ _
          cases rx
          split at e
          · rename_i hz
            split at e
            · rename_i c hc
              cases e
              exact .inl (.inr (.inr ⟨s, i, c, rfl, rfl, by rw [szL_eq]; exact hz, hc, k _ (.str _)⟩))
            · cases e
          · cases e
        · cases e
    · cases e
theorem rv_ix {K : PySem.W.Frag} : RvD K (rIxA K) ixD := by
  intro F H vx vy x y z Q ex rx ry e k
  exact ix_rp ex (rx) ry e fun v rv => k v F H (.refl ex) rv
theorem u1 {X : Cx} {j : Nat} (hr : Room j X.A) : X.A.units + 1 < cLine := by have := hr.un; omega
theorem xd_ix {X : Cx} {a b : Expr} {pos : Pos} {ma mb : ME} {j : Nat} (hr : Room j X.A) (ha : XD X a ma) (hb : XD X b mb) (hs : PlainIx b := by exact fun _ _ => rfl) : XD X (.Subscript a b pos) (mBin ixD ma mb) := ⟨pe_imp (pe_ix (ix_seq.or (ix_dict (u1 hr))) ha.pe hb.pe hs) (t_bin rv_ix)⟩

/-! ### a name that is looked at without being handed on -/
def peek (ρ : Rho) (i : Nat) : Option D := match ρ[i]? with
  | some (.val d) => some d
  | some (.own _ o) => some o.toD
  | _ => none
def Pk (K : PySem.W.Frag) (F H : Hp) (v : V) (d : D) : Prop := Rp K F v d ∨ ∃ a o, v = .ref a ∧ d = o.toD ∧ OAt K F H a o
theorem Cfg.pk {K : PySem.W.Frag} {F H : Hp} {σ : L2.St} {ρ : Rho} (c : Cfg K F H σ ρ) {i : Nat} {d : D} (h : peek ρ i = some d) : ∃ v, σ[i]? = some (some v) ∧ Pk K F H v d := by
  unfold peek at h
  split at h
  · rename_i d1 hi
    cases h
    obtain ⟨v, e1, r⟩ := c.sl i _ hi
    exact ⟨v, e1, .inl r⟩
  · rename_i p o hi
    cases h
    obtain ⟨a, e1, f, at1⟩ := c.sl i _ hi
    exact ⟨_, e1, .inr ⟨a, o, rfl, rfl, at1⟩⟩
  · cases h
theorem Pk.seq {K : PySem.W.Frag} {F H : Hp} {v : V} {d : D} {ds : List D} (ex : Ex F H) (r : Pk K F H v d) (h : itemsD d = some ds) : ∃ a xs, v = .ref a ∧ (SqL K H a xs ∨ SqT K H a xs) ∧ RpAll K F xs ds ∧ (isRl d = true → SqL K H a xs) ∧ (isRl d = false → SqT K H a xs) := by
  rcases r with r | ⟨a, o, rfl, rfl, at1⟩
  · obtain ⟨a, xs, e, hs, ra, h1, h2⟩ := r.seq h
    refine ⟨a, xs, e, ?_, ra, fun z => ex.l (h1 z), fun z => ex.t (h2 z)⟩
    rcases hs with hs | hs
    · exact .inl (ex.l hs)
    · exact .inr (ex.t hs)
  · cases o with
    | lst es =>
      cases h
      obtain ⟨xs, h1, h2⟩ := at1
      exact ⟨a, xs, rfl, .inl (SqL.of h1), h2, fun _ => SqL.of h1, fun z => (by cases z)⟩
    | dct kvs => cases h
def mIxN (i : Nat) (mb : ME) : ME := fun ρ => match peek ρ i with
  | some _ => (match mb ρ with
    | some (y, ρ1) => (match peek ρ1 i with
      | some x => (match ixD x y with
        | some z => some (z, ρ1)
        | none => none)
      | none => none)
    | none => none)
  | none => none
theorem ix_pk {K : PySem.W.Frag} {F H : Hp} {vx vy : V} {x y z : D} {Q : VK} (ex : Ex F H) (rx : Pk K F H vx x) (ry : Rp K F vy y) (e : ixD x y = some z) (k : ∀ v, Rp K F v z → Q v H) : rIxA K vx vy H Q := by
  rcases rx with rx | ⟨a, o, rfl, rfl, at1⟩
  · exact ix_rp ex rx ry e k
  · cases o with
    | lst ds =>
      obtain ⟨xs, h1, h2⟩ := at1
      cases y with
      | int i =>
        cases ry
        obtain ⟨v, hv, rv⟩ := atD_of (ds := ds) h2 e
        exact .inl (.inl ⟨a, xs, i, v, rfl, rfl, SqL.of h1, hv, k v rv⟩)
      | _ => cases e
    | dct kvs =>
      obtain ⟨xs, h1, h2⟩ := at1
      have e' : (match keyD y with
        | some k => valD kvs k
        | none => none) = some z := e
      split at e'
      · rename_i key hk
        obtain ⟨v, hv, rv⟩ := h2.val _ e'
        rw [key_kV ry hk]
        exact .inr ⟨_, v, rfl, get_of (.inl h1) hv, k v rv⟩
      · cases e'
theorem xd_ixN {X : Cx} {b : Expr} {pos pos' : Pos} {mb : ME} {j : Nat} (i : Nat) {x : Str} (hr : Room j X.A) (hb : XD X b mb) (hN : X.N[i]? = some x := by rfl) (hv : Vis X.env.scope x := by first | exact Or.inl rfl | exact Or.inr (Or.inl rfl) | exact Or.inr (Or.inr rfl)) (hd : (x == ("__debug__" : Str)) = false := by decide)
    (hcd : (x == ("__classdict__" : Str)) = false := by decide) (hs : PlainIx b := by exact fun _ _ => rfl) : XD X (.Subscript (.Name x pos') b pos) (mIxN i mb) := by
  refine ⟨pe_imp (pe_ix (ix_seq.or (ix_dict (u1 hr))) (pv i hN hv hd hcd) hb.pe hs) fun σ H Q h => ?_⟩
  obtain ⟨F, ρ, d, ρ', c, e, k⟩ := h
  unfold mIxN at e
  split at e
  · rename_i z0 h0
    split at e
    · rename_i y ρ1 h1
      split at e
      · rename_i z h2
        split at e
        · rename_i u h3
          cases e
          obtain ⟨v, hv, _⟩ := c.pk h0
          refine ⟨v, hv, ?_⟩
          refine ⟨F, ρ, y, _, c, h1, fun w F1 H1 c1 s1 r1 => ?_⟩
          obtain ⟨v', hv', p⟩ := c1.pk h2
          rw [hv] at hv'
          cases hv'
          exact ix_pk c1.ex p r1 h3 fun u ru => k u F1 H1 c1 s1 ru
        · cases e
      · cases e
    · cases e
  · cases e

/-! ### slices -/
def slS (x : D) (lo hi : Option Int) : Option Slot := match x with
  | .lst ds => some (.own false (.lst ((ds.drop (HT.sIx ds.length 0 lo)).take (HT.sIx ds.length ds.length hi - HT.sIx ds.length 0 lo))))
  | .rl ds => some (.own false (.lst ((ds.drop (HT.sIx ds.length 0 lo)).take (HT.sIx ds.length ds.length hi - HT.sIx ds.length 0 lo))))
  | .tup ds => some (.val (.tup ((ds.drop (HT.sIx ds.length 0 lo)).take (HT.sIx ds.length ds.length hi - HT.sIx ds.length 0 lo))))
  | .str s => if s.length ≤ szL then some (.val (.str (cutS s lo hi))) else none
  | _ => none
abbrev MO := Rho → Option (Option Int × Rho)
def tO (K : PySem.W.Frag) (m : MO) : TO := fun σ H Q => ∃ F ρ o ρ', Cfg K F H σ ρ ∧ m ρ = some (o, ρ') ∧ ∀ F' H', Cfg K F' H' σ ρ' → Stp σ ρ F H σ ρ' F' H' → Q o H'
structure XO (X : Cx) (e : Option Expr) (m : MO) : Prop where po : PO X e (tO X.K m)
theorem po_imp {X : Cx} {e : Option Expr} {t t' : TO} (h : PO X e t) (i : ∀ σ H Q, t' σ H Q → t σ H Q) : PO X e t' := ⟨fun pins s σ H Q I q => h.run pins s σ H Q I (i σ H Q q)⟩
def mO0 : MO := fun ρ => some (none, ρ)
def mO1 (m : ME) : MO := fun ρ => match m ρ with
  | some (.int i, ρ1) => some (some i, ρ1)
  | _ => none
theorem xo_none {X : Cx} : XO X none mO0 := ⟨po_imp po_none fun σ H Q h => by
  obtain ⟨F, ρ, d, ρ', c, e, k⟩ := h
  cases e
  exact k F H c (.refl _ _ _ _)⟩
theorem xo_some {X : Cx} {e : Expr} {m : ME} (h : XD X e m) : XO X (some e) (mO1 m) := ⟨po_imp (po_some h.pe) fun σ H Q h => by
  obtain ⟨F, ρ, d, ρ', c, e, k⟩ := h
  unfold mO1 at e
  split at e
  · rename_i i ρ1 h1
    cases e
    refine ⟨F, ρ, _, _, c, h1, fun v F1 H1 c1 s1 r1 => ?_⟩
    cases r1
    exact ⟨i, rfl, k F1 H1 c1 s1⟩
  · cases e⟩
def mSl (m : ME) (lo hi : MO) : MS := fun ρ => match m ρ with
  | some (x, ρ1) => (match lo ρ1 with
    | some (l, ρ2) => (match hi ρ2 with
      | some (h, ρ3) => (match slS x l h with
        | some s => some (s, ρ3)
        | none => none)
      | none => none)
    | none => none)
  | none => none
def rSlAll (K : PySem.W.Frag) : V → Option Int → Option Int → Hp → VK → Prop := fun x lo hi H Q => rSlL K x lo hi H Q ∨ rSlA K x lo hi H Q ∨ rSlS x lo hi H Q
theorem sl_all {X : Cx} : SlR X (rSlAll X.K) := sl_list.or (sl_tupA.or sl_str)
theorem cutV_of {K : PySem.W.Frag} {F : Hp} {xs : List V} {ds : List D} (r : RpAll K F xs ds) (lo hi : Option Int) : RpAll K F (cutV xs lo hi) ((ds.drop (HT.sIx ds.length 0 lo)).take (HT.sIx ds.length ds.length hi - HT.sIx ds.length 0 lo)) := by
  unfold cutV
  rw [r.length]
  exact (r.drop _).take _
theorem rv_sl {K : PySem.W.Frag} {F H : Hp} {v : V} {x : D} {lo hi : Option Int} {s : Slot} {Q : VK} (ex : Ex F H) (r : Rp K F v x) (e : slS x lo hi = some s) (k : ∀ v F' H', Grow F H F' H' → VG K H F' H' v s → Q v H') : rSlAll K v lo hi H Q := by
  unfold slS at e
  split at e
  · cases e
    cases r with
    | lst h1 h2 =>
      refine .inl ⟨_, _, rfl, ex.l (SqL.of h1), fun p hp => ?_⟩
      obtain ⟨g, r⟩ := new_lst ex hp (cutV_of h2 lo hi)
      exact k _ _ _ g r
  · cases e
    cases r with
    | rl h1 h2 =>
      refine .inl ⟨_, _, rfl, ex.l h1, fun p hp => ?_⟩
      obtain ⟨g, r⟩ := new_lst ex hp (cutV_of h2 lo hi)
      exact k _ _ _ g r
  · rename_i ds
    cases e
    cases r with
    | tup h1 h2 =>
      refine .inr (.inl ⟨_, _, rfl, ex.t h1, fun z => ?_, fun z p hp => ?_⟩)
      · rw [h2.length] at z
        have q : ((ds.drop (HT.sIx ds.length 0 lo)).take (HT.sIx ds.length ds.length hi - HT.sIx ds.length 0 lo)) = ds := by
          rw [z.1, z.2]
          simp
        rw [q] at k
        exact k _ F H (.refl ex) (.tup h1 h2)
      · obtain ⟨g, r⟩ := new_tup ex hp (cutV_of h2 lo hi)
        exact k _ _ _ g r
  · split at e
    · rename_i hz
      cases e
      cases r
      exact .inr (.inr ⟨_, rfl, by rw [szL_eq]; exact hz, k _ F H (.refl ex) (.str _)⟩)
    · cases e
  · cases e
theorem xs_sl {X : Cx} {e : Expr} {lo hi : Option Expr} {m : ME} {ml mh : MO} {pos p2 : Pos} (he : XD X e m) (hl : XO X lo ml) (hu : XO X hi mh) : XS X (.Subscript e (.Slice lo hi none p2) pos) (mSl m ml mh) := ⟨pe_imp (pe_slice sl_all he.pe hl.po hu.po) fun σ H Q h => by
  obtain ⟨F, ρ, d, ρ', c, e, k⟩ := h
  unfold mSl at e
  split at e
  · rename_i x ρ1 h1
    split at e
    · rename_i l ρ2 h2
      split at e
      · rename_i u ρ3 h3
        split at e
        · rename_i s h4
          cases e
          refine ⟨F, ρ, x, ρ1, c, h1, fun v F1 H1 c1 s1 r1 => ?_⟩
          refine ⟨F1, ρ1, l, ρ2, c1, h2, fun F2 H2 c2 s2 => ?_⟩
          refine ⟨F2, ρ2, u, _, c2, h3, fun F3 H3 c3 s3 => ?_⟩
          have s13 := s1.trans (s2.trans s3)
          exact rv_sl c3.ex (r1.ex (s2.exF.trans s3.exF)) h4 fun v F' H' g r => k v F' H' (g.cfg c3) (s13.trans g.stp) (VG.vok s13 g c3 r)
        · cases e
      · cases e
    · cases e
  · cases e⟩

/-! ### built-ins called with data -/
def CvD (K : PySem.W.Frag) (r : List V → Hp → VK → Prop) (f : List D → Option Slot) : Prop := ∀ (F H : Hp) (vs : List V) (ds : List D) (s : Slot) (Q : VK), Ex F H → RpAll K F vs ds → f ds = some s →
  (∀ v F' H', Grow F H F' H' → VG K H F' H' v s → Q v H') → r vs H Q
def mCB (f : List D → Option Slot) (ma : MA) : MS := fun ρ => match ma ρ with
  | some (xs, ρ1) => (match f xs with
    | some s => some (s, ρ1)
    | none => none)
  | none => none
theorem t_CB {K : PySem.W.Frag} {r : List V → Hp → VK → Prop} {f : List D → Option Slot} {ma : MA} (hr : CvD K r f) (σ : L2.St) (H : Hp) (Q : VK) (h : tS K (mCB f ma) σ H Q) : tCB r (tA K ma) σ H Q := by
  obtain ⟨F, ρ, d, ρ', c, e, k⟩ := h
  unfold mCB at e
  split at e
  · rename_i xs ρ1 h1
    split at e
    · rename_i s h2
      cases e
      refine ⟨F, ρ, xs, _, c, h1, fun vs F1 H1 c1 s1 r1 => ?_⟩
      exact hr F1 H1 vs xs _ Q c1.ex r1 h2 fun v F' H' g r => k v F' H' (g.cfg c1) (s1.trans g.stp) (VG.vok s1 g c1 r)
    · cases e
  · cases e
section
variable {X : Cx} {x : Str} {p pos : Pos} {e : Expr} {es : List Expr} {ma : MA} {id T : String} {r : List V → Hp → VK → Prop} {f : List D → Option Slot}
theorem xs_callB (hc : CallR X (.builtin id) r) (hr : CvD X.K r f) (hg : Gl X x) (hm : X.mg x = none) (hv : bootBuiltins x = some (.builtin id)) (ha : XA X (e :: es) ma) (hn : x ≠ "__name__" := by decide) (hdb : (x == ("__debug__" : Str)) = false := by decide)
    (he : starEach (e :: es) X.env = (false, eval e X.env) :: starEach es X.env := by rfl) (hpl : (backTo pos (starEach es X.env)).any (·.1) = false := by rfl) : XS X (.Call (.Name x p) (e :: es) [] pos) (mCB f ma) :=
  ⟨pe_imp (pe_callB hc hg hm hv ha.pa hn hdb he hpl) (t_CB hr)⟩
theorem xs_callTy (hc : CallR X (.type T) r) (hr : CvD X.K r f) (hg : Gl X x) (hm : X.mg x = none) (hv : bootBuiltins x = some (.type T)) (ha : XA X (e :: es) ma) (hn : x ≠ "__name__" := by decide) (hdb : (x == ("__debug__" : Str)) = false := by decide)
    (he : starEach (e :: es) X.env = (false, eval e X.env) :: starEach es X.env := by rfl) (hpl : (backTo pos (starEach es X.env)).any (·.1) = false := by rfl) : XS X (.Call (.Name x p) (e :: es) [] pos) (mCB f ma) :=
  ⟨pe_imp (pe_callTy hc hg hm hv ha.pa hn hdb he hpl) (t_CB hr)⟩
end
/-- len -/
def lenD : D → Option Int
  | .str s => if s.length ≤ szL then some s.length else none
  | .lst ds => some ds.length
  | .rl ds => some ds.length
  | .tup ds => some ds.length
  | _ => none
def lenF : List D → Option Slot
  | [x] => (match lenD x with
    | some n => some (.val (.int n))
    | none => none)
  | _ => none
def rLenA (K : PySem.W.Frag) : List V → Hp → VK → Prop := fun xs H Q => ∃ x n, xs = [x] ∧ LenV K x H n ∧ Q (.int n) H
theorem len_pk {K : PySem.W.Frag} {F H : Hp} {v : V} {x : D} {n : Int} (ex : Ex F H) (r : Pk K F H v x) (h : lenD x = some n) : ∃ m : Nat, n = (m : Int) ∧ LenV K v H m := by
  unfold lenD at h
  split at h
  · split at h
    · rename_i hz
      cases h
      rcases r with r | ⟨a, o, _, e, _⟩
      · cases r
        exact ⟨_, rfl, by rw [szL_eq]; exact hz, rfl⟩
      · cases o <;> cases e
    · cases h
  · cases h
    obtain ⟨a, xs, rfl, hs, ra, h1, _⟩ := r.seq ex rfl
    exact ⟨_, rfl, .inl ⟨xs, h1 rfl, ra.length.symm⟩⟩
  · cases h
    obtain ⟨a, xs, rfl, hs, ra, h1, _⟩ := r.seq ex rfl
    exact ⟨_, rfl, .inl ⟨xs, h1 rfl, ra.length.symm⟩⟩
  · cases h
    obtain ⟨a, xs, rfl, hs, ra, _, h2⟩ := r.seq ex rfl
    exact ⟨_, rfl, .inr ⟨xs, h2 rfl, ra.length.symm⟩⟩
  · cases h
theorem rp1 {K : PySem.W.Frag} {F : Hp} {vs : List V} {x : D} (r : RpAll K F vs [x]) : ∃ v, vs = [v] ∧ Rp K F v x := by
  cases r with
  | cons h t => cases t; exact ⟨_, rfl, h⟩
theorem rp2 {K : PySem.W.Frag} {F : Hp} {vs : List V} {x y : D} (r : RpAll K F vs [x, y]) : ∃ v w, vs = [v, w] ∧ Rp K F v x ∧ Rp K F w y := by
  cases r with
  | cons h t =>
    obtain ⟨w, rfl, h2⟩ := rp1 t
    exact ⟨_, _, rfl, h, h2⟩
theorem rp3 {K : PySem.W.Frag} {F : Hp} {vs : List V} {x y z : D} (r : RpAll K F vs [x, y, z]) : ∃ u v w, vs = [u, v, w] ∧ Rp K F u x ∧ Rp K F v y ∧ Rp K F w z := by
  cases r with
  | cons h t =>
    obtain ⟨v, w, rfl, h2, h3⟩ := rp2 t
    exact ⟨_, _, _, rfl, h, h2, h3⟩
theorem cv_len {K : PySem.W.Frag} : CvD K (rLenA K) lenF := by
  intro F H vs ds s Q ex r e k
  unfold lenF at e
  split at e
  · split at e
    · rename_i n hn
      cases e
      obtain ⟨v, rfl, rv⟩ := rp1 r
      obtain ⟨m, rfl, hl⟩ := len_pk ex (.inl rv) hn
      exact ⟨v, m, rfl, hl, k _ F H (.refl ex) (.int _)⟩
    · cases e
  · cases e
/-- len(name) -/
def mLenN (i : Nat) : ME := fun ρ => match peek ρ i with
  | some x => (match lenD x with
    | some n => some (.int n, ρ)
    | none => none)
  | none => none
section
variable {X : Cx} {p pos pos' : Pos}
theorem xd_lenN (i : Nat) {x : Str} (hm : X.mg "len" = none) (hg : Gl X "len" := by rfl) (hN : X.N[i]? = some x := by rfl) (hv : Vis X.env.scope x := by first | exact Or.inl rfl | exact Or.inr (Or.inl rfl) | exact Or.inr (Or.inr rfl)) (hd : (x == ("__debug__" : Str)) = false := by decide)
    (hcd : (x == ("__classdict__" : Str)) = false := by decide) (he : starEach [.Name x pos'] X.env = (false, eval (.Name x pos') X.env) :: starEach [] X.env := by rfl) (hpl : (backTo pos (starEach [] X.env)).any (·.1) = false := by rfl) : XD X (.Call (.Name "len" p) [.Name x pos'] [] pos) (mLenN i) := by
  refine ⟨pe_imp (pe_callB call_len hg hm PySem.boot_len (pa_cons (pv i hN hv hd hcd) pa_nil he) (by decide) (by decide) he hpl) fun σ H Q h => ?_⟩
  obtain ⟨F, ρ, d, ρ', c, e, k⟩ := h
  unfold mLenN at e
  split at e
  · rename_i z h0
    split at e
    · rename_i n hn
      cases e
      obtain ⟨v, hv, pk⟩ := c.pk h0
      obtain ⟨m, rfl, hl⟩ := len_pk c.ex pk hn
      exact ⟨v, hv, v, m, rfl, hl, k _ F H c (.refl _ _ _ _) (.int _)⟩
    · cases e
  · cases e
end
/-- abs, max, min, int, str -/
def absF : List D → Option Slot
  | [.int i] => some (.val (.int (if i < 0 then -i else i)))
  | _ => none
theorem cv_abs {K : PySem.W.Frag} : CvD K (fun xs H Q => ∃ i, xs = [.int i] ∧ Q (.int (if i < 0 then -i else i)) H) absF := by
  intro F H vs ds s Q ex r e k
  unfold absF at e
  split at e
  · cases e
    obtain ⟨v, rfl, rv⟩ := rp1 r
    cases rv
    exact ⟨_, rfl, k _ F H (.refl ex) (.int _)⟩
  · cases e
def max2F : List D → Option Slot
  | [.int i, .int j] => some (.val (.int (if j > i then j else i)))
  | _ => none
theorem cv_max2 {K : PySem.W.Frag} : CvD K (fun xs H Q => ∃ i j, xs = [.int i, .int j] ∧ Q (.int (if j > i then j else i)) H) max2F := by
  intro F H vs ds s Q ex r e k
  unfold max2F at e
  split at e
  · cases e
    obtain ⟨v, w, rfl, rv, rw⟩ := rp2 r
    cases rv
    cases rw
    exact ⟨_, _, rfl, k _ F H (.refl ex) (.int _)⟩
  · cases e
def min2F : List D → Option Slot
  | [.int i, .int j] => some (.val (.int (if j < i then j else i)))
  | _ => none
theorem cv_min2 {K : PySem.W.Frag} : CvD K (fun xs H Q => ∃ i j, xs = [.int i, .int j] ∧ Q (.int (if j < i then j else i)) H) min2F := by
  intro F H vs ds s Q ex r e k
  unfold min2F at e
  split at e
  · cases e
    obtain ⟨v, w, rfl, rv, rw⟩ := rp2 r
    cases rv
    cases rw
    exact ⟨_, _, rfl, k _ F H (.refl ex) (.int _)⟩
  · cases e
def intF : List D → Option Slot
  | [.int i] => some (.val (.int i))
  | [.bl b] => some (.val (.int (if b then 1 else 0)))
  | [.str s] => (match PySem.intText? s with
    | some n => if s.length ≤ 640 then some (.val (.int n)) else none
    | none => none)
  | _ => none
def rIntA : List V → Hp → VK → Prop := fun xs H Q => ((∃ i, xs = [.int i] ∧ Q (.int i) H) ∨ ∃ k, xs = [.bl k] ∧ Q (.int (if k then 1 else 0)) H) ∨ ∃ a n, xs = [.str a] ∧ PySem.intText? a = some n ∧ a.length ≤ 640 ∧ Q (.int n) H
theorem call_intA {X : Cx} : CallR X (.type "int") rIntA := call_int1.or call_int_str
theorem cv_int {K : PySem.W.Frag} : CvD K rIntA intF := by
  intro F H vs ds s Q ex r e k
  unfold intF at e
  split at e
  · cases e
    obtain ⟨v, rfl, rv⟩ := rp1 r
    cases rv
    exact .inl (.inl ⟨_, rfl, k _ F H (.refl ex) (.int _)⟩)
  · cases e
    obtain ⟨v, rfl, rv⟩ := rp1 r
    cases rv
    exact .inl (.inr ⟨_, rfl, k _ F H (.refl ex) (.int _)⟩)
  · split at e
    · rename_i n hn
      split at e
      · rename_i hz
        cases e
        obtain ⟨v, rfl, rv⟩ := rp1 r
        cases rv
        exact .inr ⟨_, n, rfl, hn, hz, k _ F H (.refl ex) (.int _)⟩
      · cases e
    · cases e
  · cases e
def strF : List D → Option Slot
  | [.int i] => if i.natAbs.log2 < 1920 then some (.val (.str (toString i : String))) else none
  | _ => none
theorem cv_str {K : PySem.W.Frag} : CvD K (fun xs H Q => ∃ i, xs = [.int i] ∧ i.natAbs.log2 < 1920 ∧ Q (.str (toString i)) H) strF := by
  intro F H vs ds s Q ex r e k
  unfold strF at e
  split at e
  · split at e
    · rename_i hz
      cases e
      obtain ⟨v, rfl, rv⟩ := rp1 r
      cases rv
      exact ⟨_, rfl, hz, k _ F H (.refl ex) (.str _)⟩
    · cases e
  · cases e
/-- list(x), tuple(x) of a list, a tuple -/
def listF : List D → Option Slot
  | [x] => (match itemsD x with
    | some ds => some (.own false (.lst ds))
    | none => none)
  | _ => none
theorem cv_list {K : PySem.W.Frag} : CvD K (fun xs H Q => ∃ p ys, xs = [.ref p] ∧ (SqL K H p ys ∨ SqT K H p ys) ∧ ∀ l, H l = none → Q (.ref l) (upd H l (.lst ys))) listF := by
  intro F H vs ds s Q ex r e k
  unfold listF at e
  split at e
  · split at e
    · rename_i es he
      cases e
      obtain ⟨v, rfl, rv⟩ := rp1 r
      obtain ⟨a, xs, rfl, hs, ra, _, _⟩ := rv.seq he
      refine ⟨a, xs, rfl, ?_, fun p hp => ?_⟩
      · rcases hs with hs | hs
        · exact .inl (ex.l hs)
        · exact .inr (ex.t hs)
      · obtain ⟨g, q⟩ := new_lst ex hp ra
        exact k _ _ _ g q
    · cases e
  · cases e
def tupleF : List D → Option Slot
  | [x] => (match itemsD x with
    | some ds => some (.val (.tup ds))
    | none => none)
  | _ => none
theorem cv_tuple {K : PySem.W.Frag} : CvD K (fun xs H Q => ∃ p ys, xs = [.ref p] ∧ ((SqL K H p ys ∧ ∀ l, H l = none → Q (.ref l) (upd H l (.tup ys))) ∨ (SqT K H p ys ∧ Q (.ref p) H))) tupleF := by
  intro F H vs ds s Q ex r e k
  unfold tupleF at e
  split at e
  · split at e
    · rename_i es he
      cases e
      obtain ⟨v, rfl, rv⟩ := rp1 r
      obtain ⟨a, xs, rfl, hs, ra, h1, h2⟩ := rv.seq he
      refine ⟨a, xs, rfl, ?_⟩
      rcases hs with hs | hs
      · refine .inl ⟨ex.l hs, fun p hp => ?_⟩
        obtain ⟨g, q⟩ := new_tup ex hp ra
        exact k _ _ _ g q
      · exact .inr ⟨ex.t hs, k _ F H (.refl ex) (.tup hs ra)⟩
    · cases e
  · cases e
/-- all, any of a list of truths -/
def blsD : List D → Option (List Bool)
  | [] => some []
  | .bl b :: ds => (match blsD ds with
    | some bs => some (b :: bs)
    | none => none)
  | _ :: _ => none
theorem bls_of {K : PySem.W.Frag} {F : Hp} : ∀ {ds : List D} {vs : List V} {bs : List Bool}, RpAll K F vs ds → blsD ds = some bs → vs = bs.map V.bl
  | [], _, _, .nil, e => by cases e; rfl
  | .bl b :: ds, _, _, .cons h t, e => by
    unfold blsD at e
    split at e
    · rename_i bs hb
      cases e
      cases h
      rw [bls_of t hb]
      rfl
    · cases e
def lstD : D → Option (List D)
  | .lst ds => some ds
  | .rl ds => some ds
  | _ => none
theorem lst_seq {K : PySem.W.Frag} {F : Hp} {v : V} {d : D} {ds : List D} (r : Rp K F v d) (h : lstD d = some ds) : ∃ a xs, v = .ref a ∧ SqL K F a xs ∧ RpAll K F xs ds := by
  unfold lstD at h
  split at h
  · cases h
    cases r with
    | lst h1 h2 => exact ⟨_, _, rfl, SqL.of h1, h2⟩
  · cases h
    cases r with
    | rl h1 h2 => exact ⟨_, _, rfl, h1, h2⟩
  · cases h
def allF : List D → Option Slot
  | [x] => (match lstD x with
    | some ds => (match blsD ds with
      | some bs => some (.val (.bl (bs.all id)))
      | none => none)
    | none => none)
  | _ => none
def anyF : List D → Option Slot
  | [x] => (match lstD x with
    | some ds => (match blsD ds with
      | some bs => some (.val (.bl (bs.any id)))
      | none => none)
    | none => none)
  | _ => none
theorem cv_all {K : PySem.W.Frag} : CvD K (rAll K) allF := by
  intro F H vs ds s Q ex r e k
  unfold allF at e
  split at e
  · split at e
    · rename_i es he
      split at e
      · rename_i bs hb
        cases e
        obtain ⟨v, rfl, rv⟩ := rp1 r
        obtain ⟨a, xs, rfl, hs, ra⟩ := lst_seq rv he
        have q := bls_of ra hb
        subst q
        exact ⟨a, bs, rfl, ex.l hs, k _ F H (.refl ex) (.bl _)⟩
      · cases e
    · cases e
  · cases e
theorem cv_any {K : PySem.W.Frag} : CvD K (rAny K) anyF := by
  intro F H vs ds s Q ex r e k
  unfold anyF at e
  split at e
  · split at e
    · rename_i es he
      split at e
      · rename_i bs hb
        cases e
        obtain ⟨v, rfl, rv⟩ := rp1 r
        obtain ⟨a, xs, rfl, hs, ra⟩ := lst_seq rv he
        have q := bls_of ra hb
        subst q
        exact ⟨a, bs, rfl, ex.l hs, k _ F H (.refl ex) (.bl _)⟩
      · cases e
    · cases e
  · cases e
/-! ### isinstance against built-in classes -/
def tyD : D → Option String
  | .non => some "NoneType"
  | .bl _ => some "bool"
  | .int _ => some "int"
  | .str _ => some "str"
  | .lst _ => some "list"
  | .tup _ => some "tuple"
  | .dct _ => some "dict"
  | _ => none
def isiB (d : D) (T : String) : Option Bool := match tyD d with
  | some t => kitB t T
  | none => none
theorem ty_of {K : PySem.W.Frag} {F H : Hp} {v : V} {d : D} {T : String} (ex : Ex F H) (r : Rp K F v d) (h : tyD d = some T) : TyX K H v (.type T) := by
  cases r with
  | non => cases h; exact .base .non
  | bl b => cases h; exact .base (.bl b)
  | int i => cases h; exact .base (.int i)
  | str s => cases h; exact .base (.str s)
  | lst h1 h2 => cases h; exact .base (.lst (ex _ _ h1))
  | rl h1 h2 => cases h
  | tup h1 h2 =>
    cases h
    rcases h1 with (h1 | ⟨o, h1⟩) | ⟨o, its, n, hk, hc, _⟩
    · exact .base (.tup (ex _ _ h1))
    · exact .fTuple (ex _ _ h1)
    · exact .kTuple hk hc
  | dct h1 h2 => cases h; exact .fDict (ex _ _ h1)
  | obj a => cases h
/-- isinstance(e, T), T a built-in class by its name -/
def mIsi (T : String) (m : ME) : ME := fun ρ => match m ρ with
  | some (x, ρ1) => (match isiB x T with
    | some b => some (.bl b, ρ1)
    | none => none)
  | none => none
theorem xd_isi {X : Cx} {e : Expr} {m : ME} {p q pos : Pos} {T : Str} {Ts : String} (he : XD X e m) (hm : X.mg "isinstance" = none) (hT : X.mg T = none) (hv : bootBuiltins T = some (.type Ts)) (hg : Gl X "isinstance" := by rfl) (hgT : Gl X T := by rfl) (hnT : T ≠ "__name__" := by decide) (hdT : (T == ("__debug__" : Str)) = false := by decide)
    (h1 : starEach [e, .Name T q] X.env = (false, eval e X.env) :: starEach [.Name T q] X.env := by rfl) (h2 : starEach [.Name T q] X.env = (false, eval (.Name T q) X.env) :: starEach [] X.env := by rfl) (hpl : (backTo pos (starEach [.Name T q] X.env)).any (·.1) = false := by rfl) :
    XD X (.Call (.Name "isinstance" p) [e, .Name T q] [] pos) (mIsi Ts m) := by
  refine ⟨pe_imp (pe_callB call_isi hg hm (by decide +kernel) (pa_cons he.pe (pa_cons (pe_bltn (v := .ty Ts) hgT hT hv rfl hnT hdT) pa_nil h2) h1) (by decide) (by decide) h1 hpl) fun σ H Q h => ?_⟩
  obtain ⟨F, ρ, d, ρ', c, e, k⟩ := h
  unfold mIsi at e
  split at e
  · rename_i x ρ1 h1
    split at e
    · rename_i b h2
      cases e
      refine ⟨F, ρ, x, _, c, h1, fun v F1 H1 c1 s1 r1 => ?_⟩
      unfold isiB at h2
      split at h2
      · rename_i t ht
        exact ⟨v, .ty Ts, .type t, .type Ts, b, rfl, .ty Ts, ty_of c1.ex r1 ht, kit_ty h2, k _ F1 H1 c1 s1 (.bl _)⟩
      · cases h2
    · cases e
  · cases e
/-! ### methods of texts -/
def MvD (K : PySem.W.Frag) (T : String) (r : V → List V → Hp → VK → Prop) (f : D → List D → Option Slot) : Prop := ∀ (F H : Hp) (v : V) (d : D) (vs : List V) (ds : List D) (s : Slot) (Q : VK), Ex F H → Rp K F v d → RpAll K F vs ds → f d ds = some s →
  (∀ v F' H', Grow F H F' H' → VG K H F' H' v s → Q v H') → r v vs H Q
/-- e.m(..), e of the built-in type T (told by ty) -/
def mBM (ty : D → Bool) (f : D → List D → Option Slot) (m : ME) (ma : MA) : MS := fun ρ => match m ρ with
  | some (x, ρ1) => if ty x = true then (match ma ρ1 with
    | some (xs, ρ2) => (match f x xs with
      | some s => some (s, ρ2)
      | none => none)
    | none => none) else none
  | none => none
theorem t_BM {K : PySem.W.Frag} {T : String} {r : V → List V → Hp → VK → Prop} {ty : D → Bool} {f : D → List D → Option Slot} {m : ME} {ma : MA} (hty : ∀ F H v d, Ex F H → Rp K F v d → ty d = true → tyV K T v H) (hr : MvD K T r f) (σ : L2.St) (H : Hp) (Q : VK) (h : tS K (mBM ty f m ma) σ H Q) : tBM K T r (tD K m) (tA K ma) σ H Q := by
  obtain ⟨F, ρ, d, ρ', c, e, k⟩ := h
  unfold mBM at e
  split at e
  · rename_i x ρ1 h1
    split at e
    · rename_i hz
      split at e
      · rename_i xs ρ2 h2
        split at e
        · rename_i s h3
          cases e
          refine ⟨F, ρ, x, ρ1, c, h1, fun v F1 H1 c1 s1 r1 => ⟨hty F1 H1 v x c1.ex r1 hz, ?_⟩⟩
          refine ⟨F1, ρ1, xs, _, c1, h2, fun vs F2 H2 c2 s2 r2 => ?_⟩
          exact hr F2 H2 v x vs xs _ Q c2.ex (r1.ex s2.exF) r2 h3 fun v F' H' g r => k v F' H' (g.cfg c2) ((s1.trans s2).trans g.stp) (VG.vok (s1.trans s2) g c2 r)
        · cases e
      · cases e
    · cases e
  · cases e
def isStr : D → Bool
  | .str _ => true
  | _ => false
theorem str_ty {K : PySem.W.Frag} (F H : Hp) (v : V) (d : D) (_ : Ex F H) (r : Rp K F v d) (h : isStr d = true) : tyV K "str" v H := by
  cases r <;> first | rfl | exact absurd (show false = true from h) Bool.false_ne_true
def strsD : List D → Option (List Str)
  | [] => some []
  | .str s :: ds => (match strsD ds with
    | some ss => some (s :: ss)
    | none => none)
  | _ :: _ => none
theorem strs_of {K : PySem.W.Frag} {F : Hp} : ∀ {ds : List D} {vs : List V} {ss : List Str}, RpAll K F vs ds → strsD ds = some ss → vs = ss.map V.str
  | [], _, _, .nil, e => by cases e; rfl
  | .str b :: ds, _, _, .cons h t, e => by
    unfold strsD at e
    split at e
    · rename_i bs hb
      cases e
      cases h
      rw [strs_of t hb]
      rfl
    · cases e
def joinF : D → List D → Option Slot
  | .str a, [x] => (match itemsD x with
    | some ds => (match strsD ds with
      | some ss => if (ss.map (·.length)).sum + ss.length * a.length ≤ 16777216 then some (.val (.str (Txt.join a ss))) else none
      | none => none)
    | none => none)
  | _, _ => none
theorem mv_join {K : PySem.W.Frag} : MvD K "str" (fun x xs H Q => ∃ a p, ∃ ys : List Str, x = .str a ∧ xs = [.ref p] ∧ (SqL K H p (ys.map V.str) ∨ SqT K H p (ys.map V.str)) ∧
    (ys.map (·.length)).sum + ys.length * a.length ≤ 16777216 ∧ Q (.str (Txt.join a ys)) H) joinF := by
  intro F H v d vs ds s Q ex r rs e k
  unfold joinF at e
  split at e
  · split at e
    · rename_i es he
      split at e
      · rename_i ss hs
        split at e
        · rename_i hz
          cases e
          obtain ⟨w, rfl, rw⟩ := rp1 rs
          obtain ⟨a, xs, rfl, hq, ra, _, _⟩ := rw.seq he
          have q := strs_of ra hs
          subst q
          cases r
          refine ⟨_, a, ss, rfl, rfl, ?_, hz, k _ F H (.refl ex) (.str _)⟩
          rcases hq with hq | hq
          · exact .inl (ex.l hq)
          · exact .inr (ex.t hq)
        · cases e
      · cases e
    · cases e
  · cases e
theorem xs_join {X : Cx} {o e : Expr} {m : ME} {ma : MA} {apos cpos : Pos} (ho : XD X o m) (ha : XA X [e] ma) (hbase : attributeBase o "join" X.env (eval o X.env) = eval o X.env := by rfl)
    (hfew : ((backTo cpos (starEach [e] X.env)).all (fun x => !x.1) && (backToKw cpos (keywordEach [] X.env)).all (fun x => x.1.isSome)
      && decide ([e].length + ([] : List Keyword).length + (if ([] : List Keyword).isEmpty then 0 else 1) < 30)) = true := by rfl)
    (hline : (apos.endLine == cpos.line) = true := by rfl) (hs : starEach [e] X.env = (false, eval e X.env) :: starEach [] X.env := by rfl) (hplain : (backTo cpos (starEach [] X.env)).any (·.1) = false := by rfl) :
    XS X (.Call (.Attribute o "join" apos) [e] [] cpos) (mBM isStr joinF m ma) :=
  ⟨pe_imp (pe_bm PySem.F.plainAttrs_str PySem.F.slot_str_join PySem.F.type_str_join mt_join ho.pe ha.pa hbase hfew hline hs hplain) (t_BM str_ty mv_join)⟩
end Mr

set_option Elab.async false
set_option linter.all false
set_option maxRecDepth 100000
set_option maxHeartbeats 2000000
/-! Mir4: statements, own objects changed, calls of defs by mirrors. -/
namespace Mr
open PySem PySem.Spec PyProof.Rows L2

/-! ### statements -/
def After (K : PySem.W.Frag) (σ : L2.St) (ρ : Rho) (H : Hp) (E : Ends) (σ' : L2.St) (ρ' : Rho) (F' H' : Hp) : Out → Prop
  | .nx => E.nx σ' H'
  | .bk => E.bk σ' H'
  | .ct => E.ct σ' H'
  | .ret s => ∀ v, VOk K σ ρ H σ' ρ' F' H' v s → E.rt v H'
theorem After.fwd {K : PySem.W.Frag} {σ σ1 σ' : L2.St} {ρ ρ1 ρ' : Rho} {F F1 H H1 F' H' : Hp} {E : Ends} (st : Stp σ ρ F H σ1 ρ1 F1 H1) : ∀ {o : Out}, After K σ ρ H E σ' ρ' F' H' o → After K σ1 ρ1 H1 E σ' ρ' F' H' o
  | .nx, h => h
  | .bk, h => h
  | .ct, h => h
  | .ret _, h => fun v q => h v (q.back st)
def tSt (K : PySem.W.Frag) (m : MSt) : TS := fun E σ H => ∃ F ρ o ρ', Cfg K F H σ ρ ∧ m ρ = some (o, ρ') ∧ ∀ σ' F' H', Cfg K F' H' σ' ρ' → Stp σ ρ F H σ' ρ' F' H' → After K σ ρ H E σ' ρ' F' H' o
structure XP (X : Cx) (st : Stmt) (m : MSt) : Prop where ps : PS X st (tSt X.K m)
structure XPs (X : Cx) (st : List Stmt) (m : MSt) : Prop where pss : PSs X st (tSt X.K m)

def mSkip : MSt := fun ρ => some (.nx, ρ)
def mSeq (a b : MSt) : MSt := fun ρ => match a ρ with
  | some (.nx, ρ1) => b ρ1
  | r => r
section
variable {X : Cx} {st : Stmt} {rest : List Stmt} {a b : MSt} {pos : Pos} {e : Expr}
theorem xps_nil : XPs X [] mSkip := ⟨pss_imp pss_nil fun E σ H h => by
  obtain ⟨F, ρ, o, ρ', c, e, k⟩ := h
  cases e
  exact k σ F H c (.refl _ _ _ _)⟩
theorem xps_one (h : XP X st a) : XPs X [st] a := ⟨pss_one h.ps⟩
theorem t_seq {K : PySem.W.Frag} (E : Ends) (σ : L2.St) (H : Hp) (h : tSt K (mSeq a b) E σ H) : tSeq (tSt K a) (tSt K b) E σ H := by
  obtain ⟨F, ρ, o, ρ', c, e, k⟩ := h
  unfold mSeq at e
  split at e
  · rename_i ρ1 h1
    refine ⟨F, ρ, .nx, ρ1, c, h1, fun σ1 F1 H1 c1 s1 => ?_⟩
    exact ⟨F1, ρ1, o, ρ', c1, e, fun σ2 F2 H2 c2 s2 => (k σ2 F2 H2 c2 (s1.trans s2)).fwd s1⟩
  · rename_i hne
    refine ⟨F, ρ, o, ρ', c, e, fun σ1 F1 H1 c1 s1 => ?_⟩
    have q := k σ1 F1 H1 c1 s1
    cases o with
    | nx => exact absurd e (hne _)
    | bk => exact q
    | ct => exact q
    | ret s => exact q
theorem xps_cons (h1 : XP X st a) (h2 : XPs X rest b) : XPs X (st :: rest) (mSeq a b) := ⟨pss_imp (pss_cons h1.ps h2.pss) t_seq⟩
theorem xp_pass : XP X (.Pass pos) mSkip := ⟨ps_imp ps_pass fun E σ H h => by
  obtain ⟨F, ρ, o, ρ', c, e, k⟩ := h
  cases e
  exact k σ F H c (.refl _ _ _ _)⟩
theorem xp_break : XP X (.Break pos) (fun ρ => some (.bk, ρ)) := ⟨ps_imp ps_break fun E σ H h => by
  obtain ⟨F, ρ, o, ρ', c, e, k⟩ := h
  cases e
  exact k σ F H c (.refl _ _ _ _)⟩
theorem xp_continue : XP X (.Continue pos) (fun ρ => some (.ct, ρ)) := ⟨ps_imp ps_continue fun E σ H h => by
  obtain ⟨F, ρ, o, ρ', c, e, k⟩ := h
  cases e
  exact k σ F H c (.refl _ _ _ _)⟩
def mDrop (m : MS) : MSt := fun ρ => match m ρ with
  | some (_, ρ1) => some (.nx, ρ1)
  | none => none
theorem xp_expr {m : MS} (h : XS X e m) (hs : swapsWith e none pos.line X.env = pure false := by rfl) : XP X (.Expr e pos) (mDrop m) := ⟨ps_imp (ps_expr h.pe hs) fun E σ H h => by
  obtain ⟨F, ρ, o, ρ', c, e, k⟩ := h
  unfold mDrop at e
  split at e
  · rename_i s ρ1 h1
    cases e
    exact ⟨F, ρ, s, _, c, h1, fun v F1 H1 c1 s1 _ => k σ F1 H1 c1 s1⟩
  · cases e⟩
def mRet (m : MS) : MSt := fun ρ => match m ρ with
  | some (s, ρ1) => some (.ret s, ρ1)
  | none => none
theorem xp_ret {m : MS} (h : XS X e m) : XP X (.Return (some e) pos) (mRet m) := ⟨ps_imp (ps_ret h.pe) fun E σ H h => by
  obtain ⟨F, ρ, o, ρ', c, e, k⟩ := h
  unfold mRet at e
  split at e
  · rename_i s ρ1 h1
    cases e
    exact ⟨F, ρ, s, _, c, h1, fun v F1 H1 c1 s1 q => k σ F1 H1 c1 s1 v q⟩
  · cases e⟩
def mRetN : MSt := fun ρ => some (.ret (.val .non), ρ)
theorem xp_retN : XP X (.Return none pos) mRetN := ⟨ps_imp ps_retN fun E σ H h => by
  obtain ⟨F, ρ, o, ρ', c, e, k⟩ := h
  cases e
  exact k σ F H c (.refl _ _ _ _) .non .non⟩
def mIf (t : MT) (a b : MSt) : MSt := fun ρ => match t ρ with
  | some (true, ρ1) => a ρ1
  | some (false, ρ1) => b ρ1
  | none => none
theorem xp_if {c : Expr} {p q : List Stmt} {t : MT} (hc : XT X c t) (ha : XPs X p a) (hb : XPs X q b) : XP X (.If c p q pos) (mIf t a b) := ⟨ps_imp (ps_if hc.pt ha.pss hb.pss) fun E σ H h => by
  obtain ⟨F, ρ, o, ρ', c, e, k⟩ := h
  unfold mIf at e
  split at e
  · rename_i ρ1 h1
    refine ⟨F, ρ, true, ρ1, c, h1, fun F1 H1 c1 s1 => iteT ?_⟩
    exact ⟨F1, ρ1, o, ρ', c1, e, fun σ2 F2 H2 c2 s2 => (k σ2 F2 H2 c2 (s1.trans s2)).fwd s1⟩
  · rename_i ρ1 h1
    refine ⟨F, ρ, false, ρ1, c, h1, fun F1 H1 c1 s1 => iteF ?_⟩
    exact ⟨F1, ρ1, o, ρ', c1, e, fun σ2 F2 H2 c2 s2 => (k σ2 F2 H2 c2 (s1.trans s2)).fwd s1⟩
  · cases e⟩
end

/-! ### a name is stored -/
def unpin (ρ : Rho) (i : Nat) : Bool := match ρ[i]? with
  | some (.own true _) => false
  | some _ => true
  | none => false
theorem Cfg.store {K : PySem.W.Frag} {F H F' H' : Hp} {σ0 σ : L2.St} {ρ ρ1 : Rho} {v : V} {s : Slot} {i : Nat} (c : Cfg K F' H' σ ρ1) (st : Stp σ0 ρ F H σ ρ1 F' H') (q : VOk K σ0 ρ H σ ρ1 F' H' v s) (u : unpin ρ1 i = true) :
    Cfg K F' H' (σ.set i (some v)) (ρ1.set i s) ∧ Stp σ0 ρ F H (σ.set i (some v)) (ρ1.set i s) F' H' := by
  have il : i < ρ1.length := by
    unfold unpin at u
    split at u
    · cases u
    · rename_i h; exact (List.getElem?_eq_some_iff.mp h).1
    · cases u
  have il' : i < σ.length := by rw [← c.len]; exact il
  have np : ∀ o, ρ1[i]? ≠ some (.own true o) := fun o h => by
    unfold unpin at u
    rw [h] at u
    cases u
  have ownAt : ∀ p o, s = .own p o → p = false ∧ ∃ a, v = .ref a ∧ F' a = none ∧ (H a = none ∨ OwnsU σ0 ρ a) ∧ ¬ Owns σ ρ1 a ∧ OAt K F' H' a o := fun p o e => by
    subst e
    exact q
  refine ⟨⟨c.ex, by rw [List.length_set, List.length_set]; exact c.len, fun j t h => ?_, fun j k p p' o o' a h1 h2 h3 h4 => ?_⟩, ⟨st.exF, st.fr, st.th, st.nF, fun a h => ?_, fun a h => ?_, fun j o h => ?_⟩⟩
  · by_cases z : j = i
    · subst z
      rw [List.getElem?_set_self il] at h
      cases h
      rw [List.getElem?_set_self il']
      cases s with
      | un => trivial
      | val d => exact ⟨v, rfl, q⟩
      | own p o =>
        obtain ⟨_, a, e, f, _, _, at1⟩ := q
        exact ⟨a, by rw [e], f, at1⟩
    · rw [List.getElem?_set_ne (Ne.symm z)] at h ⊢
      exact c.sl j t h
  · by_cases z1 : j = i
    · subst z1
      rw [List.getElem?_set_self il] at h1
      rw [List.getElem?_set_self il'] at h3
      cases h1
      cases h3
      obtain ⟨_, b, e, _, _, n, _⟩ := ownAt p o rfl
      cases e
      by_cases z2 : k = j
      · exact z2.symm
      · rw [List.getElem?_set_ne (Ne.symm z2)] at h2 h4
        exact absurd ⟨k, p', o', h2, h4⟩ n
    · rw [List.getElem?_set_ne (Ne.symm z1)] at h1 h3
      by_cases z2 : k = i
      · subst z2
        rw [List.getElem?_set_self il] at h2
        rw [List.getElem?_set_self il'] at h4
        cases h2
        cases h4
        obtain ⟨_, b, e, _, _, n, _⟩ := ownAt p' o' rfl
        cases e
        exact absurd ⟨j, p, o, h1, h3⟩ n
      · rw [List.getElem?_set_ne (Ne.symm z2)] at h2 h4
        exact c.sep j k p p' o o' a h1 h2 h3 h4
  · obtain ⟨j, p, o, h1, h2⟩ := h
    by_cases z : j = i
    · subst z
      rw [List.getElem?_set_self il] at h1
      rw [List.getElem?_set_self il'] at h2
      cases h1
      cases h2
      obtain ⟨_, b, e, _, n, _, _⟩ := ownAt p o rfl
      cases e
      exact n.symm.imp_left OwnsU.owns
    · rw [List.getElem?_set_ne (Ne.symm z)] at h1 h2
      exact st.own a ⟨j, p, o, h1, h2⟩
  · obtain ⟨j, o, h1, h2⟩ := h
    by_cases z : j = i
    · subst z
      rw [List.getElem?_set_self il] at h1
      rw [List.getElem?_set_self il'] at h2
      cases h1
      cases h2
      obtain ⟨_, b, e, _, n, _, _⟩ := ownAt false o rfl
      cases e
      exact n.symm
    · rw [List.getElem?_set_ne (Ne.symm z)] at h1 h2
      exact st.ownU a ⟨j, o, h1, h2⟩
  · obtain ⟨e1, o1, h1⟩ := st.pin j o h
    have z : j ≠ i := fun e => by
      subst e
      exact np _ h1
    rw [List.getElem?_set_ne (Ne.symm z), List.getElem?_set_ne (Ne.symm z)]
    exact ⟨e1, o1, h1⟩
def mAsg (i : Nat) (m : MS) : MSt := fun ρ => match m ρ with
  | some (s, ρ1) => if unpin ρ1 i = true then some (.nx, ρ1.set i s) else none
  | none => none
theorem t_asg {K : PySem.W.Frag} {i : Nat} {m : MS} (E : Ends) (σ : L2.St) (H : Hp) (h : tSt K (mAsg i m) E σ H) : tAsg (tS K m) (gName i) E σ H := by
  obtain ⟨F, ρ, o, ρ', c, e, k⟩ := h
  unfold mAsg at e
  split at e
  · rename_i s ρ1 h1
    split at e
    · rename_i u
      cases e
      refine ⟨F, ρ, s, ρ1, c, h1, fun v F1 H1 c1 s1 q => ?_⟩
      obtain ⟨c2, s2⟩ := c1.store s1 q u
      exact k _ F1 H1 c2 s2
    · cases e
  · cases e
section
variable {X : Cx} {pos pos' : Pos} {e : Expr}
theorem xp_set {i : Nat} {x : Str} {m : MS} (hN : X.N.Nodup) (he : XS X e m) (hi : X.N[i]? = some x := by rfl) (hx : Loc X.env.scope x := by first | exact Or.inl rfl | exact Or.inr rfl) (hs : swapsWith e (some (.Name x pos')) pos.line X.env = pure false := by rfl)
    (hf : X.fn x = true ∨ X.env.scope.names.lookup x = some .local := by first | exact .inl rfl | exact .inr rfl | assumption) : XP X (.Assign [.Name x pos'] e pos) (mAsg i m) := ⟨ps_imp (ps_set hN hi hx he.pe hs hf) t_asg⟩
/-- a, b = x, y -/
def put2 (ρ : Rho) (i j : Nat) (x y : D) : Option Rho := if (unpin ρ i && unpin (ρ.set i (.val x)) j) = true then some ((ρ.set i (.val x)).set j (.val y)) else none
def mPar (i j : Nat) (ma : MA) : MSt := fun ρ => match ma ρ with
  | some ([x, y], ρ1) => (match put2 ρ1 i j x y with
    | some ρ2 => some (.nx, ρ2)
    | none => none)
  | _ => none
theorem xp_par {i j : Nat} {x y : Str} {a b : Expr} {ma : MA} {px py pt : Pos} {kt k2 pt2} (hc : X.calm = true) (hN : X.N.Nodup) (hij : i ≠ j) (ha : XA X [a, b] ma) (hi : X.N[i]? = some x := by rfl) (hj : X.N[j]? = some y := by rfl)
    (hx : X.env.scope.names.lookup x = some .local := by rfl) (hy : X.env.scope.names.lookup y = some .local := by rfl)
    (hw : swappedStores [.Tuple [.Name x px, .Name y py] kt pt] (.Tuple [a, b] k2 pt2) X.env = pure (some [x, y]) := by rfl)
    (hs : swapsWithSole [.Tuple [.Name x px, .Name y py] kt pt] (.Tuple [a, b] k2 pt2) pos.line X.env = pure false := by rfl) :
    XP X (.Assign [.Tuple [.Name x px, .Name y py] kt pt] (.Tuple [a, b] k2 pt2) pos) (mPar i j ma) := ⟨ps_imp (ps_par hc hN hi hj hij hx hy ha.pa hw hs) fun E σ H h => by
  obtain ⟨F, ρ, o, ρ', c, e, k⟩ := h
  unfold mPar at e
  split at e
  · rename_i x y ρ1 h1
    split at e
    · rename_i ρ2 h2
      cases e
      unfold put2 at h2
      split at h2
      · rename_i u
        cases h2
        rw [Bool.and_eq_true] at u
        refine ⟨F, ρ, _, ρ1, c, h1, fun vs F1 H1 c1 s1 r1 => ?_⟩
        obtain ⟨v, w, rfl, rv, rw⟩ := rp2 r1
        obtain ⟨c2, s2⟩ := c1.store (s := .val x) s1 rv u.1
        obtain ⟨c3, s3⟩ := c2.store (s := .val y) s2 rw u.2
        exact ⟨v, w, rfl, k _ F1 H1 c3 s3⟩
      · cases h2
    · cases e
  · cases e⟩
/-- a, b, c = x, y, z -/
def put3 (ρ : Rho) (i j l : Nat) (x y z : D) : Option Rho := match put2 ρ i j x y with
  | some ρ1 => if unpin ρ1 l = true then some (ρ1.set l (.val z)) else none
  | none => none
def mPar3 (i j l : Nat) (ma : MA) : MSt := fun ρ => match ma ρ with
  | some ([x, y, z], ρ1) => (match put3 ρ1 i j l x y z with
    | some ρ2 => some (.nx, ρ2)
    | none => none)
  | _ => none
theorem xp_par3 {i j l : Nat} {x y z : Str} {a b c : Expr} {ma : MA} {px py pz pt : Pos} {kt k2 pt2} (hc : X.calm = true) (hN : X.N.Nodup) (hij : i ≠ j) (hil : i ≠ l) (hjl : j ≠ l) (ha : XA X [a, b, c] ma) (hi : X.N[i]? = some x := by rfl) (hj : X.N[j]? = some y := by rfl) (hl : X.N[l]? = some z := by rfl)
    (hx : X.env.scope.names.lookup x = some .local := by rfl) (hy : X.env.scope.names.lookup y = some .local := by rfl) (hz : X.env.scope.names.lookup z = some .local := by rfl)
    (hw : swappedStores [.Tuple [.Name x px, .Name y py, .Name z pz] kt pt] (.Tuple [a, b, c] k2 pt2) X.env = pure (some [x, y, z]) := by rfl)
    (hs : swapsWithSole [.Tuple [.Name x px, .Name y py, .Name z pz] kt pt] (.Tuple [a, b, c] k2 pt2) pos.line X.env = pure false := by rfl) :
    XP X (.Assign [.Tuple [.Name x px, .Name y py, .Name z pz] kt pt] (.Tuple [a, b, c] k2 pt2) pos) (mPar3 i j l ma) := ⟨ps_imp (ps_par3 hc hN hi hj hl hij hil hjl hx hy hz ha.pa hw hs) fun E σ H h => by
  obtain ⟨F, ρ, o, ρ', c, e, k⟩ := h
  unfold mPar3 at e
  split at e
  · rename_i x y z ρ1 h1
    split at e
    · rename_i ρ2 h2
      cases e
      unfold put3 at h2
      split at h2
      · rename_i ρ3 h3
        split at h2
        · rename_i u3
          cases h2
          unfold put2 at h3
          split at h3
          · rename_i u
            cases h3
            rw [Bool.and_eq_true] at u
            refine ⟨F, ρ, _, ρ1, c, h1, fun vs F1 H1 c1 s1 r1 => ?_⟩
            obtain ⟨v, w, t, rfl, rv, rw, rt⟩ := rp3 r1
            obtain ⟨c2, s2⟩ := c1.store (s := .val x) s1 rv u.1
            obtain ⟨c3, s3⟩ := c2.store (s := .val y) s2 rw u.2
            obtain ⟨c4, s4⟩ := c3.store (s := .val z) s3 rt u3
            exact ⟨v, w, t, rfl, k _ F1 H1 c4 s4⟩
          · cases h3
        · cases h2
      · cases h2
    · cases e
  · cases e⟩
end

/-! ### targets -/
abbrev MG := D → Rho → Option Rho
abbrev MGs := List D → Rho → Option Rho
/-- all slots but these are as they were -/
def Off (ws : List Nat) (σ σ' : L2.St) : Prop := σ'.length = σ.length ∧ ∀ i, i ∉ ws → σ'[i]? = σ[i]?
theorem Off.refl (ws : List Nat) (σ : L2.St) : Off ws σ σ := ⟨rfl, fun _ _ => rfl⟩
theorem Off.app {ws us : List Nat} {σ σ1 σ2 : L2.St} (a : Off ws σ σ1) (b : Off us σ1 σ2) : Off (ws ++ us) σ σ2 :=
  ⟨b.1.trans a.1, fun i h => (b.2 i fun z => h (List.mem_append_right _ z)).trans (a.2 i fun z => h (List.mem_append_left _ z))⟩
def tG (K : PySem.W.Frag) (ws : List Nat) (m : MG) : TG := fun v σ H Q => ∃ F ρ d ρ', Cfg K F H σ ρ ∧ Rp K F v d ∧ m d ρ = some ρ' ∧ ∀ σ' F' H', Off ws σ σ' → Cfg K F' H' σ' ρ' → Stp σ ρ F H σ' ρ' F' H' → Q σ' H'
def tGs (K : PySem.W.Frag) (ws : List Nat) (m : MGs) : TGs := fun vs σ H Q => ∃ F ρ ds ρ', Cfg K F H σ ρ ∧ RpAll K F vs ds ∧ m ds ρ = some ρ' ∧ ∀ σ' F' H', Off ws σ σ' → Cfg K F' H' σ' ρ' → Stp σ ρ F H σ' ρ' F' H' → Q σ' H'
structure XG (X : Cx) (e : Expr) (ws : List Nat) (m : MG) : Prop where pg : PG X e (tG X.K ws m)
structure XGs (X : Cx) (e : List Expr) (ws : List Nat) (m : MGs) : Prop where pgs : PGs X e (tGs X.K ws m)
theorem pg_imp {X : Cx} {e : Expr} {t t' : TG} (h : PG X e t) (i : ∀ v σ H Q, t' v σ H Q → t v σ H Q) : PG X e t' := ⟨fun pins s σ H v u Q I r q => h.run pins s σ H v u Q I r (i v σ H Q q)⟩
theorem pgs_imp {X : Cx} {e : List Expr} {t t' : TGs} (h : PGs X e t) (i : ∀ v σ H Q, t' v σ H Q → t v σ H Q) : PGs X e t' := ⟨fun pins s σ H v u Q I r q => h.run pins s σ H v u Q I r (i v σ H Q q)⟩
def mgN (i : Nat) : MG := fun d ρ => if unpin ρ i = true then some (ρ.set i (.val d)) else none
def mgs0 : MGs := fun ds ρ => match ds with
  | [] => some ρ
  | _ => none
def mgs1 (g : MG) (r : MGs) : MGs := fun ds ρ => match ds with
  | d :: ds => (match g d ρ with
    | some ρ1 => r ds ρ1
    | none => none)
  | [] => none
def mgT (n : Nat) (g : MGs) : MG := fun d ρ => match d with
  | .tup ds => if ds.length = n then g ds ρ else none
  | _ => none
section
variable {X : Cx} {pos : Pos}
theorem xg_name (i : Nat) {x : Str} (hN : X.N.Nodup) (hi : X.N[i]? = some x := by rfl) (hx : Loc X.env.scope x := by first | exact Or.inl rfl | exact Or.inr rfl) (hf : X.fn x = true ∨ X.env.scope.names.lookup x = some .local := by first | exact .inl rfl | exact .inr rfl | assumption) : XG X (.Name x pos) [i] (mgN i) := ⟨pg_imp (pg_name hN hi hx hf) fun v σ H Q h => by
  obtain ⟨F, ρ, d, ρ', c, r, e, k⟩ := h
  unfold mgN at e
  split at e
  · rename_i u
    cases e
    obtain ⟨c2, s2⟩ := c.store (s := .val d) (.refl _ _ _ _) r u
    exact k _ F H ⟨by rw [List.length_set], fun j hj => by rw [List.getElem?_set_ne (fun e => hj (by rw [e]; exact List.mem_cons_self))]⟩ c2 s2
  · cases e⟩
theorem xgs_nil : XGs X [] [] mgs0 := ⟨pgs_imp pgs_nil fun v σ H Q h => by
  obtain ⟨F, ρ, d, ρ', c, r, e, k⟩ := h
  unfold mgs0 at e
  split at e
  · cases e
    cases r
    exact ⟨rfl, k _ F H (.refl _ _) c (.refl _ _ _ _)⟩
  · cases e⟩
theorem xgs_cons {e : Expr} {es : List Expr} {ws us : List Nat} {g : MG} {r : MGs} (h1 : XG X e ws g) (h2 : XGs X es us r) (hs : (assignEach (e :: es) X.env).map (·.2) = assign e X.env :: (assignEach es X.env).map (·.2) := by rfl) : XGs X (e :: es) (ws ++ us) (mgs1 g r) := ⟨pgs_imp (pgs_cons h1.pg h2.pgs hs) fun v σ H Q h => by
  obtain ⟨F, ρ, d, ρ', c, r, e, k⟩ := h
  unfold mgs1 at e
  split at e
  · split at e
    · rename_i ρ1 hg
      cases r with
      | cons r1 r2 =>
        refine ⟨_, _, rfl, F, ρ, _, ρ1, c, r1, hg, fun σ1 F1 H1 o1 c1 s1 => ?_⟩
        exact ⟨F1, ρ1, _, ρ', c1, r2.ex s1.exF, e, fun σ2 F2 H2 o2 c2 s2 => k σ2 F2 H2 (o1.app o2) c2 (s1.trans s2)⟩
    · cases e
  · cases e⟩
theorem xg_tup {es : List Expr} {kk : Nat} {ws : List Nat} {g : MGs} {n : Nat} (hc : X.calm = true) (h : XGs X es ws g) (hn : (assignEach es X.env).length = n := by rfl) (hst : (assignEach es X.env).findIdx? (·.1) = none := by rfl) : XG X (.Tuple es kk pos) ws (mgT n g) := ⟨pg_imp (pg_tup hc h.pgs hn hst) fun v σ H Q h => by
  obtain ⟨F, ρ, d, ρ', c, r, e, k⟩ := h
  unfold mgT at e
  split at e
  · split at e
    · rename_i ds hl
      cases r with
      | tup h1 h2 => exact ⟨_, _, rfl, c.ex.t h1, by rw [h2.length]; exact hl, F, ρ, ds, ρ', c, h2, e, k⟩
    · cases e
  · cases e⟩
/-- target = e -/
def mAsgG (g : MG) (m : ME) : MSt := fun ρ => match m ρ with
  | some (d, ρ1) => (match g d ρ1 with
    | some ρ2 => some (.nx, ρ2)
    | none => none)
  | none => none
theorem xp_asg {tg e : Expr} {ws : List Nat} {g : MG} {m : ME} (he : XD X e m) (hg : XG X tg ws g) (hs : swapsWithSole [tg] e pos.line X.env = pure false := by rfl) (hw : swappedStores [tg] e X.env = pure none := by rfl)
    (h1 : (assignEach [tg] X.env).map (·.2) = [assign tg X.env] := by rfl) : XP X (.Assign [tg] e pos) (mAsgG g m) := ⟨ps_imp (ps_asg he.pe hg.pg hs hw h1) fun E σ H h => by
  obtain ⟨F, ρ, o, ρ', c, e, k⟩ := h
  unfold mAsgG at e
  split at e
  · rename_i d ρ1 h1
    split at e
    · rename_i ρ2 h2
      cases e
      refine ⟨F, ρ, d, ρ1, c, h1, fun v F1 H1 c1 s1 r1 => ?_⟩
      exact ⟨F1, ρ1, d, _, c1, r1, h2, fun σ2 F2 H2 _ c2 s2 => k σ2 F2 H2 c2 (s1.trans s2)⟩
    · cases e
  · cases e⟩
end

/-! ### a name's own object is handed on -/
def mMov (i : Nat) : MS := fun ρ => match ρ[i]? with
  | some (.val d) => some (.val d, ρ)
  | some (.own false o) => some (.own false o, ρ.set i .un)
  | _ => none
theorem Cfg.un {K : PySem.W.Frag} {F H : Hp} {σ : L2.St} {ρ : Rho} {i : Nat} (c : Cfg K F H σ ρ) (n : ∀ o, ρ[i]? ≠ some (.own true o)) : Cfg K F H σ (ρ.set i .un) ∧ Stp σ ρ F H σ (ρ.set i .un) F H := by
  have ne : ∀ {j p o}, (ρ.set i .un)[j]? = some (.own p o) → j ≠ i := fun {j p o} h e => by
    subst e
    by_cases il : j < ρ.length
    · rw [List.getElem?_set_self il] at h
      cases h
    · rw [List.getElem?_eq_none (by rw [List.length_set]; omega)] at h
      cases h
  refine ⟨⟨c.ex, by rw [List.length_set]; exact c.len, fun j s h => ?_, fun j k p q o u a h1 h2 h3 h4 => ?_⟩, ⟨.refl F, fun _ _ h _ => h, fun _ h => h, fun _ h k => absurd h k, fun a h => ?_, fun a h => ?_, fun j o h => ⟨rfl, o, ?_⟩⟩⟩
  · by_cases z : j = i
    · subst z
      by_cases il : j < ρ.length
      · rw [List.getElem?_set_self il] at h
        cases h
        trivial
      · rw [List.getElem?_eq_none (by rw [List.length_set]; omega)] at h
        cases h
    · rw [List.getElem?_set_ne (Ne.symm z)] at h
      exact c.sl j s h
  · have n1 := ne h1
    have n2 := ne h2
    rw [List.getElem?_set_ne (Ne.symm n1)] at h1
    rw [List.getElem?_set_ne (Ne.symm n2)] at h2
    exact c.sep j k p q o u a h1 h2 h3 h4
  · obtain ⟨j, p, o, h1, h2⟩ := h
    have n1 := ne h1
    rw [List.getElem?_set_ne (Ne.symm n1)] at h1
    exact .inl ⟨j, p, o, h1, h2⟩
  · obtain ⟨j, o, h1, h2⟩ := h
    have n1 := ne h1
    rw [List.getElem?_set_ne (Ne.symm n1)] at h1
    exact .inl ⟨j, o, h1, h2⟩
  · have z : j ≠ i := fun e => by
      subst e
      exact n o h
    rw [List.getElem?_set_ne (Ne.symm z)]
    exact h
theorem xs_mov {X : Cx} (i : Nat) {x : Str} {pos : Pos} (hN : X.N[i]? = some x := by rfl) (hv : Vis X.env.scope x := by first | exact Or.inl rfl | exact Or.inr (Or.inl rfl) | exact Or.inr (Or.inr rfl)) (hd : (x == ("__debug__" : Str)) = false := by decide)
    (hcd : (x == ("__classdict__" : Str)) = false := by decide) : XS X (.Name x pos) (mMov i) := by
  refine ⟨pe_imp (pv i hN hv hd hcd) fun σ H Q h => ?_⟩
  obtain ⟨F, ρ, s, ρ', c, e, k⟩ := h
  unfold mMov at e
  split at e
  · rename_i d hi
    cases e
    obtain ⟨v, e1, r⟩ := c.sl i _ hi
    exact ⟨v, e1, k v F H c (.refl _ _ _ _) r⟩
  · rename_i o hi
    cases e
    obtain ⟨a, e1, f, at1⟩ := c.sl i _ hi
    obtain ⟨c1, s1⟩ := c.un (i := i) fun o' h => by rw [hi] at h; cases h
    refine ⟨_, e1, k _ F H c1 s1 ⟨rfl, a, rfl, f, .inr ⟨i, o, hi, e1⟩, fun z => ?_, at1⟩⟩
    obtain ⟨j, p, o', h1, h2⟩ := z
    have nj : j ≠ i := fun e => by
      subst e
      have il := (List.getElem?_eq_some_iff.mp hi).1
      rw [List.getElem?_set_self il] at h1
      cases h1
    rw [List.getElem?_set_ne (Ne.symm nj)] at h1
    exact nj (c.sep j i p false o' o a h1 hi h2 e1)
  · cases e

/-! ### own lists changed -/
theorem Cfg.mut {K : PySem.W.Frag} {F H : Hp} {σ : L2.St} {ρ : Rho} {i : Nat} {p : Bool} {o o' : Own} {a : Addr} {u : HO} (c : Cfg K F H σ ρ) (hi : ρ[i]? = some (.own p o)) (ha : σ[i]? = some (some (.ref a))) (hF : F a = none) (h' : OAt K F (upd H a u) a o') :
    Cfg K F (upd H a u) σ (ρ.set i (.own p o')) ∧ Stp σ ρ F H σ (ρ.set i (.own p o')) F (upd H a u) := by
  have il : i < ρ.length := (List.getElem?_eq_some_iff.mp hi).1
  have back : ∀ {j : Nat} {q : Bool} {w : Own}, (ρ.set i (Slot.own p o'))[j]? = some (Slot.own q w) → ∃ w' : Own, ρ[j]? = some (Slot.own q w') := fun {j q w} h => by
    by_cases z : j = i
    · subst z
      rw [List.getElem?_set_self il] at h
      cases h
      exact ⟨o, hi⟩
    · rw [List.getElem?_set_ne (Ne.symm z)] at h
      exact ⟨w, h⟩
  refine ⟨⟨fun b w k => ?_, by rw [List.length_set]; exact c.len, fun j s h => ?_, fun j k q q' w w' b h1 h2 h3 h4 => ?_⟩, ⟨.refl F, fun b w h n => ?_, fun b h => ?_, fun b h k => absurd h k, fun b h => ?_, fun b h => ?_, fun j w h => ⟨rfl, ?_⟩⟩⟩
  · have nb : b ≠ a := fun e => by
      subst e
      rw [hF] at k
      cases k
    rw [upd_ne nb]
    exact c.ex b w k
  · by_cases z : j = i
    · subst z
      rw [List.getElem?_set_self il] at h
      cases h
      exact ⟨a, ha, hF, h'⟩
    · rw [List.getElem?_set_ne (Ne.symm z)] at h
      have q := c.sl j s h
      cases s with
      | un => trivial
      | val d => exact q
      | own q' w =>
        obtain ⟨b, e1, f1, at1⟩ := q
        have nb : b ≠ a := fun e => z (c.sep j i q' p w o a h hi (by rw [e1, e]) ha)
        exact ⟨b, e1, f1, at1.mono (.refl F) (upd_ne nb)⟩
  · obtain ⟨w1, k1⟩ := back h1
    obtain ⟨w2, k2⟩ := back h2
    exact c.sep j k q q' w1 w2 b k1 k2 h3 h4
  · have nb : b ≠ a := fun e => n ⟨i, p, o, hi, by rw [ha, e]⟩
    rw [upd_ne nb]
    exact h
  · by_cases z : b = a
    · subst z
      rw [upd_same]
      exact fun q => by cases q
    · rw [upd_ne z]
      exact h
  · obtain ⟨j, q, w, h1, h2⟩ := h
    obtain ⟨w1, k1⟩ := back h1
    exact .inl ⟨j, q, w1, k1, h2⟩
  · obtain ⟨j, w, h1, h2⟩ := h
    obtain ⟨w1, k1⟩ := back h1
    exact .inl ⟨j, w1, k1, h2⟩
  · by_cases z : j = i
    · subst z
      rw [hi] at h
      cases h
      exact ⟨o', List.getElem?_set_self il⟩
    · exact ⟨w, by rw [List.getElem?_set_ne (Ne.symm z)]; exact h⟩
/-- a method that changes the name's own list: f of what it holds and the arguments tells the answer and what it holds then -/
def mMut (i : Nat) (f : List D → List D → Option (D × List D)) (ma : MA) : MS := fun ρ => match peek ρ i with
  | some _ => (match ma ρ with
    | some (es, ρ1) => (match ρ1[i]? with
      | some (.own p (.lst ds)) => (match f ds es with
        | some (x, ds') => some (.val x, ρ1.set i (.own p (.lst ds')))
        | none => none)
      | _ => none)
    | none => none)
  | none => none
def MutL (K : PySem.W.Frag) (r : V → List V → Hp → VK → Prop) (f : List D → List D → Option (D × List D)) : Prop := ∀ (F H : Hp) (a : Addr) (xs vs : List V) (ds es : List D) (x : D) (ds' : List D) (Q : VK), Ex F H → H a = some (.lst xs) → RpAll K F xs ds → RpAll K F vs es → f ds es = some (x, ds') →
  (∀ v xs', Rp K F v x → RpAll K F xs' ds' → Q v (upd H a (.lst xs'))) → r (.ref a) vs H Q
/-- what a peeked own list's type is -/
theorem list_ty {K : PySem.W.Frag} {F H : Hp} {σ : L2.St} {ρ : Rho} {i : Nat} (c : Cfg K F H σ ρ) {v : V} (hv : σ[i]? = some (some v)) {d : D} (h : peek ρ i = some d) (hd : lstD d ≠ none) : tyV K "list" v H := by
  obtain ⟨w, e, p⟩ := c.pk h
  rw [hv] at e
  cases e
  cases q : lstD d with
  | none => exact absurd q hd
  | some ds =>
    have q' : itemsD d = some ds := by
      unfold lstD at q
      split at q
      · cases q; rfl
      · cases q; rfl
      · cases q
    have rl : isRl d = true := by
      unfold lstD at q
      split at q
      · rfl
      · rfl
      · cases q
    obtain ⟨a, xs, rfl, _, _, h1, _⟩ := p.seq c.ex q'
    exact .inl ⟨rfl, xs, h1 rl⟩
def isOwnL (ρ : Rho) (i : Nat) : Bool := match ρ[i]? with
  | some (.own _ (.lst _)) => true
  | _ => false
def mMutL (i : Nat) (f : List D → List D → Option (D × List D)) (ma : MA) : MS := fun ρ => if isOwnL ρ i = true then mMut i f ma ρ else none
theorem t_mut {K : PySem.W.Frag} {i : Nat} {r : V → List V → Hp → VK → Prop} {f : List D → List D → Option (D × List D)} {ma : MA} (hr : MutL K r f) (σ : L2.St) (H : Hp) (Q : VK) (h : tS K (mMutL i f ma) σ H Q) : tBM K "list" r (tVar i) (tA K ma) σ H Q := by
  obtain ⟨F, ρ, s, ρ', c, e, k⟩ := h
  unfold mMutL at e
  split at e
  · rename_i hO
    unfold mMut at e
    split at e
    · rename_i d0 h0
      split at e
      · rename_i es ρ1 h1
        split at e
        · rename_i p ds h2
          split at e
          · rename_i x ds' h3
            cases e
            obtain ⟨v, hv, _⟩ := c.pk h0
            refine ⟨v, hv, ?_, ?_⟩
            · refine list_ty c hv h0 ?_
              unfold isOwnL at hO
              unfold peek at h0
              split at hO
              · rename_i hq
                rw [hq] at h0
                cases h0
                exact fun z => by cases z
              · cases hO
            · refine ⟨F, ρ, es, ρ1, c, h1, fun vs F1 H1 c1 s1 r1 => ?_⟩
              obtain ⟨a, e1, f1, xs, ha, ra⟩ := c1.sl i _ h2
              rw [hv] at e1
              cases e1
              refine hr F1 H1 a xs vs ds es x ds' Q c1.ex ha ra r1 h3 fun w xs' rw ra' => ?_
              obtain ⟨c2, s2⟩ := c1.mut (o' := .lst ds') (u := .lst xs') h2 hv f1 ⟨xs', upd_same, ra'⟩
              exact k w F1 _ c2 (s1.trans s2) rw
          · cases e
        · cases e
      · cases e
    · cases e
  · cases e
/-- .. without arguments -/
theorem t_mut0 {K : PySem.W.Frag} {i : Nat} {r : V → List V → Hp → VK → Prop} {f : List D → List D → Option (D × List D)} (hr : MutL K r f) (σ : L2.St) (H : Hp) (Q : VK) (h : tS K (mMutL i f mNil) σ H Q) : tBM0 K "list" r (tVar i) σ H Q := by
  obtain ⟨v, hv, ty, q⟩ := t_mut (K := K) (i := i) (ma := mNil) hr σ H Q h
  obtain ⟨F, ρ, ds, ρ', c, e, k⟩ := q
  cases e
  exact ⟨v, hv, ty, k [] F H c (.refl _ _ _ _) .nil⟩
def appF : List D → List D → Option (D × List D) := fun ds es => match es with
  | [x] => if ds.length < szL then some (.non, ds ++ [x]) else none
  | _ => none
theorem mu_app {K : PySem.W.Frag} : MutL K rAppend appF := by
  intro F H a xs vs ds es x ds' Q ex ha ra rs e k
  unfold appF at e
  split at e
  · split at e
    · rename_i hz
      cases e
      obtain ⟨v, rfl, rv⟩ := rp1 rs
      exact ⟨a, xs, v, rfl, rfl, ha, by rw [szL_eq, ra.length]; exact hz, k _ _ .non (ra.append (.cons rv .nil))⟩
    · cases e
  · cases e
def popF : List D → List D → Option (D × List D) := fun ds es => match es with
  | [] => (match ds[ds.length - 1]? with
    | some x => some (x, ds.dropLast)
    | none => none)
  | _ => none
theorem mu_pop {K : PySem.W.Frag} : MutL K rPop popF := by
  intro F H a xs vs ds es x ds' Q ex ha ra rs e k
  unfold popF at e
  split at e
  · split at e
    · rename_i y hy
      cases e
      cases rs
      rw [← ra.length] at hy
      obtain ⟨v, hv, rv⟩ := ra.get hy
      exact ⟨a, xs, v, rfl, rfl, ha, hv, k _ _ rv ra.dropLast⟩
    · cases e
  · cases e
def popAtF : List D → List D → Option (D × List D) := fun ds es => match es with
  | [.int i] => if (decide (-(2 ^ 63) ≤ i) && decide (i < 2 ^ 63)) = true then (match seqIndex? i ds.length with
    | some k => (match ds[k]? with
      | some x => some (x, ds.eraseIdx k)
      | none => none)
    | none => none) else none
  | _ => none
theorem mu_popAt {K : PySem.W.Frag} : MutL K rPopAt popAtF := by
  intro F H a xs vs ds es x ds' Q ex ha ra rs e k
  unfold popAtF at e
  split at e
  · rename_i i
    split at e
    · rename_i hz
      split at e
      · rename_i j hj
        split at e
        · rename_i y hy
          cases e
          obtain ⟨w, rfl, rw⟩ := rp1 rs
          cases rw
          obtain ⟨v, hv, rv⟩ := ra.get hy
          simp only [Bool.and_eq_true, decide_eq_true_eq] at hz
          exact ⟨a, xs, i, j, v, rfl, rfl, ha, hz.1, hz.2, by rw [ra.length]; exact hj, hv, k _ _ rv (ra.eraseIdx j)⟩
        · cases e
      · cases e
    · cases e
  · cases e
def revF : List D → List D → Option (D × List D) := fun ds es => match es with
  | [] => some (.non, ds.reverse)
  | _ => none
theorem mu_rev {K : PySem.W.Frag} : MutL K rReverse revF := by
  intro F H a xs vs ds es x ds' Q ex ha ra rs e k
  unfold revF at e
  split at e
  · cases e
    cases rs
    exact ⟨a, xs, rfl, rfl, ha, k _ _ .non ra.reverse⟩
  · cases e
def clearF : List D → List D → Option (D × List D) := fun ds es => match es with
  | [] => some (.non, [])
  | _ => none
theorem mu_clear {K : PySem.W.Frag} : MutL K rClear clearF := by
  intro F H a xs vs ds es x ds' Q ex ha ra rs e k
  unfold clearF at e
  split at e
  · cases e
    cases rs
    exact ⟨a, xs, rfl, rfl, ha, k _ _ .non .nil⟩
  · cases e
def extF : List D → List D → Option (D × List D) := fun ds es => match es with
  | [.lst zs] => if ds.length + zs.length ≤ szL then some (.non, ds ++ zs) else none
  | _ => none
theorem mu_ext {K : PySem.W.Frag} : MutL K rExtend extF := by
  intro F H a xs vs ds es x ds' Q ex ha ra rs e k
  unfold extF at e
  split at e
  · split at e
    · rename_i zs hz
      cases e
      obtain ⟨w, rfl, rw⟩ := rp1 rs
      cases rw with
      | lst h1 h2 =>
        exact ⟨a, _, xs, _, rfl, rfl, ha, ex _ _ h1, by rw [szL_eq, ra.length, h2.length]; exact hz, k _ _ .non (ra.append h2)⟩
    · cases e
  · cases e
section
variable {X : Cx} {x : Str} {pos' apos cpos : Pos} {e : Expr} {ma : MA}
theorem xs_append (i : Nat) (ha : XA X [e] ma) (hN : X.N[i]? = some x := by rfl) (hv : Vis X.env.scope x := by first | exact Or.inl rfl | exact Or.inr (Or.inl rfl) | exact Or.inr (Or.inr rfl)) (hd : (x == ("__debug__" : Str)) = false := by decide) (hcd : (x == ("__classdict__" : Str)) = false := by decide)
    (hbase : attributeBase (.Name x pos') "append" X.env (eval (.Name x pos') X.env) = eval (.Name x pos') X.env := by rfl)
    (hfew : ((backTo cpos (starEach [e] X.env)).all (fun x => !x.1) && (backToKw cpos (keywordEach [] X.env)).all (fun x => x.1.isSome)
      && decide ([e].length + ([] : List Keyword).length + (if ([] : List Keyword).isEmpty then 0 else 1) < 30)) = true := by rfl)
    (hline : (apos.endLine == cpos.line) = true := by rfl) (hs : starEach [e] X.env = (false, eval e X.env) :: starEach [] X.env := by rfl) (hplain : (backTo cpos (starEach [] X.env)).any (·.1) = false := by rfl) :
    XS X (.Call (.Attribute (.Name x pos') "append" apos) [e] [] cpos) (mMutL i appF ma) :=
  ⟨pe_imp (pe_bm PySem.F.plainAttrs_list PySem.F.slot_list_append PySem.F.type_list_append mt_append (pv i hN hv hd hcd) ha.pa hbase hfew hline hs hplain) (t_mut mu_app)⟩
theorem xs_extend (i : Nat) (ha : XA X [e] ma) (hN : X.N[i]? = some x := by rfl) (hv : Vis X.env.scope x := by first | exact Or.inl rfl | exact Or.inr (Or.inl rfl) | exact Or.inr (Or.inr rfl)) (hd : (x == ("__debug__" : Str)) = false := by decide) (hcd : (x == ("__classdict__" : Str)) = false := by decide)
    (hbase : attributeBase (.Name x pos') "extend" X.env (eval (.Name x pos') X.env) = eval (.Name x pos') X.env := by rfl)
    (hfew : ((backTo cpos (starEach [e] X.env)).all (fun x => !x.1) && (backToKw cpos (keywordEach [] X.env)).all (fun x => x.1.isSome)
      && decide ([e].length + ([] : List Keyword).length + (if ([] : List Keyword).isEmpty then 0 else 1) < 30)) = true := by rfl)
    (hline : (apos.endLine == cpos.line) = true := by rfl) (hs : starEach [e] X.env = (false, eval e X.env) :: starEach [] X.env := by rfl) (hplain : (backTo cpos (starEach [] X.env)).any (·.1) = false := by rfl) :
    XS X (.Call (.Attribute (.Name x pos') "extend" apos) [e] [] cpos) (mMutL i extF ma) :=
  ⟨pe_imp (pe_bm PySem.F.plainAttrs_list PySem.F.slot_list_extend PySem.F.type_list_extend mt_extend (pv i hN hv hd hcd) ha.pa hbase hfew hline hs hplain) (t_mut mu_ext)⟩
theorem xs_popAt (i : Nat) (ha : XA X [e] ma) (hN : X.N[i]? = some x := by rfl) (hv : Vis X.env.scope x := by first | exact Or.inl rfl | exact Or.inr (Or.inl rfl) | exact Or.inr (Or.inr rfl)) (hd : (x == ("__debug__" : Str)) = false := by decide) (hcd : (x == ("__classdict__" : Str)) = false := by decide)
    (hbase : attributeBase (.Name x pos') "pop" X.env (eval (.Name x pos') X.env) = eval (.Name x pos') X.env := by rfl)
    (hfew : ((backTo cpos (starEach [e] X.env)).all (fun x => !x.1) && (backToKw cpos (keywordEach [] X.env)).all (fun x => x.1.isSome)
      && decide ([e].length + ([] : List Keyword).length + (if ([] : List Keyword).isEmpty then 0 else 1) < 30)) = true := by rfl)
    (hline : (apos.endLine == cpos.line) = true := by rfl) (hs : starEach [e] X.env = (false, eval e X.env) :: starEach [] X.env := by rfl) (hplain : (backTo cpos (starEach [] X.env)).any (·.1) = false := by rfl) :
    XS X (.Call (.Attribute (.Name x pos') "pop" apos) [e] [] cpos) (mMutL i popAtF ma) :=
  ⟨pe_imp (pe_bm PySem.F.plainAttrs_list PySem.F.slot_list_pop PySem.F.type_list_pop mt_popAt (pv i hN hv hd hcd) ha.pa hbase hfew hline hs hplain) (t_mut mu_popAt)⟩
theorem xs_pop (i : Nat) (hN : X.N[i]? = some x := by rfl) (hv : Vis X.env.scope x := by first | exact Or.inl rfl | exact Or.inr (Or.inl rfl) | exact Or.inr (Or.inr rfl)) (hd : (x == ("__debug__" : Str)) = false := by decide) (hcd : (x == ("__classdict__" : Str)) = false := by decide)
    (hbase : attributeBase (.Name x pos') "pop" X.env (eval (.Name x pos') X.env) = eval (.Name x pos') X.env := by rfl) (hline : (apos.endLine == cpos.line) = true := by rfl) :
    XS X (.Call (.Attribute (.Name x pos') "pop" apos) [] [] cpos) (mMutL i popF mNil) :=
  ⟨pe_imp (pe_bm0 PySem.F.plainAttrs_list PySem.F.slot_list_pop PySem.F.type_list_pop mt_pop (pv i hN hv hd hcd) hbase hline) (t_mut0 mu_pop)⟩
theorem xs_reverse (i : Nat) (hN : X.N[i]? = some x := by rfl) (hv : Vis X.env.scope x := by first | exact Or.inl rfl | exact Or.inr (Or.inl rfl) | exact Or.inr (Or.inr rfl)) (hd : (x == ("__debug__" : Str)) = false := by decide) (hcd : (x == ("__classdict__" : Str)) = false := by decide)
    (hbase : attributeBase (.Name x pos') "reverse" X.env (eval (.Name x pos') X.env) = eval (.Name x pos') X.env := by rfl) (hline : (apos.endLine == cpos.line) = true := by rfl) :
    XS X (.Call (.Attribute (.Name x pos') "reverse" apos) [] [] cpos) (mMutL i revF mNil) :=
  ⟨pe_imp (pe_bm0 PySem.F.plainAttrs_list PySem.F.slot_list_reverse PySem.F.type_list_reverse mt_reverse (pv i hN hv hd hcd) hbase hline) (t_mut0 mu_rev)⟩
theorem xs_clearL (i : Nat) (hN : X.N[i]? = some x := by rfl) (hv : Vis X.env.scope x := by first | exact Or.inl rfl | exact Or.inr (Or.inl rfl) | exact Or.inr (Or.inr rfl)) (hd : (x == ("__debug__" : Str)) = false := by decide) (hcd : (x == ("__classdict__" : Str)) = false := by decide)
    (hbase : attributeBase (.Name x pos') "clear" X.env (eval (.Name x pos') X.env) = eval (.Name x pos') X.env := by rfl) (hline : (apos.endLine == cpos.line) = true := by rfl) :
    XS X (.Call (.Attribute (.Name x pos') "clear" apos) [] [] cpos) (mMutL i clearF mNil) :=
  ⟨pe_imp (pe_bm0 PySem.F.plainAttrs_list PySem.F.slot_list_clear PySem.F.type_list_clear mt_clear (pv i hN hv hd hcd) hbase hline) (t_mut0 mu_clear)⟩
/-- name[e] = v, the name's own list -/
def mSetIx (i : Nat) (m mi : ME) : MSt := fun ρ => match m ρ with
  | some (y, ρ1) => (match peek ρ1 i with
    | some _ => (match mi ρ1 with
      | some (.int k, ρ2) => (match ρ2[i]? with
        | some (.own p (.lst ds)) => (match ixN ds.length k with
          | some j => some (.nx, ρ2.set i (.own p (.lst (ds.set j y))))
          | none => none)
        | _ => none)
      | _ => none)
    | none => none)
  | none => none
theorem xp_setIx (i : Nat) {ie : Expr} {pos spos : Pos} {m mi : ME} (he : XD X e m) (hi : XD X ie mi) (hN : X.N[i]? = some x := by rfl) (hv : Vis X.env.scope x := by first | exact Or.inl rfl | exact Or.inr (Or.inl rfl) | exact Or.inr (Or.inr rfl)) (hd : (x == ("__debug__" : Str)) = false := by decide) (hcd : (x == ("__classdict__" : Str)) = false := by decide)
    (ha : ∀ v, assign (.Subscript (.Name x pos') ie spos) X.env v = (do
      let ov ← holding [v] (eval (.Name x pos') X.env)
      let iv ← holding [v, ov] (eval ie X.env)
      standAt spos
      holding [v, ov, iv] (setItem ov iv v)
      release [v, ov, iv] []) := by intro _; rfl)
    (hs : swapsWithSole [.Subscript (.Name x pos') ie spos] e pos.line X.env = pure false := by rfl) (hw : swappedStores [.Subscript (.Name x pos') ie spos] e X.env = pure none := by rfl)
    (h1 : (assignEach [.Subscript (.Name x pos') ie spos] X.env).map (·.2) = [assign (.Subscript (.Name x pos') ie spos) X.env] := by rfl) :
    XP X (.Assign [.Subscript (.Name x pos') ie spos] e pos) (mSetIx i m mi) := ⟨ps_imp (ps_asg he.pe (pg_sub (pv i hN hv hd hcd) hi.pe set_list ha) hs hw h1) fun E σ H h => by
  obtain ⟨F, ρ, o, ρ', c, e, k⟩ := h
  unfold mSetIx at e
  split at e
  · rename_i y ρ1 h1
    split at e
    · rename_i d0 h0
      split at e
      · rename_i kx ρ2 h2
        split at e
        · rename_i p ds h3
          split at e
          · rename_i j hj
            cases e
            refine ⟨F, ρ, y, ρ1, c, h1, fun v F1 H1 c1 s1 r1 => ?_⟩
            obtain ⟨w, hw, _⟩ := c1.pk h0
            refine ⟨w, hw, ?_⟩
            refine ⟨F1, ρ1, _, ρ2, c1, h2, fun u F2 H2 c2 s2 r2 => ?_⟩
            cases r2
            obtain ⟨a, e1, f1, xs, ha, ra⟩ := c2.sl i _ h3
            rw [hw] at e1
            cases e1
            refine ⟨a, xs, kx, j, rfl, rfl, ha, by rw [ra.length]; exact hj, ?_⟩
            obtain ⟨c3, s3⟩ := c2.mut (o' := .lst (ds.set j y)) (u := .lst (xs.set j v)) h3 hw f1 ⟨_, upd_same, (ra.set (r1.ex s2.exF) j)⟩
            exact k _ F2 _ c3 ((s1.trans s2).trans s3)
          · cases e
        · cases e
      · cases e
    · cases e
  · cases e⟩
end
end Mr

set_option Elab.async false
set_option linter.all false
set_option maxRecDepth 100000
set_option maxHeartbeats 2000000
/-! Mir5: calls of defs, promises, loops, comprehensions by mirrors. -/
namespace Mr
open PySem PySem.Spec PyProof.Rows L2

/-! ### a def's promise -/
abbrev Fn := List Slot → Option (Slot × List Slot)
def pinned (ρ : Rho) : Prop := ∀ (i : Nat) o, ρ[i]? ≠ some (.own false o)
def spM (K : PySem.W.Frag) (n : Nat) (f : Fn) : Sp := fun vs H Q _ => vs.length = n ∧ ∃ F ρ s ρ', ρ.length = n ∧ pinned ρ ∧ Cfg K F H (vs.map some) ρ ∧ f ρ = some (s, ρ') ∧
  ∀ v F' H', Cfg K F' H' (vs.map some) ρ' → Stp (vs.map some) ρ F H (vs.map some) ρ' F' H' → VOk K (vs.map some) ρ H (vs.map some) ρ' F' H' v s → Q v H'
theorem spM_len {K : PySem.W.Frag} {n : Nat} {f : Fn} {ps : List Str} (h : n = ps.length) (vs : List V) (H : Hp) (Q : VK) (E : XK) (q : spM K n f vs H Q E) : vs.length = ps.length := q.1.trans h
/-- the arguments behind the body: what the caller gave to be changed, as it is then; all else as it was -/
def merge : List Slot → Rho → List Slot
  | [], _ => []
  | .own p o :: as, [] => .own p o :: merge as []
  | .own _ _ :: as, s :: ρ => s :: merge as ρ
  | a :: as, [] => a :: merge as []
  | a :: as, _ :: ρ => a :: merge as ρ
def mFn (N n : Nat) (b : MSt) : Fn := fun as => if as.length = n then (match b (as ++ List.replicate (N - n) .un) with
  | some (.ret s, ρ) => some (s, merge as ρ)
  | some (.nx, ρ) => some (.val .non, merge as ρ)
  | _ => none) else none
theorem merge_length : ∀ (as : List Slot) (ρ : Rho), (merge as ρ).length = as.length
  | [], _ => rfl
  | .own p o :: as, [] => congrArg (· + 1) (merge_length as [])
  | .own _ _ :: as, s :: ρ => congrArg (· + 1) (merge_length as ρ)
  | .un :: as, [] => congrArg (· + 1) (merge_length as [])
  | .val _ :: as, [] => congrArg (· + 1) (merge_length as [])
  | .un :: as, _ :: ρ => congrArg (· + 1) (merge_length as ρ)
  | .val _ :: as, _ :: ρ => congrArg (· + 1) (merge_length as ρ)
def mergeAt (ρ : Rho) (i : Nat) : Slot → Slot
  | .own p o => (ρ[i]?).getD (.own p o)
  | x => x
theorem merge_get : ∀ (as : List Slot) (ρ : Rho) (i : Nat), (merge as ρ)[i]? = (as[i]?).map (mergeAt ρ i)
  | [], _, _ => by simp [merge]
  | .own p o :: as, [], 0 => by simp [merge, mergeAt]
  | .own p o :: as, s :: ρ, 0 => by simp [merge, mergeAt]
  | .un :: as, [], 0 => by simp [merge, mergeAt]
  | .un :: as, s :: ρ, 0 => by simp [merge, mergeAt]
  | .val d :: as, [], 0 => by simp [merge, mergeAt]
  | .val d :: as, s :: ρ, 0 => by simp [merge, mergeAt]
  | .own p o :: as, [], i + 1 => by
    have q := merge_get as [] i
    have e : ∀ x, mergeAt [] (i + 1) x = mergeAt [] i x := fun x => by cases x <;> simp [mergeAt]
    simp only [merge, List.getElem?_cons_succ, q]
    congr 1
  | .own p o :: as, s :: ρ, i + 1 => by
    have q := merge_get as ρ i
    have e : ∀ x, mergeAt (s :: ρ) (i + 1) x = mergeAt ρ i x := fun x => by cases x <;> simp [mergeAt]
    simp only [merge, List.getElem?_cons_succ, q]
    congr 1
  | .un :: as, [], i + 1 => by
    have q := merge_get as [] i
    simp only [merge, List.getElem?_cons_succ, q]
    congr 1
  | .un :: as, s :: ρ, i + 1 => by
    have q := merge_get as ρ i
    simp only [merge, List.getElem?_cons_succ, q]
    congr 1
  | .val d :: as, [], i + 1 => by
    have q := merge_get as [] i
    simp only [merge, List.getElem?_cons_succ, q]
    congr 1
  | .val d :: as, s :: ρ, i + 1 => by
    have q := merge_get as ρ i
    simp only [merge, List.getElem?_cons_succ, q]
    congr 1
section
variable {K : PySem.W.Frag} {F F' H H' : Hp} {vs : List V} {as ρe : Rho} {k : Nat} {σ' : L2.St}
theorem start_get {N : List Str} {vs : List V} {i : Nat} (hi : i < vs.length) : (L2.start N vs)[i]? = (vs.map some)[i]? := by
  unfold L2.start
  rw [List.getElem?_append_left (by simpa using hi)]
theorem pad_get {as : Rho} {i : Nat} {s : Slot} (h : as[i]? = some s) : (as ++ List.replicate k Slot.un)[i]? = some s := by
  rw [List.getElem?_append_left (List.getElem?_eq_some_iff.mp h).1]
  exact h
theorem pad_own {as : Rho} {i : Nat} {p : Bool} {o : Own} (h : (as ++ List.replicate k Slot.un)[i]? = some (.own p o)) : as[i]? = some (.own p o) := by
  by_cases hi : i < as.length
  · rw [List.getElem?_append_left hi] at h
    exact h
  · rw [List.getElem?_append_right (by omega), List.getElem?_replicate] at h
    split at h <;> cases h
/-- the entry -/
theorem Cfg.enter {N : List Str} (hN : vs.length + k = N.length) (hl : as.length = vs.length) (c : Cfg K F H (vs.map some) as) : Cfg K F H (L2.start N vs) (as ++ List.replicate k .un) := by
  refine ⟨c.ex, ?_, fun i s h => ?_, fun i j p q o u a h1 h2 h3 h4 => ?_⟩
  · unfold L2.start
    simp only [List.length_append, List.length_replicate, List.length_map]
    omega
  · by_cases hi : i < as.length
    · rw [List.getElem?_append_left hi] at h
      rw [start_get (by omega)]
      exact c.sl i s h
    · rw [List.getElem?_append_right (by omega), List.getElem?_replicate] at h
      split at h
      · cases h
        trivial
      · cases h
  · have k1 := pad_own h1
    have k2 := pad_own h2
    have l1 := (List.getElem?_eq_some_iff.mp k1).1
    have l2 := (List.getElem?_eq_some_iff.mp k2).1
    rw [start_get (by omega)] at h3 h4
    exact c.sep i j p q o u a k1 k2 h3 h4
theorem owns_enter {N : List Str} (hl : as.length = vs.length) {a : Addr} : Owns (L2.start N vs) (as ++ List.replicate k .un) a ↔ Owns (vs.map some) as a := by
  constructor
  · rintro ⟨i, p, o, h1, h2⟩
    have k1 := pad_own h1
    have l1 := (List.getElem?_eq_some_iff.mp k1).1
    rw [start_get (by omega)] at h2
    exact ⟨i, p, o, k1, h2⟩
  · rintro ⟨i, p, o, h1, h2⟩
    have l1 := (List.getElem?_eq_some_iff.mp h1).1
    exact ⟨i, p, o, pad_get h1, by rw [start_get (by omega)]; exact h2⟩
/-- the end -/
theorem leave_ok {N : List Str} {s : Slot} (hN : vs.length + k = N.length) (hl : as.length = vs.length) (pn : pinned as) (c : Cfg K F H (vs.map some) as) (ce : Cfg K F' H' σ' ρe) (st : Stp (L2.start N vs) (as ++ List.replicate k .un) F H σ' ρe F' H') :
    Cfg K F' H' (vs.map some) (merge as ρe) ∧ Stp (vs.map some) as F H (vs.map some) (merge as ρe) F' H' ∧
      ∀ v, VOk K (L2.start N vs) (as ++ List.replicate k .un) H σ' ρe F' H' v s → VOk K (vs.map some) as H (vs.map some) (merge as ρe) F' H' v s := by
  -- what stands at a pinned place behind the body
  have at_ : ∀ (i : Nat) o, as[i]? = some (.own true o) → ∃ o', (merge as ρe)[i]? = some (.own true o') ∧ ρe[i]? = some (.own true o') ∧ σ'[i]? = (vs.map some)[i]? := fun i o h => by
    obtain ⟨e1, o', h1⟩ := st.pin i o (pad_get h)
    have la := (List.getElem?_eq_some_iff.mp h).1
    rw [start_get (by omega)] at e1
    refine ⟨o', ?_, h1, e1⟩
    rw [merge_get, h]
    show some ((ρe[i]?).getD (.own true o)) = _
    rw [h1]
    rfl
  have ownM : ∀ (i : Nat) p o, (merge as ρe)[i]? = some (.own p o) → p = true ∧ ρe[i]? = some (.own true o) ∧ σ'[i]? = (vs.map some)[i]? ∧ ∃ o', as[i]? = some (.own true o') := fun i p o h => by
    cases e : as[i]? with
    | none =>
      rw [merge_get, e] at h
      cases h
    | some a =>
      cases a with
      | own q u =>
        cases q with
        | false => exact absurd e (pn i u)
        | true =>
          obtain ⟨o', h1, h2, h3⟩ := at_ i u e
          rw [h] at h1
          cases h1
          exact ⟨rfl, h2, h3, u, rfl⟩
      | un =>
        rw [merge_get, e] at h
        cases h
      | val d =>
        rw [merge_get, e] at h
        cases h
  have ownsM : ∀ a, Owns (vs.map some) (merge as ρe) a → Owns σ' ρe a ∧ Owns (vs.map some) as a := fun a ⟨i, p, o, h1, h2⟩ => by
    obtain ⟨_, h3, h4, o', h5⟩ := ownM i p o h1
    exact ⟨⟨i, _, o, h3, h4.trans h2⟩, ⟨i, _, o', h5, h2⟩⟩
  have noU : ∀ a, ¬ OwnsU (L2.start N vs) (as ++ List.replicate k .un) a := fun a ⟨i, o, h1, _⟩ => pn i o (pad_own h1)
  refine ⟨⟨ce.ex, by rw [merge_length]; exact c.len, fun i s h => ?_, fun i j p q o u a h1 h2 h3 h4 => ?_⟩, ⟨st.exF, fun a o h n => st.fr a o h fun z => n ((owns_enter hl).mp z), st.th, fun a h h' => (st.nF a h h').imp_right (owns_enter hl).mp, fun a h => .inl (ownsM a h).2, fun a h => ?_, fun i o h => ?_⟩, fun v h => ?_⟩
  · cases e : as[i]? with
    | none =>
      rw [merge_get, e] at h
      cases h
    | some a =>
      cases a with
      | own q u =>
        cases q with
        | false => exact absurd e (pn i u)
        | true =>
          obtain ⟨o', h1, h2, h3⟩ := at_ i u e
          rw [h] at h1
          cases h1
          rw [← h3]
          exact ce.sl i _ h2
      | un =>
        rw [merge_get, e] at h
        cases h
        trivial
      | val d =>
        rw [merge_get, e] at h
        cases h
        obtain ⟨v, e1, r⟩ := c.sl i _ e
        exact ⟨v, e1, r.ex st.exF⟩
  · obtain ⟨_, _, _, o1, k1⟩ := ownM i p o h1
    obtain ⟨_, _, _, o2, k2⟩ := ownM j q u h2
    exact c.sep i j _ _ o1 o2 a k1 k2 h3 h4
  · obtain ⟨i, o, h1, _⟩ := h
    obtain ⟨z, _⟩ := ownM i _ o h1
    cases z
  · obtain ⟨o', h1, _, _⟩ := at_ i o h
    exact ⟨rfl, o', h1⟩
  · cases s with
    | un => exact h
    | val d => exact h
    | own p o =>
      obtain ⟨z1, a, z2, z3, z4, z5, z6⟩ := h
      exact ⟨z1, a, z2, z3, .inl (z4.resolve_right (noU a)), fun z => z5 (ownsM a z).1, z6⟩
end
theorem fn_ok {P : Program} {w : World} {K : PySem.W.Frag} {mg : Str → Option Value} {base : Heap} {x qual : Str} {st : Stmt} {f : Addr} {fd : FuncData} {N ps : List Str} {k n : Nat} {b : MSt} (F : Fun K x qual st f fd) (S : FnScope N ps (defScope st)) (hn : ps.length = n) (hN : n ≤ N.length)
    (hbody : ∀ (cdv : Value) (A : Around) (outer : List Env) (s : Shared) (H : Hp) (E : XK), Room k (A.deeper (envOfC qual (defScope st) s.heap.objs.size f cdv)) →
      XPs (cxOf CX0 P w K mg base N qual (defScope st) f cdv A outer s H E).nox (defBody st) b) : FnOk P w K mg base CX0 (k + 1) f fd ps (spM K n (mFn N.length n b)) := by
  refine F.ok S (spM_len hn.symm) fun cdv A outer s H vs Q E hr h => ⟨tSt K b, (hbody cdv A outer s H E hr).pss, ?_⟩
  obtain ⟨hv, F0, ρ, sl, ρ', hl, pn, c, e, q⟩ := h
  unfold mFn at e
  rw [if_pos hl] at e
  have hN' : vs.length + (N.length - n) = N.length := by omega
  have c0 := c.enter hN' (by omega)
  cases eb : b (ρ ++ List.replicate (N.length - n) .un) with
  | none =>
    rw [eb] at e
    cases e
  | some z =>
    obtain ⟨o, ρe⟩ := z
    rw [eb] at e
    refine ⟨F0, _, o, ρe, c0, eb, fun σ' F' H' ce s1 => ?_⟩
    cases o with
    | nx =>
      cases e
      obtain ⟨l1, l2, l3⟩ := leave_ok (s := .val .non) hN' (by omega) pn c ce s1
      exact q .non F' H' l1 l2 (l3 .non .non)
    | ret s0 =>
      cases e
      obtain ⟨l1, l2, l3⟩ := leave_ok (s := sl) hN' (by omega) pn c ce s1
      exact fun v hv => q v F' H' l1 l2 (l3 v hv)
    | bk => cases e
    | ct => cases e

/-! ### a call -/
/-- an argument: data, or a name's own object, lent -/
inductive ArgV where
  | d (d : D) | br (i : Nat)
abbrev MAB := Rho → Option (List ArgV × Rho)
def argOk (K : PySem.W.Frag) (F : Hp) (σ : L2.St) (v : V) : ArgV → Prop
  | .d d => Rp K F v d
  | .br i => σ[i]? = some (some v)
inductive ArgsOk (K : PySem.W.Frag) (F : Hp) (σ : L2.St) : List V → List ArgV → Prop
  | nil : ArgsOk K F σ [] []
  | cons {v : V} {vs : List V} {a : ArgV} {as : List ArgV} : argOk K F σ v a → ArgsOk K F σ vs as → ArgsOk K F σ (v :: vs) (a :: as)
theorem ArgsOk.ex {K : PySem.W.Frag} {F F' : Hp} {σ : L2.St} (e : Ex F F') : ∀ {vs : List V} {as : List ArgV}, ArgsOk K F σ vs as → ArgsOk K F' σ vs as
  | _, _, .nil => .nil
  | _, _, .cons (a := .d d) h t => .cons (a := .d d) (Rp.ex h e) (ArgsOk.ex e t)
  | _, _, .cons (a := .br i) h t => .cons (a := .br i) h (ArgsOk.ex e t)
theorem ArgsOk.length {K : PySem.W.Frag} {F : Hp} {σ : L2.St} : ∀ {vs : List V} {as : List ArgV}, ArgsOk K F σ vs as → vs.length = as.length
  | _, _, .nil => rfl
  | _, _, .cons _ t => congrArg (· + 1) (ArgsOk.length t)
theorem ArgsOk.get {K : PySem.W.Frag} {F : Hp} {σ : L2.St} : ∀ {vs : List V} {as : List ArgV} {i : Nat} {a : ArgV}, ArgsOk K F σ vs as → as[i]? = some a → ∃ v, vs[i]? = some v ∧ argOk K F σ v a
  | _, _, _, _, .nil, e => by simp at e
  | _, _, 0, _, .cons h _, e => by simp at e; subst e; exact ⟨_, rfl, h⟩
  | _, _, i + 1, a, .cons _ t, e => by
    obtain ⟨v, h1, h2⟩ := ArgsOk.get (i := i) (a := a) t (by simpa using e)
    exact ⟨v, by simpa using h1, h2⟩
def tAB (K : PySem.W.Frag) (m : MAB) : TA := fun σ H Q => ∃ F ρ as ρ', Cfg K F H σ ρ ∧ m ρ = some (as, ρ') ∧ ∀ vs F' H', Cfg K F' H' σ ρ' → Stp σ ρ F H σ ρ' F' H' → ArgsOk K F' σ vs as → Q vs H'
structure XAB (X : Cx) (es : List Expr) (m : MAB) : Prop where pa : PA X es (tAB X.K m)
def mbNil : MAB := fun ρ => some ([], ρ)
def mbD (m : ME) (r : MAB) : MAB := fun ρ => match m ρ with
  | some (x, ρ1) => (match r ρ1 with
    | some (xs, ρ2) => some (.d x :: xs, ρ2)
    | none => none)
  | none => none
def mbR (i : Nat) (r : MAB) : MAB := fun ρ => match peek ρ i with
  | some _ => (match r ρ with
    | some (xs, ρ2) => some (.br i :: xs, ρ2)
    | none => none)
  | none => none
section
variable {X : Cx} {e : Expr} {es : List Expr} {m : ME} {r : MAB}
theorem xab_nil : XAB X [] mbNil := ⟨pa_imp pa_nil fun σ H Q h => by
  obtain ⟨F, ρ, ds, ρ', c, e, k⟩ := h
  cases e
  exact k _ F H c (.refl _ _ _ _) .nil⟩
theorem xab_d (h : XD X e m) (hr : XAB X es r) (hs : starEach (e :: es) X.env = (false, eval e X.env) :: starEach es X.env := by rfl) : XAB X (e :: es) (mbD m r) := ⟨pa_imp (pa_cons h.pe hr.pa hs) fun σ H Q h => by
  obtain ⟨F, ρ, ds, ρ', c, e, k⟩ := h
  unfold mbD at e
  split at e
  · rename_i x ρ1 h1
    split at e
    · rename_i xs ρ2 h2
      cases e
      refine ⟨F, ρ, x, ρ1, c, h1, fun v F1 H1 c1 s1 r1 => ?_⟩
      refine ⟨F1, ρ1, xs, _, c1, h2, fun vs F2 H2 c2 s2 r2 => ?_⟩
      exact k _ F2 H2 c2 (s1.trans s2) (.cons (a := .d x) (r1.ex s2.exF) r2)
    · cases e
  · cases e⟩
theorem xab_r (i : Nat) {x : Str} {pos : Pos} (hr : XAB X es r) (hN : X.N[i]? = some x := by rfl) (hv : Vis X.env.scope x := by first | exact Or.inl rfl | exact Or.inr (Or.inl rfl) | exact Or.inr (Or.inr rfl)) (hd : (x == ("__debug__" : Str)) = false := by decide)
    (hcd : (x == ("__classdict__" : Str)) = false := by decide) (hs : starEach (.Name x pos :: es) X.env = (false, eval (.Name x pos) X.env) :: starEach es X.env := by rfl) : XAB X (.Name x pos :: es) (mbR i r) := ⟨pa_imp (pa_cons (pv i hN hv hd hcd) hr.pa hs) fun σ H Q h => by
  obtain ⟨F, ρ, ds, ρ', c, e, k⟩ := h
  unfold mbR at e
  split at e
  · rename_i x h0
    split at e
    · rename_i xs ρ2 h2
      cases e
      obtain ⟨v, hv, _⟩ := c.pk h0
      refine ⟨v, hv, ?_⟩
      exact ⟨F, ρ, xs, _, c, h2, fun vs F2 H2 c2 s2 r2 => k _ F2 H2 c2 s2 (.cons (a := .br i) hv r2)⟩
    · cases e
  · cases e⟩
end
/-- what the callee finds at its parameters -/
def slotOf (ρ : Rho) : ArgV → Option Slot
  | .d d => some (.val d)
  | .br i => (match ρ[i]? with
    | some (.val d) => some (.val d)
    | some (.own _ o) => some (.own true o)
    | _ => none)
def slotsOf (ρ : Rho) : List ArgV → Option (List Slot)
  | [] => some []
  | a :: as => (match slotOf ρ a with
    | some s => (match slotsOf ρ as with
      | some ss => some (s :: ss)
      | none => none)
    | none => none)
theorem slotsOf_get {ρ : Rho} : ∀ {as : List ArgV} {ss : List Slot}, slotsOf ρ as = some ss → as.length = ss.length ∧ ∀ (i : Nat) a, as[i]? = some a → ∃ s, ss[i]? = some s ∧ slotOf ρ a = some s
  | [], ss, h => by
    cases h
    exact ⟨rfl, fun i a h => by simp at h⟩
  | a :: as, ss, h => by
    unfold slotsOf at h
    split at h
    · rename_i s hs
      split at h
      · rename_i ss' hss
        cases h
        obtain ⟨l, g⟩ := slotsOf_get hss
        refine ⟨by simp [l], fun i a' h => ?_⟩
        cases i with
        | zero => simp at h; subst h; exact ⟨s, by simp, hs⟩
        | succ i => simpa using g i a' (by simpa using h)
      · cases h
    · cases h
/-- the places of own objects that are lent -/
def lent (ρ : Rho) : List ArgV → List Nat
  | [] => []
  | .d _ :: as => lent ρ as
  | .br i :: as => (match ρ[i]? with
    | some (.own _ _) => i :: lent ρ as
    | _ => lent ρ as)
theorem mem_lent {ρ : Rho} {j : Nat} {p : Bool} {o : Own} (hj : ρ[j]? = some (.own p o)) : ∀ {as : List ArgV} {i : Nat}, as[i]? = some (.br j) → j ∈ lent ρ as
  | [], i, h => by simp at h
  | .d _ :: as, 0, h => by simp at h
  | .d _ :: as, i + 1, h => by
    unfold lent
    exact mem_lent hj (i := i) (by simpa using h)
  | .br k :: as, 0, h => by
    simp at h
    subst h
    unfold lent
    rw [hj]
    exact List.mem_cons_self
  | .br k :: as, i + 1, h => by
    have q := mem_lent hj (as := as) (i := i) (by simpa using h)
    unfold lent
    split
    · exact List.mem_cons_of_mem _ q
    · exact q
theorem lent_inj {ρ : Rho} {j : Nat} {p : Bool} {o : Own} (hj : ρ[j]? = some (.own p o)) : ∀ {as : List ArgV} {i k : Nat}, (lent ρ as).Nodup → as[i]? = some (.br j) → as[k]? = some (.br j) → i = k
  | [], i, _, _, h, _ => by simp at h
  | .d _ :: as, 0, _, _, h, _ => by simp at h
  | .d _ :: as, _ + 1, 0, _, _, h => by simp at h
  | .d _ :: as, i + 1, k + 1, nd, h, h' => by
    unfold lent at nd
    exact congrArg (· + 1) (lent_inj hj nd (by simpa using h) (by simpa using h'))
  | .br z :: as, 0, 0, _, _, _ => rfl
  | .br z :: as, 0, k + 1, nd, h, h' => by
    simp at h
    subst h
    unfold lent at nd
    rw [hj] at nd
    exact absurd (mem_lent hj (i := k) (by simpa using h')) (List.nodup_cons.mp nd).1
  | .br z :: as, i + 1, 0, nd, h, h' => by
    simp at h'
    subst h'
    unfold lent at nd
    rw [hj] at nd
    exact absurd (mem_lent hj (i := i) (by simpa using h)) (List.nodup_cons.mp nd).1
  | .br z :: as, i + 1, k + 1, nd, h, h' => by
    unfold lent at nd
    refine congrArg (· + 1) (lent_inj hj ?_ (by simpa using h) (by simpa using h'))
    split at nd
    · exact (List.nodup_cons.mp nd).2
    · exact nd
/-- what a lent object is behind the call -/
def back (j : Nat) : List ArgV → List Slot → Own → Own
  | .br i :: as, .own p u :: ss, o => if i = j then u else back j as ss o
  | _ :: as, _ :: ss, o => back j as ss o
  | _, _, o => o
theorem back_spec {j : Nat} : ∀ (as : List ArgV) (ss : List Slot) (o : Own), (∃ (i : Nat) (p : Bool), as[i]? = some (.br j) ∧ ss[i]? = some (.own p (back j as ss o))) ∨ (back j as ss o = o ∧ ∀ (i : Nat) p u, as[i]? = some (.br j) → ss[i]? ≠ some (.own p u))
  | [], ss, o => .inr ⟨by simp [back], fun i p u h => by simp at h⟩
  | a :: as, [], o => .inr ⟨by cases a <;> simp [back], fun i p u _ => by simp⟩
  | .br i :: as, .own p u :: ss, o => by
    by_cases z : i = j
    · subst z
      exact .inl ⟨0, p, by simp, by simp [back]⟩
    · have e : back j (.br i :: as) (.own p u :: ss) o = back j as ss o := by simp [back, z]
      rw [e]
      rcases back_spec as ss o with ⟨k, q, h1, h2⟩ | ⟨h1, h2⟩
      · exact .inl ⟨k + 1, q, by simpa using h1, by simpa using h2⟩
      · refine .inr ⟨h1, fun k q w h => ?_⟩
        cases k with
        | zero => simp at h; exact absurd h z
        | succ k => simpa using h2 k q w (by simpa using h)
  | .br i :: as, .un :: ss, o => by
    have e : back j (.br i :: as) (.un :: ss) o = back j as ss o := by simp [back]
    rw [e]
    rcases back_spec as ss o with ⟨k, q, h1, h2⟩ | ⟨h1, h2⟩
    · exact .inl ⟨k + 1, q, by simpa using h1, by simpa using h2⟩
    · refine .inr ⟨h1, fun k q w h => ?_⟩
      cases k with
      | zero => simp
      | succ k => simpa using h2 k q w (by simpa using h)
  | .br i :: as, .val d :: ss, o => by
    have e : back j (.br i :: as) (.val d :: ss) o = back j as ss o := by simp [back]
    rw [e]
    rcases back_spec as ss o with ⟨k, q, h1, h2⟩ | ⟨h1, h2⟩
    · exact .inl ⟨k + 1, q, by simpa using h1, by simpa using h2⟩
    · refine .inr ⟨h1, fun k q w h => ?_⟩
      cases k with
      | zero => simp
      | succ k => simpa using h2 k q w (by simpa using h)
  | .d d :: as, s :: ss, o => by
    have e : back j (.d d :: as) (s :: ss) o = back j as ss o := by simp [back]
    rw [e]
    rcases back_spec as ss o with ⟨k, q, h1, h2⟩ | ⟨h1, h2⟩
    · exact .inl ⟨k + 1, q, by simpa using h1, by simpa using h2⟩
    · refine .inr ⟨h1, fun k q w h => ?_⟩
      cases k with
      | zero => simp at h
      | succ k => simpa using h2 k q w (by simpa using h)
def backAll (as : List ArgV) (ss : List Slot) : Nat → Rho → Rho
  | _, [] => []
  | j, .own p o :: r => .own p (back j as ss o) :: backAll as ss (j + 1) r
  | j, .un :: r => .un :: backAll as ss (j + 1) r
  | j, .val d :: r => .val d :: backAll as ss (j + 1) r
def backAt (as : List ArgV) (ss : List Slot) (j : Nat) : Slot → Slot
  | .own p o => .own p (back j as ss o)
  | x => x
theorem backAll_get (as : List ArgV) (ss : List Slot) : ∀ (ρ : Rho) (j i : Nat), (backAll as ss j ρ)[i]? = (ρ[i]?).map (backAt as ss (j + i))
  | [], j, i => by simp [backAll]
  | .own p o :: r, j, 0 => by simp [backAll, backAt]
  | .un :: r, j, 0 => by simp [backAll, backAt]
  | .val d :: r, j, 0 => by simp [backAll, backAt]
  | .own p o :: r, j, i + 1 => by
    have := backAll_get as ss r (j + 1) i
    rw [show j + 1 + i = j + (i + 1) by omega] at this
    simpa [backAll] using this
  | .un :: r, j, i + 1 => by
    have := backAll_get as ss r (j + 1) i
    rw [show j + 1 + i = j + (i + 1) by omega] at this
    simpa [backAll] using this
  | .val d :: r, j, i + 1 => by
    have := backAll_get as ss r (j + 1) i
    rw [show j + 1 + i = j + (i + 1) by omega] at this
    simpa [backAll] using this
theorem call_in {K : PySem.W.Frag} {F H : Hp} {σ : L2.St} {ρ : Rho} {vs : List V} {as : List ArgV} {ss : List Slot} (c : Cfg K F H σ ρ) (r : ArgsOk K F σ vs as) (h : slotsOf ρ as = some ss) (nd : (lent ρ as).Nodup) :
    Cfg K F H (vs.map some) ss ∧ pinned ss ∧ (∀ (i : Nat) p o, ss[i]? = some (.own p o) → ∃ j p', as[i]? = some (.br j) ∧ ρ[j]? = some (.own p' o) ∧ (vs.map some)[i]? = σ[j]?) := by
  obtain ⟨hl, hg⟩ := slotsOf_get h
  have arg : ∀ (i : Nat) s, ss[i]? = some s → ∃ a v, as[i]? = some a ∧ slotOf ρ a = some s ∧ vs[i]? = some v ∧ argOk K F σ v a := fun i s hs => by
    cases e : as[i]? with
    | none =>
      have l1 := (List.getElem?_eq_some_iff.mp hs).1
      rw [List.getElem?_eq_none_iff] at e
      omega
    | some a =>
      obtain ⟨s', h1, h2⟩ := hg i a e
      rw [hs] at h1
      cases h1
      obtain ⟨v, h3, h4⟩ := r.get e
      exact ⟨a, v, rfl, h2, h3, h4⟩
  have own : ∀ (i : Nat) p o, ss[i]? = some (.own p o) → p = true ∧ ∃ j p', as[i]? = some (.br j) ∧ ρ[j]? = some (.own p' o) ∧ (vs.map some)[i]? = σ[j]? := fun i p o hs => by
    obtain ⟨a, v, h1, h2, h3, h4⟩ := arg i _ hs
    cases a with
    | d d => cases h2
    | br j =>
      unfold slotOf at h2
      dsimp only at h2
      split at h2
      · cases h2
      · rename_i p' o' hj
        cases h2
        refine ⟨rfl, j, p', h1, hj, ?_⟩
        rw [List.getElem?_map, h3]
        exact Eq.symm h4
      · cases h2
  refine ⟨⟨c.ex, by rw [List.length_map, r.length]; exact hl.symm, fun i s hs => ?_, fun i k p q o u a h1 h2 h3 h4 => ?_⟩, fun i o h => ?_, fun i p o h => (own i p o h).2⟩
  · obtain ⟨a, v, h1, h2, h3, h4⟩ := arg i s hs
    have e1 : (vs.map some)[i]? = some (some v) := by rw [List.getElem?_map, h3]; rfl
    rw [e1]
    cases a with
    | d d =>
      cases h2
      exact ⟨v, rfl, h4⟩
    | br j =>
      unfold slotOf at h2
      dsimp only at h2
      have h4 : σ[j]? = some (some v) := h4
      split at h2
      · rename_i d hj
        cases h2
        have q := c.sl j _ hj
        rw [h4] at q
        exact q
      · rename_i p' o' hj
        cases h2
        have q := c.sl j _ hj
        rw [h4] at q
        exact q
      · cases h2
  · obtain ⟨_, j1, p1, k1, k2, k3⟩ := own i p o h1
    obtain ⟨_, j2, p2, l1, l2, l3⟩ := own k q u h2
    rw [k3] at h3
    rw [l3] at h4
    have e := c.sep j1 j2 _ _ _ _ a k2 l2 h3 h4
    subst e
    exact lent_inj k2 nd k1 l1
  · obtain ⟨z, _⟩ := own i _ o h
    cases z
theorem call_out {K : PySem.W.Frag} {F H F' H' : Hp} {σ : L2.St} {ρ : Rho} {vs : List V} {as : List ArgV} {ss ss' : List Slot} {v : V} {s : Slot} (c : Cfg K F H σ ρ) (r : ArgsOk K F σ vs as) (h : slotsOf ρ as = some ss) (nd : (lent ρ as).Nodup)
    (c' : Cfg K F' H' (vs.map some) ss') (st : Stp (vs.map some) ss F H (vs.map some) ss' F' H') (q : VOk K (vs.map some) ss H (vs.map some) ss' F' H' v s) :
    Cfg K F' H' σ (backAll as ss' 0 ρ) ∧ Stp σ ρ F H σ (backAll as ss' 0 ρ) F' H' ∧ VOk K σ ρ H σ (backAll as ss' 0 ρ) F' H' v s := by
  obtain ⟨c0, pn, ow⟩ := call_in c r h nd
  obtain ⟨hl, hg⟩ := slotsOf_get h
  have get : ∀ (j : Nat), (backAll as ss' 0 ρ)[j]? = (ρ[j]?).map (backAt as ss' j) := fun j => by
    have := backAll_get as ss' ρ 0 j
    rwa [Nat.zero_add] at this
  have ownsA : ∀ a, Owns (vs.map some) ss a → Owns σ ρ a := fun a ⟨i, p, o, h1, h2⟩ => by
    obtain ⟨j, p', _, k2, k3⟩ := ow i p o h1
    rw [k3] at h2
    exact ⟨j, p', o, k2, h2⟩
  have ownB : ∀ (j : Nat) p o, (backAll as ss' 0 ρ)[j]? = some (.own p o) → ∃ o0, ρ[j]? = some (.own p o0) ∧ o = back j as ss' o0 := fun j p o hj => by
    rw [get] at hj
    cases e : ρ[j]? with
    | none => rw [e] at hj; cases hj
    | some x =>
      rw [e] at hj
      cases x with
      | un => cases hj
      | val d => cases hj
      | own p0 o0 => cases hj; exact ⟨o0, rfl, rfl⟩
  -- an object that was not lent is as it was
  have kept : ∀ (j : Nat) p o a, ρ[j]? = some (.own p o) → σ[j]? = some (some (.ref a)) → (∀ (i : Nat), as[i]? ≠ some (.br j)) → ¬ Owns (vs.map some) ss a := fun j p o a h1 h2 h3 ⟨i, p', o', k1, k2⟩ => by
    obtain ⟨j', p'', l1, l2, l3⟩ := ow i p' o' k1
    rw [l3] at k2
    have e := c.sep j j' _ _ _ _ a h1 l2 h2 k2
    subst e
    exact h3 i l1
  have slot : ∀ (j : Nat) p o a, ρ[j]? = some (.own p o) → σ[j]? = some (some (.ref a)) → F' a = none ∧ OAt K F' H' a (back j as ss' o) := fun j p o a h1 h2 => by
    by_cases hl : ∃ i : Nat, as[i]? = some (ArgV.br j)
    · obtain ⟨i, hi⟩ := hl
      obtain ⟨s1, k1, k2⟩ := hg i _ hi
      have e1 : s1 = .own true o := by
        unfold slotOf at k2
        dsimp only at k2
        rw [h1] at k2
        cases k2
        rfl
      subst e1
      obtain ⟨_, o', k3⟩ := st.pin i o k1
      rcases back_spec as ss' o with ⟨i2, p2, m1, m2⟩ | ⟨m1, m2⟩
      · have q2 := c'.sl i2 _ m2
        obtain ⟨v2, n1, n2⟩ := r.get m1
        have n2 : σ[j]? = some (some v2) := n2
        rw [h2] at n2
        cases n2
        rw [List.getElem?_map, n1] at q2
        obtain ⟨b, e2, f2, at2⟩ := q2
        cases e2
        exact ⟨f2, at2⟩
      · exact absurd k3 (m2 i true o' hi)
    · have hno : ∀ i : Nat, as[i]? ≠ some (ArgV.br j) := fun i z => hl ⟨i, z⟩
      have no := kept j p o a h1 h2 hno
      obtain ⟨b, e1, f1, at1⟩ := c.sl j _ h1
      rw [h2] at e1
      cases e1
      have hb : back j as ss' o = o := by
        rcases back_spec as ss' o with ⟨i2, p2, m1, m2⟩ | ⟨m1, m2⟩
        · exact absurd m1 (hno i2)
        · exact m1
      rw [hb]
      refine ⟨?_, at1.mono st.exF ?_⟩
      · cases z : F' a with
        | none => rfl
        | some u =>
          rcases st.nF a f1 (by rw [z]; simp) with y | y
          · exact absurd y at1.there
          · exact absurd y no
      · cases z : H a with
        | none => exact absurd z at1.there
        | some u => exact st.fr a u z no
  have ownsB : ∀ a, Owns σ (backAll as ss' 0 ρ) a → Owns σ ρ a := fun a ⟨j, p, o, h1, h2⟩ => by
    obtain ⟨o0, h3, _⟩ := ownB j p o h1
    exact ⟨j, p, o0, h3, h2⟩
  refine ⟨⟨c'.ex, ?_, fun j t hj => ?_, fun i j p q o u a h1 h2 h3 h4 => ?_⟩, ⟨st.exF, fun a o h1 n => st.fr a o h1 fun z => n (ownsA a z), st.th, fun a h1 h2 => (st.nF a h1 h2).imp_right (ownsA a), fun a h1 => .inl (ownsB a h1), fun a ⟨j, o, h1, h2⟩ => ?_, fun j o hj => ?_⟩, ?_⟩
  · rw [← c.len]
    have : ∀ (ρ : Rho) (j : Nat), (backAll as ss' j ρ).length = ρ.length := fun ρ => by
      induction ρ with
      | nil => intro j; rfl
      | cons x r ih => intro j; cases x <;> simp [backAll, ih]
    exact this ρ 0
  · cases e : ρ[j]? with
    | none => rw [get, e] at hj; cases hj
    | some x =>
      have q0 := c.sl j x e
      cases x with
      | un =>
        rw [get, e] at hj
        cases hj
        trivial
      | val d =>
        rw [get, e] at hj
        cases hj
        obtain ⟨w, e1, r1⟩ := q0
        exact ⟨w, e1, r1.ex st.exF⟩
      | own p o =>
        rw [get, e] at hj
        cases hj
        obtain ⟨a, e1, _, _⟩ := q0
        obtain ⟨f2, at2⟩ := slot j p o a e e1
        exact ⟨a, e1, f2, at2⟩
  · obtain ⟨o0, k1, _⟩ := ownB i p o h1
    obtain ⟨u0, k2, _⟩ := ownB j q u h2
    exact c.sep i j _ _ _ _ a k1 k2 h3 h4
  · obtain ⟨o0, h3, _⟩ := ownB j _ o h1
    exact .inl ⟨j, o0, h3, h2⟩
  · refine ⟨rfl, back j as ss' o, ?_⟩
    rw [get, hj]
    rfl
  · cases s with
    | un => exact q
    | val d => exact q
    | own p o =>
      obtain ⟨z1, a, z2, z3, z4, z5, z6⟩ := q
      have hn : H a = none := z4.resolve_right fun ⟨i, u, y1, _⟩ => pn i u y1
      exact ⟨z1, a, z2, z3, .inl hn, fun z => (c.own (ownsB a z)).2 hn, z6⟩
def mCall (n : Nat) (f : Fn) (ma : MAB) : MS := fun ρ => match ma ρ with
  | some (as, ρ1) => (match slotsOf ρ1 as with
    | some ss => if (lent ρ1 as).Nodup ∧ ss.length = n then (match f ss with
      | some (s, ss') => some (s, backAll as ss' 0 ρ1)
      | none => none) else none
    | none => none)
  | none => none
theorem xs_call {X : Cx} {k n : Nat} {f : Addr} {fd : FuncData} {ps : List Str} {x : Str} {p pos : Pos} {e : Expr} {es : List Expr} {g : Fn} {ma : MAB} (G : FnOk X.prog X.w X.K X.mg X.base CX0 k f fd ps (spM X.K n g)) (hr : Room k X.A) (hm : X.mg x = some (.ref f)) (hk : PySem.W.keepIn X.K (.ref f) = true) (hb : Binds X.K fd ps [])
    (ha : XAB X (e :: es) ma) (hg : Gl X x := by rfl) (hdb : (x == ("__debug__" : Str)) = false := by decide) (he : starEach (e :: es) X.env = (false, eval e X.env) :: starEach es X.env := by rfl) (hpl : (backTo pos (starEach es X.env)).any (·.1) = false := by rfl) :
    XS X (.Call (.Name x p) (e :: es) [] pos) (mCall n g ma) := by
  refine ⟨⟨fun pins s σ H Q I h => ?_⟩⟩
  have hx : Passes CX0 X E0 := pass0
  refine wpAny_Call_Name_kw (ld_glob I hg hm ?_ hdb)
  obtain ⟨F, ρ, sl, ρ', c, e1, q⟩ := h
  unfold mCall at e1
  split at e1
  · rename_i as ρ1 h1
    split at e1
    · rename_i ss h2
      split at e1
      · rename_i nd
        obtain ⟨nd, hn⟩ := nd
        split at e1
        · rename_i s0 ss' h3
          cases e1
          have hA := ha.pa.run pos pins s σ H (fun vs H1 => spM X.K n g vs H1 Q E0) I ⟨F, ρ, as, ρ1, c, h1, fun vs F1 H1 c1 s1 r1 => ⟨by rw [r1.length, (slotsOf_get h2).1]; exact hn, F1, ss, _, ss', hn, ?_, ?_, h3, fun v F' H' c' st' vk => ?_⟩⟩
          · refine PySem.W.callWith_K (h₀ := X.base) I.ok.mod.kin hk (thn hA fun us s1 ⟨vs, H1, I1, r, q1⟩ => ⟨I1.kIn, ?_⟩) he hpl
            exact run_fn G hr hb .nil hx I1 r (by rw [List.append_nil]; exact q1)
          · exact (call_in c1 r1 h2 nd).2.1
          · exact (call_in c1 r1 h2 nd).1
          · obtain ⟨l1, l2, l3⟩ := call_out c1 r1 h2 nd c' st' vk
            exact q v F' H' l1 (s1.trans l2) (l3.back s1)
        · cases e1
      · cases e1
    · cases e1
  · cases e1
end Mr

set_option Elab.async false
set_option linter.all false
set_option maxRecDepth 100000
set_option maxHeartbeats 2000000
/-! Mir6: loops and comprehensions by mirrors. -/
namespace Mr
open PySem PySem.Spec PyProof.Rows L2

/-! ### while -/
def mWh : Nat → MT → MSt → MSt
  | 0, _, _ => fun _ => none
  | n + 1, t, b => fun ρ => match t ρ with
    | some (true, ρ1) => (match b ρ1 with
      | some (.nx, ρ2) => mWh n t b ρ2
      | some (.ct, ρ2) => mWh n t b ρ2
      | some (.bk, ρ2) => some (.nx, ρ2)
      | some (.ret s, ρ2) => some (.ret s, ρ2)
      | none => none)
    | some (false, ρ1) => some (.nx, ρ1)
    | none => none
theorem xp_while {X : Cx} {c : Expr} {body : List Stmt} {t : MT} {b : MSt} {pos : Pos} (n : Nat) (hp : PassesOwn (model X.prog X.w) X.A X.env X.xe) (hc : XT X c t) (hb : XPs X body b) : XP X (.While c body [] pos) (mWh n t b) := ⟨ps_imp (ps_while hp hc.pt hb.pss) fun E σ H h => by
  obtain ⟨F, ρ, o, ρ', c0, e, k⟩ := h
  refine ⟨fun m σ1 H1 => ∃ F1 ρ1, Cfg X.K F1 H1 σ1 ρ1 ∧ Stp σ ρ F H σ1 ρ1 F1 H1 ∧ mWh m t b ρ1 = some (o, ρ'), ⟨n, F, ρ, c0, .refl _ _ _ _, e⟩, ?_⟩
  rintro m σ1 H1 ⟨F1, ρ1, c1, s1, e1⟩
  cases m with
  | zero => cases e1
  | succ m =>
    unfold mWh at e1
    split at e1
    · rename_i ρ2 h2
      refine ⟨F1, ρ1, true, ρ2, c1, h2, fun F2 H2 c2 s2 => iteT ?_⟩
      refine ⟨fun σ' H' => ∃ F3 ρ3, Cfg X.K F3 H' σ' ρ3 ∧ Stp σ ρ F H σ' ρ3 F3 H' ∧ mWh m t b ρ3 = some (o, ρ'), fun σ' H' hN => ⟨m, Nat.lt_succ_self m, hN⟩, ?_⟩
      split at e1
      · rename_i ρ3 h3
        exact ⟨F2, ρ2, .nx, ρ3, c2, h3, fun σ4 F4 H4 c4 s4 => ⟨F4, ρ3, c4, s1.trans (s2.trans s4), e1⟩⟩
      · rename_i ρ3 h3
        exact ⟨F2, ρ2, .ct, ρ3, c2, h3, fun σ4 F4 H4 c4 s4 => ⟨F4, ρ3, c4, s1.trans (s2.trans s4), e1⟩⟩
      · rename_i ρ3 h3
        cases e1
        exact ⟨F2, ρ2, .bk, _, c2, h3, fun σ4 F4 H4 c4 s4 => k σ4 F4 H4 c4 (s1.trans (s2.trans s4))⟩
      · rename_i s ρ3 h3
        cases e1
        exact ⟨F2, ρ2, .ret s, _, c2, h3, fun σ4 F4 H4 c4 s4 v q => k σ4 F4 H4 c4 (s1.trans (s2.trans s4)) v (q.back (s1.trans s2))⟩
      · cases e1
    · rename_i ρ2 h2
      cases e1
      exact ⟨F1, ρ1, false, _, c1, h2, fun F2 H2 c2 s2 => iteF (k σ1 F2 H2 c2 (s1.trans s2))⟩
    · cases e1⟩

/-! ### what is walked -/
abbrev MI := Rho → Option (List D × Rho)
/-- the iterator J yields just these data, whatever comes upon F -/
def ItOk (K : PySem.W.Frag) (F : Hp) (J : It) (ds : List D) : Prop := ∀ (i : Nat) (F1 H1 : Hp), Ex F F1 → Ex F1 H1 →
  (∀ d, ds[i]? = some d → J.go i H1 ∧ ∀ x H2, J.yld i H1 x H2 → ∃ F2, Grow F1 H1 F2 H2 ∧ Rp K F2 x d) ∧ (ds.length ≤ i → J.stop i H1)
def tI (K : PySem.W.Frag) (m : MI) : TI := fun σ H R => ∃ F ρ ds ρ', Cfg K F H σ ρ ∧ m ρ = some (ds, ρ') ∧ ∀ J F' H', Cfg K F' H' σ ρ' → Stp σ ρ F H σ ρ' F' H' → ItOk K F' J ds → R J H'
structure XI (X : Cx) (tg e : Expr) (m : MI) : Prop where pi : PI X tg e (tI X.K m)
theorem pi_imp {X : Cx} {tg e : Expr} {t t' : TI} (h : PI X tg e t) (i : ∀ σ H R, t' σ H R → t σ H R) : PI X tg e t' := ⟨fun pins s σ H R I q => h.run pins s σ H R I (i σ H R q)⟩
section
variable {K : PySem.W.Frag} {F : Hp} {a : Addr} {xs : List V} {ds : List D}
theorem it_list (h : SqL K F a xs) (r : RpAll K F xs ds) : ItOk K F (Itl K a) ds := fun i F1 H1 e1 e2 =>
  ⟨fun d hd => by
    obtain ⟨v, hv, rv⟩ := r.get hd
    have q := e2.l (e1.l h)
    refine ⟨⟨xs, v, q, hv⟩, fun x H2 y => ?_⟩
    obtain ⟨rfl, y⟩ := y
    have z := y xs q
    rw [hv] at z
    cases z
    exact ⟨F1, .refl e2, rv.ex e1⟩, fun hl => ⟨xs, e2.l (e1.l h), by rw [r.length]; exact hl⟩⟩
theorem it_tup (h : SqT K F a xs) (r : RpAll K F xs ds) : ItOk K F (Itt K a) ds := fun i F1 H1 e1 e2 =>
  ⟨fun d hd => by
    obtain ⟨v, hv, rv⟩ := r.get hd
    have q := e2.t (e1.t h)
    refine ⟨⟨xs, v, q, hv⟩, fun x H2 y => ?_⟩
    obtain ⟨rfl, y⟩ := y
    have z := y xs q
    rw [hv] at z
    cases z
    exact ⟨F1, .refl e2, rv.ex e1⟩, fun hl => ⟨xs, e2.t (e1.t h), by rw [r.length]; exact hl⟩⟩
end
def mIL (m : ME) : MI := fun ρ => match m ρ with
  | some (x, ρ1) => (match lstD x with
    | some ds => some (ds, ρ1)
    | none => none)
  | none => none
def mIT (m : ME) : MI := fun ρ => match m ρ with
  | some (.tup ds, ρ1) => some (ds, ρ1)
  | _ => none
section
variable {X : Cx} {tg e : Expr} {m : ME}
theorem xi_list (h : XD X e m) : XI X tg e (mIL m) := ⟨pi_imp (pi_list h.pe) fun σ H R q => by
  obtain ⟨F, ρ, ds, ρ', c, e, k⟩ := q
  unfold mIL at e
  split at e
  · rename_i x ρ1 h1
    split at e
    · rename_i es he
      cases e
      refine ⟨F, ρ, x, _, c, h1, fun v F1 H1 c1 s1 r1 => ?_⟩
      obtain ⟨a, xs, rfl, hs, ra⟩ := lst_seq r1 he
      exact ⟨a, rfl, ⟨xs, c1.ex.l hs⟩, k _ F1 H1 c1 s1 (it_list hs ra)⟩
    · cases e
  · cases e⟩
theorem xi_tup (h : XD X e m) : XI X tg e (mIT m) := ⟨pi_imp (pi_tup h.pe) fun σ H R q => by
  obtain ⟨F, ρ, ds, ρ', c, e, k⟩ := q
  unfold mIT at e
  split at e
  · rename_i es ρ1 h1
    cases e
    refine ⟨F, ρ, _, _, c, h1, fun v F1 H1 c1 s1 r1 => ?_⟩
    cases r1 with
    | tup hs ra => exact ⟨_, rfl, ⟨_, c1.ex.t hs⟩, k _ F1 H1 c1 s1 (it_tup hs ra)⟩
  · cases e⟩
/-- the signs of a text -/
def signsD (s : Str) : List D := s.cps.toList.map fun c => .str ⟨#[c]⟩
def mIStr (m : ME) : MI := fun ρ => match m ρ with
  | some (.str s, ρ1) => some (signsD s, ρ1)
  | _ => none
theorem xi_str (h : XD X e m) : XI X tg e (mIStr m) := ⟨pi_imp (pi_str h.pe) fun σ H R q => by
  obtain ⟨F, ρ, ds, ρ', c, e, k⟩ := q
  unfold mIStr at e
  split at e
  · rename_i s ρ1 h1
    cases e
    refine ⟨F, ρ, _, _, c, h1, fun v F1 H1 c1 s1 r1 => ?_⟩
    cases r1
    refine ⟨s, rfl, k _ F1 H1 c1 s1 fun i F2 H2 e1 e2 => ⟨fun d hd => ?_, fun hl => ?_⟩⟩
    · unfold signsD at hd
      rw [List.getElem?_map] at hd
      cases z : s.cps.toList[i]? with
      | none => rw [z] at hd; cases hd
      | some n =>
        rw [z] at hd
        cases hd
        have il := (List.getElem?_eq_some_iff.mp z).1
        refine ⟨(by show i < s.cps.size; simpa using il), fun x H3 y => ?_⟩
        obtain ⟨rfl, cc, y1, rfl⟩ := y
        have : cc = n := by
          rw [← Array.getElem?_toList] at y1
          rw [z] at y1
          exact (Option.some.inj y1).symm
        subst this
        exact ⟨F2, .refl e2, .str _⟩
    · show s.cps.size ≤ i
      unfold signsD at hl
      simpa using hl
  · cases e⟩
/-- range -/
def rangeD (lo : Int) (n : Nat) : List D := (List.range n).map fun (i : Nat) => .int (lo + (i : Int))
theorem it_range {K : PySem.W.Frag} {F : Hp} {lo : Int} {n : Nat} : ItOk K F (Itr lo n) (rangeD lo n) := fun i F1 H1 e1 e2 => by
  unfold rangeD
  refine ⟨fun d hd => ?_, fun hl => ?_⟩
  · rw [List.getElem?_map] at hd
    by_cases hi : i < n
    · rw [List.getElem?_range hi] at hd
      cases hd
      refine ⟨hi, fun x H2 y => ?_⟩
      obtain ⟨rfl, rfl⟩ := y
      exact ⟨F1, .refl e2, .int _⟩
    · rw [List.getElem?_eq_none (by simpa using hi)] at hd
      cases hd
  · show n ≤ i
    simpa using hl
def mIR1 (ma : MA) : MI := fun ρ => match ma ρ with
  | some ([.int j], ρ1) => if (decide (-(2 ^ 62) ≤ j) && decide (j < 2 ^ 62)) = true then some (rangeD 0 j.toNat, ρ1) else none
  | _ => none
def mIR2 (ma : MA) : MI := fun ρ => match ma ρ with
  | some ([.int i, .int j], ρ1) => if (decide (-(2 ^ 62) ≤ i) && decide (i < 2 ^ 62) && decide (-(2 ^ 62) ≤ j) && decide (j < 2 ^ 62)) = true then some (rangeD i (j - i).toNat, ρ1) else none
  | _ => none
theorem xi_range1 {a : Expr} {ma : MA} {p pos : Pos} (hm : X.mg "range" = none) (ha : XA X [a] ma) (hg : Gl X "range" := by rfl) (hs : starEach [a] X.env = [(false, eval a X.env)] := by rfl) : XI X tg (.Call (.Name "range" p) [a] [] pos) (mIR1 ma) := ⟨pi_imp (pi_range1 hg hm ha.pa hs) fun σ H R q => by
  obtain ⟨F, ρ, ds, ρ', c, e, k⟩ := q
  unfold mIR1 at e
  split at e
  · rename_i j ρ1 h1
    split at e
    · rename_i hz
      cases e
      simp only [Bool.and_eq_true, decide_eq_true_eq] at hz
      refine ⟨F, ρ, _, _, c, h1, fun vs F1 H1 c1 s1 r1 => ?_⟩
      obtain ⟨v, rfl, rv⟩ := rp1 r1
      cases rv
      exact ⟨j, rfl, hz.1, hz.2, k _ F1 H1 c1 s1 it_range⟩
    · cases e
  · cases e⟩
theorem xi_range2 {a b : Expr} {ma : MA} {p pos : Pos} (hm : X.mg "range" = none) (ha : XA X [a, b] ma) (hg : Gl X "range" := by rfl) (hs : starEach [a, b] X.env = [(false, eval a X.env), (false, eval b X.env)] := by rfl) (hs2 : starEach [b] X.env = [(false, eval b X.env)] := by rfl) : XI X tg (.Call (.Name "range" p) [a, b] [] pos) (mIR2 ma) := ⟨pi_imp (pi_range2 hg hm ha.pa hs hs2) fun σ H R q => by
  obtain ⟨F, ρ, ds, ρ', c, e, k⟩ := q
  unfold mIR2 at e
  split at e
  · rename_i i j ρ1 h1
    split at e
    · rename_i hz
      cases e
      simp only [Bool.and_eq_true, decide_eq_true_eq] at hz
      refine ⟨F, ρ, _, _, c, h1, fun vs F1 H1 c1 s1 r1 => ?_⟩
      obtain ⟨v, w, rfl, rv, rw⟩ := rp2 r1
      cases rv
      cases rw
      exact ⟨i, j, rfl, ⟨hz.1.1.1, hz.1.1.2, hz.1.2, hz.2⟩, k _ F1 H1 c1 s1 it_range⟩
    · cases e
  · cases e⟩
/-- enumerate, zip of lists -/
def enumD : Int → List D → List D
  | _, [] => []
  | i, d :: ds => .tup [.int i, d] :: enumD (i + 1) ds
theorem enumD_get : ∀ (ds : List D) (n i : Nat), (enumD (n : Int) ds)[i]? = (ds[i]?).map fun d => .tup [.int ((n + i : Nat) : Int), d]
  | [], n, i => by simp [enumD]
  | d :: ds, n, 0 => by simp [enumD]
  | d :: ds, n, i + 1 => by
    have q := enumD_get ds (n + 1) i
    have e : ((n : Int) + 1) = ((n + 1 : Nat) : Int) := by omega
    simp only [enumD, List.getElem?_cons_succ, e, q]
    congr 1
    funext d
    rw [show n + 1 + i = n + (i + 1) by omega]
theorem enumD_len : ∀ (ds : List D) (n : Int), (enumD n ds).length = ds.length
  | [], _ => rfl
  | d :: ds, n => congrArg (· + 1) (enumD_len ds (n + 1))
theorem it_enum {K : PySem.W.Frag} {F : Hp} {a : Addr} {xs : List V} {ds : List D} (h : SqL K F a xs) (r : RpAll K F xs ds) : ItOk K F (Ite K a) (enumD 0 ds) := fun i F1 H1 e1 e2 =>
  ⟨fun d hd => by
    have q0 := enumD_get ds 0 i
    have e0 : ((0 : Nat) : Int) = 0 := rfl
    rw [e0] at q0
    rw [q0] at hd
    cases z : ds[i]? with
    | none => rw [z] at hd; cases hd
    | some d0 =>
      rw [z] at hd
      cases hd
      obtain ⟨v, hv, rv⟩ := r.get z
      have q := e2.l (e1.l h)
      refine ⟨⟨xs, v, q, hv⟩, fun x H2 y => ?_⟩
      obtain ⟨T, w, rfl, hT, rfl, y⟩ := y
      have z2 := y xs q
      rw [hv] at z2
      cases z2
      obtain ⟨g, rr⟩ := new_tup (K := K) (ds := [.int ((0 + i : Nat) : Int), d0]) (xs := [.int (i : Nat), v]) e2 hT (.cons (by rw [Nat.zero_add]; exact .int _) (.cons (rv.ex e1) .nil))
      exact ⟨_, g, rr⟩, fun hl => ⟨xs, e2.l (e1.l h), by rw [r.length, ← enumD_len ds 0]; exact hl⟩⟩
def mIE (ma : MA) : MI := fun ρ => match ma ρ with
  | some ([x], ρ1) => (match lstD x with
    | some ds => some (enumD 0 ds, ρ1)
    | none => none)
  | _ => none
theorem xi_enum {a : Expr} {ma : MA} {p pos tpos : Pos} {elts : List Expr} {kk : Nat} (hm : X.mg "enumerate" = none) (ha : XA X [a] ma) (hg : Gl X "enumerate" := by rfl) (hs : starEach [a] X.env = [(false, eval a X.env)] := by rfl) : XI X (.Tuple elts kk tpos) (.Call (.Name "enumerate" p) [a] [] pos) (mIE ma) := ⟨pi_imp (pi_enum hg hm ha.pa hs) fun σ H R q => by
  obtain ⟨F, ρ, ds, ρ', c, e, k⟩ := q
  unfold mIE at e
  split at e
  · rename_i x ρ1 h1
    split at e
    · rename_i es he
      cases e
      refine ⟨F, ρ, _, _, c, h1, fun vs F1 H1 c1 s1 r1 => ?_⟩
      obtain ⟨v, rfl, rv⟩ := rp1 r1
      obtain ⟨b, xs, rfl, hs, ra⟩ := lst_seq rv he
      exact ⟨b, xs, rfl, c1.ex.l hs, k _ F1 H1 c1 s1 (it_enum hs ra)⟩
    · cases e
  · cases e⟩
def zipD : List D → List D → List D
  | x :: xs, y :: ys => .tup [x, y] :: zipD xs ys
  | _, _ => []
theorem zipD_get : ∀ (xs ys : List D) (i : Nat), (zipD xs ys)[i]? = (match xs[i]?, ys[i]? with
  | some x, some y => some (.tup [x, y])
  | _, _ => none)
  | [], ys, i => by simp [zipD]
  | x :: xs, [], i => by
    simp only [zipD]
    cases (x :: xs)[i]? <;> simp
  | x :: xs, y :: ys, 0 => by simp [zipD]
  | x :: xs, y :: ys, i + 1 => by
    simp only [zipD, List.getElem?_cons_succ]
    exact zipD_get xs ys i
theorem it_zip {K : PySem.W.Frag} {F : Hp} {a b : Addr} {xs ys : List V} {ds es : List D} (h : SqL K F a xs) (h' : SqL K F b ys) (r : RpAll K F xs ds) (r' : RpAll K F ys es) : ItOk K F (Itz K a b) (zipD ds es) := fun i F1 H1 e1 e2 =>
  ⟨fun d hd => by
    rw [zipD_get] at hd
    cases z : ds[i]? with
    | none => rw [z] at hd; cases hd
    | some d0 =>
      cases z' : es[i]? with
      | none => rw [z, z'] at hd; cases hd
      | some d1 =>
        rw [z, z'] at hd
        cases hd
        obtain ⟨v, hv, rv⟩ := r.get z
        obtain ⟨w, hw, rw⟩ := r'.get z'
        have q := e2.l (e1.l h)
        have q' := e2.l (e1.l h')
        refine ⟨⟨xs, ys, v, w, q, q', hv, hw⟩, fun x H2 y => ?_⟩
        obtain ⟨T, v', w', rfl, hT, rfl, y, y'⟩ := y
        have z2 := y xs q
        rw [hv] at z2
        cases z2
        have z3 := y' ys q'
        rw [hw] at z3
        cases z3
        obtain ⟨g, rr⟩ := new_tup (K := K) (ds := [d0, d1]) (xs := [v, w]) e2 hT (.cons (rv.ex e1) (.cons (rw.ex e1) .nil))
        exact ⟨_, g, rr⟩, fun hl => by
    refine ⟨xs, ys, e2.l (e1.l h), e2.l (e1.l h'), ?_⟩
    rw [r.length, r'.length]
    have q := zipD_get ds es i
    rw [List.getElem?_eq_none hl] at q
    by_cases z : ds.length ≤ i
    · exact .inl z
    · by_cases z' : es.length ≤ i
      · exact .inr z'
      · rw [List.getElem?_eq_getElem (by omega), List.getElem?_eq_getElem (by omega)] at q
        cases q⟩
def mIZ (ma : MA) : MI := fun ρ => match ma ρ with
  | some ([x, y], ρ1) => (match lstD x, lstD y with
    | some ds, some es => some (zipD ds es, ρ1)
    | _, _ => none)
  | _ => none
theorem xi_zip {a b : Expr} {ma : MA} {p pos tpos : Pos} {elts : List Expr} {kk : Nat} (hm : X.mg "zip" = none) (ha : XA X [a, b] ma) (hg : Gl X "zip" := by rfl) (hs : starEach [a, b] X.env = (false, eval a X.env) :: starEach [b] X.env := by rfl) (hs2 : (backTo pos (starEach [b] X.env)).any (·.1) = false := by rfl) : XI X (.Tuple elts kk tpos) (.Call (.Name "zip" p) [a, b] [] pos) (mIZ ma) := ⟨pi_imp (pi_zip hg hm ha.pa hs hs2) fun σ H R q => by
  obtain ⟨F, ρ, ds, ρ', c, e, k⟩ := q
  unfold mIZ at e
  split at e
  · rename_i x y ρ1 h1
    split at e
    · rename_i d1 d2 he he'
      cases e
      refine ⟨F, ρ, _, _, c, h1, fun vs F1 H1 c1 s1 r1 => ?_⟩
      obtain ⟨v, w, rfl, rv, rw⟩ := rp2 r1
      obtain ⟨b1, xs, rfl, hs, ra⟩ := lst_seq rv he
      obtain ⟨b2, ys, rfl, hs', ra'⟩ := lst_seq rw he'
      exact ⟨b1, b2, xs, ys, rfl, c1.ex.l hs, c1.ex.l hs', k _ F1 H1 c1 s1 (it_zip hs hs' ra ra')⟩
    · cases e
  · cases e⟩
end

/-! ### for -/
def mForL (g : MG) (b : MSt) : List D → MSt
  | [] => fun ρ => some (.nx, ρ)
  | d :: ds => fun ρ => match g d ρ with
    | some ρ1 => (match b ρ1 with
      | some (.nx, ρ2) => mForL g b ds ρ2
      | some (.ct, ρ2) => mForL g b ds ρ2
      | some (.bk, ρ2) => some (.nx, ρ2)
      | some (.ret s, ρ2) => some (.ret s, ρ2)
      | none => none)
    | none => none
def mFor (mi : MI) (g : MG) (b : MSt) : MSt := fun ρ => match mi ρ with
  | some (ds, ρ1) => mForL g b ds ρ1
  | none => none
theorem xp_for {X : Cx} {tg iter : Expr} {body : List Stmt} {ws : List Nat} {mi : MI} {g : MG} {b : MSt} {pos : Pos} (hp : PassesOwn (model X.prog X.w) X.A X.env X.xe) (hc : X.calm = true) (hi : XI X tg iter mi) (hg : XG X tg ws g) (hb : XPs X body b)
    (hs : ∀ x, foldedSetIterable iter X.env x = pure x := by intro _; rfl) : XP X (.For tg iter body [] pos) (mFor mi g b) := ⟨ps_imp (ps_for hp hc hi.pi hg.pg hb.pss hs) fun E σ H h => by
  obtain ⟨F, ρ, o, ρ', c0, e, k⟩ := h
  unfold mFor at e
  split at e
  · rename_i ds ρ1 h1
    refine ⟨F, ρ, ds, ρ1, c0, h1, fun J F1 H1 c1 s1 it => ?_⟩
    refine ⟨fun i m σ2 H2 => m = ds.length - i ∧ i ≤ ds.length ∧ ∃ F2 ρ2, Cfg X.K F2 H2 σ2 ρ2 ∧ Stp σ ρ1 F1 H1 σ2 ρ2 F2 H2 ∧ mForL g b (ds.drop i) ρ2 = some (o, ρ'), ⟨ds.length, by simp, Nat.zero_le _, F1, ρ1, c1, .refl _ _ _ _, by rw [List.drop_zero]; exact e⟩, ?_⟩
    rintro i m σ2 H2 ⟨rfl, hi, F2, ρ2, c2, s2, e2⟩
    obtain ⟨go, stop⟩ := it i F2 H2 s2.exF c2.ex
    by_cases hl : i < ds.length
    · have hd : ds[i]? = some ds[i] := List.getElem?_eq_getElem hl
      obtain ⟨g1, y1⟩ := go _ hd
      rw [List.drop_eq_getElem_cons hl] at e2
      unfold mForL at e2
      split at e2
      · rename_i ρ3 h3
        refine .inr ⟨g1, fun σ' H' => ∃ F4 ρ4, Cfg X.K F4 H' σ' ρ4 ∧ Stp σ ρ1 F1 H1 σ' ρ4 F4 H' ∧ mForL g b (ds.drop (i + 1)) ρ4 = some (o, ρ'), fun σ' H' hN => ⟨ds.length - (i + 1), by omega, rfl, hl, hN⟩, fun x H3 y => ?_⟩
        obtain ⟨F3, gr, rx⟩ := y1 x H3 y
        refine ⟨F3, ρ2, _, ρ3, gr.cfg c2, rx, h3, fun σ4 F4 H4 _ c4 s4 => ?_⟩
        have s14 := s2.trans ((gr.stp (σ := σ2) (ρ := ρ2)).trans s4)
        split at e2
        · rename_i ρ5 h5
          exact ⟨F4, ρ3, .nx, ρ5, c4, h5, fun σ6 F6 H6 c6 s6 => ⟨F6, ρ5, c6, s14.trans s6, e2⟩⟩
        · rename_i ρ5 h5
          exact ⟨F4, ρ3, .ct, ρ5, c4, h5, fun σ6 F6 H6 c6 s6 => ⟨F6, ρ5, c6, s14.trans s6, e2⟩⟩
        · rename_i ρ5 h5
          cases e2
          exact ⟨F4, ρ3, .bk, _, c4, h5, fun σ6 F6 H6 c6 s6 => k σ6 F6 H6 c6 (s1.trans (s14.trans s6))⟩
        · rename_i s ρ5 h5
          cases e2
          exact ⟨F4, ρ3, .ret s, _, c4, h5, fun σ6 F6 H6 c6 s6 v q => k σ6 F6 H6 c6 (s1.trans (s14.trans s6)) v (q.back (s1.trans s14))⟩
        · cases e2
      · cases e2
    · have z : i = ds.length := by omega
      subst z
      rw [List.drop_length] at e2
      cases e2
      exact .inl ⟨stop (Nat.le_refl _), k σ2 H2 |> fun q => by exact (k σ2 F2 H2 c2 (s1.trans s2))⟩
  · cases e⟩
end Mr

set_option Elab.async false
set_option linter.all false
set_option maxRecDepth 100000
set_option maxHeartbeats 2000000
/-! Mir7: comprehensions by mirrors. -/
namespace Mr
open PySem PySem.Spec PyProof.Rows L2

def wipeO (ρ : Rho) : List Nat → Option Rho
  | [] => some ρ
  | v :: vs => (match wipeO ρ vs with
    | some ρ1 => (match ρ1[v]? with
      | some (.own _ _) => none
      | _ => some (ρ1.set v .un))
    | none => none)
theorem wipe_get (σ : L2.St) : ∀ (vs : List Nat) (i : Nat), (wipe σ vs)[i]? = if i ∈ vs ∧ i < σ.length then some none else σ[i]?
  | [], i => by simp [wipe]
  | v :: vs, i => by
    unfold wipe
    by_cases z : i = v
    · subst z
      by_cases hl : i < σ.length
      · rw [List.getElem?_set_self (by rw [wipe_length]; exact hl), if_pos ⟨List.mem_cons_self, hl⟩]
      · rw [List.getElem?_eq_none (by rw [List.length_set, wipe_length]; omega), if_neg (fun q => hl q.2), List.getElem?_eq_none (by omega)]
    · rw [List.getElem?_set_ne (Ne.symm z), wipe_get σ vs i]
      simp only [List.mem_cons, z, false_or]
theorem wipe_off {σ σ2 : L2.St} {ws vs : List Nat} (h : Off ws (wipe σ vs) σ2) (sub : ∀ i ∈ ws, i ∈ vs) : wipe σ2 vs = wipe σ vs := by
  apply List.ext_getElem?
  intro i
  have l : σ2.length = σ.length := h.1.trans (wipe_length σ vs)
  rw [wipe_get, wipe_get, l]
  by_cases z : i ∈ vs ∧ i < σ.length
  · rw [if_pos z, if_pos z]
  · rw [if_neg z, if_neg z]
    by_cases y : i ∈ vs
    · have : ¬ i < σ.length := fun q => z ⟨y, q⟩
      rw [List.getElem?_eq_none (by omega), List.getElem?_eq_none (by omega)]
    · rw [h.2 i fun q => y (sub i q), wipe_get, if_neg z]
theorem wipe_idem (σ : L2.St) (vs : List Nat) : wipe (wipe σ vs) vs = wipe σ vs := wipe_off (ws := []) (.refl _ _) (fun _ h => nomatch h)
theorem wipeO_get {ρ : Rho} : ∀ {vs : List Nat} {ρ1 : Rho}, wipeO ρ vs = some ρ1 → ρ1.length = ρ.length ∧ ∀ i, ρ1[i]? = if i ∈ vs ∧ i < ρ.length then some .un else ρ[i]?
  | [], ρ1, h => by
    cases h
    exact ⟨rfl, fun i => by simp⟩
  | v :: vs, ρ1, h => by
    unfold wipeO at h
    split at h
    · rename_i ρ2 h2
      obtain ⟨l, g⟩ := wipeO_get h2
      split at h
      · cases h
      · cases h
        refine ⟨by rw [List.length_set, l], fun i => ?_⟩
        by_cases z : i = v
        · subst z
          by_cases hl : i < ρ.length
          · rw [List.getElem?_set_self (by omega), if_pos ⟨List.mem_cons_self, hl⟩]
          · rw [List.getElem?_eq_none (by rw [List.length_set]; omega), if_neg (fun q => hl q.2), List.getElem?_eq_none (by omega)]
        · rw [List.getElem?_set_ne (Ne.symm z), g i]
          simp only [List.mem_cons, z, false_or]
    · cases h
theorem wipeO_own {ρ : Rho} : ∀ {vs : List Nat} {ρ1 : Rho}, wipeO ρ vs = some ρ1 → ∀ i ∈ vs, ∀ p o, ρ[i]? ≠ some (.own p o)
  | [], ρ1, h, i, hi, _, _ => nomatch hi
  | v :: vs, ρ1, h, i, hi, p, o => fun hq => by
    unfold wipeO at h
    split at h
    · rename_i ρ2 h2
      rcases List.mem_cons.mp hi with rfl | hi
      · by_cases y : i ∈ vs
        · exact wipeO_own h2 i y p o hq
        · obtain ⟨l, g⟩ := wipeO_get h2
          have q := g i
          rw [if_neg (fun z => y z.1), hq] at q
          rw [q] at h
          cases h
      · exact wipeO_own h2 i hi p o hq
    · cases h
/-- forgetting the block's own names -/
theorem Cfg.wipe {K : PySem.W.Frag} {F H : Hp} {σ : L2.St} {ρ ρ1 : Rho} {vs : List Nat} (c : Cfg K F H σ ρ) (h : wipeO ρ vs = some ρ1) : Cfg K F H (L2.wipe σ vs) ρ1 ∧ Stp σ ρ F H (L2.wipe σ vs) ρ1 F H := by
  obtain ⟨l, g⟩ := wipeO_get h
  have no := wipeO_own h
  have at_ : ∀ (i : Nat) p o, ρ1[i]? = some (.own p o) → ρ[i]? = some (.own p o) ∧ (L2.wipe σ vs)[i]? = σ[i]? := fun i p o hi => by
    rw [g i] at hi
    by_cases z : i ∈ vs ∧ i < ρ.length
    · rw [if_pos z] at hi
      cases hi
    · rw [if_neg z] at hi
      refine ⟨hi, ?_⟩
      rw [wipe_get, if_neg (by rw [← c.len]; exact z)]
  refine ⟨⟨c.ex, by rw [l, wipe_length]; exact c.len, fun i s hi => ?_, fun i j p q o u a h1 h2 h3 h4 => ?_⟩, ⟨.refl F, fun _ _ h _ => h, fun _ h => h, fun _ h k => absurd h k, fun a ⟨i, p, o, h1, h2⟩ => ?_, fun a ⟨i, o, h1, h2⟩ => ?_, fun i o hi => ?_⟩⟩
  · rw [g i] at hi
    by_cases z : i ∈ vs ∧ i < ρ.length
    · rw [if_pos z] at hi
      cases hi
      trivial
    · rw [if_neg z] at hi
      rw [wipe_get, if_neg (by rw [← c.len]; exact z)]
      exact c.sl i s hi
  · obtain ⟨k1, e1⟩ := at_ i p o h1
    obtain ⟨k2, e2⟩ := at_ j q u h2
    rw [e1] at h3
    rw [e2] at h4
    exact c.sep i j p q o u a k1 k2 h3 h4
  · obtain ⟨k1, e1⟩ := at_ i p o h1
    rw [e1] at h2
    exact .inl ⟨i, p, o, k1, h2⟩
  · obtain ⟨k1, e1⟩ := at_ i _ o h1
    rw [e1] at h2
    exact .inl ⟨i, o, k1, h2⟩
  · have y : i ∉ vs := fun q => no i q _ _ hi
    refine ⟨by rw [wipe_get, if_neg (fun q => y q.1)], o, ?_⟩
    rw [g i, if_neg (fun q => y q.1)]
    exact hi
/-- behind the block its own names are what they were ahead of it -/
def restO (ρe ρ0 : Rho) : List Nat → Rho
  | [] => ρe
  | v :: vs => (restO ρe ρ0 vs).set v (ρ0.getD v .un)
theorem restO_len (ρe ρ0 : Rho) : ∀ vs : List Nat, (restO ρe ρ0 vs).length = ρe.length
  | [] => rfl
  | v :: vs => by unfold restO; rw [List.length_set, restO_len ρe ρ0 vs]
theorem restO_get (ρe ρ0 : Rho) : ∀ (vs : List Nat) (i : Nat), i < ρe.length → (restO ρe ρ0 vs)[i]? = if i ∈ vs then some (ρ0.getD i .un) else ρe[i]?
  | [], i, _ => by simp [restO]
  | v :: vs, i, hl => by
    unfold restO
    by_cases z : i = v
    · subst z
      rw [List.getElem?_set_self (by rw [restO_len]; exact hl), if_pos List.mem_cons_self]
    · rw [List.getElem?_set_ne (Ne.symm z), restO_get ρe ρ0 vs i hl]
      simp only [List.mem_cons, z, false_or]
theorem Cfg.rest {K : PySem.W.Frag} {F H F' H' : Hp} {σ : L2.St} {ρ ρ1 ρe : Rho} {vs : List Nat} (c : Cfg K F H σ ρ) (h : wipeO ρ vs = some ρ1) (ce : Cfg K F' H' (L2.wipe σ vs) ρe) (st : Stp σ ρ F H (L2.wipe σ vs) ρe F' H') (un : ∀ i ∈ vs, ∀ p o, ρe[i]? ≠ some (.own p o)) :
    Cfg K F' H' σ (restO ρe ρ vs) ∧ Stp σ ρ F H σ (restO ρe ρ vs) F' H' := by
  have no := wipeO_own h
  have le : ρe.length = ρ.length := by rw [ce.len, wipe_length, c.len]
  have get : ∀ i, i < ρe.length → (restO ρe ρ vs)[i]? = if i ∈ vs then ρ[i]? else ρe[i]? := fun i hi => by
    rw [restO_get ρe ρ vs i hi]
    by_cases z : i ∈ vs
    · rw [if_pos z, if_pos z, List.getD_eq_getElem?_getD, List.getElem?_eq_getElem (by omega)]
      rfl
    · rw [if_neg z, if_neg z]
  have inl : ∀ (i : Nat) s, (restO ρe ρ vs)[i]? = some s → i < ρe.length := fun i s hi => by
    have := (List.getElem?_eq_some_iff.mp hi).1
    rwa [restO_len] at this
  have at_ : ∀ (i : Nat) p o, (restO ρe ρ vs)[i]? = some (.own p o) → ρe[i]? = some (.own p o) ∧ (L2.wipe σ vs)[i]? = σ[i]? := fun i p o hi => by
    have q := hi
    rw [get i (inl i _ hi)] at q
    by_cases z : i ∈ vs
    · rw [if_pos z] at q
      exact absurd q (no i z p o)
    · rw [if_neg z] at q
      exact ⟨q, by rw [wipe_get, if_neg (fun y => z y.1)]⟩
  refine ⟨⟨ce.ex, by rw [restO_len, le]; exact c.len, fun i s hi => ?_, fun i j p q o u a h1 h2 h3 h4 => ?_⟩, ⟨st.exF, st.fr, st.th, st.nF, fun a ⟨i, p, o, h1, h2⟩ => ?_, fun a ⟨i, o, h1, h2⟩ => ?_, fun i o hi => ?_⟩⟩
  · have q := hi
    rw [get i (inl i _ hi)] at q
    by_cases z : i ∈ vs
    · rw [if_pos z] at q
      have r := c.sl i s q
      cases s with
      | un => trivial
      | val d =>
        obtain ⟨v, e1, r1⟩ := r
        exact ⟨v, e1, r1.ex st.exF⟩
      | own p o => exact absurd q (no i z p o)
    · rw [if_neg z] at q
      have r := ce.sl i s q
      rw [wipe_get, if_neg (fun y => z y.1)] at r
      exact r
  · obtain ⟨k1, e1⟩ := at_ i p o h1
    obtain ⟨k2, e2⟩ := at_ j q u h2
    rw [← e1] at h3
    rw [← e2] at h4
    exact ce.sep i j p q o u a k1 k2 h3 h4
  · obtain ⟨k1, e1⟩ := at_ i p o h1
    rw [← e1] at h2
    exact st.own a ⟨i, p, o, k1, h2⟩
  · obtain ⟨k1, e1⟩ := at_ i _ o h1
    rw [← e1] at h2
    exact st.ownU a ⟨i, o, k1, h2⟩
  · obtain ⟨e1, o', h1⟩ := st.pin i o hi
    have z : i ∉ vs := fun q => no i q _ _ hi
    refine ⟨rfl, o', ?_⟩
    rw [get i (List.getElem?_eq_some_iff.mp h1).1, if_neg z]
    exact h1

def mLcL (vs : List Nat) (g : MG) (tt : MT) (te : ME) : List D → List D → Rho → Option (List D × Rho)
  | [], acc, ρ => some (acc, ρ)
  | d :: ds, acc, ρ => (match g d ρ with
    | some ρ1 => (match tt ρ1 with
      | some (true, ρ2) => (match te ρ2 with
        | some (y, ρ3) => (match wipeO ρ3 vs with
          | some ρ4 => if acc.length < szL then mLcL vs g tt te ds (acc ++ [y]) ρ4 else none
          | none => none)
        | none => none)
      | some (false, ρ2) => (match wipeO ρ2 vs with
        | some ρ4 => mLcL vs g tt te ds acc ρ4
        | none => none)
      | none => none)
    | none => none)
def ownsNo (ρ : Rho) (vs : List Nat) : Bool := vs.all fun i => match ρ[i]? with
  | some (.own _ _) => false
  | _ => true
def mLc (mi : MI) (vs : List Nat) (g : MG) (tt : MT) (te : ME) : MS := fun ρ => match mi ρ with
  | some (ds, ρ1) => (match wipeO ρ1 vs with
    | some ρ2 => (match mLcL vs g tt te ds [] ρ2 with
      | some (acc, ρe) => if ownsNo ρe vs = true then some (.own false (.lst acc), restO ρe ρ1 vs) else none
      | none => none)
    | none => none)
  | none => none
theorem ownsNo_of {ρ : Rho} {vs : List Nat} (h : ownsNo ρ vs = true) : ∀ i ∈ vs, ∀ p o, ρ[i]? ≠ some (.own p o) := fun i hi p o e => by
  unfold ownsNo at h
  have q := List.all_eq_true.mp h i hi
  rw [e] at q
  cases q
structure XTs (X : Cx) (ifs : List Expr) (m : MT) : Prop where pts : PTs X ifs (tT X.K m)
def mYes : MT := fun ρ => some (true, ρ)
theorem xts_nil {X : Cx} : XTs X [] mYes := ⟨⟨fun pins s σ H Q I h => pts_nil.run pins s σ H Q I (by
  obtain ⟨F, ρ, b, ρ', c, e, k⟩ := h
  cases e
  exact k F H c (.refl _ _ _ _))⟩⟩
theorem xts_one {X : Cx} {c : Expr} {m : MT} (h : XT X c m) : XTs X [c] m := ⟨pts_one h.pt⟩
theorem t_lc {K : PySem.W.Frag} {vs ws : List Nat} {mi : MI} {g : MG} {tt : MT} {te : ME} (sub : ∀ i ∈ ws, i ∈ vs) (σ : L2.St) (H : Hp) (Q : VK) (h : tS K (mLc mi vs g tt te) σ H Q) : tLc (tI K mi) (tG K ws g) (tT K tt) (tD K te) vs σ H Q := by
  obtain ⟨F, ρ, s, ρ', c0, e, k⟩ := h
  unfold mLc at e
  split at e
  · rename_i ds ρ1 h1
    split at e
    · rename_i ρ2 h2
      split at e
      · rename_i res ρe h3
        split at e
        · rename_i hun
          cases e
          refine ⟨F, ρ, ds, ρ1, c0, h1, fun J F1 H1 c1 s1 it => ?_⟩
          intro D hD
          have gr : Grow F1 H1 F1 (upd H1 D (.lst [])) := .mine c1.ex hD
          have c1' := gr.cfg c1
          have s1' : Stp σ ρ1 F1 H1 σ ρ1 F1 (upd H1 D (.lst [])) := gr.stp
          obtain ⟨c2, s2⟩ := c1'.wipe h2
          refine ⟨fun i m H' => m = ds.length - i ∧ i ≤ ds.length ∧ ∃ F2 ρx acc accD, Cfg K F2 H' (L2.wipe σ vs) ρx ∧ Stp σ ρ1 F1 H1 (L2.wipe σ vs) ρx F2 H' ∧ H' D = some (.lst acc) ∧ RpAll K F2 acc accD ∧ F2 D = none ∧ ¬ Owns (L2.wipe σ vs) ρx D ∧ mLcL vs g tt te (ds.drop i) accD ρx = some (res, ρe),
            ⟨ds.length, by simp, Nat.zero_le _, F1, ρ2, [], [], c2, s1'.trans s2, upd_same, .nil, c1.ex.free hD, fun z => ?_, by rw [List.drop_zero]; exact h3⟩, ?_⟩
          · rcases s2.own D z with y | y
            · exact (c1.own y).2 hD
            · rw [upd_same] at y
              cases y
          rintro i m H' ⟨rfl, hi, F2, ρx, acc, accD, cx, sx, hacc, racc, fD, nD, ex⟩
          obtain ⟨go, stop⟩ := it i F2 H' sx.exF cx.ex
          by_cases hl : i < ds.length
          · obtain ⟨g1, y1⟩ := go _ (List.getElem?_eq_getElem hl)
            rw [List.drop_eq_getElem_cons hl] at ex
            unfold mLcL at ex
            split at ex
            · rename_i ρg hg
              refine .inr ⟨g1, fun H'' => ∃ F3 ρy acc' accD', Cfg K F3 H'' (L2.wipe σ vs) ρy ∧ Stp σ ρ1 F1 H1 (L2.wipe σ vs) ρy F3 H'' ∧ H'' D = some (.lst acc') ∧ RpAll K F3 acc' accD' ∧ F3 D = none ∧ ¬ Owns (L2.wipe σ vs) ρy D ∧ mLcL vs g tt te (ds.drop (i + 1)) accD' ρy = some (res, ρe), fun H'' hN => ⟨ds.length - (i + 1), by omega, rfl, hl, hN⟩, fun x H3 y => ?_⟩
              obtain ⟨F3, gr3, rx⟩ := y1 x H3 y
              refine ⟨F3, ρx, _, ρg, gr3.cfg cx, rx, hg, fun σ4 F4 H4 o4 c4 s4 => ⟨wipe_off o4 sub, ?_⟩⟩
              have s34 := (gr3.stp (σ := L2.wipe σ vs) (ρ := ρx)).trans s4
              -- the list at D stands
              have keep : ∀ {σ5 : L2.St} {ρ5 : Rho} {F5 H5 : Hp}, Stp (L2.wipe σ vs) ρx F2 H' σ5 ρ5 F5 H5 → H5 D = some (.lst acc) ∧ F5 D = none ∧ ¬ Owns σ5 ρ5 D := fun {σ5 ρ5 F5 H5} s5 => by
                refine ⟨s5.fr D _ hacc nD, ?_, fun z => ?_⟩
                · cases q : F5 D with
                  | none => rfl
                  | some u =>
                    rcases s5.nF D fD (by rw [q]; simp) with y | y
                    · rw [hacc] at y
                      cases y
                    · exact absurd y nD
                · rcases s5.own D z with y | y
                  · exact nD y
                  · rw [hacc] at y
                    cases y
              split at ex
              · rename_i ρt ht
                refine ⟨F4, ρg, true, ρt, c4, ht, fun F5 H5 c5 s5 => iteT ?_⟩
                split at ex
                · rename_i y ρ6 h6
                  split at ex
                  · rename_i ρ7 h7
                    split at ex
                    · rename_i hz
                      refine ⟨F5, ρt, y, ρ6, c5, h6, fun v F6 H6 c6 s6 r6 => ?_⟩
                      have s26 := s34.trans (s5.trans s6)
                      obtain ⟨kD, kF, kN⟩ := keep s26
                      refine ⟨acc, kD, by rw [szL_eq, racc.length]; exact hz, ?_⟩
                      obtain ⟨c7, s7⟩ := c6.wipe h7
                      rw [wipe_off o4 sub] at c7 s7
                      -- D is changed, nobody but us knows it
                      have s27 := s26.trans s7
                      obtain ⟨_, kF7, kN7⟩ := keep s27
                      have mono : Ex F6 (upd H6 D (.lst (acc ++ [v]))) := fun b o q => by
                        have nb : b ≠ D := fun z => by
                          rw [z, kF] at q
                          cases q
                        rw [upd_ne nb]
                        exact c7.ex b o q
                      refine ⟨F6, ρ7, acc ++ [v], _, ⟨mono, c7.len, fun j t hj => ?_, c7.sep⟩, ⟨(sx.trans s27).exF, fun b o hb n => ?_, fun b hb => ?_, (sx.trans s27).nF, (sx.trans s27).own, (sx.trans s27).ownU, (sx.trans s27).pin⟩, upd_same, (racc.ex (s26.exF)).append (.cons r6 .nil), kF, kN7, ex⟩
                      · have q := c7.sl j t hj
                        cases t with
                        | un => trivial
                        | val d => exact q
                        | own p o =>
                          obtain ⟨b, e1, f1, at1⟩ := q
                          have nb : b ≠ D := fun z => kN7 ⟨j, p, o, hj, by rw [e1, z]⟩
                          exact ⟨b, e1, f1, at1.mono (.refl _) (upd_ne nb)⟩
                      · have nb : b ≠ D := fun z => by
                          rw [z, hD] at hb
                          cases hb
                        rw [upd_ne nb]
                        exact (sx.trans s27).fr b o hb n
                      · have nb : b ≠ D := fun z => hb (by rw [z]; exact hD)
                        rw [upd_ne nb]
                        exact (sx.trans s27).th b hb
                    · cases ex
                  · cases ex
                · cases ex
              · rename_i ρt ht
                refine ⟨F4, ρg, false, ρt, c4, ht, fun F5 H5 c5 s5 => iteF ?_⟩
                split at ex
                · rename_i ρ7 h7
                  obtain ⟨c7, s7⟩ := c5.wipe h7
                  rw [wipe_off o4 sub] at c7 s7
                  have s27 := s34.trans (s5.trans s7)
                  obtain ⟨kD, kF, kN⟩ := keep s27
                  exact ⟨F5, ρ7, acc, accD, c7, sx.trans s27, kD, racc.ex s27.exF, kF, kN, ex⟩
                · cases ex
              · cases ex
            · cases ex
          · have z : i = ds.length := by omega
            subst z
            rw [List.drop_length] at ex
            cases ex
            refine .inl ⟨stop (Nat.le_refl _), ?_⟩
            obtain ⟨c8, s8⟩ := c1.rest h2 cx sx (ownsNo_of hun)
            refine k _ F2 H' c8 (s1.trans s8) ⟨rfl, D, rfl, fD, .inl (none_of_th s1.th hD), fun z => ?_, acc, hacc, racc⟩
            rcases s8.own D z with y | y
            · exact (c1.own y).2 hD
            · obtain ⟨jj, pp, oo, m1, m2⟩ := z
              exact (c8.own ⟨jj, pp, oo, m1, m2⟩).2 |> fun q => by
                have q9 := c8.sl jj _ m1
                rw [m2] at q9
                obtain ⟨bb, e9, _, _⟩ := q9
                cases e9
                exact nD (by
                  have e10 := restO_get ρe ρ1 vs jj (by
                    have := (List.getElem?_eq_some_iff.mp m1).1
                    rwa [restO_len] at this)
                  rw [m1] at e10
                  by_cases y9 : jj ∈ vs
                  · rw [if_pos y9] at e10
                    refine absurd ?_ (wipeO_own h2 jj y9 pp oo)
                    rw [List.getD_eq_getElem?_getD] at e10
                    cases z9 : ρ1[jj]? with
                    | none => rw [z9] at e10; cases e10
                    | some w => rw [z9] at e10; exact e10.symm
                  · rw [if_neg y9] at e10
                    exact ⟨jj, pp, oo, e10.symm, by rw [wipe_get, if_neg (fun q => y9 q.1)]; exact m2⟩)
        · cases e
      · cases e
    · cases e
  · cases e
section
variable {X : Cx} {elt tg iter : Expr} {ifs : List Expr} {scope : Scope} {own : List (Str × Nat)} {pos spos : Pos} {ws : List Nat} {mi : MI} {g : MG} {tt : MT} {te : ME}
theorem xs_lc (hc : X.calm = true) (hN : X.N.Nodup) (hi : XI X tg iter mi) (ok : BlkOk X.N X.env.scope scope own)
    (hg : ∀ (s : Shared) (H : Hp) (C : Addr) (cl : List (Str × Addr)) (fp : List Addr), XG (X.blk s H scope (compEnvC scope cl C X.env) fp) tg ws g) (ht : ∀ (s : Shared) (H : Hp) (C : Addr) (cl : List (Str × Addr)) (fp : List Addr), XTs (X.blk s H scope (compEnvC scope cl C X.env) fp) ifs tt)
    (he : ∀ (s : Shared) (H : Hp) (C : Addr) (cl : List (Str × Addr)) (fp : List Addr), XD (X.blk s H scope (compEnvC scope cl C X.env) fp) elt te) (sub : ∀ i ∈ ws, i ∈ own.map (·.2) := by decide) (hs : ∀ x, foldedSetIterable iter X.env x = pure x := by intro _; rfl) :
    XS X (.ListComp elt [⟨tg, iter, ifs, 0⟩] scope pos) (mLc mi (own.map (·.2)) g tt te) :=
  ⟨pe_imp (pe_lc hc hN hi.pi ok (fun s H C cl fp => (hg s H C cl fp).pg) (fun s H C cl fp => (ht s H C cl fp).pts) (fun s H C cl fp => (he s H C cl fp).pe) hs) (t_lc sub)⟩
theorem xp_setLc {i : Nat} {y : Str} {py : Pos} (hc : X.calm = true) (hN : X.N.Nodup) (hi : XI X tg iter mi) (ok : BlkOk X.N X.env.scope scope own)
    (hg : ∀ (s : Shared) (H : Hp) (C : Addr) (cl : List (Str × Addr)) (fp : List Addr), XG (X.blk s H scope (compEnvC scope cl C X.env) fp) tg ws g) (ht : ∀ (s : Shared) (H : Hp) (C : Addr) (cl : List (Str × Addr)) (fp : List Addr), XTs (X.blk s H scope (compEnvC scope cl C X.env) fp) ifs tt)
    (he : ∀ (s : Shared) (H : Hp) (C : Addr) (cl : List (Str × Addr)) (fp : List Addr), XD (X.blk s H scope (compEnvC scope cl C X.env) fp) elt te) (hsw : swapsWith (.ListComp elt [⟨tg, iter, ifs, 0⟩] scope pos) (some (.Name y py)) spos.line X.env = pure true)
    (hy : X.N[i]? = some y := by rfl) (hyl : X.env.scope.names.lookup y = some .local := by rfl) (sub : ∀ i ∈ ws, i ∈ own.map (·.2) := by decide) (hs : ∀ x, foldedSetIterable iter X.env x = pure x := by intro _; rfl) :
    XP X (.Assign [.Name y py] (.ListComp elt [⟨tg, iter, ifs, 0⟩] scope pos) spos) (mAsg i (mLc mi (own.map (·.2)) g tt te)) :=
  ⟨ps_imp (ps_setLc hc hN hy hyl hsw hi.pi ok (fun s H C cl fp => (hg s H C cl fp).pg) (fun s H C cl fp => (ht s H C cl fp).pts) (fun s H C cl fp => (he s H C cl fp).pe) hs) fun E σ H h => by
    have q := t_asg E σ H h
    exact t_lc sub σ H _ q⟩
end
end Mr

set_option Elab.async false
set_option linter.all false
set_option maxRecDepth 100000
set_option maxHeartbeats 2000000
/-! Mir8: a, b, .. = x, y, .. where the right side's own objects stay the names' own. -/
namespace Mr
open PySem PySem.Spec PyProof.Rows L2

/-- the address of a value that is an own object -/
def oA : V → Slot → Option Addr
  | .ref a, .own _ _ => some a
  | _, _ => none
inductive VsOk (K : PySem.W.Frag) (σ : L2.St) (ρ : Rho) (H : Hp) (σ' : L2.St) (ρ' : Rho) (F' H' : Hp) : List V → List Slot → Prop
  | nil : VsOk K σ ρ H σ' ρ' F' H' [] []
  | cons {v : V} {vs : List V} {s : Slot} {ss : List Slot} : VOk K σ ρ H σ' ρ' F' H' v s → VsOk K σ ρ H σ' ρ' F' H' vs ss → (∀ a, oA v s = some a → ∀ (i : Nat) w t, vs[i]? = some w → ss[i]? = some t → oA w t ≠ some a) → VsOk K σ ρ H σ' ρ' F' H' (v :: vs) (s :: ss)
abbrev MAS := Rho → Option (List Slot × Rho)
def tAS (K : PySem.W.Frag) (m : MAS) : TA := fun σ H Q => ∃ F ρ ss ρ', Cfg K F H σ ρ ∧ m ρ = some (ss, ρ') ∧ ∀ vs F' H', Cfg K F' H' σ ρ' → Stp σ ρ F H σ ρ' F' H' → VsOk K σ ρ H σ ρ' F' H' vs ss → Q vs H'
structure XAS (X : Cx) (es : List Expr) (m : MAS) : Prop where pa : PA X es (tAS X.K m)
def msNil : MAS := fun ρ => some ([], ρ)
def msCons (m : MS) (r : MAS) : MAS := fun ρ => match m ρ with
  | some (s, ρ1) => (match r ρ1 with
    | some (ss, ρ2) => some (s :: ss, ρ2)
    | none => none)
  | none => none
section
variable {K : PySem.W.Frag} {σ σ1 σ2 : L2.St} {ρ ρ1 ρ2 : Rho} {F F1 F2 H H1 H2 : Hp}
theorem VsOk.back (st : Stp σ ρ F H σ1 ρ1 F1 H1) : ∀ {vs : List V} {ss : List Slot}, VsOk K σ1 ρ1 H1 σ2 ρ2 F2 H2 vs ss → VsOk K σ ρ H σ2 ρ2 F2 H2 vs ss
  | _, _, .nil => .nil
  | _, _, .cons h t n => .cons (h.back st) (VsOk.back st t) n
/-- an own value stays what it is while others are reckoned -/
theorem VOk.fwd {v : V} (st : Stp σ1 ρ1 F1 H1 σ2 ρ2 F2 H2) : ∀ {s : Slot}, VOk K σ ρ H σ1 ρ1 F1 H1 v s → VOk K σ ρ H σ2 ρ2 F2 H2 v s
  | .un, h => h
  | .val _, h => Rp.ex h st.exF
  | .own _ _, ⟨h1, a, h2, h3, h4, h5, h6⟩ => by
    have th := h6.there
    have n1 : ∀ u, H1 a = u → u ≠ none := fun u e z => th (e.trans z)
    refine ⟨h1, a, h2, ?_, h4, fun z => ?_, h6.mono st.exF ?_⟩
    · cases q : F2 a with
      | none => rfl
      | some u =>
        rcases st.nF a h3 (by rw [q]; simp) with y | y
        · exact absurd y th
        · exact absurd y h5
    · rcases st.own a z with y | y
      · exact h5 y
      · exact th y
    · cases q : H1 a with
      | none => exact absurd q th
      | some o => exact st.fr a o q h5
theorem VOk.oA_new {v : V} {s : Slot} {a : Addr} (h : VOk K σ ρ H σ1 ρ1 F1 H1 v s) (e : oA v s = some a) : (H a = none ∨ OwnsU σ ρ a) ∧ H1 a ≠ none ∧ ¬ Owns σ1 ρ1 a := by
  cases s with
  | un => cases h
  | val d => cases v <;> cases e
  | own p o =>
    obtain ⟨h1, b, rfl, h3, h4, h5, h6⟩ := h
    cases e
    exact ⟨h4, h6.there, h5⟩
theorem VsOk.get {vs : List V} {ss : List Slot} (h : VsOk K σ ρ H σ1 ρ1 F1 H1 vs ss) : ∀ {i : Nat} {w : V} {t : Slot}, vs[i]? = some w → ss[i]? = some t → VOk K σ ρ H σ1 ρ1 F1 H1 w t := by
  induction h with
  | nil => intro i w t e; simp at e
  | cons h1 h2 h3 ih =>
    intro i w t e1 e2
    cases i with
    | zero => simp at e1 e2; subst e1; subst e2; exact h1
    | succ i => exact ih (i := i) (by simpa using e1) (by simpa using e2)
end
section
variable {X : Cx} {e : Expr} {es : List Expr} {m : MS} {r : MAS}
theorem xas_nil : XAS X [] msNil := ⟨pa_imp pa_nil fun σ H Q h => by
  obtain ⟨F, ρ, ds, ρ', c, e, k⟩ := h
  cases e
  exact k _ F H c (.refl _ _ _ _) .nil⟩
theorem xas_cons (h : XS X e m) (hr : XAS X es r) (hs : starEach (e :: es) X.env = (false, eval e X.env) :: starEach es X.env := by rfl) : XAS X (e :: es) (msCons m r) := ⟨pa_imp (pa_cons h.pe hr.pa hs) fun σ H Q h => by
  obtain ⟨F, ρ, ds, ρ', c, e, k⟩ := h
  unfold msCons at e
  split at e
  · rename_i s ρ1 h1
    split at e
    · rename_i ss ρ2 h2
      cases e
      refine ⟨F, ρ, s, ρ1, c, h1, fun v F1 H1 c1 s1 r1 => ?_⟩
      refine ⟨F1, ρ1, ss, _, c1, h2, fun vs F2 H2 c2 s2 r2 => ?_⟩
      refine k _ F2 H2 c2 (s1.trans s2) (.cons (r1.fwd s2) (r2.back s1) fun a ha i w t e1 e2 ht => ?_)
      obtain ⟨_, n2, n3⟩ := r1.oA_new ha
      obtain ⟨n4, _, _⟩ := (r2.get e1 e2).oA_new ht
      rcases n4 with y | y
      · exact n2 y
      · exact n3 y.owns
    · cases e
  · cases e⟩
end
/-- the slots in turn -/
def putS : List Nat → List Slot → Rho → Option Rho
  | [], [], ρ => some ρ
  | i :: is, s :: ss, ρ => if unpin ρ i = true then putS is ss (ρ.set i s) else none
  | _, _, _ => none
def setAll : List Nat → List V → L2.St → L2.St
  | i :: is, v :: vs, σ => setAll is vs (σ.set i (some v))
  | _, _, σ => σ
theorem putS_ok {K : PySem.W.Frag} {F H : Hp} {σ0 : L2.St} {ρ0 : Rho} {F' H' : Hp} : ∀ {is : List Nat} {ss : List Slot} {vs : List V} {σ : L2.St} {ρ ρ' : Rho}, putS is ss ρ = some ρ' → Cfg K F' H' σ ρ → Stp σ0 ρ0 F H σ ρ F' H' → VsOk K σ0 ρ0 H σ ρ F' H' vs ss →
    vs.length = is.length ∧ Cfg K F' H' (setAll is vs σ) ρ' ∧ Stp σ0 ρ0 F H (setAll is vs σ) ρ' F' H'
  | [], [], vs, σ, ρ, ρ', e, c, st, q => by
    cases e
    cases q
    exact ⟨rfl, c, st⟩
  | i :: is, s :: ss, vs, σ, ρ, ρ', e, c, st, q => by
    unfold putS at e
    split at e
    · rename_i u
      cases q with
      | cons h t n =>
        rename_i v vs
        obtain ⟨c1, s1⟩ := c.store st h u
        -- the others stay what they are
        have il : i < ρ.length := by
          unfold unpin at u
          split at u
          · cases u
          · rename_i h; exact (List.getElem?_eq_some_iff.mp h).1
          · cases u
        have t' : VsOk K σ0 ρ0 H (σ.set i (some v)) (ρ.set i s) F' H' vs ss := by
          clear e
          induction t with
          | nil => exact .nil
          | cons h1 t1 n1 ih =>
            rename_i w ws t0 ts
            refine .cons ?_ (ih (fun a ha j w' t' e1 e2 => n a ha (j + 1) w' t' (by simpa using e1) (by simpa using e2))) n1
            cases t0 with
            | un => exact h1
            | val d => exact h1
            | own p o =>
              obtain ⟨z1, a, z2, z3, z4, z5, z6⟩ := h1
              refine ⟨z1, a, z2, z3, z4, fun z => ?_, z6⟩
              obtain ⟨j, p', o', m1, m2⟩ := z
              by_cases y : j = i
              · subst y
                rw [List.getElem?_set_self il] at m1
                rw [List.getElem?_set_self (by rw [← c.len]; exact il)] at m2
                cases m1
                cases m2
                exact n a rfl 0 w (.own p o) (by simp) (by simp) (by rw [z2]; rfl)
              · rw [List.getElem?_set_ne (Ne.symm y)] at m1 m2
                exact z5 ⟨j, p', o', m1, m2⟩
        obtain ⟨l, r1, r2⟩ := putS_ok e c1 s1 t'
        exact ⟨by simp [l], r1, r2⟩
    · cases e
  | [], _ :: _, _, _, _, _, e, _, _, _ => by cases e
  | _ :: _, [], _, _, _, _, e, _, _, _ => by cases e
def mParS (is : List Nat) (m : MAS) : MSt := fun ρ => match m ρ with
  | some (ss, ρ1) => if ss.length ≤ 100 then (match putS is ss ρ1 with
    | some ρ2 => some (.nx, ρ2)
    | none => none) else none
  | none => none
/-- names that are stored -/
def gNames : List Nat → TGs
  | [] => gNil
  | i :: is => gCons (gName i) (gNames is)
theorem gNames_ok : ∀ {is : List Nat} {vs : List V} {σ : L2.St} {H : Hp} {Q : L2.St → Hp → Prop}, vs.length = is.length → Q (setAll is vs σ) H → gNames is vs σ H Q
  | [], [], σ, H, Q, _, q => ⟨rfl, q⟩
  | i :: is, v :: vs, σ, H, Q, l, q => ⟨v, vs, rfl, gNames_ok (is := is) (by simpa using l) q⟩
  | [], _ :: _, _, _, _, l, _ => by simp at l
  | _ :: _, [], _, _, _, l, _ => by simp at l
theorem VsOk.length {K : PySem.W.Frag} {σ σ1 : L2.St} {ρ ρ1 : Rho} {F1 H H1 : Hp} {vs : List V} {ss : List Slot} (h : VsOk K σ ρ H σ1 ρ1 F1 H1 vs ss) : vs.length = ss.length := by
  induction h with
  | nil => rfl
  | cons _ _ _ ih => simp [ih]
theorem VsOk.grow {K : PySem.W.Frag} {σ σ1 : L2.St} {ρ ρ1 : Rho} {F1 H H1 H2 : Hp} {vs : List V} {ss : List Slot} (g : Grow F1 H1 F1 H2) (h : VsOk K σ ρ H σ1 ρ1 F1 H1 vs ss) : VsOk K σ ρ H σ1 ρ1 F1 H2 vs ss := by
  induction h with
  | nil => exact .nil
  | cons h1 _ n ih => exact .cons (h1.fwd g.stp) ih n
section
variable {X : Cx} {pos : Pos}
/-- (a, b, ..) = (x, y, ..): the pair is made, nobody keeps it -/
theorem xp_tupS {es ts : List Expr} {is : List Nat} {m : MAS} {kt k2 : Nat} {pt pt2 : Pos} (hc : X.calm = true) (ha : XAS X es m) (hg : PGs X ts (gNames is)) (hn : (assignEach ts X.env).length = is.length := by rfl) (hst : (assignEach ts X.env).findIdx? (·.1) = none := by rfl)
    (hs : swapsWithSole [.Tuple ts kt pt] (.Tuple es k2 pt2) pos.line X.env = pure false := by rfl) (hw : swappedStores [.Tuple ts kt pt] (.Tuple es k2 pt2) X.env = pure none := by rfl)
    (h1 : (assignEach [.Tuple ts kt pt] X.env).map (·.2) = [assign (.Tuple ts kt pt) X.env] := by rfl) : XP X (.Assign [.Tuple ts kt pt] (.Tuple es k2 pt2) pos) (mParS is m) := ⟨ps_imp (ps_asg (pe_tup ha.pa) (pg_tup hc hg hn hst) hs hw h1) fun E σ H h => by
  obtain ⟨F, ρ, o, ρ', c, e, k⟩ := h
  unfold mParS at e
  split at e
  · rename_i ss ρ1 h1
    split at e
    · rename_i hz
      split at e
      · rename_i ρ2 h2
        cases e
        refine ⟨F, ρ, ss, ρ1, c, h1, fun vs F1 H1 c1 s1 r1 => ⟨?_, fun p hp => ?_⟩⟩
        · rw [szL_eq, r1.length]
          exact Nat.le_trans hz (by decide)
        · have g : Grow F1 H1 F1 (upd H1 p (.tup vs)) := .mine c1.ex hp
          obtain ⟨l, c2, s2⟩ := putS_ok h2 (g.cfg c1) (s1.trans g.stp) (r1.grow g)
          exact ⟨p, vs, rfl, SqT.of upd_same, l, gNames_ok l (k _ F1 _ c2 s2)⟩
      · cases e
    · cases e
  · cases e⟩
theorem pgs_nm0 : PGs X [] (gNames []) := pgs_nil
theorem pgs_nm {i : Nat} {is : List Nat} {x : Str} {ts : List Expr} (hN : X.N.Nodup) (hr : PGs X ts (gNames is)) (hi : X.N[i]? = some x := by rfl) (hx : Loc X.env.scope x := by first | exact Or.inl rfl | exact Or.inr rfl) (hf : X.fn x = true ∨ X.env.scope.names.lookup x = some .local := by first | exact .inl rfl | exact .inr rfl | assumption)
    (hs : (assignEach (.Name x pos :: ts) X.env).map (·.2) = assign (.Name x pos) X.env :: (assignEach ts X.env).map (·.2) := by rfl) : PGs X (.Name x pos :: ts) (gNames (i :: is)) := pgs_cons (pg_name hN hi hx hf) hr hs
theorem xp_parS {i j : Nat} {x y : Str} {a b : Expr} {m : MAS} {px py pt : Pos} {kt k2 pt2} (hc : X.calm = true) (hN : X.N.Nodup) (hij : i ≠ j) (ha : XAS X [a, b] m) (hi : X.N[i]? = some x := by rfl) (hj : X.N[j]? = some y := by rfl)
    (hx : X.env.scope.names.lookup x = some .local := by rfl) (hy : X.env.scope.names.lookup y = some .local := by rfl)
    (hw : swappedStores [.Tuple [.Name x px, .Name y py] kt pt] (.Tuple [a, b] k2 pt2) X.env = pure (some [x, y]) := by rfl)
    (hs : swapsWithSole [.Tuple [.Name x px, .Name y py] kt pt] (.Tuple [a, b] k2 pt2) pos.line X.env = pure false := by rfl) :
    XP X (.Assign [.Tuple [.Name x px, .Name y py] kt pt] (.Tuple [a, b] k2 pt2) pos) (mParS [i, j] m) := ⟨ps_imp (ps_par hc hN hi hj hij hx hy ha.pa hw hs) fun E σ H h => by
  obtain ⟨F, ρ, o, ρ', c, e, k⟩ := h
  unfold mParS at e
  split at e
  · rename_i ss ρ1 h1
    split at e
    · split at e
      · rename_i ρ2 h2
        cases e
        refine ⟨F, ρ, ss, ρ1, c, h1, fun vs F1 H1 c1 s1 r1 => ?_⟩
        obtain ⟨l, c2, s2⟩ := putS_ok h2 c1 s1 r1
        match vs, l with
        | [v, w], _ => exact ⟨v, w, rfl, k _ F1 _ c2 s2⟩
      · cases e
    · cases e
  · cases e⟩
theorem xp_parS3 {i j l : Nat} {x y z : Str} {a b c : Expr} {m : MAS} {px py pz pt : Pos} {kt k2 pt2} (hc : X.calm = true) (hN : X.N.Nodup) (hij : i ≠ j) (hil : i ≠ l) (hjl : j ≠ l) (ha : XAS X [a, b, c] m) (hi : X.N[i]? = some x := by rfl) (hj : X.N[j]? = some y := by rfl) (hl : X.N[l]? = some z := by rfl)
    (hx : X.env.scope.names.lookup x = some .local := by rfl) (hy : X.env.scope.names.lookup y = some .local := by rfl) (hz : X.env.scope.names.lookup z = some .local := by rfl)
    (hw : swappedStores [.Tuple [.Name x px, .Name y py, .Name z pz] kt pt] (.Tuple [a, b, c] k2 pt2) X.env = pure (some [x, y, z]) := by rfl)
    (hs : swapsWithSole [.Tuple [.Name x px, .Name y py, .Name z pz] kt pt] (.Tuple [a, b, c] k2 pt2) pos.line X.env = pure false := by rfl) :
    XP X (.Assign [.Tuple [.Name x px, .Name y py, .Name z pz] kt pt] (.Tuple [a, b, c] k2 pt2) pos) (mParS [i, j, l] m) := ⟨ps_imp (ps_par3 hc hN hi hj hl hij hil hjl hx hy hz ha.pa hw hs) fun E σ H h => by
  obtain ⟨F, ρ, o, ρ', c, e, k⟩ := h
  unfold mParS at e
  split at e
  · rename_i ss ρ1 h1
    split at e
    · split at e
      · rename_i ρ2 h2
        cases e
        refine ⟨F, ρ, ss, ρ1, c, h1, fun vs F1 H1 c1 s1 r1 => ?_⟩
        obtain ⟨l, c2, s2⟩ := putS_ok h2 c1 s1 r1
        match vs, l with
        | [u, v, w], _ => exact ⟨u, v, w, rfl, k _ F1 _ c2 s2⟩
      · cases e
    · cases e
  · cases e⟩
end
end Mr

set_option Elab.async false
set_option linter.all false
set_option maxRecDepth 100000
set_option maxHeartbeats 2000000
/-! Mir9: what a generated text leans on: defs as they stand, the built-ins' names, short forms. -/
namespace Mr
open PySem PySem.Spec PyProof.Rows L2

/-- the built-in names that the text leaves as they are -/
structure Bt (mg : Str → Option Value) : Prop where
  len : mg "len" = none
  abs : mg "abs" = none
  max : mg "max" = none
  min : mg "min" = none
  int : mg "int" = none
  str : mg "str" = none
  list : mg "list" = none
  tuple : mg "tuple" = none
  all : mg "all" = none
  any : mg "any" = none
  isinstance : mg "isinstance" = none
  range : mg "range" = none
  enumerate : mg "enumerate" = none
  zip : mg "zip" = none
  sorted : mg "sorted" = none
  dict : mg "dict" = none
  bool : mg "bool" = none
theorem bb_abs : bootBuiltins "abs" = some (.builtin "abs") := by decide +kernel
theorem bb_max : bootBuiltins "max" = some (.builtin "max") := by decide +kernel
theorem bb_min : bootBuiltins "min" = some (.builtin "min") := by decide +kernel
theorem bb_all : bootBuiltins "all" = some (.builtin "all") := by decide +kernel
theorem bb_any : bootBuiltins "any" = some (.builtin "any") := by decide +kernel
theorem bb_sorted : bootBuiltins "sorted" = some (.builtin "sorted") := by decide +kernel
theorem bb_int : bootBuiltins "int" = some (.type "int") := by decide +kernel
theorem bb_str : bootBuiltins "str" = some (.type "str") := by decide +kernel
theorem bb_list : bootBuiltins "list" = some (.type "list") := by decide +kernel
theorem bb_tuple : bootBuiltins "tuple" = some (.type "tuple") := by decide +kernel
theorem bb_dict : bootBuiltins "dict" = some (.type "dict") := by decide +kernel
theorem bb_bool : bootBuiltins "bool" = some (.type "bool") := by decide +kernel

/-- the def x of the text, as it stands -/
structure At (K : PySem.W.Frag) (mg : Str → Option Value) (x : Str) (st : Stmt) (ps : List Str) (f : Addr) (fd : FuncData) : Prop where
  F : Fun K x x st f fd
  g : mg x = some (.ref f)
  b : Binds K fd ps []
def Is (K : PySem.W.Frag) (mg : Str → Option Value) (x : Str) (st : Stmt) (ps : List Str) : Prop := ∃ f fd, At K mg x st ps f fd
/-- it keeps to its mirror -/
structure Has (P : Program) (w : World) (K : PySem.W.Frag) (mg : Str → Option Value) (base : Heap) (x : Str) (k n : Nat) (g : Fn) : Prop where
  ex : ∃ f fd ps, mg x = some (.ref f) ∧ PySem.W.keepIn K (.ref f) = true ∧ Binds K fd ps [] ∧ FnOk P w K mg base CX0 k f fd ps (spM K n g)
section
variable {P : Program} {w : World} {K : PySem.W.Frag} {mg : Str → Option Value} {base : Heap} {x : Str} {st : Stmt} {ps : List Str} {k k' n : Nat} {g : Fn}
theorem Has.mono (h : Has P w K mg base x k n g) (l : k ≤ k') : Has P w K mg base x k' n g := by
  obtain ⟨f, fd, ps, h1, h2, h3, h4⟩ := h.ex
  exact ⟨f, fd, ps, h1, h2, h3, h4.mono l⟩
theorem Has.none (h : Is K mg x st ps) (hn : ps.length = n) : Has P w K mg base x k n (fun _ => none) := by
  obtain ⟨f, fd, a⟩ := h
  refine ⟨f, fd, ps, a.g, a.F.kp, a.b, spM_len hn.symm, fun A outer s H args us vs Q E _ _ _ _ q => ?_⟩
  obtain ⟨_, F, ρ, s, ρ', _, _, _, e, _⟩ := q
  cases e
theorem has_mk {N : List Str} {b : MSt} (h : Is K mg x st ps) (S : FnScope N ps (defScope st)) (hn : ps.length = n) (hN : n ≤ N.length)
    (hbody : ∀ (f : Addr) (cdv : Value) (A : Around) (outer : List Env) (s : Shared) (H : Hp) (E : XK), Room k (A.deeper (envOfC x (defScope st) s.heap.objs.size f cdv)) →
      XPs (cxOf CX0 P w K mg base N x (defScope st) f cdv A outer s H E).nox (defBody st) b) : Has P w K mg base x (k + 1) n (mFn N.length n b) := by
  obtain ⟨f, fd, a⟩ := h
  exact ⟨f, fd, ps, a.g, a.F.kp, a.b, fn_ok a.F S hn hN fun cdv A outer s H E hr => hbody f cdv A outer s H E hr⟩
end
theorem xs_callH {X : Cx} {k n : Nat} {x : Str} {p pos : Pos} {e : Expr} {es : List Expr} {g : Fn} {ma : MAB} (G : Has X.prog X.w X.K X.mg X.base x k n g) (hr : Room k X.A) (ha : XAB X (e :: es) ma) (hg : Gl X x := by rfl) (hdb : (x == ("__debug__" : Str)) = false := by decide) (he : starEach (e :: es) X.env = (false, eval e X.env) :: starEach es X.env := by rfl) (hpl : (backTo pos (starEach es X.env)).any (·.1) = false := by rfl) :
    XS X (.Call (.Name x p) (e :: es) [] pos) (mCall n g ma) := by
  obtain ⟨f, fd, ps, h1, h2, h3, h4⟩ := G.ex
  exact xs_call h4 hr h1 h2 h3 ha hg hdb he hpl
/-- what is walked, by its kind -/
def mIQ (m : ME) : MI := fun ρ => match m ρ with
  | some (.lst ds, ρ1) => some (ds, ρ1)
  | some (.rl ds, ρ1) => some (ds, ρ1)
  | some (.tup ds, ρ1) => some (ds, ρ1)
  | some (.str s, ρ1) => some (signsD s, ρ1)
  | _ => none
theorem xi_seq {X : Cx} {tg e : Expr} {m : ME} (h : XD X e m) : XI X tg e (mIQ m) := ⟨⟨fun pins s σ H R I q => by
  obtain ⟨F, ρ, ds, ρ', c, e1, k⟩ := q
  unfold mIQ at e1
  split at e1
  · rename_i es ρ1 h1
    cases e1
    exact (xi_list h).pi.run pins s σ H R I ⟨F, ρ, _, _, c, by unfold mIL; rw [h1]; rfl, k⟩
  · rename_i es ρ1 h1
    cases e1
    exact (xi_list h).pi.run pins s σ H R I ⟨F, ρ, _, _, c, by unfold mIL; rw [h1]; rfl, k⟩
  · rename_i es ρ1 h1
    cases e1
    exact (xi_tup h).pi.run pins s σ H R I ⟨F, ρ, _, _, c, by unfold mIT; rw [h1], k⟩
  · rename_i z ρ1 h1
    cases e1
    exact (xi_str h).pi.run pins s σ H R I ⟨F, ρ, _, _, c, by unfold mIStr; rw [h1], k⟩
  · cases e1⟩⟩
section
variable {X : Cx} {p pos : Pos} {e a b : Expr} {ma : MA}
theorem xs_len (T : Bt X.mg) (ha : XA X [e] ma) (hg : Gl X "len" := by rfl) (he : starEach [e] X.env = (false, eval e X.env) :: starEach [] X.env := by rfl) (hpl : (backTo pos (starEach [] X.env)).any (·.1) = false := by rfl) : XS X (.Call (.Name "len" p) [e] [] pos) (mCB lenF ma) := xs_callB call_len cv_len hg T.len PySem.boot_len ha (by decide) (by decide) he hpl
theorem xs_abs (T : Bt X.mg) (ha : XA X [e] ma) (hg : Gl X "abs" := by rfl) (he : starEach [e] X.env = (false, eval e X.env) :: starEach [] X.env := by rfl) (hpl : (backTo pos (starEach [] X.env)).any (·.1) = false := by rfl) : XS X (.Call (.Name "abs" p) [e] [] pos) (mCB absF ma) := xs_callB call_abs cv_abs hg T.abs bb_abs ha (by decide) (by decide) he hpl
theorem xs_all (T : Bt X.mg) (hc : X.calm = true) (ha : XA X [e] ma) (hg : Gl X "all" := by rfl) (he : starEach [e] X.env = (false, eval e X.env) :: starEach [] X.env := by rfl) (hpl : (backTo pos (starEach [] X.env)).any (·.1) = false := by rfl) : XS X (.Call (.Name "all" p) [e] [] pos) (mCB allF ma) := xs_callB (cr_all hc) cv_all hg T.all bb_all ha (by decide) (by decide) he hpl
theorem xs_any (T : Bt X.mg) (hc : X.calm = true) (ha : XA X [e] ma) (hg : Gl X "any" := by rfl) (he : starEach [e] X.env = (false, eval e X.env) :: starEach [] X.env := by rfl) (hpl : (backTo pos (starEach [] X.env)).any (·.1) = false := by rfl) : XS X (.Call (.Name "any" p) [e] [] pos) (mCB anyF ma) := xs_callB (cr_any hc) cv_any hg T.any bb_any ha (by decide) (by decide) he hpl
theorem xs_int (T : Bt X.mg) (ha : XA X [e] ma) (hg : Gl X "int" := by rfl) (he : starEach [e] X.env = (false, eval e X.env) :: starEach [] X.env := by rfl) (hpl : (backTo pos (starEach [] X.env)).any (·.1) = false := by rfl) : XS X (.Call (.Name "int" p) [e] [] pos) (mCB intF ma) := xs_callTy call_intA cv_int hg T.int bb_int ha (by decide) (by decide) he hpl
theorem xs_str (T : Bt X.mg) (ha : XA X [e] ma) (hg : Gl X "str" := by rfl) (he : starEach [e] X.env = (false, eval e X.env) :: starEach [] X.env := by rfl) (hpl : (backTo pos (starEach [] X.env)).any (·.1) = false := by rfl) : XS X (.Call (.Name "str" p) [e] [] pos) (mCB strF ma) := xs_callTy call_str_int cv_str hg T.str bb_str ha (by decide) (by decide) he hpl
theorem xs_list (T : Bt X.mg) (ha : XA X [e] ma) (hg : Gl X "list" := by rfl) (he : starEach [e] X.env = (false, eval e X.env) :: starEach [] X.env := by rfl) (hpl : (backTo pos (starEach [] X.env)).any (·.1) = false := by rfl) : XS X (.Call (.Name "list" p) [e] [] pos) (mCB listF ma) := xs_callTy call_list_of cv_list hg T.list bb_list ha (by decide) (by decide) he hpl
theorem xs_tuple (T : Bt X.mg) (ha : XA X [e] ma) (hg : Gl X "tuple" := by rfl) (he : starEach [e] X.env = (false, eval e X.env) :: starEach [] X.env := by rfl) (hpl : (backTo pos (starEach [] X.env)).any (·.1) = false := by rfl) : XS X (.Call (.Name "tuple" p) [e] [] pos) (mCB tupleF ma) := xs_callTy call_tuple_of cv_tuple hg T.tuple bb_tuple ha (by decide) (by decide) he hpl
theorem xs_max2 (T : Bt X.mg) (hc : X.calm = true) (ha : XA X [a, b] ma) (hg : Gl X "max" := by rfl) (he : starEach [a, b] X.env = (false, eval a X.env) :: starEach [b] X.env := by rfl) (hpl : (backTo pos (starEach [b] X.env)).any (·.1) = false := by rfl) : XS X (.Call (.Name "max" p) [a, b] [] pos) (mCB max2F ma) := xs_callB (call_max2 hc) cv_max2 hg T.max bb_max ha (by decide) (by decide) he hpl
theorem xs_min2 (T : Bt X.mg) (hc : X.calm = true) (ha : XA X [a, b] ma) (hg : Gl X "min" := by rfl) (he : starEach [a, b] X.env = (false, eval a X.env) :: starEach [b] X.env := by rfl) (hpl : (backTo pos (starEach [b] X.env)).any (·.1) = false := by rfl) : XS X (.Call (.Name "min" p) [a, b] [] pos) (mCB min2F ma) := xs_callB (call_min2 hc) cv_min2 hg T.min bb_min ha (by decide) (by decide) he hpl
end
/-- a def of one argument, the script: the law -/
def lawOk (g : Fn) : Prop := ∀ ns : List Int, ns.length ≤ 63 → ∃ ρ, g [.val (.rl (ns.map D.int))] = some (.val (.bl true), ρ)
theorem rp_ints {K : PySem.W.Frag} {F : Hp} : ∀ ns : List Int, RpAll K F (ns.map V.int) (ns.map D.int)
  | [] => .nil
  | n :: ns => .cons (.int n) (rp_ints ns)
/-- the promise that the law's end asks -/
def spLaw (K : PySem.W.Frag) : Sp := fun vs H Q _ => ∃ (a : Addr) (ns : List Int), vs = [.ref a] ∧ SqL K H a (ns.map V.int) ∧ ns.length ≤ 63 ∧ ∀ H', Q (.bl true) H'
theorem law_fn {P : Program} {w : World} {K : PySem.W.Frag} {mg : Str → Option Value} {base : Heap} {x : Str} {k : Nat} {g : Fn} {f : Addr} {fd : FuncData} {ps : List Str} (h : FnOk P w K mg base CX0 k f fd ps (spM K 1 g)) (hl : lawOk g) : FnOk P w K mg base CX0 k f fd ps (spLaw K) :=
  h.imp fun vs H Q E q => by
    obtain ⟨a, ns, rfl, hs, h63, k⟩ := q
    obtain ⟨ρ, e⟩ := hl ns h63
    refine ⟨rfl, H, [.val (.rl (ns.map D.int))], _, ρ, rfl, fun i o z => ?_, ⟨.refl H, rfl, fun i s z => ?_, fun i j p q o u b h1 _ _ _ => ?_⟩, e, fun v F' H' _ _ r => ?_⟩
    · cases i with
      | zero => simp at z
      | succ i => simp at z
    · cases i with
      | zero => simp at z; subst z; exact ⟨_, rfl, .rl hs (rp_ints ns)⟩
      | succ i => simp at z
    · cases i with
      | zero => simp at h1
      | succ i => simp at h1
    · cases r
      exact k H'
end Mr

set_option Elab.async false
set_option linter.all false
set_option maxRecDepth 100000
set_option maxHeartbeats 2000000
/-! Mir10: a, b, .. = a list; chains of comparisons; more. -/
namespace Mr
open PySem PySem.Spec PyProof.Rows L2
section
variable {prog : Program} {w : World} {A : Around} {E : Value → Shared → Prop} {s : Shared}
theorem draw_list {it t : Addr} {items : Array Value} (hne : t ≠ it) : ∀ (n i : Nat) (s : Shared) (Q : List Value → Shared → Prop), s.heap.IsListIter it t i → s.heap.IsList t items → i + n ≤ items.size →
    (∀ h', h'.IsListIter it t (i + n) → Heap.SameBut it s.heap h' → Q ((items.toList.drop i).take n) { s with heap := h' }) → wpAny (model prog w) A (draw (.ref it) n) Q E s
  | 0, i, s, Q, hit, _, _, hQ => by
    show wpAny _ _ (pure []) Q E s
    exact wpAny_pure (by simpa using hQ s.heap hit (Heap.SameBut.refl ..))
  | n + 1, i, s, Q, hit, ht, hle, hQ => by
    have hlt : i < items.size := by omega
    show wpAny _ _ (pyNext (.ref it) >>= _) Q E s
    refine wpAny_bind (wpAny_pyNext_list_item hit ht (x := items[i]) (by simp [hlt]) fun h₁ hit₁ hs₁ => ?_)
    have ht₁ : h₁.IsList t items := by
      obtain ⟨o, ho, r⟩ := ht
      exact ⟨o, (hs₁.2 t hne).trans ho, r⟩
    refine wpAny_bind (wpAny_holding (draw_list hne n (i + 1) _ _ hit₁ ht₁ (by omega) fun h₂ hit₂ hs₂ => wpAny_pure ?_))
    have hd : items.toList.drop i = items[i] :: items.toList.drop (i + 1) := by simp [List.drop_eq_getElem_cons, hlt]
    have := hQ h₂ (by rw [show i + (n + 1) = i + 1 + n by omega]; exact hit₂) (hs₁.trans hs₂)
    rw [hd, List.take_succ_cons] at this
    exact this
theorem unpackItems_list {t : Addr} {items : Array Value} {Q : List Value → Shared → Prop} (hh : A.handled = none) (ht : s.heap.IsList t items)
    (hQ : ∀ h', Heap.ExtBut s.heap.objs.size s.heap h' → Q items.toList { s with heap := h' }) : wpAny (model prog w) A (unpackItems (.ref t) items.size none) Q E s := by
  have hlt : t ≠ s.heap.objs.size := by obtain ⟨o, ho, _⟩ := ht; exact Nat.ne_of_lt (Heap.lt_size ho)
  unfold unpackItems
  refine wpAny_bind ?_
  · unfold notIterableAtAll
    refine wpAny_bind (wpAny_specialOf ht.typeIs slot_list_iter.lookup ?_)
    refine wpAny_pure ?_
    simp only [Bool.false_eq_true, if_false]
    refine wpAny_bind (wpAny_holding (wpAny_pyIter_list ht ?_))
    have hp : ∀ o, (s.heap.push o).IsList t items := fun o' => by
      obtain ⟨o, ho, r⟩ := ht
      exact ⟨o, Heap.get?_push_of_some _ ho, r⟩
    refine wpAny_bind (wpAny_holding (draw_list hlt items.size 0 _ _ ⟨_, Heap.get?_push_size _ rfl, rfl, rfl⟩ (hp _) (by omega) fun h₁ hit₁ hs₁ => ?_))
    have hall : List.take items.size (List.drop 0 items.toList) = items.toList := by
      rw [List.drop_zero]; exact List.take_of_length_le (by simp)
    rw [hall]
    rw [if_neg (by simp)]
    have ht₁ : h₁.IsList t items := by
      obtain ⟨o, ho, r⟩ := hp { cls := .type "list_iterator", data := .fields #[.ref t, rawInt 0] }
      obtain ⟨o, ho, r⟩ := ht
      exact ⟨o, (hs₁.2 t hlt).trans (Heap.get?_push_of_some _ ho), r⟩
    refine wpAny_bind (wpAny_holding (wpAny_pyNext_list_end hh hit₁ ht₁ (by simp) fun h₂ he₂ => ?_))
    simp only [Option.isSome_none, Bool.false_eq_true, if_false]
    refine wpAny_pure (hQ h₂ fun b o hb e => he₂ b o hb (hs₁.extBut b o hb (Heap.get?_push_of_some _ e)))
theorem assign_Tuple_list {env : Env} {elts : List Expr} {x1} {pos : Pos} {t : Addr} {items : Array Value} {Q : Unit → Shared → Prop} (hh : A.handled = none) (ht : s.heap.IsList t items)
    (hn : (assignEach elts env).length = items.size) (hstar : (assignEach elts env).findIdx? (·.1) = none)
    (h : ∀ h', Heap.ExtBut s.heap.objs.size s.heap h' → wpAny (model prog w) A (assignInOrder ((assignEach elts env).map (·.2)) items.toList) Q E { s with heap := h' }) :
    wpAny (model prog w) A (assign (.Tuple elts x1 pos) env (.ref t)) Q E s := by
  rw [assign_Tuple]
  refine wpAny_bind (wpAny_standAt ?_)
  unfold unpack
  rw [hn, hstar]
  exact wpAny_bind (wpAny_holding (unpackItems_list hh ht h))
end
/-- (a, b, ..) = a list of that length -/
def gLst (K : PySem.W.Frag) (n : Nat) (t : TGs) : TG := fun v σ H Q => ∃ a xs, v = .ref a ∧ SqL K H a xs ∧ xs.length = n ∧ t xs σ H Q
theorem pg_lst {X : Cx} {pos : Pos} {es : List Expr} {k : Nat} {t : TGs} {n : Nat} (hc : X.calm = true) (h : PGs X es t)
    (hn : (assignEach es X.env).length = n := by rfl) (hst : (assignEach es X.env).findIdx? (·.1) = none := by rfl) : PG X (.Tuple es k pos) (gLst X.K n t) := by
  refine ⟨fun pins s σ H v u Q I r hw => ?_⟩
  obtain ⟨a, xs, e1, hq, hl, hw⟩ := hw
  subst e1
  cases r
  obtain ⟨its, rv, ht, hz⟩ := I.list hq
  refine assign_Tuple_list (I.ok.hd hc) ht.isList (by simp [hn, ← hl, rv.length]) hst fun h' hx => ?_
  have I1 : Inv X pins σ H { s with heap := h' } := I.kept (t' := s.toks) fun b o e => hx b o (Nat.ne_of_lt (Heap.lt_size e)) e
  exact h.run pins _ σ H xs _ Q I1 (by simpa using rv) hw
def mgU (n : Nat) (g : MGs) : MG := fun d ρ => match d with
  | .tup ds => if ds.length = n then g ds ρ else none
  | .lst ds => if ds.length = n then g ds ρ else none
  | .rl ds => if ds.length = n then g ds ρ else none
  | _ => none
theorem xg_unp {X : Cx} {pos : Pos} {es : List Expr} {kk : Nat} {ws : List Nat} {g : MGs} {n : Nat} (hc : X.calm = true) (h : XGs X es ws g) (hn : (assignEach es X.env).length = n := by rfl) (hst : (assignEach es X.env).findIdx? (·.1) = none := by rfl) : XG X (.Tuple es kk pos) ws (mgU n g) := ⟨⟨fun pins s σ H v u Q I r q => by
  obtain ⟨F, ρ, d, ρ', c, rd, e, k⟩ := q
  unfold mgU at e
  split at e
  · split at e
    · rename_i ds hl
      exact (xg_tup hc h hn hst).pg.run pins s σ H v u Q I r ⟨F, ρ, _, ρ', c, rd, (if_pos hl).trans e, k⟩
    · cases e
  · split at e
    · rename_i ds hl
      cases rd with
      | lst h1 h2 => exact (pg_lst hc h.pgs hn hst).run pins s σ H _ u Q I r ⟨_, _, rfl, c.ex.l (SqL.of h1), by rw [h2.length]; exact hl, F, ρ, ds, ρ', c, h2, e, k⟩
    · cases e
  · split at e
    · rename_i ds hl
      cases rd with
      | rl h1 h2 => exact (pg_lst hc h.pgs hn hst).run pins s σ H _ u Q I r ⟨_, _, rfl, c.ex.l h1, by rw [h2.length]; exact hl, F, ρ, ds, ρ', c, h2, e, k⟩
    · cases e
  · cases e⟩⟩
/-- a op b op' c, as a test: c is asked where the first holds -/
def mChT (f f' : D → D → Option Bool) (ma mb mc : ME) : MT := fun ρ => match ma ρ with
  | some (x, ρ1) => (match mb ρ1 with
    | some (y, ρ2) => (match f x y with
      | some true => (match mc ρ2 with
        | some (z, ρ3) => (match f' y z with
          | some b => some (b, ρ3)
          | none => none)
        | none => none)
      | some false => some (false, ρ2)
      | none => none)
    | none => none)
  | none => none
theorem t_ch {K : PySem.W.Frag} {r r' : R2} {f f' : D → D → Option Bool} {ma mb mc : ME} (hr : RvD K r (blD f)) (hr' : RvD K r' (blD f')) (σ : L2.St) (H : Hp) (Q : Bool → Hp → Prop) (h : tT K (mChT f f' ma mb mc) σ H Q) : tTest (tChain r r' (tD K ma) (tD K mb) (tD K mc)) σ H Q := by
  obtain ⟨F, ρ, d, ρ', c, e, k⟩ := h
  unfold mChT at e
  split at e
  · rename_i x ρ1 h1
    split at e
    · rename_i y ρ2 h2
      split at e
      · rename_i h3
        refine ⟨F, ρ, x, ρ1, c, h1, fun v F1 H1 c1 s1 r1 => ?_⟩
        refine ⟨F1, ρ1, y, ρ2, c1, h2, fun w F2 H2 c2 s2 r2 => ?_⟩
        refine hr F2 H2 v w x y (.bl true) _ c2.ex (r1.ex s2.exF) r2 (by unfold blD; rw [h3]) fun u F3 H3 g r3 => ?_
        cases r3
        refine ⟨true, rfl, iteT ?_⟩
        split at e
        · rename_i z ρ4 h4
          split at e
          · rename_i b h5
            cases e
            refine ⟨F3, ρ2, z, _, g.cfg c2, h4, fun t F4 H4 c4 s4 r4 => ?_⟩
            refine hr' F4 H4 w t y z (.bl _) _ c4.ex ((r2.ex g.f).ex s4.exF) r4 (by unfold blD; rw [h5]) fun u F5 H5 g5 r5 => ?_
            cases r5
            exact ⟨_, rfl, k F5 H5 (g5.cfg c4) ((((s1.trans s2).trans g.stp).trans s4).trans g5.stp)⟩
          · cases e
        · cases e
      · rename_i h3
        cases e
        refine ⟨F, ρ, x, ρ1, c, h1, fun v F1 H1 c1 s1 r1 => ?_⟩
        refine ⟨F1, ρ1, y, _, c1, h2, fun w F2 H2 c2 s2 r2 => ?_⟩
        refine hr F2 H2 v w x y (.bl false) _ c2.ex (r1.ex s2.exF) r2 (by unfold blD; rw [h3]) fun u F3 H3 g r3 => ?_
        cases r3
        exact ⟨false, rfl, iteF ⟨false, rfl, k F3 H3 (g.cfg c2) ((s1.trans s2).trans g.stp)⟩⟩
      · cases e
    · cases e
  · cases e
theorem xt_chain {X : Cx} {a b c : Expr} {pos : Pos} {op op' : CmpOp} {r r' : R2} {f f' : D → D → Option Bool} {ma mb mc : ME} (ho : OpR X (compareOp op) r) (ho' : OpR X (compareOp op') r') (hr : RvD X.K r (blD f)) (hr' : RvD X.K r' (blD f')) (ha : XD X a ma) (hb : XD X b mb) (hc : XD X c mc) (hm : lastMarks [op, op'] [b, c] = false := by with_unfolding_all rfl) : XT X (.Compare a [op, op'] [b, c] pos) (mChT f f' ma mb mc) :=
  ⟨pt_imp (pt_chain ho ho' ha.pe hb.pe hc.pe hm) (t_ch hr hr')⟩
/-! ### x in name, the name's own list looked at -/
theorem pk_dp {K : PySem.W.Frag} {F H : Hp} {v : V} {y : D} (ex : Ex F H) (r : Pk K F H v y) (h : plD y = true) : Dp K H v y.py := by
  rcases r with r | ⟨a, o, rfl, rfl, at1⟩
  · exact Rp.dp y v (r.ex ex) h
  · cases o with
    | lst ds =>
      obtain ⟨xs, h1, h2⟩ := at1
      exact .lst (SqL.of h1) (RpAll.dp ds _ (h2.ex ex) (by unfold Own.toD plD at h; exact h))
    | dct kvs =>
      unfold Own.toD plD at h
      cases h
theorem in_pk {K : PySem.W.Frag} {neg : Bool} {F H : Hp} {vx vy : V} {x y : D} {b : Bool} {Q : VK} (ex : Ex F H) (rx : Rp K F vx x) (ry : Pk K F H vy y) (hb : inD neg x y = some b) (k : Q (.bl b) H) : rInAll K neg vx vy H Q := by
  unfold inD at hb
  split at hb
  · rename_i ds hds
    obtain ⟨a, xs, rfl, hs, ra, _, _⟩ := ry.seq ex hds
    split at hb
    · rename_i hz
      cases hb
      rw [Bool.and_eq_true] at hz
      refine .inl ⟨a, xs, rfl, hs, flat_of rx hz.1, flats_of ra hz.2, ?_⟩
      rw [inV_of rx hz.1 ra hz.2]
      exact k
    · split at hb
      · rename_i hz
        cases hb
        simp only [Bool.and_eq_true] at hz
        have dq : Dp K H (.ref a) (.list (D.pys ds)) ∨ Dp K H (.ref a) (.tuple (D.pys ds)) := by
          have := pk_dp ex ry (eqOk_pl hz.2)
          rcases items_py hds with e | e
          · rw [e] at this
            exact .inl this
          · rw [e] at this
            exact .inr this
        refine .inr (.inr ⟨x.py, D.pys ds, Rp.dp x vx (rx.ex ex) (eqOk_pl hz.1), dq, eqOk_py hz.1, (pl_pys ds).trans (items_pl hds (eqOk_pl hz.2)), eqOk_dp hz.1, ?_⟩)
        rw [anyD]
        exact k
      · cases hb
  · split at hb
    · rename_i c s hds
      split at hb
      · rename_i n hn
        cases hb
        cases rx
        rcases ry with ry | ⟨a, o, _, e, _⟩
        · cases ry
          have ec : c = ⟨#[n]⟩ := by
            cases c
            rename_i q
            have q2 : q = #[n] := by
              apply Array.toList_inj.mp
              exact hn
            rw [q2]
          exact .inr (.inl ⟨n, s, by rw [ec], rfl, k⟩)
        · cases o <;> cases e
      · cases hb
    · cases hb
def mInN (neg : Bool) (ma : ME) (i : Nat) : MT := fun ρ => match ma ρ with
  | some (x, ρ1) => (match peek ρ1 i with
    | some y => (match inD neg x y with
      | some b => some (b, ρ1)
      | none => none)
    | none => none)
  | none => none
def mInNV (neg : Bool) (ma : ME) (i : Nat) : ME := fun ρ => match mInN neg ma i ρ with
  | some (b, ρ1) => some (.bl b, ρ1)
  | none => none
theorem t_inN {K : PySem.W.Frag} {neg : Bool} {ma : ME} {i : Nat} (σ : L2.St) (H : Hp) (Q : Bool → Hp → Prop) (h : tT K (mInN neg ma i) σ H Q) : tTest (tOp (rInAll K neg) (tD K ma) (tVar i)) σ H Q := by
  obtain ⟨F, ρ, d, ρ', c, e, k⟩ := h
  unfold mInN at e
  split at e
  · rename_i x ρ1 h1
    split at e
    · rename_i y h2
      split at e
      · rename_i b h3
        cases e
        refine ⟨F, ρ, x, _, c, h1, fun v F1 H1 c1 s1 r1 => ?_⟩
        obtain ⟨w, hw, pk⟩ := c1.pk h2
        exact ⟨w, hw, in_pk c1.ex r1 pk h3 ⟨_, rfl, k F1 H1 c1 s1⟩⟩
      · cases e
    · cases e
  · cases e
theorem t_inNV {K : PySem.W.Frag} {neg : Bool} {ma : ME} {i : Nat} (σ : L2.St) (H : Hp) (Q : VK) (h : tD K (mInNV neg ma i) σ H Q) : tOp (rInAll K neg) (tD K ma) (tVar i) σ H Q := by
  obtain ⟨F, ρ, d, ρ', c, e, k⟩ := h
  unfold mInNV at e
  split at e
  · rename_i b ρ1 e
    rename_i e2
    cases e
    unfold mInN at e2
    split at e2
    · rename_i x ρ1 h1
      split at e2
      · rename_i y h2
        split at e2
        · rename_i b h3
          cases e2
          refine ⟨F, ρ, x, _, c, h1, fun v F1 H1 c1 s1 r1 => ?_⟩
          obtain ⟨w, hw, pk⟩ := c1.pk h2
          exact ⟨w, hw, in_pk c1.ex r1 pk h3 (k _ F1 H1 c1 s1 (.bl _))⟩
        · cases e2
      · cases e2
    · cases e2
  · cases e
section
variable {X : Cx} {a : Expr} {pos pos' : Pos} {ma : ME} {j : Nat} {x : Str}
theorem xt_inN (i : Nat) (hr : Room j X.A) (ha : XD X a ma) (hN : X.N[i]? = some x := by rfl) (hv : Vis X.env.scope x := by first | exact Or.inl rfl | exact Or.inr (Or.inl rfl) | exact Or.inr (Or.inr rfl)) (hd : (x == ("__debug__" : Str)) = false := by decide) (hcd : (x == ("__classdict__" : Str)) = false := by decide) (hm : behindInMarks .In (.Name x pos') = false := by rfl) : XT X (.Compare a [.In] [.Name x pos'] pos) (mInN false ma i) := ⟨pt_imp (pt_cmpR (op_inAll (u65 hr)) ha.pe (pv i hN hv hd hcd) hm) t_inN⟩
theorem xt_notinN (i : Nat) (hr : Room j X.A) (ha : XD X a ma) (hN : X.N[i]? = some x := by rfl) (hv : Vis X.env.scope x := by first | exact Or.inl rfl | exact Or.inr (Or.inl rfl) | exact Or.inr (Or.inr rfl)) (hd : (x == ("__debug__" : Str)) = false := by decide) (hcd : (x == ("__classdict__" : Str)) = false := by decide) (hm : behindInMarks .NotIn (.Name x pos') = false := by rfl) : XT X (.Compare a [.NotIn] [.Name x pos'] pos) (mInN true ma i) := ⟨pt_imp (pt_cmpR (op_notInAll (u65 hr)) ha.pe (pv i hN hv hd hcd) hm) t_inN⟩
theorem xd_inN (i : Nat) (hr : Room j X.A) (ha : XD X a ma) (hN : X.N[i]? = some x := by rfl) (hv : Vis X.env.scope x := by first | exact Or.inl rfl | exact Or.inr (Or.inl rfl) | exact Or.inr (Or.inr rfl)) (hd : (x == ("__debug__" : Str)) = false := by decide) (hcd : (x == ("__classdict__" : Str)) = false := by decide) (hm : behindInMarks .In (.Name x pos') = false := by rfl) : XD X (.Compare a [.In] [.Name x pos'] pos) (mInNV false ma i) := ⟨pe_imp (pe_cmpR (op_inAll (u65 hr)) ha.pe (pv i hN hv hd hcd) hm) t_inNV⟩
theorem xd_notinN (i : Nat) (hr : Room j X.A) (ha : XD X a ma) (hN : X.N[i]? = some x := by rfl) (hv : Vis X.env.scope x := by first | exact Or.inl rfl | exact Or.inr (Or.inl rfl) | exact Or.inr (Or.inr rfl)) (hd : (x == ("__debug__" : Str)) = false := by decide) (hcd : (x == ("__classdict__" : Str)) = false := by decide) (hm : behindInMarks .NotIn (.Name x pos') = false := by rfl) : XD X (.Compare a [.NotIn] [.Name x pos'] pos) (mInNV true ma i) := ⟨pe_imp (pe_cmpR (op_notInAll (u65 hr)) ha.pe (pv i hN hv hd hcd) hm) t_inNV⟩
end
/-- the law's def at its place -/
theorem law_has {P : Program} {w : World} {K : PySem.W.Frag} {mg : Str → Option Value} {base : Heap} {x : Str} {k : Nat} {g : Fn} (h : Has P w K mg base x k 1 g) (hl : lawOk g) {fa : Addr} (hm : mg x = some (.ref fa)) : ∃ (fd : FuncData) (qs : List Str), Binds K fd qs [] ∧ FnOk P w K mg base CX0 k fa fd qs (spLaw K) := by
  obtain ⟨f, fd, qs, h1, _, h3, h4⟩ := h.ex
  rw [hm] at h1
  cases h1
  exact ⟨fd, qs, h3, law_fn (x := x) h4 hl⟩
end Mr

set_option Elab.async false
set_option linter.all false
set_option maxRecDepth 100000
set_option maxHeartbeats 2000000
/-! Mir11: what a mirror answers, step by step (W), by equivalences. No program in sight. -/
namespace Mr
open PySem L2
/-- what simp shall not look at yet -/
inductive Tag {α : Sort u} (q : α) : Type where
  | mk : Tag q
/-- it answers, and so -/
def W {β : Type} (r : Option (β × Rho)) (Q : β → Rho → Prop) (_ : Tag Q := .mk) : Prop := ∃ b ρ', r = some (b, ρ') ∧ Q b ρ'
def WO {β : Type} (r : Option β) (Q : β → Prop) (_ : Tag Q := .mk) : Prop := ∃ b, r = some b ∧ Q b
section
variable {β : Type} {Q Q' : β → Rho → Prop} {R R' : β → Prop}
theorem W_some {b : β} {ρ : Rho} : W (some (b, ρ)) Q ↔ Q b ρ := ⟨fun ⟨_, _, e, q⟩ => by cases e; exact q, fun q => ⟨_, _, rfl, q⟩⟩
theorem W_none : W (none : Option (β × Rho)) Q ↔ False := ⟨fun ⟨_, _, e, _⟩ => (by cases e), False.elim⟩
theorem W.imp {r : Option (β × Rho)} (h : W r Q) (k : ∀ b ρ, Q b ρ → Q' b ρ) : W r Q' := by
  obtain ⟨b, ρ, e, q⟩ := h
  exact ⟨b, ρ, e, k b ρ q⟩
theorem W_of {r : Option (β × Rho)} {b : β} {ρ : Rho} (e : r = some (b, ρ)) (q : Q b ρ) : W r Q := ⟨b, ρ, e, q⟩
theorem WO_some {b : β} : WO (some b) R ↔ R b := ⟨fun ⟨_, e, q⟩ => by cases e; exact q, fun q => ⟨_, rfl, q⟩⟩
theorem WO_none : WO (none : Option β) R ↔ False := ⟨fun ⟨_, e, _⟩ => (by cases e), False.elim⟩
theorem WO.imp {r : Option β} (h : WO r R) (k : ∀ b, R b → R' b) : WO r R' := by
  obtain ⟨b, e, q⟩ := h
  exact ⟨b, e, k b q⟩
theorem WO_of {r : Option β} {b : β} (e : r = some b) (q : R b) : WO r R := ⟨b, e, q⟩
theorem WO_ite {c : Prop} [Decidable c] {a b : Option β} : WO (if c then a else b) R ↔ (c → WO a R) ∧ (¬ c → WO b R) := by
  by_cases h : c
  · rw [if_pos h]
    exact ⟨fun q => ⟨fun _ => q, fun n => absurd h n⟩, fun q => q.1 h⟩
  · rw [if_neg h]
    exact ⟨fun q => ⟨fun y => absurd y h, fun _ => q⟩, fun q => q.2 h⟩
theorem WO_guard {c : Prop} [Decidable c] {a : Option β} : WO (if c then a else none) R ↔ c ∧ WO a R := by
  by_cases h : c
  · rw [if_pos h]
    exact ⟨fun q => ⟨h, q⟩, fun q => q.2⟩
  · rw [if_neg h, WO_none]
    exact ⟨False.elim, fun q => h q.1⟩
theorem W_ite {c : Prop} [Decidable c] {a b : Option (β × Rho)} : W (if c then a else b) Q ↔ (c → W a Q) ∧ (¬ c → W b Q) := by
  by_cases h : c
  · rw [if_pos h]
    exact ⟨fun q => ⟨fun _ => q, fun n => absurd h n⟩, fun q => q.1 h⟩
  · rw [if_neg h]
    exact ⟨fun q => ⟨fun y => absurd y h, fun _ => q⟩, fun q => q.2 h⟩
end
/-- one way or the other -/
def br (b : Bool) (p q : Prop) (_ : Tag p := .mk) (_ : Tag q := .mk) : Prop := (b = true → p) ∧ (b = false → q)
theorem br_true {p q : Prop} : br true p q ↔ p := ⟨fun h => h.1 rfl, fun h => ⟨fun _ => h, fun e => (by cases e)⟩⟩
theorem br_false {p q : Prop} : br false p q ↔ q := ⟨fun h => h.2 rfl, fun h => ⟨fun e => (by cases e), fun _ => h⟩⟩
theorem br_dec {c : Prop} [Decidable c] {p q : Prop} : br (decide c) p q ↔ (c → p) ∧ (¬ c → q) :=
  ⟨fun h => ⟨fun e => h.1 (decide_eq_true e), fun e => h.2 (decide_eq_false e)⟩, fun h => ⟨fun e => h.1 (of_decide_eq_true e), fun e => h.2 (of_decide_eq_false e)⟩⟩
theorem br_not {b : Bool} {p q : Prop} : br (!b) p q ↔ br b q p := by
  cases b
  · exact ⟨fun h => ⟨fun e => (by cases e), fun _ => h.1 rfl⟩, fun h => ⟨fun _ => h.2 rfl, fun e => (by cases e)⟩⟩
  · exact ⟨fun h => ⟨fun _ => h.2 rfl, fun e => (by cases e)⟩, fun h => ⟨fun e => (by cases e), fun _ => h.1 rfl⟩⟩
section
variable {i j n : Nat} {ρ : Rho} {d : D}
/-- a slot read as data -/
def rd (s : Option Slot) (i : Nat) (ρ : Rho) (Q : D → Rho → Prop) (_ : Tag Q := .mk) : Prop := match s with
  | some (.val d) => Q d ρ
  | some (.own false o) => Q o.toD (ρ.set i (.val o.toD))
  | _ => False
theorem rd_val {Q : D → Rho → Prop} : rd (some (.val d)) i ρ Q ↔ Q d ρ := Iff.rfl
theorem rd_lst {Q : D → Rho → Prop} {ds : List D} : rd (some (.own false (.lst ds))) i ρ Q ↔ Q (.lst ds) (ρ.set i (.val (.lst ds))) := Iff.rfl
theorem rd_dct {Q : D → Rho → Prop} {kvs : List (Key × D)} : rd (some (.own false (.dct kvs))) i ρ Q ↔ Q (.dct kvs) (ρ.set i (.val (.dct kvs))) := Iff.rfl
theorem W_var {Q : D → Rho → Prop} : W (mVar i ρ) Q ↔ rd ρ[i]? i ρ Q := by
  unfold mVar rd
  generalize ρ[i]? = z
  rcases z with _ | z
  · exact W_none
  · cases z with
    | un => exact W_none
    | val d => exact W_some
    | own p o => cases p <;> first | exact W_some | exact W_none
theorem W_c {Q : D → Rho → Prop} : W (mC d ρ) Q ↔ Q d ρ := W_some
theorem W_v {m : ME} {Q : Slot → Rho → Prop} : W (mV m ρ) Q ↔ W (m ρ) fun d ρ1 => Q (.val d) ρ1 := by
  unfold mV
  generalize m ρ = r
  rcases r with _ | ⟨d, ρ1⟩
  · rw [W_none, W_none]
  · rw [W_some, W_some]
def fz (s : Slot) (Q : D → Prop) (_ : Tag Q := .mk) : Prop := match s with
  | .val d => Q d
  | .own _ o => Q o.toD
  | .un => False
theorem fz_val {Q : D → Prop} : fz (.val d) Q ↔ Q d := Iff.rfl
theorem fz_lst {Q : D → Prop} {p : Bool} {ds : List D} : fz (.own p (.lst ds)) Q ↔ Q (.lst ds) := Iff.rfl
theorem fz_dct {Q : D → Prop} {p : Bool} {ds : List (Key × D)} : fz (.own p (.dct ds)) Q ↔ Q (.dct ds) := Iff.rfl
theorem W_fz {m : MS} {Q : D → Rho → Prop} : W (mFz m ρ) Q ↔ W (m ρ) fun s ρ1 => fz s fun d => Q d ρ1 := by
  unfold mFz
  generalize m ρ = r
  rcases r with _ | ⟨s, ρ1⟩
  · rw [W_none, W_none]
  · cases s
    · rw [W_none, W_some]
      exact Iff.rfl
    · rw [W_some, W_some]
      exact Iff.rfl
    · rw [W_some, W_some]
      exact Iff.rfl
theorem W_bin {f : D → D → Option D} {ma mb : ME} {Q : D → Rho → Prop} : W (mBin f ma mb ρ) Q ↔ W (ma ρ) fun x ρ1 => W (mb ρ1) fun y ρ2 => WO (f x y) fun z => Q z ρ2 := by
  unfold mBin
  generalize ma ρ = r
  rcases r with _ | ⟨x, ρ1⟩
  · simp only [W_none]
  · simp only [W_some]
    generalize mb ρ1 = r
    rcases r with _ | ⟨y, ρ2⟩
    · simp only [W_none]
    · simp only [W_some]
      generalize f x y = r
      rcases r with _ | z
      · simp only [W_none, WO_none]
      · simp only [W_some, WO_some]
theorem W_binT {f : D → D → Option Bool} {ma mb : ME} {Q : Bool → Rho → Prop} : W (mBinT f ma mb ρ) Q ↔ W (ma ρ) fun x ρ1 => W (mb ρ1) fun y ρ2 => WO (f x y) fun z => Q z ρ2 := by
  unfold mBinT
  generalize ma ρ = r
  rcases r with _ | ⟨x, ρ1⟩
  · simp only [W_none]
  · simp only [W_some]
    generalize mb ρ1 = r
    rcases r with _ | ⟨y, ρ2⟩
    · simp only [W_none]
    · simp only [W_some]
      generalize f x y = r
      rcases r with _ | z
      · simp only [W_none, WO_none]
      · simp only [W_some, WO_some]
theorem W_binS {f : D → D → Option Slot} {ma mb : ME} {Q : Slot → Rho → Prop} : W (mBinS f ma mb ρ) Q ↔ W (ma ρ) fun x ρ1 => W (mb ρ1) fun y ρ2 => WO (f x y) fun z => Q z ρ2 := by
  unfold mBinS
  generalize ma ρ = r
  rcases r with _ | ⟨x, ρ1⟩
  · simp only [W_none]
  · simp only [W_some]
    generalize mb ρ1 = r
    rcases r with _ | ⟨y, ρ2⟩
    · simp only [W_none]
    · simp only [W_some]
      generalize f x y = r
      rcases r with _ | z
      · simp only [W_none, WO_none]
      · simp only [W_some, WO_some]
theorem W_u {f : D → Option D} {ma : ME} {Q : D → Rho → Prop} : W (mU f ma ρ) Q ↔ W (ma ρ) fun x ρ1 => WO (f x) fun z => Q z ρ1 := by
  unfold mU
  generalize ma ρ = r
  rcases r with _ | ⟨x, ρ1⟩
  · simp only [W_none]
  · simp only [W_some]
    generalize f x = r
    rcases r with _ | z
    · simp only [W_none, WO_none]
    · simp only [W_some, WO_some]
theorem W_tr {ma : ME} {Q : Bool → Rho → Prop} : W (mTr ma ρ) Q ↔ W (ma ρ) fun x ρ1 => WO (truD x) fun z => Q z ρ1 := by
  unfold mTr
  generalize ma ρ = r
  rcases r with _ | ⟨x, ρ1⟩
  · simp only [W_none]
  · simp only [W_some]
    generalize truD x = r
    rcases r with _ | z
    · simp only [W_none, WO_none]
    · simp only [W_some, WO_some]
theorem W_andT {ta tb : MT} {Q : Bool → Rho → Prop} : W (mAndT ta tb ρ) Q ↔ W (ta ρ) fun b ρ1 => br b (W (tb ρ1) Q) (Q false ρ1) := by
  unfold mAndT
  generalize ta ρ = r
  rcases r with _ | ⟨b, ρ1⟩
  · simp only [W_none]
  · cases b
    · simp only [W_some, br_false]
    · simp only [W_some, br_true]
theorem W_orT {ta tb : MT} {Q : Bool → Rho → Prop} : W (mOrT ta tb ρ) Q ↔ W (ta ρ) fun b ρ1 => br b (Q true ρ1) (W (tb ρ1) Q) := by
  unfold mOrT
  generalize ta ρ = r
  rcases r with _ | ⟨b, ρ1⟩
  · simp only [W_none]
  · cases b
    · simp only [W_some, br_false]
    · simp only [W_some, br_true]
theorem W_notT {ta : MT} {Q : Bool → Rho → Prop} : W (mNotT ta ρ) Q ↔ W (ta ρ) fun b ρ1 => Q (!b) ρ1 := by
  unfold mNotT
  generalize ta ρ = r
  rcases r with _ | ⟨b, ρ1⟩
  · simp only [W_none]
  · simp only [W_some]
/-- a truth value -/
def asB (d : D) (Q : Bool → Prop) (_ : Tag Q := .mk) : Prop := match d with
  | .bl b => Q b
  | _ => False
theorem asB_bl {b : Bool} {Q : Bool → Prop} : asB (.bl b) Q ↔ Q b := Iff.rfl
theorem W_andV {ma mb : ME} {Q : D → Rho → Prop} : W (mAndV ma mb ρ) Q ↔ W (ma ρ) fun x ρ1 => asB x fun b => br b (W (mb ρ1) Q) (Q (.bl false) ρ1) := by
  unfold mAndV
  generalize ma ρ = r
  rcases r with _ | ⟨x, ρ1⟩
  · simp only [W_none]
  · cases x with
    | bl b =>
      cases b
      · simp only [W_some, asB_bl, br_false]
      · simp only [W_some, asB_bl, br_true]
    | _ => simp only [W_some, W_none, asB]
theorem W_orV {ma mb : ME} {Q : D → Rho → Prop} : W (mOrV ma mb ρ) Q ↔ W (ma ρ) fun x ρ1 => asB x fun b => br b (Q (.bl true) ρ1) (W (mb ρ1) Q) := by
  unfold mOrV
  generalize ma ρ = r
  rcases r with _ | ⟨x, ρ1⟩
  · simp only [W_none]
  · cases x with
    | bl b =>
      cases b
      · simp only [W_some, asB_bl, br_false]
      · simp only [W_some, asB_bl, br_true]
    | _ => simp only [W_some, W_none, asB]
theorem W_notV {ma : ME} {Q : D → Rho → Prop} : W (mNotV ma ρ) Q ↔ W (ma ρ) fun x ρ1 => asB x fun b => Q (.bl !b) ρ1 := by
  unfold mNotV
  generalize ma ρ = r
  rcases r with _ | ⟨x, ρ1⟩
  · simp only [W_none]
  · cases x <;> simp only [W_some, W_none, asB]
theorem W_ifE {t : MT} {ma mb : ME} {Q : D → Rho → Prop} : W (mIfE t ma mb ρ) Q ↔ W (t ρ) fun b ρ1 => br b (W (ma ρ1) Q) (W (mb ρ1) Q) := by
  unfold mIfE
  generalize t ρ = r
  rcases r with _ | ⟨b, ρ1⟩
  · simp only [W_none]
  · cases b
    · simp only [W_some, br_false]
    · simp only [W_some, br_true]
theorem W_ifS {t : MT} {ma mb : MS} {Q : Slot → Rho → Prop} : W (mIfS t ma mb ρ) Q ↔ W (t ρ) fun b ρ1 => br b (W (ma ρ1) Q) (W (mb ρ1) Q) := by
  unfold mIfS
  generalize t ρ = r
  rcases r with _ | ⟨b, ρ1⟩
  · simp only [W_none]
  · cases b
    · simp only [W_some, br_false]
    · simp only [W_some, br_true]
theorem W_nil {Q : List D → Rho → Prop} : W (mNil ρ) Q ↔ Q [] ρ := W_some
theorem W_cons {ma : ME} {mr : MA} {Q : List D → Rho → Prop} : W (mCons ma mr ρ) Q ↔ W (ma ρ) fun x ρ1 => W (mr ρ1) fun xs ρ2 => Q (x :: xs) ρ2 := by
  unfold mCons
  generalize ma ρ = r
  rcases r with _ | ⟨x, ρ1⟩
  · simp only [W_none]
  · simp only [W_some]
    generalize mr ρ1 = r
    rcases r with _ | ⟨y, ρ2⟩
    · simp only [W_none]
    · simp only [W_some]
theorem W_tup {ma : MA} {Q : D → Rho → Prop} : W (mTup ma ρ) Q ↔ W (ma ρ) fun xs ρ1 => xs.length ≤ szL ∧ Q (.tup xs) ρ1 := by
  unfold mTup
  generalize ma ρ = r
  rcases r with _ | ⟨x, ρ1⟩
  · simp only [W_none]
  · simp only [W_some]
    by_cases h : x.length ≤ szL
    · simp only [if_pos h, W_some]
      exact ⟨fun q => ⟨h, q⟩, fun q => q.2⟩
    · simp only [if_neg h, W_none]
      exact ⟨False.elim, fun q => h q.1⟩
theorem W_lst {ma : MA} {Q : Slot → Rho → Prop} : W (mLst ma ρ) Q ↔ W (ma ρ) fun xs ρ1 => xs.length ≤ szL ∧ Q (.own false (.lst xs)) ρ1 := by
  unfold mLst
  generalize ma ρ = r
  rcases r with _ | ⟨x, ρ1⟩
  · simp only [W_none]
  · simp only [W_some]
    by_cases h : x.length ≤ szL
    · simp only [if_pos h, W_some]
      exact ⟨fun q => ⟨h, q⟩, fun q => q.2⟩
    · simp only [if_neg h, W_none]
      exact ⟨False.elim, fun q => h q.1⟩
/-- a slot looked at -/
def pk (s : Option Slot) (Q : D → Prop) (_ : Tag Q := .mk) : Prop := match s with
  | some (.val d) => Q d
  | some (.own _ o) => Q o.toD
  | _ => False
theorem pk_val {Q : D → Prop} : pk (some (.val d)) Q ↔ Q d := Iff.rfl
theorem pk_lst {Q : D → Prop} {p : Bool} {ds : List D} : pk (some (.own p (.lst ds))) Q ↔ Q (.lst ds) := Iff.rfl
theorem pk_dct {Q : D → Prop} {p : Bool} {ds : List (Key × D)} : pk (some (.own p (.dct ds))) Q ↔ Q (.dct ds) := Iff.rfl
theorem pk_peek {Q : D → Prop} : pk ρ[i]? Q ↔ ∃ d, peek ρ i = some d ∧ Q d := by
  unfold pk peek
  generalize ρ[i]? = z
  rcases z with _ | z
  · simp
  · cases z <;> simp
theorem W_ixN {mb : ME} {Q : D → Rho → Prop} : W (mIxN i mb ρ) Q ↔ pk ρ[i]? fun _ => W (mb ρ) fun y ρ1 => pk ρ1[i]? fun x => WO (ixD x y) fun z => Q z ρ1 := by
  unfold mIxN
  rw [pk_peek]
  generalize peek ρ i = r
  rcases r with _ | d
  · simp [W_none]
  · simp only [Option.some.injEq, exists_eq_left']
    generalize mb ρ = r
    rcases r with _ | ⟨y, ρ1⟩
    · simp only [W_none]
    · simp only [W_some]
      rw [pk_peek]
      generalize peek ρ1 i = r
      rcases r with _ | x
      · simp [W_none]
      · simp only [Option.some.injEq, exists_eq_left']
        generalize ixD x y = r
        rcases r with _ | z
        · simp only [W_none, WO_none]
        · simp only [W_some, WO_some]
theorem W_o0 {Q : Option Int → Rho → Prop} : W (mO0 ρ) Q ↔ Q none ρ := W_some
def asI (d : D) (Q : Int → Prop) (_ : Tag Q := .mk) : Prop := match d with
  | .int b => Q b
  | _ => False
theorem asI_int {b : Int} {Q : Int → Prop} : asI (.int b) Q ↔ Q b := Iff.rfl
theorem W_o1 {m : ME} {Q : Option Int → Rho → Prop} : W (mO1 m ρ) Q ↔ W (m ρ) fun d ρ1 => asI d fun i => Q (some i) ρ1 := by
  unfold mO1
  generalize m ρ = r
  rcases r with _ | ⟨x, ρ1⟩
  · simp only [W_none]
  · cases x <;> simp only [W_some, W_none, asI]
theorem W_sl {m : ME} {lo hi : MO} {Q : Slot → Rho → Prop} : W (mSl m lo hi ρ) Q ↔ W (m ρ) fun x ρ1 => W (lo ρ1) fun l ρ2 => W (hi ρ2) fun h ρ3 => WO (slS x l h) fun s => Q s ρ3 := by
  unfold mSl
  generalize m ρ = r
  rcases r with _ | ⟨x, ρ1⟩
  · simp only [W_none]
  · simp only [W_some]
    generalize lo ρ1 = r
    rcases r with _ | ⟨y, ρ2⟩
    · simp only [W_none]
    · simp only [W_some]
      generalize hi ρ2 = r
      rcases r with _ | ⟨z, ρ3⟩
      · simp only [W_none]
      · simp only [W_some]
        generalize slS x y z = r
        rcases r with _ | s
        · simp only [W_none, WO_none]
        · simp only [W_some, WO_some]
theorem W_cb {f : List D → Option Slot} {ma : MA} {Q : Slot → Rho → Prop} : W (mCB f ma ρ) Q ↔ W (ma ρ) fun xs ρ1 => WO (f xs) fun s => Q s ρ1 := by
  unfold mCB
  generalize ma ρ = r
  rcases r with _ | ⟨x, ρ1⟩
  · simp only [W_none]
  · simp only [W_some]
    generalize f x = r
    rcases r with _ | s
    · simp only [W_none, WO_none]
    · simp only [W_some, WO_some]
theorem W_lenN {Q : D → Rho → Prop} : W (mLenN i ρ) Q ↔ pk ρ[i]? fun x => WO (lenD x) fun n => Q (.int n) ρ := by
  unfold mLenN
  rw [pk_peek]
  generalize peek ρ i = r
  rcases r with _ | d
  · simp [W_none]
  · simp only [Option.some.injEq, exists_eq_left']
    generalize lenD d = r
    rcases r with _ | s
    · simp only [W_none, WO_none]
    · simp only [W_some, WO_some]
theorem W_isi {T : String} {m : ME} {Q : D → Rho → Prop} : W (mIsi T m ρ) Q ↔ W (m ρ) fun x ρ1 => WO (isiB x T) fun b => Q (.bl b) ρ1 := by
  unfold mIsi
  generalize m ρ = r
  rcases r with _ | ⟨x, ρ1⟩
  · simp only [W_none]
  · simp only [W_some]
    generalize isiB x T = r
    rcases r with _ | s
    · simp only [W_none, WO_none]
    · simp only [W_some, WO_some]
theorem W_bm {ty : D → Bool} {f : D → List D → Option Slot} {m : ME} {ma : MA} {Q : Slot → Rho → Prop} : W (mBM ty f m ma ρ) Q ↔ W (m ρ) fun x ρ1 => ty x = true ∧ W (ma ρ1) fun xs ρ2 => WO (f x xs) fun s => Q s ρ2 := by
  unfold mBM
  generalize m ρ = r
  rcases r with _ | ⟨x, ρ1⟩
  · simp only [W_none]
  · simp only [W_some]
    by_cases h : ty x = true
    · simp only [if_pos h]
      generalize ma ρ1 = r
      rcases r with _ | ⟨y, ρ2⟩
      · simp [W_none]
      · simp only [W_some]
        generalize f x y = r
        rcases r with _ | s
        · simp [W_none, WO_none]
        · simp [W_some, WO_some, h]
    · simp only [if_neg h, W_none]
      exact ⟨False.elim, fun q => h q.1⟩
/-! ### statements -/
/-- what goes on when nothing is handed back -/
def nxt (o : Out) (ρ : Rho) (P : Rho → Prop) (Q : Out → Rho → Prop) (_ : Tag P := .mk) (_ : Tag Q := .mk) : Prop := match o with
  | .nx => P ρ
  | o => Q o ρ
theorem nxt_nx {P : Rho → Prop} {Q : Out → Rho → Prop} : nxt .nx ρ P Q ↔ P ρ := Iff.rfl
theorem nxt_bk {P : Rho → Prop} {Q : Out → Rho → Prop} : nxt .bk ρ P Q ↔ Q .bk ρ := Iff.rfl
theorem nxt_ct {P : Rho → Prop} {Q : Out → Rho → Prop} : nxt .ct ρ P Q ↔ Q .ct ρ := Iff.rfl
theorem nxt_ret {s : Slot} {P : Rho → Prop} {Q : Out → Rho → Prop} : nxt (.ret s) ρ P Q ↔ Q (.ret s) ρ := Iff.rfl
theorem W_skip {Q : Out → Rho → Prop} : W (mSkip ρ) Q ↔ Q .nx ρ := W_some
theorem W_seq {a b : MSt} {Q : Out → Rho → Prop} : W (mSeq a b ρ) Q ↔ W (a ρ) fun o ρ1 => nxt o ρ1 (fun ρ2 => W (b ρ2) Q) Q := by
  unfold mSeq
  generalize a ρ = r
  rcases r with _ | ⟨o, ρ1⟩
  · simp only [W_none]
  · cases o <;> simp only [W_some, nxt]
theorem W_drop {m : MS} {Q : Out → Rho → Prop} : W (mDrop m ρ) Q ↔ W (m ρ) fun _ ρ1 => Q .nx ρ1 := by
  unfold mDrop
  generalize m ρ = r
  rcases r with _ | ⟨o, ρ1⟩
  · simp only [W_none]
  · simp only [W_some]
theorem W_ret {m : MS} {Q : Out → Rho → Prop} : W (mRet m ρ) Q ↔ W (m ρ) fun s ρ1 => Q (.ret s) ρ1 := by
  unfold mRet
  generalize m ρ = r
  rcases r with _ | ⟨o, ρ1⟩
  · simp only [W_none]
  · simp only [W_some]
theorem W_retN {Q : Out → Rho → Prop} : W (mRetN ρ) Q ↔ Q (.ret (.val .non)) ρ := W_some
theorem W_ct {Q : Out → Rho → Prop} : W ((fun ρ => some (.ct, ρ) : MSt) ρ) Q ↔ Q .ct ρ := W_some
theorem W_bk {Q : Out → Rho → Prop} : W ((fun ρ => some (.bk, ρ) : MSt) ρ) Q ↔ Q .bk ρ := W_some
theorem W_if {t : MT} {a b : MSt} {Q : Out → Rho → Prop} : W (mIf t a b ρ) Q ↔ W (t ρ) fun c ρ1 => br c (W (a ρ1) Q) (W (b ρ1) Q) := by
  unfold mIf
  generalize t ρ = r
  rcases r with _ | ⟨c, ρ1⟩
  · simp only [W_none]
  · cases c
    · simp only [W_some, br_false]
    · simp only [W_some, br_true]
/-- a slot written -/
def wr (s : Option Slot) (P : Prop) (_ : Tag P := .mk) : Prop := match s with
  | some (.own true _) => False
  | some _ => P
  | none => False
theorem wr_un {P : Prop} : wr (some .un) P ↔ P := Iff.rfl
theorem wr_val {P : Prop} : wr (some (.val d)) P ↔ P := Iff.rfl
theorem wr_own {P : Prop} {o : Own} : wr (some (.own false o)) P ↔ P := Iff.rfl
theorem wr_unpin {P : Prop} : wr ρ[i]? P ↔ (unpin ρ i = true ∧ P) := by
  unfold wr unpin
  generalize ρ[i]? = z
  rcases z with _ | z
  · simp
  · cases z with
    | own p o => cases p <;> simp
    | _ => simp
theorem W_asg {m : MS} {Q : Out → Rho → Prop} : W (mAsg i m ρ) Q ↔ W (m ρ) fun s ρ1 => wr ρ1[i]? (Q .nx (ρ1.set i s)) := by
  unfold mAsg
  generalize m ρ = r
  rcases r with _ | ⟨s, ρ1⟩
  · simp only [W_none]
  · simp only [W_some, wr_unpin]
    by_cases h : unpin ρ1 i = true
    · simp only [if_pos h, W_some]
      exact ⟨fun q => ⟨h, q⟩, fun q => q.2⟩
    · simp only [if_neg h, W_none]
      exact ⟨False.elim, fun q => h q.1⟩
theorem G_n {Q : Rho → Prop} : WO (mgN i d ρ) Q ↔ wr ρ[i]? (Q (ρ.set i (.val d))) := by
  unfold mgN
  rw [wr_unpin]
  by_cases h : unpin ρ i = true
  · simp only [if_pos h, WO_some]
    exact ⟨fun q => ⟨h, q⟩, fun q => q.2⟩
  · simp only [if_neg h, WO_none]
    exact ⟨False.elim, fun q => h q.1⟩
theorem Gs_0 {Q : Rho → Prop} : WO (mgs0 [] ρ) Q ↔ Q ρ := WO_some
theorem Gs_1 {g : MG} {r : MGs} {ds : List D} {Q : Rho → Prop} : WO (mgs1 g r (d :: ds) ρ) Q ↔ WO (g d ρ) fun ρ1 => WO (r ds ρ1) Q := by
  unfold mgs1
  simp only
  generalize g d ρ = r
  rcases r with _ | x
  · simp only [WO_none]
  · simp only [WO_some]
theorem G_u {g : MGs} {n : Nat} {Q : Rho → Prop} : WO (mgU n g d ρ) Q ↔ WO (itemsD d) fun ds => ds.length = n ∧ WO (g ds ρ) Q := by
  unfold mgU itemsD
  cases d <;> simp only [WO_some, WO_none]
  all_goals
    rename_i ds
    by_cases h : ds.length = n
    · simp [if_pos h, h]
    · simp [if_neg h, h, WO_none]
theorem W_asgG {g : MG} {m : ME} {Q : Out → Rho → Prop} : W (mAsgG g m ρ) Q ↔ W (m ρ) fun d ρ1 => WO (g d ρ1) fun ρ2 => Q .nx ρ2 := by
  unfold mAsgG
  generalize m ρ = r
  rcases r with _ | ⟨d, ρ1⟩
  · simp only [W_none]
  · simp only [W_some]
    generalize g d ρ1 = r
    rcases r with _ | s
    · simp only [W_none, WO_none]
    · simp only [W_some, WO_some]
/-- a name handed on -/
def mv (s : Option Slot) (i : Nat) (ρ : Rho) (Q : Slot → Rho → Prop) (_ : Tag Q := .mk) : Prop := match s with
  | some (.val d) => Q (.val d) ρ
  | some (.own false o) => Q (.own false o) (ρ.set i .un)
  | _ => False
theorem mv_val {Q : Slot → Rho → Prop} : mv (some (.val d)) i ρ Q ↔ Q (.val d) ρ := Iff.rfl
theorem mv_own {o : Own} {Q : Slot → Rho → Prop} : mv (some (.own false o)) i ρ Q ↔ Q (.own false o) (ρ.set i .un) := Iff.rfl
theorem W_mov {Q : Slot → Rho → Prop} : W (mMov i ρ) Q ↔ mv ρ[i]? i ρ Q := by
  unfold mMov mv
  generalize ρ[i]? = z
  rcases z with _ | z
  · exact W_none
  · cases z with
    | un => exact W_none
    | val d => exact W_some
    | own p o => cases p <;> first | exact W_some | exact W_none
/-- an own list -/
def ol (s : Option Slot) (Q : Bool → List D → Prop) (_ : Tag Q := .mk) : Prop := match s with
  | some (.own p (.lst ds)) => Q p ds
  | _ => False
theorem ol_lst {p : Bool} {ds : List D} {Q : Bool → List D → Prop} : ol (some (.own p (.lst ds))) Q ↔ Q p ds := Iff.rfl
theorem W_mutL {f : List D → List D → Option (D × List D)} {ma : MA} {Q : Slot → Rho → Prop} : W (mMutL i f ma ρ) Q ↔ ol ρ[i]? fun _ _ => W (ma ρ) fun es ρ1 => ol ρ1[i]? fun p ds => WO (f ds es) fun x => Q (.val x.1) (ρ1.set i (.own p (.lst x.2))) := by
  unfold mMutL
  have e : isOwnL ρ i = true ↔ ol ρ[i]? fun _ _ => True := by
    unfold isOwnL ol
    generalize ρ[i]? = z
    rcases z with _ | z
    · simp
    · cases z with
      | own p o => cases o <;> simp
      | _ => simp
  by_cases h : isOwnL ρ i = true
  · rw [if_pos h]
    have h1 := e.mp h
    have ep : ∃ d, peek ρ i = some d := by
      unfold isOwnL at h
      unfold peek
      split at h
      · rename_i h2
        rw [h2]
        exact ⟨_, rfl⟩
      · cases h
    obtain ⟨d, ep⟩ := ep
    unfold mMut
    rw [ep]
    simp only
    have e2 : ∀ P : Prop, (ol ρ[i]? fun _ _ => P) ↔ P := by
      intro P
      unfold isOwnL at h
      unfold ol
      revert h
      generalize ρ[i]? = z
      intro h
      rcases z with _ | z
      · cases h
      · cases z with
        | own p o =>
          cases o with
          | lst ds => exact Iff.rfl
          | dct _ => cases h
        | _ => cases h
    rw [e2]
    generalize ma ρ = r
    rcases r with _ | ⟨es, ρ1⟩
    · simp only [W_none]
    · simp only [W_some]
      generalize ρ1[i]? = r
      rcases r with _ | s
      · simp only [W_none, ol]
      · cases s with
        | own p o =>
          cases o with
          | lst ds =>
            simp only [ol]
            generalize f ds es = r
            rcases r with _ | x
            · simp only [W_none, WO_none]
            · simp only [W_some, WO_some]
          | dct _ => simp only [W_none, ol]
        | _ => simp only [W_none, ol]
  · rw [if_neg h, W_none]
    refine ⟨False.elim, fun q => h (e.mpr ?_)⟩
    unfold ol at q ⊢
    revert q
    generalize ρ[i]? = z
    intro q
    rcases z with _ | z
    · exact q
    · cases z with
      | own p o =>
        cases o with
        | lst ds => trivial
        | dct _ => exact q
      | _ => exact q
theorem W_setIx {m mi : ME} {Q : Out → Rho → Prop} : W (mSetIx i m mi ρ) Q ↔ W (m ρ) fun y ρ1 => pk ρ1[i]? fun _ => W (mi ρ1) fun k ρ2 => asI k fun k => ol ρ2[i]? fun p ds => WO (ixN ds.length k) fun j => Q .nx (ρ2.set i (.own p (.lst (ds.set j y)))) := by
  unfold mSetIx
  generalize m ρ = r
  rcases r with _ | ⟨y, ρ1⟩
  · simp only [W_none]
  · simp only [W_some]
    rw [pk_peek]
    generalize peek ρ1 i = r
    rcases r with _ | d
    · simp [W_none]
    · simp only [Option.some.injEq, exists_eq_left']
      generalize mi ρ1 = r
      rcases r with _ | ⟨k, ρ2⟩
      · simp only [W_none]
      · cases k with
        | int k =>
          simp only [W_some, asI]
          generalize ρ2[i]? = r
          rcases r with _ | s
          · simp only [W_none, ol]
          · cases s with
            | own p o =>
              cases o with
              | lst ds =>
                simp only [ol]
                generalize ixN ds.length k = r
                rcases r with _ | x
                · simp only [W_none, WO_none]
                · simp only [W_some, WO_some]
              | dct _ => simp only [W_none, ol]
            | _ => simp only [W_none, ol]
        | _ => simp only [W_some, W_none, asI]
theorem WS_nil {Q : List Slot → Rho → Prop} : W (msNil ρ) Q ↔ Q [] ρ := W_some
theorem WS_cons {m : MS} {mr : MAS} {Q : List Slot → Rho → Prop} : W (msCons m mr ρ) Q ↔ W (m ρ) fun s ρ1 => W (mr ρ1) fun ss ρ2 => Q (s :: ss) ρ2 := by
  unfold msCons
  generalize m ρ = r
  rcases r with _ | ⟨x, ρ1⟩
  · simp only [W_none]
  · simp only [W_some]
    generalize mr ρ1 = r
    rcases r with _ | ⟨y, ρ2⟩
    · simp only [W_none]
    · simp only [W_some]
theorem put_nil {Q : Rho → Prop} : WO (putS [] [] ρ) Q ↔ Q ρ := WO_some
theorem put_cons {is : List Nat} {s : Slot} {ss : List Slot} {Q : Rho → Prop} : WO (putS (i :: is) (s :: ss) ρ) Q ↔ wr ρ[i]? (WO (putS is ss (ρ.set i s)) Q) := by
  rw [wr_unpin]
  show WO (if unpin ρ i = true then putS is ss (ρ.set i s) else none) Q ↔ _
  exact WO_guard
theorem W_parS {is : List Nat} {m : MAS} {Q : Out → Rho → Prop} : W (mParS is m ρ) Q ↔ W (m ρ) fun ss ρ1 => ss.length ≤ 100 ∧ WO (putS is ss ρ1) fun ρ2 => Q .nx ρ2 := by
  unfold mParS
  generalize m ρ = r
  rcases r with _ | ⟨ss, ρ1⟩
  · simp only [W_none]
  · simp only [W_some]
    by_cases h : ss.length ≤ 100
    · simp only [if_pos h]
      generalize putS is ss ρ1 = r
      rcases r with _ | s
      · simp [W_none, WO_none]
      · simp [W_some, WO_some, h]
    · simp only [if_neg h, W_none]
      exact ⟨False.elim, fun q => h q.1⟩
/-! ### calls -/
theorem WB_nil {Q : List ArgV → Rho → Prop} : W (mbNil ρ) Q ↔ Q [] ρ := W_some
theorem WB_d {m : ME} {mr : MAB} {Q : List ArgV → Rho → Prop} : W (mbD m mr ρ) Q ↔ W (m ρ) fun x ρ1 => W (mr ρ1) fun xs ρ2 => Q (.d x :: xs) ρ2 := by
  unfold mbD
  generalize m ρ = r
  rcases r with _ | ⟨x, ρ1⟩
  · simp only [W_none]
  · simp only [W_some]
    generalize mr ρ1 = r
    rcases r with _ | ⟨y, ρ2⟩
    · simp only [W_none]
    · simp only [W_some]
theorem WB_r {r : MAB} {Q : List ArgV → Rho → Prop} : W (mbR i r ρ) Q ↔ pk ρ[i]? fun _ => W (r ρ) fun xs ρ2 => Q (.br i :: xs) ρ2 := by
  unfold mbR
  rw [pk_peek]
  generalize peek ρ i = p
  rcases p with _ | d
  · simp [W_none]
  · simp only [Option.some.injEq, exists_eq_left']
    generalize r ρ = r
    rcases r with _ | ⟨y, ρ2⟩
    · simp only [W_none]
    · simp only [W_some]
/-- a lent slot -/
def ls (s : Option Slot) (Q : Slot → Prop) (_ : Tag Q := .mk) : Prop := match s with
  | some (.val d) => Q (.val d)
  | some (.own _ o) => Q (.own true o)
  | _ => False
theorem ls_val {Q : Slot → Prop} : ls (some (.val d)) Q ↔ Q (.val d) := Iff.rfl
theorem ls_own {p : Bool} {o : Own} {Q : Slot → Prop} : ls (some (.own p o)) Q ↔ Q (.own true o) := Iff.rfl
theorem sl_nil {Q : List Slot → Prop} : WO (slotsOf ρ []) Q ↔ Q [] := WO_some
theorem sl_d {as : List ArgV} {Q : List Slot → Prop} : WO (slotsOf ρ (.d d :: as)) Q ↔ WO (slotsOf ρ as) fun ss => Q (.val d :: ss) := by
  show WO (match slotOf ρ (.d d) with
    | some s => (match slotsOf ρ as with
      | some ss => some (s :: ss)
      | none => none)
    | none => none) Q ↔ _
  simp only [slotOf]
  generalize slotsOf ρ as = r
  rcases r with _ | y
  · simp only [WO_none]
  · simp only [WO_some]
theorem sl_r {as : List ArgV} {Q : List Slot → Prop} : WO (slotsOf ρ (.br i :: as)) Q ↔ ls ρ[i]? fun s => WO (slotsOf ρ as) fun ss => Q (s :: ss) := by
  show WO (match slotOf ρ (.br i) with
    | some s => (match slotsOf ρ as with
      | some ss => some (s :: ss)
      | none => none)
    | none => none) Q ↔ _
  simp only [slotOf]
  generalize ρ[i]? = s
  generalize slotsOf ρ as = r
  rcases s with _ | s
  · simp only [WO_none, ls]
  · cases s <;> (rcases r with _ | y <;> simp only [WO_none, WO_some, ls])
theorem W_call {f : Fn} {ma : MAB} {Q : Slot → Rho → Prop} : W (mCall n f ma ρ) Q ↔ W (ma ρ) fun as ρ1 => WO (slotsOf ρ1 as) fun ss => (lent ρ1 as).Nodup ∧ ss.length = n ∧ W (f ss) fun s ss' => Q s (backAll as ss' 0 ρ1) := by
  unfold mCall
  generalize ma ρ = r
  rcases r with _ | ⟨as, ρ1⟩
  · simp only [W_none]
  · simp only [W_some]
    generalize slotsOf ρ1 as = r
    rcases r with _ | ss
    · simp only [W_none, WO_none]
    · simp only [WO_some]
      by_cases h : (lent ρ1 as).Nodup ∧ ss.length = n
      · simp only [if_pos h]
        generalize f ss = r
        rcases r with _ | ⟨s, ss'⟩
        · simp [W_none]
        · simp [W_some, h]
      · simp only [if_neg h, W_none]
        exact ⟨False.elim, fun q => h ⟨q.1, q.2.1⟩⟩
/-- what a def hands back, with what its caller gets back -/
theorem W_fn {N : Nat} {b : MSt} {as : List Slot} {Q : Slot → List Slot → Prop} (h : as.length = n) (k : W (b (as ++ List.replicate (N - n) .un)) fun o ρ => match o with
    | .ret s => Q s (merge as ρ)
    | .nx => Q (.val .non) (merge as ρ)
    | _ => False) : W (mFn N n b as) Q := by
  obtain ⟨o, ρ1, e, q⟩ := k
  unfold mFn
  rw [if_pos h, e]
  cases o with
  | nx => exact ⟨_, _, rfl, q⟩
  | ret s => exact ⟨_, _, rfl, q⟩
  | _ => exact q.elim
/-! ### loops -/
/-- behind a turn -/
def lp (o : Out) (ρ : Rho) (P : Rho → Prop) (Q : Out → Rho → Prop) (_ : Tag P := .mk) (_ : Tag Q := .mk) : Prop := match o with
  | .nx => P ρ
  | .ct => P ρ
  | .bk => Q .nx ρ
  | .ret s => Q (.ret s) ρ
theorem lp_nx {P : Rho → Prop} {Q : Out → Rho → Prop} : lp .nx ρ P Q ↔ P ρ := Iff.rfl
theorem lp_ct {P : Rho → Prop} {Q : Out → Rho → Prop} : lp .ct ρ P Q ↔ P ρ := Iff.rfl
theorem lp_bk {P : Rho → Prop} {Q : Out → Rho → Prop} : lp .bk ρ P Q ↔ Q .nx ρ := Iff.rfl
theorem lp_ret {s : Slot} {P : Rho → Prop} {Q : Out → Rho → Prop} : lp (.ret s) ρ P Q ↔ Q (.ret s) ρ := Iff.rfl
theorem W_for {mi : MI} {g : MG} {b : MSt} {Q : Out → Rho → Prop} : W (mFor mi g b ρ) Q ↔ W (mi ρ) fun ds ρ1 => W (mForL g b ds ρ1) Q := by
  unfold mFor
  generalize mi ρ = r
  rcases r with _ | ⟨ds, ρ1⟩
  · simp only [W_none]
  · simp only [W_some]
theorem W_forL_nil {g : MG} {b : MSt} {Q : Out → Rho → Prop} : W (mForL g b [] ρ) Q ↔ Q .nx ρ := W_some
theorem W_forL_cons {g : MG} {b : MSt} {ds : List D} {Q : Out → Rho → Prop} : W (mForL g b (d :: ds) ρ) Q ↔ WO (g d ρ) fun ρ1 => W (b ρ1) fun o ρ2 => lp o ρ2 (fun ρ3 => W (mForL g b ds ρ3) Q) Q := by
  show W (match g d ρ with
    | some ρ1 => (match b ρ1 with
      | some (.nx, ρ2) => mForL g b ds ρ2
      | some (.ct, ρ2) => mForL g b ds ρ2
      | some (.bk, ρ2) => some (.nx, ρ2)
      | some (.ret s, ρ2) => some (.ret s, ρ2)
      | none => none)
    | none => none) Q ↔ _
  generalize g d ρ = r
  rcases r with _ | ρ1
  · simp only [W_none, WO_none]
  · simp only [WO_some]
    generalize b ρ1 = r
    rcases r with _ | ⟨o, ρ2⟩
    · simp only [W_none]
    · cases o <;> simp only [W_some, lp]
/-- a loop by what holds ahead of each turn, told by what is left -/
theorem W_forL_inv {g : MG} {b : MSt} (I : List D → Rho → Prop) {Q : Out → Rho → Prop} (he : ∀ ρ, I [] ρ → Q .nx ρ)
    (hs : ∀ d ds ρ, I (d :: ds) ρ → WO (g d ρ) fun ρ1 => W (b ρ1) fun o ρ2 => lp o ρ2 (I ds) Q) : ∀ (ds : List D) (ρ : Rho), I ds ρ → W (mForL g b ds ρ) Q
  | [], ρ, h => W_forL_nil.mpr (he ρ h)
  | d :: ds, ρ, h => W_forL_cons.mpr ((hs d ds ρ h).imp fun ρ1 k => k.imp fun o ρ2 q => by
    cases o with
    | nx => exact W_forL_inv I he hs ds ρ2 q
    | ct => exact W_forL_inv I he hs ds ρ2 q
    | bk => exact q
    | ret s => exact q)
theorem W_wh_zero {t : MT} {b : MSt} {Q : Out → Rho → Prop} : W (mWh 0 t b ρ) Q ↔ False := W_none
theorem W_wh {t : MT} {b : MSt} {Q : Out → Rho → Prop} : W (mWh (n + 1) t b ρ) Q ↔ W (t ρ) fun c ρ1 => br c (W (b ρ1) fun o ρ2 => lp o ρ2 (fun ρ3 => W (mWh n t b ρ3) Q) Q) (Q .nx ρ1) := by
  show W (match t ρ with
    | some (true, ρ1) => (match b ρ1 with
      | some (.nx, ρ2) => mWh n t b ρ2
      | some (.ct, ρ2) => mWh n t b ρ2
      | some (.bk, ρ2) => some (.nx, ρ2)
      | some (.ret s, ρ2) => some (.ret s, ρ2)
      | none => none)
    | some (false, ρ1) => some (.nx, ρ1)
    | none => none) Q ↔ _
  generalize t ρ = r
  rcases r with _ | ⟨c, ρ1⟩
  · simp only [W_none]
  · cases c
    · simp only [W_some, br_false]
    · simp only [W_some, br_true]
      generalize b ρ1 = r
      rcases r with _ | ⟨o, ρ2⟩
      · simp only [W_none]
      · cases o <;> simp only [W_some, lp]
/-- a loop by what holds ahead of each turn, and a count of the turns that are left -/
theorem W_wh_inv {t : MT} {b : MSt} (I : Nat → Rho → Prop) {Q : Out → Rho → Prop}
    (hs : ∀ m ρ, I m ρ → W (t ρ) fun c ρ1 => br c (W (b ρ1) fun o ρ2 => lp o ρ2 (fun ρ3 => ∃ m', m' < m ∧ I m' ρ3) Q) (Q .nx ρ1)) : ∀ (n m : Nat) (ρ : Rho), m < n → I m ρ → W (mWh n t b ρ) Q
  | 0, m, ρ, h, _ => absurd h (Nat.not_lt_zero _)
  | n + 1, m, ρ, h, i => by
    rw [W_wh]
    refine (hs m ρ i).imp fun c ρ1 k => ⟨fun e => (k.1 e).imp fun o ρ2 q => ?_, fun e => k.2 e⟩
    cases o with
    | nx =>
      obtain ⟨m', l, i'⟩ := q
      exact W_wh_inv I hs n m' ρ2 (by omega) i'
    | ct =>
      obtain ⟨m', l, i'⟩ := q
      exact W_wh_inv I hs n m' ρ2 (by omega) i'
    | bk => exact q
    | ret s => exact q
theorem W_iq {m : ME} {Q : List D → Rho → Prop} : W (mIQ m ρ) Q ↔ W (m ρ) fun d ρ1 => WO (match d with
    | .str s => some (signsD s)
    | d => itemsD d) fun ds => Q ds ρ1 := by
  unfold mIQ
  generalize m ρ = r
  rcases r with _ | ⟨d, ρ1⟩
  · simp only [W_none]
  · cases d <;> simp only [W_some, W_none, WO_some, WO_none, itemsD]
/-- one whole number -/
def r1 (ds : List D) (Q : Int → Prop) (_ : Tag Q := .mk) : Prop := match ds with
  | [.int j] => -(2 ^ 62) ≤ j ∧ j < 2 ^ 62 ∧ Q j
  | _ => False
theorem r1_int {j : Int} {Q : Int → Prop} : r1 [.int j] Q ↔ -(2 ^ 62) ≤ j ∧ j < 2 ^ 62 ∧ Q j := Iff.rfl
theorem W_IR1 {ma : MA} {Q : List D → Rho → Prop} : W (mIR1 ma ρ) Q ↔ W (ma ρ) fun ds ρ1 => r1 ds fun j => Q (rangeD 0 j.toNat) ρ1 := by
  unfold mIR1
  generalize ma ρ = r
  rcases r with _ | ⟨ds, ρ1⟩
  · simp only [W_none]
  · rcases ds with _ | ⟨x, _ | ⟨y, ds⟩⟩
    · simp only [W_some, W_none, r1]
    · cases x with
      | int j =>
        simp only [W_some, r1]
        by_cases h : (decide (-(2 ^ 62) ≤ j) && decide (j < 2 ^ 62)) = true
        · rw [if_pos h, W_some]
          simp only [Bool.and_eq_true, decide_eq_true_eq] at h
          exact ⟨fun q => ⟨h.1, h.2, q⟩, fun q => q.2.2⟩
        · rw [if_neg h, W_none]
          simp only [Bool.and_eq_true, decide_eq_true_eq] at h
          exact ⟨False.elim, fun q => h ⟨q.1, q.2.1⟩⟩
      | _ => simp only [W_some, W_none, r1]
    · simp only [W_some, W_none, r1]
def r2 (ds : List D) (Q : Int → Int → Prop) (_ : Tag Q := .mk) : Prop := match ds with
  | [.int i, .int j] => -(2 ^ 62) ≤ i ∧ i < 2 ^ 62 ∧ -(2 ^ 62) ≤ j ∧ j < 2 ^ 62 ∧ Q i j
  | _ => False
theorem r2_int {i j : Int} {Q : Int → Int → Prop} : r2 [.int i, .int j] Q ↔ -(2 ^ 62) ≤ i ∧ i < 2 ^ 62 ∧ -(2 ^ 62) ≤ j ∧ j < 2 ^ 62 ∧ Q i j := Iff.rfl
theorem W_IR2 {ma : MA} {Q : List D → Rho → Prop} : W (mIR2 ma ρ) Q ↔ W (ma ρ) fun ds ρ1 => r2 ds fun i j => Q (rangeD i (j - i).toNat) ρ1 := by
  unfold mIR2
  generalize ma ρ = r
  rcases r with _ | ⟨ds, ρ1⟩
  · simp only [W_none]
  · rcases ds with _ | ⟨x, _ | ⟨y, _ | ⟨z, ds⟩⟩⟩
    · simp only [W_some, W_none, r2]
    · simp only [W_some, W_none, r2]
    · cases x with
      | int i =>
        cases y with
        | int j =>
          simp only [W_some, r2]
          by_cases h : (decide (-(2 ^ 62) ≤ i) && decide (i < 2 ^ 62) && decide (-(2 ^ 62) ≤ j) && decide (j < 2 ^ 62)) = true
          · rw [if_pos h, W_some]
            simp only [Bool.and_eq_true, decide_eq_true_eq] at h
            exact ⟨fun q => ⟨h.1.1.1, h.1.1.2, h.1.2, h.2, q⟩, fun q => q.2.2.2.2⟩
          · rw [if_neg h, W_none]
            simp only [Bool.and_eq_true, decide_eq_true_eq] at h
            exact ⟨False.elim, fun q => h ⟨⟨⟨q.1, q.2.1⟩, q.2.2.1⟩, q.2.2.2.1⟩⟩
        | _ => simp only [W_some, W_none, r2]
      | _ => simp only [W_some, W_none, r2]
    · simp only [W_some, W_none, r2]
def a1 (ds : List D) (Q : D → Prop) (_ : Tag Q := .mk) : Prop := match ds with
  | [x] => Q x
  | _ => False
theorem a1_one {x : D} {Q : D → Prop} : a1 [x] Q ↔ Q x := Iff.rfl
theorem W_IE {ma : MA} {Q : List D → Rho → Prop} : W (mIE ma ρ) Q ↔ W (ma ρ) fun ds ρ1 => a1 ds fun x => WO (lstD x) fun ds => Q (enumD 0 ds) ρ1 := by
  unfold mIE
  generalize ma ρ = r
  rcases r with _ | ⟨ds, ρ1⟩
  · simp only [W_none]
  · rcases ds with _ | ⟨x, _ | ⟨y, ds⟩⟩
    · simp only [W_some, W_none, a1]
    · simp only [W_some, a1]
      generalize lstD x = r
      rcases r with _ | y
      · simp only [W_none, WO_none]
      · simp only [W_some, WO_some]
    · simp only [W_some, W_none, a1]
def a2 (ds : List D) (Q : D → D → Prop) (_ : Tag Q := .mk) : Prop := match ds with
  | [x, y] => Q x y
  | _ => False
theorem a2_two {x y : D} {Q : D → D → Prop} : a2 [x, y] Q ↔ Q x y := Iff.rfl
theorem W_IZ {ma : MA} {Q : List D → Rho → Prop} : W (mIZ ma ρ) Q ↔ W (ma ρ) fun ds ρ1 => a2 ds fun x y => WO (lstD x) fun ds => WO (lstD y) fun es => Q (zipD ds es) ρ1 := by
  unfold mIZ
  generalize ma ρ = r
  rcases r with _ | ⟨ds, ρ1⟩
  · simp only [W_none]
  · rcases ds with _ | ⟨x, _ | ⟨y, _ | ⟨z, ds⟩⟩⟩
    · simp only [W_some, W_none, a2]
    · simp only [W_some, W_none, a2]
    · simp only [W_some, a2]
      generalize lstD x = r
      generalize lstD y = s
      rcases r with _ | r
      · simp only [W_none, WO_none]
      · rcases s with _ | s
        · simp only [W_none, WO_none, WO_some]
        · simp only [W_some, WO_some]
    · simp only [W_some, W_none, a2]
/-! ### comprehensions -/
theorem wipe_nil {Q : Rho → Prop} : WO (wipeO ρ []) Q ↔ Q ρ := WO_some
theorem W_lc {mi : MI} {vs : List Nat} {g : MG} {tt : MT} {te : ME} {Q : Slot → Rho → Prop} : W (mLc mi vs g tt te ρ) Q ↔ W (mi ρ) fun ds ρ1 => WO (wipeO ρ1 vs) fun ρ2 => W (mLcL vs g tt te ds [] ρ2) fun acc ρe => ownsNo ρe vs = true ∧ Q (.own false (.lst acc)) (restO ρe ρ1 vs) := by
  unfold mLc
  generalize mi ρ = r
  rcases r with _ | ⟨ds, ρ1⟩
  · simp only [W_none]
  · simp only [W_some]
    generalize wipeO ρ1 vs = r
    rcases r with _ | ρ2
    · simp only [W_none, WO_none]
    · simp only [WO_some]
      generalize mLcL vs g tt te ds [] ρ2 = r
      rcases r with _ | ⟨acc, ρe⟩
      · simp only [W_none]
      · simp only [W_some]
        by_cases h : ownsNo ρe vs = true
        · rw [if_pos h, W_some]
          exact ⟨fun q => ⟨h, q⟩, fun q => q.2⟩
        · rw [if_neg h, W_none]
          exact ⟨False.elim, fun q => h q.1⟩
theorem W_lcL_nil {vs : List Nat} {g : MG} {tt : MT} {te : ME} {acc : List D} {Q : List D → Rho → Prop} : W (mLcL vs g tt te [] acc ρ) Q ↔ Q acc ρ := W_some
theorem W_lcL_cons {vs : List Nat} {g : MG} {tt : MT} {te : ME} {acc ds : List D} {Q : List D → Rho → Prop} : W (mLcL vs g tt te (d :: ds) acc ρ) Q ↔ WO (g d ρ) fun ρ1 => W (tt ρ1) fun b ρ2 =>
    br b (W (te ρ2) fun y ρ3 => WO (wipeO ρ3 vs) fun ρ4 => acc.length < szL ∧ W (mLcL vs g tt te ds (acc ++ [y]) ρ4) Q) (WO (wipeO ρ2 vs) fun ρ4 => W (mLcL vs g tt te ds acc ρ4) Q) := by
  show W (match g d ρ with
    | some ρ1 => (match tt ρ1 with
      | some (true, ρ2) => (match te ρ2 with
        | some (y, ρ3) => (match wipeO ρ3 vs with
          | some ρ4 => if acc.length < szL then mLcL vs g tt te ds (acc ++ [y]) ρ4 else none
          | none => none)
        | none => none)
      | some (false, ρ2) => (match wipeO ρ2 vs with
        | some ρ4 => mLcL vs g tt te ds acc ρ4
        | none => none)
      | none => none)
    | none => none) Q ↔ _
  generalize g d ρ = r
  rcases r with _ | ρ1
  · simp only [W_none, WO_none]
  · simp only [WO_some]
    generalize tt ρ1 = r
    rcases r with _ | ⟨b, ρ2⟩
    · simp only [W_none]
    · cases b
      · simp only [W_some, br_false]
        generalize wipeO ρ2 vs = r
        rcases r with _ | ρ4
        · simp only [W_none, WO_none]
        · simp only [WO_some]
      · simp only [W_some, br_true]
        generalize te ρ2 = r
        rcases r with _ | ⟨y, ρ3⟩
        · simp only [W_none]
        · simp only [W_some]
          generalize wipeO ρ3 vs = r
          rcases r with _ | ρ4
          · simp only [W_none, WO_none]
          · simp only [WO_some]
            by_cases h : acc.length < szL
            · rw [if_pos h]
              exact ⟨fun q => ⟨h, q⟩, fun q => q.2⟩
            · rw [if_neg h, W_none]
              exact ⟨False.elim, fun q => h q.1⟩
/-- a comprehension by what holds ahead of each turn: what is made, what is left -/
theorem W_lcL_inv {vs : List Nat} {g : MG} {tt : MT} {te : ME} (I : List D → List D → Rho → Prop) {Q : List D → Rho → Prop} (he : ∀ acc ρ, I [] acc ρ → Q acc ρ)
    (hs : ∀ d ds acc ρ, I (d :: ds) acc ρ → WO (g d ρ) fun ρ1 => W (tt ρ1) fun b ρ2 => br b (W (te ρ2) fun y ρ3 => WO (wipeO ρ3 vs) fun ρ4 => acc.length < szL ∧ I ds (acc ++ [y]) ρ4) (WO (wipeO ρ2 vs) fun ρ4 => I ds acc ρ4)) :
    ∀ (ds acc : List D) (ρ : Rho), I ds acc ρ → W (mLcL vs g tt te ds acc ρ) Q
  | [], acc, ρ, h => W_lcL_nil.mpr (he acc ρ h)
  | d :: ds, acc, ρ, h => W_lcL_cons.mpr ((hs d ds acc ρ h).imp fun ρ1 k => k.imp fun b ρ2 q => ⟨fun e => (q.1 e).imp fun y ρ3 q => q.imp fun ρ4 q => ⟨q.1, W_lcL_inv I he hs ds _ ρ4 q.2⟩, fun e => (q.2 e).imp fun ρ4 q => W_lcL_inv I he hs ds acc ρ4 q⟩)
theorem W_yes {Q : Bool → Rho → Prop} : W (mYes ρ) Q ↔ Q true ρ := W_some
theorem W_chT {f f' : D → D → Option Bool} {ma mb mc : ME} {Q : Bool → Rho → Prop} : W (mChT f f' ma mb mc ρ) Q ↔ W (ma ρ) fun x ρ1 => W (mb ρ1) fun y ρ2 => WO (f x y) fun b => br b (W (mc ρ2) fun z ρ3 => WO (f' y z) fun c => Q c ρ3) (Q false ρ2) := by
  unfold mChT
  generalize ma ρ = r
  rcases r with _ | ⟨x, ρ1⟩
  · simp only [W_none]
  · simp only [W_some]
    generalize mb ρ1 = r
    rcases r with _ | ⟨y, ρ2⟩
    · simp only [W_none]
    · simp only [W_some]
      generalize f x y = r
      rcases r with _ | b
      · simp only [W_none, WO_none]
      · cases b
        · simp only [W_some, WO_some, br_false]
        · simp only [WO_some, br_true]
          generalize mc ρ2 = r
          rcases r with _ | ⟨z, ρ3⟩
          · simp only [W_none]
          · simp only [W_some]
            generalize f' y z = r
            rcases r with _ | c
            · simp only [W_none, WO_none]
            · simp only [W_some, WO_some]
theorem W_inN {neg : Bool} {ma : ME} {Q : Bool → Rho → Prop} : W (mInN neg ma i ρ) Q ↔ W (ma ρ) fun x ρ1 => pk ρ1[i]? fun y => WO (inD neg x y) fun b => Q b ρ1 := by
  unfold mInN
  generalize ma ρ = r
  rcases r with _ | ⟨x, ρ1⟩
  · simp only [W_none]
  · simp only [W_some]
    rw [pk_peek]
    generalize peek ρ1 i = r
    rcases r with _ | y
    · simp [W_none]
    · simp only [Option.some.injEq, exists_eq_left']
      generalize inD neg x y = r
      rcases r with _ | z
      · simp only [W_none, WO_none]
      · simp only [W_some, WO_some]
theorem W_inNV {neg : Bool} {ma : ME} {Q : D → Rho → Prop} : W (mInNV neg ma i ρ) Q ↔ W (mInN neg ma i ρ) fun b ρ1 => Q (.bl b) ρ1 := by
  unfold mInNV
  generalize mInN neg ma i ρ = r
  rcases r with _ | ⟨x, ρ1⟩
  · simp only [W_none]
  · simp only [W_some]
end
end Mr

set_option Elab.async false
set_option linter.all false
set_option maxRecDepth 100000
set_option maxHeartbeats 2000000
/-! Mir12: what the operators answer on data that is known. -/
namespace Mr
open PySem L2
section
variable {i j : Int} {xs ys : List D} {R : D → Prop} {S : Slot → Prop} {T : Bool → Prop} {U : Int → Prop} {V : List D → Prop}
theorem v_add : WO (addS (.int i) (.int j)) S ↔ S (.val (.int (i + j))) := WO_some
theorem v_addS {s t : Str} : WO (addS (.str s) (.str t)) S ↔ s.length + t.length ≤ szL ∧ S (.val (.str (s ++ t))) := by
  show WO (if s.length + t.length ≤ szL then some (Slot.val (.str (s ++ t))) else none) S ↔ _
  rw [WO_guard, WO_some]
theorem v_addL : WO (addS (.lst xs) (.lst ys)) S ↔ xs.length + ys.length ≤ szL ∧ S (.own false (.lst (xs ++ ys))) := by
  show WO (if xs.length + ys.length ≤ szL then some (Slot.own false (.lst (xs ++ ys))) else none) S ↔ _
  rw [WO_guard, WO_some]
theorem v_addT : WO (addS (.tup xs) (.tup ys)) S ↔ xs.length + ys.length ≤ szL ∧ S (.val (.tup (xs ++ ys))) := by
  show WO (if xs.length + ys.length ≤ szL then some (Slot.val (.tup (xs ++ ys))) else none) S ↔ _
  rw [WO_guard, WO_some]
theorem v_sub : WO (subD (.int i) (.int j)) R ↔ R (.int (i - j)) := WO_some
theorem v_mul : WO (mulS (.int i) (.int j)) S ↔ mulSm i j = true ∧ S (.val (.int (i * j))) := by
  show WO (if mulSm i j = true then some (Slot.val (.int (i * j))) else none) S ↔ _
  rw [WO_guard, WO_some]
theorem v_div : WO (divD (.int i) (.int j)) R ↔ (j ≠ 0 ∧ j.natAbs.log2 < 9000) ∧ R (.int (i.fdiv j)) := by
  show WO (if divOk i j = true then some (D.int (i.fdiv j)) else none) R ↔ _
  rw [WO_guard, WO_some]
  unfold divOk
  simp only [Bool.and_eq_true, decide_eq_true_eq]
theorem v_mod : WO (modD (.int i) (.int j)) R ↔ j ≠ 0 ∧ R (.int (i.fmod j)) := by
  show WO (if modOk i j = true then some (D.int (i.fmod j)) else none) R ↔ _
  rw [WO_guard, WO_some]
  unfold modOk
  simp only [decide_eq_true_eq]
theorem v_pow : WO (powD (.int i) (.int j)) R ↔ (0 ≤ j ∧ j ≤ 1000000 ∧ i.natAbs < 2 ^ 64) ∧ R (.int (i ^ j.toNat)) := by
  show WO (if powOk i j = true then some (D.int (i ^ j.toNat)) else none) R ↔ _
  rw [WO_guard, WO_some]
  unfold powOk
  simp only [Bool.and_eq_true, decide_eq_true_eq, and_assoc]
theorem v_intB {b : Bool} : WO (intF [.bl b]) S ↔ S (.val (.int (if b then 1 else 0))) := WO_some
theorem v_intI : WO (intF [.int i]) S ↔ S (.val (.int i)) := WO_some
theorem v_neg : WO (negD (.int i)) R ↔ R (.int (-i)) := WO_some
theorem v_abs : WO (absF [.int i]) S ↔ S (.val (.int (if i < 0 then -i else i))) := WO_some
theorem v_max : WO (max2F [.int i, .int j]) S ↔ S (.val (.int (if j > i then j else i))) := WO_some
theorem v_min : WO (min2F [.int i, .int j]) S ↔ S (.val (.int (if j < i then j else i))) := WO_some
theorem v_lt : WO (ltD (.int i) (.int j)) T ↔ T (decide (i < j)) := WO_some
theorem v_le : WO (leD (.int i) (.int j)) T ↔ T (decide (i ≤ j)) := WO_some
theorem v_gt : WO (gtD (.int i) (.int j)) T ↔ T (decide (j < i)) := WO_some
theorem v_ge : WO (geD (.int i) (.int j)) T ↔ T (decide (j ≤ i)) := WO_some
theorem v_trI : WO (truD (.int i)) T ↔ T (i != 0) := WO_some
theorem v_trB {b : Bool} : WO (truD (.bl b)) T ↔ T b := WO_some
theorem v_trL : WO (truD (.lst xs)) T ↔ T (!xs.isEmpty) := WO_some
theorem v_trT : WO (truD (.tup xs)) T ↔ T (!xs.isEmpty) := WO_some
theorem lenLst : WO (lenD (.lst xs)) U ↔ U xs.length := WO_some
theorem lenTup : WO (lenD (.tup xs)) U ↔ U xs.length := WO_some
theorem lenRl : WO (lenD (.rl xs)) U ↔ U xs.length := WO_some
theorem v_lenL : WO (lenF [.lst xs]) S ↔ S (.val (.int xs.length)) := WO_some
theorem v_lenT : WO (lenF [.tup xs]) S ↔ S (.val (.int xs.length)) := WO_some
theorem v_lenR : WO (lenF [.rl xs]) S ↔ S (.val (.int xs.length)) := WO_some
theorem ixL : WO (ixD (.lst xs) (.int i)) R ↔ WO (atD xs i) R := Iff.rfl
theorem ixT : WO (ixD (.tup xs) (.int i)) R ↔ WO (atD xs i) R := Iff.rfl
theorem ixR : WO (ixD (.rl xs) (.int i)) R ↔ WO (atD xs i) R := Iff.rfl
theorem itL : WO (itemsD (.lst xs)) V ↔ V xs := WO_some
theorem itT : WO (itemsD (.tup xs)) V ↔ V xs := WO_some
theorem itR : WO (itemsD (.rl xs)) V ↔ V xs := WO_some
theorem lsL : WO (lstD (.lst xs)) V ↔ V xs := WO_some
theorem lsR : WO (lstD (.rl xs)) V ↔ V xs := WO_some
theorem blD_lt {f : D → D → Option Bool} {x y : D} : WO (blD f x y) R ↔ WO (f x y) fun b => R (.bl b) := by
  unfold blD
  generalize f x y = r
  rcases r with _ | b
  · simp only [WO_none]
  · simp only [WO_some]
theorem at_lt {n : Nat} {d : D} (h : xs[n]? = some d) : atD xs (n : Int) = some d := by
  have l : n < xs.length := (List.getElem?_eq_some_iff.mp h).1
  unfold atD
  have : L2.ixN xs.length (n : Int) = some n := by
    unfold L2.ixN
    simp
    omega
  rw [this]
  exact h
theorem W_at {n : Nat} {d : D} (h : xs[n]? = some d) (q : R d) : WO (atD xs (n : Int)) R := ⟨_, at_lt h, q⟩
theorem W_atI (h0 : 0 ≤ i) (h1 : i < xs.length) (q : ∀ d, xs[i.toNat]? = some d → R d) : WO (atD xs i) R := by
  have l : i.toNat < xs.length := by omega
  obtain ⟨d, e⟩ : ∃ d, xs[i.toNat]? = some d := ⟨_, List.getElem?_eq_getElem l⟩
  have := at_lt e
  rw [show ((i.toNat : Nat) : Int) = i by omega] at this
  exact ⟨d, this, q d e⟩
end
theorem back1 {i : Nat} {as : List ArgV} {p : Bool} {u o : Own} {ss : List Slot} : back i (.br i :: as) (.own p u :: ss) o = u := by
  unfold back
  rw [if_pos rfl]
section
variable {x0 x1 x2 x3 x4 x5 x6 x7 y : D} {xs : List D} {R : D → Prop} {V : List D → Prop}
/-- a sign of a text -/
theorem W_ixS {s : Str} {i : Int} (hl : s.length ≤ szL) (h0 : 0 ≤ i) (h1 : i < s.cps.toList.length) (q : ∀ c, R (.str ⟨#[c]⟩)) : WO (ixD (.str s) (.int i)) R := by
  have l : i.toNat < s.cps.toList.length := by omega
  have e : atI s.cps.toList i = some s.cps.toList[i.toNat] := by
    unfold atI ixN
    rw [if_pos h0, if_pos h1]
    exact List.getElem?_eq_getElem l
  refine ⟨_, ?_, q s.cps.toList[i.toNat]⟩
  show (if s.length ≤ szL then (match atI s.cps.toList i with
    | some c => some (D.str ⟨#[c]⟩)
    | none => none) else none) = _
  rw [if_pos hl, e]
theorem mulSm_l {i j : Int} (h0 : -(2 ^ 63) ≤ i) (h1 : i < 2 ^ 63) : mulSm i j = true := by
  unfold mulSm
  have : i.natAbs < 2 ^ 64 := by omega
  simp [this]
theorem mulSm_r {i j : Int} (h0 : -(2 ^ 63) ≤ j) (h1 : j < 2 ^ 63) : mulSm i j = true := by
  unfold mulSm
  have : j.natAbs < 2 ^ 64 := by omega
  simp [this]
theorem log2_sm {n : Int} (h0 : -(2 ^ 63) ≤ n) (h1 : n < 2 ^ 63) : n.natAbs.log2 < 9000 := by
  by_cases z : n.natAbs = 0
  · rw [z]
    decide
  · rw [Nat.log2_lt z]
    exact Nat.lt_of_lt_of_le (by omega : n.natAbs < 2 ^ 64) (Nat.pow_le_pow_right (by decide) (by decide))
theorem fm0 {a n : Int} (h : 0 < n) : 0 ≤ a.fmod n := Int.fmod_nonneg_of_pos a h
theorem fm1 {a n : Int} (h : 0 < n) : a.fmod n < n := Int.fmod_lt_of_pos a h
/-- ds[k] = y -/
def stD (ds : List D) (k : Int) (y : D) : Option (List D) := match ixN ds.length k with
  | some j => some (ds.set j y)
  | none => none
theorem W_setIx' {m mi : ME} {i : Nat} {ρ : Rho} {Q : Out → Rho → Prop} : W (mSetIx i m mi ρ) Q ↔ W (m ρ) fun y ρ1 => pk ρ1[i]? fun _ => W (mi ρ1) fun k ρ2 => asI k fun k => ol ρ2[i]? fun p ds => WO (stD ds k y) fun ds' => Q .nx (ρ2.set i (.own p (.lst ds'))) := by
  unfold mSetIx
  generalize m ρ = r
  rcases r with _ | ⟨y, ρ1⟩
  · simp only [W_none]
  · simp only [W_some]
    rw [pk_peek]
    generalize peek ρ1 i = r
    rcases r with _ | d
    · simp [W_none]
    · simp only [Option.some.injEq, exists_eq_left']
      generalize mi ρ1 = r
      rcases r with _ | ⟨k, ρ2⟩
      · simp only [W_none]
      · cases k with
        | int k =>
          simp only [W_some, asI]
          generalize ρ2[i]? = r
          rcases r with _ | s
          · simp only [W_none, ol]
          · cases s with
            | own p o =>
              cases o with
              | lst ds =>
                simp only [ol]
                unfold stD
                generalize ixN ds.length k = r
                rcases r with _ | x
                · simp only [W_none, WO_none]
                · simp only [W_some, WO_some]
              | dct _ => simp only [W_none, ol]
            | _ => simp only [W_none, ol]
        | _ => simp only [W_some, W_none, asI]
theorem at0 : WO (atD (x0 :: xs) 0) R ↔ R x0 := by
  have e : atD (x0 :: xs) ((0 : Nat) : Int) = some x0 := at_lt rfl
  rw [show (0 : Int) = ((0 : Nat) : Int) from rfl, e]
  exact WO_some
theorem at1 : WO (atD (x0 :: x1 :: xs) 1) R ↔ R x1 := by
  have e : atD (x0 :: x1 :: xs) ((1 : Nat) : Int) = some x1 := at_lt rfl
  rw [show (1 : Int) = ((1 : Nat) : Int) from rfl, e]
  exact WO_some
theorem at2 : WO (atD (x0 :: x1 :: x2 :: xs) 2) R ↔ R x2 := by
  have e : atD (x0 :: x1 :: x2 :: xs) ((2 : Nat) : Int) = some x2 := at_lt rfl
  rw [show (2 : Int) = ((2 : Nat) : Int) from rfl, e]
  exact WO_some
theorem at3 : WO (atD (x0 :: x1 :: x2 :: x3 :: xs) 3) R ↔ R x3 := by
  have e : atD (x0 :: x1 :: x2 :: x3 :: xs) ((3 : Nat) : Int) = some x3 := at_lt rfl
  rw [show (3 : Int) = ((3 : Nat) : Int) from rfl, e]
  exact WO_some
theorem at4 : WO (atD (x0 :: x1 :: x2 :: x3 :: x4 :: xs) 4) R ↔ R x4 := by
  have e : atD (x0 :: x1 :: x2 :: x3 :: x4 :: xs) ((4 : Nat) : Int) = some x4 := at_lt rfl
  rw [show (4 : Int) = ((4 : Nat) : Int) from rfl, e]
  exact WO_some
theorem at5 : WO (atD (x0 :: x1 :: x2 :: x3 :: x4 :: x5 :: xs) 5) R ↔ R x5 := by
  have e : atD (x0 :: x1 :: x2 :: x3 :: x4 :: x5 :: xs) ((5 : Nat) : Int) = some x5 := at_lt rfl
  rw [show (5 : Int) = ((5 : Nat) : Int) from rfl, e]
  exact WO_some
theorem at6 : WO (atD (x0 :: x1 :: x2 :: x3 :: x4 :: x5 :: x6 :: xs) 6) R ↔ R x6 := by
  have e : atD (x0 :: x1 :: x2 :: x3 :: x4 :: x5 :: x6 :: xs) ((6 : Nat) : Int) = some x6 := at_lt rfl
  rw [show (6 : Int) = ((6 : Nat) : Int) from rfl, e]
  exact WO_some
theorem at7 : WO (atD (x0 :: x1 :: x2 :: x3 :: x4 :: x5 :: x6 :: x7 :: xs) 7) R ↔ R x7 := by
  have e : atD (x0 :: x1 :: x2 :: x3 :: x4 :: x5 :: x6 :: x7 :: xs) ((7 : Nat) : Int) = some x7 := at_lt rfl
  rw [show (7 : Int) = ((7 : Nat) : Int) from rfl, e]
  exact WO_some
theorem st0 : WO (stD (x0 :: xs) 0 y) V ↔ V (y :: xs) := by
  have e : ixN (x0 :: xs).length ((0 : Nat) : Int) = some 0 := by
    unfold ixN
    simp only [List.length_cons]
    rw [if_pos (by omega), if_pos (by omega)]
    rfl
  unfold stD
  rw [show (0 : Int) = ((0 : Nat) : Int) from rfl, e]
  exact WO_some
theorem st1 : WO (stD (x0 :: x1 :: xs) 1 y) V ↔ V (x0 :: y :: xs) := by
  have e : ixN (x0 :: x1 :: xs).length ((1 : Nat) : Int) = some 1 := by
    unfold ixN
    simp only [List.length_cons]
    rw [if_pos (by omega), if_pos (by omega)]
    rfl
  unfold stD
  rw [show (1 : Int) = ((1 : Nat) : Int) from rfl, e]
  exact WO_some
theorem st2 : WO (stD (x0 :: x1 :: x2 :: xs) 2 y) V ↔ V (x0 :: x1 :: y :: xs) := by
  have e : ixN (x0 :: x1 :: x2 :: xs).length ((2 : Nat) : Int) = some 2 := by
    unfold ixN
    simp only [List.length_cons]
    rw [if_pos (by omega), if_pos (by omega)]
    rfl
  unfold stD
  rw [show (2 : Int) = ((2 : Nat) : Int) from rfl, e]
  exact WO_some
theorem st3 : WO (stD (x0 :: x1 :: x2 :: x3 :: xs) 3 y) V ↔ V (x0 :: x1 :: x2 :: y :: xs) := by
  have e : ixN (x0 :: x1 :: x2 :: x3 :: xs).length ((3 : Nat) : Int) = some 3 := by
    unfold ixN
    simp only [List.length_cons]
    rw [if_pos (by omega), if_pos (by omega)]
    rfl
  unfold stD
  rw [show (3 : Int) = ((3 : Nat) : Int) from rfl, e]
  exact WO_some
end
/-! ### loops by the count of the turns -/
theorem W_forL_ix {g : MG} {b : MSt} (I : Nat → Rho → Prop) {Q : Out → Rho → Prop} (es : List D) (he : ∀ ρ, I es.length ρ → Q .nx ρ)
    (hs : ∀ i d ρ, es[i]? = some d → I i ρ → WO (g d ρ) fun ρ1 => W (b ρ1) fun o ρ2 => lp o ρ2 (I (i + 1)) Q) {ρ : Rho} (h0 : I 0 ρ) : W (mForL g b es ρ) Q := by
  refine W_forL_inv (fun ds ρ => ∃ i, i + ds.length = es.length ∧ es.drop i = ds ∧ I i ρ) (fun ρ h => ?_) (fun d ds ρ h => ?_) es ρ ⟨0, by simp, rfl, h0⟩
  · obtain ⟨i, e, _, h⟩ := h
    refine he ρ ?_
    rw [← e]
    exact h
  · obtain ⟨i, e, ed, h⟩ := h
    have hd : es[i]? = some d := by
      have : (es.drop i)[0]? = some d := by rw [ed]; rfl
      rw [List.getElem?_drop] at this
      exact this
    refine (hs i d ρ hd h).imp fun ρ1 k => k.imp fun o ρ2 q => ?_
    have nx : I (i + 1) ρ2 → ∃ i, i + ds.length = es.length ∧ es.drop i = ds ∧ I i ρ2 := fun h => by
      refine ⟨i + 1, ?_, ?_, h⟩
      · rw [List.length_cons] at e
        omega
      · have : es.drop (i + 1) = (es.drop i).drop 1 := by rw [List.drop_drop]
        rw [this, ed]
        rfl
    cases o with
    | nx => exact nx q
    | ct => exact nx q
    | bk => exact q
    | ret s => exact q
theorem rangeD_len {lo : Int} {n : Nat} : (rangeD lo n).length = n := by simp [rangeD]
theorem rangeD_get {lo : Int} {n i : Nat} {d : D} (h : (rangeD lo n)[i]? = some d) : d = .int (lo + i) ∧ i < n := by
  have l : i < n := by
    have := (List.getElem?_eq_some_iff.mp h).1
    rwa [rangeD_len] at this
  refine ⟨?_, l⟩
  unfold rangeD at h
  rw [List.getElem?_map, List.getElem?_range l] at h
  exact (Option.some.inj h).symm
theorem W_forR {g : MG} {b : MSt} (I : Nat → Rho → Prop) {Q : Out → Rho → Prop} {lo : Int} {n : Nat} (he : ∀ ρ, I n ρ → Q .nx ρ)
    (hs : ∀ (i : Nat) ρ, i < n → I i ρ → WO (g (.int (lo + i)) ρ) fun ρ1 => W (b ρ1) fun o ρ2 => lp o ρ2 (I (i + 1)) Q) {ρ : Rho} (h0 : I 0 ρ) : W (mForL g b (rangeD lo n) ρ) Q :=
  W_forL_ix I _ (fun ρ h => he ρ (by rwa [rangeD_len] at h)) (fun i d ρ hd h => by
    obtain ⟨rfl, l⟩ := rangeD_get hd
    exact hs i ρ l h) h0
theorem W_lcL_ix {vs : List Nat} {g : MG} {tt : MT} {te : ME} (I : Nat → List D → Rho → Prop) {Q : List D → Rho → Prop} (es : List D) (he : ∀ acc ρ, I es.length acc ρ → Q acc ρ)
    (hs : ∀ i d acc ρ, es[i]? = some d → I i acc ρ → WO (g d ρ) fun ρ1 => W (tt ρ1) fun b ρ2 => br b (W (te ρ2) fun y ρ3 => WO (wipeO ρ3 vs) fun ρ4 => acc.length < szL ∧ I (i + 1) (acc ++ [y]) ρ4) (WO (wipeO ρ2 vs) fun ρ4 => I (i + 1) acc ρ4)) {ρ : Rho} (h0 : I 0 [] ρ) :
    W (mLcL vs g tt te es [] ρ) Q := by
  refine W_lcL_inv (fun ds acc ρ => ∃ i, i + ds.length = es.length ∧ es.drop i = ds ∧ I i acc ρ) (fun acc ρ h => ?_) (fun d ds acc ρ h => ?_) es [] ρ ⟨0, by simp, rfl, h0⟩
  · obtain ⟨i, e, _, h⟩ := h
    refine he acc ρ ?_
    rw [← e]
    exact h
  · obtain ⟨i, e, ed, h⟩ := h
    have hd : es[i]? = some d := by
      have : (es.drop i)[0]? = some d := by rw [ed]; rfl
      rw [List.getElem?_drop] at this
      exact this
    have nx : ∀ (acc : List D) (ρ2 : Rho), I (i + 1) acc ρ2 → ∃ i, i + ds.length = es.length ∧ es.drop i = ds ∧ I i acc ρ2 := fun acc ρ2 h => by
      refine ⟨i + 1, ?_, ?_, h⟩
      · rw [List.length_cons] at e
        omega
      · have : es.drop (i + 1) = (es.drop i).drop 1 := by rw [List.drop_drop]
        rw [this, ed]
        rfl
    exact (hs i d acc ρ hd h).imp fun ρ1 k => k.imp fun b ρ2 q => ⟨fun e => (q.1 e).imp fun y ρ3 q => q.imp fun ρ4 q => ⟨q.1, nx _ _ q.2⟩, fun e => (q.2 e).imp fun ρ4 q => nx _ _ q⟩
theorem W_lcR {vs : List Nat} {g : MG} {te : ME} (I : Nat → List D → Rho → Prop) {Q : List D → Rho → Prop} {lo : Int} {n : Nat} (he : ∀ acc ρ, I n acc ρ → Q acc ρ)
    (hs : ∀ (i : Nat) acc ρ, i < n → I i acc ρ → WO (g (.int (lo + i)) ρ) fun ρ1 => W (te ρ1) fun y ρ3 => WO (wipeO ρ3 vs) fun ρ4 => acc.length < szL ∧ I (i + 1) (acc ++ [y]) ρ4) {ρ : Rho} (h0 : I 0 [] ρ) :
    W (mLcL vs g mYes te (rangeD lo n) [] ρ) Q :=
  W_lcL_ix I _ (fun acc ρ h => he acc ρ (by rwa [rangeD_len] at h)) (fun i d acc ρ hd h => by
    obtain ⟨rfl, l⟩ := rangeD_get hd
    exact (hs i acc ρ l h).imp fun ρ1 q => W_yes.mpr (br_true.mpr q)) h0
/-- a slot that holds no own object -/
def Fr : Slot → Prop
  | .own _ _ => False
  | _ => True
theorem fr_un : Fr .un := trivial
theorem fr_val {d : D} : Fr (.val d) := trivial
theorem wr_fr {s : Slot} (h : Fr s) {P : Prop} : wr (some s) P ↔ P := by
  cases s with
  | own p o => exact h.elim
  | _ => exact Iff.rfl
theorem strsD_map : ∀ ts : List Str, strsD (ts.map D.str) = some ts
  | [] => rfl
  | t :: ts => by
    show (match strsD (ts.map D.str) with
      | some ss => some (t :: ss)
      | none => none) = _
    rw [strsD_map ts]
theorem W_join {a : Str} {ts : List Str} {S : Slot → Prop} (h : (ts.map fun t : Str => t.length).sum + ts.length * a.length ≤ 16777216) (q : S (.val (.str (Txt.join a ts)))) : WO (joinF (.str a) [.lst (ts.map D.str)]) S := by
  refine ⟨_, ?_, q⟩
  show (match itemsD (.lst (ts.map D.str)) with
    | some ds => (match strsD ds with
      | some ss => if (ss.map fun t : Str => t.length).sum + ss.length * a.length ≤ 16777216 then some (Slot.val (.str (Txt.join a ss))) else none
      | none => none)
    | none => none) = _
  simp only [itemsD, strsD_map]
  rw [if_pos h]
theorem backAll_nil {as : List ArgV} {ss : List Slot} {j : Nat} : backAll as ss j [] = [] := rfl
theorem backAll_cons {as : List ArgV} {ss : List Slot} {j : Nat} {s : Slot} {r : Rho} : backAll as ss j (s :: r) = backAt as ss j s :: backAll as ss (j + 1) r := by
  cases s <;> rfl
theorem bA_un {as : List ArgV} {ss : List Slot} {j : Nat} : backAt as ss j .un = .un := rfl
theorem bA_val {as : List ArgV} {ss : List Slot} {j : Nat} {d : D} : backAt as ss j (.val d) = .val d := rfl
theorem bA_own {as : List ArgV} {ss : List Slot} {j : Nat} {p : Bool} {o : Own} : backAt as ss j (.own p o) = .own p (back j as ss o) := rfl
theorem bA_fr {as : List ArgV} {ss : List Slot} {j : Nat} {s : Slot} (h : Fr s) : backAt as ss j s = s := by
  cases s with
  | own p o => exact h.elim
  | _ => rfl
/-- no own object there -/
def nown (s : Option Slot) (P : Prop) (_ : Tag P := .mk) : Prop := match s with
  | some (.own _ _) => False
  | _ => P
theorem nown_un {P : Prop} : nown (some .un) P ↔ P := Iff.rfl
theorem nown_val {d : D} {P : Prop} : nown (some (.val d)) P ↔ P := Iff.rfl
theorem nown_fr {s : Slot} (h : Fr s) {P : Prop} : nown (some s) P ↔ P := by
  cases s with
  | own p o => exact h.elim
  | _ => exact Iff.rfl
theorem wipe_cons {ρ : Rho} {v : Nat} {vs : List Nat} {Q : Rho → Prop} : WO (wipeO ρ (v :: vs)) Q ↔ WO (wipeO ρ vs) fun ρ1 => nown ρ1[v]? (Q (ρ1.set v .un)) := by
  show WO (match wipeO ρ vs with
    | some ρ1 => (match ρ1[v]? with
      | some (.own _ _) => none
      | _ => some (ρ1.set v .un))
    | none => none) Q ↔ _
  generalize wipeO ρ vs = r
  rcases r with _ | ρ1
  · simp only [WO_none]
  · simp only [WO_some]
    generalize ρ1[v]? = s
    rcases s with _ | s
    · simp only [WO_some, nown]
    · cases s <;> simp only [WO_some, WO_none, nown]
theorem on_nil {ρ : Rho} : (ownsNo ρ [] = true) ↔ True := by simp [ownsNo]
theorem on_cons {ρ : Rho} {v : Nat} {vs : List Nat} : (ownsNo ρ (v :: vs) = true) ↔ nown ρ[v]? (ownsNo ρ vs = true) := by
  unfold ownsNo
  rw [List.all_cons, Bool.and_eq_true]
  generalize ρ[v]? = s
  rcases s with _ | s
  · simp [nown]
  · cases s <;> simp [nown]
theorem gd0 {s : Slot} {r : Rho} {x : Slot} : (s :: r).getD 0 x = s := rfl
theorem gdS {s : Slot} {r : Rho} {x : Slot} {n : Nat} : (s :: r).getD (n + 1) x = r.getD n x := rfl
theorem W_popAt {ds : List D} {i : Int} {R : D × List D → Prop} (h0 : 0 ≤ i) (h1 : i < ds.length) (hl : ds.length ≤ 16777216) (q : ∀ x ds', x ∈ ds → ds'.length + 1 = ds.length → (∀ y ∈ ds', y ∈ ds) → R (x, ds')) : WO (popAtF ds [.int i]) R := by
  have l : i.toNat < ds.length := by omega
  refine ⟨(ds[i.toNat], ds.eraseIdx i.toNat), ?_, q _ _ (List.getElem_mem l) (by rw [List.length_eraseIdx_of_lt l]; omega) (fun y hy => List.mem_of_mem_eraseIdx hy)⟩
  show (if (decide (-(2 ^ 63) ≤ i) && decide (i < 2 ^ 63)) = true then (match seqIndex? i ds.length with
    | some k => (match ds[k]? with
      | some x => some (x, ds.eraseIdx k)
      | none => none)
    | none => none) else none) = _
  have e : (decide (-(2 ^ 63) ≤ i) && decide (i < 2 ^ 63)) = true := by
    rw [Bool.and_eq_true]
    exact ⟨decide_eq_true (by omega), decide_eq_true (by omega)⟩
  rw [if_pos e, seqIndex_of h0 (by omega)]
  simp only
  rw [List.getElem?_eq_getElem l]
theorem v_list {x : D} {S : Slot → Prop} : WO (listF [x]) S ↔ WO (itemsD x) fun ds => S (.own false (.lst ds)) := by
  show WO (match itemsD x with
    | some ds => some (Slot.own false (.lst ds))
    | none => none) S ↔ _
  generalize itemsD x = r
  rcases r with _ | y
  · simp only [WO_none]
  · simp only [WO_some]
theorem v_tuple {x : D} {S : Slot → Prop} : WO (tupleF [x]) S ↔ WO (itemsD x) fun ds => S (.val (.tup ds)) := by
  show WO (match itemsD x with
    | some ds => some (Slot.val (.tup ds))
    | none => none) S ↔ _
  generalize itemsD x = r
  rcases r with _ | y
  · simp only [WO_none]
  · simp only [WO_some]
section
variable {T : Bool → Prop}
theorem v_eq {x y : D} : WO (eqD x y) T ↔ (eqOk x && eqOk y) = true ∧ T (qD x y) := by
  unfold eqD
  rw [WO_guard, WO_some]
theorem v_ne {x y : D} : WO (neD x y) T ↔ (eqOk x && eqOk y) = true ∧ T (!qD x y) := by
  unfold neD
  rw [WO_guard, WO_some]
theorem v_eqS {s t : Str} : WO (eqD (.str s) (.str t)) T ↔ T (s == t) := by
  rw [v_eq]
  exact ⟨fun q => q.2, fun q => ⟨rfl, q⟩⟩
theorem v_neS {s t : Str} : WO (neD (.str s) (.str t)) T ↔ T (!(s == t)) := by
  rw [v_ne]
  exact ⟨fun q => q.2, fun q => ⟨rfl, q⟩⟩
theorem v_eqI {i j : Int} : WO (eqD (.int i) (.int j)) T ↔ T (decide (i = j)) := by
  rw [v_eq]
  exact ⟨fun q => q.2, fun q => ⟨rfl, q⟩⟩
theorem v_neI {i j : Int} : WO (neD (.int i) (.int j)) T ↔ T (!decide (i = j)) := by
  rw [v_ne]
  exact ⟨fun q => q.2, fun q => ⟨rfl, q⟩⟩
end
theorem v_app {ds : List D} {x : D} {R : D × List D → Prop} : WO (appF ds [x]) R ↔ ds.length < szL ∧ R (.non, ds ++ [x]) := by
  show WO (if ds.length < szL then some (D.non, ds ++ [x]) else none) R ↔ _
  rw [WO_guard, WO_some]
theorem v_rev {ds : List D} {R : D × List D → Prop} : WO (revF ds []) R ↔ R (.non, ds.reverse) := WO_some
theorem v_clear {ds : List D} {R : D × List D → Prop} : WO (clearF ds []) R ↔ R (.non, []) := WO_some
theorem v_ext {ds zs : List D} {R : D × List D → Prop} : WO (extF ds [.lst zs]) R ↔ ds.length + zs.length ≤ szL ∧ R (.non, ds ++ zs) := by
  show WO (if ds.length + zs.length ≤ szL then some (D.non, ds ++ zs) else none) R ↔ _
  rw [WO_guard, WO_some]
theorem W_atM {xs : List D} {i : Int} {R : D → Prop} (h0 : 0 ≤ i) (h1 : i < xs.length) (q : ∀ d, d ∈ xs → R d) : WO (atD xs i) R := W_atI h0 h1 fun d hd => q d (List.mem_of_getElem? hd)
/-- what a value is walked as -/
def wkD : D → Option (List D)
  | .lst ds => some ds
  | .rl ds => some ds
  | .tup ds => some ds
  | .str s => some (signsD s)
  | _ => none
theorem W_iq' {m : ME} {ρ : Rho} {Q : List D → Rho → Prop} : W (mIQ m ρ) Q ↔ W (m ρ) fun d ρ1 => WO (wkD d) fun ds => Q ds ρ1 := by
  unfold mIQ
  generalize m ρ = r
  rcases r with _ | ⟨d, ρ1⟩
  · simp only [W_none]
  · cases d <;> simp only [W_some, W_none, WO_some, WO_none, wkD]
theorem wkL {xs : List D} {V : List D → Prop} : WO (wkD (.lst xs)) V ↔ V xs := WO_some
theorem wkT {xs : List D} {V : List D → Prop} : WO (wkD (.tup xs)) V ↔ V xs := WO_some
theorem wkR {xs : List D} {V : List D → Prop} : WO (wkD (.rl xs)) V ↔ V xs := WO_some
theorem wkS {s : Str} {V : List D → Prop} : WO (wkD (.str s)) V ↔ V (signsD s) := WO_some
theorem drop_take_rest {α : Type} (xs : List α) (k : Nat) : (xs.drop (min k xs.length)).take (xs.length - min k xs.length) = xs.drop k := by
  rcases Nat.le_total k xs.length with h | h
  · rw [Nat.min_eq_left h]
    exact List.take_of_length_le (by rw [List.length_drop]; exact Nat.le_refl _)
  · rw [Nat.min_eq_right h, List.drop_eq_nil_of_le h, List.drop_eq_nil_of_le (Nat.le_refl _), List.take_nil]
theorem sl_fromT {xs : List D} {k : Nat} {S : Slot → Prop} : WO (slS (.tup xs) (some (k : Int)) none) S ↔ S (.val (.tup (xs.drop k))) := by
  unfold slS
  rw [WO_some, HT.sIx_nat, HT.sIx_none, drop_take_rest]
theorem sl_fromL {xs : List D} {k : Nat} {S : Slot → Prop} : WO (slS (.lst xs) (some (k : Int)) none) S ↔ S (.own false (.lst (xs.drop k))) := by
  unfold slS
  rw [WO_some, HT.sIx_nat, HT.sIx_none, drop_take_rest]
theorem sl_1T {xs : List D} {S : Slot → Prop} : WO (slS (.tup xs) (some 1) none) S ↔ S (.val (.tup (xs.drop 1))) := sl_fromT (k := 1)
theorem sl_1L {xs : List D} {S : Slot → Prop} : WO (slS (.lst xs) (some 1) none) S ↔ S (.own false (.lst (xs.drop 1))) := sl_fromL (k := 1)
theorem sl_2T {xs : List D} {S : Slot → Prop} : WO (slS (.tup xs) (some 2) none) S ↔ S (.val (.tup (xs.drop 2))) := sl_fromT (k := 2)
theorem sl_2L {xs : List D} {S : Slot → Prop} : WO (slS (.lst xs) (some 2) none) S ↔ S (.own false (.lst (xs.drop 2))) := sl_fromL (k := 2)
section
variable {as : List ArgV} {ss : List Slot} {i j : Nat} {s t : Slot} {d : D} {p q : Bool} {u o : Own}
theorem bA_nil : backAt [] ss j s = s := by
  cases s with
  | own p o => show Slot.own p (back j [] ss o) = _; unfold back; rfl
  | _ => rfl
theorem bA_d : backAt (.d d :: as) (t :: ss) j s = backAt as ss j s := by
  cases s with
  | own p o =>
    show Slot.own p (back j (.d d :: as) (t :: ss) o) = Slot.own p (back j as ss o)
    cases t <;> rfl
  | _ => rfl
theorem bA_ne (h : i ≠ j) : backAt (.br i :: as) (t :: ss) j s = backAt as ss j s := by
  cases s with
  | own p o =>
    show Slot.own p (back j (.br i :: as) (t :: ss) o) = Slot.own p (back j as ss o)
    cases t with
    | own q u =>
      show Slot.own p (if i = j then u else back j as ss o) = _
      rw [if_neg h]
    | _ => rfl
  | _ => rfl
theorem bA_rv : backAt (.br i :: as) (.val d :: ss) j s = backAt as ss j s := by
  cases s <;> rfl
theorem bA_eq : backAt (.br i :: as) (.own p u :: ss) i (.own q o) = .own q u := by
  show Slot.own q (if i = i then u else back i as ss o) = _
  rw [if_pos rfl]
end
/-- a slot that may be written -/
def Wr : Slot → Prop
  | .own true _ => False
  | _ => True
theorem wr_wr {s : Slot} (h : Wr s) {P : Prop} : wr (some s) P ↔ P := by
  cases s with
  | own p o =>
    cases p
    · exact Iff.rfl
    · exact h.elim
  | _ => exact Iff.rfl
theorem Fr.wr {s : Slot} (h : Fr s) : Wr s := by
  cases s with
  | own p o => exact h.elim
  | _ => trivial
end Mr

set_option Elab.async false
set_option linter.all false
set_option maxRecDepth 100000
set_option maxHeartbeats 2000000
/-! Mir13: names looked at where they stand (their own lists stay own): ==, isinstance, truth. -/
namespace Mr
open PySem PySem.Spec PyProof.Rows L2
/-- an operand: a name, looked at, or a value -/
inductive KE where
  | nm (i : Nat) | ex (m : ME)
def kEv : KE → Rho → Option (Option D × Rho)
  | .nm i, ρ => (match peek ρ i with
    | some _ => some (none, ρ)
    | none => none)
  | .ex m, ρ => (match m ρ with
    | some (d, ρ1) => some (some d, ρ1)
    | none => none)
def kGet : KE → Option D → Rho → Option D
  | .nm i, _, ρ => peek ρ i
  | .ex _, d, _ => d
def KOk (K : PySem.W.Frag) (F : Hp) (σ : L2.St) (v : V) (x : Option D) : KE → Prop
  | .nm i => σ[i]? = some (some v)
  | .ex _ => ∃ d, x = some d ∧ Rp K F v d
def tKE (K : PySem.W.Frag) (a : KE) : TE := fun σ H Q => ∃ F ρ x ρ', Cfg K F H σ ρ ∧ kEv a ρ = some (x, ρ') ∧ ∀ v F' H', Cfg K F' H' σ ρ' → Stp σ ρ F H σ ρ' F' H' → KOk K F' σ v x a → Q v H'
structure XK (X : Cx) (e : Expr) (a : KE) : Prop where pe : PE X e (tKE X.K a)
theorem xk_ex {X : Cx} {e : Expr} {m : ME} (h : XD X e m) : XK X e (.ex m) := ⟨pe_imp h.pe fun σ H Q q => by
  obtain ⟨F, ρ, x, ρ', c, e1, k⟩ := q
  simp only [kEv] at e1
  split at e1
  · rename_i d ρ1 h1
    cases e1
    exact ⟨F, ρ, d, _, c, h1, fun v F' H' c' st r => k v F' H' c' st ⟨d, rfl, r⟩⟩
  · cases e1⟩
theorem xk_nm {X : Cx} (i : Nat) {x : Str} {pos : Pos} (hN : X.N[i]? = some x := by rfl) (hv : Vis X.env.scope x := by first | exact Or.inl rfl | exact Or.inr (Or.inl rfl) | exact Or.inr (Or.inr rfl)) (hd : (x == ("__debug__" : Str)) = false := by decide)
    (hcd : (x == ("__classdict__" : Str)) = false := by decide) : XK X (.Name x pos) (.nm i) := ⟨pe_imp (pv i hN hv hd hcd) fun σ H Q q => by
  obtain ⟨F, ρ, x, ρ', c, e1, k⟩ := q
  simp only [kEv] at e1
  split at e1
  · rename_i d h1
    cases e1
    obtain ⟨v, e2, _⟩ := c.pk h1
    exact ⟨v, e2, k v F H c (.refl _ _ _ _) e2⟩
  · cases e1⟩
theorem k_pk {K : PySem.W.Frag} {F F1 H1 : Hp} {σ : L2.St} {ρ1 : Rho} {v : V} {x : Option D} {a : KE} {d : D} (h : KOk K F σ v x a) (ex : Ex F F1) (c : Cfg K F1 H1 σ ρ1) (g : kGet a x ρ1 = some d) : Pk K F1 H1 v d := by
  cases a with
  | nm i =>
    obtain ⟨w, hw, p⟩ := c.pk g
    have h' : σ[i]? = some (some v) := h
    rw [h'] at hw
    cases hw
    exact p
  | ex m =>
    obtain ⟨d1, e, r⟩ := h
    have g' : x = some d := g
    rw [e] at g'
    cases g'
    exact .inl (r.ex ex)
/-- a test of two operands -/
def mKT (f : D → D → Option Bool) (a b : KE) : MT := fun ρ => match kEv a ρ with
  | some (x, ρ1) => (match kEv b ρ1 with
    | some (y, ρ2) => (match kGet a x ρ2 with
      | some x => (match kGet b y ρ2 with
        | some y => (match f x y with
          | some c => some (c, ρ2)
          | none => none)
        | none => none)
      | none => none)
    | none => none)
  | none => none
def mKV (f : D → D → Option Bool) (a b : KE) : ME := fun ρ => match mKT f a b ρ with
  | some (c, ρ1) => some (.bl c, ρ1)
  | none => none
/-- a rule on operands that are looked at, whose answer is a truth value -/
def RvK (K : PySem.W.Frag) (r : R2) (f : D → D → Option Bool) : Prop := ∀ (F H : Hp) (vx vy : V) (x y : D) (b : Bool) (Q : VK), Ex F H → Pk K F H vx x → Pk K F H vy y → f x y = some b → Q (.bl b) H → r vx vy H Q
theorem t_kT {K : PySem.W.Frag} {r : R2} {f : D → D → Option Bool} {a b : KE} (hr : RvK K r f) (σ : L2.St) (H : Hp) (Q : Bool → Hp → Prop) (h : tT K (mKT f a b) σ H Q) : tTest (tOp r (tKE K a) (tKE K b)) σ H Q := by
  obtain ⟨F, ρ, d, ρ', c, e, k⟩ := h
  unfold mKT at e
  split at e
  · rename_i x ρ1 h1
    split at e
    · rename_i y ρ2 h2
      split at e
      · rename_i x1 g1
        split at e
        · rename_i y1 g2
          split at e
          · rename_i b h3
            cases e
            refine ⟨F, ρ, x, ρ1, c, h1, fun v F1 H1 c1 s1 r1 => ?_⟩
            refine ⟨F1, ρ1, y, _, c1, h2, fun w F2 H2 c2 s2 r2 => ?_⟩
            exact hr F2 H2 v w x1 y1 _ _ c2.ex (k_pk r1 s2.exF c2 g1) (k_pk r2 (fun _ _ h => h) c2 g2) h3 ⟨_, rfl, k F2 H2 c2 (s1.trans s2)⟩
          · cases e
        · cases e
      · cases e
    · cases e
  · cases e
theorem t_kV {K : PySem.W.Frag} {r : R2} {f : D → D → Option Bool} {a b : KE} (hr : RvK K r f) (σ : L2.St) (H : Hp) (Q : VK) (h : tD K (mKV f a b) σ H Q) : tOp r (tKE K a) (tKE K b) σ H Q := by
  obtain ⟨F, ρ, d, ρ', c, e, k⟩ := h
  unfold mKV at e
  split at e
  · rename_i cc ρ3 e'
    cases e
    unfold mKT at e'
    split at e'
    · rename_i x ρ1 h1
      split at e'
      · rename_i y ρ2 h2
        split at e'
        · rename_i x1 g1
          split at e'
          · rename_i y1 g2
            split at e'
            · rename_i b h3
              cases e'
              refine ⟨F, ρ, x, ρ1, c, h1, fun v F1 H1 c1 s1 r1 => ?_⟩
              refine ⟨F1, ρ1, y, _, c1, h2, fun w F2 H2 c2 s2 r2 => ?_⟩
              exact hr F2 H2 v w x1 y1 _ _ c2.ex (k_pk r1 s2.exF c2 g1) (k_pk r2 (fun _ _ h => h) c2 g2) h3 (k _ F2 H2 c2 (s1.trans s2) (.bl _))
            · cases e'
          · cases e'
        · cases e'
      · cases e'
    · cases e'
  · cases e
theorem rk_eq {K : PySem.W.Frag} : RvK K (rEqP K) eqD := by
  intro F H vx vy x y b Q ex rx ry e k
  unfold eqD at e
  split at e
  · rename_i hz
    cases e
    simp only [Bool.and_eq_true] at hz
    refine ⟨_, _, pk_dp ex rx (eqOk_pl hz.1), pk_dp ex ry (eqOk_pl hz.2), eqOk_py hz.1, eqOk_py hz.2, eqOk_dp hz.1, ?_⟩
    rw [qD_py]
    exact k
  · cases e
theorem rk_ne {K : PySem.W.Frag} : RvK K (rNeP K) neD := by
  intro F H vx vy x y b Q ex rx ry e k
  unfold neD at e
  split at e
  · rename_i hz
    cases e
    simp only [Bool.and_eq_true] at hz
    refine ⟨_, _, pk_dp ex rx (eqOk_pl hz.1), pk_dp ex ry (eqOk_pl hz.2), eqOk_py hz.1, eqOk_py hz.2, eqOk_dp hz.1, ?_⟩
    rw [qD_py]
    exact k
  · cases e
theorem rk_in {K : PySem.W.Frag} {neg : Bool} : RvK K (rInAll K neg) (inD neg) := by
  intro F H vx vy x y b Q ex rx ry e k
  rcases rx with rx | ⟨a, o, rfl, rfl, at1⟩
  · exact in_pk ex rx ry e k
  · cases o with
    | lst ds =>
      unfold inD at e
      split at e
      · rename_i ds' hds
        split at e
        · rename_i hz
          rw [Bool.and_eq_true] at hz
          exact absurd (show false = true from hz.1) Bool.false_ne_true
        · split at e
          · rename_i hz
            cases e
            simp only [Bool.and_eq_true] at hz
            have rx : Pk K F H (.ref a) (.lst ds) := .inr ⟨a, .lst ds, rfl, rfl, at1⟩
            have dq : Dp K H vy (.list (D.pys ds')) ∨ Dp K H vy (.tuple (D.pys ds')) := by
              have := pk_dp ex ry (eqOk_pl hz.2)
              rcases items_py hds with e | e
              · rw [e] at this
                exact .inl this
              · rw [e] at this
                exact .inr this
            refine .inr (.inr ⟨_, D.pys ds', pk_dp ex rx (eqOk_pl hz.1), dq, eqOk_py hz.1, (pl_pys ds').trans (items_pl hds (eqOk_pl hz.2)), eqOk_dp hz.1, ?_⟩)
            rw [anyD]
            exact k
          · cases e
      · split at e
        · rename_i h _
          cases h
        · cases e
    | dct kvs =>
      unfold inD at e
      split at e
      · rename_i ds' hds
        split at e
        · rename_i hz
          rw [Bool.and_eq_true] at hz
          exact absurd (show false = true from hz.1) Bool.false_ne_true
        · split at e
          · rename_i hz
            simp only [Bool.and_eq_true] at hz
            have := eqOk_pl hz.1
            unfold Own.toD plD at this
            cases this
          · cases e
      · split at e
        · rename_i h _
          cases h
        · cases e
section
variable {X : Cx} {a b : Expr} {pos : Pos} {ka kb : KE} {j : Nat}
theorem xt_eqK (hr : Room j X.A) (ha : XK X a ka) (hb : XK X b kb) : XT X (.Compare a [.Eq] [b] pos) (mKT eqD ka kb) := ⟨pt_imp (pt_cmpR (op_eqP hr.units) ha.pe hb.pe (nomark _)) (t_kT rk_eq)⟩
theorem xt_neK (hr : Room j X.A) (ha : XK X a ka) (hb : XK X b kb) : XT X (.Compare a [.NotEq] [b] pos) (mKT neD ka kb) := ⟨pt_imp (pt_cmpR (op_neP hr.units) ha.pe hb.pe (nomark _)) (t_kT rk_ne)⟩
theorem xd_eqK (hr : Room j X.A) (ha : XK X a ka) (hb : XK X b kb) : XD X (.Compare a [.Eq] [b] pos) (mKV eqD ka kb) := ⟨pe_imp (pe_cmpR (op_eqP hr.units) ha.pe hb.pe (nomark _)) (t_kV rk_eq)⟩
theorem xd_neK (hr : Room j X.A) (ha : XK X a ka) (hb : XK X b kb) : XD X (.Compare a [.NotEq] [b] pos) (mKV neD ka kb) := ⟨pe_imp (pe_cmpR (op_neP hr.units) ha.pe hb.pe (nomark _)) (t_kV rk_ne)⟩
theorem xt_inK (hr : Room j X.A) (ha : XK X a ka) (hb : XK X b kb) (hm : behindInMarks .In b = false := by rfl) : XT X (.Compare a [.In] [b] pos) (mKT (inD false) ka kb) := ⟨pt_imp (pt_cmpR (op_inAll (u65 hr)) ha.pe hb.pe hm) (t_kT rk_in)⟩
theorem xt_notinK (hr : Room j X.A) (ha : XK X a ka) (hb : XK X b kb) (hm : behindInMarks .NotIn b = false := by rfl) : XT X (.Compare a [.NotIn] [b] pos) (mKT (inD true) ka kb) := ⟨pt_imp (pt_cmpR (op_notInAll (u65 hr)) ha.pe hb.pe hm) (t_kT rk_in)⟩
theorem xd_inK (hr : Room j X.A) (ha : XK X a ka) (hb : XK X b kb) (hm : behindInMarks .In b = false := by rfl) : XD X (.Compare a [.In] [b] pos) (mKV (inD false) ka kb) := ⟨pe_imp (pe_cmpR (op_inAll (u65 hr)) ha.pe hb.pe hm) (t_kV rk_in)⟩
theorem xd_notinK (hr : Room j X.A) (ha : XK X a ka) (hb : XK X b kb) (hm : behindInMarks .NotIn b = false := by rfl) : XD X (.Compare a [.NotIn] [b] pos) (mKV (inD true) ka kb) := ⟨pe_imp (pe_cmpR (op_notInAll (u65 hr)) ha.pe hb.pe hm) (t_kV rk_in)⟩
end
/-! ### isinstance and truth of a name -/
theorem ty_pk {K : PySem.W.Frag} {F H : Hp} {v : V} {d : D} {T : String} (ex : Ex F H) (r : Pk K F H v d) (h : tyD d = some T) : TyX K H v (.type T) := by
  rcases r with r | ⟨a, o, rfl, rfl, at1⟩
  · exact ty_of ex r h
  · cases o with
    | lst ds =>
      obtain ⟨xs, h1, h2⟩ := at1
      cases h
      exact .base (.lst h1)
    | dct kvs =>
      obtain ⟨xs, h1, h2⟩ := at1
      cases h
      exact .base (.dK h1)
def mIsiN (T : String) (i : Nat) : ME := fun ρ => match peek ρ i with
  | some x => (match isiB x T with
    | some b => some (.bl b, ρ)
    | none => none)
  | none => none
theorem xd_isiN {X : Cx} (i : Nat) {x : Str} {p q pos pos' : Pos} {T : Str} {Ts : String} (hm : X.mg "isinstance" = none) (hT : X.mg T = none) (hv : bootBuiltins T = some (.type Ts)) (hN : X.N[i]? = some x := by rfl) (hvis : Vis X.env.scope x := by first | exact Or.inl rfl | exact Or.inr (Or.inl rfl) | exact Or.inr (Or.inr rfl)) (hd : (x == ("__debug__" : Str)) = false := by decide)
    (hcd : (x == ("__classdict__" : Str)) = false := by decide) (hg : Gl X "isinstance" := by rfl) (hgT : Gl X T := by rfl) (hnT : T ≠ "__name__" := by decide) (hdT : (T == ("__debug__" : Str)) = false := by decide)
    (h1 : starEach [.Name x pos', .Name T q] X.env = (false, eval (.Name x pos') X.env) :: starEach [.Name T q] X.env := by rfl) (h2 : starEach [.Name T q] X.env = (false, eval (.Name T q) X.env) :: starEach [] X.env := by rfl) (hpl : (backTo pos (starEach [.Name T q] X.env)).any (·.1) = false := by rfl) :
    XD X (.Call (.Name "isinstance" p) [.Name x pos', .Name T q] [] pos) (mIsiN Ts i) := by
  refine ⟨pe_imp (pe_callB call_isi hg hm (by decide +kernel) (pa_cons (pv i hN hvis hd hcd) (pa_cons (pe_bltn (v := .ty Ts) hgT hT hv rfl hnT hdT) pa_nil h2) h1) (by decide) (by decide) h1 hpl) fun σ H Q h => ?_⟩
  obtain ⟨F, ρ, d, ρ', c, e, k⟩ := h
  unfold mIsiN at e
  split at e
  · rename_i x h1
    split at e
    · rename_i b h2
      cases e
      obtain ⟨v, e2, pk⟩ := c.pk h1
      unfold isiB at h2
      split at h2
      · rename_i t ht
        exact ⟨v, e2, v, .ty Ts, .type t, .type Ts, b, rfl, .ty Ts, ty_pk c.ex pk ht, kit_ty h2, k _ F H c (.refl _ _ _ _) (.bl _)⟩
      · cases h2
    · cases e
  · cases e
theorem tru_pk {K : PySem.W.Frag} {F H : Hp} {v : V} {d : D} {b : Bool} (ex : Ex F H) (r : Pk K F H v d) (h : truD d = some b) : TruV K v H b := by
  rcases r with r | ⟨a, o, rfl, rfl, at1⟩
  · exact tru_of ex r h
  · cases o with
    | lst ds =>
      obtain ⟨xs, h1, h2⟩ := at1
      cases h
      exact .inl ⟨_, SqL.of h1, by rw [isE h2]⟩
    | dct kvs =>
      cases h
def mTrN (i : Nat) : MT := fun ρ => match peek ρ i with
  | some x => (match truD x with
    | some b => some (b, ρ)
    | none => none)
  | none => none
theorem xt_trN {X : Cx} (i : Nat) {x : Str} {pos : Pos} (hN : X.N[i]? = some x := by rfl) (hv : Vis X.env.scope x := by first | exact Or.inl rfl | exact Or.inr (Or.inl rfl) | exact Or.inr (Or.inr rfl)) (hd : (x == ("__debug__" : Str)) = false := by decide)
    (hcd : (x == ("__classdict__" : Str)) = false := by decide) (he : ∀ whole, isTrue (.Name x pos) X.env whole = (do let v ← whole; standAt pos; holding [v] (truthy v)) := by intro _; rfl) : XT X (.Name x pos) (mTrN i) := by
  refine ⟨pt_imp (pt_truth (pv i hN hv hd hcd) he) fun σ H Q h => ?_⟩
  obtain ⟨F, ρ, d, ρ', c, e, k⟩ := h
  unfold mTrN at e
  split at e
  · rename_i x h1
    split at e
    · rename_i b h3
      cases e
      obtain ⟨v, e2, pk⟩ := c.pk h1
      exact ⟨v, e2, _, tru_pk c.ex pk h3, k F H c (.refl _ _ _ _)⟩
    · cases e
  · cases e
/-! ### their answers -/
section
variable {i : Nat} {ρ : Rho} {d : D}
/-- an operand evaluated, read at the end -/
def kQ (a : KE) (ρ : Rho) (Q : (Rho → (D → Prop) → Prop) → Rho → Prop) (_ : Tag Q := .mk) : Prop := match a with
  | .nm i => pk ρ[i]? fun _ => Q (fun ρ' R => pk ρ'[i]? R) ρ
  | .ex m => W (m ρ) fun d ρ1 => Q (fun _ R => R d) ρ1
theorem kQ_nm {Q : (Rho → (D → Prop) → Prop) → Rho → Prop} : kQ (.nm i) ρ Q ↔ pk ρ[i]? fun _ => Q (fun ρ' R => pk ρ'[i]? R) ρ := Iff.rfl
theorem kQ_ex {m : ME} {Q : (Rho → (D → Prop) → Prop) → Rho → Prop} : kQ (.ex m) ρ Q ↔ W (m ρ) fun d ρ1 => Q (fun _ R => R d) ρ1 := Iff.rfl
theorem kQ_W {a : KE} {Q : (Rho → (D → Prop) → Prop) → Rho → Prop} (hQ : ∀ g g' ρ, (∀ ρ' R, g ρ' R ↔ g' ρ' R) → (Q g ρ ↔ Q g' ρ)) : kQ a ρ Q ↔ W (kEv a ρ) fun x ρ1 => Q (fun ρ' R => WO (kGet a x ρ') R) ρ1 := by
  cases a with
  | nm i =>
    rw [kQ_nm, pk_peek]
    simp only [kEv]
    generalize peek ρ i = p
    rcases p with _ | d
    · simp [W_none]
    · simp only [Option.some.injEq, exists_eq_left', W_some]
      refine hQ _ _ _ fun ρ' R => ?_
      rw [pk_peek]
      unfold kGet WO
      exact Iff.rfl
  | ex m =>
    rw [kQ_ex]
    simp only [kEv]
    generalize m ρ = p
    rcases p with _ | ⟨d, ρ1⟩
    · simp [W_none]
    · simp only [W_some]
      refine hQ _ _ _ fun ρ' R => ?_
      unfold kGet
      rw [WO_some]
theorem W_kT {f : D → D → Option Bool} {a b : KE} {Q : Bool → Rho → Prop} : W (mKT f a b ρ) Q ↔ kQ a ρ fun ga ρ1 => kQ b ρ1 fun gb ρ2 => ga ρ2 fun x => gb ρ2 fun y => WO (f x y) fun c => Q c ρ2 := by
  have e1 : ∀ (g g' : Rho → (D → Prop) → Prop) (ρ1 : Rho), (∀ ρ' R, g ρ' R ↔ g' ρ' R) → ((kQ b ρ1 fun gb ρ2 => g ρ2 fun x => gb ρ2 fun y => WO (f x y) fun c => Q c ρ2) ↔ kQ b ρ1 fun gb ρ2 => g' ρ2 fun x => gb ρ2 fun y => WO (f x y) fun c => Q c ρ2) := by
    intro g g' ρ1 h
    have : g = g' := by
      funext ρ' R
      exact propext (h ρ' R)
    rw [this]
  rw [kQ_W e1]
  have e2 : ∀ (ρ1 : Rho) (x : Option D), (kQ b ρ1 fun gb ρ2 => WO (kGet a x ρ2) fun x => gb ρ2 fun y => WO (f x y) fun c => Q c ρ2) ↔ W (kEv b ρ1) fun y ρ2 => WO (kGet a x ρ2) fun x => WO (kGet b y ρ2) fun y => WO (f x y) fun c => Q c ρ2 := by
    intro ρ1 x
    refine kQ_W fun g g' ρ h => ?_
    have : g = g' := by
      funext ρ' R
      exact propext (h ρ' R)
    rw [this]
  unfold mKT
  generalize kEv a ρ = r
  rcases r with _ | ⟨x, ρ1⟩
  · simp only [W_none]
  · simp only [W_some, e2]
    generalize kEv b ρ1 = r
    rcases r with _ | ⟨y, ρ2⟩
    · simp only [W_none]
    · simp only [W_some]
      generalize kGet a x ρ2 = r
      rcases r with _ | x1
      · simp only [W_none, WO_none]
      · simp only [WO_some]
        generalize kGet b y ρ2 = r
        rcases r with _ | y1
        · simp only [W_none, WO_none]
        · simp only [WO_some]
          generalize f x1 y1 = r
          rcases r with _ | c
          · simp only [W_none, WO_none]
          · simp only [W_some, WO_some]
theorem W_kV {f : D → D → Option Bool} {a b : KE} {Q : D → Rho → Prop} : W (mKV f a b ρ) Q ↔ W (mKT f a b ρ) fun c ρ1 => Q (.bl c) ρ1 := by
  unfold mKV
  generalize mKT f a b ρ = r
  rcases r with _ | ⟨x, ρ1⟩
  · simp only [W_none]
  · simp only [W_some]
theorem W_isiN {T : String} {Q : D → Rho → Prop} : W (mIsiN T i ρ) Q ↔ pk ρ[i]? fun x => WO (isiB x T) fun b => Q (.bl b) ρ := by
  unfold mIsiN
  rw [pk_peek]
  generalize peek ρ i = r
  rcases r with _ | d
  · simp [W_none]
  · simp only [Option.some.injEq, exists_eq_left']
    generalize isiB d T = r
    rcases r with _ | s
    · simp only [W_none, WO_none]
    · simp only [W_some, WO_some]
theorem W_trN {Q : Bool → Rho → Prop} : W (mTrN i ρ) Q ↔ pk ρ[i]? fun x => WO (truD x) fun b => Q b ρ := by
  unfold mTrN
  rw [pk_peek]
  generalize peek ρ i = r
  rcases r with _ | d
  · simp [W_none]
  · simp only [Option.some.injEq, exists_eq_left']
    generalize truD d = r
    rcases r with _ | s
    · simp only [W_none, WO_none]
    · simp only [W_some, WO_some]
end
end Mr

set_option Elab.async false
set_option linter.all false
set_option maxRecDepth 100000
set_option maxHeartbeats 2000000
/-! Mir14: the text's constants, dicts, max of three, statements that are never reached. -/
namespace Mr
open PySem PySem.Spec PyProof.Rows L2
/-! ### constants of the text -/
structure Gc (K : PySem.W.Frag) (mg : Str → Option Value) (x : Str) (d : D) : Prop where
  ex : ∃ v u, mg x = some u ∧ RelV v u ∧ ∀ F, Rp K F v d
theorem gc_int {K : PySem.W.Frag} {mg : Str → Option Value} {x : Str} {i : Int} {t : Tok} (h : mg x = some (.int i t)) : Gc K mg x (.int i) := ⟨.int i, _, h, ⟨t, rfl⟩, fun _ => .int i⟩
theorem gc_str {K : PySem.W.Frag} {mg : Str → Option Value} {x : Str} {i : Str} {t : Tok} (h : mg x = some (.str i t)) : Gc K mg x (.str i) := ⟨.str i, _, h, ⟨t, rfl⟩, fun _ => .str i⟩
/-- a known value as data -/
inductive Kd (K : PySem.W.Frag) : V → Value → D → Prop
  | int (i : Int) (t : Tok) : Kd K (.int i) (.int i t) (.int i)
  | str (i : Str) (t : Tok) : Kd K (.str i) (.str i t) (.str i)
  | tup {a : Addr} {o : Obj} {its : Array Value} {n : Nat} {vs : List V} {ds : List D} : K.lookup a = some o → o.cls = .type "tuple" → o.data = .seq its n → its.size ≤ sizeLine → Vals vs its.toList → (∀ F, RpAll K F vs ds) → Kd K (.ref a) (.ref a) (.tup ds)
theorem Kd.rel {K : PySem.W.Frag} {v : V} {u : Value} {d : D} (h : Kd K v u d) : RelV v u := by
  cases h with
  | int i t => exact ⟨t, rfl⟩
  | str i t => exact ⟨t, rfl⟩
  | tup => rfl
theorem Kd.rp {K : PySem.W.Frag} {v : V} {u : Value} {d : D} (h : Kd K v u d) : ∀ F, Rp K F v d := by
  intro F
  cases h with
  | int i t => exact .int i
  | str i t => exact .str i
  | tup h1 h2 h3 h4 h5 h6 => exact .tup (.inr ⟨_, _, _, h1, h2, h3, h4, h5⟩) (h6 F)
theorem Kd.gc {K : PySem.W.Frag} {mg : Str → Option Value} {x : Str} {v : V} {u : Value} {d : D} (h : Kd K v u d) (e : mg x = some u) : Gc K mg x d := ⟨v, u, e, h.rel, h.rp⟩
theorem kd_tup2 {K : PySem.W.Frag} {a : Addr} {dd : Option Addr} {n : Nat} {sl : Array (Option Value)} {u1 u2 : Value} {v1 v2 : V} {d1 d2 : D} (h : K.lookup a = some ⟨.type "tuple", dd, .seq #[u1, u2] n, sl⟩) (h1 : Kd K v1 u1 d1) (h2 : Kd K v2 u2 d2) : Kd K (.ref a) (.ref a) (.tup [d1, d2]) :=
  .tup (vs := [v1, v2]) h rfl rfl (by show 2 ≤ sizeLine; decide) (.cons h1.rel (.cons h2.rel .nil)) fun F => .cons (h1.rp F) (.cons (h2.rp F) .nil)
theorem kd_tup1 {K : PySem.W.Frag} {a : Addr} {dd : Option Addr} {n : Nat} {sl : Array (Option Value)} {u1 : Value} {v1 : V} {d1 : D} (h : K.lookup a = some ⟨.type "tuple", dd, .seq #[u1] n, sl⟩) (h1 : Kd K v1 u1 d1) : Kd K (.ref a) (.ref a) (.tup [d1]) :=
  .tup (vs := [v1]) h rfl rfl (by show 1 ≤ sizeLine; decide) (.cons h1.rel .nil) fun F => .cons (h1.rp F) .nil
theorem xd_glob {X : Cx} {x : Str} {d : D} {pos : Pos} (c : Gc X.K X.mg x d) (hg : Gl X x := by rfl) (hd : (x == ("__debug__" : Str)) = false := by decide) : XD X (.Name x pos) (mC d) := by
  obtain ⟨v, u, e, r, p⟩ := c.ex
  exact xd_c (pe_glob hg e r hd) p
/-! ### never reached -/
theorem xp_none {X : Cx} {st : Stmt} (h : ∃ t, PS X st t) : XP X st (fun _ => none) := by
  obtain ⟨t, h⟩ := h
  exact ⟨ps_imp h fun D σ H q => by
    obtain ⟨F, ρ, o, ρ', c, e, _⟩ := q
    cases e⟩
theorem xp_never {X : Cx} {st : Stmt} : XP X st (fun _ => none) := ⟨⟨fun pins s σ H D I q => by
    obtain ⟨F, ρ, o, ρ', c, e, _⟩ := q
    cases e⟩⟩
/-! ### max of three whole numbers -/
def max3F : List D → Option Slot
  | [.int i, .int j, .int k] => some (.val (.int (if (if j > i then j else i) < k then k else (if j > i then j else i))))
  | _ => none
theorem cv_max3 {K : PySem.W.Frag} : CvD K (rNuC3 nuMax3) max3F := by
  intro F H vs ds s Q ex rs e k
  unfold max3F at e
  split at e
  · cases e
    cases rs with
    | cons r1 rs =>
      cases rs with
      | cons r2 rs =>
        cases rs with
        | cons r3 rs =>
          cases rs
          cases r1
          cases r2
          cases r3
          refine ⟨_, _, _, _, rfl, ?_, k _ F H (.refl ex) (.int _)⟩
          rename_i i j w
          have e2 : ∀ a b : Int, nuMax2 (.int a) (.int b) = some (.int (if a < b then b else a)) := fun a b => by
            show (some (decide (a < b))).map _ = _
            by_cases z : a < b
            · rw [decide_eq_true z, if_pos z]
              rfl
            · rw [decide_eq_false z, if_neg z]
              rfl
          unfold nuMax3
          rw [e2]
          show nuMax2 (.int (if i < j then j else i)) (.int w) = _
          rw [e2]
  · cases e
theorem xs_max3 {X : Cx} {p pos : Pos} {e1 e2 e3 : Expr} {ma : MA} (T : Bt X.mg) (hc : X.calm = true) (ha : XA X [e1, e2, e3] ma) (hg : Gl X "max" := by rfl) (he : starEach [e1, e2, e3] X.env = (false, eval e1 X.env) :: starEach [e2, e3] X.env := by rfl) (hpl : (backTo pos (starEach [e2, e3] X.env)).any (·.1) = false := by rfl) : XS X (.Call (.Name "max" p) [e1, e2, e3] [] pos) (mCB max3F ma) :=
  xs_callB (call_max3Nu hc) cv_max3 hg T.max bb_max ha (by decide) (by decide) he hpl
/-! ### dicts -/
def putD (kvs : List (Key × D)) (k : Key) (v : D) : List (Key × D) :=
  if (kvs.any fun kv => decide (kv.1 = k)) = true then kvs.map (fun kv => if kv.1 = k then (kv.1, v) else kv) else kvs ++ [(k, v)]
def mergeD (kvs more : List (Key × D)) : List (Key × D) := more.foldl (fun acc kv => putD acc kv.1 kv.2) kvs
section
variable {K : PySem.W.Frag} {F : Hp}
theorem RpKv.any {k : Key} : ∀ {xs : List (Key × V)} {kvs : List (Key × D)}, RpKv K F xs kvs → (xs.any fun kv => decide (kv.1 = k)) = kvs.any fun kv => decide (kv.1 = k)
  | _, _, .nil => rfl
  | _, _, .cons r t => by
    rw [List.any_cons, List.any_cons, t.any]
theorem RpKv.map {k : Key} {v : V} {d : D} (rv : Rp K F v d) : ∀ {xs : List (Key × V)} {kvs : List (Key × D)}, RpKv K F xs kvs → RpKv K F (xs.map fun kv => if kv.1 = k then (kv.1, v) else kv) (kvs.map fun kv => if kv.1 = k then (kv.1, d) else kv)
  | _, _, .nil => .nil
  | _, _, .cons (k := j) r t => by
    rw [List.map_cons, List.map_cons]
    by_cases z : j = k
    · simp only [if_pos z]
      exact .cons rv (t.map rv)
    · simp only [if_neg z]
      exact .cons r (t.map rv)
theorem RpKv.snoc {k : Key} {v : V} {d : D} (rv : Rp K F v d) : ∀ {xs : List (Key × V)} {kvs : List (Key × D)}, RpKv K F xs kvs → RpKv K F (xs ++ [(k, v)]) (kvs ++ [(k, d)])
  | _, _, .nil => .cons rv .nil
  | _, _, .cons r t => .cons r (t.snoc rv)
theorem RpKv.put {k : Key} {v : V} {d : D} {xs : List (Key × V)} {kvs : List (Key × D)} (r : RpKv K F xs kvs) (rv : Rp K F v d) : RpKv K F (putK xs k v) (putD kvs k d) := by
  unfold putK putD
  rw [r.any]
  by_cases z : (kvs.any fun kv => decide (kv.1 = k)) = true
  · rw [if_pos z, if_pos z]
    exact r.map rv
  · rw [if_neg z, if_neg z]
    exact r.snoc rv
theorem RpKv.merge : ∀ {ys : List (Key × V)} {more : List (Key × D)}, RpKv K F ys more → ∀ {xs : List (Key × V)} {kvs : List (Key × D)}, RpKv K F xs kvs → RpKv K F (mergeK xs ys) (mergeD kvs more)
  | _, _, .nil, _, _, r => r
  | _, _, .cons rv t, _, _, r => t.merge (r.put rv)
end
/-- a new dict -/
theorem new_dct {K : PySem.W.Frag} {F H : Hp} {p : Addr} {xs : List (Key × V)} {kvs : List (Key × D)} (ex : Ex F H) (hp : H p = none) (r : RpKv K F xs kvs) : Grow F H F (upd H p (.dK xs)) ∧ VG K H F (upd H p (.dK xs)) (.ref p) (.own false (.dct kvs)) :=
  ⟨.mine ex hp, rfl, p, rfl, ex.free hp, hp, xs, upd_same, r⟩
/-- pairs (key, value) -/
def kvsD : List D → Option (List (Key × D))
  | [] => some []
  | .tup [k, d] :: ds => (match keyD k, kvsD ds with
    | some k, some kvs => some ((k, d) :: kvs)
    | _, _ => none)
  | _ :: _ => none
def dictF : List D → Option Slot
  | [.lst ds] => (match kvsD ds with
    | some kvs => some (.own false (.dct (mergeD [] kvs)))
    | none => none)
  | [.dct kvs] => some (.own false (.dct kvs))
  | _ => none
theorem kvs_of {K : PySem.W.Frag} {F H : Hp} (ex : Ex F H) : ∀ {ds : List D} {xs : List V} {kvs : List (Key × D)}, RpAll K F xs ds → kvsD ds = some kvs → ∃ (ps : List Addr) (ys : List (Key × V)), xs = ps.map V.ref ∧ Paired (fun p kv => SqT K H p [kV kv.1, kv.2]) ps ys ∧ RpKv K F ys kvs
  | [], _, _, r, h => by
    cases r
    cases h
    exact ⟨[], [], rfl, .nil, .nil⟩
  | d :: ds, _, kvs, r, h => by
    cases r with
    | cons r1 r2 =>
      unfold kvsD at h
      split at h
      · rename_i e
        cases e
      · rename_i k d' ds' e
        cases e
        split at h
        · rename_i key kvs' hk hr
          cases h
          obtain ⟨ps, ys, rfl, h1, h2⟩ := kvs_of ex r2 hr
          cases r1 with
          | @tup a _ _ ht hv =>
            cases hv with
            | cons ra rb =>
              cases rb with
              | @cons v2 _ _ _ rc rd =>
                cases rd
                have := key_kV ra hk
                subst this
                exact ⟨a :: ps, (key, v2) :: ys, rfl, .cons (ex.t ht) h1, .cons rc h2⟩
        · cases h
      · cases h
theorem cv_dict {K : PySem.W.Frag} : CvD K (fun xs H Q => (∃ (a : Addr) (ps : List Addr) (kvs : List (Key × V)), xs = [.ref a] ∧ SqL K H a (ps.map V.ref) ∧ Paired (fun p kv => SqT K H p [kV kv.1, kv.2]) ps kvs ∧
    ∀ p, H p = none → Q (.ref p) (upd H p (.dK (mergeK [] kvs)))) ∨ ∃ (a : Addr) (kvs : List (Key × V)), xs = [.ref a] ∧ Rd H a (.dK kvs) ∧ ∀ p, H p = none → Q (.ref p) (upd H p (.dK kvs))) dictF := by
  intro F H vs ds s Q ex rs e k
  unfold dictF at e
  split at e
  · split at e
    · rename_i es kvs hk
      cases e
      cases rs with
      | cons r1 rs =>
        cases rs
        cases r1 with
        | lst h1 h2 =>
          obtain ⟨ps, ys, rfl, g1, g2⟩ := kvs_of ex h2 hk
          refine .inl ⟨_, ps, ys, rfl, ex.l (SqL.of h1), g1, fun p hp => ?_⟩
          obtain ⟨g, r⟩ := new_dct ex hp (g2.merge (K := K) .nil)
          exact k _ _ _ g r
    · cases e
  · cases e
    cases rs with
    | cons r1 rs =>
      cases rs
      cases r1 with
      | dct h1 h2 =>
        refine .inr ⟨_, _, rfl, .inr ⟨_, ex _ _ h1⟩, fun p hp => ?_⟩
        obtain ⟨g, r⟩ := new_dct ex hp h2
        exact k _ _ _ g r
  · cases e
theorem xs_dict {X : Cx} {p pos : Pos} {e : Expr} {ma : MA} (T : Bt X.mg) (hc : X.calm = true) (ha : XA X [e] ma) (hg : Gl X "dict" := by rfl) (he : starEach [e] X.env = (false, eval e X.env) :: starEach [] X.env := by rfl) (hpl : (backTo pos (starEach [] X.env)).any (·.1) = false := by rfl) : XS X (.Call (.Name "dict" p) [e] [] pos) (mCB dictF ma) :=
  xs_callTy ((call_dictP hc).or call_dictD) cv_dict hg T.dict bb_dict ha (by decide) (by decide) he hpl
/-! ### {k: v, ..} -/
abbrev MKV := Rho → Option (List (D × D) × Rho)
inductive RpPs (K : PySem.W.Frag) (F : Hp) : List (V × V) → List (D × D) → Prop
  | nil : RpPs K F [] []
  | cons {a b : V} {c d : D} {vs : List (V × V)} {ds : List (D × D)} : Rp K F a c → Rp K F b d → RpPs K F vs ds → RpPs K F ((a, b) :: vs) ((c, d) :: ds)
def tKV (K : PySem.W.Frag) (m : MKV) (σ : L2.St) (H : Hp) (Q : List (V × V) → Hp → Prop) : Prop := ∃ F ρ ds ρ', Cfg K F H σ ρ ∧ m ρ = some (ds, ρ') ∧ ∀ ps F' H', Cfg K F' H' σ ρ' → Stp σ ρ F H σ ρ' F' H' → RpPs K F' ps ds → Q ps H'
structure XKV (X : Cx) (pos : Pos) (ks : List (Option Expr)) (vs : List Expr) (m : MKV) : Prop where
  ex : ∃ trs, PPs X pos ks vs trs ∧ ∀ σ H Q, tKV X.K m σ H Q → tPairs trs σ H Q
def mk0 : MKV := fun ρ => some ([], ρ)
def mk1 (ma mb : ME) (r : MKV) : MKV := fun ρ => match ma ρ with
  | some (a, ρ1) => (match mb ρ1 with
    | some (b, ρ2) => (match r ρ2 with
      | some (ps, ρ3) => some ((a, b) :: ps, ρ3)
      | none => none)
    | none => none)
  | none => none
theorem xkv_nil {X : Cx} {pos : Pos} : XKV X pos [] [] mk0 := ⟨[], pps_nil, fun σ H Q q => by
  obtain ⟨F, ρ, ds, ρ', c, e, k⟩ := q
  cases e
  exact k _ F H c (.refl _ _ _ _) .nil⟩
theorem xkv_cons {X : Cx} {pos : Pos} {a b : Expr} {ks : List (Option Expr)} {vs : List Expr} {ma mb : ME} {r : MKV} (ha : XD X a ma) (hb : XD X b mb) (hr : XKV X pos ks vs r) : XKV X pos (some a :: ks) (b :: vs) (mk1 ma mb r) := by
  obtain ⟨trs, h1, h2⟩ := hr.ex
  refine ⟨_, pps_cons ha.pe hb.pe h1, fun σ H Q q => ?_⟩
  obtain ⟨F, ρ, ds, ρ', c, e, k⟩ := q
  unfold mk1 at e
  split at e
  · rename_i x ρ1 e1
    split at e
    · rename_i y ρ2 e2
      split at e
      · rename_i ps ρ3 e3
        cases e
        refine ⟨F, ρ, x, _, c, e1, fun v F1 H1 c1 s1 r1 => ⟨F1, ρ1, y, _, c1, e2, fun w F2 H2 c2 s2 r2 => h2 _ _ _ ⟨F2, ρ2, ps, _, c2, e3, fun vs F3 H3 c3 s3 r3 => ?_⟩⟩⟩
        exact k _ F3 H3 c3 ((s1.trans s2).trans s3) (.cons ((r1.ex s2.exF).ex s3.exF) (r2.ex s3.exF) r3)
      · cases e
    · cases e
  · cases e
def keysD : List (D × D) → Option (List (Key × D))
  | [] => some []
  | (k, d) :: ps => (match keyD k, keysD ps with
    | some k, some kvs => some ((k, d) :: kvs)
    | _, _ => none)
theorem keys_of {K : PySem.W.Frag} {F : Hp} : ∀ {ds : List (D × D)} {ps : List (V × V)} {kvs : List (Key × D)}, RpPs K F ps ds → keysD ds = some kvs → ∃ ys : List (Key × V), ps = ys.map (fun kv => (kV kv.1, kv.2)) ∧ RpKv K F ys kvs
  | [], _, _, r, h => by
    cases r
    cases h
    exact ⟨[], rfl, .nil⟩
  | (k, d) :: ds, _, kvs, r, h => by
    unfold keysD at h
    split at h
    · rename_i key kvs' hk hr
      cases h
      cases r with
      | cons r1 r2 r3 =>
        obtain ⟨ys, rfl, h2⟩ := keys_of r3 hr
        have := key_kV r1 hk
        subst this
        exact ⟨(key, _) :: ys, rfl, .cons r2 h2⟩
    · cases h
def mDct (m : MKV) : MS := fun ρ => match m ρ with
  | some (ps, ρ1) => (match keysD ps with
    | some kvs => if kvs.length ≤ 15 then some (.own false (.dct (mergeD [] kvs)), ρ1) else none
    | none => none)
  | none => none
theorem xs_dct {X : Cx} {pos : Pos} {ks : List (Option Expr)} {vs : List Expr} {m : MKV} (h : XKV X pos ks vs m) (hall : ks.all (·.isSome) = true := by rfl) (hl : ks.length = vs.length := by rfl) (h0 : ks ≠ [] := by intro q; cases q) (h15 : ks.length ≤ 15 := by decide) : XS X (.Dict ks vs pos) (mDct m) := by
  obtain ⟨trs, h1, h2⟩ := h.ex
  refine ⟨pe_imp (pe_disp h1 hall hl h0 h15) fun σ H Q q => ?_⟩
  obtain ⟨F, ρ, s, ρ', c, e, k⟩ := q
  unfold mDct at e
  split at e
  · rename_i ds ρ1 e1
    split at e
    · rename_i kvs hk
      split at e
      · rename_i hz
        cases e
        intro p hp
        have g : Grow F H F (upd H p (.dK [])) := .mine c.ex hp
        have c0 := g.cfg c
        have s0 := g.stp (σ := σ) (ρ := ρ)
        refine h2 _ _ _ ⟨F, ρ, ds, _, c0, e1, fun ps F1 H1 c1 s1 r1 => ?_⟩
        obtain ⟨ys, rfl, r2⟩ := keys_of r1 hk
        have st := s0.trans s1
        have no : ¬ Owns σ ρ p := fun z => (c.own z).2 hp
        have hp1 : H1 p = some (.dK []) := s1.fr p _ upd_same no
        have f1 : F1 p = none := by
          cases z : F1 p with
          | none => rfl
          | some o =>
            rcases s1.nF p (c.ex.free hp) (by rw [z]; intro k; cases k) with q | q
            · rw [upd_same] at q
              cases q
            · exact absurd q no
        have no1 : ¬ Owns σ ρ' p := fun z => by
          rcases st.own p z with q | q
          · exact no q
          · exact no ((s1.own p z).elim id fun q => by rw [upd_same] at q; cases q)
        refine ⟨hp1, ys, rfl, ?_, ?_⟩
        · have := r2.length
          omega
        · have c2 : Cfg X.K F1 (upd H1 p (.dK (mergeK [] ys))) σ ρ' := by
            refine ⟨fun a o h => ?_, c1.len, fun i s h => ?_, c1.sep⟩
            · have na : a ≠ p := fun z => by
                rw [z, f1] at h
                cases h
              rw [upd_ne na]
              exact c1.ex a o h
            · have q := c1.sl i s h
              cases s with
              | un => trivial
              | val d => exact q
              | own pp o1 =>
                obtain ⟨b, e1, f2, at2⟩ := q
                have nb : b ≠ p := fun z => no1 ⟨i, pp, o1, h, by rw [e1, z]⟩
                exact ⟨b, e1, f2, at2.mono (.refl _) (upd_ne nb)⟩
          have st2 : Stp σ ρ F H σ ρ' F1 (upd H1 p (.dK (mergeK [] ys))) := by
            refine ⟨st.exF, fun b w h n => ?_, fun b h => ?_, st.nF, st.own, st.ownU, st.pin⟩
            · have nb : b ≠ p := fun z => by
                rw [z, hp] at h
                cases h
              rw [upd_ne nb]
              exact st.fr b w h n
            · by_cases z : b = p
              · subst z
                exact absurd hp h
              · rw [upd_ne z]
                exact st.th b h
          exact k _ F1 _ c2 st2 ⟨rfl, p, rfl, f1, .inl hp, no1, _, upd_same, r2.merge .nil⟩
      · cases e
    · cases e
  · cases e
end Mr

set_option Elab.async false
set_option linter.all false
set_option maxRecDepth 100000
set_option maxHeartbeats 2000000
/-! Mir15: == and != of dicts of data; walking a dict; keys in a dict; d[k] = v. -/
namespace Mr
open PySem PySem.Spec PyProof.Rows L2
def plKv : List (Key × D) → Bool
  | [] => true
  | (_, d) :: r => eqOk d && plKv r
/-- each of these stands in ls, alike -/
def qKv (ls : List (Key × D)) : List (Key × D) → Bool
  | [] => true
  | (k, d) :: r => (match valD ls k with
    | some e => qD d e && qKv ls r
    | none => false)
def eqKd (x y : D) : Option Bool := match x, y with
  | .dct ks, .dct ls => if (plKv ks && plKv ls) = true then some (ks.length == ls.length && qKv ls ks) else none
  | _, _ => none
def eqX : D → D → Option Bool := fun x y => if (eqOk x && eqOk y) = true then some (qD x y) else eqKd x y
def neX : D → D → Option Bool := fun x y => if (eqOk x && eqOk y) = true then some (!qD x y) else (eqKd x y).map (!·)
theorem plKv_get {ls : List (Key × D)} {k : Key} {d : D} (h : plKv ls = true) (e : valD ls k = some d) : eqOk d = true := by
  induction ls with
  | nil => cases e
  | cons p r ih =>
    obtain ⟨j, d1⟩ := p
    unfold plKv at h
    rw [Bool.and_eq_true] at h
    rw [valD_cons] at e
    by_cases z : j = k
    · rw [if_pos z] at e
      cases e
      exact h.1
    · rw [if_neg z] at e
      exact ih h.2 e
theorem eq_at {X : Cx} {pins : List (Addr × Obj)} {σ : L2.St} {H F : Hp} {s : Shared} {A : Around} {v w : V} {u r : Value} {d e : D} (I : L2.Inv X pins σ H s) (ex : Ex F H) (rv : Rp X.K F v d) (rw' : Rp X.K F w e) (r1 : RelV v u) (r2 : RelV w r) (hd : eqOk d = true) (he : eqOk e = true) (hu : A.units + 64 < cLine) : SeqAt.EqAt A s u r (qD d e) := by
  obtain ⟨as, q1⟩ := Dp.reads I d.py v u (Rp.dp d v (rv.ex ex) (eqOk_pl hd)) r1
  obtain ⟨bs, q2⟩ := Dp.reads I e.py w r (Rp.dp e w (rw'.ex ex) (eqOk_pl he)) r2
  have := SeqAt.eqAt_plain d.py e.py A s u r as bs q1 q2 (eqOk_py hd) (eqOk_py he) (by have h1 := Nat.min_le_left d.py.depth e.py.depth; have h2 := eqOk_dp hd; omega)
  rw [qD_py] at this
  exact this
theorem hits_of {X : Cx} {pins : List (Addr × Obj)} {σ : L2.St} {H F : Hp} {s : Shared} {A : Around} {ys : List (Key × V)} {ls : List (Key × D)} {vb : List (Key × Value)} (I : L2.Inv X pins σ H s) (ex : Ex F H) (rl : RpKv X.K F ys ls) (rb : KV ys vb) (pl : plKv ls = true) (hu : A.units + 64 < cLine) :
    ∀ {xs : List (Key × V)} {ks : List (Key × D)}, RpKv X.K F xs ks → plKv ks = true → ∀ {va : List (Key × Value)}, KV xs va → PySem.W.KeqHits A s vb va (qKv ls ks)
  | _, _, .nil, _, _, ra => by
    cases ra
    exact .nil
  | _, _, .cons (k := k) (d := d) r t, pk, _, ra => by
    unfold plKv at pk
    rw [Bool.and_eq_true] at pk
    cases ra with
    | @cons _ b _ l2 h ta =>
      obtain ⟨k2, u⟩ := b
      obtain ⟨e1, r1⟩ := h
      have e1' : k = k2 := e1
      subst e1'
      unfold qKv
      cases z : valD ls k with
      | none =>
        refine .miss (RelO.none_of (o := valueAt vb k) ?_)
        have := rb.val k
        rw [rl.valN z] at this
        exact this
      | some e =>
        obtain ⟨w, hw, rw'⟩ := rl.val e z
        have q := rb.val k
        rw [hw] at q
        obtain ⟨u2, hu2, r2⟩ := RelO.some_of q
        exact .hit hu2 (eq_at I ex r rw' r1 r2 pk.1 (plKv_get pl z) hu) (hits_of I ex rl rb pl hu t pk.2 ta)
def rEqK (K : PySem.W.Frag) (neg : Bool) : R2 := fun x y H Q => ∃ F a b xs ys ks ls, Ex F H ∧ x = .ref a ∧ y = .ref b ∧ Rd H a (.dK xs) ∧ Rd H b (.dK ys) ∧ RpKv K F xs ks ∧ RpKv K F ys ls ∧ plKv ks = true ∧ plKv ls = true ∧ Q (.bl (if neg then !(ks.length == ls.length && qKv ls ks) else (ks.length == ls.length && qKv ls ks))) H
theorem op_eqK {X : Cx} (hu : X.A.units + 65 < cLine) : OpR X (compareOp .Eq) (rEqK X.K false) := by
  intro pins s σ H x y v u Q I rx ry h
  obtain ⟨F, a, b, xs, ys, ks, ls, ex, rfl, rfl, ea, eb, ra, rb, pa, pb, q⟩ := h
  obtain rfl : v = Value.ref a := rx
  obtain rfl : u = Value.ref b := ry
  obtain ⟨_, ya, va, ka, da⟩ := dk_rd I.hok ea
  obtain ⟨_, yb, vb, kb, db⟩ := dk_rd I.hok eb
  refine PySem.W.keq_eq (knd := mixKind X.prog X.w) (r := qKv ls ks) ya yb da db (by omega) (fun _ => hits_of I ex rb kb pb (by show X.A.units + 1 + 64 < cLine; omega) ra pa ka) ⟨.bl _, H, I, rfl, ?_⟩
  rw [← ka.length, ← kb.length, ra.length, rb.length]
  exact q
theorem op_neK {X : Cx} (hu : X.A.units + 65 < cLine) : OpR X (compareOp .NotEq) (rEqK X.K true) := by
  intro pins s σ H x y v u Q I rx ry h
  obtain ⟨F, a, b, xs, ys, ks, ls, ex, rfl, rfl, ea, eb, ra, rb, pa, pb, q⟩ := h
  obtain rfl : v = Value.ref a := rx
  obtain rfl : u = Value.ref b := ry
  obtain ⟨_, ya, va, ka, da⟩ := dk_rd I.hok ea
  obtain ⟨_, yb, vb, kb, db⟩ := dk_rd I.hok eb
  refine PySem.W.keq_ne (knd := mixKind X.prog X.w) (r := qKv ls ks) ya yb da db (by omega) (fun _ => hits_of I ex rb kb pb (by show X.A.units + 1 + 64 < cLine; omega) ra pa ka) ⟨.bl _, H, I, rfl, ?_⟩
  rw [← ka.length, ← kb.length, ra.length, rb.length]
  exact q
theorem pk_rd {K : PySem.W.Frag} {F H : Hp} {v : V} {ks : List (Key × D)} (ex : Ex F H) (r : Pk K F H v (.dct ks)) : ∃ a xs, v = .ref a ∧ Rd H a (.dK xs) ∧ RpKv K F xs ks := by
  rcases r with r | ⟨a, o, rfl, e, at1⟩
  · cases r with
    | dct h1 h2 => exact ⟨_, _, rfl, .inr ⟨_, ex _ _ h1⟩, h2⟩
  · cases o with
    | lst ds => cases e
    | dct kvs =>
      cases e
      obtain ⟨xs, h1, h2⟩ := at1
      exact ⟨a, xs, rfl, .inl h1, h2⟩
theorem rk_eqX {K : PySem.W.Frag} : RvK K (fun x y H Q => rEqP K x y H Q ∨ rEqK K false x y H Q) eqX := by
  intro F H vx vy x y b Q ex rx ry e k
  unfold eqX at e
  split at e
  · rename_i hz
    refine .inl (rk_eq F H vx vy x y b Q ex rx ry ?_ k)
    unfold eqD
    rw [if_pos hz]
    exact e
  · unfold eqKd at e
    split at e
    · split at e
      · rename_i hz
        cases e
        rw [Bool.and_eq_true] at hz
        obtain ⟨a, xs, rfl, h1, h2⟩ := pk_rd ex rx
        obtain ⟨c, ys, rfl, h3, h4⟩ := pk_rd ex ry
        exact .inr ⟨F, a, c, xs, ys, _, _, ex, rfl, rfl, h1, h3, h2, h4, hz.1, hz.2, k⟩
      · cases e
    · cases e
theorem rk_neX {K : PySem.W.Frag} : RvK K (fun x y H Q => rNeP K x y H Q ∨ rEqK K true x y H Q) neX := by
  intro F H vx vy x y b Q ex rx ry e k
  unfold neX at e
  split at e
  · rename_i hz
    refine .inl (rk_ne F H vx vy x y b Q ex rx ry ?_ k)
    unfold neD
    rw [if_pos hz]
    exact e
  · unfold eqKd at e
    split at e
    · split at e
      · rename_i hz
        cases e
        rw [Bool.and_eq_true] at hz
        obtain ⟨a, xs, rfl, h1, h2⟩ := pk_rd ex rx
        obtain ⟨c, ys, rfl, h3, h4⟩ := pk_rd ex ry
        exact .inr ⟨F, a, c, xs, ys, _, _, ex, rfl, rfl, h1, h3, h2, h4, hz.1, hz.2, k⟩
      · cases e
    · cases e
section
variable {X : Cx} {a b : Expr} {pos : Pos} {ka kb : KE} {j : Nat}
theorem xt_eqX (hr : Room j X.A) (ha : XK X a ka) (hb : XK X b kb) : XT X (.Compare a [.Eq] [b] pos) (mKT eqX ka kb) := ⟨pt_imp (pt_cmpR ((op_eqP hr.units).or (op_eqK (u65 hr))) ha.pe hb.pe (nomark _)) (t_kT rk_eqX)⟩
theorem xt_neX (hr : Room j X.A) (ha : XK X a ka) (hb : XK X b kb) : XT X (.Compare a [.NotEq] [b] pos) (mKT neX ka kb) := ⟨pt_imp (pt_cmpR ((op_neP hr.units).or (op_neK (u65 hr))) ha.pe hb.pe (nomark _)) (t_kT rk_neX)⟩
theorem xd_eqX (hr : Room j X.A) (ha : XK X a ka) (hb : XK X b kb) : XD X (.Compare a [.Eq] [b] pos) (mKV eqX ka kb) := ⟨pe_imp (pe_cmpR ((op_eqP hr.units).or (op_eqK (u65 hr))) ha.pe hb.pe (nomark _)) (t_kV rk_eqX)⟩
theorem xd_neX (hr : Room j X.A) (ha : XK X a ka) (hb : XK X b kb) : XD X (.Compare a [.NotEq] [b] pos) (mKV neX ka kb) := ⟨pe_imp (pe_cmpR ((op_neP hr.units).or (op_neK (u65 hr))) ha.pe hb.pe (nomark _)) (t_kV rk_neX)⟩
end
/-! ### for k in d -/
def dKey : Key → D
  | .inl i => .int i
  | .inr s => .str s
theorem rp_key {K : PySem.W.Frag} {F : Hp} (k : Key) : Rp K F (kV k) (dKey k) := by
  cases k with
  | inl i => exact .int i
  | inr s => exact .str s
def keysOf (kvs : List (Key × D)) : List D := kvs.map fun kv => dKey kv.1
theorem RpKv.keyAt {K : PySem.W.Frag} {F : Hp} : ∀ {xs : List (Key × V)} {kvs : List (Key × D)}, RpKv K F xs kvs → ∀ (i : Nat) (k : Key) (v : V), xs[i]? = some (k, v) → ∃ d, kvs[i]? = some (k, d) ∧ Rp K F v d
  | _, _, .nil, i, k, v, h => by cases i <;> cases h
  | _, _, .cons r t, i, k, v, h => by
    cases i with
    | zero => cases h; exact ⟨_, rfl, r⟩
    | succ i => exact t.keyAt i k v h
theorem it_keys {K : PySem.W.Frag} {F : Hp} {a : Addr} {o : Obj} {xs : List (Key × V)} {kvs : List (Key × D)} (h : F a = some (.frz o (.dK xs))) (r : RpKv K F xs kvs) : ItOk K F (Itk a o xs) (keysOf kvs) := fun i F1 H1 e1 e2 => by
  have q := e2 _ _ (e1 _ _ h)
  have hl := r.length
  refine ⟨fun d hd => ⟨⟨q, ?_⟩, fun x H2 y => ?_⟩, fun hi => ⟨q, ?_⟩⟩
  · have := (List.getElem?_eq_some_iff.mp hd).1
    unfold keysOf at this
    rw [List.length_map] at this
    omega
  · obtain ⟨rfl, k, v, h1, rfl⟩ := y
    obtain ⟨d', h2, _⟩ := r.keyAt i k v h1
    unfold keysOf at hd
    rw [List.getElem?_map, h2] at hd
    cases hd
    exact ⟨F1, .refl e2, rp_key k⟩
  · unfold keysOf at hi
    rw [List.length_map] at hi
    omega
def mIK (m : ME) : MI := fun ρ => match m ρ with
  | some (.dct kvs, ρ1) => some (keysOf kvs, ρ1)
  | _ => none
theorem xi_keys {X : Cx} {tg e : Expr} {m : ME} (h : XD X e m) : XI X tg e (mIK m) := ⟨pi_imp (pi_keys h.pe) fun σ H R q => by
  obtain ⟨F, ρ, ds, ρ', c, e, k⟩ := q
  unfold mIK at e
  split at e
  · rename_i es ρ1 h1
    cases e
    refine ⟨F, ρ, _, _, c, h1, fun v F1 H1 c1 s1 r1 => ?_⟩
    cases r1 with
    | dct hs ra => exact ⟨_, _, rfl, .inl ⟨_, c1.ex _ _ hs, k _ F1 H1 c1 s1 (it_keys hs ra)⟩⟩
  · cases e⟩
/-- what is walked, a dict, too -/
def mIA (m : ME) : MI := fun ρ => match m ρ with
  | some (.lst ds, ρ1) => some (ds, ρ1)
  | some (.rl ds, ρ1) => some (ds, ρ1)
  | some (.tup ds, ρ1) => some (ds, ρ1)
  | some (.str s, ρ1) => some (signsD s, ρ1)
  | some (.dct kvs, ρ1) => some (keysOf kvs, ρ1)
  | _ => none
theorem xi_any {X : Cx} {tg e : Expr} {m : ME} (h : XD X e m) : XI X tg e (mIA m) := ⟨⟨fun pins s σ H R I q => by
  obtain ⟨F, ρ, ds, ρ', c, e1, k⟩ := q
  unfold mIA at e1
  split at e1
  · rename_i es ρ1 h1
    cases e1
    exact (xi_list h).pi.run pins s σ H R I ⟨F, ρ, _, _, c, by unfold mIL; rw [h1]; rfl, k⟩
  · rename_i es ρ1 h1
    cases e1
    exact (xi_list h).pi.run pins s σ H R I ⟨F, ρ, _, _, c, by unfold mIL; rw [h1]; rfl, k⟩
  · rename_i es ρ1 h1
    cases e1
    exact (xi_tup h).pi.run pins s σ H R I ⟨F, ρ, _, _, c, by unfold mIT; rw [h1], k⟩
  · rename_i z ρ1 h1
    cases e1
    exact (xi_str h).pi.run pins s σ H R I ⟨F, ρ, _, _, c, by unfold mIStr; rw [h1], k⟩
  · rename_i z ρ1 h1
    cases e1
    exact (xi_keys h).pi.run pins s σ H R I ⟨F, ρ, _, _, c, by unfold mIK; rw [h1], k⟩
  · cases e1⟩⟩
def wkA : D → Option (List D)
  | .lst ds => some ds
  | .rl ds => some ds
  | .tup ds => some ds
  | .str s => some (signsD s)
  | .dct kvs => some (keysOf kvs)
  | _ => none
theorem W_ia {m : ME} {ρ : Rho} {Q : List D → Rho → Prop} : W (mIA m ρ) Q ↔ W (m ρ) fun d ρ1 => WO (wkA d) fun ds => Q ds ρ1 := by
  unfold mIA
  generalize m ρ = r
  rcases r with _ | ⟨d, ρ1⟩
  · simp only [W_none]
  · cases d <;> simp only [W_some, W_none, WO_some, WO_none, wkA]
theorem waL {xs : List D} {V : List D → Prop} : WO (wkA (.lst xs)) V ↔ V xs := WO_some
theorem waT {xs : List D} {V : List D → Prop} : WO (wkA (.tup xs)) V ↔ V xs := WO_some
theorem waR {xs : List D} {V : List D → Prop} : WO (wkA (.rl xs)) V ↔ V xs := WO_some
theorem waS {s : Str} {V : List D → Prop} : WO (wkA (.str s)) V ↔ V (signsD s) := WO_some
theorem waD {kvs : List (Key × D)} {V : List D → Prop} : WO (wkA (.dct kvs)) V ↔ V (keysOf kvs) := WO_some
/-! ### k in d -/
theorem op_inDk {X : Cx} (hu : X.A.units + 1 < cLine) : OpR X (compareOp .In) (fun x y H Q => ∃ a o, y = .ref a ∧ DGet H a x o ∧ Q (.bl o.isSome) H) := by
  intro pins s σ H x y v u Q I rx ry h
  obtain ⟨a, o, rfl, g, q⟩ := h
  obtain rfl : u = Value.ref a := ry
  exact d_in hu I g rx fun s3 I3 => ⟨.bl o.isSome, H, I3, rfl, q⟩
theorem op_notInDk {X : Cx} (hu : X.A.units + 1 < cLine) : OpR X (compareOp .NotIn) (fun x y H Q => ∃ a o, y = .ref a ∧ DGet H a x o ∧ Q (.bl (!o.isSome)) H) := by
  intro pins s σ H x y v u Q I rx ry h
  obtain ⟨a, o, rfl, g, q⟩ := h
  obtain rfl : u = Value.ref a := ry
  exact d_notIn hu I g rx fun s3 I3 => ⟨.bl (!o.isSome), H, I3, rfl, q⟩
def inX (neg : Bool) : D → D → Option Bool := fun x y => match y with
  | .dct kvs => (match keyD x with
    | some k => some (if neg then !(valD kvs k).isSome else (valD kvs k).isSome)
    | none => none)
  | y => inD neg x y
def rInX (K : PySem.W.Frag) (neg : Bool) : R2 := fun x y H Q => rInAll K neg x y H Q ∨ ∃ a o, y = .ref a ∧ DGet H a x o ∧ Q (.bl (if neg then !o.isSome else o.isSome)) H
theorem pk_key {K : PySem.W.Frag} {F H : Hp} {v : V} {d : D} {k : Key} (r : Pk K F H v d) (h : keyD d = some k) : v = kV k := by
  rcases r with r | ⟨a, o, rfl, rfl, at1⟩
  · exact key_kV r h
  · cases o <;> cases h
theorem rk_inX {K : PySem.W.Frag} {neg : Bool} : RvK K (rInX K neg) (inX neg) := by
  intro F H vx vy x y b Q ex rx ry e k
  unfold inX at e
  split at e
  · rename_i kvs
    split at e
    · rename_i key hk
      cases e
      obtain ⟨a, xs, rfl, h1, h2⟩ := pk_rd ex ry
      have := pk_key rx hk
      subst this
      refine .inr ⟨a, valV xs key, rfl, .inl ⟨xs, key, h1, rfl, rfl⟩, ?_⟩
      have es : (valV xs key).isSome = (valD kvs key).isSome := by
        cases z : valD kvs key with
        | none => rw [h2.valN z]; rfl
        | some d =>
          obtain ⟨v, hv, _⟩ := h2.val d z
          rw [hv]
          rfl
      rw [es]
      exact k
    · cases e
  · exact .inl (rk_in F H vx vy x y b Q ex rx ry e k)
section
variable {X : Cx} {a b : Expr} {pos : Pos} {ka kb : KE} {j : Nat}
theorem xt_inX (hr : Room j X.A) (ha : XK X a ka) (hb : XK X b kb) (hm : behindInMarks .In b = false := by rfl) : XT X (.Compare a [.In] [b] pos) (mKT (inX false) ka kb) := ⟨pt_imp (pt_cmpR ((op_inAll (u65 hr)).or (op_inDk (u1 hr))) ha.pe hb.pe hm) (t_kT rk_inX)⟩
theorem xt_notinX (hr : Room j X.A) (ha : XK X a ka) (hb : XK X b kb) (hm : behindInMarks .NotIn b = false := by rfl) : XT X (.Compare a [.NotIn] [b] pos) (mKT (inX true) ka kb) := ⟨pt_imp (pt_cmpR ((op_notInAll (u65 hr)).or (op_notInDk (u1 hr))) ha.pe hb.pe hm) (t_kT rk_inX)⟩
theorem xd_inX (hr : Room j X.A) (ha : XK X a ka) (hb : XK X b kb) (hm : behindInMarks .In b = false := by rfl) : XD X (.Compare a [.In] [b] pos) (mKV (inX false) ka kb) := ⟨pe_imp (pe_cmpR ((op_inAll (u65 hr)).or (op_inDk (u1 hr))) ha.pe hb.pe hm) (t_kV rk_inX)⟩
theorem xd_notinX (hr : Room j X.A) (ha : XK X a ka) (hb : XK X b kb) (hm : behindInMarks .NotIn b = false := by rfl) : XD X (.Compare a [.NotIn] [b] pos) (mKV (inX true) ka kb) := ⟨pe_imp (pe_cmpR ((op_notInAll (u65 hr)).or (op_notInDk (u1 hr))) ha.pe hb.pe hm) (t_kV rk_inX)⟩
end
/-! ### d[k] = v, xs[i] = v -/
theorem set_dict {X : Cx} (hu : X.A.units + 1 < cLine) : PSet X (fun o i v H Q => ∃ a H', o = .ref a ∧ DPut H a i v H' ∧ Q H') := by
  intro pins s σ H o i v ov iv u Q I ro ri rv h
  obtain ⟨a, H', rfl, g, q⟩ := h
  obtain rfl : ov = Value.ref a := ro
  exact d_setItem hu I g ri rv fun s' I' => ⟨H', I', q⟩
theorem PSet_or {X : Cx} {r r' : V → V → V → Hp → (Hp → Prop) → Prop} (h : PSet X r) (h' : PSet X r') : PSet X (fun o i v H Q => r o i v H Q ∨ r' o i v H Q) := by
  intro pins s σ H o i v ov iv u Q I ro ri rv q
  rcases q with q | q
  · exact h pins s σ H o i v ov iv u Q I ro ri rv q
  · exact h' pins s σ H o i v ov iv u Q I ro ri rv q
/-- what own object comes of o[k] = y -/
def putO (o : Own) (k y : D) : Option Own := match o with
  | .lst ds => (match k with
    | .int k => (match ixN ds.length k with
      | some j => some (.lst (ds.set j y))
      | none => none)
    | _ => none)
  | .dct kvs => (match keyD k with
    | some key => if kvs.length < szL then some (.dct (putD kvs key y)) else none
    | none => none)
def mPutX (i : Nat) (m mi : ME) : MSt := fun ρ => match m ρ with
  | some (y, ρ1) => (match peek ρ1 i with
    | some _ => (match mi ρ1 with
      | some (k, ρ2) => (match ρ2[i]? with
        | some (.own p o) => (match putO o k y with
          | some o' => some (.nx, ρ2.set i (.own p o'))
          | none => none)
        | _ => none)
      | _ => none)
    | none => none)
  | none => none
theorem xp_putX {X : Cx} {x : Str} {pos' : Pos} {e : Expr} {j : Nat} (i : Nat) {ie : Expr} {pos spos : Pos} {m mi : ME} (hr : Room j X.A) (he : XD X e m) (hi : XD X ie mi) (hN : X.N[i]? = some x := by rfl) (hv : Vis X.env.scope x := by first | exact Or.inl rfl | exact Or.inr (Or.inl rfl) | exact Or.inr (Or.inr rfl)) (hd : (x == ("__debug__" : Str)) = false := by decide) (hcd : (x == ("__classdict__" : Str)) = false := by decide)
    (ha : ∀ v, assign (.Subscript (.Name x pos') ie spos) X.env v = (do
      let ov ← holding [v] (eval (.Name x pos') X.env)
      let iv ← holding [v, ov] (eval ie X.env)
      standAt spos
      holding [v, ov, iv] (setItem ov iv v)
      release [v, ov, iv] []) := by intro _; rfl)
    (hs : swapsWithSole [.Subscript (.Name x pos') ie spos] e pos.line X.env = pure false := by rfl) (hw : swappedStores [.Subscript (.Name x pos') ie spos] e X.env = pure none := by rfl)
    (h1 : (assignEach [.Subscript (.Name x pos') ie spos] X.env).map (·.2) = [assign (.Subscript (.Name x pos') ie spos) X.env] := by rfl) :
    XP X (.Assign [.Subscript (.Name x pos') ie spos] e pos) (mPutX i m mi) := ⟨ps_imp (ps_asg he.pe (pg_sub (pv i hN hv hd hcd) hi.pe (PSet_or set_list (set_dict (u1 hr))) ha) hs hw h1) fun E σ H h => by
  obtain ⟨F, ρ, o, ρ', c, e, k⟩ := h
  unfold mPutX at e
  split at e
  · rename_i y ρ1 h1
    split at e
    · rename_i d0 h0
      split at e
      · rename_i kx ρ2 h2
        split at e
        · rename_i p o h3
          split at e
          · rename_i o' hj
            cases e
            refine ⟨F, ρ, y, ρ1, c, h1, fun v F1 H1 c1 s1 r1 => ?_⟩
            obtain ⟨w, hw, _⟩ := c1.pk h0
            refine ⟨w, hw, ?_⟩
            refine ⟨F1, ρ1, _, ρ2, c1, h2, fun u F2 H2 c2 s2 r2 => ?_⟩
            obtain ⟨a, e1, f1, at1⟩ := c2.sl i _ h3
            rw [hw] at e1
            cases e1
            cases o with
            | lst ds =>
              obtain ⟨xs, ha, ra⟩ := at1
              cases kx with
              | int kk =>
                cases r2
                have hj' : (match ixN ds.length kk with
                  | some j => some (Own.lst (ds.set j y))
                  | none => none) = some o' := hj
                split at hj'
                · rename_i j hj2
                  cases hj'
                  refine .inl ⟨a, xs, kk, j, rfl, rfl, ha, by rw [ra.length]; exact hj2, ?_⟩
                  obtain ⟨c3, s3⟩ := c2.mut (o' := .lst (ds.set j y)) (u := .lst (xs.set j v)) h3 hw f1 ⟨_, upd_same, (ra.set (r1.ex s2.exF) j)⟩
                  exact k _ F2 _ c3 ((s1.trans s2).trans s3)
                · cases hj'
              | _ => cases hj
            | dct kvs =>
              obtain ⟨xs, ha, ra⟩ := at1
              have hj' : (match keyD kx with
                | some key => if kvs.length < szL then some (Own.dct (putD kvs key y)) else none
                | none => none) = some o' := hj
              split at hj'
              · rename_i key hk
                split at hj'
                · rename_i hz
                  cases hj'
                  have := key_kV r2 hk
                  subst this
                  refine .inr ⟨a, _, rfl, .inl ⟨xs, key, ha, rfl, by rw [ra.length, szL_eq]; exact hz, rfl⟩, ?_⟩
                  obtain ⟨c3, s3⟩ := c2.mut (o' := .dct (putD kvs key y)) (u := .dK (putK xs key v)) h3 hw f1 ⟨_, upd_same, ra.put (r1.ex s2.exF)⟩
                  exact k _ F2 _ c3 ((s1.trans s2).trans s3)
                · cases hj'
              · cases hj'
          · cases e
        · cases e
      · cases e
    · cases e
  · cases e⟩
/-- an own object -/
def oo (s : Option Slot) (Q : Bool → Own → Prop) (_ : Tag Q := .mk) : Prop := match s with
  | some (.own p o) => Q p o
  | _ => False
theorem oo_own {p : Bool} {o : Own} {Q : Bool → Own → Prop} : oo (some (.own p o)) Q ↔ Q p o := Iff.rfl
theorem W_putX {i : Nat} {ρ : Rho} {m mi : ME} {Q : Out → Rho → Prop} : W (mPutX i m mi ρ) Q ↔ W (m ρ) fun y ρ1 => pk ρ1[i]? fun _ => W (mi ρ1) fun k ρ2 => oo ρ2[i]? fun p o => WO (putO o k y) fun o' => Q .nx (ρ2.set i (.own p o')) := by
  unfold mPutX
  generalize m ρ = r
  rcases r with _ | ⟨y, ρ1⟩
  · simp only [W_none]
  · simp only [W_some]
    rw [pk_peek]
    generalize peek ρ1 i = r
    rcases r with _ | d
    · simp [W_none]
    · simp only [Option.some.injEq, exists_eq_left']
      generalize mi ρ1 = r
      rcases r with _ | ⟨k, ρ2⟩
      · simp only [W_none]
      · simp only [W_some]
        generalize ρ2[i]? = r
        rcases r with _ | s
        · simp only [W_none, oo]
        · cases s with
          | own p o =>
            simp only [oo]
            generalize putO o k y = r
            rcases r with _ | x
            · simp only [W_none, WO_none]
            · simp only [W_some, WO_some]
          | _ => simp only [W_none, oo]
theorem put_lst {ds : List D} {k : Int} {y : D} {V : Own → Prop} : WO (putO (.lst ds) (.int k) y) V ↔ WO (stD ds k y) fun ds' => V (.lst ds') := by
  unfold putO stD
  simp only
  generalize ixN ds.length k = r
  rcases r with _ | j
  · simp only [WO_none]
  · simp only [WO_some]
theorem put_dctS {kvs : List (Key × D)} {k : Str} {y : D} {V : Own → Prop} : WO (putO (.dct kvs) (.str k) y) V ↔ kvs.length < szL ∧ V (.dct (putD kvs (.inr k) y)) := by
  show WO (if kvs.length < szL then some (Own.dct (putD kvs (.inr k) y)) else none) V ↔ _
  rw [WO_guard, WO_some]
/-- dict displays -/
theorem WK_0 {ρ : Rho} {Q : List (D × D) → Rho → Prop} : W (mk0 ρ) Q ↔ Q [] ρ := W_some
theorem WK_1 {ρ : Rho} {ma mb : ME} {mr : MKV} {Q : List (D × D) → Rho → Prop} : W (mk1 ma mb mr ρ) Q ↔ W (ma ρ) fun a ρ1 => W (mb ρ1) fun b ρ2 => W (mr ρ2) fun ps ρ3 => Q ((a, b) :: ps) ρ3 := by
  unfold mk1
  generalize ma ρ = r
  rcases r with _ | ⟨a, ρ1⟩
  · simp only [W_none]
  · simp only [W_some]
    generalize mb ρ1 = r
    rcases r with _ | ⟨b, ρ2⟩
    · simp only [W_none]
    · simp only [W_some]
      generalize mr ρ2 = r
      rcases r with _ | ⟨ps, ρ3⟩
      · simp only [W_none]
      · simp only [W_some]
theorem W_dct {ρ : Rho} {m : MKV} {Q : Slot → Rho → Prop} : W (mDct m ρ) Q ↔ W (m ρ) fun ps ρ1 => WO (keysD ps) fun kvs => kvs.length ≤ 15 ∧ Q (.own false (.dct (mergeD [] kvs))) ρ1 := by
  unfold mDct
  generalize m ρ = r
  rcases r with _ | ⟨ps, ρ1⟩
  · simp only [W_none]
  · simp only [W_some]
    generalize keysD ps = r
    rcases r with _ | kvs
    · simp only [W_none, WO_none]
    · simp only [WO_some]
      by_cases h : kvs.length ≤ 15
      · simp [if_pos h, W_some, h]
      · simp [if_neg h, W_none, h]
theorem kD_nil {V : List (Key × D) → Prop} : WO (keysD []) V ↔ V [] := WO_some
theorem kD_S {s : Str} {d : D} {ps : List (D × D)} {V : List (Key × D) → Prop} : WO (keysD ((.str s, d) :: ps)) V ↔ WO (keysD ps) fun kvs => V ((.inr s, d) :: kvs) := by
  show WO (match keyD (.str s), keysD ps with
    | some k, some kvs => some ((k, d) :: kvs)
    | _, _ => none) V ↔ _
  simp only [keyD]
  generalize keysD ps = r
  rcases r with _ | kvs
  · simp only [WO_none]
  · simp only [WO_some]
theorem v_dictL {ds : List D} {S : Slot → Prop} : WO (dictF [.lst ds]) S ↔ WO (kvsD ds) fun kvs => S (.own false (.dct (mergeD [] kvs))) := by
  show WO (match kvsD ds with
    | some kvs => some (Slot.own false (.dct (mergeD [] kvs)))
    | none => none) S ↔ _
  generalize kvsD ds = r
  rcases r with _ | kvs
  · simp only [WO_none]
  · simp only [WO_some]
theorem v_dictD {kvs : List (Key × D)} {S : Slot → Prop} : WO (dictF [.dct kvs]) S ↔ S (.own false (.dct kvs)) := WO_some
theorem v_max3 {i j k : Int} {S : Slot → Prop} : WO (max3F [.int i, .int j, .int k]) S ↔ S (.val (.int (if (if j > i then j else i) < k then k else (if j > i then j else i)))) := WO_some
theorem ixK {kvs : List (Key × D)} {s : Str} {R : D → Prop} : WO (ixD (.dct kvs) (.str s)) R ↔ WO (valD kvs (.inr s)) R := Iff.rfl
section
variable {T : Bool → Prop}
theorem x_eq {x y : D} (h : (eqOk x && eqOk y) = true) : WO (eqX x y) T ↔ T (qD x y) := by
  unfold eqX
  rw [if_pos h, WO_some]
theorem x_ne {x y : D} (h : (eqOk x && eqOk y) = true) : WO (neX x y) T ↔ T (!qD x y) := by
  unfold neX
  rw [if_pos h, WO_some]
theorem x_eqS {s t : Str} : WO (eqX (.str s) (.str t)) T ↔ T (s == t) := x_eq rfl
theorem x_neS {s t : Str} : WO (neX (.str s) (.str t)) T ↔ T (!(s == t)) := x_ne rfl
theorem x_eqI {i j : Int} : WO (eqX (.int i) (.int j)) T ↔ T (decide (i = j)) := x_eq rfl
theorem x_neI {i j : Int} : WO (neX (.int i) (.int j)) T ↔ T (!decide (i = j)) := x_ne rfl
theorem x_eqB {i j : Bool} : WO (eqX (.bl i) (.bl j)) T ↔ T (i == j) := x_eq rfl
theorem x_neB {i j : Bool} : WO (neX (.bl i) (.bl j)) T ↔ T (!(i == j)) := x_ne rfl
theorem inX_L {neg : Bool} {x : D} {xs : List D} : inX neg x (.lst xs) = inD neg x (.lst xs) := rfl
theorem inX_T {neg : Bool} {x : D} {xs : List D} : inX neg x (.tup xs) = inD neg x (.tup xs) := rfl
theorem inX_S {neg : Bool} {x : D} {s : Str} : inX neg x (.str s) = inD neg x (.str s) := rfl
theorem inX_D {neg : Bool} {s : Str} {kvs : List (Key × D)} : WO (inX neg (.str s) (.dct kvs)) T ↔ T (if neg then !(valD kvs (.inr s)).isSome else (valD kvs (.inr s)).isSome) := WO_some
end
/-- turns that a loop is given: more than any takes -/
def fuelN : Nat := 2 ^ 20000
end Mr

set_option Elab.async false
set_option linter.all false
set_option maxRecDepth 100000
set_option maxHeartbeats 2000000
/-! Mir16: pairs of whole numbers as fractions. -/
namespace Mr
open PySem L2
/-- the lowest pair of a fraction -/
def prD (q : Rat) : D := .tup [.int q.num, .int (q.den : Int)]
/-- its parts are below 2 ^ k -/
def Sz (k : Nat) (q : Rat) : Prop := q.num.natAbs < 2 ^ k ∧ q.den < 2 ^ k
theorem Sz.mono {j k : Nat} {q : Rat} (h : Sz j q) (l : j ≤ k) : Sz k q :=
  ⟨Nat.lt_of_lt_of_le h.1 (Nat.pow_le_pow_right (by decide) l), Nat.lt_of_lt_of_le h.2 (Nat.pow_le_pow_right (by decide) l)⟩
theorem den_pos (q : Rat) : (0 : Int) < q.den := by have := q.den_pos; omega
theorem pair_val {t b : Int} (hb : b ≠ 0) : t.fdiv (if b > 0 then (Int.gcd t b : Int) else -(Int.gcd t b : Int)) = (Rat.divInt t b).num ∧ b.fdiv (if b > 0 then (Int.gcd t b : Int) else -(Int.gcd t b : Int)) = ((Rat.divInt t b).den : Int) := by
  rw [Rat.num_divInt, Rat.den_divInt, if_neg hb, Int.gcd_comm b t]
  have d1 : (Int.gcd t b : Int) ∣ t := Int.gcd_dvd_left t b
  have d2 : (Int.gcd t b : Int) ∣ b := Int.gcd_dvd_right t b
  by_cases h : b > 0
  · rw [if_pos h, Int.sign_eq_one_of_pos h, Int.one_mul, Int.fdiv_eq_ediv_of_dvd d1, Int.fdiv_eq_ediv_of_dvd d2]
    refine ⟨rfl, ?_⟩
    have : b = (b.natAbs : Int) := by omega
    rw [Int.natCast_ediv, ← this]
  · have h' : b < 0 := by omega
    rw [if_neg h, Int.sign_eq_neg_one_of_neg h', Int.fdiv_eq_ediv_of_dvd (Int.neg_dvd.mpr d1), Int.fdiv_eq_ediv_of_dvd (Int.neg_dvd.mpr d2), Int.ediv_neg, Int.ediv_neg]
    constructor
    · rw [Int.neg_one_mul, Int.neg_ediv_of_dvd d1]
    · have : b = -(b.natAbs : Int) := by omega
      rw [Int.natCast_ediv, ← Int.neg_ediv_of_dvd d2]
      congr 1
      omega
theorem gcd_pos {t b : Int} (hb : b ≠ 0) : 0 < Int.gcd t b := by
  rcases Nat.eq_zero_or_pos (Int.gcd t b) with h | h
  · exact absurd (Int.gcd_eq_zero_iff.mp h).2 hb
  · exact h
theorem gcd_le {t b : Int} (hb : b ≠ 0) : Int.gcd t b ≤ b.natAbs := by
  have := Int.gcd_dvd_right t b
  have h2 := Int.natAbs_dvd_natAbs.mpr this
  rw [Int.natAbs_natCast] at h2
  exact Nat.le_of_dvd (by omega) h2
theorem Sz.divInt {k : Nat} {t b : Int} (ht : t.natAbs < 2 ^ k) (hb : b.natAbs < 2 ^ k) (h0 : b ≠ 0) : Sz k (Rat.divInt t b) := by
  have hg := gcd_pos (t := t) h0
  constructor
  · refine Nat.lt_of_le_of_lt ?_ ht
    rw [Rat.num_divInt]
    have e : (b.sign * t / (b.gcd t : Int)).natAbs ≤ (b.sign * t).natAbs := Int.natAbs_ediv_le_natAbs _ _
    refine Nat.le_trans e ?_
    rw [Int.natAbs_mul, Int.natAbs_sign_of_ne_zero h0, Nat.one_mul]
    exact Nat.le_refl _
  · refine Nat.lt_of_le_of_lt ?_ hb
    rw [Rat.den_divInt, if_neg h0]
    exact Nat.div_le_self _ _
theorem divInt_self (q : Rat) : Rat.divInt q.num q.den = q := Rat.num_divInt_den q
theorem add_divInt (p q : Rat) : Rat.divInt (p.num * q.den + q.num * p.den) (p.den * q.den) = p + q := by
  have h := Rat.divInt_add_divInt p.num q.num (d₁ := (p.den : Int)) (d₂ := (q.den : Int)) (by have := den_pos p; omega) (by have := den_pos q; omega)
  rw [divInt_self, divInt_self] at h
  exact h.symm
theorem mul_divInt (p q : Rat) : Rat.divInt (p.num * q.num) (p.den * q.den) = p * q := by
  have h := Rat.divInt_mul_divInt p.num q.num (d₁ := (p.den : Int)) (d₂ := (q.den : Int))
  rw [divInt_self, divInt_self] at h
  exact h.symm
theorem sub_divInt (p q : Rat) : Rat.divInt (p.num * q.den - q.num * p.den) (p.den * q.den) = p - q := by
  have h := add_divInt p (-q)
  rw [Rat.neg_num, Rat.neg_den, Int.neg_mul] at h
  rw [Rat.sub_eq_add_neg, ← h]
  rfl
theorem dens_ne (p q : Rat) : (p.den * q.den : Int) ≠ 0 := by
  have h1 := den_pos p
  have h2 := den_pos q
  exact Int.ne_of_gt (Int.mul_pos h1 h2)
theorem mul_lt2 {x y a b : Nat} (hx : x < 2 ^ a) (hy : y < 2 ^ b) : x * y < 2 ^ (a + b) := by
  rw [Nat.pow_add]
  exact Nat.mul_lt_mul'' hx hy
theorem Sz.add {a b : Nat} {p q : Rat} (hp : Sz a p) (hq : Sz b q) : Sz (a + b + 1) (p + q) := by
  rw [← add_divInt]
  have h1 := mul_lt2 hp.1 hq.2
  have h2 := mul_lt2 hq.1 hp.2
  have h3 := mul_lt2 hp.2 hq.2
  have e : 2 ^ (a + b + 1) = 2 * 2 ^ (a + b) := by rw [Nat.pow_succ]; omega
  rw [Nat.add_comm b a] at h2
  refine Sz.divInt ?_ ?_ (dens_ne p q)
  · have t := Int.natAbs_add_le (p.num * q.den) (q.num * p.den)
    rw [Int.natAbs_mul, Int.natAbs_mul, Int.natAbs_natCast, Int.natAbs_natCast] at t
    omega
  · rw [Int.natAbs_mul, Int.natAbs_natCast, Int.natAbs_natCast]
    omega
theorem Sz.neg {a : Nat} {p : Rat} (hp : Sz a p) : Sz a (-p) := by
  unfold Sz
  rw [Rat.neg_num, Rat.neg_den, Int.natAbs_neg]
  exact hp
theorem Sz.sub {a b : Nat} {p q : Rat} (hp : Sz a p) (hq : Sz b q) : Sz (a + b + 1) (p - q) := by
  rw [Rat.sub_eq_add_neg]
  exact hp.add hq.neg
theorem Sz.mul {a b : Nat} {p q : Rat} (hp : Sz a p) (hq : Sz b q) : Sz (a + b) (p * q) := by
  rw [← mul_divInt]
  refine Sz.divInt ?_ ?_ (dens_ne p q)
  · rw [Int.natAbs_mul]
    exact mul_lt2 hp.1 hq.1
  · rw [Int.natAbs_mul, Int.natAbs_natCast, Int.natAbs_natCast]
    exact mul_lt2 hp.2 hq.2
theorem Sz.int {k : Nat} {i : Int} (h : i.natAbs < 2 ^ k) (hk : 0 < k) : Sz k (i : Rat) := by
  unfold Sz
  rw [Rat.num_intCast, Rat.den_intCast]
  exact ⟨h, Nat.one_lt_two_pow (by omega)⟩
theorem pr_int (i : Int) : prD (i : Rat) = .tup [.int i, .int 1] := by
  unfold prD
  rw [Rat.num_intCast, Rat.den_intCast]
  rfl
/-- products that are let by -/
theorem log2_lt' {n k : Nat} (h : n < 2 ^ k) (hk : 0 < k) : n.log2 < k := by
  by_cases z : n = 0
  · rw [z]
    exact hk
  · exact (Nat.log2_lt z).mpr h
theorem mulSm_b {i j : Int} {a b : Nat} (hi : i.natAbs < 2 ^ a) (hj : j.natAbs < 2 ^ b) (ha : 0 < a) (hb : 0 < b) (h : a + b ≤ 1000000) : mulSm i j = true := by
  have h1 := log2_lt' hi ha
  have h2 := log2_lt' hj hb
  unfold mulSm mulOk
  simp only [Bool.or_eq_true, decide_eq_true_eq]
  exact .inr (by omega)
theorem le_fuel {n : Nat} (h : n < 2 ^ 9000) : n < fuelN := Nat.lt_of_lt_of_le h (Nat.pow_le_pow_right (by decide) (by decide))
theorem log2_of {n : Nat} (h : n < 2 ^ 8999) : n.log2 < 9000 := Nat.lt_succ_of_lt (log2_lt' h (by decide))
theorem pr_ok (q : Rat) : eqOk (prD q) = true := rfl
theorem qD_pr (p q : Rat) : qD (prD p) (prD q) = decide (p = q) := by
  have : qD (prD p) (prD q) = ((p.num == q.num) && ((p.den : Int) == (q.den : Int) && true)) := rfl
  rw [this, Bool.and_true]
  by_cases h : p = q
  · subst h
    simp
  · rw [decide_eq_false h]
    by_cases h1 : p.num = q.num
    · have h2 : (p.den : Int) ≠ q.den := fun e => h (Rat.ext h1 (by omega))
      simp [h2]
    · simp [h1]
theorem cst0 : ((0 : Nat) : Int) = 0 := rfl
theorem cst1 : ((1 : Nat) : Int) = 1 := rfl
theorem cst2 : ((2 : Nat) : Int) = 2 := rfl
theorem cst3 : ((3 : Nat) : Int) = 3 := rfl
theorem cst4 : ((4 : Nat) : Int) = 4 := rfl
theorem cst5 : ((5 : Nat) : Int) = 5 := rfl
theorem cst6 : ((6 : Nat) : Int) = 6 := rfl
theorem cst7 : ((7 : Nat) : Int) = 7 := rfl
theorem cst8 : ((8 : Nat) : Int) = 8 := rfl
theorem cst9 : ((9 : Nat) : Int) = 9 := rfl
theorem cst10 : ((10 : Nat) : Int) = 10 := rfl
theorem cst11 : ((11 : Nat) : Int) = 11 := rfl
theorem cst12 : ((12 : Nat) : Int) = 12 := rfl
theorem cst13 : ((13 : Nat) : Int) = 13 := rfl
theorem cst14 : ((14 : Nat) : Int) = 14 := rfl
theorem cst15 : ((15 : Nat) : Int) = 15 := rfl
theorem v_isN {d : D} {T : Bool → Prop} : WO (isD .non d) T ↔ WO (isD .non d) T := Iff.rfl
theorem is_non {T : Bool → Prop} : WO (isD .non .non) T ↔ T true := WO_some
theorem is_tup {ds : List D} {T : Bool → Prop} : WO (isD (.tup ds) .non) T ↔ T false := WO_some
theorem is_str {s : Str} {T : Bool → Prop} : WO (isD (.str s) .non) T ↔ T false := WO_some
theorem is_int {i : Int} {T : Bool → Prop} : WO (isD (.int i) .non) T ↔ T false := WO_some
theorem isn_non {T : Bool → Prop} : WO (notD .non .non) T ↔ T false := WO_some
theorem isn_tup {ds : List D} {T : Bool → Prop} : WO (notD (.tup ds) .non) T ↔ T true := WO_some
theorem isn_str {s : Str} {T : Bool → Prop} : WO (notD (.str s) .non) T ↔ T true := WO_some
theorem isn_int {i : Int} {T : Bool → Prop} : WO (notD (.int i) .non) T ↔ T true := WO_some
end Mr

set_option Elab.async false
set_option linter.all false
set_option maxRecDepth 100000
set_option maxHeartbeats 2000000
/-! Mir17: dicts by names, lists told by names, truths of lists. -/
namespace Mr
open PySem L2
theorem valD_cons' {kvs : List (Key × D)} {j k : Key} {d : D} : valD ((j, d) :: kvs) k = if j = k then some d else valD kvs k := by
  unfold valD
  rw [List.find?_cons]
  by_cases z : j = k
  · rw [if_pos z]
    simp [z]
  · rw [if_neg z]
    simp [z]
theorem valD_put {v : D} {k j : Key} : ∀ {kvs : List (Key × D)}, valD (putD kvs k v) j = if j = k then some v else valD kvs j
  | [] => by
    show valD [(k, v)] j = _
    rw [valD_cons']
    by_cases z : j = k
    · rw [if_pos z.symm, if_pos z]
    · rw [if_neg (Ne.symm z), if_neg z]
  | (k1, d1) :: kvs => by
    have ih := valD_put (v := v) (k := k) (j := j) (kvs := kvs)
    unfold putD at ih ⊢
    by_cases z : k1 = k
    · subst z
      rw [if_pos (by simp)]
      rw [List.map_cons]
      simp only [if_true]
      rw [valD_cons', valD_cons']
      by_cases y : j = k1
      · subst y
        rw [if_pos rfl, if_pos rfl]
      · rw [if_neg (Ne.symm y), if_neg (Ne.symm y), if_neg y]
        by_cases w : (kvs.any fun kv => decide (kv.1 = k1)) = true
        · rw [if_pos w, if_neg y] at ih
          exact ih
        · have e : (kvs.map fun kv => if kv.1 = k1 then (kv.1, v) else kv) = kvs := by
            rw [List.map_congr_left (g := id)]
            · simp
            · intro kv hkv
              rw [if_neg]
              · rfl
              · intro e
                exact w (List.any_eq_true.mpr ⟨kv, hkv, by simp [e]⟩)
          rw [e]
    · by_cases w : (kvs.any fun kv => decide (kv.1 = k)) = true
      · rw [if_pos w] at ih
        rw [if_pos (by rw [List.any_cons, w, Bool.or_true])]
        rw [List.map_cons, if_neg z, valD_cons', valD_cons']
        by_cases y : k1 = j
        · rw [if_pos y, if_pos y, if_neg]
          rw [← y]
          exact z
        · rw [if_neg y, if_neg y]
          exact ih
      · rw [if_neg w] at ih
        rw [if_neg (by rw [List.any_cons, decide_eq_false z, Bool.false_or]; exact w)]
        show valD ((k1, d1) :: (kvs ++ [(k, v)])) j = _
        rw [valD_cons', valD_cons']
        by_cases y : k1 = j
        · rw [if_pos y, if_pos y, if_neg]
          rw [← y]
          exact z
        · rw [if_neg y, if_neg y]
          exact ih
/-- what g tells, by names -/
def byN (ts : List Str) (g : Str → D) : List (Key × D) := ts.map fun n => (.inr n, g n)
section
variable {ts : List Str} {g : Str → D} {n : Str} {v : D}
theorem valD_byN : ∀ {ts : List Str}, n ∈ ts → valD (byN ts g) (.inr n) = some (g n)
  | t :: ts, h => by
    show valD ((.inr t, g t) :: byN ts g) _ = _
    rw [valD_cons']
    by_cases z : t = n
    · rw [if_pos (by rw [z]), z]
    · rw [if_neg (fun e => z (Sum.inr.inj e))]
      rcases List.mem_cons.mp h with e | h
      · exact absurd e.symm z
      · exact valD_byN h
theorem len_byN : (byN ts g).length = ts.length := by simp [byN]
theorem keys_byN : keysOf (byN ts g) = ts.map D.str := by
  unfold keysOf byN
  rw [List.map_map]
  rfl
theorem put_byN (h : n ∈ ts) : putD (byN ts g) (.inr n) v = byN ts fun m => if m = n then v else g m := by
  unfold putD
  rw [if_pos]
  · unfold byN
    rw [List.map_map]
    refine List.map_congr_left fun m _ => ?_
    show (if (Sum.inr m : Key) = .inr n then ((Sum.inr m : Key), v) else (.inr m, g m)) = _
    by_cases z : m = n
    · rw [if_pos (by rw [z])]
      show _ = ((Sum.inr m : Key), if m = n then v else g m)
      rw [if_pos z]
    · rw [if_neg (fun e => z (Sum.inr.inj e))]
      show _ = ((Sum.inr m : Key), if m = n then v else g m)
      rw [if_neg z]
  · rw [List.any_eq_true]
    exact ⟨(.inr n, g n), List.mem_map.mpr ⟨n, h, rfl⟩, by simp⟩
theorem kvs_byN : ∀ {ts : List Str}, kvsD (ts.map fun n => .tup [.str n, g n]) = some (byN ts g)
  | [] => rfl
  | t :: ts => by
    show (match keyD (.str t), kvsD (ts.map fun n => .tup [.str n, g n]) with
      | some k, some kvs => some ((k, g t) :: kvs)
      | _, _ => none) = _
    rw [kvs_byN]
    rfl
theorem put_new {k : Key} {kvs : List (Key × D)} (h : ∀ kv ∈ kvs, kv.1 ≠ k) : putD kvs k v = kvs ++ [(k, v)] := by
  unfold putD
  rw [if_neg]
  intro e
  obtain ⟨kv, h1, h2⟩ := List.any_eq_true.mp e
  exact h kv h1 (of_decide_eq_true h2)
theorem merge_from : ∀ {ts : List Str} {kvs : List (Key × D)}, ts.Nodup → (∀ t ∈ ts, ∀ kv ∈ kvs, kv.1 ≠ .inr t) → mergeD kvs (byN ts g) = kvs ++ byN ts g
  | [], kvs, _, _ => (List.append_nil _).symm
  | t :: ts, kvs, hn, h => by
    show mergeD (putD kvs (.inr t) (g t)) (byN ts g) = _
    rw [List.nodup_cons] at hn
    rw [put_new (h t List.mem_cons_self), merge_from hn.2, List.append_assoc]
    · rfl
    · intro s hs kv hkv
      rcases List.mem_append.mp hkv with hkv | hkv
      · exact h s (List.mem_cons_of_mem _ hs) kv hkv
      · rw [List.mem_singleton] at hkv
        subst hkv
        intro e
        cases e
        exact hn.1 hs
theorem merge_byN (h : ts.Nodup) : mergeD [] (byN ts g) = byN ts g := by
  rw [merge_from h (fun _ _ _ h => absurd h List.not_mem_nil)]
  rfl
/-- what is told by names: each name's own -/
theorem W_lcG {vs : List Nat} {gm : MG} {te : ME} (P : Str → D → Prop) (R : Nat → Rho → Prop) {Q : List D → Rho → Prop} {ρ : Rho} (hn : ts.Nodup) (hl : ts.length ≤ 100000)
    (he : ∀ (g : Str → D) ρ, (∀ n ∈ ts, P n (g n)) → R ts.length ρ → Q (ts.map fun n => .tup [.str n, g n]) ρ)
    (hs : ∀ (i : Nat) (n : Str) ρ, n ∈ ts → i < ts.length → R i ρ → WO (gm (.str n) ρ) fun ρ1 => W (te ρ1) fun y ρ3 => ∃ d, y = .tup [.str n, d] ∧ P n d ∧ WO (wipeO ρ3 vs) fun ρ4 => R (i + 1) ρ4) (h0 : R 0 ρ) :
    W (mLcL vs gm mYes te (ts.map D.str) [] ρ) Q := by
  refine W_lcL_ix (fun i acc ρ => ∃ g : Str → D, acc = ((ts.take i).map fun n => .tup [.str n, g n]) ∧ (∀ n ∈ ts.take i, P n (g n)) ∧ R i ρ) _ (fun acc ρ h => ?_) (fun i d acc ρ hd h => ?_) ⟨fun _ => .non, rfl, (fun _ h => absurd h (by simp)), h0⟩
  · obtain ⟨g, rfl, h1, h2⟩ := h
    rw [List.length_map] at h1 h2 ⊢
    rw [List.take_length] at h1 ⊢
    exact he g ρ h1 h2
  · obtain ⟨g, rfl, h1, h2⟩ := h
    rw [List.getElem?_map] at hd
    obtain ⟨n, hi, rfl⟩ := Option.map_eq_some_iff.mp hd
    obtain ⟨li, _⟩ := List.getElem?_eq_some_iff.mp hi
    have tk : ts.take (i + 1) = ts.take i ++ [n] := by
      rw [List.take_add_one, hi]
      rfl
    have fresh : n ∉ ts.take i := fun hm => by
      have hd := List.nodup_append.mp (by rw [← tk] ; exact hn.sublist (List.take_sublist _ _) : (ts.take i ++ [n]).Nodup)
      exact hd.2.2 n hm n (List.mem_singleton.mpr rfl) rfl
    refine (hs i n ρ (List.mem_of_getElem? hi) li h2).imp fun ρ1 k => W_yes.mpr (br_true.mpr (k.imp fun y ρ3 q => ?_))
    obtain ⟨d, rfl, pd, q⟩ := q
    refine q.imp fun ρ4 q => ⟨?_, fun m => if m = n then d else g m, ?_, ?_, q⟩
    · rw [List.length_map, List.length_take]
      show _ < 16777216
      omega
    · rw [tk, List.map_append]
      congr 1
      · refine List.map_congr_left fun m hm => ?_
        show _ = D.tup [D.str m, if m = n then d else g m]
        rw [if_neg (fun e : m = n => fresh (e ▸ hm))]
      · simp
    · rw [tk]
      intro m hm
      rcases List.mem_append.mp hm with hm | hm
      · have : m ≠ n := fun e => fresh (e ▸ hm)
        simp only [if_neg this]
        exact h1 m hm
      · rw [List.mem_singleton] at hm
        subst hm
        simp only [if_true]
        exact pd
/-- a dict of data is itself -/
theorem plKv_byN (h : ∀ n ∈ ts, eqOk (g n) = true) : plKv (byN ts g) = true := by
  induction ts with
  | nil => rfl
  | cons t ts ih =>
    show (eqOk (g t) && plKv (byN ts g)) = true
    rw [h t List.mem_cons_self, ih fun n hn => h n (List.mem_cons_of_mem _ hn)]
    rfl
theorem qKv_byN {us : List Str} (hs : ∀ n ∈ us, n ∈ ts) (h : ∀ n ∈ us, qD (g n) (g n) = true) : qKv (byN ts g) (byN us g) = true := by
  induction us with
  | nil => rfl
  | cons t us ih =>
    show (match valD (byN ts g) (.inr t) with
      | some e => qD (g t) e && qKv (byN ts g) (byN us g)
      | none => false) = true
    rw [valD_byN (hs t List.mem_cons_self)]
    simp only
    rw [h t List.mem_cons_self, ih (fun n hn => hs n (List.mem_cons_of_mem _ hn)) fun n hn => h n (List.mem_cons_of_mem _ hn)]
    rfl
theorem ne_byN {T : Bool → Prop} (h : ∀ n ∈ ts, eqOk (g n) = true ∧ qD (g n) (g n) = true) (q : T false) : WO (neX (.dct (byN ts g)) (.dct (byN ts g))) T := by
  refine ⟨false, ?_, q⟩
  unfold neX eqKd
  have n : ∀ x : List (Key × D), (eqOk (.dct x) && eqOk (.dct x)) = false := fun x => rfl
  rw [n]
  have pl := plKv_byN fun n hn => (h n hn).1
  have qk := qKv_byN (ts := ts) (fun n hn => hn) fun n hn => (h n hn).2
  simp only [pl, qk, Bool.and_self, if_true, Bool.false_eq_true, if_false, beq_self_eq_true, Option.map_some, Bool.not_true]
end
section
variable {bs : List Bool} {S : Slot → Prop}
theorem bls_map : ∀ {bs : List Bool}, blsD (bs.map D.bl) = some bs
  | [] => rfl
  | b :: bs => by
    show (match blsD (bs.map D.bl) with
      | some bs => some (b :: bs)
      | none => none) = _
    rw [bls_map]
theorem v_all : WO (allF [.lst (bs.map D.bl)]) S ↔ S (.val (.bl (bs.all id))) := by
  show WO (match blsD (bs.map D.bl) with
      | some bs => some (Slot.val (.bl (bs.all id)))
      | none => none) S ↔ _
  rw [bls_map]
  exact WO_some
theorem v_any : WO (anyF [.lst (bs.map D.bl)]) S ↔ S (.val (.bl (bs.any id))) := by
  show WO (match blsD (bs.map D.bl) with
      | some bs => some (Slot.val (.bl (bs.any id)))
      | none => none) S ↔ _
  rw [bls_map]
  exact WO_some
theorem v_all0 : WO (allF [.lst []]) S ↔ S (.val (.bl true)) := v_all (bs := [])
theorem v_all1 {a : Bool} : WO (allF [.lst [.bl a]]) S ↔ S (.val (.bl a)) := by
  rw [show (D.lst [.bl a]) = .lst ([a].map D.bl) from rfl, v_all]
  simp
theorem v_all2 {a b : Bool} : WO (allF [.lst [.bl a, .bl b]]) S ↔ S (.val (.bl (a && b))) := by
  rw [show (D.lst [.bl a, .bl b]) = .lst ([a, b].map D.bl) from rfl, v_all]
  simp
end
theorem isi_bool' {b : Bool} : isiB (.bl b) "bool" = some true := by
  show kitB "bool" "bool" = some true
  decide +kernel
theorem isi_strS {s : Str} : isiB (.str s) "str" = some true := by
  show kitB "str" "str" = some true
  decide +kernel
theorem isi_strT {ds : List D} : isiB (.tup ds) "str" = some false := by
  show kitB "tuple" "str" = some false
  decide +kernel
theorem w_isiS {s : Str} {T : Bool → Prop} : WO (isiB (.str s) "str") T ↔ T true := by rw [isi_strS, WO_some]
theorem w_isiT {ds : List D} {T : Bool → Prop} : WO (isiB (.tup ds) "str") T ↔ T false := by rw [isi_strT, WO_some]
theorem w_isiB {b : Bool} {T : Bool → Prop} : WO (isiB (.bl b) "bool") T ↔ T true := by rw [isi_bool', WO_some]
/-- x in names -/
theorem in_names {neg : Bool} {ts : List Str} {n : Str} {T : Bool → Prop} : WO (inD neg (.str n) (.lst (ts.map D.str))) T ↔ T (if neg then !decide (n ∈ ts) else decide (n ∈ ts)) := by
  have hf : (flatD (.str n) && (ts.map D.str).all flatD) = true := by
    show ((ts.map D.str).all flatD) = true
    rw [List.all_map]
    exact List.all_eq_true.mpr fun _ _ => rfl
  have ha : ((ts.map D.str).any fun z => eqF z (.str n)) = decide (n ∈ ts) := by
    rw [List.any_map]
    by_cases h : n ∈ ts
    · rw [decide_eq_true h]
      exact List.any_eq_true.mpr ⟨n, h, by show (n == n) = true; simp⟩
    · rw [decide_eq_false h, Bool.eq_false_iff]
      intro e
      obtain ⟨t, h1, h2⟩ := List.any_eq_true.mp e
      have : t = n := by
        have h3 : (t == n) = true := h2
        simpa using h3
      exact h (this ▸ h1)
  have : inD neg (.str n) (.lst (ts.map D.str)) = some (if neg then !decide (n ∈ ts) else decide (n ∈ ts)) := by
    show (if (flatD (.str n) && (ts.map D.str).all flatD) = true then some (if neg then !((ts.map D.str).any fun z => eqF z (.str n)) else ((ts.map D.str).any fun z => eqF z (.str n))) else _) = _
    rw [if_pos hf, ha]
  rw [this, WO_some]
theorem sl_toT {xs : List D} {k : Nat} {S : Slot → Prop} : WO (slS (.tup xs) none (some (k : Int))) S ↔ S (.val (.tup (xs.take k))) := by
  unfold slS
  rw [WO_some, HT.sIx_nat, HT.sIx_none]
  simp only [List.drop_zero, Nat.sub_zero]
  rw [show xs.take (min k xs.length) = xs.take k from by rw [← List.take_eq_take_min]]
theorem sl_toL {xs : List D} {k : Nat} {S : Slot → Prop} : WO (slS (.lst xs) none (some (k : Int))) S ↔ S (.own false (.lst (xs.take k))) := by
  unfold slS
  rw [WO_some, HT.sIx_nat, HT.sIx_none]
  simp only [List.drop_zero, Nat.sub_zero]
  rw [show xs.take (min k xs.length) = xs.take k from by rw [← List.take_eq_take_min]]
theorem sl_t2 {xs : List D} {S : Slot → Prop} : WO (slS (.tup xs) none (some 2)) S ↔ S (.val (.tup (xs.take 2))) := sl_toT (k := 2)
theorem sl_t3 {xs : List D} {S : Slot → Prop} : WO (slS (.tup xs) none (some 3)) S ↔ S (.val (.tup (xs.take 3))) := sl_toT (k := 3)
theorem sl_l2 {xs : List D} {S : Slot → Prop} : WO (slS (.lst xs) none (some 2)) S ↔ S (.own false (.lst (xs.take 2))) := sl_toL (k := 2)
theorem sl_l3 {xs : List D} {S : Slot → Prop} : WO (slS (.lst xs) none (some 3)) S ↔ S (.own false (.lst (xs.take 3))) := sl_toL (k := 3)
theorem sl_3L {xs : List D} {S : Slot → Prop} : WO (slS (.lst xs) (some 3) none) S ↔ S (.own false (.lst (xs.drop 3))) := sl_fromL (k := 3)
theorem in_l2 {neg : Bool} {n a b : Str} {T : Bool → Prop} : WO (inD neg (.str n) (.lst [.str a, .str b])) T ↔ T (if neg then !decide (n ∈ [a, b]) else decide (n ∈ [a, b])) := in_names (ts := [a, b])
theorem in_l3 {neg : Bool} {n a b c : Str} {T : Bool → Prop} : WO (inD neg (.str n) (.lst [.str a, .str b, .str c])) T ↔ T (if neg then !decide (n ∈ [a, b, c]) else decide (n ∈ [a, b, c])) := in_names (ts := [a, b, c])
theorem in_t2 {n a b : Str} {T : Bool → Prop} : WO (inD false (.str n) (.tup [.str a, .str b])) T ↔ T ((a == n) || ((b == n) || false)) := WO_some
theorem in_t3 {n a b c : Str} {T : Bool → Prop} : WO (inD false (.str n) (.tup [.str a, .str b, .str c])) T ↔ T ((a == n) || ((b == n) || ((c == n) || false))) := WO_some
/-! ### zip of two tuples -/
section
open PySem.Spec PyProof.Rows
theorem it_zipT {K : PySem.W.Frag} {F : Hp} {a b : Addr} {xs ys : List V} {ds es : List D} (h : SqT K F a xs) (h' : SqT K F b ys) (r : RpAll K F xs ds) (r' : RpAll K F ys es) : ItOk K F (RZ.ItzT K a b) (zipD ds es) := fun i F1 H1 e1 e2 =>
  ⟨fun d hd => by
    rw [zipD_get] at hd
    cases z : ds[i]? with
    | none => rw [z] at hd; cases hd
    | some d0 =>
      cases z' : es[i]? with
      | none => rw [z, z'] at hd; cases hd
      | some d1 =>
        rw [z, z'] at hd
        cases hd
        obtain ⟨v, hv, rv⟩ := r.get z
        obtain ⟨w, hw, rw⟩ := r'.get z'
        have q := e2.t (e1.t h)
        have q' := e2.t (e1.t h')
        refine ⟨⟨xs, ys, v, w, q, q', hv, hw⟩, fun x H2 y => ?_⟩
        obtain ⟨T, v', w', rfl, hT, rfl, y, y'⟩ := y
        have z2 := y xs q
        rw [hv] at z2
        cases z2
        have z3 := y' ys q'
        rw [hw] at z3
        cases z3
        obtain ⟨g, rr⟩ := new_tup (K := K) (ds := [d0, d1]) (xs := [v, w]) e2 hT (.cons (rv.ex e1) (.cons (rw.ex e1) .nil))
        exact ⟨_, g, rr⟩, fun hl => by
    refine ⟨xs, ys, e2.t (e1.t h), e2.t (e1.t h'), ?_⟩
    rw [r.length, r'.length]
    have q := zipD_get ds es i
    rw [List.getElem?_eq_none hl] at q
    by_cases z : ds.length ≤ i
    · exact .inl z
    · by_cases z' : es.length ≤ i
      · exact .inr z'
      · rw [List.getElem?_eq_getElem (by omega), List.getElem?_eq_getElem (by omega)] at q
        cases q⟩
def zipA : D → D → Option (List D)
  | .tup ds, .tup es => some (zipD ds es)
  | .lst ds, .lst es => some (zipD ds es)
  | .rl ds, .rl es => some (zipD ds es)
  | .lst ds, .rl es => some (zipD ds es)
  | .rl ds, .lst es => some (zipD ds es)
  | _, _ => none
def mIZA (ma : MA) : MI := fun ρ => match ma ρ with
  | some ([x, y], ρ1) => (match zipA x y with
    | some es => some (es, ρ1)
    | _ => none)
  | _ => none
theorem xi_zipA {X : Cx} {a b : Expr} {ma : MA} {p pos tpos : Pos} {elts : List Expr} {kk : Nat} (hm : X.mg "zip" = none) (ha : XA X [a, b] ma) (hg : Gl X "zip" := by rfl) (hs : starEach [a, b] X.env = (false, eval a X.env) :: starEach [b] X.env := by rfl) (hs2 : (backTo pos (starEach [b] X.env)).any (·.1) = false := by rfl) : XI X (.Tuple elts kk tpos) (.Call (.Name "zip" p) [a, b] [] pos) (mIZA ma) := ⟨pi_imp (RZ.pi_zipA hg hm ha.pa hs hs2) fun σ H R q => by
  obtain ⟨F, ρ, ds, ρ', c, e, k⟩ := q
  unfold mIZA at e
  split at e
  · rename_i x y ρ1 h1
    split at e
    · rename_i d1 he
      cases e
      refine ⟨F, ρ, _, _, c, h1, fun vs F1 H1 c1 s1 r1 => ?_⟩
      obtain ⟨v, w, rfl, rv, rw⟩ := rp2 r1
      unfold zipA at he
      split at he
      · cases he
        cases rv with
        | tup hs ra =>
          cases rw with
          | tup hs' ra' => exact ⟨_, _, _, _, rfl, .inr ⟨c1.ex.t hs, c1.ex.t hs', k _ F1 H1 c1 s1 (it_zipT hs hs' ra ra')⟩⟩
      · cases he
        obtain ⟨b1, xs, rfl, hs, ra⟩ := lst_seq rv rfl
        obtain ⟨b2, ys, rfl, hs', ra'⟩ := lst_seq rw rfl
        exact ⟨b1, b2, xs, ys, rfl, .inl ⟨c1.ex.l hs, c1.ex.l hs', k _ F1 H1 c1 s1 (it_zip hs hs' ra ra')⟩⟩
      · cases he
        obtain ⟨b1, xs, rfl, hs, ra⟩ := lst_seq rv rfl
        obtain ⟨b2, ys, rfl, hs', ra'⟩ := lst_seq rw rfl
        exact ⟨b1, b2, xs, ys, rfl, .inl ⟨c1.ex.l hs, c1.ex.l hs', k _ F1 H1 c1 s1 (it_zip hs hs' ra ra')⟩⟩
      · cases he
        obtain ⟨b1, xs, rfl, hs, ra⟩ := lst_seq rv rfl
        obtain ⟨b2, ys, rfl, hs', ra'⟩ := lst_seq rw rfl
        exact ⟨b1, b2, xs, ys, rfl, .inl ⟨c1.ex.l hs, c1.ex.l hs', k _ F1 H1 c1 s1 (it_zip hs hs' ra ra')⟩⟩
      · cases he
        obtain ⟨b1, xs, rfl, hs, ra⟩ := lst_seq rv rfl
        obtain ⟨b2, ys, rfl, hs', ra'⟩ := lst_seq rw rfl
        exact ⟨b1, b2, xs, ys, rfl, .inl ⟨c1.ex.l hs, c1.ex.l hs', k _ F1 H1 c1 s1 (it_zip hs hs' ra ra')⟩⟩
      · cases he
    · cases e
  · cases e⟩
end
theorem W_IZA {ρ : Rho} {ma : MA} {Q : List D → Rho → Prop} : W (mIZA ma ρ) Q ↔ W (ma ρ) fun ds ρ1 => a2 ds fun x y => WO (zipA x y) fun es => Q es ρ1 := by
  unfold mIZA
  generalize ma ρ = r
  rcases r with _ | ⟨ds, ρ1⟩
  · simp only [W_none]
  · rcases ds with _ | ⟨x, _ | ⟨y, _ | ⟨z, ds⟩⟩⟩
    · simp only [W_some, W_none, a2]
    · simp only [W_some, W_none, a2]
    · simp only [W_some, a2]
      generalize zipA x y = r
      rcases r with _ | r
      · simp only [W_none, WO_none]
      · simp only [W_some, WO_some]
    · simp only [W_some, W_none, a2]
theorem zaT {ds es : List D} {V : List D → Prop} : WO (zipA (.tup ds) (.tup es)) V ↔ V (zipD ds es) := WO_some
theorem zaL {ds es : List D} {V : List D → Prop} : WO (zipA (.lst ds) (.lst es)) V ↔ V (zipD ds es) := WO_some
theorem w_isiP {q : Rat} {T : Bool → Prop} : WO (isiB (prD q) "str") T ↔ T false := w_isiT
end Mr

set_option Elab.async false
set_option linter.all false
set_option maxRecDepth 100000
set_option maxHeartbeats 2000000
/-! Mir18: xs.insert(i, y), xs[::-1]. -/
namespace Mr
open PySem PySem.Spec PyProof.Rows L2
def insF : List D → List D → Option (D × List D) := fun ds es => match es with
  | [.int i, y] => if (decide (ds.length < szL) && decide (0 ≤ i) && decide (i < 2 ^ 63)) = true then some (.non, ds.take i.toNat ++ [y] ++ ds.drop i.toNat) else none
  | _ => none
theorem mu_ins {K : PySem.W.Frag} : MutL K (fun x vs H Q => ∃ (l : Addr) (xs : List V) (i : Int) (y : V), x = .ref l ∧ vs = [.int i, y] ∧ H l = some (.lst xs) ∧ xs.length < sizeLine ∧ 0 ≤ i ∧ i < 2 ^ 63 ∧
    Q .non (upd H l (.lst (xs.take i.toNat ++ [y] ++ xs.drop i.toNat)))) insF := by
  intro F H a xs vs ds es x ds' Q ex ha ra rs e k
  unfold insF at e
  split at e
  · rename_i i y
    split at e
    · rename_i hz
      cases e
      obtain ⟨v, w, rfl, rv, rw⟩ := rp2 rs
      cases rv
      simp only [Bool.and_eq_true, decide_eq_true_eq] at hz
      exact ⟨a, xs, i, w, rfl, rfl, ha, by rw [szL_eq, ra.length]; exact hz.1.1, hz.1.2, hz.2, k _ _ .non (((ra.take i.toNat).append (.cons rw .nil)).append (ra.drop i.toNat))⟩
    · cases e
  · cases e
section
variable {X : Cx} {x : Str} {pos' apos cpos : Pos} {e e2 : Expr} {ma : MA}
theorem xs_insert (i : Nat) (ha : XA X [e, e2] ma) (hN : X.N[i]? = some x := by rfl) (hv : Vis X.env.scope x := by first | exact Or.inl rfl | exact Or.inr (Or.inl rfl) | exact Or.inr (Or.inr rfl)) (hd : (x == ("__debug__" : Str)) = false := by decide) (hcd : (x == ("__classdict__" : Str)) = false := by decide)
    (hbase : attributeBase (.Name x pos') "insert" X.env (eval (.Name x pos') X.env) = eval (.Name x pos') X.env := by rfl)
    (hfew : ((backTo cpos (starEach [e, e2] X.env)).all (fun x => !x.1) && (backToKw cpos (keywordEach [] X.env)).all (fun x => x.1.isSome)
      && decide ([e, e2].length + ([] : List Keyword).length + (if ([] : List Keyword).isEmpty then 0 else 1) < 30)) = true := by rfl)
    (hline : (apos.endLine == cpos.line) = true := by rfl) (hs : starEach [e, e2] X.env = (false, eval e X.env) :: starEach [e2] X.env := by rfl) (hplain : (backTo cpos (starEach [e2] X.env)).any (·.1) = false := by rfl) :
    XS X (.Call (.Attribute (.Name x pos') "insert" apos) [e, e2] [] cpos) (mMutL i insF ma) :=
  ⟨pe_imp (pe_bm PySem.F.plainAttrs_list PySem.F.slot_list_insert PySem.F.type_list_insert mt_insert (pv i hN hv hd hcd) ha.pa hbase hfew hline hs hplain) (t_mut mu_ins)⟩
end
theorem v_ins {ds : List D} {i : Int} {y : D} {R : D × List D → Prop} : WO (insF ds [.int i, y]) R ↔ (ds.length < szL ∧ 0 ≤ i ∧ i < 2 ^ 63) ∧ R (.non, ds.take i.toNat ++ [y] ++ ds.drop i.toNat) := by
  show WO (if (decide (ds.length < szL) && decide (0 ≤ i) && decide (i < 2 ^ 63)) = true then some (D.non, ds.take i.toNat ++ [y] ++ ds.drop i.toNat) else none) R ↔ _
  rw [WO_guard, WO_some]
  simp only [Bool.and_eq_true, decide_eq_true_eq, and_assoc]
/-- a list turned about -/
def mRevL (m : ME) : MS := fun ρ => match m ρ with
  | some (.lst ds, ρ1) => some (.own false (.lst ds.reverse), ρ1)
  | _ => none
theorem xs_rev {X : Cx} {e : Expr} {m : ME} {k : Nat} {p1 p2 p3 pos : Pos} (h : XD X e m) : XS X (.Subscript e (.Slice none none (some (.UnaryOp .USub (.Constant (.int 1) k p1) p2)) p3) pos) (mRevL m) := ⟨pe_imp (pe_revL h.pe) fun σ H Q q => by
  obtain ⟨F, ρ, s, ρ', c, e, k⟩ := q
  unfold mRevL at e
  split at e
  · rename_i ds ρ1 h1
    cases e
    refine ⟨F, ρ, _, _, c, h1, fun v F1 H1 c1 s1 r1 => ?_⟩
    cases r1 with
    | lst g1 g2 =>
      refine ⟨_, _, rfl, SqL.of (c1.ex _ _ g1), fun p hp => ?_⟩
      obtain ⟨g, r⟩ := new_lst c1.ex hp g2.reverse
      exact k _ _ _ (g.cfg c1) (s1.trans g.stp) (VG.vok s1 g c1 r)
  · cases e⟩
def lstO (d : D) (Q : List D → Prop) (_ : Tag Q := .mk) : Prop := match d with
  | .lst ds => Q ds
  | _ => False
theorem lstO_l {ds : List D} {Q : List D → Prop} : lstO (.lst ds) Q ↔ Q ds := Iff.rfl
theorem W_revL {m : ME} {ρ : Rho} {Q : Slot → Rho → Prop} : W (mRevL m ρ) Q ↔ W (m ρ) fun d ρ1 => lstO d fun ds => Q (.own false (.lst ds.reverse)) ρ1 := by
  unfold mRevL
  generalize m ρ = r
  rcases r with _ | ⟨d, ρ1⟩
  · simp only [W_none]
  · cases d <;> simp only [W_some, W_none, lstO]
end Mr

set_option Elab.async false
set_option linter.all false
set_option maxRecDepth 100000
set_option maxHeartbeats 2000000
/-! Mir19: zip of two things, each a tuple or a list, over KE.GoesZip's iterators of any kind. -/
namespace Mr
open PySem PySem.Spec PyProof.Rows L2
/-- a source: a tuple (true) or a list (false) -/
def SqM (K : PySem.W.Frag) (k : Bool) (H : Hp) (a : Addr) (xs : List V) : Prop := if k = true then SqT K H a xs else SqL K H a xs
def ItM (k : Bool) (h : Heap) (it l : Addr) (i : Nat) : Prop := if k = true then h.IsTupleIter it l i else h.IsListIter it l i
def InM (k : Bool) (h : Heap) (l : Addr) (its : Array Value) : Prop := if k = true then h.IsTuple l its else h.IsList l its
def obM (k : Bool) (l : Addr) : Obj := { cls := .type (if k = true then "tuple_iterator" else "list_iterator"), data := .fields #[.ref l, .int 0 0] }
theorem drM {P : Program} {w : World} {A : Around} (k : Bool) (hh : A.handled = none) (it l : Addr) (hne : l ≠ it) (its : Array Value) :
    Draws P w A it [it, l] its.size (fun i v => its[i]? = some v) (fun i h => ItM k h it l i ∧ InM k h l its) := by
  cases k
  · exact Draws.list hh it l hne its
  · exact Draws.tuple hh it l hne its
theorem drE {P : Program} {w : World} {A : Around} (k : Bool) (hh : A.handled = none) (it l : Addr) (its : Array Value) (i : Nat) (hi : its.size ≤ i) :
    Draws P w A it [it, l] i (fun _ _ => True) (fun j h => j = i ∧ ItM k h it l j ∧ InM k h l its) where
  live := by
    rintro j h ⟨_, st, _⟩
    cases k
    · obtain ⟨o, e, _⟩ := (show h.IsListIter it l j from st)
      exact ⟨o, e⟩
    · obtain ⟨o, e, _⟩ := (show h.IsTupleIter it l j from st)
      exact ⟨o, e⟩
  frame := by
    rintro j h h' ⟨e, st, p⟩ q
    cases k
    · exact ⟨e, Heap.IsListIter.at st fun o g => q it (by simp) o g, Heap.IsList.at p fun o g => q l (by simp) o g⟩
    · exact ⟨e, Heap.IsTupleIter.at st fun o g => q it (by simp) o g, Heap.IsTuple.at p fun o g => q l (by simp) o g⟩
  item := fun j s Q E lt st _ => absurd st.1 (Nat.ne_of_lt lt)
  done := by
    rintro s Q E ⟨_, st, p⟩ hE
    have none' : its[i]? = none := by simpa using hi
    cases k
    · exact wpAny_nextOf_list_end hh st p none' hE
    · exact wpAny_nextOf_tuple_end hh st p none' hE
/-- one source when the other or itself is at its end -/
theorem drN {P : Program} {w : World} {A : Around} (k : Bool) (hh : A.handled = none) (it l : Addr) (hne : l ≠ it) (its : Array Value) {h : Heap} {i : Nat} (st : ItM k h it l i) (p : InM k h l its) :
    ∃ n Pv St, Draws P w A it [it, l] n Pv St ∧ St i h ∧ i ≤ n ∧ (its.size ≤ i → i = n) := by
  by_cases hi : its.size ≤ i
  · exact ⟨_, _, _, drE k hh it l its i hi, ⟨rfl, st, p⟩, Nat.le_refl _, fun _ => rfl⟩
  · exact ⟨_, _, _, drM k hh it l hne its, ⟨st, p⟩, by omega, fun e => absurd e hi⟩
theorem bgM (k : Bool) (l : Addr) (its : Array Value) : Begins (.ref l) (obM k l) fun h => InM k h l its := by
  cases k
  · exact begins_list l its
  · exact begins_tuple l its
theorem itM_new {k : Bool} {h : Heap} {it l : Addr} (g : h.get? it = some (obM k l)) : ItM k h it l 0 := by
  cases k
  · exact ⟨_, g, rfl, rfl⟩
  · exact ⟨_, g, rfl, rfl⟩
theorem itM_at {k : Bool} {h h' : Heap} {it l : Addr} {i : Nat} (x : ItM k h it l i) (e : ∀ o, h.get? it = some o → h'.get? it = some o) : ItM k h' it l i := by
  cases k
  · exact Heap.IsListIter.at x e
  · exact Heap.IsTupleIter.at x e
theorem itM_obj {k : Bool} {h : Heap} {it l : Addr} {i : Nat} (x : ItM k h it l i) : ∃ o, h.get? it = some o ∧ ∀ v, o.data ≠ .cell v := by
  cases k
  · obtain ⟨o, e, _, d⟩ := (show h.IsListIter it l i from x)
    exact ⟨o, e, fun v q => by rw [d] at q; cases q⟩
  · obtain ⟨o, e, _, d⟩ := (show h.IsTupleIter it l i from x)
    exact ⟨o, e, fun v q => by rw [d] at q; cases q⟩
theorem sqM_seq {X : Cx} {pins : List (Addr × Obj)} {σ : L2.St} {H : Hp} {s : Shared} {k : Bool} {a : Addr} {xs : List V} (I : Inv X pins σ H s) (h : SqM X.K k H a xs) :
    ∃ its : List Value, Vals xs its ∧ InM k s.heap a its.toArray ∧ a < s.heap.objs.size := by
  cases k
  · obtain ⟨its, rv, p, _⟩ := I.list (show SqL X.K H a xs from h)
    exact ⟨its, rv, p.isList, p.lt⟩
  · obtain ⟨its, rv, p, _⟩ := I.tuple (show SqT X.K H a xs from h)
    obtain ⟨o, ho, _⟩ := id p
    exact ⟨its, rv, p, Heap.lt_size ho⟩
theorem sqM_inj {X : Cx} {pins : List (Addr × Obj)} {σ : L2.St} {H : Hp} {s : Shared} {k : Bool} {a : Addr} {xs ys : List V} (I : Inv X pins σ H s) (h : SqM X.K k H a xs) (h' : SqM X.K k H a ys) : xs = ys := by
  cases k
  · exact I.list_inj (show SqL X.K H a xs from h) h'
  · exact I.tuple_inj (show SqT X.K H a xs from h) h'
/-- the items of both sources at each turn, in new pairs -/
def ItzM (K : PySem.W.Frag) (k k' : Bool) (a b : Addr) : It :=
  ⟨fun i H => ∃ (xs ys : List V) (x y : V), SqM K k H a xs ∧ SqM K k' H b ys ∧ xs[i]? = some x ∧ ys[i]? = some y,
    fun i H v H' => ∃ T x y, v = .ref T ∧ H T = none ∧ H' = upd H T (.tup [x, y]) ∧ (∀ xs, SqM K k H a xs → xs[i]? = some x) ∧ ∀ ys, SqM K k' H b ys → ys[i]? = some y,
    fun i H => ∃ xs ys : List V, SqM K k H a xs ∧ SqM K k' H b ys ∧ (xs.length ≤ i ∨ ys.length ≤ i)⟩
theorem sepM {z TI TO i1 i2 a b : Addr} (D : ZipApart z TI TO i1 i2 a b) : ZipSep2 z TI TO i1 i2 [i1, a] [i2, b] where
  TIz := D.TIz
  TOz := D.TOz
  TITO := D.TITO
  TIi1 := D.TIi1
  mem1 := by simp
  zf1 := by simp [D.i1z.symm, D.l1z.symm]
  Tf1 := by simp [D.TOi1, D.l1TO.symm]
  TIi2 := D.TIi2
  mem2 := by simp
  zf2 := by simp [D.i2z.symm, D.l2z.symm]
  Tf2 := by simp [D.TOi2, D.l2TO.symm]
  sep1_2 := by simp [D.i12, D.l2i1.symm]
  sep2_1 := by simp [D.i12.symm, D.l1i2.symm]
theorem turnM {P : Program} {w : World} {K : PySem.W.Frag} {elts : List Expr} {kk : Nat} {tpos : Pos} (k k' : Bool) {a b z TI TO i1 i2 : Addr} (D : ZipApart z TI TO i1 i2 a b) :
    Turn P w K (.Tuple elts kk tpos) (ItzM K k k' a b) [z, TI, TO, i1, i2] z (fun i h => IsZip h z TI TO .none ∧ IsTupOf2 h TI (.ref i1) (.ref i2) ∧ (∃ x y, IsTupOf2 h TO x y) ∧ ItM k h i1 a i ∧ ItM k' h i2 b i) where
  mem := List.mem_cons_self
  obj := by
    rintro i h ⟨hz, hTI, ⟨x, y, hTO⟩, h1, h2⟩ c hc
    simp only [List.mem_cons, List.not_mem_nil, or_false] at hc
    rcases hc with rfl | rfl | rfl | rfl | rfl
    · exact ⟨_, hz, fun v q => nomatch q⟩
    · exact ⟨_, hTI, fun v q => nomatch q⟩
    · exact ⟨_, hTO, fun v q => nomatch q⟩
    · exact itM_obj h1
    · exact itM_obj h2
  keep := by
    rintro i h h' ⟨hz, hTI, ⟨x, y, hTO⟩, h1, h2⟩ q
    exact ⟨q z (by simp) _ hz, q TI (by simp) _ hTI, ⟨x, y, q TO (by simp) _ hTO⟩, itM_at h1 fun o e => q i1 (by simp) o e, itM_at h2 fun o e => q i2 (by simp) o e⟩
  item := by
    rintro X rfl rfl rfl hc i pins s σ H E I hf ⟨hz, hTI, ⟨x0, y0, hTO⟩, h1, h2⟩ ⟨xs, ys, x, y, qx, qy, hx, hy⟩
    obtain ⟨us, rv, p, _⟩ := sqM_seq I qx
    obtain ⟨vs, rw', p', _⟩ := sqM_seq I qy
    obtain ⟨u, hu, ru⟩ := rv.get hx
    obtain ⟨v, hv, rw⟩ := rw'.get hy
    have hu' : us.toArray[i]? = some u := by simpa using hu
    have hv' : vs.toArray[i]? = some v := by simpa using hv
    have lu : i < us.toArray.size := (Array.getElem?_eq_some_iff.mp hu').1
    have lv : i < vs.toArray.size := (Array.getElem?_eq_some_iff.mp hv').1
    have hd : X.A.in1.handled = none := I.ok.hd hc
    have zl : z < s.heap.objs.size := Heap.lt_size hz
    refine wpAny_pyNext_zipD2_item (sepM D) (drM k hd i1 a D.l1i1 us.toArray) (drM k' hd i2 b D.l2i2 vs.toArray) hz hTI hTO ⟨h1, p⟩ ⟨h2, p'⟩ lu lv fun x1 x2 h' tk e1 e2 z' TO' s1 s2 hT hsz kp => ?_
    have q1 : x1 = u := by
      have e1' : us.toArray[i]? = some x1 := e1
      rw [hu'] at e1'
      injection e1' with e
      exact e.symm
    have q2 : x2 = v := by
      have e2' : vs.toArray[i]? = some x2 := e2
      rw [hv'] at e2'
      injection e2' with e
      exact e.symm
    subst q1 q2
    refine ⟨_, rfl, wpAny_letOwnedTupleGo_zip (s := { s with heap := h', toks := tk }) z' fun h'' z'' sb => ?_⟩
    have far : s.heap.objs.size ≠ z := Nat.ne_of_gt zl
    have hT2 : h''.get? s.heap.objs.size = some { cls := .type "tuple", data := .seq #[x1, x2] } := (sb.2 _ far).trans hT
    have new : ObjOk X.prog X.w (upd H s.heap.objs.size (.tup [x, y])) h'' s.heap.objs.size (.tup [x, y]) := ⟨(by decide : 2 ≤ sizeLine), [x1, x2], .cons ru (.cons rw .nil), _, hT2, rfl, _, rfl⟩
    have out : ∀ c o, c ∉ [z, TI, TO, i1, i2] → s.heap.get? c = some o → h''.get? c = some o := fun c o nc e => by
      simp only [List.mem_cons, List.not_mem_nil, or_false, not_or] at nc
      exact (sb.2 c nc.1).trans (kp c o nc.1 nc.2.2.1 nc.2.2.2.1 nc.2.2.2.2 e)
    refine ⟨.ref s.heap.objs.size, _, I.turnedNew (t' := tk) (ch := [z, TI, TO, i1, i2]) out hf (Nat.le_refl _) new, rfl, ⟨_, x, y, rfl, I.hok.fresh (Nat.le_refl _), rfl, fun l hl => by rw [sqM_inj I hl qx]; exact hx, fun l hl => by rw [sqM_inj I hl qy]; exact hy⟩, ⟨z'', ?_, ⟨x1, x2, ?_⟩, ?_, ?_⟩, fun c hm => ?_⟩
    · exact (sb.2 _ D.TIz).trans (kp _ _ D.TIz D.TITO D.TIi1 D.TIi2 hTI)
    · exact (sb.2 _ D.TOz).trans TO'
    · exact itM_at s1.1 fun o e => (sb.2 _ D.i1z).trans e
    · exact itM_at s2.1 fun o e => (sb.2 _ D.i2z).trans e
    · have lt : c < s.heap.objs.size := by
        obtain ⟨o1, g1, _⟩ := itM_obj h1
        obtain ⟨o2, g2, _⟩ := itM_obj h2
        simp only [List.mem_cons, List.not_mem_nil, or_false] at hm
        rcases hm with rfl | rfl | rfl | rfl | rfl
        · exact zl
        · exact Heap.lt_size hTI
        · exact Heap.lt_size hTO
        · exact Heap.lt_size g1
        · exact Heap.lt_size g2
      rw [upd_ne (Nat.ne_of_lt lt)]
      exact (hf c hm).1
  done := by
    rintro X rfl rfl rfl hc i pins s σ H E I hf ⟨hz, hTI, ⟨x0, y0, hTO⟩, h1, h2⟩ ⟨xs, ys, qx, qy, he⟩
    obtain ⟨us, rv, p, _⟩ := sqM_seq I qx
    obtain ⟨vs, rw', p', _⟩ := sqM_seq I qy
    have l1 := rv.length
    have l2 := rw'.length
    have n1 : us.toArray.size = us.length := by simp
    have n2 : vs.toArray.size = vs.length := by simp
    have hd : X.A.in1.handled = none := I.ok.hd hc
    obtain ⟨n1, _, _, d1, s1, m1, e1⟩ := drN (P := X.prog) (w := X.w) k hd i1 a D.l1i1 us.toArray h1 p
    obtain ⟨n2, _, _, d2, s2, m2, e2⟩ := drN (P := X.prog) (w := X.w) k' hd i2 b D.l2i2 vs.toArray h2 p'
    refine wpAny_pyNext_zipD2_end (sepM D) d1 d2 hz hTI hTO s1 s2 m1 m2 (he.elim (fun e => .inl (e1 (by omega))) fun e => .inr (e2 (by omega))) fun h' tk kp => ⟨rfl, I.turnedL (t' := tk) (ch := [z, TI, TO, i1, i2]) (fun c o nc e => ?_) hf⟩
    simp only [List.mem_cons, List.not_mem_nil, or_false, not_or] at nc
    exact kp c o nc.1 nc.2.2.1 nc.2.2.2.1 nc.2.2.2.2 e
  self := fun A i s Q E st h => wpAny_pyIter_zip st.1 h
def iZipM (K : PySem.W.Frag) (ta : TA) : TI := fun σ H R => ta σ H fun vs H1 => ∃ k k' a b xs ys, vs = [.ref a, .ref b] ∧ SqM K k H1 a xs ∧ SqM K k' H1 b ys ∧ R (ItzM K k k' a b) H1
theorem pi_zipM {X : Cx} {e e2 : Expr} {ta : TA} {p pos tpos : Pos} {elts : List Expr} {kk : Nat} (hg : Gl X "zip") (hm : X.mg "zip" = none) (ha : PA X [e, e2] ta)
    (hs : starEach [e, e2] X.env = (false, eval e X.env) :: starEach [e2] X.env := by rfl) (hpl : (backTo pos (starEach [e2] X.env)).any (·.1) = false := by rfl) :
    PI X (.Tuple elts kk tpos) (.Call (.Name "zip" p) [e, e2] [] pos) (iZipM X.K ta) := by
  refine ⟨fun pins s σ H R I h => ?_⟩
  refine Call_ (ld_blt I hg hm PyProof.Rows.boot_zip (PyProof.Rows.callWith_type1 (thn (ha.run pos pins s σ H _ I h) fun us s1 ⟨vs, H1, I1, r1, q1⟩ => ?_) hs hpl))
  obtain ⟨k, k', a, b, xs, ys, rfl, qx, qy, q⟩ := q1
  cases r1 with
  | cons r rr =>
    cases rr with
    | cons r' rr =>
      cases rr
      cases r
      cases r'
      obtain ⟨us, _, p1, la⟩ := sqM_seq I1 qx
      obtain ⟨vs, _, p2, lb⟩ := sqM_seq I1 qy
      refine zip_begins2 (bgM k a us.toArray) (bgM k' b vs.toArray) p1 p2 fun h' hz hTI hTO g1 g2 hsz hk => wpAny_pyIter_zip hz ?_
      have I2 : Inv X pins σ H1 { s1 with heap := h' } := I1.kept (t' := s1.toks) hk
      refine ⟨s1.heap.objs.size + 4, [s1.heap.objs.size + 4, s1.heap.objs.size + 2, s1.heap.objs.size + 3, s1.heap.objs.size, s1.heap.objs.size + 1], _, _, H1, rfl, I2, turnM k k' (PySem.W.ktu_apart s1.heap.objs.size a b la lb), ⟨hz, hTI, ⟨_, _, hTO⟩, itM_new g1, itM_new g2⟩, fun c hc => ?_, q⟩
      have ge : s1.heap.objs.size ≤ c := by
        simp only [List.mem_cons, List.not_mem_nil, or_false] at hc
        rcases hc with rfl | rfl | rfl | rfl | rfl
        all_goals first | exact Nat.le_refl _ | exact Nat.le_add_right _ _
      exact I1.fpOk ge (I1.hok.fresh ge)
/-! ### the mirror -/
section
variable {K : PySem.W.Frag}
theorem sqM_ex {k : Bool} {F H : Hp} {a : Addr} {xs : List V} (e : Ex F H) (h : SqM K k F a xs) : SqM K k H a xs := by
  cases k
  · exact e.l (show SqL K F a xs from h)
  · exact e.t (show SqT K F a xs from h)
theorem it_zipM {k k' : Bool} {F : Hp} {a b : Addr} {xs ys : List V} {ds es : List D} (h : SqM K k F a xs) (h' : SqM K k' F b ys) (r : RpAll K F xs ds) (r' : RpAll K F ys es) : ItOk K F (ItzM K k k' a b) (zipD ds es) := fun i F1 H1 e1 e2 => by
  have q := sqM_ex e2 (sqM_ex e1 h)
  have q' := sqM_ex e2 (sqM_ex e1 h')
  have at' := zipD_get ds es i
  constructor
  · intro d hd
    rw [at'] at hd
    cases z : ds[i]? with
    | none => rw [z] at hd; cases hd
    | some d0 =>
      cases z' : es[i]? with
      | none => rw [z, z'] at hd; cases hd
      | some d1 =>
        rw [z, z'] at hd
        cases hd
        obtain ⟨v, hv, rv⟩ := r.get z
        obtain ⟨w, hw, rw⟩ := r'.get z'
        refine ⟨⟨xs, ys, v, w, q, q', hv, hw⟩, ?_⟩
        rintro x H2 ⟨T, v', w', rfl, hT, rfl, y, y'⟩
        have a1 := (y xs q).symm.trans hv
        have a2 := (y' ys q').symm.trans hw
        cases a1
        cases a2
        obtain ⟨g, rr⟩ := new_tup (K := K) (ds := [d0, d1]) (xs := [v, w]) e2 hT (.cons (rv.ex e1) (.cons (rw.ex e1) .nil))
        exact ⟨_, g, rr⟩
  · intro hl
    refine ⟨xs, ys, q, q', ?_⟩
    rw [r.length, r'.length]
    rw [List.getElem?_eq_none hl] at at'
    rcases Nat.lt_or_ge i ds.length with z | z
    · rcases Nat.lt_or_ge i es.length with z' | z'
      · rw [List.getElem?_eq_getElem z, List.getElem?_eq_getElem z'] at at'
        cases at'
      · exact .inr z'
    · exact .inl z
/-- what a zip's source may be -/
def srcD : D → Option (List D)
  | .tup ds => some ds
  | .lst ds => some ds
  | .rl ds => some ds
  | _ => none
theorem src_sq {F : Hp} {v : V} {d : D} {ds : List D} (r : Rp K F v d) (h : srcD d = some ds) : ∃ k a xs, v = .ref a ∧ SqM K k F a xs ∧ RpAll K F xs ds := by
  cases d with
  | tup es =>
    cases h
    cases r with
    | tup hs ra => exact ⟨true, _, _, rfl, hs, ra⟩
  | lst es =>
    cases h
    obtain ⟨b, xs, rfl, hs, ra⟩ := lst_seq r rfl
    exact ⟨false, _, _, rfl, hs, ra⟩
  | rl es =>
    cases h
    obtain ⟨b, xs, rfl, hs, ra⟩ := lst_seq r rfl
    exact ⟨false, _, _, rfl, hs, ra⟩
  | _ => cases h
def zipM (x y : D) : Option (List D) := match srcD x, srcD y with
  | some ds, some es => some (zipD ds es)
  | _, _ => none
def mIZM (ma : MA) : MI := fun ρ => match ma ρ with
  | some ([x, y], ρ1) => (match zipM x y with
    | some es => some (es, ρ1)
    | _ => none)
  | _ => none
theorem xi_zipM {X : Cx} {a b : Expr} {ma : MA} {p pos tpos : Pos} {elts : List Expr} {kk : Nat} (hm : X.mg "zip" = none) (ha : XA X [a, b] ma) (hg : Gl X "zip" := by rfl) (hs : starEach [a, b] X.env = (false, eval a X.env) :: starEach [b] X.env := by rfl) (hs2 : (backTo pos (starEach [b] X.env)).any (·.1) = false := by rfl) : XI X (.Tuple elts kk tpos) (.Call (.Name "zip" p) [a, b] [] pos) (mIZM ma) := ⟨pi_imp (pi_zipM hg hm ha.pa hs hs2) fun σ H R q => by
  obtain ⟨F, ρ, ds, ρ', c, e, k⟩ := q
  unfold mIZM at e
  split at e
  · rename_i x y ρ1 h1
    split at e
    · rename_i d1 he
      cases e
      refine ⟨F, ρ, _, _, c, h1, fun vs F1 H1 c1 s1 r1 => ?_⟩
      obtain ⟨v, w, rfl, rv, rw⟩ := rp2 r1
      unfold zipM at he
      split at he
      · rename_i e1 e2
        cases he
        obtain ⟨k1, a1, xs, rfl, hs, ra⟩ := src_sq rv e1
        obtain ⟨k2, a2, ys, rfl, hs', ra'⟩ := src_sq rw e2
        exact ⟨k1, k2, a1, a2, xs, ys, rfl, sqM_ex c1.ex hs, sqM_ex c1.ex hs', k _ F1 H1 c1 s1 (it_zipM hs hs' ra ra')⟩
      · cases he
    · cases e
  · cases e⟩
end
theorem W_IZM {ρ : Rho} {ma : MA} {Q : List D → Rho → Prop} : W (mIZM ma ρ) Q ↔ W (ma ρ) fun ds ρ1 => a2 ds fun x y => WO (zipM x y) fun es => Q es ρ1 := by
  unfold mIZM
  generalize ma ρ = r
  rcases r with _ | ⟨ds, ρ1⟩
  · simp only [W_none]
  · rcases ds with _ | ⟨x, _ | ⟨y, _ | ⟨z, ds⟩⟩⟩
    · simp only [W_some, W_none, a2]
    · simp only [W_some, W_none, a2]
    · simp only [W_some, a2]
      generalize zipM x y = r
      rcases r with _ | r
      · simp only [W_none, WO_none]
      · simp only [W_some, WO_some]
    · simp only [W_some, W_none, a2]
section
variable {ds es : List D} {V : List D → Prop}
theorem zmT : WO (zipM (.tup ds) (.tup es)) V ↔ V (zipD ds es) := WO_some
theorem zmL : WO (zipM (.lst ds) (.lst es)) V ↔ V (zipD ds es) := WO_some
theorem zmTL : WO (zipM (.tup ds) (.lst es)) V ↔ V (zipD ds es) := WO_some
theorem zmLT : WO (zipM (.lst ds) (.tup es)) V ↔ V (zipD ds es) := WO_some
end
end Mr

set_option Elab.async false
set_option linter.all false
set_option maxRecDepth 100000
set_option maxHeartbeats 2000000
/-! Mir20: an own error that a try caught and a name keeps; isinstance of it. -/
namespace Mr
open PySem PySem.Spec PyProof.Rows L2
/-- an error of the class cls at a, kept -/
def KeptE (cls : Value) (a : Addr) : HO := .ext fun h => ∃ (o : Obj) (fs : Array Value), h.get? a = some o ∧ Zc cls none o ∧ o.data = .fields fs
section
variable {X : Cx} {pins : List (Addr × Obj)} {σ : L2.St} {H : Hp} {s : Shared} {a : Addr} {cls : Value}
theorem kept_ok {P : Program} {w : World} {H : Hp} {h : Heap} {o : Obj} {fs : Array Value} (e : h.get? a = some o) (z : Zc cls none o) (d : o.data = .fields fs) : ObjOk P w H h a (KeptE cls a) :=
  ⟨⟨o, fs, e, z, d⟩, ⟨o, e⟩, fun _ _ p k => by
    obtain ⟨o1, f1, e1, r1⟩ := p
    exact ⟨o1, f1, k _ e1, r1⟩⟩
/-- an untracked error that came up during the call is tracked from here on -/
theorem adopt {o : Obj} {fs : Array Value} (I : Inv X pins σ H s) (e : s.heap.get? a = some o) (z : Zc cls none o) (d : o.data = .fields fs) (free : H a = none) (new : X.s_0.heap.get? a = none) (far : ∀ p, p ∈ X.pn ++ pins → p.1 ≠ a) (nl : X.env.locals ≠ a) :
    Inv X pins σ (upd H a (KeptE cls a)) s where
  ok := I.ok
  os := I.os
  bare := I.bare
  base := {
    keep := I.base.keep
    slot := I.base.slot
    there := I.base.there
    free := fun b u q n x => by
      rw [upd_ne (fun y => by rw [y, new] at q; cases q)]
      exact I.base.free b u q n x
    tups := fun b xs q => by
      have r := I.base.tups b xs q
      rw [upd_ne (ne_of_none r free)]
      exact r
    frzs := fun b u v q => by
      have r := I.base.frzs b u v q
      rw [upd_ne (ne_of_none r free)]
      exact r
    tbls := fun b ps q => by
      obtain ⟨more, r⟩ := I.base.tbls b ps q
      exact ⟨more, by rw [upd_ne (ne_of_none r free)]; exact r⟩ }
  loc := I.loc
  cell := I.cell
  free := by
    rw [upd_ne nl]
    exact I.free
  freeC := fun x c q => by
    obtain ⟨v, oc, h1, h2⟩ := I.cell x c q
    rw [upd_ne (fun y => by
      rw [y, e] at h1
      cases h1
      rw [d] at h2
      first | exact nomatch h2 | exact nomatch h2.2 | exact nomatch h2.1)]
    exact I.freeC x c q
  pin := fun p m => by
    obtain ⟨h1, h2, h3⟩ := I.pin p m
    exact ⟨h1, by rw [upd_ne (far p m)]; exact h2, h3⟩
  hok := HOk.laidN I.hok (fun _ _ q => q) free (kept_ok e z d)
  len := I.len
end
/-- the wish of «except x as n» for an error that x names: the suite, then the error stands tracked and n is gone -/
def wKept (K : PySem.W.Frag) (c : Value) (i : Nat) (ts : Addr → Value → Option Addr → TS) (D : Ends) : WX := fun cls d σ H =>
  PySem.W.exmOne K cls c = some true ∧ d = none ∧ ∀ a, H a = none → ts a cls d { nx := fun σ1 H1 => D.nx (σ1.set i none) (upd H1 a (KeptE cls a)), rt := fun _ _ => False, bk := fun _ _ => False, ct := fun _ _ => False } (σ.set i (some (.ref a))) H
section
variable {X : Cx} {x n : Str} {c : Value} {i : Nat} {body suite : List Stmt} {b0 : Stmt} {np pos pos' : Pos} {tb : WX → TS} {ts : Addr → Value → Option Addr → TS}
theorem ps_try_kept (hs : X.stack = X.env :: X.outer) (hf : X.env.frame = some X.env.locals) (hx : X.ex = []) (hN : X.N.Nodup) (hi : X.N[i]? = some n) (hln : X.env.kindOf n = some .local) (hc : Names X x c)
    (hb : ∀ (W : WX) (pn : List (Addr × Obj)) (xe : Value → Shared → Prop), Takes (X.tr pn xe) W → PassesOwn (model X.prog X.w) X.A X.env xe → PSs (X.tr pn xe) body (tb W))
    (hsu : ∀ (a : Addr) (o : Obj) (cls : Value) (d : Option Addr) (pn : List (Addr × Obj)), Zc cls d o → (∃ fs, o.data = .fields fs) → PSs (X.suite a ((a, o) :: pn)) (b0 :: suite) (ts a cls d)) :
    PS X (.Try body [.ExceptHandler (some (.Name x np)) (some n) (b0 :: suite) pos'] [] [] pos) (fun D σ H => tb (wKept X.K c i ts D) D σ H) := by
  constructor
  intro pins s σ H D I h
  have frames : X.A.frames = some (X.env :: X.outer) := I.ok.frames.trans (congrArg some hs)
  refine wpAny_Try_except ?_
  have run := (hb (wKept X.K c i ts D) (X.pn ++ pins) (fun e s1 => wpAny (model X.prog X.w) X.A (noteFrame e X.env) (fun _ s2 => wpAny (model X.prog X.w) X.A (setFlight e none) (fun _ s3 =>
    wpAny (model X.prog X.w) X.A (handleBy e X.env [.ExceptHandler (some (.Name x np)) (some n) (b0 :: suite) pos']) (SP X pins D) X.xe s3) X.xe s2) X.xe s1) ?taken PassesOwn.looking).run [] s σ H D (I.toTry _) h
  case taken =>
    rintro u s1 ⟨a, B, sI, pins1, σ1, H1, cls, d, rfl, J1, nb, up, sky, na, os, ag, caught, rfl, go⟩
    have J : Inv X pins σ1 H1 sI := J1.ofTry I.ok
    rw [show (X.tr (X.pn ++ pins) _).stack = X.env :: X.outer from hs] at sky
    show wpAny (model X.prog X.w) X.A (noteFrame (.ref a) X.env) _ _ _
    refine Sky.land Zc.steady frames hf sky fun hA flA upA => ?_
    have JA : Inv X pins σ1 H1 { s1 with heap := hA } := J.landed nb flA.1 (up.trans upA) os ag
    obtain ⟨oA, fA, eA, zA, dA⟩ := flA.there
    have off : a ∉ frs (X.env :: X.outer) := fun m => by
      obtain ⟨_, o2, e2, k2⟩ := flA.2.2.1.mem m
      rw [eA] at e2
      cases e2
      exact k2 _ dA
    have nl : a ≠ X.env.locals := fun q => off (List.mem_filterMap.mpr ⟨X.env, List.mem_cons_self, by rw [hf, q]⟩)
    have nfs : a ∉ X.fs := fun m => by
      obtain ⟨e, he, q⟩ := List.mem_filterMap.mp m
      exact off (List.mem_filterMap.mpr ⟨e, List.mem_cons_of_mem _ he, q⟩)
    have newI : sI.heap.get? a = none := by
      cases q : sI.heap.get? a with
      | none => rfl
      | some o =>
        have r := nb a o q (by rw [show (X.tr (X.pn ++ pins) _).stack = X.env :: X.outer from hs]; exact off)
        rw [flA.2.1] at r
        cases r
    have new0 : X.s_0.heap.get? a = none := by
      cases q : X.s_0.heap.get? a with
      | none => rfl
      | some o =>
        obtain ⟨o', r⟩ := J.base.there a o q (by rw [hx]; exact List.not_mem_nil)
        rw [newI] at r
        cases r
    have far : ∀ p, p ∈ X.pn ++ pins → p.1 ≠ a := fun p m q => by
      have r := (J.pin p m).1
      rw [q, newI] at r
      cases r
    have SA := JA.suite eA dA na nl nfs
    refine wpAny_handleBy_cons (codeAny_handlers_test ?_) (fun q => nomatch q)
    have LM := PySem.W.exm_one (M := model X.prog X.w) JA.kIn (fun A Q E s k q => wpAny_typeOf_ref (k _ _ eA) (by rw [zA.1]; exact q)) caught
    have look : ∀ {Q : Value → Shared → Prop} {E : Value → Shared → Prop}, Q c { s1 with heap := hA } → wpAny (model X.prog X.w) (X.A.mark (some (.ref a))) (eval (.Name x np) X.env) Q E { s1 with heap := hA } := fun {Q E} q => by
      obtain ⟨hg, hdb, h1 | ⟨h1, h2, h3⟩⟩ := hc
      · exact ld_glob (X := X.suite a ((a, oA) :: (X.pn ++ pins))) SA hg h1 q hdb
      · exact ld_blt (X := X.suite a ((a, oA) :: (X.pn ++ pins))) SA hg h1 h2 q h3 hdb
    refine look (LM.here (codeAny_handlers_suite_as ?_))
    refine HandSPX.lands_againZ flA fun hC flC upC => ?_
    have JC : Inv X pins σ1 H1 { s1 with heap := hC } := J.landed nb flC.1 ((up.trans upA).trans upC) os ag
    obtain ⟨oC, fC, eC, zC, dC⟩ := flC.there
    refine store_ok (X := X.suite a ((a, oC) :: (X.pn ++ pins))) (v := .ref a) (JC.suite eC dC na nl nfs) hN hi (.inl hln) rfl (fun s5 S5 => ?_) (.inr hln)
    refine wpAny_mono ((hsu a oC cls none (X.pn ++ pins) zC ⟨_, dC⟩).run [] s5 _ H1 _ S5 (go a na)) (fun f s6 q => ?_) (fun _ _ q => q.elim)
    cases f with
    | next =>
      obtain ⟨σ6, H6, S6, q6⟩ := q
      have held := S6.pin (a, oC) (List.mem_append_left _ List.mem_cons_self)
      exact gone_ok (adopt (S6.unsuite I.ok) held.1 zC dC held.2.1 new0 far (Ne.symm nl)) hN hi hln fun s7 J7 => ⟨_, _, J7, q6⟩
    | brk =>
      obtain ⟨_, _, _, q6⟩ := q
      exact q6.elim
    | cont =>
      obtain ⟨_, _, _, q6⟩ := q
      exact q6.elim
    | ret u =>
      obtain ⟨_, _, _, _, _, q6⟩ := q
      exact q6.elim
  refine wpAny_mono run (fun f s1 q => ?_) (fun _ _ q => q)
  cases f with
  | next =>
    obtain ⟨σ1, H1, J1, q1⟩ := q
    exact wpAny_execs_nil ⟨σ1, H1, J1.ofTry I.ok, q1⟩
  | brk =>
    obtain ⟨σ1, H1, J1, q1⟩ := q
    exact ⟨σ1, H1, J1.ofTry I.ok, q1⟩
  | cont =>
    obtain ⟨σ1, H1, J1, q1⟩ := q
    exact ⟨σ1, H1, J1.ofTry I.ok, q1⟩
  | ret u =>
    obtain ⟨v, σ1, H1, J1, r1, q1⟩ := q
    exact ⟨v, σ1, H1, J1.ofTry I.ok, r1, q1⟩
end
/-! ### isinstance of a kept error -/
def rKept (K : PySem.W.Frag) (C : Addr) : List V → Hp → VK → Prop := fun xs H Q => ∃ (a : Addr) (c : V) (u : Value) (b : Bool), xs = [.ref a, c] ∧ H a = some (KeptE (.ref C) a) ∧ ClsV c u ∧ PySem.W.kitOne K (.ref C) u = some b ∧ Q (.bl b) H
def rKeptT (K : PySem.W.Frag) (C : Addr) : List V → Hp → VK → Prop := fun xs H Q => ∃ (a tp : Addr) (cs : List V) (us : List Value) (b : Bool), xs = [.ref a, .ref tp] ∧ H a = some (KeptE (.ref C) a) ∧ H tp = some (.tup cs) ∧ Paired ClsV cs us ∧ PySem.W.kitAny K (.ref C) us = some b ∧ Q (.bl b) H
section
variable {X : Cx} {C : Addr}
theorem kept_at {P : Program} {w : World} {H : Hp} {h : Heap} {a : Addr} (x : ObjOk P w H h a (KeptE (.ref C) a)) : ∃ o, PySem.W.InstAt h a o C none := by
  obtain ⟨⟨o, fs, e, z, d⟩, _⟩ := x
  obtain ⟨oc, od, dt, sl⟩ := o
  obtain ⟨z1, z2⟩ := z
  dsimp only at z1 z2 d
  subst z1 z2 d
  exact ⟨_, e, rfl, rfl, trivial⟩
theorem call_isKept (E : ExcC X.K C) : CallR X (.builtin "isinstance") (rKept X.K C) := by
  rintro pins s σ H xs us Q I r ⟨a, c, u, b, rfl, ha, hc, e, q⟩
  obtain ⟨u1, u2, rfl, r1, r2⟩ := vals2 r
  cases hc.eq r2
  cases r1
  obtain ⟨o, J⟩ := kept_at (I.hok a _ ha)
  exact PySem.W.kia_one (PySem.W.handS_kitx_exc E.hg E.hk E.hs E.hd E.ha E.hn E.ht E.hm) I.kIn J e (fun z => nomatch z) fun tk => ⟨.bl b, H, I.tok tk, rfl, q⟩
theorem call_isKeptT (E : ExcC X.K C) : CallR X (.builtin "isinstance") (rKeptT X.K C) := by
  rintro pins s σ H xs us Q I r ⟨a, tp, cs, ws, b, rfl, ha, ht, hc, e, q⟩
  obtain ⟨u1, u2, rfl, r1, r2⟩ := vals2 r
  cases r1
  cases (show u2 = Value.ref tp from r2)
  obtain ⟨o, J⟩ := kept_at (I.hok a _ ha)
  obtain ⟨_, its, rv, ot, h1, h2, n, h3⟩ := (show ObjOk X.prog X.w H s.heap tp (.tup cs) from I.hok tp _ ht)
  cases ClsV.all hc rv
  obtain ⟨oc, od, dt, sl⟩ := ot
  dsimp only at h2 h3
  subst h2 h3
  exact PySem.W.kia_tup (PySem.W.handS_kitx_exc E.hg E.hk E.hs E.hd E.ha E.hn E.ht E.hm) I.kIn J h1 e (fun z => nomatch z) fun tk => ⟨.bl b, H, I.tok tk, rfl, q⟩
end
end Mr

set_option Elab.async false
set_option linter.all false
set_option maxRecDepth 100000
set_option maxHeartbeats 4000000
namespace Mr.k01
open PySem PySem.Spec PyProof.Rows L2 Mr
/-! ### the text by places, each def's mirror -/
def top (i : Nat) : Stmt := PySem.Challenge.pw_wishplace_k01_fractions.main.body.getD i (.Pass ⟨0, 0, 0, 0⟩)
section
variable {P : Program} {w : World} {K : PySem.W.Frag} {mg : Str → Option Value} {base : Heap} {k : Nat}
/-- the constants -/
structure Gs (K : PySem.W.Frag) (mg : Str → Option Value) : Prop where
  c_NOUGHT : Gc K mg "NOUGHT" (.tup [.int 0, .int 1])
  c_ONE : Gc K mg "ONE" (.tup [.int 1, .int 1])
  c_MINUS : Gc K mg "MINUS" (.tup [.int (-1), .int 1])
abbrev s_divisor_of : Stmt := top 12
abbrev n_divisor_of : List Str := ["one", "other"]
theorem sc_divisor_of : FnScope n_divisor_of ["one", "other"] (defScope s_divisor_of) := ⟨rfl, rfl, rfl, by decide +kernel, rfl, by decide +kernel, by decide +kernel⟩
def b_divisor_of : MSt :=
    (mSeq (mParS [0, 1] (msCons (mCB absF (mCons (mVar 0) mNil)) (msCons (mCB absF (mCons (mVar 1) mNil)) msNil)))
    (mSeq (mWh fuelN (mBinT gtD (mVar 1) (mC (.int 0))) (mParS [0, 1] (msCons (mV (mVar 1)) (msCons (mV (mBin modD (mVar 0) (mVar 1))) msNil))))
    (mRet (mMov 0))))
def o_divisor_of : Fn := mFn n_divisor_of.length 2 (b_divisor_of)
theorem k_divisor_of (T : Bt mg) (C : Gs K mg) (I : Is K mg "divisor_of" s_divisor_of ["one", "other"]) : Has P w K mg base "divisor_of" (k + 1) 2 (o_divisor_of) :=
  has_mk I sc_divisor_of rfl (by decide) fun f cdv A outer s H E hr => by exact (
      (xps_cons (xp_parS (i := 0) (j := 1) rfl sc_divisor_of.nd (by decide) (xas_cons (xs_abs T (xa_cons (xd_var 0) xa_nil)) (xas_cons (xs_abs T (xa_cons (xd_var 1) xa_nil)) xas_nil)))
      (xps_cons (xp_while fuelN PassesOwn.never (xt_gt (xd_var 1) xd_int) (xps_one (xp_parS (i := 0) (j := 1) rfl sc_divisor_of.nd (by decide) (xas_cons (xs_v (xd_var 1)) (xas_cons (xs_v (xd_mod (xd_var 0) (xd_var 1))) xas_nil)))))
      (xps_one (xp_ret (xs_mov 0))))))
abbrev s_pair_of : Stmt := top 13
abbrev n_pair_of : List Str := ["top", "bottom", "by"]
theorem sc_pair_of : FnScope n_pair_of ["top", "bottom"] (defScope s_pair_of) := ⟨rfl, rfl, rfl, by decide +kernel, rfl, by decide +kernel, by decide +kernel⟩
def b_pair_of (g_divisor_of : Fn) : MSt :=
    (mSeq (mAsg 2 (mIfS (mBinT gtD (mVar 1) (mC (.int 0))) (mCall 2 g_divisor_of (mbD (mVar 0) (mbD (mVar 1) mbNil))) (mV (mU negD (mFz (mCall 2 g_divisor_of (mbD (mVar 0) (mbD (mVar 1) mbNil))))))))
    (mRet (mV (mTup (mCons (mBin divD (mVar 0) (mVar 2)) (mCons (mBin divD (mVar 1) (mVar 2)) mNil))))))
def o_pair_of (g_divisor_of : Fn) : Fn := mFn n_pair_of.length 2 (b_pair_of g_divisor_of)
theorem k_pair_of (T : Bt mg) (C : Gs K mg) (I : Is K mg "pair_of" s_pair_of ["top", "bottom"]) {g_divisor_of : Fn} (h_divisor_of : Has P w K mg base "divisor_of" k 2 g_divisor_of) : Has P w K mg base "pair_of" (k + 1) 2 (o_pair_of g_divisor_of) :=
  has_mk I sc_pair_of rfl (by decide) fun f cdv A outer s H E hr => by exact (
      (xps_cons (xp_set (i := 2) sc_pair_of.nd (xs_if (xt_gt (xd_var 1) xd_int) (xs_callH h_divisor_of hr (xab_d (xd_var 0) (xab_d (xd_var 1) xab_nil))) (xs_v (xd_neg (xd_fz (xs_callH h_divisor_of hr (xab_d (xd_var 0) (xab_d (xd_var 1) xab_nil))))))))
      (xps_one (xp_ret (xs_v (xd_tup (xa_cons (xd_div (xd_var 0) (xd_var 2)) (xa_cons (xd_div (xd_var 1) (xd_var 2)) xa_nil))))))))
abbrev s_pair_plus : Stmt := top 14
abbrev n_pair_plus : List Str := ["one", "other"]
theorem sc_pair_plus : FnScope n_pair_plus ["one", "other"] (defScope s_pair_plus) := ⟨rfl, rfl, rfl, by decide +kernel, rfl, by decide +kernel, by decide +kernel⟩
def b_pair_plus (g_pair_of : Fn) : MSt :=
    (mRet (mCall 2 g_pair_of (mbD (mFz (mBinS addS (mFz (mBinS mulS (mIxN 0 (mC (.int 0))) (mIxN 1 (mC (.int 1))))) (mFz (mBinS mulS (mIxN 1 (mC (.int 0))) (mIxN 0 (mC (.int 1))))))) (mbD (mFz (mBinS mulS (mIxN 0 (mC (.int 1))) (mIxN 1 (mC (.int 1))))) mbNil))))
def o_pair_plus (g_pair_of : Fn) : Fn := mFn n_pair_plus.length 2 (b_pair_plus g_pair_of)
theorem k_pair_plus (T : Bt mg) (C : Gs K mg) (I : Is K mg "pair_plus" s_pair_plus ["one", "other"]) {g_pair_of : Fn} (h_pair_of : Has P w K mg base "pair_of" k 2 g_pair_of) : Has P w K mg base "pair_plus" (k + 1) 2 (o_pair_plus g_pair_of) :=
  has_mk I sc_pair_plus rfl (by decide) fun f cdv A outer s H E hr => by exact (
      (xps_one (xp_ret (xs_callH h_pair_of hr (xab_d (xd_fz (xs_add (xd_fz (xs_mul (xd_ixN 0 hr xd_int) (xd_ixN 1 hr xd_int))) (xd_fz (xs_mul (xd_ixN 1 hr xd_int) (xd_ixN 0 hr xd_int))))) (xab_d (xd_fz (xs_mul (xd_ixN 0 hr xd_int) (xd_ixN 1 hr xd_int))) xab_nil))))))
abbrev s_pair_times : Stmt := top 15
abbrev n_pair_times : List Str := ["one", "other"]
theorem sc_pair_times : FnScope n_pair_times ["one", "other"] (defScope s_pair_times) := ⟨rfl, rfl, rfl, by decide +kernel, rfl, by decide +kernel, by decide +kernel⟩
def b_pair_times (g_pair_of : Fn) : MSt :=
    (mRet (mCall 2 g_pair_of (mbD (mFz (mBinS mulS (mIxN 0 (mC (.int 0))) (mIxN 1 (mC (.int 0))))) (mbD (mFz (mBinS mulS (mIxN 0 (mC (.int 1))) (mIxN 1 (mC (.int 1))))) mbNil))))
def o_pair_times (g_pair_of : Fn) : Fn := mFn n_pair_times.length 2 (b_pair_times g_pair_of)
theorem k_pair_times (T : Bt mg) (C : Gs K mg) (I : Is K mg "pair_times" s_pair_times ["one", "other"]) {g_pair_of : Fn} (h_pair_of : Has P w K mg base "pair_of" k 2 g_pair_of) : Has P w K mg base "pair_times" (k + 1) 2 (o_pair_times g_pair_of) :=
  has_mk I sc_pair_times rfl (by decide) fun f cdv A outer s H E hr => by exact (
      (xps_one (xp_ret (xs_callH h_pair_of hr (xab_d (xd_fz (xs_mul (xd_ixN 0 hr xd_int) (xd_ixN 1 hr xd_int))) (xab_d (xd_fz (xs_mul (xd_ixN 0 hr xd_int) (xd_ixN 1 hr xd_int))) xab_nil))))))
abbrev s_whole_root : Stmt := top 16
abbrev n_whole_root : List Str := ["number", "found", "better"]
theorem sc_whole_root : FnScope n_whole_root ["number"] (defScope s_whole_root) := ⟨rfl, rfl, rfl, by decide +kernel, rfl, by decide +kernel, by decide +kernel⟩
def b_whole_root : MSt :=
    (mSeq (mIf (mBinT ltD (mVar 0) (mC (.int 2))) (mRet (mMov 0)) mSkip)
    (mSeq (mAsg 1 (mV (mC (.int 2))))
    (mSeq (mWh fuelN (mBinT ltD (mFz (mBinS mulS (mVar 1) (mVar 1))) (mVar 0)) (mAsg 1 (mBinS mulS (mVar 1) (mC (.int 2)))))
    (mSeq (mAsg 2 (mV (mBin divD (mFz (mBinS addS (mVar 1) (mBin divD (mVar 0) (mVar 1)))) (mC (.int 2)))))
    (mSeq (mWh fuelN (mBinT ltD (mVar 2) (mVar 1)) (mSeq (mAsg 1 (mV (mVar 2)))
    (mAsg 2 (mV (mBin divD (mFz (mBinS addS (mVar 1) (mBin divD (mVar 0) (mVar 1)))) (mC (.int 2)))))))
    (mRet (mMov 1)))))))
def o_whole_root : Fn := mFn n_whole_root.length 1 (b_whole_root)
theorem k_whole_root (T : Bt mg) (C : Gs K mg) (I : Is K mg "whole_root" s_whole_root ["number"]) : Has P w K mg base "whole_root" (k + 1) 1 (o_whole_root) :=
  has_mk I sc_whole_root rfl (by decide) fun f cdv A outer s H E hr => by exact (
      (xps_cons (xp_if (xt_lt (xd_var 0) xd_int) (xps_one (xp_ret (xs_mov 0))) xps_nil)
      (xps_cons (xp_set (i := 1) sc_whole_root.nd (xs_v xd_int))
      (xps_cons (xp_while fuelN PassesOwn.never (xt_lt (xd_fz (xs_mul (xd_var 1) (xd_var 1))) (xd_var 0)) (xps_one (xp_set (i := 1) sc_whole_root.nd (xs_mul (xd_var 1) xd_int))))
      (xps_cons (xp_set (i := 2) sc_whole_root.nd (xs_v (xd_div (xd_fz (xs_add (xd_var 1) (xd_div (xd_var 0) (xd_var 1)))) xd_int)))
      (xps_cons (xp_while fuelN PassesOwn.never (xt_lt (xd_var 2) (xd_var 1)) (xps_cons (xp_set (i := 1) sc_whole_root.nd (xs_v (xd_var 2)))
      (xps_one (xp_set (i := 2) sc_whole_root.nd (xs_v (xd_div (xd_fz (xs_add (xd_var 1) (xd_div (xd_var 0) (xd_var 1)))) xd_int))))))
      (xps_one (xp_ret (xs_mov 1)))))))))
abbrev s_square_out : Stmt := top 17
abbrev n_square_out : List Str := ["number", "out", "rest", "factor", "whole"]
theorem sc_square_out : FnScope n_square_out ["number"] (defScope s_square_out) := ⟨rfl, rfl, rfl, by decide +kernel, rfl, by decide +kernel, by decide +kernel⟩
def b_square_out (g_whole_root : Fn) : MSt :=
    (mSeq (mParS [1, 2] (msCons (mV (mC (.int 1))) (msCons (mV (mVar 0)) msNil)))
    (mSeq (mFor (mIA (mTup (mCons (mC (.int 2)) (mCons (mC (.int 3)) (mCons (mC (.int 5)) (mCons (mC (.int 7)) (mCons (mC (.int 11)) (mCons (mC (.int 13)) (mCons (mC (.int 17)) (mCons (mC (.int 19)) (mCons (mC (.int 23)) (mCons (mC (.int 29)) (mCons (mC (.int 31)) (mCons (mC (.int 37)) (mCons (mC (.int 41)) (mCons (mC (.int 43)) (mCons (mC (.int 47)) (mCons (mC (.int 53)) (mCons (mC (.int 59)) (mCons (mC (.int 61)) (mCons (mC (.int 67)) (mCons (mC (.int 71)) (mCons (mC (.int 73)) (mCons (mC (.int 79)) (mCons (mC (.int 83)) (mCons (mC (.int 89)) (mCons (mC (.int 97)) mNil))))))))))))))))))))))))))) (mgN 3) (mWh fuelN (mKT eqX (.ex (mBin modD (mVar 2) (mFz (mBinS mulS (mVar 3) (mVar 3))))) (.ex (mC (.int 0)))) (mParS [1, 2] (msCons (mBinS mulS (mVar 1) (mVar 3)) (msCons (mV (mBin divD (mVar 2) (mFz (mBinS mulS (mVar 3) (mVar 3))))) msNil)))))
    (mSeq (mAsg 4 (mCall 1 g_whole_root (mbD (mVar 2) mbNil)))
    (mSeq (mIf (mKT eqX (.ex (mFz (mBinS mulS (mVar 4) (mVar 4)))) (.nm 2)) (mRet (mV (mTup (mCons (mFz (mBinS mulS (mVar 1) (mVar 4))) (mCons (mC (.int 1)) mNil))))) mSkip)
    (mRet (mV (mTup (mCons (mVar 1) (mCons (mVar 2) mNil)))))))))
def o_square_out (g_whole_root : Fn) : Fn := mFn n_square_out.length 1 (b_square_out g_whole_root)
theorem k_square_out (T : Bt mg) (C : Gs K mg) (I : Is K mg "square_out" s_square_out ["number"]) {g_whole_root : Fn} (h_whole_root : Has P w K mg base "whole_root" k 1 g_whole_root) : Has P w K mg base "square_out" (k + 1) 1 (o_square_out g_whole_root) :=
  has_mk I sc_square_out rfl (by decide) fun f cdv A outer s H E hr => by exact (
      (xps_cons (xp_parS (i := 1) (j := 2) rfl sc_square_out.nd (by decide) (xas_cons (xs_v xd_int) (xas_cons (xs_v (xd_var 0)) xas_nil)))
      (xps_cons (xp_for PassesOwn.never rfl (xi_any (xd_tup (xa_cons xd_int (xa_cons xd_int (xa_cons xd_int (xa_cons xd_int (xa_cons xd_int (xa_cons xd_int (xa_cons xd_int (xa_cons xd_int (xa_cons xd_int (xa_cons xd_int (xa_cons xd_int (xa_cons xd_int (xa_cons xd_int (xa_cons xd_int (xa_cons xd_int (xa_cons xd_int (xa_cons xd_int (xa_cons xd_int (xa_cons xd_int (xa_cons xd_int (xa_cons xd_int (xa_cons xd_int (xa_cons xd_int (xa_cons xd_int (xa_cons xd_int xa_nil))))))))))))))))))))))))))) (xg_name 3 sc_square_out.nd) (xps_one (xp_while fuelN PassesOwn.never (xt_eqX hr (xk_ex (xd_mod (xd_var 2) (xd_fz (xs_mul (xd_var 3) (xd_var 3))))) (xk_ex xd_int)) (xps_one (xp_parS (i := 1) (j := 2) rfl sc_square_out.nd (by decide) (xas_cons (xs_mul (xd_var 1) (xd_var 3)) (xas_cons (xs_v (xd_div (xd_var 2) (xd_fz (xs_mul (xd_var 3) (xd_var 3))))) xas_nil)))))))
      (xps_cons (xp_set (i := 4) sc_square_out.nd (xs_callH h_whole_root hr (xab_d (xd_var 2) xab_nil)))
      (xps_cons (xp_if (xt_eqX hr (xk_ex (xd_fz (xs_mul (xd_var 4) (xd_var 4)))) (xk_nm 2)) (xps_one (xp_ret (xs_v (xd_tup (xa_cons (xd_fz (xs_mul (xd_var 1) (xd_var 4))) (xa_cons xd_int xa_nil)))))) xps_nil)
      (xps_one (xp_ret (xs_v (xd_tup (xa_cons (xd_var 1) (xa_cons (xd_var 2) xa_nil)))))))))))
abbrev s_depth_of : Stmt := top 22
abbrev n_depth_of : List Str := ["number"]
theorem sc_depth_of : FnScope n_depth_of ["number"] (defScope s_depth_of) := ⟨rfl, rfl, rfl, by decide +kernel, rfl, by decide +kernel, by decide +kernel⟩
def b_depth_of (g_depth_of : Fn) : MSt :=
    (mSeq (mIf (mKT eqX (.ex (mLenN 0)) (.ex (mC (.int 2)))) (mRet (mV (mC (.int 0)))) mSkip)
    (mRet (mCB max3F (mCons (mFz (mCall 1 g_depth_of (mbD (mIxN 0 (mC (.int 0))) mbNil))) (mCons (mFz (mCall 1 g_depth_of (mbD (mIxN 0 (mC (.int 1))) mbNil))) (mCons (mFz (mBinS addS (mC (.int 1)) (mFz (mCall 1 g_depth_of (mbD (mIxN 0 (mC (.int 2))) mbNil))))) mNil))))))
def o_depth_of (g_depth_of : Fn) : Fn := mFn n_depth_of.length 1 (b_depth_of g_depth_of)
theorem k_depth_of (T : Bt mg) (C : Gs K mg) (I : Is K mg "depth_of" s_depth_of ["number"]) {g_depth_of : Fn} (h_depth_of : Has P w K mg base "depth_of" k 1 g_depth_of) : Has P w K mg base "depth_of" (k + 1) 1 (o_depth_of g_depth_of) :=
  has_mk I sc_depth_of rfl (by decide) fun f cdv A outer s H E hr => by exact (
      (xps_cons (xp_if (xt_eqX hr (xk_ex (xd_lenN 0 T.len)) (xk_ex xd_int)) (xps_one (xp_ret (xs_v xd_int))) xps_nil)
      (xps_one (xp_ret (xs_max3 T rfl (xa_cons (xd_fz (xs_callH h_depth_of hr (xab_d (xd_ixN 0 hr xd_int) xab_nil))) (xa_cons (xd_fz (xs_callH h_depth_of hr (xab_d (xd_ixN 0 hr xd_int) xab_nil))) (xa_cons (xd_fz (xs_add xd_int (xd_fz (xs_callH h_depth_of hr (xab_d (xd_ixN 0 hr xd_int) xab_nil))))) xa_nil))))))))
abbrev s_written : Stmt := top 23
abbrev n_written : List Str := ["number"]
theorem sc_written : FnScope n_written ["number"] (defScope s_written) := ⟨rfl, rfl, rfl, by decide +kernel, rfl, by decide +kernel, by decide +kernel⟩
def b_written (g_written : Fn) : MSt :=
    (mSeq (mIf (mKT eqX (.ex (mLenN 0)) (.ex (mC (.int 2)))) (mRet (mLst (mCons (mC (.int 0)) (mCons (mIxN 0 (mC (.int 0))) (mCons (mIxN 0 (mC (.int 1))) mNil))))) mSkip)
    (mRet (mBinS addS (mFz (mBinS addS (mFz (mBinS addS (mFz (mLst (mCons (mC (.int 1)) mNil))) (mFz (mCall 1 g_written (mbD (mIxN 0 (mC (.int 0))) mbNil))))) (mFz (mCall 1 g_written (mbD (mIxN 0 (mC (.int 1))) mbNil))))) (mFz (mCall 1 g_written (mbD (mIxN 0 (mC (.int 2))) mbNil))))))
def o_written (g_written : Fn) : Fn := mFn n_written.length 1 (b_written g_written)
theorem k_written (T : Bt mg) (C : Gs K mg) (I : Is K mg "written" s_written ["number"]) {g_written : Fn} (h_written : Has P w K mg base "written" k 1 g_written) : Has P w K mg base "written" (k + 1) 1 (o_written g_written) :=
  has_mk I sc_written rfl (by decide) fun f cdv A outer s H E hr => by exact (
      (xps_cons (xp_if (xt_eqX hr (xk_ex (xd_lenN 0 T.len)) (xk_ex xd_int)) (xps_one (xp_ret (xs_lst (xa_cons xd_int (xa_cons (xd_ixN 0 hr xd_int) (xa_cons (xd_ixN 0 hr xd_int) xa_nil)))))) xps_nil)
      (xps_one (xp_ret (xs_add (xd_fz (xs_add (xd_fz (xs_add (xd_fz (xs_lst (xa_cons xd_int xa_nil))) (xd_fz (xs_callH h_written hr (xab_d (xd_ixN 0 hr xd_int) xab_nil))))) (xd_fz (xs_callH h_written hr (xab_d (xd_ixN 0 hr xd_int) xab_nil))))) (xd_fz (xs_callH h_written hr (xab_d (xd_ixN 0 hr xd_int) xab_nil))))))))
abbrev s_rank_of : Stmt := top 24
abbrev n_rank_of : List Str := ["under"]
theorem sc_rank_of : FnScope n_rank_of ["under"] (defScope s_rank_of) := ⟨rfl, rfl, rfl, by decide +kernel, rfl, by decide +kernel, by decide +kernel⟩
def b_rank_of (g_depth_of : Fn) (g_written : Fn) : MSt :=
    (mRet (mV (mTup (mCons (mFz (mCall 1 g_depth_of (mbD (mVar 0) mbNil))) (mCons (mFz (mCall 1 g_written (mbD (mVar 0) mbNil))) mNil)))))
def o_rank_of (g_depth_of : Fn) (g_written : Fn) : Fn := mFn n_rank_of.length 1 (b_rank_of g_depth_of g_written)
theorem k_rank_of (T : Bt mg) (C : Gs K mg) (I : Is K mg "rank_of" s_rank_of ["under"]) {g_depth_of : Fn} (h_depth_of : Has P w K mg base "depth_of" k 1 g_depth_of) {g_written : Fn} (h_written : Has P w K mg base "written" k 1 g_written) : Has P w K mg base "rank_of" (k + 1) 1 (o_rank_of g_depth_of g_written) :=
  has_mk I sc_rank_of rfl (by decide) fun f cdv A outer s H E hr => by exact (
      (xps_one (xp_ret (xs_v (xd_tup (xa_cons (xd_fz (xs_callH h_depth_of hr (xab_d (xd_var 0) xab_nil))) (xa_cons (xd_fz (xs_callH h_written hr (xab_d (xd_var 0) xab_nil))) xa_nil)))))))
abbrev s_outermost : Stmt := top 25
abbrev n_outermost : List Str := ["one", "other", "unders", "number"]
theorem sc_outermost : FnScope n_outermost ["one", "other"] (defScope s_outermost) := ⟨rfl, rfl, rfl, by decide +kernel, rfl, by decide +kernel, by decide +kernel⟩
def b_outermost (g_rank_of : Fn) : MSt :=
    (mSeq (mAsg 2 (mLc (mIA (mTup (mCons (mVar 0) (mCons (mVar 1) mNil)))) [3] (mgN 3) (mKT eqX (.ex (mLenN 3)) (.ex (mC (.int 3)))) (mIxN 3 (mC (.int 2)))))
    (mSeq (mIf (mAndT (mKT eqX (.ex (mLenN 2)) (.ex (mC (.int 2)))) (mBinT ltD (mFz (mCall 1 g_rank_of (mbD (mIxN 2 (mC (.int 0))) mbNil))) (mFz (mCall 1 g_rank_of (mbD (mIxN 2 (mC (.int 1))) mbNil))))) (mRet (mV (mIxN 2 (mC (.int 1))))) mSkip)
    (mRet (mIfS (mBinT gtD (mLenN 2) (mC (.int 0))) (mV (mIxN 2 (mC (.int 0)))) (mV (mC .non))))))
def o_outermost (g_rank_of : Fn) : Fn := mFn n_outermost.length 2 (b_outermost g_rank_of)
theorem k_outermost (T : Bt mg) (C : Gs K mg) (I : Is K mg "outermost" s_outermost ["one", "other"]) {g_rank_of : Fn} (h_rank_of : Has P w K mg base "rank_of" k 1 g_rank_of) : Has P w K mg base "outermost" (k + 1) 2 (o_outermost g_rank_of) :=
  has_mk I sc_outermost rfl (by decide) fun f cdv A outer s H E hr => by exact (
      (xps_cons (xp_setLc (i := 2) (own := [("number", 3)]) rfl sc_outermost.nd (xi_any (xd_tup (xa_cons (xd_var 0) (xa_cons (xd_var 1) xa_nil)))) (blkOk_by (own := [("number", 3)]) (N := n_outermost) (sc := defScope s_outermost) (by decide +kernel)) (fun _ _ _ _ _ => (xg_name 3 sc_outermost.nd)) (fun _ _ _ _ _ => (xts_one (xt_eqX hr (xk_ex (xd_lenN 3 T.len)) (xk_ex xd_int)))) (fun _ _ _ _ _ => (xd_ixN 3 hr xd_int)) (sw_true rfl rfl rfl (by decide +kernel)))
      (xps_cons (xp_if ((xw_and (xt_eqX hr (xk_ex (xd_lenN 2 T.len)) (xk_ex xd_int)) (xw_and1 (xt_lt (xd_fz (xs_callH h_rank_of hr (xab_d (xd_ixN 2 hr xd_int) xab_nil))) (xd_fz (xs_callH h_rank_of hr (xab_d (xd_ixN 2 hr xd_int) xab_nil))))))).xt (xps_one (xp_ret (xs_v (xd_ixN 2 hr xd_int)))) xps_nil)
      (xps_one (xp_ret (xs_if (xt_gt (xd_lenN 2 T.len) xd_int) (xs_v (xd_ixN 2 hr xd_int)) (xs_v xd_non)))))))
abbrev s_split : Stmt := top 26
abbrev n_split : List Str := ["number", "under"]
theorem sc_split : FnScope n_split ["number", "under"] (defScope s_split) := ⟨rfl, rfl, rfl, by decide +kernel, rfl, by decide +kernel, by decide +kernel⟩
def b_split : MSt :=
    (mSeq (mIf (mAndT (mKT eqX (.ex (mLenN 0)) (.ex (mC (.int 3)))) (mKT eqX (.ex (mIxN 0 (mC (.int 2)))) (.nm 1))) (mRet (mV (mTup (mCons (mIxN 0 (mC (.int 0))) (mCons (mIxN 0 (mC (.int 1))) mNil))))) mSkip)
    (mRet (mV (mTup (mCons (mVar 0) (mCons (mC (.tup [.int 0, .int 1])) mNil))))))
def o_split : Fn := mFn n_split.length 2 (b_split)
theorem k_split (T : Bt mg) (C : Gs K mg) (I : Is K mg "split" s_split ["number", "under"]) : Has P w K mg base "split" (k + 1) 2 (o_split) :=
  has_mk I sc_split rfl (by decide) fun f cdv A outer s H E hr => by exact (
      (xps_cons (xp_if ((xw_and (xt_eqX hr (xk_ex (xd_lenN 0 T.len)) (xk_ex xd_int)) (xw_and1 (xt_eqX hr (xk_ex (xd_ixN 0 hr xd_int)) (xk_nm 1))))).xt (xps_one (xp_ret (xs_v (xd_tup (xa_cons (xd_ixN 0 hr xd_int) (xa_cons (xd_ixN 0 hr xd_int) xa_nil)))))) xps_nil)
      (xps_one (xp_ret (xs_v (xd_tup (xa_cons (xd_var 0) (xa_cons (xd_glob C.c_NOUGHT) xa_nil))))))))
abbrev s_joined : Stmt := top 27
abbrev n_joined : List Str := ["one", "other", "under"]
theorem sc_joined : FnScope n_joined ["one", "other", "under"] (defScope s_joined) := ⟨rfl, rfl, rfl, by decide +kernel, rfl, by decide +kernel, by decide +kernel⟩
def b_joined (g_nest_sign : Fn) : MSt :=
    (mSeq (mIf (mOrT (mKT eqX (.nm 1) (.ex (mC (.tup [.int 0, .int 1])))) (mAndT (mKT eqX (.ex (mLenN 1)) (.ex (mC (.int 3)))) (mKT eqX (.ex (mFz (mCall 1 g_nest_sign (mbD (mVar 1) mbNil)))) (.ex (mC (.int 0)))))) (mRet (mMov 0)) mSkip)
    (mRet (mV (mTup (mCons (mVar 0) (mCons (mVar 1) (mCons (mVar 2) mNil)))))))
def o_joined (g_nest_sign : Fn) : Fn := mFn n_joined.length 3 (b_joined g_nest_sign)
theorem k_joined (T : Bt mg) (C : Gs K mg) (I : Is K mg "joined" s_joined ["one", "other", "under"]) {g_nest_sign : Fn} (h_nest_sign : Has P w K mg base "nest_sign" k 1 g_nest_sign) : Has P w K mg base "joined" (k + 1) 3 (o_joined g_nest_sign) :=
  has_mk I sc_joined rfl (by decide) fun f cdv A outer s H E hr => by exact (
      (xps_cons (xp_if ((xw_or (xt_eqX hr (xk_nm 1) (xk_ex (xd_glob C.c_NOUGHT))) (xw_or1 ((xw_and (xt_eqX hr (xk_ex (xd_lenN 1 T.len)) (xk_ex xd_int)) (xw_and1 (xt_eqX hr (xk_ex (xd_fz (xs_callH h_nest_sign hr (xab_d (xd_var 1) xab_nil)))) (xk_ex xd_int))))).xt))).xt (xps_one (xp_ret (xs_mov 0))) xps_nil)
      (xps_one (xp_ret (xs_v (xd_tup (xa_cons (xd_var 0) (xa_cons (xd_var 1) (xa_cons (xd_var 2) xa_nil)))))))))
abbrev s_nest_plus : Stmt := top 28
abbrev n_nest_plus : List Str := ["one", "other", "under", "a", "b", "c", "d"]
theorem sc_nest_plus : FnScope n_nest_plus ["one", "other"] (defScope s_nest_plus) := ⟨rfl, rfl, rfl, by decide +kernel, rfl, by decide +kernel, by decide +kernel⟩
def b_nest_plus (g_outermost : Fn) (g_split : Fn) (g_joined : Fn) (g_pair_plus : Fn) (g_nest_plus : Fn) : MSt :=
    (mSeq (mAsg 2 (mCall 2 g_outermost (mbD (mVar 0) (mbD (mVar 1) mbNil))))
    (mSeq (mIf (mBinT isD (mVar 2) (mC .non)) (mRet (mCall 2 g_pair_plus (mbD (mVar 0) (mbD (mVar 1) mbNil)))) mSkip)
    (mSeq (mAsgG (mgU 2 (mgs1 (mgN 3) (mgs1 (mgN 4) mgs0))) (mFz (mCall 2 g_split (mbD (mVar 0) (mbD (mVar 2) mbNil)))))
    (mSeq (mAsgG (mgU 2 (mgs1 (mgN 5) (mgs1 (mgN 6) mgs0))) (mFz (mCall 2 g_split (mbD (mVar 1) (mbD (mVar 2) mbNil)))))
    (mRet (mCall 3 g_joined (mbD (mFz (mCall 2 g_nest_plus (mbD (mVar 3) (mbD (mVar 5) mbNil)))) (mbD (mFz (mCall 2 g_nest_plus (mbD (mVar 4) (mbD (mVar 6) mbNil)))) (mbD (mVar 2) mbNil)))))))))
def o_nest_plus (g_outermost : Fn) (g_split : Fn) (g_joined : Fn) (g_pair_plus : Fn) (g_nest_plus : Fn) : Fn := mFn n_nest_plus.length 2 (b_nest_plus g_outermost g_split g_joined g_pair_plus g_nest_plus)
theorem k_nest_plus (T : Bt mg) (C : Gs K mg) (I : Is K mg "nest_plus" s_nest_plus ["one", "other"]) {g_outermost : Fn} (h_outermost : Has P w K mg base "outermost" k 2 g_outermost) {g_split : Fn} (h_split : Has P w K mg base "split" k 2 g_split) {g_joined : Fn} (h_joined : Has P w K mg base "joined" k 3 g_joined) {g_pair_plus : Fn} (h_pair_plus : Has P w K mg base "pair_plus" k 2 g_pair_plus) {g_nest_plus : Fn} (h_nest_plus : Has P w K mg base "nest_plus" k 2 g_nest_plus) : Has P w K mg base "nest_plus" (k + 1) 2 (o_nest_plus g_outermost g_split g_joined g_pair_plus g_nest_plus) :=
  has_mk I sc_nest_plus rfl (by decide) fun f cdv A outer s H E hr => by exact (
      (xps_cons (xp_set (i := 2) sc_nest_plus.nd (xs_callH h_outermost hr (xab_d (xd_var 0) (xab_d (xd_var 1) xab_nil))))
      (xps_cons (xp_if (xt_is (xd_var 2) xd_non) (xps_one (xp_ret (xs_callH h_pair_plus hr (xab_d (xd_var 0) (xab_d (xd_var 1) xab_nil))))) xps_nil)
      (xps_cons (xp_asg (xd_fz (xs_callH h_split hr (xab_d (xd_var 0) (xab_d (xd_var 2) xab_nil)))) (xg_unp (n := 2) rfl (xgs_cons (xg_name 3 sc_nest_plus.nd) (xgs_cons (xg_name 4 sc_nest_plus.nd) xgs_nil))))
      (xps_cons (xp_asg (xd_fz (xs_callH h_split hr (xab_d (xd_var 1) (xab_d (xd_var 2) xab_nil)))) (xg_unp (n := 2) rfl (xgs_cons (xg_name 5 sc_nest_plus.nd) (xgs_cons (xg_name 6 sc_nest_plus.nd) xgs_nil))))
      (xps_one (xp_ret (xs_callH h_joined hr (xab_d (xd_fz (xs_callH h_nest_plus hr (xab_d (xd_var 3) (xab_d (xd_var 5) xab_nil)))) (xab_d (xd_fz (xs_callH h_nest_plus hr (xab_d (xd_var 4) (xab_d (xd_var 6) xab_nil)))) (xab_d (xd_var 2) xab_nil)))))))))))
abbrev s_nest_times : Stmt := top 29
abbrev n_nest_times : List Str := ["one", "other", "under", "a", "b", "c", "d", "plain"]
theorem sc_nest_times : FnScope n_nest_times ["one", "other"] (defScope s_nest_times) := ⟨rfl, rfl, rfl, by decide +kernel, rfl, by decide +kernel, by decide +kernel⟩
def b_nest_times (g_outermost : Fn) (g_split : Fn) (g_nest_plus : Fn) (g_joined : Fn) (g_pair_times : Fn) (g_nest_times : Fn) : MSt :=
    (mSeq (mAsg 2 (mCall 2 g_outermost (mbD (mVar 0) (mbD (mVar 1) mbNil))))
    (mSeq (mIf (mBinT isD (mVar 2) (mC .non)) (mRet (mCall 2 g_pair_times (mbD (mVar 0) (mbD (mVar 1) mbNil)))) mSkip)
    (mSeq (mIf (mKT (inX false) (.ex (mC (.tup [.int 0, .int 1]))) (.ex (mTup (mCons (mVar 0) (mCons (mVar 1) mNil))))) (mRet (mV (mC (.tup [.int 0, .int 1])))) mSkip)
    (mSeq (mAsgG (mgU 2 (mgs1 (mgN 3) (mgs1 (mgN 4) mgs0))) (mFz (mCall 2 g_split (mbD (mVar 0) (mbD (mVar 2) mbNil)))))
    (mSeq (mAsgG (mgU 2 (mgs1 (mgN 5) (mgs1 (mgN 6) mgs0))) (mFz (mCall 2 g_split (mbD (mVar 1) (mbD (mVar 2) mbNil)))))
    (mSeq (mAsg 7 (mCall 2 g_nest_plus (mbD (mFz (mCall 2 g_nest_times (mbD (mVar 3) (mbD (mVar 5) mbNil)))) (mbD (mFz (mCall 2 g_nest_times (mbD (mFz (mCall 2 g_nest_times (mbD (mVar 4) (mbD (mVar 6) mbNil)))) (mbD (mVar 2) mbNil)))) mbNil))))
    (mRet (mCall 3 g_joined (mbD (mVar 7) (mbD (mFz (mCall 2 g_nest_plus (mbD (mFz (mCall 2 g_nest_times (mbD (mVar 3) (mbD (mVar 6) mbNil)))) (mbD (mFz (mCall 2 g_nest_times (mbD (mVar 4) (mbD (mVar 5) mbNil)))) mbNil)))) (mbD (mVar 2) mbNil)))))))))))
def o_nest_times (g_outermost : Fn) (g_split : Fn) (g_nest_plus : Fn) (g_joined : Fn) (g_pair_times : Fn) (g_nest_times : Fn) : Fn := mFn n_nest_times.length 2 (b_nest_times g_outermost g_split g_nest_plus g_joined g_pair_times g_nest_times)
theorem k_nest_times (T : Bt mg) (C : Gs K mg) (I : Is K mg "nest_times" s_nest_times ["one", "other"]) {g_outermost : Fn} (h_outermost : Has P w K mg base "outermost" k 2 g_outermost) {g_split : Fn} (h_split : Has P w K mg base "split" k 2 g_split) {g_nest_plus : Fn} (h_nest_plus : Has P w K mg base "nest_plus" k 2 g_nest_plus) {g_joined : Fn} (h_joined : Has P w K mg base "joined" k 3 g_joined) {g_pair_times : Fn} (h_pair_times : Has P w K mg base "pair_times" k 2 g_pair_times) {g_nest_times : Fn} (h_nest_times : Has P w K mg base "nest_times" k 2 g_nest_times) : Has P w K mg base "nest_times" (k + 1) 2 (o_nest_times g_outermost g_split g_nest_plus g_joined g_pair_times g_nest_times) :=
  has_mk I sc_nest_times rfl (by decide) fun f cdv A outer s H E hr => by exact (
      (xps_cons (xp_set (i := 2) sc_nest_times.nd (xs_callH h_outermost hr (xab_d (xd_var 0) (xab_d (xd_var 1) xab_nil))))
      (xps_cons (xp_if (xt_is (xd_var 2) xd_non) (xps_one (xp_ret (xs_callH h_pair_times hr (xab_d (xd_var 0) (xab_d (xd_var 1) xab_nil))))) xps_nil)
      (xps_cons (xp_if (xt_inX hr (xk_ex (xd_glob C.c_NOUGHT)) (xk_ex (xd_tup (xa_cons (xd_var 0) (xa_cons (xd_var 1) xa_nil))))) (xps_one (xp_ret (xs_v (xd_glob C.c_NOUGHT)))) xps_nil)
      (xps_cons (xp_asg (xd_fz (xs_callH h_split hr (xab_d (xd_var 0) (xab_d (xd_var 2) xab_nil)))) (xg_unp (n := 2) rfl (xgs_cons (xg_name 3 sc_nest_times.nd) (xgs_cons (xg_name 4 sc_nest_times.nd) xgs_nil))))
      (xps_cons (xp_asg (xd_fz (xs_callH h_split hr (xab_d (xd_var 1) (xab_d (xd_var 2) xab_nil)))) (xg_unp (n := 2) rfl (xgs_cons (xg_name 5 sc_nest_times.nd) (xgs_cons (xg_name 6 sc_nest_times.nd) xgs_nil))))
      (xps_cons (xp_set (i := 7) sc_nest_times.nd (xs_callH h_nest_plus hr (xab_d (xd_fz (xs_callH h_nest_times hr (xab_d (xd_var 3) (xab_d (xd_var 5) xab_nil)))) (xab_d (xd_fz (xs_callH h_nest_times hr (xab_d (xd_fz (xs_callH h_nest_times hr (xab_d (xd_var 4) (xab_d (xd_var 6) xab_nil)))) (xab_d (xd_var 2) xab_nil)))) xab_nil))))
      (xps_one (xp_ret (xs_callH h_joined hr (xab_d (xd_var 7) (xab_d (xd_fz (xs_callH h_nest_plus hr (xab_d (xd_fz (xs_callH h_nest_times hr (xab_d (xd_var 3) (xab_d (xd_var 6) xab_nil)))) (xab_d (xd_fz (xs_callH h_nest_times hr (xab_d (xd_var 4) (xab_d (xd_var 5) xab_nil)))) xab_nil)))) (xab_d (xd_var 2) xab_nil)))))))))))))
abbrev s_nest_minus : Stmt := top 30
abbrev n_nest_minus : List Str := ["one", "other"]
theorem sc_nest_minus : FnScope n_nest_minus ["one", "other"] (defScope s_nest_minus) := ⟨rfl, rfl, rfl, by decide +kernel, rfl, by decide +kernel, by decide +kernel⟩
def b_nest_minus (g_nest_plus : Fn) (g_nest_times : Fn) : MSt :=
    (mRet (mCall 2 g_nest_plus (mbD (mVar 0) (mbD (mFz (mCall 2 g_nest_times (mbD (mC (.tup [.int (-1), .int 1])) (mbD (mVar 1) mbNil)))) mbNil))))
def o_nest_minus (g_nest_plus : Fn) (g_nest_times : Fn) : Fn := mFn n_nest_minus.length 2 (b_nest_minus g_nest_plus g_nest_times)
theorem k_nest_minus (T : Bt mg) (C : Gs K mg) (I : Is K mg "nest_minus" s_nest_minus ["one", "other"]) {g_nest_plus : Fn} (h_nest_plus : Has P w K mg base "nest_plus" k 2 g_nest_plus) {g_nest_times : Fn} (h_nest_times : Has P w K mg base "nest_times" k 2 g_nest_times) : Has P w K mg base "nest_minus" (k + 1) 2 (o_nest_minus g_nest_plus g_nest_times) :=
  has_mk I sc_nest_minus rfl (by decide) fun f cdv A outer s H E hr => by exact (
      (xps_one (xp_ret (xs_callH h_nest_plus hr (xab_d (xd_var 0) (xab_d (xd_fz (xs_callH h_nest_times hr (xab_d (xd_glob C.c_MINUS) (xab_d (xd_var 1) xab_nil)))) xab_nil))))))
abbrev s_over_parts : Stmt := top 31
abbrev n_over_parts : List Str := ["number", "a", "b", "under"]
theorem sc_over_parts : FnScope n_over_parts ["number"] (defScope s_over_parts) := ⟨rfl, rfl, rfl, by decide +kernel, rfl, by decide +kernel, by decide +kernel⟩
def b_over_parts (g_nest_minus : Fn) (g_nest_times : Fn) : MSt :=
    (mSeq (mAsgG (mgU 3 (mgs1 (mgN 1) (mgs1 (mgN 2) (mgs1 (mgN 3) mgs0)))) (mVar 0))
    (mRet (mCall 2 g_nest_minus (mbD (mFz (mCall 2 g_nest_times (mbD (mVar 1) (mbD (mVar 1) mbNil)))) (mbD (mFz (mCall 2 g_nest_times (mbD (mFz (mCall 2 g_nest_times (mbD (mVar 2) (mbD (mVar 2) mbNil)))) (mbD (mVar 3) mbNil)))) mbNil)))))
def o_over_parts (g_nest_minus : Fn) (g_nest_times : Fn) : Fn := mFn n_over_parts.length 1 (b_over_parts g_nest_minus g_nest_times)
theorem k_over_parts (T : Bt mg) (C : Gs K mg) (I : Is K mg "over_parts" s_over_parts ["number"]) {g_nest_minus : Fn} (h_nest_minus : Has P w K mg base "nest_minus" k 2 g_nest_minus) {g_nest_times : Fn} (h_nest_times : Has P w K mg base "nest_times" k 2 g_nest_times) : Has P w K mg base "over_parts" (k + 1) 1 (o_over_parts g_nest_minus g_nest_times) :=
  has_mk I sc_over_parts rfl (by decide) fun f cdv A outer s H E hr => by exact (
      (xps_cons (xp_asg (xd_var 0) (xg_unp (n := 3) rfl (xgs_cons (xg_name 1 sc_over_parts.nd) (xgs_cons (xg_name 2 sc_over_parts.nd) (xgs_cons (xg_name 3 sc_over_parts.nd) xgs_nil)))))
      (xps_one (xp_ret (xs_callH h_nest_minus hr (xab_d (xd_fz (xs_callH h_nest_times hr (xab_d (xd_var 1) (xab_d (xd_var 1) xab_nil)))) (xab_d (xd_fz (xs_callH h_nest_times hr (xab_d (xd_fz (xs_callH h_nest_times hr (xab_d (xd_var 2) (xab_d (xd_var 2) xab_nil)))) (xab_d (xd_var 3) xab_nil)))) xab_nil)))))))
abbrev s_nest_sign : Stmt := top 32
abbrev n_nest_sign : List Str := ["number", "first", "second"]
theorem sc_nest_sign : FnScope n_nest_sign ["number"] (defScope s_nest_sign) := ⟨rfl, rfl, rfl, by decide +kernel, rfl, by decide +kernel, by decide +kernel⟩
def b_nest_sign (g_nest_sign : Fn) (g_over_parts : Fn) : MSt :=
    (mSeq (mIf (mKT eqX (.ex (mLenN 0)) (.ex (mC (.int 2)))) (mRet (mV (mBin subD (mFz (mCB intF (mCons (mBin (blD gtD) (mIxN 0 (mC (.int 0))) (mC (.int 0))) mNil))) (mFz (mCB intF (mCons (mBin (blD ltD) (mIxN 0 (mC (.int 0))) (mC (.int 0))) mNil)))))) mSkip)
    (mSeq (mParS [1, 2] (msCons (mCall 1 g_nest_sign (mbD (mIxN 0 (mC (.int 0))) mbNil)) (msCons (mCall 1 g_nest_sign (mbD (mIxN 0 (mC (.int 1))) mbNil)) msNil)))
    (mSeq (mIf (mOrT (mKT eqX (.nm 1) (.ex (mC (.int 0)))) (mOrT (mKT eqX (.nm 2) (.ex (mC (.int 0)))) (mKT eqX (.nm 1) (.nm 2)))) (mRet (mIfS (mKT neX (.nm 1) (.ex (mC (.int 0)))) (mMov 1) (mMov 2))) mSkip)
    (mRet (mBinS mulS (mVar 1) (mFz (mCall 1 g_nest_sign (mbD (mFz (mCall 1 g_over_parts (mbD (mVar 0) mbNil))) mbNil))))))))
def o_nest_sign (g_nest_sign : Fn) (g_over_parts : Fn) : Fn := mFn n_nest_sign.length 1 (b_nest_sign g_nest_sign g_over_parts)
theorem k_nest_sign (T : Bt mg) (C : Gs K mg) (I : Is K mg "nest_sign" s_nest_sign ["number"]) {g_nest_sign : Fn} (h_nest_sign : Has P w K mg base "nest_sign" k 1 g_nest_sign) {g_over_parts : Fn} (h_over_parts : Has P w K mg base "over_parts" k 1 g_over_parts) : Has P w K mg base "nest_sign" (k + 1) 1 (o_nest_sign g_nest_sign g_over_parts) :=
  has_mk I sc_nest_sign rfl (by decide) fun f cdv A outer s H E hr => by exact (
      (xps_cons (xp_if (xt_eqX hr (xk_ex (xd_lenN 0 T.len)) (xk_ex xd_int)) (xps_one (xp_ret (xs_v (xd_sub (xd_fz (xs_int T (xa_cons (xd_gt (xd_ixN 0 hr xd_int) xd_int) xa_nil))) (xd_fz (xs_int T (xa_cons (xd_lt (xd_ixN 0 hr xd_int) xd_int) xa_nil))))))) xps_nil)
      (xps_cons (xp_parS (i := 1) (j := 2) rfl sc_nest_sign.nd (by decide) (xas_cons (xs_callH h_nest_sign hr (xab_d (xd_ixN 0 hr xd_int) xab_nil)) (xas_cons (xs_callH h_nest_sign hr (xab_d (xd_ixN 0 hr xd_int) xab_nil)) xas_nil)))
      (xps_cons (xp_if ((xw_or (xt_eqX hr (xk_nm 1) (xk_ex xd_int)) (xw_or (xt_eqX hr (xk_nm 2) (xk_ex xd_int)) (xw_or1 (xt_eqX hr (xk_nm 1) (xk_nm 2)))))).xt (xps_one (xp_ret (xs_if (xt_neX hr (xk_nm 1) (xk_ex xd_int)) (xs_mov 1) (xs_mov 2)))) xps_nil)
      (xps_one (xp_ret (xs_mul (xd_var 1) (xd_fz (xs_callH h_nest_sign hr (xab_d (xd_fz (xs_callH h_over_parts hr (xab_d (xd_var 0) xab_nil))) xab_nil))))))))))
abbrev s_nest_inverse : Stmt := top 33
abbrev n_nest_inverse : List Str := ["number", "parts"]
theorem sc_nest_inverse : FnScope n_nest_inverse ["number"] (defScope s_nest_inverse) := ⟨rfl, rfl, rfl, by decide +kernel, rfl, by decide +kernel, by decide +kernel⟩
def b_nest_inverse (g_over_parts : Fn) (g_nest_times : Fn) (g_pair_of : Fn) (g_nest_sign : Fn) (g_nest_inverse : Fn) (g_nest_plus : Fn) : MSt :=
    (mSeq (mIf (mKT eqX (.ex (mLenN 0)) (.ex (mC (.int 2)))) (mRet (mCall 2 g_pair_of (mbD (mIxN 0 (mC (.int 1))) (mbD (mIxN 0 (mC (.int 0))) mbNil)))) mSkip)
    (mSeq (mAsg 1 (mCall 1 g_over_parts (mbD (mVar 0) mbNil)))
    (mSeq (mIf (mKT eqX (.ex (mFz (mCall 1 g_nest_sign (mbD (mVar 1) mbNil)))) (.ex (mC (.int 0)))) (mRet (mCall 1 g_nest_inverse (mbD (mFz (mCall 2 g_nest_plus (mbD (mIxN 0 (mC (.int 0))) (mbD (mIxN 0 (mC (.int 0))) mbNil)))) mbNil))) mSkip)
    (mRet (mCall 2 g_nest_times (mbD (mTup (mCons (mIxN 0 (mC (.int 0))) (mCons (mFz (mCall 2 g_nest_times (mbD (mC (.tup [.int (-1), .int 1])) (mbD (mIxN 0 (mC (.int 1))) mbNil)))) (mCons (mIxN 0 (mC (.int 2))) mNil)))) (mbD (mFz (mCall 1 g_nest_inverse (mbD (mVar 1) mbNil))) mbNil)))))))
def o_nest_inverse (g_over_parts : Fn) (g_nest_times : Fn) (g_pair_of : Fn) (g_nest_sign : Fn) (g_nest_inverse : Fn) (g_nest_plus : Fn) : Fn := mFn n_nest_inverse.length 1 (b_nest_inverse g_over_parts g_nest_times g_pair_of g_nest_sign g_nest_inverse g_nest_plus)
theorem k_nest_inverse (T : Bt mg) (C : Gs K mg) (I : Is K mg "nest_inverse" s_nest_inverse ["number"]) {g_over_parts : Fn} (h_over_parts : Has P w K mg base "over_parts" k 1 g_over_parts) {g_nest_times : Fn} (h_nest_times : Has P w K mg base "nest_times" k 2 g_nest_times) {g_pair_of : Fn} (h_pair_of : Has P w K mg base "pair_of" k 2 g_pair_of) {g_nest_sign : Fn} (h_nest_sign : Has P w K mg base "nest_sign" k 1 g_nest_sign) {g_nest_inverse : Fn} (h_nest_inverse : Has P w K mg base "nest_inverse" k 1 g_nest_inverse) {g_nest_plus : Fn} (h_nest_plus : Has P w K mg base "nest_plus" k 2 g_nest_plus) : Has P w K mg base "nest_inverse" (k + 1) 1 (o_nest_inverse g_over_parts g_nest_times g_pair_of g_nest_sign g_nest_inverse g_nest_plus) :=
  has_mk I sc_nest_inverse rfl (by decide) fun f cdv A outer s H E hr => by exact (
      (xps_cons (xp_if (xt_eqX hr (xk_ex (xd_lenN 0 T.len)) (xk_ex xd_int)) (xps_one (xp_ret (xs_callH h_pair_of hr (xab_d (xd_ixN 0 hr xd_int) (xab_d (xd_ixN 0 hr xd_int) xab_nil))))) xps_nil)
      (xps_cons (xp_set (i := 1) sc_nest_inverse.nd (xs_callH h_over_parts hr (xab_d (xd_var 0) xab_nil)))
      (xps_cons (xp_if (xt_eqX hr (xk_ex (xd_fz (xs_callH h_nest_sign hr (xab_d (xd_var 1) xab_nil)))) (xk_ex xd_int)) (xps_one (xp_ret (xs_callH h_nest_inverse hr (xab_d (xd_fz (xs_callH h_nest_plus hr (xab_d (xd_ixN 0 hr xd_int) (xab_d (xd_ixN 0 hr xd_int) xab_nil)))) xab_nil)))) xps_nil)
      (xps_one (xp_ret (xs_callH h_nest_times hr (xab_d (xd_tup (xa_cons (xd_ixN 0 hr xd_int) (xa_cons (xd_fz (xs_callH h_nest_times hr (xab_d (xd_glob C.c_MINUS) (xab_d (xd_ixN 0 hr xd_int) xab_nil)))) (xa_cons (xd_ixN 0 hr xd_int) xa_nil)))) (xab_d (xd_fz (xs_callH h_nest_inverse hr (xab_d (xd_var 1) xab_nil))) xab_nil)))))))))
abbrev s_nest_root : Stmt := top 34
abbrev n_nest_root : List Str := ["number", "out", "rest", "by"]
theorem sc_nest_root : FnScope n_nest_root ["number"] (defScope s_nest_root) := ⟨rfl, rfl, rfl, by decide +kernel, rfl, by decide +kernel, by decide +kernel⟩
def b_nest_root (g_square_out : Fn) (g_pair_of : Fn) (g_nest_sign : Fn) : MSt :=
    (mSeq (mIf (mKT eqX (.ex (mFz (mCall 1 g_nest_sign (mbD (mVar 0) mbNil)))) (.ex (mC (.int 0)))) (mRet (mV (mC (.tup [.int 0, .int 1])))) mSkip)
    (mSeq (mIf (mKT eqX (.ex (mLenN 0)) (.ex (mC (.int 3)))) (mRet (mV (mTup (mCons (mC (.tup [.int 0, .int 1])) (mCons (mC (.tup [.int 1, .int 1])) (mCons (mVar 0) mNil)))))) mSkip)
    (mSeq (mAsgG (mgU 2 (mgs1 (mgN 1) (mgs1 (mgN 2) mgs0))) (mFz (mCall 1 g_square_out (mbD (mFz (mBinS mulS (mIxN 0 (mC (.int 0))) (mIxN 0 (mC (.int 1))))) mbNil))))
    (mSeq (mAsg 3 (mCall 2 g_pair_of (mbD (mVar 1) (mbD (mIxN 0 (mC (.int 1))) mbNil))))
    (mRet (mIfS (mKT eqX (.nm 2) (.ex (mC (.int 1)))) (mMov 3) (mV (mTup (mCons (mC (.tup [.int 0, .int 1])) (mCons (mVar 3) (mCons (mTup (mCons (mVar 2) (mCons (mC (.int 1)) mNil))) mNil)))))))))))
def o_nest_root (g_square_out : Fn) (g_pair_of : Fn) (g_nest_sign : Fn) : Fn := mFn n_nest_root.length 1 (b_nest_root g_square_out g_pair_of g_nest_sign)
theorem k_nest_root (T : Bt mg) (C : Gs K mg) (I : Is K mg "nest_root" s_nest_root ["number"]) {g_square_out : Fn} (h_square_out : Has P w K mg base "square_out" k 1 g_square_out) {g_pair_of : Fn} (h_pair_of : Has P w K mg base "pair_of" k 2 g_pair_of) {g_nest_sign : Fn} (h_nest_sign : Has P w K mg base "nest_sign" k 1 g_nest_sign) : Has P w K mg base "nest_root" (k + 1) 1 (o_nest_root g_square_out g_pair_of g_nest_sign) :=
  has_mk I sc_nest_root rfl (by decide) fun f cdv A outer s H E hr => by exact (
      (xps_cons (xp_if (xt_eqX hr (xk_ex (xd_fz (xs_callH h_nest_sign hr (xab_d (xd_var 0) xab_nil)))) (xk_ex xd_int)) (xps_one (xp_ret (xs_v (xd_glob C.c_NOUGHT)))) xps_nil)
      (xps_cons (xp_if (xt_eqX hr (xk_ex (xd_lenN 0 T.len)) (xk_ex xd_int)) (xps_one (xp_ret (xs_v (xd_tup (xa_cons (xd_glob C.c_NOUGHT) (xa_cons (xd_glob C.c_ONE) (xa_cons (xd_var 0) xa_nil))))))) xps_nil)
      (xps_cons (xp_asg (xd_fz (xs_callH h_square_out hr (xab_d (xd_fz (xs_mul (xd_ixN 0 hr xd_int) (xd_ixN 0 hr xd_int))) xab_nil))) (xg_unp (n := 2) rfl (xgs_cons (xg_name 1 sc_nest_root.nd) (xgs_cons (xg_name 2 sc_nest_root.nd) xgs_nil))))
      (xps_cons (xp_set (i := 3) sc_nest_root.nd (xs_callH h_pair_of hr (xab_d (xd_var 1) (xab_d (xd_ixN 0 hr xd_int) xab_nil))))
      (xps_one (xp_ret (xs_if (xt_eqX hr (xk_nm 2) (xk_ex xd_int)) (xs_mov 3) (xs_v (xd_tup (xa_cons (xd_glob C.c_NOUGHT) (xa_cons (xd_var 3) (xa_cons (xd_tup (xa_cons (xd_var 2) (xa_cons xd_int xa_nil))) xa_nil)))))))))))))
abbrev s_settled : Stmt := top 35
abbrev n_settled : List Str := ["number", "under"]
theorem sc_settled : FnScope n_settled ["number"] (defScope s_settled) := ⟨rfl, rfl, rfl, by decide +kernel, rfl, by decide +kernel, by decide +kernel⟩
def b_settled (g_nest_root : Fn) (g_nest_plus : Fn) (g_settled : Fn) (g_nest_times : Fn) : MSt :=
    (mSeq (mIf (mKT eqX (.ex (mLenN 0)) (.ex (mC (.int 2)))) (mRet (mMov 0)) mSkip)
    (mSeq (mAsg 1 (mCall 1 g_nest_root (mbD (mFz (mCall 1 g_settled (mbD (mIxN 0 (mC (.int 2))) mbNil))) mbNil)))
    (mRet (mCall 2 g_nest_plus (mbD (mFz (mCall 1 g_settled (mbD (mIxN 0 (mC (.int 0))) mbNil))) (mbD (mFz (mCall 2 g_nest_times (mbD (mFz (mCall 1 g_settled (mbD (mIxN 0 (mC (.int 1))) mbNil))) (mbD (mVar 1) mbNil)))) mbNil))))))
def o_settled (g_nest_root : Fn) (g_nest_plus : Fn) (g_settled : Fn) (g_nest_times : Fn) : Fn := mFn n_settled.length 1 (b_settled g_nest_root g_nest_plus g_settled g_nest_times)
theorem k_settled (T : Bt mg) (C : Gs K mg) (I : Is K mg "settled" s_settled ["number"]) {g_nest_root : Fn} (h_nest_root : Has P w K mg base "nest_root" k 1 g_nest_root) {g_nest_plus : Fn} (h_nest_plus : Has P w K mg base "nest_plus" k 2 g_nest_plus) {g_settled : Fn} (h_settled : Has P w K mg base "settled" k 1 g_settled) {g_nest_times : Fn} (h_nest_times : Has P w K mg base "nest_times" k 2 g_nest_times) : Has P w K mg base "settled" (k + 1) 1 (o_settled g_nest_root g_nest_plus g_settled g_nest_times) :=
  has_mk I sc_settled rfl (by decide) fun f cdv A outer s H E hr => by exact (
      (xps_cons (xp_if (xt_eqX hr (xk_ex (xd_lenN 0 T.len)) (xk_ex xd_int)) (xps_one (xp_ret (xs_mov 0))) xps_nil)
      (xps_cons (xp_set (i := 1) sc_settled.nd (xs_callH h_nest_root hr (xab_d (xd_fz (xs_callH h_settled hr (xab_d (xd_ixN 0 hr xd_int) xab_nil))) xab_nil)))
      (xps_one (xp_ret (xs_callH h_nest_plus hr (xab_d (xd_fz (xs_callH h_settled hr (xab_d (xd_ixN 0 hr xd_int) xab_nil))) (xab_d (xd_fz (xs_callH h_nest_times hr (xab_d (xd_fz (xs_callH h_settled hr (xab_d (xd_ixN 0 hr xd_int) xab_nil))) (xab_d (xd_var 1) xab_nil)))) xab_nil))))))))
abbrev s_fraction : Stmt := top 37
abbrev n_fraction : List Str := ["top", "bottom"]
theorem sc_fraction : FnScope n_fraction ["top", "bottom"] (defScope s_fraction) := ⟨rfl, rfl, rfl, by decide +kernel, rfl, by decide +kernel, by decide +kernel⟩
def b_fraction (g_pair_of : Fn) : MSt :=
    (mRet (mCall 2 g_pair_of (mbD (mVar 0) (mbD (mVar 1) mbNil))))
def o_fraction (g_pair_of : Fn) : Fn := mFn n_fraction.length 2 (b_fraction g_pair_of)
theorem k_fraction (T : Bt mg) (C : Gs K mg) (I : Is K mg "fraction" s_fraction ["top", "bottom"]) {g_pair_of : Fn} (h_pair_of : Has P w K mg base "pair_of" k 2 g_pair_of) : Has P w K mg base "fraction" (k + 1) 2 (o_fraction g_pair_of) :=
  has_mk I sc_fraction rfl (by decide) fun f cdv A outer s H E hr => by exact (
      (xps_one (xp_ret (xs_callH h_pair_of hr (xab_d (xd_var 0) (xab_d (xd_var 1) xab_nil))))))
abbrev s_plus : Stmt := top 38
abbrev n_plus : List Str := ["m", "n"]
theorem sc_plus : FnScope n_plus ["m", "n"] (defScope s_plus) := ⟨rfl, rfl, rfl, by decide +kernel, rfl, by decide +kernel, by decide +kernel⟩
def b_plus (g_nest_plus : Fn) (g_settled : Fn) : MSt :=
    (mRet (mCall 2 g_nest_plus (mbD (mFz (mCall 1 g_settled (mbD (mVar 0) mbNil))) (mbD (mFz (mCall 1 g_settled (mbD (mVar 1) mbNil))) mbNil))))
def o_plus (g_nest_plus : Fn) (g_settled : Fn) : Fn := mFn n_plus.length 2 (b_plus g_nest_plus g_settled)
theorem k_plus (T : Bt mg) (C : Gs K mg) (I : Is K mg "plus" s_plus ["m", "n"]) {g_nest_plus : Fn} (h_nest_plus : Has P w K mg base "nest_plus" k 2 g_nest_plus) {g_settled : Fn} (h_settled : Has P w K mg base "settled" k 1 g_settled) : Has P w K mg base "plus" (k + 1) 2 (o_plus g_nest_plus g_settled) :=
  has_mk I sc_plus rfl (by decide) fun f cdv A outer s H E hr => by exact (
      (xps_one (xp_ret (xs_callH h_nest_plus hr (xab_d (xd_fz (xs_callH h_settled hr (xab_d (xd_var 0) xab_nil))) (xab_d (xd_fz (xs_callH h_settled hr (xab_d (xd_var 1) xab_nil))) xab_nil))))))
abbrev s_minus : Stmt := top 39
abbrev n_minus : List Str := ["m", "n"]
theorem sc_minus : FnScope n_minus ["m", "n"] (defScope s_minus) := ⟨rfl, rfl, rfl, by decide +kernel, rfl, by decide +kernel, by decide +kernel⟩
def b_minus (g_nest_minus : Fn) (g_settled : Fn) : MSt :=
    (mRet (mCall 2 g_nest_minus (mbD (mFz (mCall 1 g_settled (mbD (mVar 0) mbNil))) (mbD (mFz (mCall 1 g_settled (mbD (mVar 1) mbNil))) mbNil))))
def o_minus (g_nest_minus : Fn) (g_settled : Fn) : Fn := mFn n_minus.length 2 (b_minus g_nest_minus g_settled)
theorem k_minus (T : Bt mg) (C : Gs K mg) (I : Is K mg "minus" s_minus ["m", "n"]) {g_nest_minus : Fn} (h_nest_minus : Has P w K mg base "nest_minus" k 2 g_nest_minus) {g_settled : Fn} (h_settled : Has P w K mg base "settled" k 1 g_settled) : Has P w K mg base "minus" (k + 1) 2 (o_minus g_nest_minus g_settled) :=
  has_mk I sc_minus rfl (by decide) fun f cdv A outer s H E hr => by exact (
      (xps_one (xp_ret (xs_callH h_nest_minus hr (xab_d (xd_fz (xs_callH h_settled hr (xab_d (xd_var 0) xab_nil))) (xab_d (xd_fz (xs_callH h_settled hr (xab_d (xd_var 1) xab_nil))) xab_nil))))))
abbrev s_times : Stmt := top 40
abbrev n_times : List Str := ["m", "n"]
theorem sc_times : FnScope n_times ["m", "n"] (defScope s_times) := ⟨rfl, rfl, rfl, by decide +kernel, rfl, by decide +kernel, by decide +kernel⟩
def b_times (g_nest_times : Fn) (g_settled : Fn) : MSt :=
    (mRet (mCall 2 g_nest_times (mbD (mFz (mCall 1 g_settled (mbD (mVar 0) mbNil))) (mbD (mFz (mCall 1 g_settled (mbD (mVar 1) mbNil))) mbNil))))
def o_times (g_nest_times : Fn) (g_settled : Fn) : Fn := mFn n_times.length 2 (b_times g_nest_times g_settled)
theorem k_times (T : Bt mg) (C : Gs K mg) (I : Is K mg "times" s_times ["m", "n"]) {g_nest_times : Fn} (h_nest_times : Has P w K mg base "nest_times" k 2 g_nest_times) {g_settled : Fn} (h_settled : Has P w K mg base "settled" k 1 g_settled) : Has P w K mg base "times" (k + 1) 2 (o_times g_nest_times g_settled) :=
  has_mk I sc_times rfl (by decide) fun f cdv A outer s H E hr => by exact (
      (xps_one (xp_ret (xs_callH h_nest_times hr (xab_d (xd_fz (xs_callH h_settled hr (xab_d (xd_var 0) xab_nil))) (xab_d (xd_fz (xs_callH h_settled hr (xab_d (xd_var 1) xab_nil))) xab_nil))))))
abbrev s_over : Stmt := top 41
abbrev n_over : List Str := ["m", "n", "by"]
theorem sc_over : FnScope n_over ["m", "n"] (defScope s_over) := ⟨rfl, rfl, rfl, by decide +kernel, rfl, by decide +kernel, by decide +kernel⟩
def b_over (g_settled : Fn) (g_nest_times : Fn) (g_nest_sign : Fn) (g_nest_inverse : Fn) : MSt :=
    (mSeq (mAsg 2 (mCall 1 g_settled (mbD (mVar 1) mbNil)))
    (mSeq (mIf (mKT eqX (.ex (mFz (mCall 1 g_nest_sign (mbD (mVar 2) mbNil)))) (.ex (mC (.int 0)))) (fun _ => none) mSkip)
    (mRet (mCall 2 g_nest_times (mbD (mFz (mCall 1 g_settled (mbD (mVar 0) mbNil))) (mbD (mFz (mCall 1 g_nest_inverse (mbD (mVar 2) mbNil))) mbNil))))))
def o_over (g_settled : Fn) (g_nest_times : Fn) (g_nest_sign : Fn) (g_nest_inverse : Fn) : Fn := mFn n_over.length 2 (b_over g_settled g_nest_times g_nest_sign g_nest_inverse)
theorem k_over (T : Bt mg) (C : Gs K mg) (I : Is K mg "over" s_over ["m", "n"]) {g_settled : Fn} (h_settled : Has P w K mg base "settled" k 1 g_settled) {g_nest_times : Fn} (h_nest_times : Has P w K mg base "nest_times" k 2 g_nest_times) {g_nest_sign : Fn} (h_nest_sign : Has P w K mg base "nest_sign" k 1 g_nest_sign) {g_nest_inverse : Fn} (h_nest_inverse : Has P w K mg base "nest_inverse" k 1 g_nest_inverse) : Has P w K mg base "over" (k + 1) 2 (o_over g_settled g_nest_times g_nest_sign g_nest_inverse) :=
  has_mk I sc_over rfl (by decide) fun f cdv A outer s H E hr => by exact (
      (xps_cons (xp_set (i := 2) sc_over.nd (xs_callH h_settled hr (xab_d (xd_var 1) xab_nil)))
      (xps_cons (xp_if (xt_eqX hr (xk_ex (xd_fz (xs_callH h_nest_sign hr (xab_d (xd_var 2) xab_nil)))) (xk_ex xd_int)) (xps_one xp_never) xps_nil)
      (xps_one (xp_ret (xs_callH h_nest_times hr (xab_d (xd_fz (xs_callH h_settled hr (xab_d (xd_var 0) xab_nil))) (xab_d (xd_fz (xs_callH h_nest_inverse hr (xab_d (xd_var 2) xab_nil))) xab_nil))))))))
abbrev s_root : Stmt := top 42
abbrev n_root : List Str := ["n", "under"]
theorem sc_root : FnScope n_root ["n"] (defScope s_root) := ⟨rfl, rfl, rfl, by decide +kernel, rfl, by decide +kernel, by decide +kernel⟩
def b_root (g_settled : Fn) (g_nest_root : Fn) (g_nest_sign : Fn) : MSt :=
    (mSeq (mAsg 1 (mCall 1 g_settled (mbD (mVar 0) mbNil)))
    (mSeq (mIf (mBinT ltD (mFz (mCall 1 g_nest_sign (mbD (mVar 1) mbNil))) (mC (.int 0))) (fun _ => none) mSkip)
    (mRet (mCall 1 g_nest_root (mbD (mVar 1) mbNil)))))
def o_root (g_settled : Fn) (g_nest_root : Fn) (g_nest_sign : Fn) : Fn := mFn n_root.length 1 (b_root g_settled g_nest_root g_nest_sign)
theorem k_root (T : Bt mg) (C : Gs K mg) (I : Is K mg "root" s_root ["n"]) {g_settled : Fn} (h_settled : Has P w K mg base "settled" k 1 g_settled) {g_nest_root : Fn} (h_nest_root : Has P w K mg base "nest_root" k 1 g_nest_root) {g_nest_sign : Fn} (h_nest_sign : Has P w K mg base "nest_sign" k 1 g_nest_sign) : Has P w K mg base "root" (k + 1) 1 (o_root g_settled g_nest_root g_nest_sign) :=
  has_mk I sc_root rfl (by decide) fun f cdv A outer s H E hr => by exact (
      (xps_cons (xp_set (i := 1) sc_root.nd (xs_callH h_settled hr (xab_d (xd_var 0) xab_nil)))
      (xps_cons (xp_if (xt_lt (xd_fz (xs_callH h_nest_sign hr (xab_d (xd_var 1) xab_nil))) xd_int) (xps_one xp_never) xps_nil)
      (xps_one (xp_ret (xs_callH h_nest_root hr (xab_d (xd_var 1) xab_nil)))))))
abbrev s__law_begun : Stmt := top 44
abbrev n__law_begun : List Str := ["_law_script", "_law_k", "_law_cell"]
theorem sc__law_begun : FnScope n__law_begun ["_law_script", "_law_k"] (defScope s__law_begun) := ⟨rfl, rfl, rfl, by decide +kernel, rfl, by decide +kernel, by decide +kernel⟩
def b__law_begun : MSt :=
    (mSeq (mAsg 2 (mV (mIfE (mBinT ltD (mVar 1) (mLenN 0)) (mIxN 0 (mVar 1)) (mC (.int 0)))))
    (mRet (mLst (mCons (mFz (mBinS mulS (mFz (mCB absF (mCons (mVar 2) mNil))) (mFz (mCB intF (mCons (mBin (blD geD) (mFz (mCB absF (mCons (mVar 2) mNil))) (mBin powD (mC (.int 10)) (mC (.int 18)))) mNil))))) (mCons (mFz (mBinS addS (mFz (mBinS addS (mBin modD (mVar 2) (mC (.int 2305843009213693951))) (mFz (mBinS mulS (mC (.int 39373)) (mVar 1))))) (mC (.int 17)))) (mCons (mC (.int 0)) mNil))))))
def o__law_begun : Fn := mFn n__law_begun.length 2 (b__law_begun)
theorem k__law_begun (T : Bt mg) (C : Gs K mg) (I : Is K mg "_law_begun" s__law_begun ["_law_script", "_law_k"]) : Has P w K mg base "_law_begun" (k + 1) 2 (o__law_begun) :=
  has_mk I sc__law_begun rfl (by decide) fun f cdv A outer s H E hr => by exact (
      (xps_cons (xp_set (i := 2) sc__law_begun.nd (xs_v (xd_if (xt_lt (xd_var 1) (xd_lenN 0 T.len)) (xd_ixN 0 hr (xd_var 1)) xd_int)))
      (xps_one (xp_ret (xs_lst (xa_cons (xd_fz (xs_mul (xd_fz (xs_abs T (xa_cons (xd_var 2) xa_nil))) (xd_fz (xs_int T (xa_cons (xd_ge (xd_fz (xs_abs T (xa_cons (xd_var 2) xa_nil))) (xd_pow xd_int xd_int)) xa_nil))))) (xa_cons (xd_fz (xs_add (xd_fz (xs_add (xd_mod (xd_var 2) xd_int) (xd_fz (xs_mul xd_int (xd_var 1))))) xd_int)) (xa_cons xd_int xa_nil))))))))
abbrev s__law_draw : Stmt := top 45
abbrev n__law_draw : List Str := ["_law_tape", "_law_many", "_law_found", "_law_once", "_law_twice"]
theorem sc__law_draw : FnScope n__law_draw ["_law_tape", "_law_many"] (defScope s__law_draw) := ⟨rfl, rfl, rfl, by decide +kernel, rfl, by decide +kernel, by decide +kernel⟩
def b__law_draw : MSt :=
    (mSeq (mIf (mBinT gtD (mIxN 0 (mC (.int 0))) (mC (.int 0))) (mSeq (mAsg 2 (mV (mBin modD (mIxN 0 (mC (.int 0))) (mVar 1))))
    (mSeq (mPutX 0 (mBin divD (mIxN 0 (mC (.int 0))) (mVar 1)) (mC (.int 0)))
    (mRet (mMov 2)))) mSkip)
    (mSeq (mPutX 0 (mFz (mBinS addS (mIxN 0 (mC (.int 2))) (mC (.int 1)))) (mC (.int 2)))
    (mSeq (mAsg 3 (mV (mBin modD (mBin powD (mFz (mBinS addS (mIxN 0 (mC (.int 1))) (mFz (mBinS mulS (mC (.int 39373)) (mIxN 0 (mC (.int 2))))))) (mC (.int 5))) (mC (.int 2147483647)))))
    (mSeq (mAsg 4 (mV (mBin modD (mFz (mBinS mulS (mFz (mBinS addS (mVar 3) (mIxN 0 (mC (.int 2))))) (mFz (mBinS addS (mFz (mBinS addS (mBin modD (mVar 3) (mC (.int 40009))) (mC (.int 7)))) (mIxN 0 (mC (.int 2))))))) (mC (.int 2147483629)))))
    (mRet (mV (mBin modD (mBin divD (mBin modD (mFz (mBinS addS (mFz (mBinS mulS (mVar 4) (mC (.int 48271)))) (mVar 3))) (mC (.int 2147483587))) (mC (.int 64))) (mVar 1))))))))
def o__law_draw : Fn := mFn n__law_draw.length 2 (b__law_draw)
theorem k__law_draw (T : Bt mg) (C : Gs K mg) (I : Is K mg "_law_draw" s__law_draw ["_law_tape", "_law_many"]) : Has P w K mg base "_law_draw" (k + 1) 2 (o__law_draw) :=
  has_mk I sc__law_draw rfl (by decide) fun f cdv A outer s H E hr => by exact (
      (xps_cons (xp_if (xt_gt (xd_ixN 0 hr xd_int) xd_int) (xps_cons (xp_set (i := 2) sc__law_draw.nd (xs_v (xd_mod (xd_ixN 0 hr xd_int) (xd_var 1))))
      (xps_cons (xp_putX 0 hr (xd_div (xd_ixN 0 hr xd_int) (xd_var 1)) xd_int)
      (xps_one (xp_ret (xs_mov 2))))) xps_nil)
      (xps_cons (xp_putX 0 hr (xd_fz (xs_add (xd_ixN 0 hr xd_int) xd_int)) xd_int)
      (xps_cons (xp_set (i := 3) sc__law_draw.nd (xs_v (xd_mod (xd_pow (xd_fz (xs_add (xd_ixN 0 hr xd_int) (xd_fz (xs_mul xd_int (xd_ixN 0 hr xd_int))))) xd_int) xd_int)))
      (xps_cons (xp_set (i := 4) sc__law_draw.nd (xs_v (xd_mod (xd_fz (xs_mul (xd_fz (xs_add (xd_var 3) (xd_ixN 0 hr xd_int))) (xd_fz (xs_add (xd_fz (xs_add (xd_mod (xd_var 3) xd_int) xd_int)) (xd_ixN 0 hr xd_int))))) xd_int)))
      (xps_one (xp_ret (xs_v (xd_mod (xd_div (xd_mod (xd_fz (xs_add (xd_fz (xs_mul (xd_var 4) xd_int)) (xd_var 3))) xd_int) xd_int) (xd_var 1))))))))))
abbrev s__law_pair : Stmt := top 46
abbrev n__law_pair : List Str := ["_law_top", "_law_bottom", "_law_one", "_law_other"]
theorem sc__law_pair : FnScope n__law_pair ["_law_top", "_law_bottom"] (defScope s__law_pair) := ⟨rfl, rfl, rfl, by decide +kernel, rfl, by decide +kernel, by decide +kernel⟩
def b__law_pair : MSt :=
    (mSeq (mParS [2, 3] (msCons (mCB absF (mCons (mVar 0) mNil)) (msCons (mCB absF (mCons (mVar 1) mNil)) msNil)))
    (mSeq (mWh fuelN (mBinT gtD (mVar 3) (mC (.int 0))) (mParS [2, 3] (msCons (mV (mVar 3)) (msCons (mV (mBin modD (mVar 2) (mVar 3))) msNil))))
    (mRet (mIfS (mBinT gtD (mVar 1) (mC (.int 0))) (mV (mTup (mCons (mBin divD (mVar 0) (mVar 2)) (mCons (mBin divD (mVar 1) (mVar 2)) mNil)))) (mV (mTup (mCons (mBin divD (mU negD (mVar 0)) (mVar 2)) (mCons (mBin divD (mU negD (mVar 1)) (mVar 2)) mNil))))))))
def o__law_pair : Fn := mFn n__law_pair.length 2 (b__law_pair)
theorem k__law_pair (T : Bt mg) (C : Gs K mg) (I : Is K mg "_law_pair" s__law_pair ["_law_top", "_law_bottom"]) : Has P w K mg base "_law_pair" (k + 1) 2 (o__law_pair) :=
  has_mk I sc__law_pair rfl (by decide) fun f cdv A outer s H E hr => by exact (
      (xps_cons (xp_parS (i := 2) (j := 3) rfl sc__law_pair.nd (by decide) (xas_cons (xs_abs T (xa_cons (xd_var 0) xa_nil)) (xas_cons (xs_abs T (xa_cons (xd_var 1) xa_nil)) xas_nil)))
      (xps_cons (xp_while fuelN PassesOwn.never (xt_gt (xd_var 3) xd_int) (xps_one (xp_parS (i := 2) (j := 3) rfl sc__law_pair.nd (by decide) (xas_cons (xs_v (xd_var 3)) (xas_cons (xs_v (xd_mod (xd_var 2) (xd_var 3))) xas_nil)))))
      (xps_one (xp_ret (xs_if (xt_gt (xd_var 1) xd_int) (xs_v (xd_tup (xa_cons (xd_div (xd_var 0) (xd_var 2)) (xa_cons (xd_div (xd_var 1) (xd_var 2)) xa_nil)))) (xs_v (xd_tup (xa_cons (xd_div (xd_neg (xd_var 0)) (xd_var 2)) (xa_cons (xd_div (xd_neg (xd_var 1)) (xd_var 2)) xa_nil))))))))))
abbrev s__law_small : Stmt := top 47
abbrev n__law_small : List Str := ["_law_tape", "_law_top", "_law_bottom"]
theorem sc__law_small : FnScope n__law_small ["_law_tape"] (defScope s__law_small) := ⟨rfl, rfl, rfl, by decide +kernel, rfl, by decide +kernel, by decide +kernel⟩
def b__law_small (g__law_pair : Fn) (g__law_draw : Fn) : MSt :=
    (mSeq (mParS [1, 2] (msCons (mV (mBin subD (mFz (mCall 2 g__law_draw (mbR 0 (mbD (mC (.int 13)) mbNil)))) (mC (.int 6)))) (msCons (mV (mBin ixD (mFz (mLst (mCons (mC (.int 1)) (mCons (mC (.int 1)) (mCons (mC (.int 1)) (mCons (mC (.int 2)) (mCons (mC (.int 3)) (mCons (mC (.int 4)) mNil)))))))) (mFz (mCall 2 g__law_draw (mbR 0 (mbD (mC (.int 6)) mbNil)))))) msNil)))
    (mSeq (mIf (mKT eqX (.ex (mFz (mCall 2 g__law_draw (mbR 0 (mbD (mC (.int 9)) mbNil))))) (.ex (mC (.int 0)))) (mAsg 1 (mV (mBin ixD (mFz (mLst (mCons (mFz (mBinS addS (mBin powD (mC (.int 10)) (mC (.int 19))) (mVar 1))) (mCons (mBin subD (mC (.int 1)) (mBin powD (mC (.int 10)) (mC (.int 20)))) (mCons (mC (.int 999999)) mNil))))) (mFz (mCall 2 g__law_draw (mbR 0 (mbD (mC (.int 3)) mbNil))))))) mSkip)
    (mRet (mCall 2 g__law_pair (mbD (mVar 1) (mbD (mVar 2) mbNil))))))
def o__law_small (g__law_pair : Fn) (g__law_draw : Fn) : Fn := mFn n__law_small.length 1 (b__law_small g__law_pair g__law_draw)
theorem k__law_small (T : Bt mg) (C : Gs K mg) (I : Is K mg "_law_small" s__law_small ["_law_tape"]) {g__law_pair : Fn} (h__law_pair : Has P w K mg base "_law_pair" k 2 g__law_pair) {g__law_draw : Fn} (h__law_draw : Has P w K mg base "_law_draw" k 2 g__law_draw) : Has P w K mg base "_law_small" (k + 1) 1 (o__law_small g__law_pair g__law_draw) :=
  has_mk I sc__law_small rfl (by decide) fun f cdv A outer s H E hr => by exact (
      (xps_cons (xp_parS (i := 1) (j := 2) rfl sc__law_small.nd (by decide) (xas_cons (xs_v (xd_sub (xd_fz (xs_callH h__law_draw hr (xab_r 0 (xab_d xd_int xab_nil)))) xd_int)) (xas_cons (xs_v (xd_ix hr (xd_fz (xs_lst (xa_cons xd_int (xa_cons xd_int (xa_cons xd_int (xa_cons xd_int (xa_cons xd_int (xa_cons xd_int xa_nil)))))))) (xd_fz (xs_callH h__law_draw hr (xab_r 0 (xab_d xd_int xab_nil)))))) xas_nil)))
      (xps_cons (xp_if (xt_eqX hr (xk_ex (xd_fz (xs_callH h__law_draw hr (xab_r 0 (xab_d xd_int xab_nil))))) (xk_ex xd_int)) (xps_one (xp_set (i := 1) sc__law_small.nd (xs_v (xd_ix hr (xd_fz (xs_lst (xa_cons (xd_fz (xs_add (xd_pow xd_int xd_int) (xd_var 1))) (xa_cons (xd_sub xd_int (xd_pow xd_int xd_int)) (xa_cons xd_int xa_nil))))) (xd_fz (xs_callH h__law_draw hr (xab_r 0 (xab_d xd_int xab_nil)))))))) xps_nil)
      (xps_one (xp_ret (xs_callH h__law_pair hr (xab_d (xd_var 1) (xab_d (xd_var 2) xab_nil))))))))
abbrev s__law_same : Stmt := top 48
abbrev n__law_same : List Str := ["_law_found", "_law_due", "_law_part"]
theorem sc__law_same : FnScope n__law_same ["_law_found", "_law_due"] (defScope s__law_same) := ⟨rfl, rfl, rfl, by decide +kernel, rfl, by decide +kernel, by decide +kernel⟩
def b__law_same : MSt :=
    (mSeq (mIf (mOrT (mNotT (mTr (mIsiN "tuple" 0))) (mKT neX (.nm 0) (.nm 1))) (mRet (mV (mC (.bl false)))) mSkip)
    (mRet (mCB allF (mCons (mFz (mLc (mIA (mVar 0)) [2] (mgN 2) mYes (mAndV (mIsiN "int" 2) (mNotV (mIsiN "bool" 2))))) mNil))))
def o__law_same : Fn := mFn n__law_same.length 2 (b__law_same)
theorem k__law_same (T : Bt mg) (C : Gs K mg) (I : Is K mg "_law_same" s__law_same ["_law_found", "_law_due"]) : Has P w K mg base "_law_same" (k + 1) 2 (o__law_same) :=
  has_mk I sc__law_same rfl (by decide) fun f cdv A outer s H E hr => by exact (
      (xps_cons (xp_if ((xw_or (xt_not (xt_tr (xd_isiN 0 T.isinstance T.tuple bb_tuple))) (xw_or1 (xt_neX hr (xk_nm 0) (xk_nm 1))))).xt (xps_one (xp_ret (xs_v xd_bl))) xps_nil)
      (xps_one (xp_ret (xs_all T rfl (xa_cons (xd_fz (xs_lc (own := [("_law_part", 2)]) rfl sc__law_same.nd (xi_any (xd_var 0)) (blkOk_by (own := [("_law_part", 2)]) (N := n__law_same) (sc := defScope s__law_same) (by decide +kernel)) (fun _ _ _ _ _ => (xg_name 2 sc__law_same.nd)) (fun _ _ _ _ _ => xts_nil) (fun _ _ _ _ _ => (xd_and (xd_isiN 2 T.isinstance T.int bb_int) (xd_one (xd_not (xd_isiN 2 T.isinstance T.bool bb_bool))))))) xa_nil))))))
abbrev s__law_refused : Stmt := top 49
abbrev n__law_refused : List Str := ["_law_m", "_law_caught", "error"]
theorem sc__law_refused : FnScope n__law_refused ["_law_m"] (defScope s__law_refused) := ⟨rfl, rfl, rfl, by decide +kernel, rfl, by decide +kernel, by decide +kernel⟩
def m__law_refused : Fn := fun ss => match ss with
  | [.val d] => some (.val (.bl true), [.val d])
  | _ => none
abbrev s_law : Stmt := top 50
abbrev n_law : List Str := ["_law_script", "_law_k", "_law_tape", "_law_top", "_law_bottom", "_law_m", "_law_n", "_law_a", "_law_b", "_law_c", "_law_d", "_law_due", "_law_found", "_law_pair_here"]
theorem sc_law : FnScope n_law ["_law_script"] (defScope s_law) := ⟨rfl, rfl, rfl, by decide +kernel, rfl, by decide +kernel, by decide +kernel⟩
def b_law (g__law_begun : Fn) (g__law_same : Fn) (g__law_small : Fn) (g__law_refused : Fn) (g__law_draw : Fn) (g_fraction : Fn) (g__law_pair : Fn) (g_plus : Fn) (g_minus : Fn) (g_times : Fn) (g_root : Fn) (g_over : Fn) : MSt :=
    (mSeq (mFor (mIR1 (mCons (mFz (mBinS addS (mC (.int 1)) (mFz (mCB min2F (mCons (mC (.int 6)) (mCons (mLenN 0) mNil)))))) mNil)) (mgN 1) (mSeq (mAsg 2 (mCall 2 g__law_begun (mbD (mVar 0) (mbD (mVar 1) mbNil))))
    (mSeq (mParS [3, 4] (msCons (mV (mBin subD (mFz (mCall 2 g__law_draw (mbR 2 (mbD (mBin powD (mC (.int 10)) (mC (.int 6))) mbNil)))) (mC (.int 499999)))) (msCons (mV (mBin ixD (mFz (mLst (mCons (mC (.int 1)) (mCons (mU negD (mC (.int 1))) (mCons (mC (.int 2)) (mCons (mU negD (mC (.int 6))) (mCons (mBin powD (mC (.int 10)) (mC (.int 12))) (mCons (mC (.int 999999)) mNil)))))))) (mFz (mCall 2 g__law_draw (mbR 2 (mbD (mC (.int 6)) mbNil)))))) msNil)))
    (mSeq (mIf (mNotT (mTr (mFz (mCall 2 g__law_same (mbD (mFz (mCall 2 g_fraction (mbD (mVar 3) (mbD (mVar 4) mbNil)))) (mbD (mFz (mCall 2 g__law_pair (mbD (mVar 3) (mbD (mVar 4) mbNil)))) mbNil)))))) (mRet (mV (mC (.bl false)))) mSkip)
    (mSeq (mParS [5, 6] (msCons (mCall 1 g__law_small (mbR 2 mbNil)) (msCons (mCall 1 g__law_small (mbR 2 mbNil)) msNil)))
    (mSeq (mAsgG (mgU 4 (mgs1 (mgN 7) (mgs1 (mgN 8) (mgs1 (mgN 9) (mgs1 (mgN 10) mgs0))))) (mFz (mBinS addS (mVar 5) (mVar 6))))
    (mSeq (mAsg 11 (mLst (mCons (mTup (mCons (mFz (mCall 2 g_plus (mbD (mVar 5) (mbD (mVar 6) mbNil)))) (mCons (mTup (mCons (mFz (mBinS addS (mFz (mBinS mulS (mVar 7) (mVar 10))) (mFz (mBinS mulS (mVar 9) (mVar 8))))) (mCons (mFz (mBinS mulS (mVar 8) (mVar 10))) mNil))) mNil))) (mCons (mTup (mCons (mFz (mCall 2 g_minus (mbD (mVar 5) (mbD (mVar 6) mbNil)))) (mCons (mTup (mCons (mBin subD (mFz (mBinS mulS (mVar 7) (mVar 10))) (mFz (mBinS mulS (mVar 9) (mVar 8)))) (mCons (mFz (mBinS mulS (mVar 8) (mVar 10))) mNil))) mNil))) mNil))))
    (mSeq (mDrop (mMutL 11 appF (mCons (mTup (mCons (mFz (mCall 2 g_times (mbD (mVar 5) (mbD (mVar 6) mbNil)))) (mCons (mTup (mCons (mFz (mBinS mulS (mVar 7) (mVar 9))) (mCons (mFz (mBinS mulS (mVar 8) (mVar 10))) mNil))) mNil))) mNil)))
    (mSeq (mIf (mKT neX (.nm 9) (.ex (mC (.int 0)))) (mDrop (mMutL 11 appF (mCons (mTup (mCons (mFz (mCall 2 g_over (mbD (mVar 5) (mbD (mVar 6) mbNil)))) (mCons (mTup (mCons (mFz (mBinS mulS (mVar 7) (mVar 10))) (mCons (mFz (mBinS mulS (mVar 8) (mVar 9))) mNil))) mNil))) mNil))) mSkip)
    (mSeq (mIf (mNotT (mTr (mFz (mCB allF (mCons (mFz (mLc (mIA (mVar 11)) [12, 13] (mgU 2 (mgs1 (mgN 12) (mgs1 (mgN 13) mgs0))) mYes (mFz (mCall 2 g__law_same (mbD (mVar 12) (mbD (mFz (mCall 2 g__law_pair (mbD (mIxN 13 (mC (.int 0))) (mbD (mIxN 13 (mC (.int 1))) mbNil)))) mbNil)))))) mNil))))) (mRet (mV (mC (.bl false)))) mSkip)
    (mSeq (mIf (mNotT (mTr (mFz (mCall 1 g__law_refused (mbD (mVar 5) mbNil))))) (mRet (mV (mC (.bl false)))) mSkip)
    (mIf (mNotT (mTr (mFz (mCall 2 g__law_same (mbD (mFz (mCall 1 g_root (mbD (mFz (mCall 2 g_times (mbD (mVar 5) (mbD (mVar 5) mbNil)))) mbNil))) (mbD (mTup (mCons (mFz (mCB absF (mCons (mVar 7) mNil))) (mCons (mVar 8) mNil))) mbNil)))))) (mRet (mV (mC (.bl false)))) mSkip))))))))))))
    (mRet (mV (mC (.bl true)))))
def o_law (g__law_begun : Fn) (g__law_same : Fn) (g__law_small : Fn) (g__law_refused : Fn) (g__law_draw : Fn) (g_fraction : Fn) (g__law_pair : Fn) (g_plus : Fn) (g_minus : Fn) (g_times : Fn) (g_root : Fn) (g_over : Fn) : Fn := mFn n_law.length 1 (b_law g__law_begun g__law_same g__law_small g__law_refused g__law_draw g_fraction g__law_pair g_plus g_minus g_times g_root g_over)
theorem ka_law {f : Addr} {fd : FuncData} (I : At K mg "law" s_law ["_law_script"] f fd) (T : Bt mg) (C : Gs K mg) {g__law_begun : Fn} (h__law_begun : Has P w K mg base "_law_begun" k 2 g__law_begun) {g__law_same : Fn} (h__law_same : Has P w K mg base "_law_same" k 2 g__law_same) {g__law_small : Fn} (h__law_small : Has P w K mg base "_law_small" k 1 g__law_small) {g__law_refused : Fn} (h__law_refused : Has P w K mg base "_law_refused" k 1 g__law_refused) {g__law_draw : Fn} (h__law_draw : Has P w K mg base "_law_draw" k 2 g__law_draw) {g_fraction : Fn} (h_fraction : Has P w K mg base "fraction" k 2 g_fraction) {g__law_pair : Fn} (h__law_pair : Has P w K mg base "_law_pair" k 2 g__law_pair) {g_plus : Fn} (h_plus : Has P w K mg base "plus" k 2 g_plus) {g_minus : Fn} (h_minus : Has P w K mg base "minus" k 2 g_minus) {g_times : Fn} (h_times : Has P w K mg base "times" k 2 g_times) {g_root : Fn} (h_root : Has P w K mg base "root" k 1 g_root) {g_over : Fn} (h_over : Has P w K mg base "over" k 2 g_over) : FnOk P w K mg base CX0 (k + 1) f fd ["_law_script"] (spM K 1 (o_law g__law_begun g__law_same g__law_small g__law_refused g__law_draw g_fraction g__law_pair g_plus g_minus g_times g_root g_over)) :=
  fn_ok I.F sc_law rfl (by decide) fun cdv A outer s H E hr => by exact (
      (xps_cons (xp_for PassesOwn.never rfl (xi_range1 T.range (xa_cons (xd_fz (xs_add xd_int (xd_fz (xs_min2 T rfl (xa_cons xd_int (xa_cons (xd_lenN 0 T.len) xa_nil)))))) xa_nil)) (xg_name 1 sc_law.nd) (xps_cons (xp_set (i := 2) sc_law.nd (xs_callH h__law_begun hr (xab_d (xd_var 0) (xab_d (xd_var 1) xab_nil))))
      (xps_cons (xp_parS (i := 3) (j := 4) rfl sc_law.nd (by decide) (xas_cons (xs_v (xd_sub (xd_fz (xs_callH h__law_draw hr (xab_r 2 (xab_d (xd_pow xd_int xd_int) xab_nil)))) xd_int)) (xas_cons (xs_v (xd_ix hr (xd_fz (xs_lst (xa_cons xd_int (xa_cons (xd_neg xd_int) (xa_cons xd_int (xa_cons (xd_neg xd_int) (xa_cons (xd_pow xd_int xd_int) (xa_cons xd_int xa_nil)))))))) (xd_fz (xs_callH h__law_draw hr (xab_r 2 (xab_d xd_int xab_nil)))))) xas_nil)))
      (xps_cons (xp_if (xt_not (xt_tr (xd_fz (xs_callH h__law_same hr (xab_d (xd_fz (xs_callH h_fraction hr (xab_d (xd_var 3) (xab_d (xd_var 4) xab_nil)))) (xab_d (xd_fz (xs_callH h__law_pair hr (xab_d (xd_var 3) (xab_d (xd_var 4) xab_nil)))) xab_nil)))))) (xps_one (xp_ret (xs_v xd_bl))) xps_nil)
      (xps_cons (xp_parS (i := 5) (j := 6) rfl sc_law.nd (by decide) (xas_cons (xs_callH h__law_small hr (xab_r 2 xab_nil)) (xas_cons (xs_callH h__law_small hr (xab_r 2 xab_nil)) xas_nil)))
      (xps_cons (xp_asg (xd_fz (xs_add (xd_var 5) (xd_var 6))) (xg_unp (n := 4) rfl (xgs_cons (xg_name 7 sc_law.nd) (xgs_cons (xg_name 8 sc_law.nd) (xgs_cons (xg_name 9 sc_law.nd) (xgs_cons (xg_name 10 sc_law.nd) xgs_nil))))))
      (xps_cons (xp_set (i := 11) sc_law.nd (xs_lst (xa_cons (xd_tup (xa_cons (xd_fz (xs_callH h_plus hr (xab_d (xd_var 5) (xab_d (xd_var 6) xab_nil)))) (xa_cons (xd_tup (xa_cons (xd_fz (xs_add (xd_fz (xs_mul (xd_var 7) (xd_var 10))) (xd_fz (xs_mul (xd_var 9) (xd_var 8))))) (xa_cons (xd_fz (xs_mul (xd_var 8) (xd_var 10))) xa_nil))) xa_nil))) (xa_cons (xd_tup (xa_cons (xd_fz (xs_callH h_minus hr (xab_d (xd_var 5) (xab_d (xd_var 6) xab_nil)))) (xa_cons (xd_tup (xa_cons (xd_sub (xd_fz (xs_mul (xd_var 7) (xd_var 10))) (xd_fz (xs_mul (xd_var 9) (xd_var 8)))) (xa_cons (xd_fz (xs_mul (xd_var 8) (xd_var 10))) xa_nil))) xa_nil))) xa_nil))))
      (xps_cons (xp_expr (xs_append 11 (xa_cons (xd_tup (xa_cons (xd_fz (xs_callH h_times hr (xab_d (xd_var 5) (xab_d (xd_var 6) xab_nil)))) (xa_cons (xd_tup (xa_cons (xd_fz (xs_mul (xd_var 7) (xd_var 9))) (xa_cons (xd_fz (xs_mul (xd_var 8) (xd_var 10))) xa_nil))) xa_nil))) xa_nil)))
      (xps_cons (xp_if (xt_neX hr (xk_nm 9) (xk_ex xd_int)) (xps_one (xp_expr (xs_append 11 (xa_cons (xd_tup (xa_cons (xd_fz (xs_callH h_over hr (xab_d (xd_var 5) (xab_d (xd_var 6) xab_nil)))) (xa_cons (xd_tup (xa_cons (xd_fz (xs_mul (xd_var 7) (xd_var 10))) (xa_cons (xd_fz (xs_mul (xd_var 8) (xd_var 9))) xa_nil))) xa_nil))) xa_nil)))) xps_nil)
      (xps_cons (xp_if (xt_not (xt_tr (xd_fz (xs_all T rfl (xa_cons (xd_fz (xs_lc (own := [("_law_found", 12), ("_law_pair_here", 13)]) rfl sc_law.nd (xi_any (xd_var 11)) (blkOk_by (own := [("_law_found", 12), ("_law_pair_here", 13)]) (N := n_law) (sc := defScope s_law) (by decide +kernel)) (fun _ _ _ _ _ => (xg_unp (n := 2) rfl (xgs_cons (xg_name 12 sc_law.nd) (xgs_cons (xg_name 13 sc_law.nd) xgs_nil)))) (fun _ _ _ _ _ => xts_nil) (fun _ _ _ _ _ => (xd_fz (xs_callH h__law_same hr (xab_d (xd_var 12) (xab_d (xd_fz (xs_callH h__law_pair hr (xab_d (xd_ixN 13 hr xd_int) (xab_d (xd_ixN 13 hr xd_int) xab_nil)))) xab_nil))))))) xa_nil))))) (xps_one (xp_ret (xs_v xd_bl))) xps_nil)
      (xps_cons (xp_if (xt_not (xt_tr (xd_fz (xs_callH h__law_refused hr (xab_d (xd_var 5) xab_nil))))) (xps_one (xp_ret (xs_v xd_bl))) xps_nil)
      (xps_one (xp_if (xt_not (xt_tr (xd_fz (xs_callH h__law_same hr (xab_d (xd_fz (xs_callH h_root hr (xab_d (xd_fz (xs_callH h_times hr (xab_d (xd_var 5) (xab_d (xd_var 5) xab_nil)))) xab_nil))) (xab_d (xd_tup (xa_cons (xd_fz (xs_abs T (xa_cons (xd_var 7) xa_nil))) (xa_cons (xd_var 8) xa_nil))) xab_nil)))))) (xps_one (xp_ret (xs_v xd_bl))) xps_nil)))))))))))))
      (xps_one (xp_ret (xs_v xd_bl)))))
/-- the defs as they stand behind the top -/
structure Ds (K : PySem.W.Frag) (mg : Str → Option Value) : Prop where
  divisor_of : Is K mg "divisor_of" s_divisor_of ["one", "other"]
  pair_of : Is K mg "pair_of" s_pair_of ["top", "bottom"]
  pair_plus : Is K mg "pair_plus" s_pair_plus ["one", "other"]
  pair_times : Is K mg "pair_times" s_pair_times ["one", "other"]
  whole_root : Is K mg "whole_root" s_whole_root ["number"]
  square_out : Is K mg "square_out" s_square_out ["number"]
  depth_of : Is K mg "depth_of" s_depth_of ["number"]
  written : Is K mg "written" s_written ["number"]
  rank_of : Is K mg "rank_of" s_rank_of ["under"]
  outermost : Is K mg "outermost" s_outermost ["one", "other"]
  split : Is K mg "split" s_split ["number", "under"]
  joined : Is K mg "joined" s_joined ["one", "other", "under"]
  nest_plus : Is K mg "nest_plus" s_nest_plus ["one", "other"]
  nest_times : Is K mg "nest_times" s_nest_times ["one", "other"]
  nest_minus : Is K mg "nest_minus" s_nest_minus ["one", "other"]
  over_parts : Is K mg "over_parts" s_over_parts ["number"]
  nest_sign : Is K mg "nest_sign" s_nest_sign ["number"]
  nest_inverse : Is K mg "nest_inverse" s_nest_inverse ["number"]
  nest_root : Is K mg "nest_root" s_nest_root ["number"]
  settled : Is K mg "settled" s_settled ["number"]
  fraction : Is K mg "fraction" s_fraction ["top", "bottom"]
  plus : Is K mg "plus" s_plus ["m", "n"]
  minus : Is K mg "minus" s_minus ["m", "n"]
  times : Is K mg "times" s_times ["m", "n"]
  over : Is K mg "over" s_over ["m", "n"]
  root : Is K mg "root" s_root ["n"]
  _law_begun : Is K mg "_law_begun" s__law_begun ["_law_script", "_law_k"]
  _law_draw : Is K mg "_law_draw" s__law_draw ["_law_tape", "_law_many"]
  _law_pair : Is K mg "_law_pair" s__law_pair ["_law_top", "_law_bottom"]
  _law_small : Is K mg "_law_small" s__law_small ["_law_tape"]
  _law_same : Is K mg "_law_same" s__law_same ["_law_found", "_law_due"]
  _law_refused : Is K mg "_law_refused" s__law_refused ["_law_m"]
  law : Is K mg "law" s_law ["_law_script"]
def m_divisor_of : Fn := o_divisor_of
theorem r_divisor_of (T : Bt mg) (C : Gs K mg) (I : Ds K mg) : Has P w K mg base "divisor_of" 1 2 m_divisor_of := k_divisor_of T C I.divisor_of
def m_pair_of : Fn := o_pair_of m_divisor_of
theorem r_pair_of (T : Bt mg) (C : Gs K mg) (I : Ds K mg) : Has P w K mg base "pair_of" 2 2 m_pair_of := k_pair_of T C I.pair_of ((r_divisor_of T C I).mono (by decide))
def m_pair_plus : Fn := o_pair_plus m_pair_of
theorem r_pair_plus (T : Bt mg) (C : Gs K mg) (I : Ds K mg) : Has P w K mg base "pair_plus" 3 2 m_pair_plus := k_pair_plus T C I.pair_plus ((r_pair_of T C I).mono (by decide))
def m_pair_times : Fn := o_pair_times m_pair_of
theorem r_pair_times (T : Bt mg) (C : Gs K mg) (I : Ds K mg) : Has P w K mg base "pair_times" 3 2 m_pair_times := k_pair_times T C I.pair_times ((r_pair_of T C I).mono (by decide))
def m_whole_root : Fn := o_whole_root
theorem r_whole_root (T : Bt mg) (C : Gs K mg) (I : Ds K mg) : Has P w K mg base "whole_root" 1 1 m_whole_root := k_whole_root T C I.whole_root
def m_square_out : Fn := o_square_out m_whole_root
theorem r_square_out (T : Bt mg) (C : Gs K mg) (I : Ds K mg) : Has P w K mg base "square_out" 2 1 m_square_out := k_square_out T C I.square_out ((r_whole_root T C I).mono (by decide))
def q_depth_of : Nat → Fn
  | 0 => fun _ => none
  | n + 1 => o_depth_of (q_depth_of n)
theorem qs_depth_of (T : Bt mg) (C : Gs K mg) (I : Ds K mg) : ∀ n : Nat, Has P w K mg base "depth_of" (0 + n) 1 (q_depth_of n)
  | 0 => by rw [show q_depth_of 0 = (fun _ => none) from by simp only [q_depth_of]]; exact .none I.depth_of rfl
  | n + 1 => by
    have i_depth_of := qs_depth_of T C I n
    exact (by rw [show q_depth_of (n + 1) = o_depth_of (q_depth_of n) from by simp only [q_depth_of]]; exact k_depth_of T C I.depth_of i_depth_of)
def m_depth_of : Fn := q_depth_of 20
theorem r_depth_of (T : Bt mg) (C : Gs K mg) (I : Ds K mg) : Has P w K mg base "depth_of" 20 1 m_depth_of := (qs_depth_of T C I 20)
def q_written : Nat → Fn
  | 0 => fun _ => none
  | n + 1 => o_written (q_written n)
theorem qs_written (T : Bt mg) (C : Gs K mg) (I : Ds K mg) : ∀ n : Nat, Has P w K mg base "written" (0 + n) 1 (q_written n)
  | 0 => by rw [show q_written 0 = (fun _ => none) from by simp only [q_written]]; exact .none I.written rfl
  | n + 1 => by
    have i_written := qs_written T C I n
    exact (by rw [show q_written (n + 1) = o_written (q_written n) from by simp only [q_written]]; exact k_written T C I.written i_written)
def m_written : Fn := q_written 20
theorem r_written (T : Bt mg) (C : Gs K mg) (I : Ds K mg) : Has P w K mg base "written" 20 1 m_written := (qs_written T C I 20)
def m_rank_of : Fn := o_rank_of m_depth_of m_written
theorem r_rank_of (T : Bt mg) (C : Gs K mg) (I : Ds K mg) : Has P w K mg base "rank_of" 21 1 m_rank_of := k_rank_of T C I.rank_of ((r_depth_of T C I).mono (by decide)) ((r_written T C I).mono (by decide))
def m_outermost : Fn := o_outermost m_rank_of
theorem r_outermost (T : Bt mg) (C : Gs K mg) (I : Ds K mg) : Has P w K mg base "outermost" 22 2 m_outermost := k_outermost T C I.outermost ((r_rank_of T C I).mono (by decide))
def m_split : Fn := o_split
theorem r_split (T : Bt mg) (C : Gs K mg) (I : Ds K mg) : Has P w K mg base "split" 1 2 m_split := k_split T C I.split
mutual
def q_joined : Nat → Fn
  | 0 => fun _ => none
  | n + 1 => o_joined (q_nest_sign n)
def q_nest_plus : Nat → Fn
  | 0 => fun _ => none
  | n + 1 => o_nest_plus m_outermost m_split (q_joined n) m_pair_plus (q_nest_plus n)
def q_nest_times : Nat → Fn
  | 0 => fun _ => none
  | n + 1 => o_nest_times m_outermost m_split (q_nest_plus n) (q_joined n) m_pair_times (q_nest_times n)
def q_nest_minus : Nat → Fn
  | 0 => fun _ => none
  | n + 1 => o_nest_minus (q_nest_plus n) (q_nest_times n)
def q_over_parts : Nat → Fn
  | 0 => fun _ => none
  | n + 1 => o_over_parts (q_nest_minus n) (q_nest_times n)
def q_nest_sign : Nat → Fn
  | 0 => fun _ => none
  | n + 1 => o_nest_sign (q_nest_sign n) (q_over_parts n)
end
theorem qs_joined (T : Bt mg) (C : Gs K mg) (I : Ds K mg) : ∀ n : Nat, Has P w K mg base "joined" (22 + n) 3 (q_joined n) ∧ Has P w K mg base "nest_plus" (22 + n) 2 (q_nest_plus n) ∧ Has P w K mg base "nest_times" (22 + n) 2 (q_nest_times n) ∧ Has P w K mg base "nest_minus" (22 + n) 2 (q_nest_minus n) ∧ Has P w K mg base "over_parts" (22 + n) 1 (q_over_parts n) ∧ Has P w K mg base "nest_sign" (22 + n) 1 (q_nest_sign n)
  | 0 => ⟨by rw [show q_joined 0 = (fun _ => none) from by simp only [q_joined]]; exact .none I.joined rfl, by rw [show q_nest_plus 0 = (fun _ => none) from by simp only [q_nest_plus]]; exact .none I.nest_plus rfl, by rw [show q_nest_times 0 = (fun _ => none) from by simp only [q_nest_times]]; exact .none I.nest_times rfl, by rw [show q_nest_minus 0 = (fun _ => none) from by simp only [q_nest_minus]]; exact .none I.nest_minus rfl, by rw [show q_over_parts 0 = (fun _ => none) from by simp only [q_over_parts]]; exact .none I.over_parts rfl, by rw [show q_nest_sign 0 = (fun _ => none) from by simp only [q_nest_sign]]; exact .none I.nest_sign rfl⟩
  | n + 1 => by
    obtain ⟨i_joined, i_nest_plus, i_nest_times, i_nest_minus, i_over_parts, i_nest_sign⟩ := qs_joined T C I n
    exact ⟨by rw [show q_joined (n + 1) = o_joined (q_nest_sign n) from by simp only [q_joined]]; exact k_joined T C I.joined i_nest_sign,
      by rw [show q_nest_plus (n + 1) = o_nest_plus m_outermost m_split (q_joined n) m_pair_plus (q_nest_plus n) from by simp only [q_nest_plus]]; exact k_nest_plus T C I.nest_plus ((r_outermost T C I).mono (Nat.le_trans (show 22 ≤ 22 by decide) (Nat.le_add_right 22 n))) ((r_split T C I).mono (Nat.le_trans (show 1 ≤ 22 by decide) (Nat.le_add_right 22 n))) i_joined ((r_pair_plus T C I).mono (Nat.le_trans (show 3 ≤ 22 by decide) (Nat.le_add_right 22 n))) i_nest_plus,
      by rw [show q_nest_times (n + 1) = o_nest_times m_outermost m_split (q_nest_plus n) (q_joined n) m_pair_times (q_nest_times n) from by simp only [q_nest_times]]; exact k_nest_times T C I.nest_times ((r_outermost T C I).mono (Nat.le_trans (show 22 ≤ 22 by decide) (Nat.le_add_right 22 n))) ((r_split T C I).mono (Nat.le_trans (show 1 ≤ 22 by decide) (Nat.le_add_right 22 n))) i_nest_plus i_joined ((r_pair_times T C I).mono (Nat.le_trans (show 3 ≤ 22 by decide) (Nat.le_add_right 22 n))) i_nest_times,
      by rw [show q_nest_minus (n + 1) = o_nest_minus (q_nest_plus n) (q_nest_times n) from by simp only [q_nest_minus]]; exact k_nest_minus T C I.nest_minus i_nest_plus i_nest_times,
      by rw [show q_over_parts (n + 1) = o_over_parts (q_nest_minus n) (q_nest_times n) from by simp only [q_over_parts]]; exact k_over_parts T C I.over_parts i_nest_minus i_nest_times,
      by rw [show q_nest_sign (n + 1) = o_nest_sign (q_nest_sign n) (q_over_parts n) from by simp only [q_nest_sign]]; exact k_nest_sign T C I.nest_sign i_nest_sign i_over_parts⟩
def m_joined : Fn := q_joined 20
theorem r_joined (T : Bt mg) (C : Gs K mg) (I : Ds K mg) : Has P w K mg base "joined" 42 3 m_joined := (qs_joined T C I 20).1
def m_nest_plus : Fn := q_nest_plus 20
theorem r_nest_plus (T : Bt mg) (C : Gs K mg) (I : Ds K mg) : Has P w K mg base "nest_plus" 42 2 m_nest_plus := (qs_joined T C I 20).2.1
def m_nest_times : Fn := q_nest_times 20
theorem r_nest_times (T : Bt mg) (C : Gs K mg) (I : Ds K mg) : Has P w K mg base "nest_times" 42 2 m_nest_times := (qs_joined T C I 20).2.2.1
def m_nest_minus : Fn := q_nest_minus 20
theorem r_nest_minus (T : Bt mg) (C : Gs K mg) (I : Ds K mg) : Has P w K mg base "nest_minus" 42 2 m_nest_minus := (qs_joined T C I 20).2.2.2.1
def m_over_parts : Fn := q_over_parts 20
theorem r_over_parts (T : Bt mg) (C : Gs K mg) (I : Ds K mg) : Has P w K mg base "over_parts" 42 1 m_over_parts := (qs_joined T C I 20).2.2.2.2.1
def m_nest_sign : Fn := q_nest_sign 20
theorem r_nest_sign (T : Bt mg) (C : Gs K mg) (I : Ds K mg) : Has P w K mg base "nest_sign" 42 1 m_nest_sign := (qs_joined T C I 20).2.2.2.2.2
def q_nest_inverse : Nat → Fn
  | 0 => fun _ => none
  | n + 1 => o_nest_inverse m_over_parts m_nest_times m_pair_of m_nest_sign (q_nest_inverse n) m_nest_plus
theorem qs_nest_inverse (T : Bt mg) (C : Gs K mg) (I : Ds K mg) : ∀ n : Nat, Has P w K mg base "nest_inverse" (42 + n) 1 (q_nest_inverse n)
  | 0 => by rw [show q_nest_inverse 0 = (fun _ => none) from by simp only [q_nest_inverse]]; exact .none I.nest_inverse rfl
  | n + 1 => by
    have i_nest_inverse := qs_nest_inverse T C I n
    exact (by rw [show q_nest_inverse (n + 1) = o_nest_inverse m_over_parts m_nest_times m_pair_of m_nest_sign (q_nest_inverse n) m_nest_plus from by simp only [q_nest_inverse]]; exact k_nest_inverse T C I.nest_inverse ((r_over_parts T C I).mono (Nat.le_trans (show 42 ≤ 42 by decide) (Nat.le_add_right 42 n))) ((r_nest_times T C I).mono (Nat.le_trans (show 42 ≤ 42 by decide) (Nat.le_add_right 42 n))) ((r_pair_of T C I).mono (Nat.le_trans (show 2 ≤ 42 by decide) (Nat.le_add_right 42 n))) ((r_nest_sign T C I).mono (Nat.le_trans (show 42 ≤ 42 by decide) (Nat.le_add_right 42 n))) i_nest_inverse ((r_nest_plus T C I).mono (Nat.le_trans (show 42 ≤ 42 by decide) (Nat.le_add_right 42 n))))
def m_nest_inverse : Fn := q_nest_inverse 20
theorem r_nest_inverse (T : Bt mg) (C : Gs K mg) (I : Ds K mg) : Has P w K mg base "nest_inverse" 62 1 m_nest_inverse := (qs_nest_inverse T C I 20)
def m_nest_root : Fn := o_nest_root m_square_out m_pair_of m_nest_sign
theorem r_nest_root (T : Bt mg) (C : Gs K mg) (I : Ds K mg) : Has P w K mg base "nest_root" 43 1 m_nest_root := k_nest_root T C I.nest_root ((r_square_out T C I).mono (by decide)) ((r_pair_of T C I).mono (by decide)) ((r_nest_sign T C I).mono (by decide))
def q_settled : Nat → Fn
  | 0 => fun _ => none
  | n + 1 => o_settled m_nest_root m_nest_plus (q_settled n) m_nest_times
theorem qs_settled (T : Bt mg) (C : Gs K mg) (I : Ds K mg) : ∀ n : Nat, Has P w K mg base "settled" (43 + n) 1 (q_settled n)
  | 0 => by rw [show q_settled 0 = (fun _ => none) from by simp only [q_settled]]; exact .none I.settled rfl
  | n + 1 => by
    have i_settled := qs_settled T C I n
    exact (by rw [show q_settled (n + 1) = o_settled m_nest_root m_nest_plus (q_settled n) m_nest_times from by simp only [q_settled]]; exact k_settled T C I.settled ((r_nest_root T C I).mono (Nat.le_trans (show 43 ≤ 43 by decide) (Nat.le_add_right 43 n))) ((r_nest_plus T C I).mono (Nat.le_trans (show 42 ≤ 43 by decide) (Nat.le_add_right 43 n))) i_settled ((r_nest_times T C I).mono (Nat.le_trans (show 42 ≤ 43 by decide) (Nat.le_add_right 43 n))))
def m_settled : Fn := q_settled 20
theorem r_settled (T : Bt mg) (C : Gs K mg) (I : Ds K mg) : Has P w K mg base "settled" 63 1 m_settled := (qs_settled T C I 20)
def m_fraction : Fn := o_fraction m_pair_of
theorem r_fraction (T : Bt mg) (C : Gs K mg) (I : Ds K mg) : Has P w K mg base "fraction" 3 2 m_fraction := k_fraction T C I.fraction ((r_pair_of T C I).mono (by decide))
def m_plus : Fn := o_plus m_nest_plus m_settled
theorem r_plus (T : Bt mg) (C : Gs K mg) (I : Ds K mg) : Has P w K mg base "plus" 64 2 m_plus := k_plus T C I.plus ((r_nest_plus T C I).mono (by decide)) ((r_settled T C I).mono (by decide))
def m_minus : Fn := o_minus m_nest_minus m_settled
theorem r_minus (T : Bt mg) (C : Gs K mg) (I : Ds K mg) : Has P w K mg base "minus" 64 2 m_minus := k_minus T C I.minus ((r_nest_minus T C I).mono (by decide)) ((r_settled T C I).mono (by decide))
def m_times : Fn := o_times m_nest_times m_settled
theorem r_times (T : Bt mg) (C : Gs K mg) (I : Ds K mg) : Has P w K mg base "times" 64 2 m_times := k_times T C I.times ((r_nest_times T C I).mono (by decide)) ((r_settled T C I).mono (by decide))
def m_over : Fn := o_over m_settled m_nest_times m_nest_sign m_nest_inverse
theorem r_over (T : Bt mg) (C : Gs K mg) (I : Ds K mg) : Has P w K mg base "over" 64 2 m_over := k_over T C I.over ((r_settled T C I).mono (by decide)) ((r_nest_times T C I).mono (by decide)) ((r_nest_sign T C I).mono (by decide)) ((r_nest_inverse T C I).mono (by decide))
def m_root : Fn := o_root m_settled m_nest_root m_nest_sign
theorem r_root (T : Bt mg) (C : Gs K mg) (I : Ds K mg) : Has P w K mg base "root" 64 1 m_root := k_root T C I.root ((r_settled T C I).mono (by decide)) ((r_nest_root T C I).mono (by decide)) ((r_nest_sign T C I).mono (by decide))
def m__law_begun : Fn := o__law_begun
theorem r__law_begun (T : Bt mg) (C : Gs K mg) (I : Ds K mg) : Has P w K mg base "_law_begun" 1 2 m__law_begun := k__law_begun T C I._law_begun
def m__law_draw : Fn := o__law_draw
theorem r__law_draw (T : Bt mg) (C : Gs K mg) (I : Ds K mg) : Has P w K mg base "_law_draw" 1 2 m__law_draw := k__law_draw T C I._law_draw
def m__law_pair : Fn := o__law_pair
theorem r__law_pair (T : Bt mg) (C : Gs K mg) (I : Ds K mg) : Has P w K mg base "_law_pair" 1 2 m__law_pair := k__law_pair T C I._law_pair
def m__law_small : Fn := o__law_small m__law_pair m__law_draw
theorem r__law_small (T : Bt mg) (C : Gs K mg) (I : Ds K mg) : Has P w K mg base "_law_small" 2 1 m__law_small := k__law_small T C I._law_small ((r__law_pair T C I).mono (by decide)) ((r__law_draw T C I).mono (by decide))
def m__law_same : Fn := o__law_same
theorem r__law_same (T : Bt mg) (C : Gs K mg) (I : Ds K mg) : Has P w K mg base "_law_same" 1 2 m__law_same := k__law_same T C I._law_same
def m_law : Fn := o_law m__law_begun m__law_same m__law_small m__law_refused m__law_draw m_fraction m__law_pair m_plus m_minus m_times m_root m_over
theorem kit_no {K : PySem.W.Frag} {a b : Addr} (h1 : PySem.W.hasDictIn K b = true) (h2 : PySem.W.typeIn K (.ref b) = some (.type "type")) (h3 : PySem.W.subIn K (.ref a) (.ref b) = some false) (h4 : PySem.W.subIn K (.ref a) (.ref a) = some true) : PySem.W.kitOne K (.ref a) (.ref b) = some false := by
  have ne : ((Value.ref a) == (Value.ref b)) = false := by
    rw [Bool.eq_false_iff]
    intro e
    have e2 := beq_iff_eq.mp e
    rw [← e2, h4] at h3
    cases h3
  obtain ⟨cd, hc, _⟩ := PySem.W.any_some h1
  show (if ((Value.ref a) == (Value.ref b)) = true then some true else (if ((PySem.W.clsIn K b).isSome && PySem.W.typeIn K (.ref b) == some (.type "type")) = true then PySem.W.subIn K (.ref a) (.ref b) else none)) = some false
  rw [ne, hc, h2, if_neg Bool.false_ne_true, if_pos (show ((some cd).isSome && some (Value.type "type") == some (Value.type "type")) = true from by rw [beq_self_eq_true]; rfl)]
  exact h3
theorem kit_val {K : PySem.W.Frag} {a : Addr} (h : PySem.W.subIn K (.ref a) (.type "ValueError") = some true) : PySem.W.kitOne K (.ref a) (.type "ValueError") = some true := by
  show (if ((Value.ref a) == (Value.type "ValueError")) = true then some true else (if PySem.W.kitMeta "ValueError" = true then PySem.W.subIn K (.ref a) (.type "ValueError") else none)) = some true
  rw [if_pos (show PySem.W.kitMeta "ValueError" = true from by decide +kernel), h]
  split <;> rfl
/-- what the top's classes say -/
structure Es (K : PySem.W.Frag) (mg : Str → Option Value) (yW yB y1 y2 y3 y4 y5 y6 y7 y8 : Addr) : Prop where
  mW : mg "WishError" = some (.ref yW)
  mB : mg "ByNought" = some (.ref yB)
  m1 : mg "BadRow" = some (.ref y1)
  m2 : mg "BadWish" = some (.ref y2)
  m3 : mg "Nailed" = some (.ref y3)
  m4 : mg "NoDrawing" = some (.ref y4)
  m5 : mg "NoPoint" = some (.ref y5)
  m6 : mg "NoRoot" = some (.ref y6)
  m7 : mg "NoWish" = some (.ref y7)
  m8 : mg "NotNailed" = some (.ref y8)
  v : mg "ValueError" = none
  q : PySem.W.excIn K yB [.type "ValueError", .type "Exception", .type "BaseException", .type "object"] "ValueError.__new__" = true
  kB : PySem.W.keepIn K (.ref yB) = true
  sB : PySem.W.subIn K (.ref yB) (.type "BaseException") = some true
  tB : PySem.W.typeIn K (.ref yB) = some (.type "type")
  xE : PySem.W.exmOne K (.ref yB) (.ref yW) = some true
  eB : ExcC K yB
  o1 : PySem.W.kitOne K (.ref yB) (.ref y1) = some false
  o2 : PySem.W.kitOne K (.ref yB) (.ref y2) = some false
  o3 : PySem.W.kitOne K (.ref yB) (.ref y3) = some false
  o4 : PySem.W.kitOne K (.ref yB) (.ref y4) = some false
  o5 : PySem.W.kitOne K (.ref yB) (.ref y5) = some false
  o6 : PySem.W.kitOne K (.ref yB) (.ref y6) = some false
  o7 : PySem.W.kitOne K (.ref yB) (.ref y7) = some false
  o8 : PySem.W.kitOne K (.ref yB) (.ref y8) = some false
  oV : PySem.W.kitOne K (.ref yB) (.type "ValueError") = some true
variable {yW yB y1 y2 y3 y4 y5 y6 y7 y8 : Addr}
/-- over(m, nought) lets ByNought out -/
def spR (K : PySem.W.Frag) (C : Addr) : Sp := fun vs H _ E => vs.length = 2 ∧ (∃ F x, vs[1]? = some x ∧ Ex F H ∧ Rp K F x (.tup [.int 0, .int 1])) ∧ ∀ H', Ex H H' → E (.ref C) none H'
theorem no_own {σ : L2.St} {ρ : Rho} (h : ∀ (i : Nat) p o, ρ[i]? ≠ some (.own p o)) {F H : Hp} {σ' : L2.St} {ρ' : Rho} {F' H' : Hp} (s : Stp σ ρ F H σ' ρ' F' H') : Ex H H' := fun a o e => s.fr a o e fun ⟨i, p, u, z, _⟩ => h i p u z
theorem over_raises (T : Bt mg) (C : Gs K mg) (I : Ds K mg) (E : Es K mg yW yB y1 y2 y3 y4 y5 y6 y7 y8) :
    ∃ f fd, mg "over" = some (.ref f) ∧ PySem.W.keepIn K (.ref f) = true ∧ Binds K fd ["m", "n"] [] ∧ FnOk P w K mg base (L2.CX P w) 64 f fd ["m", "n"] (spR K yB) := by
  obtain ⟨f, fd, A⟩ := I.over
  refine ⟨f, fd, A.g, A.F.kp, A.b, A.F.okX (k := 63) sc_over (fun vs H Q E h => h.1) fun cdv A' outer s H vs Q E' hr h => ?_⟩
  refine ⟨_, pss_cons (xp_set (i := 2) sc_over.nd (xs_callH ((r_settled T C I).mono (by decide)) hr (xab_d (xd_var 1) xab_nil))).ps
    (pss_cons (ps_if (xt_eqX hr (xk_ex (xd_fz (xs_callH ((r_nest_sign T C I).mono (by decide)) hr (xab_d (xd_var 2) xab_nil)))) (xk_ex xd_int)).pt
      (pss_one (ps_raise rfl (takes_of rfl rfl rfl rfl) (pmk_own PySem.F.excBase_ValueError E.q E.mB E.kB (raises_own E.sB E.tB) rfl))) pss_nil)
      (xps_one (xp_ret (xs_callH ((r_nest_times T C I).mono (by decide)) hr (xab_d (xd_fz (xs_callH ((r_settled T C I).mono (by decide)) hr (xab_d (xd_var 0) xab_nil))) (xab_d (xd_fz (xs_callH ((r_nest_inverse T C I).mono (by decide)) hr (xab_d (xd_var 2) xab_nil))) xab_nil))))).pss), ?_⟩
  obtain ⟨hv, ⟨F, x, hx, ex, rx⟩, hE⟩ := h
  rcases vs with _ | ⟨v, _ | ⟨x', _ | ⟨_, _⟩⟩⟩
  · cases hv
  · cases hv
  · cases hx
    have c : Cfg K F H ([v, x].map some) [.un, .val (.tup [.int 0, .int 1])] := by
      refine ⟨ex, rfl, fun i s h => ?_, fun i j p q o u a h1 => ?_⟩
      · match i, h with
        | 0, h => cases h; trivial
        | 1, h => cases h; exact ⟨x, rfl, rx⟩
      · match i, h1 with
        | 0, h1 => cases h1
        | 1, h1 => cases h1
    have c0 := c.enter (N := n_over) (k := 1) rfl rfl
    have no1 : ∀ (i : Nat) p o, ([.un, .val (.tup [.int 0, .int 1]), .un] : Rho)[i]? ≠ some (.own p o) := fun i p o h => by
      match i, h with
      | 0, h => cases h
      | 1, h => cases h
      | 2, h => cases h
    have no2 : ∀ (i : Nat) p o, ([.un, .val (.tup [.int 0, .int 1]), .val (.tup [.int 0, .int 1])] : Rho)[i]? ≠ some (.own p o) := fun i p o h => by
      match i, h with
      | 0, h => cases h
      | 1, h => cases h
      | 2, h => cases h
    refine ⟨F, _, .nx, [.un, .val (.tup [.int 0, .int 1]), .val (.tup [.int 0, .int 1])], c0, by kernel_rfl, fun σ1 F1 H1 g1 s1 => ?_⟩
    refine ⟨F1, _, true, [.un, .val (.tup [.int 0, .int 1]), .val (.tup [.int 0, .int 1])], g1, by kernel_rfl, fun F2 H2 g2 s2 => ?_⟩
    exact hE H2 ((no_own no1 s1).trans (no_own no2 s2))
  · simp at hv
theorem boot_valueError : bootBuiltins "ValueError" = some (.type "ValueError") := by decide +kernel
theorem r__law_refused (T : Bt mg) (C : Gs K mg) (I : Ds K mg) (E : Es K mg yW yB y1 y2 y3 y4 y5 y6 y7 y8) : Has P w K mg base "_law_refused" 65 1 m__law_refused := by
  obtain ⟨fo, fdo, mgo, kpo, bo, FO⟩ := over_raises (P := P) (w := w) (base := base) T C I E
  obtain ⟨f, fd, A⟩ := I._law_refused
  refine ⟨f, fd, ["_law_m"], A.g, A.F.kp, A.b, A.F.ok (k := 64) sc__law_refused (spM_len rfl) fun cdv A' outer s H vs Q E' hr h => ?_⟩
  refine ⟨_, pss_cons (ps_set (i := 1) sc__law_refused.nd rfl (Or.inl rfl) pe_non)
    (pss_cons (ps_try_kept (i := 2) rfl rfl rfl sc__law_refused.nd rfl rfl ⟨rfl, by decide, .inl E.mW⟩
        (fun W pn xe tk _ => pss_one (ps_expr (pe_callS FO hr rfl mgo kpo bo (fun σ => passAt tk σ) (pa_cons (pv 0) (pa_cons (pe_tup (pa_cons pe_int (pa_cons pe_int pa_nil))) pa_nil)))))
        (fun a o cls d pn hz hf => pss_one (ps_set (i := 1) sc__law_refused.nd rfl (Or.inl rfl) (pv 2))))
    (pss_cons (ps_if (pt_val (pe_callB (call_isKeptT E.eB) rfl T.isinstance PyProof.Rows.boot_isinstance (pa_cons (pv 1) (pa_cons (pe_tup (pa_cons (pe_glob (v := .ref y1) rfl E.m1 rfl) (pa_cons (pe_glob (v := .ref y2) rfl E.m2 rfl) (pa_cons (pe_glob (v := .ref y3) rfl E.m3 rfl) (pa_cons (pe_glob (v := .ref y4) rfl E.m4 rfl) (pa_cons (pe_glob (v := .ref y5) rfl E.m5 rfl) (pa_cons (pe_glob (v := .ref y6) rfl E.m6 rfl) (pa_cons (pe_glob (v := .ref y7) rfl E.m7 rfl) (pa_cons (pe_glob (v := .ref y8) rfl E.m8 rfl) pa_nil))))))))) pa_nil)))) (pss_one (ps_ret pe_bl)) pss_nil)
    (pss_one (ps_ret (pe_and (pe_callB (call_isKept E.eB) rfl T.isinstance PyProof.Rows.boot_isinstance (pa_cons (pv 1) (pa_cons (pe_glob (v := .ref yB) rfl E.mB rfl) pa_nil)))
      (pe_one (pe_callB (call_isKept E.eB) rfl T.isinstance PyProof.Rows.boot_isinstance (pa_cons (pv 1) (pa_cons (pe_bltn (v := .ty "ValueError") rfl E.v boot_valueError rfl) pa_nil))))))))), ?_⟩
  obtain ⟨hv, F, ρ, sl, ρ', hl, pn, c, e, q⟩ := h
  rcases vs with _ | ⟨v, _ | ⟨_, _⟩⟩
  · cases hv
  · unfold m__law_refused at e
    split at e
    · rename_i d
      cases e
      refine ⟨v, rfl, by decide, fun p hp => ?_⟩
      obtain ⟨g, rr⟩ := new_tup (K := K) (F := F) (H := H) (ds := [.int 0, .int 1]) (xs := [.int 0, .int 1]) c.ex hp (.cons (.int 0) (.cons (.int 1) .nil))
      refine ⟨rfl, ⟨_, _, rfl, g.fh, rr⟩, fun H' ex => ⟨E.xE, rfl, fun a ha => ⟨.ref a, rfl, ?_⟩⟩⟩
      have eH : Ex H H' := g.h.trans ex
      refine ⟨.ref a, rfl, (by decide : 8 ≤ sizeLine), fun l hl => ⟨a, l, [.ref y1, .ref y2, .ref y3, .ref y4, .ref y5, .ref y6, .ref y7, .ref y8], [.ref y1, .ref y2, .ref y3, .ref y4, .ref y5, .ref y6, .ref y7, .ref y8], false, rfl, ?_, upd_same, (.cons (.own _) (.cons (.own _) (.cons (.own _) (.cons (.own _) (.cons (.own _) (.cons (.own _) (.cons (.own _) (.cons (.own _) .nil)))))))), kitAny_cons E.o1 (fun _ => kitAny_cons E.o2 (fun _ => kitAny_cons E.o3 (fun _ => kitAny_cons E.o4 (fun _ => kitAny_cons E.o5 (fun _ => kitAny_cons E.o6 (fun _ => kitAny_cons E.o7 (fun _ => kitAny_cons E.o8 (fun _ => kitAny_nil) (fun z => nomatch z)) (fun z => nomatch z)) (fun z => nomatch z)) (fun z => nomatch z)) (fun z => nomatch z)) (fun z => nomatch z)) (fun z => nomatch z)) (fun z => nomatch z), false, rfl, ?_⟩⟩
      · rw [upd_ne (ne_of_none upd_same hl)]
        exact upd_same
      · have hA : upd (upd H' a (KeptE (.ref yB) a)) l (.tup [.ref y1, .ref y2, .ref y3, .ref y4, .ref y5, .ref y6, .ref y7, .ref y8]) a = some (KeptE (.ref yB) a) := by
          rw [upd_ne (ne_of_none upd_same hl)]
          exact upd_same
        have hB : PySem.W.kitOne K (.ref yB) (.ref yB) = some true := if_pos (beq_self_eq_true _)
        refine ⟨.ref a, rfl, a, _, _, true, rfl, hA, .own _, hB, true, rfl, ?_⟩
        refine ⟨.ref a, rfl, a, _, _, true, rfl, hA, .ty _, E.oV, ?_⟩
        have e3 : Ex H (upd (upd H' a (KeptE (.ref yB) a)) l (.tup [.ref y1, .ref y2, .ref y3, .ref y4, .ref y5, .ref y6, .ref y7, .ref y8])) := fun b o h => by
          have h1 := eH b o h
          have na : b ≠ a := fun z => by rw [z, ha] at h1; cases h1
          have nl : b ≠ l := fun z => by
            rw [z] at h1
            rw [upd_ne (fun y => na (z.trans y)), h1] at hl
            cases hl
          rw [upd_ne nl, upd_ne na]
          exact h1
        have no : ∀ a, ¬ Owns ([v].map some) [.val d] a := fun a ⟨i, p, o, z, _⟩ => by
          match i, z with
          | 0, z => cases z
        refine q _ F _ ⟨c.ex.trans e3, c.len, fun i s h => ?_, fun i j p q o u a h1 => ?_⟩ ⟨.refl F, fun a o h _ => e3 a o h, fun a h z => ?_, fun a h z => absurd h z, fun a h => absurd h (no a), fun a h => absurd h.owns (no a), fun i o h => ?_⟩ ?_
        · match i, h with
          | 0, h =>
          cases h
          exact c.sl 0 _ rfl
        · match i, h1 with
          | 0, h1 => cases h1
        · cases z' : H a with
          | none => exact h z'
          | some o =>
            rw [e3 a o z'] at z
            cases z
        · match i, h with
          | 0, h => cases h
        · exact Rp.bl true
    · cases e
  · simp at hv
end
theorem all_mk {l : PySem.W.OpenLaw} {w : World} {K : PySem.W.Frag} {h : Heap} {mg : Str → Option Value} {fa : Addr} (X : K.In h) (G : h.Ns mainGlobals mg) (hfa : mg "law" = some (.ref fa)) (hl : lawOk m_law)
    {f0 : Addr} {od0 an0 : Option Addr} {sl0 : Array (Option Value)} {oc0 kV0 dc0 pm0 cd0 ct0 : Value}
    {f1 : Addr} {od1 an1 : Option Addr} {sl1 : Array (Option Value)} {oc1 kV1 dc1 pm1 cd1 ct1 : Value}
    {f2 : Addr} {od2 an2 : Option Addr} {sl2 : Array (Option Value)} {oc2 kV2 dc2 pm2 cd2 ct2 : Value}
    {f3 : Addr} {od3 an3 : Option Addr} {sl3 : Array (Option Value)} {oc3 kV3 dc3 pm3 cd3 ct3 : Value}
    {f4 : Addr} {od4 an4 : Option Addr} {sl4 : Array (Option Value)} {oc4 kV4 dc4 pm4 cd4 ct4 : Value}
    {f5 : Addr} {od5 an5 : Option Addr} {sl5 : Array (Option Value)} {oc5 kV5 dc5 pm5 cd5 ct5 : Value}
    {f6 : Addr} {od6 an6 : Option Addr} {sl6 : Array (Option Value)} {oc6 kV6 dc6 pm6 cd6 ct6 : Value}
    {f7 : Addr} {od7 an7 : Option Addr} {sl7 : Array (Option Value)} {oc7 kV7 dc7 pm7 cd7 ct7 : Value}
    {f8 : Addr} {od8 an8 : Option Addr} {sl8 : Array (Option Value)} {oc8 kV8 dc8 pm8 cd8 ct8 : Value}
    {f9 : Addr} {od9 an9 : Option Addr} {sl9 : Array (Option Value)} {oc9 kV9 dc9 pm9 cd9 ct9 : Value}
    {f10 : Addr} {od10 an10 : Option Addr} {sl10 : Array (Option Value)} {oc10 kV10 dc10 pm10 cd10 ct10 : Value}
    {f11 : Addr} {od11 an11 : Option Addr} {sl11 : Array (Option Value)} {oc11 kV11 dc11 pm11 cd11 ct11 : Value}
    {f12 : Addr} {od12 an12 : Option Addr} {sl12 : Array (Option Value)} {oc12 kV12 dc12 pm12 cd12 ct12 : Value}
    {f13 : Addr} {od13 an13 : Option Addr} {sl13 : Array (Option Value)} {oc13 kV13 dc13 pm13 cd13 ct13 : Value}
    {f14 : Addr} {od14 an14 : Option Addr} {sl14 : Array (Option Value)} {oc14 kV14 dc14 pm14 cd14 ct14 : Value}
    {f15 : Addr} {od15 an15 : Option Addr} {sl15 : Array (Option Value)} {oc15 kV15 dc15 pm15 cd15 ct15 : Value}
    {f16 : Addr} {od16 an16 : Option Addr} {sl16 : Array (Option Value)} {oc16 kV16 dc16 pm16 cd16 ct16 : Value}
    {f17 : Addr} {od17 an17 : Option Addr} {sl17 : Array (Option Value)} {oc17 kV17 dc17 pm17 cd17 ct17 : Value}
    {f18 : Addr} {od18 an18 : Option Addr} {sl18 : Array (Option Value)} {oc18 kV18 dc18 pm18 cd18 ct18 : Value}
    {f19 : Addr} {od19 an19 : Option Addr} {sl19 : Array (Option Value)} {oc19 kV19 dc19 pm19 cd19 ct19 : Value}
    {f20 : Addr} {od20 an20 : Option Addr} {sl20 : Array (Option Value)} {oc20 kV20 dc20 pm20 cd20 ct20 : Value}
    {f21 : Addr} {od21 an21 : Option Addr} {sl21 : Array (Option Value)} {oc21 kV21 dc21 pm21 cd21 ct21 : Value}
    {f22 : Addr} {od22 an22 : Option Addr} {sl22 : Array (Option Value)} {oc22 kV22 dc22 pm22 cd22 ct22 : Value}
    {f23 : Addr} {od23 an23 : Option Addr} {sl23 : Array (Option Value)} {oc23 kV23 dc23 pm23 cd23 ct23 : Value}
    {f24 : Addr} {od24 an24 : Option Addr} {sl24 : Array (Option Value)} {oc24 kV24 dc24 pm24 cd24 ct24 : Value}
    {f25 : Addr} {od25 an25 : Option Addr} {sl25 : Array (Option Value)} {oc25 kV25 dc25 pm25 cd25 ct25 : Value}
    {f26 : Addr} {od26 an26 : Option Addr} {sl26 : Array (Option Value)} {oc26 kV26 dc26 pm26 cd26 ct26 : Value}
    {f27 : Addr} {od27 an27 : Option Addr} {sl27 : Array (Option Value)} {oc27 kV27 dc27 pm27 cd27 ct27 : Value}
    {f28 : Addr} {od28 an28 : Option Addr} {sl28 : Array (Option Value)} {oc28 kV28 dc28 pm28 cd28 ct28 : Value}
    {f29 : Addr} {od29 an29 : Option Addr} {sl29 : Array (Option Value)} {oc29 kV29 dc29 pm29 cd29 ct29 : Value}
    {f30 : Addr} {od30 an30 : Option Addr} {sl30 : Array (Option Value)} {oc30 kV30 dc30 pm30 cd30 ct30 : Value}
    {f31 : Addr} {od31 an31 : Option Addr} {sl31 : Array (Option Value)} {oc31 kV31 dc31 pm31 cd31 ct31 : Value}
    {f32 : Addr} {od32 an32 : Option Addr} {sl32 : Array (Option Value)} {oc32 kV32 dc32 pm32 cd32 ct32 : Value}
    {gt2 : Tok}
    {gt3 : Tok}
    {ga1 : Addr} {gd1 : Option Addr} {gn1 : Nat} {gs1 : Array (Option Value)}
    {gt6 : Tok}
    {gt7 : Tok}
    {ga5 : Addr} {gd5 : Option Addr} {gn5 : Nat} {gs5 : Array (Option Value)}
    {gt10 : Tok}
    {gt11 : Tok}
    {ga9 : Addr} {gd9 : Option Addr} {gn9 : Nat} {gs9 : Array (Option Value)}
    {yW yB y1 y2 y3 y4 y5 y6 y7 y8 : Addr}
    (a0 : PySem.W.nsIn K mainGlobals "divisor_of" = some (some (.ref f0))) (l0 : K.lookup f0 = some ⟨oc0, od0, .func (PySem.W.fnOf "divisor_of" "divisor_of" (defArgs s_divisor_of) (defBody s_divisor_of) (defScope s_divisor_of) .none kV0 dc0 pm0 an0 cd0 ct0), sl0⟩) (c0 : PySem.W.codeIn K cd0 "divisor_of" = true) (k0 : PySem.W.keepIn K (.ref f0) = true)
    (a1 : PySem.W.nsIn K mainGlobals "pair_of" = some (some (.ref f1))) (l1 : K.lookup f1 = some ⟨oc1, od1, .func (PySem.W.fnOf "pair_of" "pair_of" (defArgs s_pair_of) (defBody s_pair_of) (defScope s_pair_of) .none kV1 dc1 pm1 an1 cd1 ct1), sl1⟩) (c1 : PySem.W.codeIn K cd1 "pair_of" = true) (k1 : PySem.W.keepIn K (.ref f1) = true)
    (a2 : PySem.W.nsIn K mainGlobals "pair_plus" = some (some (.ref f2))) (l2 : K.lookup f2 = some ⟨oc2, od2, .func (PySem.W.fnOf "pair_plus" "pair_plus" (defArgs s_pair_plus) (defBody s_pair_plus) (defScope s_pair_plus) .none kV2 dc2 pm2 an2 cd2 ct2), sl2⟩) (c2 : PySem.W.codeIn K cd2 "pair_plus" = true) (k2 : PySem.W.keepIn K (.ref f2) = true)
    (a3 : PySem.W.nsIn K mainGlobals "pair_times" = some (some (.ref f3))) (l3 : K.lookup f3 = some ⟨oc3, od3, .func (PySem.W.fnOf "pair_times" "pair_times" (defArgs s_pair_times) (defBody s_pair_times) (defScope s_pair_times) .none kV3 dc3 pm3 an3 cd3 ct3), sl3⟩) (c3 : PySem.W.codeIn K cd3 "pair_times" = true) (k3 : PySem.W.keepIn K (.ref f3) = true)
    (a4 : PySem.W.nsIn K mainGlobals "whole_root" = some (some (.ref f4))) (l4 : K.lookup f4 = some ⟨oc4, od4, .func (PySem.W.fnOf "whole_root" "whole_root" (defArgs s_whole_root) (defBody s_whole_root) (defScope s_whole_root) .none kV4 dc4 pm4 an4 cd4 ct4), sl4⟩) (c4 : PySem.W.codeIn K cd4 "whole_root" = true) (k4 : PySem.W.keepIn K (.ref f4) = true)
    (a5 : PySem.W.nsIn K mainGlobals "square_out" = some (some (.ref f5))) (l5 : K.lookup f5 = some ⟨oc5, od5, .func (PySem.W.fnOf "square_out" "square_out" (defArgs s_square_out) (defBody s_square_out) (defScope s_square_out) .none kV5 dc5 pm5 an5 cd5 ct5), sl5⟩) (c5 : PySem.W.codeIn K cd5 "square_out" = true) (k5 : PySem.W.keepIn K (.ref f5) = true)
    (a6 : PySem.W.nsIn K mainGlobals "depth_of" = some (some (.ref f6))) (l6 : K.lookup f6 = some ⟨oc6, od6, .func (PySem.W.fnOf "depth_of" "depth_of" (defArgs s_depth_of) (defBody s_depth_of) (defScope s_depth_of) .none kV6 dc6 pm6 an6 cd6 ct6), sl6⟩) (c6 : PySem.W.codeIn K cd6 "depth_of" = true) (k6 : PySem.W.keepIn K (.ref f6) = true)
    (a7 : PySem.W.nsIn K mainGlobals "written" = some (some (.ref f7))) (l7 : K.lookup f7 = some ⟨oc7, od7, .func (PySem.W.fnOf "written" "written" (defArgs s_written) (defBody s_written) (defScope s_written) .none kV7 dc7 pm7 an7 cd7 ct7), sl7⟩) (c7 : PySem.W.codeIn K cd7 "written" = true) (k7 : PySem.W.keepIn K (.ref f7) = true)
    (a8 : PySem.W.nsIn K mainGlobals "rank_of" = some (some (.ref f8))) (l8 : K.lookup f8 = some ⟨oc8, od8, .func (PySem.W.fnOf "rank_of" "rank_of" (defArgs s_rank_of) (defBody s_rank_of) (defScope s_rank_of) .none kV8 dc8 pm8 an8 cd8 ct8), sl8⟩) (c8 : PySem.W.codeIn K cd8 "rank_of" = true) (k8 : PySem.W.keepIn K (.ref f8) = true)
    (a9 : PySem.W.nsIn K mainGlobals "outermost" = some (some (.ref f9))) (l9 : K.lookup f9 = some ⟨oc9, od9, .func (PySem.W.fnOf "outermost" "outermost" (defArgs s_outermost) (defBody s_outermost) (defScope s_outermost) .none kV9 dc9 pm9 an9 cd9 ct9), sl9⟩) (c9 : PySem.W.codeIn K cd9 "outermost" = true) (k9 : PySem.W.keepIn K (.ref f9) = true)
    (a10 : PySem.W.nsIn K mainGlobals "split" = some (some (.ref f10))) (l10 : K.lookup f10 = some ⟨oc10, od10, .func (PySem.W.fnOf "split" "split" (defArgs s_split) (defBody s_split) (defScope s_split) .none kV10 dc10 pm10 an10 cd10 ct10), sl10⟩) (c10 : PySem.W.codeIn K cd10 "split" = true) (k10 : PySem.W.keepIn K (.ref f10) = true)
    (a11 : PySem.W.nsIn K mainGlobals "joined" = some (some (.ref f11))) (l11 : K.lookup f11 = some ⟨oc11, od11, .func (PySem.W.fnOf "joined" "joined" (defArgs s_joined) (defBody s_joined) (defScope s_joined) .none kV11 dc11 pm11 an11 cd11 ct11), sl11⟩) (c11 : PySem.W.codeIn K cd11 "joined" = true) (k11 : PySem.W.keepIn K (.ref f11) = true)
    (a12 : PySem.W.nsIn K mainGlobals "nest_plus" = some (some (.ref f12))) (l12 : K.lookup f12 = some ⟨oc12, od12, .func (PySem.W.fnOf "nest_plus" "nest_plus" (defArgs s_nest_plus) (defBody s_nest_plus) (defScope s_nest_plus) .none kV12 dc12 pm12 an12 cd12 ct12), sl12⟩) (c12 : PySem.W.codeIn K cd12 "nest_plus" = true) (k12 : PySem.W.keepIn K (.ref f12) = true)
    (a13 : PySem.W.nsIn K mainGlobals "nest_times" = some (some (.ref f13))) (l13 : K.lookup f13 = some ⟨oc13, od13, .func (PySem.W.fnOf "nest_times" "nest_times" (defArgs s_nest_times) (defBody s_nest_times) (defScope s_nest_times) .none kV13 dc13 pm13 an13 cd13 ct13), sl13⟩) (c13 : PySem.W.codeIn K cd13 "nest_times" = true) (k13 : PySem.W.keepIn K (.ref f13) = true)
    (a14 : PySem.W.nsIn K mainGlobals "nest_minus" = some (some (.ref f14))) (l14 : K.lookup f14 = some ⟨oc14, od14, .func (PySem.W.fnOf "nest_minus" "nest_minus" (defArgs s_nest_minus) (defBody s_nest_minus) (defScope s_nest_minus) .none kV14 dc14 pm14 an14 cd14 ct14), sl14⟩) (c14 : PySem.W.codeIn K cd14 "nest_minus" = true) (k14 : PySem.W.keepIn K (.ref f14) = true)
    (a15 : PySem.W.nsIn K mainGlobals "over_parts" = some (some (.ref f15))) (l15 : K.lookup f15 = some ⟨oc15, od15, .func (PySem.W.fnOf "over_parts" "over_parts" (defArgs s_over_parts) (defBody s_over_parts) (defScope s_over_parts) .none kV15 dc15 pm15 an15 cd15 ct15), sl15⟩) (c15 : PySem.W.codeIn K cd15 "over_parts" = true) (k15 : PySem.W.keepIn K (.ref f15) = true)
    (a16 : PySem.W.nsIn K mainGlobals "nest_sign" = some (some (.ref f16))) (l16 : K.lookup f16 = some ⟨oc16, od16, .func (PySem.W.fnOf "nest_sign" "nest_sign" (defArgs s_nest_sign) (defBody s_nest_sign) (defScope s_nest_sign) .none kV16 dc16 pm16 an16 cd16 ct16), sl16⟩) (c16 : PySem.W.codeIn K cd16 "nest_sign" = true) (k16 : PySem.W.keepIn K (.ref f16) = true)
    (a17 : PySem.W.nsIn K mainGlobals "nest_inverse" = some (some (.ref f17))) (l17 : K.lookup f17 = some ⟨oc17, od17, .func (PySem.W.fnOf "nest_inverse" "nest_inverse" (defArgs s_nest_inverse) (defBody s_nest_inverse) (defScope s_nest_inverse) .none kV17 dc17 pm17 an17 cd17 ct17), sl17⟩) (c17 : PySem.W.codeIn K cd17 "nest_inverse" = true) (k17 : PySem.W.keepIn K (.ref f17) = true)
    (a18 : PySem.W.nsIn K mainGlobals "nest_root" = some (some (.ref f18))) (l18 : K.lookup f18 = some ⟨oc18, od18, .func (PySem.W.fnOf "nest_root" "nest_root" (defArgs s_nest_root) (defBody s_nest_root) (defScope s_nest_root) .none kV18 dc18 pm18 an18 cd18 ct18), sl18⟩) (c18 : PySem.W.codeIn K cd18 "nest_root" = true) (k18 : PySem.W.keepIn K (.ref f18) = true)
    (a19 : PySem.W.nsIn K mainGlobals "settled" = some (some (.ref f19))) (l19 : K.lookup f19 = some ⟨oc19, od19, .func (PySem.W.fnOf "settled" "settled" (defArgs s_settled) (defBody s_settled) (defScope s_settled) .none kV19 dc19 pm19 an19 cd19 ct19), sl19⟩) (c19 : PySem.W.codeIn K cd19 "settled" = true) (k19 : PySem.W.keepIn K (.ref f19) = true)
    (a20 : PySem.W.nsIn K mainGlobals "fraction" = some (some (.ref f20))) (l20 : K.lookup f20 = some ⟨oc20, od20, .func (PySem.W.fnOf "fraction" "fraction" (defArgs s_fraction) (defBody s_fraction) (defScope s_fraction) .none kV20 dc20 pm20 an20 cd20 ct20), sl20⟩) (c20 : PySem.W.codeIn K cd20 "fraction" = true) (k20 : PySem.W.keepIn K (.ref f20) = true)
    (a21 : PySem.W.nsIn K mainGlobals "plus" = some (some (.ref f21))) (l21 : K.lookup f21 = some ⟨oc21, od21, .func (PySem.W.fnOf "plus" "plus" (defArgs s_plus) (defBody s_plus) (defScope s_plus) .none kV21 dc21 pm21 an21 cd21 ct21), sl21⟩) (c21 : PySem.W.codeIn K cd21 "plus" = true) (k21 : PySem.W.keepIn K (.ref f21) = true)
    (a22 : PySem.W.nsIn K mainGlobals "minus" = some (some (.ref f22))) (l22 : K.lookup f22 = some ⟨oc22, od22, .func (PySem.W.fnOf "minus" "minus" (defArgs s_minus) (defBody s_minus) (defScope s_minus) .none kV22 dc22 pm22 an22 cd22 ct22), sl22⟩) (c22 : PySem.W.codeIn K cd22 "minus" = true) (k22 : PySem.W.keepIn K (.ref f22) = true)
    (a23 : PySem.W.nsIn K mainGlobals "times" = some (some (.ref f23))) (l23 : K.lookup f23 = some ⟨oc23, od23, .func (PySem.W.fnOf "times" "times" (defArgs s_times) (defBody s_times) (defScope s_times) .none kV23 dc23 pm23 an23 cd23 ct23), sl23⟩) (c23 : PySem.W.codeIn K cd23 "times" = true) (k23 : PySem.W.keepIn K (.ref f23) = true)
    (a24 : PySem.W.nsIn K mainGlobals "over" = some (some (.ref f24))) (l24 : K.lookup f24 = some ⟨oc24, od24, .func (PySem.W.fnOf "over" "over" (defArgs s_over) (defBody s_over) (defScope s_over) .none kV24 dc24 pm24 an24 cd24 ct24), sl24⟩) (c24 : PySem.W.codeIn K cd24 "over" = true) (k24 : PySem.W.keepIn K (.ref f24) = true)
    (a25 : PySem.W.nsIn K mainGlobals "root" = some (some (.ref f25))) (l25 : K.lookup f25 = some ⟨oc25, od25, .func (PySem.W.fnOf "root" "root" (defArgs s_root) (defBody s_root) (defScope s_root) .none kV25 dc25 pm25 an25 cd25 ct25), sl25⟩) (c25 : PySem.W.codeIn K cd25 "root" = true) (k25 : PySem.W.keepIn K (.ref f25) = true)
    (a26 : PySem.W.nsIn K mainGlobals "_law_begun" = some (some (.ref f26))) (l26 : K.lookup f26 = some ⟨oc26, od26, .func (PySem.W.fnOf "_law_begun" "_law_begun" (defArgs s__law_begun) (defBody s__law_begun) (defScope s__law_begun) .none kV26 dc26 pm26 an26 cd26 ct26), sl26⟩) (c26 : PySem.W.codeIn K cd26 "_law_begun" = true) (k26 : PySem.W.keepIn K (.ref f26) = true)
    (a27 : PySem.W.nsIn K mainGlobals "_law_draw" = some (some (.ref f27))) (l27 : K.lookup f27 = some ⟨oc27, od27, .func (PySem.W.fnOf "_law_draw" "_law_draw" (defArgs s__law_draw) (defBody s__law_draw) (defScope s__law_draw) .none kV27 dc27 pm27 an27 cd27 ct27), sl27⟩) (c27 : PySem.W.codeIn K cd27 "_law_draw" = true) (k27 : PySem.W.keepIn K (.ref f27) = true)
    (a28 : PySem.W.nsIn K mainGlobals "_law_pair" = some (some (.ref f28))) (l28 : K.lookup f28 = some ⟨oc28, od28, .func (PySem.W.fnOf "_law_pair" "_law_pair" (defArgs s__law_pair) (defBody s__law_pair) (defScope s__law_pair) .none kV28 dc28 pm28 an28 cd28 ct28), sl28⟩) (c28 : PySem.W.codeIn K cd28 "_law_pair" = true) (k28 : PySem.W.keepIn K (.ref f28) = true)
    (a29 : PySem.W.nsIn K mainGlobals "_law_small" = some (some (.ref f29))) (l29 : K.lookup f29 = some ⟨oc29, od29, .func (PySem.W.fnOf "_law_small" "_law_small" (defArgs s__law_small) (defBody s__law_small) (defScope s__law_small) .none kV29 dc29 pm29 an29 cd29 ct29), sl29⟩) (c29 : PySem.W.codeIn K cd29 "_law_small" = true) (k29 : PySem.W.keepIn K (.ref f29) = true)
    (a30 : PySem.W.nsIn K mainGlobals "_law_same" = some (some (.ref f30))) (l30 : K.lookup f30 = some ⟨oc30, od30, .func (PySem.W.fnOf "_law_same" "_law_same" (defArgs s__law_same) (defBody s__law_same) (defScope s__law_same) .none kV30 dc30 pm30 an30 cd30 ct30), sl30⟩) (c30 : PySem.W.codeIn K cd30 "_law_same" = true) (k30 : PySem.W.keepIn K (.ref f30) = true)
    (a31 : PySem.W.nsIn K mainGlobals "_law_refused" = some (some (.ref f31))) (l31 : K.lookup f31 = some ⟨oc31, od31, .func (PySem.W.fnOf "_law_refused" "_law_refused" (defArgs s__law_refused) (defBody s__law_refused) (defScope s__law_refused) .none kV31 dc31 pm31 an31 cd31 ct31), sl31⟩) (c31 : PySem.W.codeIn K cd31 "_law_refused" = true) (k31 : PySem.W.keepIn K (.ref f31) = true)
    (a32 : PySem.W.nsIn K mainGlobals "law" = some (some (.ref f32))) (l32 : K.lookup f32 = some ⟨oc32, od32, .func (PySem.W.fnOf "law" "law" (defArgs s_law) (defBody s_law) (defScope s_law) .none kV32 dc32 pm32 an32 cd32 ct32), sl32⟩) (c32 : PySem.W.codeIn K cd32 "law" = true) (k32 : PySem.W.keepIn K (.ref f32) = true)
    (gl1 : K.lookup ga1 = some ⟨.type "tuple", gd1, .seq #[.int 0 gt2, .int 1 gt3] gn1, gs1⟩)
    (gm4 : PySem.W.nsIn K mainGlobals "NOUGHT" = some (some (.ref ga1)))
    (gl5 : K.lookup ga5 = some ⟨.type "tuple", gd5, .seq #[.int 1 gt6, .int 1 gt7] gn5, gs5⟩)
    (gm8 : PySem.W.nsIn K mainGlobals "ONE" = some (some (.ref ga5)))
    (gl9 : K.lookup ga9 = some ⟨.type "tuple", gd9, .seq #[.int (-1) gt10, .int 1 gt11] gn9, gs9⟩)
    (gm12 : PySem.W.nsIn K mainGlobals "MINUS" = some (some (.ref ga9)))
    (hW : PySem.W.nsIn K mainGlobals "WishError" = some (some (.ref yW)))
    (hB : PySem.W.nsIn K mainGlobals "ByNought" = some (some (.ref yB)))
    (h1 : PySem.W.nsIn K mainGlobals "BadRow" = some (some (.ref y1)))
    (h2 : PySem.W.nsIn K mainGlobals "BadWish" = some (some (.ref y2)))
    (h3 : PySem.W.nsIn K mainGlobals "Nailed" = some (some (.ref y3)))
    (h4 : PySem.W.nsIn K mainGlobals "NoDrawing" = some (some (.ref y4)))
    (h5 : PySem.W.nsIn K mainGlobals "NoPoint" = some (some (.ref y5)))
    (h6 : PySem.W.nsIn K mainGlobals "NoRoot" = some (some (.ref y6)))
    (h7 : PySem.W.nsIn K mainGlobals "NoWish" = some (some (.ref y7)))
    (h8 : PySem.W.nsIn K mainGlobals "NotNailed" = some (some (.ref y8)))
    (hV : PySem.W.nsIn K mainGlobals "ValueError" = some none)
    (hq : PySem.W.excIn K yB [.type "ValueError", .type "Exception", .type "BaseException", .type "object"] "ValueError.__new__" = true)
    (hk : PySem.W.keepIn K (.ref yB) = true)
    (hs : PySem.W.subIn K (.ref yB) (.type "BaseException") = some true)
    (ht : PySem.W.typeIn K (.ref yB) = some (.type "type"))
    (hx1 : PySem.W.subIn K (.ref yW) (.type "BaseException") = some true)
    (hx2 : PySem.W.hasDictIn K yW = true)
    (hx3 : PySem.W.typeIn K (.ref yW) = some (.type "type"))
    (hx4 : PySem.W.subIn K (.ref yB) (.ref yW) = some true)
    (he1 : PySem.W.findIn K (.ref yB) "__getattribute__" = some (some (.builtin "BaseException.__getattribute__")))
    (he2 : PySem.W.findIn K (.ref yB) "__getattr__" = some none)
    (he4 : PySem.W.hasDictIn K yB = true)
    (he5 : PySem.W.findIn K (.ref yB) "__class__" = some (some (.builtin "object.__class__")))
    (he6 : PySem.W.specialIn K (.builtin "object.__class__") "__get__" = some (some (.builtin "getset_descriptor.__get__")))
    (he7 : PySem.W.takesIn K (.builtin "object.__class__") = some true)
    (he8 : PySem.W.mroIn K yB (.type "object") = some true)
    (hd1 : PySem.W.hasDictIn K y1 = true)
    (ht1 : PySem.W.typeIn K (.ref y1) = some (.type "type"))
    (hn1 : PySem.W.subIn K (.ref yB) (.ref y1) = some false)
    (hd2 : PySem.W.hasDictIn K y2 = true)
    (ht2 : PySem.W.typeIn K (.ref y2) = some (.type "type"))
    (hn2 : PySem.W.subIn K (.ref yB) (.ref y2) = some false)
    (hd3 : PySem.W.hasDictIn K y3 = true)
    (ht3 : PySem.W.typeIn K (.ref y3) = some (.type "type"))
    (hn3 : PySem.W.subIn K (.ref yB) (.ref y3) = some false)
    (hd4 : PySem.W.hasDictIn K y4 = true)
    (ht4 : PySem.W.typeIn K (.ref y4) = some (.type "type"))
    (hn4 : PySem.W.subIn K (.ref yB) (.ref y4) = some false)
    (hd5 : PySem.W.hasDictIn K y5 = true)
    (ht5 : PySem.W.typeIn K (.ref y5) = some (.type "type"))
    (hn5 : PySem.W.subIn K (.ref yB) (.ref y5) = some false)
    (hd6 : PySem.W.hasDictIn K y6 = true)
    (ht6 : PySem.W.typeIn K (.ref y6) = some (.type "type"))
    (hn6 : PySem.W.subIn K (.ref yB) (.ref y6) = some false)
    (hd7 : PySem.W.hasDictIn K y7 = true)
    (ht7 : PySem.W.typeIn K (.ref y7) = some (.type "type"))
    (hn7 : PySem.W.subIn K (.ref yB) (.ref y7) = some false)
    (hd8 : PySem.W.hasDictIn K y8 = true)
    (ht8 : PySem.W.typeIn K (.ref y8) = some (.type "type"))
    (hn8 : PySem.W.subIn K (.ref yB) (.ref y8) = some false)
    (hr : PySem.W.subIn K (.ref yB) (.ref yB) = some true)
    (hoV : PySem.W.subIn K (.ref yB) (.type "ValueError") = some true)
    (z_len : PySem.W.nsIn K mainGlobals "len" = some none)
    (z_abs : PySem.W.nsIn K mainGlobals "abs" = some none)
    (z_max : PySem.W.nsIn K mainGlobals "max" = some none)
    (z_min : PySem.W.nsIn K mainGlobals "min" = some none)
    (z_int : PySem.W.nsIn K mainGlobals "int" = some none)
    (z_str : PySem.W.nsIn K mainGlobals "str" = some none)
    (z_list : PySem.W.nsIn K mainGlobals "list" = some none)
    (z_tuple : PySem.W.nsIn K mainGlobals "tuple" = some none)
    (z_all : PySem.W.nsIn K mainGlobals "all" = some none)
    (z_any : PySem.W.nsIn K mainGlobals "any" = some none)
    (z_isinstance : PySem.W.nsIn K mainGlobals "isinstance" = some none)
    (z_range : PySem.W.nsIn K mainGlobals "range" = some none)
    (z_enumerate : PySem.W.nsIn K mainGlobals "enumerate" = some none)
    (z_zip : PySem.W.nsIn K mainGlobals "zip" = some none)
    (z_sorted : PySem.W.nsIn K mainGlobals "sorted" = some none)
    (z_dict : PySem.W.nsIn K mainGlobals "dict" = some none)
    (z_bool : PySem.W.nsIn K mainGlobals "bool" = some none) :
    ∃ fd : FuncData, (∀ (s : Shared) (v : Value), BindsTo s fd ⟨[v], []⟩ [("_law_script", v)]) ∧ ∀ base : Heap, K.In base → base.Ns mainGlobals mg → FnOk l.prog w K mg base CX0 66 fa fd ["_law_script"] (spLaw K) := by
  have e := hfa.symm.trans (PySem.W.mg_of X G a32)
  cases e
  have T : Bt mg := ⟨PySem.W.mg_none_of X G z_len, PySem.W.mg_none_of X G z_abs, PySem.W.mg_none_of X G z_max, PySem.W.mg_none_of X G z_min, PySem.W.mg_none_of X G z_int, PySem.W.mg_none_of X G z_str, PySem.W.mg_none_of X G z_list, PySem.W.mg_none_of X G z_tuple, PySem.W.mg_none_of X G z_all, PySem.W.mg_none_of X G z_any, PySem.W.mg_none_of X G z_isinstance, PySem.W.mg_none_of X G z_range, PySem.W.mg_none_of X G z_enumerate, PySem.W.mg_none_of X G z_zip, PySem.W.mg_none_of X G z_sorted, PySem.W.mg_none_of X G z_dict, PySem.W.mg_none_of X G z_bool⟩
  have C : Gs K mg := ⟨(kd_tup2 gl1 (Kd.int 0 gt2) (Kd.int 1 gt3)).gc (PySem.W.mg_of X G gm4), (kd_tup2 gl5 (Kd.int 1 gt6) (Kd.int 1 gt7)).gc (PySem.W.mg_of X G gm8), (kd_tup2 gl9 (Kd.int (-1) gt10) (Kd.int 1 gt11)).gc (PySem.W.mg_of X G gm12)⟩
  have F0 := fun_mk (st := s_divisor_of) l0 c0 k0
  have b0 := F0.binds (ps := ["one", "other"]) fun _ _ _ _ _ _ us hl => match us, hl with | [_, _], _ => rfl
  have F1 := fun_mk (st := s_pair_of) l1 c1 k1
  have b1 := F1.binds (ps := ["top", "bottom"]) fun _ _ _ _ _ _ us hl => match us, hl with | [_, _], _ => rfl
  have F2 := fun_mk (st := s_pair_plus) l2 c2 k2
  have b2 := F2.binds (ps := ["one", "other"]) fun _ _ _ _ _ _ us hl => match us, hl with | [_, _], _ => rfl
  have F3 := fun_mk (st := s_pair_times) l3 c3 k3
  have b3 := F3.binds (ps := ["one", "other"]) fun _ _ _ _ _ _ us hl => match us, hl with | [_, _], _ => rfl
  have F4 := fun_mk (st := s_whole_root) l4 c4 k4
  have b4 := F4.binds (ps := ["number"]) fun _ _ _ _ _ _ us hl => match us, hl with | [_], _ => rfl
  have F5 := fun_mk (st := s_square_out) l5 c5 k5
  have b5 := F5.binds (ps := ["number"]) fun _ _ _ _ _ _ us hl => match us, hl with | [_], _ => rfl
  have F6 := fun_mk (st := s_depth_of) l6 c6 k6
  have b6 := F6.binds (ps := ["number"]) fun _ _ _ _ _ _ us hl => match us, hl with | [_], _ => rfl
  have F7 := fun_mk (st := s_written) l7 c7 k7
  have b7 := F7.binds (ps := ["number"]) fun _ _ _ _ _ _ us hl => match us, hl with | [_], _ => rfl
  have F8 := fun_mk (st := s_rank_of) l8 c8 k8
  have b8 := F8.binds (ps := ["under"]) fun _ _ _ _ _ _ us hl => match us, hl with | [_], _ => rfl
  have F9 := fun_mk (st := s_outermost) l9 c9 k9
  have b9 := F9.binds (ps := ["one", "other"]) fun _ _ _ _ _ _ us hl => match us, hl with | [_, _], _ => rfl
  have F10 := fun_mk (st := s_split) l10 c10 k10
  have b10 := F10.binds (ps := ["number", "under"]) fun _ _ _ _ _ _ us hl => match us, hl with | [_, _], _ => rfl
  have F11 := fun_mk (st := s_joined) l11 c11 k11
  have b11 := F11.binds (ps := ["one", "other", "under"]) fun _ _ _ _ _ _ us hl => match us, hl with | [_, _, _], _ => rfl
  have F12 := fun_mk (st := s_nest_plus) l12 c12 k12
  have b12 := F12.binds (ps := ["one", "other"]) fun _ _ _ _ _ _ us hl => match us, hl with | [_, _], _ => rfl
  have F13 := fun_mk (st := s_nest_times) l13 c13 k13
  have b13 := F13.binds (ps := ["one", "other"]) fun _ _ _ _ _ _ us hl => match us, hl with | [_, _], _ => rfl
  have F14 := fun_mk (st := s_nest_minus) l14 c14 k14
  have b14 := F14.binds (ps := ["one", "other"]) fun _ _ _ _ _ _ us hl => match us, hl with | [_, _], _ => rfl
  have F15 := fun_mk (st := s_over_parts) l15 c15 k15
  have b15 := F15.binds (ps := ["number"]) fun _ _ _ _ _ _ us hl => match us, hl with | [_], _ => rfl
  have F16 := fun_mk (st := s_nest_sign) l16 c16 k16
  have b16 := F16.binds (ps := ["number"]) fun _ _ _ _ _ _ us hl => match us, hl with | [_], _ => rfl
  have F17 := fun_mk (st := s_nest_inverse) l17 c17 k17
  have b17 := F17.binds (ps := ["number"]) fun _ _ _ _ _ _ us hl => match us, hl with | [_], _ => rfl
  have F18 := fun_mk (st := s_nest_root) l18 c18 k18
  have b18 := F18.binds (ps := ["number"]) fun _ _ _ _ _ _ us hl => match us, hl with | [_], _ => rfl
  have F19 := fun_mk (st := s_settled) l19 c19 k19
  have b19 := F19.binds (ps := ["number"]) fun _ _ _ _ _ _ us hl => match us, hl with | [_], _ => rfl
  have F20 := fun_mk (st := s_fraction) l20 c20 k20
  have b20 := F20.binds (ps := ["top", "bottom"]) fun _ _ _ _ _ _ us hl => match us, hl with | [_, _], _ => rfl
  have F21 := fun_mk (st := s_plus) l21 c21 k21
  have b21 := F21.binds (ps := ["m", "n"]) fun _ _ _ _ _ _ us hl => match us, hl with | [_, _], _ => rfl
  have F22 := fun_mk (st := s_minus) l22 c22 k22
  have b22 := F22.binds (ps := ["m", "n"]) fun _ _ _ _ _ _ us hl => match us, hl with | [_, _], _ => rfl
  have F23 := fun_mk (st := s_times) l23 c23 k23
  have b23 := F23.binds (ps := ["m", "n"]) fun _ _ _ _ _ _ us hl => match us, hl with | [_, _], _ => rfl
  have F24 := fun_mk (st := s_over) l24 c24 k24
  have b24 := F24.binds (ps := ["m", "n"]) fun _ _ _ _ _ _ us hl => match us, hl with | [_, _], _ => rfl
  have F25 := fun_mk (st := s_root) l25 c25 k25
  have b25 := F25.binds (ps := ["n"]) fun _ _ _ _ _ _ us hl => match us, hl with | [_], _ => rfl
  have F26 := fun_mk (st := s__law_begun) l26 c26 k26
  have b26 := F26.binds (ps := ["_law_script", "_law_k"]) fun _ _ _ _ _ _ us hl => match us, hl with | [_, _], _ => rfl
  have F27 := fun_mk (st := s__law_draw) l27 c27 k27
  have b27 := F27.binds (ps := ["_law_tape", "_law_many"]) fun _ _ _ _ _ _ us hl => match us, hl with | [_, _], _ => rfl
  have F28 := fun_mk (st := s__law_pair) l28 c28 k28
  have b28 := F28.binds (ps := ["_law_top", "_law_bottom"]) fun _ _ _ _ _ _ us hl => match us, hl with | [_, _], _ => rfl
  have F29 := fun_mk (st := s__law_small) l29 c29 k29
  have b29 := F29.binds (ps := ["_law_tape"]) fun _ _ _ _ _ _ us hl => match us, hl with | [_], _ => rfl
  have F30 := fun_mk (st := s__law_same) l30 c30 k30
  have b30 := F30.binds (ps := ["_law_found", "_law_due"]) fun _ _ _ _ _ _ us hl => match us, hl with | [_, _], _ => rfl
  have F31 := fun_mk (st := s__law_refused) l31 c31 k31
  have b31 := F31.binds (ps := ["_law_m"]) fun _ _ _ _ _ _ us hl => match us, hl with | [_], _ => rfl
  have F32 := fun_mk (st := s_law) l32 c32 k32
  have b32 := F32.binds (ps := ["_law_script"]) fun _ _ _ _ _ _ us hl => match us, hl with | [_], _ => rfl
  have I : Ds K mg := ⟨⟨_, _, F0, PySem.W.mg_of X G a0, b0⟩, ⟨_, _, F1, PySem.W.mg_of X G a1, b1⟩, ⟨_, _, F2, PySem.W.mg_of X G a2, b2⟩, ⟨_, _, F3, PySem.W.mg_of X G a3, b3⟩, ⟨_, _, F4, PySem.W.mg_of X G a4, b4⟩, ⟨_, _, F5, PySem.W.mg_of X G a5, b5⟩, ⟨_, _, F6, PySem.W.mg_of X G a6, b6⟩, ⟨_, _, F7, PySem.W.mg_of X G a7, b7⟩, ⟨_, _, F8, PySem.W.mg_of X G a8, b8⟩, ⟨_, _, F9, PySem.W.mg_of X G a9, b9⟩, ⟨_, _, F10, PySem.W.mg_of X G a10, b10⟩, ⟨_, _, F11, PySem.W.mg_of X G a11, b11⟩, ⟨_, _, F12, PySem.W.mg_of X G a12, b12⟩, ⟨_, _, F13, PySem.W.mg_of X G a13, b13⟩, ⟨_, _, F14, PySem.W.mg_of X G a14, b14⟩, ⟨_, _, F15, PySem.W.mg_of X G a15, b15⟩, ⟨_, _, F16, PySem.W.mg_of X G a16, b16⟩, ⟨_, _, F17, PySem.W.mg_of X G a17, b17⟩, ⟨_, _, F18, PySem.W.mg_of X G a18, b18⟩, ⟨_, _, F19, PySem.W.mg_of X G a19, b19⟩, ⟨_, _, F20, PySem.W.mg_of X G a20, b20⟩, ⟨_, _, F21, PySem.W.mg_of X G a21, b21⟩, ⟨_, _, F22, PySem.W.mg_of X G a22, b22⟩, ⟨_, _, F23, PySem.W.mg_of X G a23, b23⟩, ⟨_, _, F24, PySem.W.mg_of X G a24, b24⟩, ⟨_, _, F25, PySem.W.mg_of X G a25, b25⟩, ⟨_, _, F26, PySem.W.mg_of X G a26, b26⟩, ⟨_, _, F27, PySem.W.mg_of X G a27, b27⟩, ⟨_, _, F28, PySem.W.mg_of X G a28, b28⟩, ⟨_, _, F29, PySem.W.mg_of X G a29, b29⟩, ⟨_, _, F30, PySem.W.mg_of X G a30, b30⟩, ⟨_, _, F31, PySem.W.mg_of X G a31, b31⟩, ⟨_, _, F32, PySem.W.mg_of X G a32, b32⟩⟩
  have E : Es K mg yW yB y1 y2 y3 y4 y5 y6 y7 y8 := ⟨PySem.W.mg_of X G hW, PySem.W.mg_of X G hB, PySem.W.mg_of X G h1, PySem.W.mg_of X G h2, PySem.W.mg_of X G h3, PySem.W.mg_of X G h4, PySem.W.mg_of X G h5, PySem.W.mg_of X G h6, PySem.W.mg_of X G h7, PySem.W.mg_of X G h8, PySem.W.mg_none_of X G hV, hq, hk, hs, ht, PySem.W.exm_ref hx1 hx2 hx3 hx4, ⟨he1, he2, hs, he4, he5, he6, he7, he8⟩, kit_no hd1 ht1 hn1 hr, kit_no hd2 ht2 hn2 hr, kit_no hd3 ht3 hn3 hr, kit_no hd4 ht4 hn4 hr, kit_no hd5 ht5 hn5 hr, kit_no hd6 ht6 hn6 hr, kit_no hd7 ht7 hn7 hr, kit_no hd8 ht8 hn8 hr, kit_val hoV⟩
  exact ⟨PySem.W.fnOf "law" "law" (defArgs s_law) (defBody s_law) (defScope s_law) .none kV32 dc32 pm32 an32 cd32 ct32, fun s v => .of_eq rfl, fun base _ _ => law_fn (x := "law") (ka_law ⟨F32, PySem.W.mg_of X G a32, b32⟩ T C ((r__law_begun T C I).mono (by decide)) ((r__law_same T C I).mono (by decide)) ((r__law_small T C I).mono (by decide)) ((r__law_refused T C I E).mono (by decide)) ((r__law_draw T C I).mono (by decide)) ((r_fraction T C I).mono (by decide)) ((r__law_pair T C I).mono (by decide)) ((r_plus T C I).mono (by decide)) ((r_minus T C I).mono (by decide)) ((r_times T C I).mono (by decide)) ((r_root T C I).mono (by decide)) ((r_over T C I).mono (by decide))) hl⟩
theorem walk {l : PySem.W.OpenLaw} {q : Program} {loose : List Str} {XP : (Str → Option Value) → Heap → Prop} {YP : World → Heap → Prop} {d : DefRec} {K : Params → PySem.W.Frag} (hn : l.most = some 63) (hdf : d.params.defaults = [])
    (hY : ∀ (w : World) (h : Heap), YP w h → (K w.params).In h)
    (F : ∀ (w : World) (mg : Str → Option Value) (fa : Addr) (h : Heap), (K w.params).In h → h.Ns mainGlobals mg → mg d.name = some (.ref fa) →
      ∃ fd : FuncData, (∀ (s : Shared) (u : Value), BindsTo s fd ⟨[u], []⟩ [("_law_script", u)]) ∧ ∀ base : Heap, (K w.params).In base → base.Ns mainGlobals mg → FnOk l.prog w (K w.params) mg base CX0 66 fa fd ["_law_script"] (spLaw (K w.params))) :
    PySem.W.WalkO q loose XP YP l.row.toRowW d [] (fun f vs => PySem.call f vs) :=
  L2.walk_of (n := 63) (k := 66) (x := "_law_script") (CX := fun _ => CX0) (sp := fun w => spLaw (K w.params)) hn (by decide) hdf ⟨rfl, by decide, by decide⟩ hY F (fun _ _ a ns hl _ hS => ⟨a, ns, rfl, hS, hl, fun _ => rfl⟩) fun _ _ _ _ _ z => z
end Mr.k01

set_option Elab.async false
set_option linter.all false
set_option maxRecDepth 100000
set_option maxHeartbeats 4000000
set_option exponentiation.threshold 30000
namespace Mr.k01
open PySem L2 Mr
local macro_rules | `(tactic| walk_at "go") => `(tactic| (repeat (first | simp -dsimp only [W_some, W_none, WO_some, WO_none, br_true, br_false, br_dec, br_not, rd_val, rd_lst, rd_dct, W_var, W_c, W_v, fz_val, fz_lst, fz_dct, W_fz, W_bin, W_binT, W_binS, W_u, W_tr, W_andT, W_orT, W_notT, asB_bl, W_andV, W_orV, W_notV, W_ifE, W_ifS, W_nil, W_cons, W_tup, W_lst, pk_val, pk_lst, pk_dct, W_ixN, W_o0, asI_int, W_o1, W_sl, W_cb, W_lenN, W_isi, W_bm, nxt_nx, nxt_bk, nxt_ct, nxt_ret, W_skip, W_seq, W_drop, W_ret, W_retN, W_ct, W_bk, W_if, wr_un, wr_val, wr_own, W_asg, G_n, Gs_0, Gs_1, G_u, W_asgG, mv_val, mv_own, W_mov, ol_lst, W_mutL, WS_nil, WS_cons, put_nil, put_cons, W_parS, WB_nil, WB_d, WB_r, ls_val, ls_own, sl_nil, sl_d, sl_r, W_call, lp_nx, lp_ct, lp_bk, lp_ret, W_for, W_forL_nil, W_ia, waL, waT, waR, waS, waD, WK_0, WK_1, W_dct, kD_nil, kD_S, oo_own, W_putX, put_lst, put_dctS, v_dictL, v_dictD, v_max3, ixK, x_eqS, x_neS, x_eqI, x_neI, inX_L, inX_T, inX_S, inX_D, sl_1T, sl_1L, sl_2T, sl_2L, List.drop_succ_cons, List.drop_zero, r1_int, W_IR1, r2_int, W_IR2, a1_one, W_IE, a2_two, W_IZ, W_lc, W_lcL_nil, W_yes, W_chT, W_inN, W_inNV, List.getElem?_cons_zero, List.getElem?_cons_succ, List.set_cons_zero, List.set_cons_succ, List.length_cons, List.length_nil, v_add, v_sub, v_mul, v_div, v_mod, v_pow, v_neg, v_abs, v_intB, v_intI, v_lt, v_le, v_gt, v_ge, v_max, v_min, v_trI, v_trB, v_lenL, v_lenT, v_lenR, lenLst, lenTup, lenRl, ixL, ixT, ixR, itL, itT, itR, lsL, lsR, blD_lt, v_list, v_tuple, v_eqS, v_neS, v_eqI, v_neI, v_app, v_rev, v_clear, v_ext, at0, at1, at2, at3, at4, at5, at6, at7, st0, st1, st2, st3, merge, lent, backAll_nil, backAll_cons, bA_un, bA_val, bA_nil, bA_d, bA_ne, bA_rv, bA_eq, List.nodup_cons, List.nodup_nil, List.not_mem_nil, not_false_eq_true, Nat.reduceAdd, Nat.reduceEqDiff, ne_eq, reduceCtorEq, if_true, reduceIte, wipe_nil, wipe_cons, nown_un, nown_val, restO, on_nil, on_cons, gd0, gdS, kQ_nm, kQ_ex, W_kT, W_kV, W_isiN, W_trN, true_and, and_true, w_isiP, W_IZM, zmT, zmL, zmTL, zmLT, zipD, v_all0, v_all1, v_all2, w_isiS, w_isiT, w_isiB, x_neB, x_eqB, cst0, cst1, cst2, cst3, cst4, cst5, cst6, cst7, cst8, cst9, cst10, cst11, cst12, cst13, cst14, cst15, is_non, is_tup, is_str, is_int, isn_non, isn_tup, isn_str, isn_int, Int.reduceEq, Int.reduceNe, Int.reduceLT, Int.reduceLE, Int.reduceGT, Nat.reduceLeDiff, Nat.reduceLT, Nat.reduceEqDiff, List.nil_append, List.cons_append, decide_true, decide_false, forall_const, false_implies, true_implies, not_true_eq_false, Int.reduceNeg, Nat.le_refl, Nat.zero_le] | refine ⟨by decide, ?_⟩)))
local macro_rules | `(tactic| walk_at "wq") => `(tactic| (try simp -dsimp only [W_some, W_none, WO_some, WO_none, br_true, br_false, br_dec, br_not, rd_val, rd_lst, rd_dct, W_var, W_c, W_v, fz_val, fz_lst, fz_dct, W_fz, W_bin, W_binT, W_binS, W_u, W_tr, W_andT, W_orT, W_notT, asB_bl, W_andV, W_orV, W_notV, W_ifE, W_ifS, W_nil, W_cons, W_tup, W_lst, pk_val, pk_lst, pk_dct, W_ixN, W_o0, asI_int, W_o1, W_sl, W_cb, W_lenN, W_isi, W_bm, nxt_nx, nxt_bk, nxt_ct, nxt_ret, W_skip, W_seq, W_drop, W_ret, W_retN, W_ct, W_bk, W_if, wr_un, wr_val, wr_own, W_asg, G_n, Gs_0, Gs_1, G_u, W_asgG, mv_val, mv_own, W_mov, ol_lst, W_mutL, WS_nil, WS_cons, put_nil, put_cons, W_parS, WB_nil, WB_d, WB_r, ls_val, ls_own, sl_nil, sl_d, sl_r, W_call, lp_nx, lp_ct, lp_bk, lp_ret, W_for, W_forL_nil, W_ia, waL, waT, waR, waS, waD, WK_0, WK_1, W_dct, kD_nil, kD_S, oo_own, W_putX, put_lst, put_dctS, v_dictL, v_dictD, v_max3, ixK, x_eqS, x_neS, x_eqI, x_neI, inX_L, inX_T, inX_S, inX_D, sl_1T, sl_1L, sl_2T, sl_2L, List.drop_succ_cons, List.drop_zero, r1_int, W_IR1, r2_int, W_IR2, a1_one, W_IE, a2_two, W_IZ, W_lc, W_lcL_nil, W_yes, W_chT, W_inN, W_inNV, List.getElem?_cons_zero, List.getElem?_cons_succ, List.set_cons_zero, List.set_cons_succ, List.length_cons, List.length_nil, v_add, v_sub, v_mul, v_div, v_mod, v_pow, v_neg, v_abs, v_intB, v_intI, v_lt, v_le, v_gt, v_ge, v_max, v_min, v_trI, v_trB, v_lenL, v_lenT, v_lenR, lenLst, lenTup, lenRl, ixL, ixT, ixR, itL, itT, itR, lsL, lsR, blD_lt, v_list, v_tuple, v_eqS, v_neS, v_eqI, v_neI, v_app, v_rev, v_clear, v_ext, at0, at1, at2, at3, at4, at5, at6, at7, st0, st1, st2, st3, merge, lent, backAll_nil, backAll_cons, bA_un, bA_val, bA_nil, bA_d, bA_ne, bA_rv, bA_eq, List.nodup_cons, List.nodup_nil, List.not_mem_nil, not_false_eq_true, Nat.reduceAdd, Nat.reduceEqDiff, ne_eq, reduceCtorEq, if_true, reduceIte, wipe_nil, wipe_cons, nown_un, nown_val, restO, on_nil, on_cons, gd0, gdS, kQ_nm, kQ_ex, W_kT, W_kV, W_isiN, W_trN, true_and, and_true, w_isiP, W_IZM, zmT, zmL, zmTL, zmLT, zipD, v_all0, v_all1, v_all2, w_isiS, w_isiT, w_isiB, x_neB, x_eqB, cst0, cst1, cst2, cst3, cst4, cst5, cst6, cst7, cst8, cst9, cst10, cst11, cst12, cst13, cst14, cst15, is_non, is_tup, is_str, is_int, isn_non, isn_tup, isn_str, isn_int, Int.reduceEq, Int.reduceNe, Int.reduceLT, Int.reduceLE, Int.reduceGT, Nat.reduceLeDiff, Nat.reduceLT, Nat.reduceEqDiff, List.nil_append, List.cons_append, decide_true, decide_false, forall_const, false_implies, true_implies, not_true_eq_false, Int.reduceNeg, Nat.le_refl, Nat.zero_le]))

/-! ### whole numbers, pairs -/
theorem divisor_W {a b : Int} {Q : Slot → List Slot → Prop} (hb : b.natAbs < 2 ^ 9000) (q : Q (.val (.int (Int.gcd a b))) [.val (.int a), .val (.int b)]) : W (m_divisor_of [.val (.int a), .val (.int b)]) Q := by
  unfold m_divisor_of o_divisor_of
  refine W_fn rfl ?_
  show W (b_divisor_of [.val (.int a), .val (.int b)]) _
  unfold b_divisor_of
  simp -dsimp only [W_some, W_none, WO_some, WO_none, br_true, br_false, br_dec, br_not, rd_val, rd_lst, rd_dct, W_var, W_c, W_v, fz_val, fz_lst, fz_dct, W_fz, W_bin, W_binT, W_binS, W_u, W_tr, W_andT, W_orT, W_notT, asB_bl, W_andV, W_orV, W_notV, W_ifE, W_ifS, W_nil, W_cons, W_tup, W_lst, pk_val, pk_lst, pk_dct, W_ixN, W_o0, asI_int, W_o1, W_sl, W_cb, W_lenN, W_isi, W_bm, nxt_nx, nxt_bk, nxt_ct, nxt_ret, W_skip, W_seq, W_drop, W_ret, W_retN, W_ct, W_bk, W_if, wr_un, wr_val, wr_own, W_asg, G_n, Gs_0, Gs_1, G_u, W_asgG, mv_val, mv_own, W_mov, ol_lst, W_mutL, WS_nil, WS_cons, put_nil, put_cons, W_parS, WB_nil, WB_d, WB_r, ls_val, ls_own, sl_nil, sl_d, sl_r, W_call, lp_nx, lp_ct, lp_bk, lp_ret, W_for, W_forL_nil, W_ia, waL, waT, waR, waS, waD, WK_0, WK_1, W_dct, kD_nil, kD_S, oo_own, W_putX, put_lst, put_dctS, v_dictL, v_dictD, v_max3, ixK, x_eqS, x_neS, x_eqI, x_neI, inX_L, inX_T, inX_S, inX_D, sl_1T, sl_1L, sl_2T, sl_2L, List.drop_succ_cons, List.drop_zero, r1_int, W_IR1, r2_int, W_IR2, a1_one, W_IE, a2_two, W_IZ, W_lc, W_lcL_nil, W_yes, W_chT, W_inN, W_inNV, List.getElem?_cons_zero, List.getElem?_cons_succ, List.set_cons_zero, List.set_cons_succ, List.length_cons, List.length_nil, v_add, v_sub, v_mul, v_div, v_mod, v_pow, v_neg, v_abs, v_intB, v_intI, v_lt, v_le, v_gt, v_ge, v_max, v_min, v_trI, v_trB, v_lenL, v_lenT, v_lenR, lenLst, lenTup, lenRl, ixL, ixT, ixR, itL, itT, itR, lsL, lsR, blD_lt, v_list, v_tuple, v_eqS, v_neS, v_eqI, v_neI, v_app, v_rev, v_clear, v_ext, at0, at1, at2, at3, at4, at5, at6, at7, st0, st1, st2, st3, merge, lent, backAll_nil, backAll_cons, bA_un, bA_val, bA_nil, bA_d, bA_ne, bA_rv, bA_eq, List.nodup_cons, List.nodup_nil, List.not_mem_nil, not_false_eq_true, Nat.reduceAdd, Nat.reduceEqDiff, ne_eq, reduceCtorEq, if_true, reduceIte, wipe_nil, wipe_cons, nown_un, nown_val, restO, on_nil, on_cons, gd0, gdS, kQ_nm, kQ_ex, W_kT, W_kV, W_isiN, W_trN, true_and, and_true]
  have ea : (if a < 0 then -a else a) = (a.natAbs : Int) := by split <;> omega
  have eb : (if b < 0 then -b else b) = (b.natAbs : Int) := by split <;> omega
  rw [ea, eb]
  refine ⟨by decide, ?_⟩
  refine W_wh_inv (fun m ρ => ∃ x y : Nat, ρ = [.val (.int x), .val (.int y)] ∧ m = y ∧ Nat.gcd x y = Int.gcd a b) (fun m ρ h => ?_) fuelN b.natAbs _ (le_fuel hb) ⟨a.natAbs, b.natAbs, rfl, rfl, rfl⟩
  obtain ⟨x, y, rfl, rfl, e⟩ := h
  simp -dsimp only [W_some, W_none, WO_some, WO_none, br_true, br_false, br_dec, br_not, rd_val, rd_lst, rd_dct, W_var, W_c, W_v, fz_val, fz_lst, fz_dct, W_fz, W_bin, W_binT, W_binS, W_u, W_tr, W_andT, W_orT, W_notT, asB_bl, W_andV, W_orV, W_notV, W_ifE, W_ifS, W_nil, W_cons, W_tup, W_lst, pk_val, pk_lst, pk_dct, W_ixN, W_o0, asI_int, W_o1, W_sl, W_cb, W_lenN, W_isi, W_bm, nxt_nx, nxt_bk, nxt_ct, nxt_ret, W_skip, W_seq, W_drop, W_ret, W_retN, W_ct, W_bk, W_if, wr_un, wr_val, wr_own, W_asg, G_n, Gs_0, Gs_1, G_u, W_asgG, mv_val, mv_own, W_mov, ol_lst, W_mutL, WS_nil, WS_cons, put_nil, put_cons, W_parS, WB_nil, WB_d, WB_r, ls_val, ls_own, sl_nil, sl_d, sl_r, W_call, lp_nx, lp_ct, lp_bk, lp_ret, W_for, W_forL_nil, W_ia, waL, waT, waR, waS, waD, WK_0, WK_1, W_dct, kD_nil, kD_S, oo_own, W_putX, put_lst, put_dctS, v_dictL, v_dictD, v_max3, ixK, x_eqS, x_neS, x_eqI, x_neI, inX_L, inX_T, inX_S, inX_D, sl_1T, sl_1L, sl_2T, sl_2L, List.drop_succ_cons, List.drop_zero, r1_int, W_IR1, r2_int, W_IR2, a1_one, W_IE, a2_two, W_IZ, W_lc, W_lcL_nil, W_yes, W_chT, W_inN, W_inNV, List.getElem?_cons_zero, List.getElem?_cons_succ, List.set_cons_zero, List.set_cons_succ, List.length_cons, List.length_nil, v_add, v_sub, v_mul, v_div, v_mod, v_pow, v_neg, v_abs, v_intB, v_intI, v_lt, v_le, v_gt, v_ge, v_max, v_min, v_trI, v_trB, v_lenL, v_lenT, v_lenR, lenLst, lenTup, lenRl, ixL, ixT, ixR, itL, itT, itR, lsL, lsR, blD_lt, v_list, v_tuple, v_eqS, v_neS, v_eqI, v_neI, v_app, v_rev, v_clear, v_ext, at0, at1, at2, at3, at4, at5, at6, at7, st0, st1, st2, st3, merge, lent, backAll_nil, backAll_cons, bA_un, bA_val, bA_nil, bA_d, bA_ne, bA_rv, bA_eq, List.nodup_cons, List.nodup_nil, List.not_mem_nil, not_false_eq_true, Nat.reduceAdd, Nat.reduceEqDiff, ne_eq, reduceCtorEq, if_true, reduceIte, wipe_nil, wipe_cons, nown_un, nown_val, restO, on_nil, on_cons, gd0, gdS, kQ_nm, kQ_ex, W_kT, W_kV, W_isiN, W_trN, true_and, and_true]
  have e1 : ((x : Int).fmod (m : Int)) = ((x % m : Nat) : Int) := by
    rw [Int.fmod_eq_emod_of_nonneg _ (by omega)]
    exact (Int.natCast_emod x m).symm
  refine ⟨fun hy => ?_, fun hy => ?_⟩
  · have hm : 0 < m := by omega
    rw [e1]
    exact ⟨by omega, by decide, x % m, Nat.mod_lt _ hm, m, x % m, rfl, rfl, by rw [← e, Nat.gcd_comm m, ← Nat.gcd_rec m x, Nat.gcd_comm]⟩
  · have hm : m = 0 := by omega
    subst hm
    rw [Nat.gcd_zero_right] at e
    subst e
    exact q
theorem pair_of_W {t b : Int} {k : Nat} {Q : Slot → List Slot → Prop} (hb : b ≠ 0) (ht : t.natAbs < 2 ^ k) (hk : b.natAbs < 2 ^ k) (k9 : k ≤ 8999) (q : Sz k (Rat.divInt t b) → Q (.val (prD (Rat.divInt t b))) [.val (.int t), .val (.int b)]) : W (m_pair_of [.val (.int t), .val (.int b)]) Q := by
  have hb9 : b.natAbs < 2 ^ 8999 := Nat.lt_of_lt_of_le hk (Nat.pow_le_pow_right (by decide) k9)
  have hb0 : b.natAbs < 2 ^ 9000 := Nat.lt_of_lt_of_le hb9 (Nat.pow_le_pow_right (by decide) (by decide))
  unfold m_pair_of o_pair_of
  refine W_fn rfl ?_
  show W (b_pair_of m_divisor_of [.val (.int t), .val (.int b), .un]) _
  unfold b_pair_of
  simp -dsimp only [W_some, W_none, WO_some, WO_none, br_true, br_false, br_dec, br_not, rd_val, rd_lst, rd_dct, W_var, W_c, W_v, fz_val, fz_lst, fz_dct, W_fz, W_bin, W_binT, W_binS, W_u, W_tr, W_andT, W_orT, W_notT, asB_bl, W_andV, W_orV, W_notV, W_ifE, W_ifS, W_nil, W_cons, W_tup, W_lst, pk_val, pk_lst, pk_dct, W_ixN, W_o0, asI_int, W_o1, W_sl, W_cb, W_lenN, W_isi, W_bm, nxt_nx, nxt_bk, nxt_ct, nxt_ret, W_skip, W_seq, W_drop, W_ret, W_retN, W_ct, W_bk, W_if, wr_un, wr_val, wr_own, W_asg, G_n, Gs_0, Gs_1, G_u, W_asgG, mv_val, mv_own, W_mov, ol_lst, W_mutL, WS_nil, WS_cons, put_nil, put_cons, W_parS, WB_nil, WB_d, WB_r, ls_val, ls_own, sl_nil, sl_d, sl_r, W_call, lp_nx, lp_ct, lp_bk, lp_ret, W_for, W_forL_nil, W_ia, waL, waT, waR, waS, waD, WK_0, WK_1, W_dct, kD_nil, kD_S, oo_own, W_putX, put_lst, put_dctS, v_dictL, v_dictD, v_max3, ixK, x_eqS, x_neS, x_eqI, x_neI, inX_L, inX_T, inX_S, inX_D, sl_1T, sl_1L, sl_2T, sl_2L, List.drop_succ_cons, List.drop_zero, r1_int, W_IR1, r2_int, W_IR2, a1_one, W_IE, a2_two, W_IZ, W_lc, W_lcL_nil, W_yes, W_chT, W_inN, W_inNV, List.getElem?_cons_zero, List.getElem?_cons_succ, List.set_cons_zero, List.set_cons_succ, List.length_cons, List.length_nil, v_add, v_sub, v_mul, v_div, v_mod, v_pow, v_neg, v_abs, v_intB, v_intI, v_lt, v_le, v_gt, v_ge, v_max, v_min, v_trI, v_trB, v_lenL, v_lenT, v_lenR, lenLst, lenTup, lenRl, ixL, ixT, ixR, itL, itT, itR, lsL, lsR, blD_lt, v_list, v_tuple, v_eqS, v_neS, v_eqI, v_neI, v_app, v_rev, v_clear, v_ext, at0, at1, at2, at3, at4, at5, at6, at7, st0, st1, st2, st3, merge, lent, backAll_nil, backAll_cons, bA_un, bA_val, bA_nil, bA_d, bA_ne, bA_rv, bA_eq, List.nodup_cons, List.nodup_nil, List.not_mem_nil, not_false_eq_true, Nat.reduceAdd, Nat.reduceEqDiff, ne_eq, reduceCtorEq, if_true, reduceIte, wipe_nil, wipe_cons, nown_un, nown_val, restO, on_nil, on_cons, gd0, gdS, kQ_nm, kQ_ex, W_kT, W_kV, W_isiN, W_trN, true_and, and_true]
  have pv := pair_val (t := t) hb
  have g0 := gcd_pos (t := t) hb
  have gl := gcd_le (t := t) hb
  have gb : (Int.gcd t b) < 2 ^ 8999 := Nat.lt_of_le_of_lt gl hb9
  refine ⟨fun h => ?_, fun h => ?_⟩
  · refine divisor_W hb0 ?_
    simp -dsimp only [W_some, W_none, WO_some, WO_none, br_true, br_false, br_dec, br_not, rd_val, rd_lst, rd_dct, W_var, W_c, W_v, fz_val, fz_lst, fz_dct, W_fz, W_bin, W_binT, W_binS, W_u, W_tr, W_andT, W_orT, W_notT, asB_bl, W_andV, W_orV, W_notV, W_ifE, W_ifS, W_nil, W_cons, W_tup, W_lst, pk_val, pk_lst, pk_dct, W_ixN, W_o0, asI_int, W_o1, W_sl, W_cb, W_lenN, W_isi, W_bm, nxt_nx, nxt_bk, nxt_ct, nxt_ret, W_skip, W_seq, W_drop, W_ret, W_retN, W_ct, W_bk, W_if, wr_un, wr_val, wr_own, W_asg, G_n, Gs_0, Gs_1, G_u, W_asgG, mv_val, mv_own, W_mov, ol_lst, W_mutL, WS_nil, WS_cons, put_nil, put_cons, W_parS, WB_nil, WB_d, WB_r, ls_val, ls_own, sl_nil, sl_d, sl_r, W_call, lp_nx, lp_ct, lp_bk, lp_ret, W_for, W_forL_nil, W_ia, waL, waT, waR, waS, waD, WK_0, WK_1, W_dct, kD_nil, kD_S, oo_own, W_putX, put_lst, put_dctS, v_dictL, v_dictD, v_max3, ixK, x_eqS, x_neS, x_eqI, x_neI, inX_L, inX_T, inX_S, inX_D, sl_1T, sl_1L, sl_2T, sl_2L, List.drop_succ_cons, List.drop_zero, r1_int, W_IR1, r2_int, W_IR2, a1_one, W_IE, a2_two, W_IZ, W_lc, W_lcL_nil, W_yes, W_chT, W_inN, W_inNV, List.getElem?_cons_zero, List.getElem?_cons_succ, List.set_cons_zero, List.set_cons_succ, List.length_cons, List.length_nil, v_add, v_sub, v_mul, v_div, v_mod, v_pow, v_neg, v_abs, v_intB, v_intI, v_lt, v_le, v_gt, v_ge, v_max, v_min, v_trI, v_trB, v_lenL, v_lenT, v_lenR, lenLst, lenTup, lenRl, ixL, ixT, ixR, itL, itT, itR, lsL, lsR, blD_lt, v_list, v_tuple, v_eqS, v_neS, v_eqI, v_neI, v_app, v_rev, v_clear, v_ext, at0, at1, at2, at3, at4, at5, at6, at7, st0, st1, st2, st3, merge, lent, backAll_nil, backAll_cons, bA_un, bA_val, bA_nil, bA_d, bA_ne, bA_rv, bA_eq, List.nodup_cons, List.nodup_nil, List.not_mem_nil, not_false_eq_true, Nat.reduceAdd, Nat.reduceEqDiff, ne_eq, reduceCtorEq, if_true, reduceIte, wipe_nil, wipe_cons, nown_un, nown_val, restO, on_nil, on_cons, gd0, gdS, kQ_nm, kQ_ex, W_kT, W_kV, W_isiN, W_trN, true_and, and_true]
    rw [if_pos (by omega)] at pv
    rw [pv.1, pv.2]
    exact ⟨⟨by omega, log2_of gb⟩, ⟨by omega, log2_of gb⟩, by decide, q (Sz.divInt ht hk hb)⟩
  · refine divisor_W hb0 ?_
    simp -dsimp only [W_some, W_none, WO_some, WO_none, br_true, br_false, br_dec, br_not, rd_val, rd_lst, rd_dct, W_var, W_c, W_v, fz_val, fz_lst, fz_dct, W_fz, W_bin, W_binT, W_binS, W_u, W_tr, W_andT, W_orT, W_notT, asB_bl, W_andV, W_orV, W_notV, W_ifE, W_ifS, W_nil, W_cons, W_tup, W_lst, pk_val, pk_lst, pk_dct, W_ixN, W_o0, asI_int, W_o1, W_sl, W_cb, W_lenN, W_isi, W_bm, nxt_nx, nxt_bk, nxt_ct, nxt_ret, W_skip, W_seq, W_drop, W_ret, W_retN, W_ct, W_bk, W_if, wr_un, wr_val, wr_own, W_asg, G_n, Gs_0, Gs_1, G_u, W_asgG, mv_val, mv_own, W_mov, ol_lst, W_mutL, WS_nil, WS_cons, put_nil, put_cons, W_parS, WB_nil, WB_d, WB_r, ls_val, ls_own, sl_nil, sl_d, sl_r, W_call, lp_nx, lp_ct, lp_bk, lp_ret, W_for, W_forL_nil, W_ia, waL, waT, waR, waS, waD, WK_0, WK_1, W_dct, kD_nil, kD_S, oo_own, W_putX, put_lst, put_dctS, v_dictL, v_dictD, v_max3, ixK, x_eqS, x_neS, x_eqI, x_neI, inX_L, inX_T, inX_S, inX_D, sl_1T, sl_1L, sl_2T, sl_2L, List.drop_succ_cons, List.drop_zero, r1_int, W_IR1, r2_int, W_IR2, a1_one, W_IE, a2_two, W_IZ, W_lc, W_lcL_nil, W_yes, W_chT, W_inN, W_inNV, List.getElem?_cons_zero, List.getElem?_cons_succ, List.set_cons_zero, List.set_cons_succ, List.length_cons, List.length_nil, v_add, v_sub, v_mul, v_div, v_mod, v_pow, v_neg, v_abs, v_intB, v_intI, v_lt, v_le, v_gt, v_ge, v_max, v_min, v_trI, v_trB, v_lenL, v_lenT, v_lenR, lenLst, lenTup, lenRl, ixL, ixT, ixR, itL, itT, itR, lsL, lsR, blD_lt, v_list, v_tuple, v_eqS, v_neS, v_eqI, v_neI, v_app, v_rev, v_clear, v_ext, at0, at1, at2, at3, at4, at5, at6, at7, st0, st1, st2, st3, merge, lent, backAll_nil, backAll_cons, bA_un, bA_val, bA_nil, bA_d, bA_ne, bA_rv, bA_eq, List.nodup_cons, List.nodup_nil, List.not_mem_nil, not_false_eq_true, Nat.reduceAdd, Nat.reduceEqDiff, ne_eq, reduceCtorEq, if_true, reduceIte, wipe_nil, wipe_cons, nown_un, nown_val, restO, on_nil, on_cons, gd0, gdS, kQ_nm, kQ_ex, W_kT, W_kV, W_isiN, W_trN, true_and, and_true]
    rw [if_neg (by omega)] at pv
    rw [pv.1, pv.2]
    exact ⟨⟨by omega, by rw [Int.natAbs_neg]; exact log2_of gb⟩, ⟨by omega, by rw [Int.natAbs_neg]; exact log2_of gb⟩, by decide, q (Sz.divInt ht hk hb)⟩
theorem pair_plus_W {p r : Rat} {a b : Nat} {Q : Slot → List Slot → Prop} (hp : Sz a p) (hr : Sz b r) (hab : a + b ≤ 8000) (q : Q (.val (prD (p + r))) [.val (prD p), .val (prD r)]) : W (m_pair_plus [.val (prD p), .val (prD r)]) Q := by
  unfold m_pair_plus o_pair_plus
  refine W_fn rfl ?_
  show W (b_pair_plus m_pair_of [.val (prD p), .val (prD r)]) _
  unfold b_pair_plus
  simp -dsimp only [W_some, W_none, WO_some, WO_none, br_true, br_false, br_dec, br_not, rd_val, rd_lst, rd_dct, W_var, W_c, W_v, fz_val, fz_lst, fz_dct, W_fz, W_bin, W_binT, W_binS, W_u, W_tr, W_andT, W_orT, W_notT, asB_bl, W_andV, W_orV, W_notV, W_ifE, W_ifS, W_nil, W_cons, W_tup, W_lst, pk_val, pk_lst, pk_dct, W_ixN, W_o0, asI_int, W_o1, W_sl, W_cb, W_lenN, W_isi, W_bm, nxt_nx, nxt_bk, nxt_ct, nxt_ret, W_skip, W_seq, W_drop, W_ret, W_retN, W_ct, W_bk, W_if, wr_un, wr_val, wr_own, W_asg, G_n, Gs_0, Gs_1, G_u, W_asgG, mv_val, mv_own, W_mov, ol_lst, W_mutL, WS_nil, WS_cons, put_nil, put_cons, W_parS, WB_nil, WB_d, WB_r, ls_val, ls_own, sl_nil, sl_d, sl_r, W_call, lp_nx, lp_ct, lp_bk, lp_ret, W_for, W_forL_nil, W_ia, waL, waT, waR, waS, waD, WK_0, WK_1, W_dct, kD_nil, kD_S, oo_own, W_putX, put_lst, put_dctS, v_dictL, v_dictD, v_max3, ixK, x_eqS, x_neS, x_eqI, x_neI, inX_L, inX_T, inX_S, inX_D, sl_1T, sl_1L, sl_2T, sl_2L, List.drop_succ_cons, List.drop_zero, r1_int, W_IR1, r2_int, W_IR2, a1_one, W_IE, a2_two, W_IZ, W_lc, W_lcL_nil, W_yes, W_chT, W_inN, W_inNV, List.getElem?_cons_zero, List.getElem?_cons_succ, List.set_cons_zero, List.set_cons_succ, List.length_cons, List.length_nil, v_add, v_sub, v_mul, v_div, v_mod, v_pow, v_neg, v_abs, v_intB, v_intI, v_lt, v_le, v_gt, v_ge, v_max, v_min, v_trI, v_trB, v_lenL, v_lenT, v_lenR, lenLst, lenTup, lenRl, ixL, ixT, ixR, itL, itT, itR, lsL, lsR, blD_lt, v_list, v_tuple, v_eqS, v_neS, v_eqI, v_neI, v_app, v_rev, v_clear, v_ext, at0, at1, at2, at3, at4, at5, at6, at7, st0, st1, st2, st3, merge, lent, backAll_nil, backAll_cons, bA_un, bA_val, bA_nil, bA_d, bA_ne, bA_rv, bA_eq, List.nodup_cons, List.nodup_nil, List.not_mem_nil, not_false_eq_true, Nat.reduceAdd, Nat.reduceEqDiff, ne_eq, reduceCtorEq, if_true, reduceIte, wipe_nil, wipe_cons, nown_un, nown_val, restO, on_nil, on_cons, gd0, gdS, kQ_nm, kQ_ex, W_kT, W_kV, W_isiN, W_trN, true_and, and_true, prD]
  have ha : 0 < a := by
    rcases Nat.eq_zero_or_pos a with h | h
    · subst h
      have := hp.2
      have := p.den_pos
      omega
    · exact h
  have hb : 0 < b := by
    rcases Nat.eq_zero_or_pos b with h | h
    · subst h
      have := hr.2
      have := r.den_pos
      omega
    · exact h
  refine ⟨mulSm_b hp.1 hr.2 ha hb (by omega), mulSm_b hr.1 hp.2 hb ha (by omega), mulSm_b hp.2 hr.2 ha hb (by omega), ?_⟩
  have h1 := mul_lt2 hp.1 hr.2
  have h2 := mul_lt2 hr.1 hp.2
  have h3 := mul_lt2 hp.2 hr.2
  have e : 2 ^ (a + b + 1) = 2 * 2 ^ (a + b) := by rw [Nat.pow_succ]; omega
  rw [Nat.add_comm b a] at h2
  refine pair_of_W (k := a + b + 1) (dens_ne p r) ?_ ?_ (by omega) fun _ => ?_
  · have t := Int.natAbs_add_le (p.num * r.den) (r.num * p.den)
    rw [Int.natAbs_mul, Int.natAbs_mul, Int.natAbs_natCast, Int.natAbs_natCast] at t
    omega
  · rw [Int.natAbs_mul, Int.natAbs_natCast, Int.natAbs_natCast]
    omega
  · rw [add_divInt]
    exact q
theorem pair_times_W {p r : Rat} {a b : Nat} {Q : Slot → List Slot → Prop} (hp : Sz a p) (hr : Sz b r) (hab : a + b ≤ 8000) (q : Q (.val (prD (p * r))) [.val (prD p), .val (prD r)]) : W (m_pair_times [.val (prD p), .val (prD r)]) Q := by
  unfold m_pair_times o_pair_times
  refine W_fn rfl ?_
  show W (b_pair_times m_pair_of [.val (prD p), .val (prD r)]) _
  unfold b_pair_times
  simp -dsimp only [W_some, W_none, WO_some, WO_none, br_true, br_false, br_dec, br_not, rd_val, rd_lst, rd_dct, W_var, W_c, W_v, fz_val, fz_lst, fz_dct, W_fz, W_bin, W_binT, W_binS, W_u, W_tr, W_andT, W_orT, W_notT, asB_bl, W_andV, W_orV, W_notV, W_ifE, W_ifS, W_nil, W_cons, W_tup, W_lst, pk_val, pk_lst, pk_dct, W_ixN, W_o0, asI_int, W_o1, W_sl, W_cb, W_lenN, W_isi, W_bm, nxt_nx, nxt_bk, nxt_ct, nxt_ret, W_skip, W_seq, W_drop, W_ret, W_retN, W_ct, W_bk, W_if, wr_un, wr_val, wr_own, W_asg, G_n, Gs_0, Gs_1, G_u, W_asgG, mv_val, mv_own, W_mov, ol_lst, W_mutL, WS_nil, WS_cons, put_nil, put_cons, W_parS, WB_nil, WB_d, WB_r, ls_val, ls_own, sl_nil, sl_d, sl_r, W_call, lp_nx, lp_ct, lp_bk, lp_ret, W_for, W_forL_nil, W_ia, waL, waT, waR, waS, waD, WK_0, WK_1, W_dct, kD_nil, kD_S, oo_own, W_putX, put_lst, put_dctS, v_dictL, v_dictD, v_max3, ixK, x_eqS, x_neS, x_eqI, x_neI, inX_L, inX_T, inX_S, inX_D, sl_1T, sl_1L, sl_2T, sl_2L, List.drop_succ_cons, List.drop_zero, r1_int, W_IR1, r2_int, W_IR2, a1_one, W_IE, a2_two, W_IZ, W_lc, W_lcL_nil, W_yes, W_chT, W_inN, W_inNV, List.getElem?_cons_zero, List.getElem?_cons_succ, List.set_cons_zero, List.set_cons_succ, List.length_cons, List.length_nil, v_add, v_sub, v_mul, v_div, v_mod, v_pow, v_neg, v_abs, v_intB, v_intI, v_lt, v_le, v_gt, v_ge, v_max, v_min, v_trI, v_trB, v_lenL, v_lenT, v_lenR, lenLst, lenTup, lenRl, ixL, ixT, ixR, itL, itT, itR, lsL, lsR, blD_lt, v_list, v_tuple, v_eqS, v_neS, v_eqI, v_neI, v_app, v_rev, v_clear, v_ext, at0, at1, at2, at3, at4, at5, at6, at7, st0, st1, st2, st3, merge, lent, backAll_nil, backAll_cons, bA_un, bA_val, bA_nil, bA_d, bA_ne, bA_rv, bA_eq, List.nodup_cons, List.nodup_nil, List.not_mem_nil, not_false_eq_true, Nat.reduceAdd, Nat.reduceEqDiff, ne_eq, reduceCtorEq, if_true, reduceIte, wipe_nil, wipe_cons, nown_un, nown_val, restO, on_nil, on_cons, gd0, gdS, kQ_nm, kQ_ex, W_kT, W_kV, W_isiN, W_trN, true_and, and_true, prD]
  have ha : 0 < a := by
    rcases Nat.eq_zero_or_pos a with h | h
    · subst h
      have := hp.2
      have := p.den_pos
      omega
    · exact h
  have hb : 0 < b := by
    rcases Nat.eq_zero_or_pos b with h | h
    · subst h
      have := hr.2
      have := r.den_pos
      omega
    · exact h
  refine ⟨mulSm_b hp.1 hr.1 ha hb (by omega), mulSm_b hp.2 hr.2 ha hb (by omega), ?_⟩
  have h1 := mul_lt2 hp.1 hr.1
  have h3 := mul_lt2 hp.2 hr.2
  refine pair_of_W (k := a + b) (dens_ne p r) ?_ ?_ (by omega) fun _ => ?_
  · rw [Int.natAbs_mul]
    exact h1
  · rw [Int.natAbs_mul, Int.natAbs_natCast, Int.natAbs_natCast]
    exact h3
  · rw [mul_divInt]
    exact q
/-- of two pairs there is no outermost root -/
theorem outer_pp {p r : Rat} {Q : Slot → List Slot → Prop} (q : Q (.val .non) [.val (prD p), .val (prD r)]) : W (m_outermost [.val (prD p), .val (prD r)]) Q := by
  unfold m_outermost o_outermost
  refine W_fn rfl ?_
  show W (b_outermost m_rank_of [.val (prD p), .val (prD r), .un, .un]) _
  unfold b_outermost
  try simp -dsimp only [W_some, W_none, WO_some, WO_none, br_true, br_false, br_dec, br_not, rd_val, rd_lst, rd_dct, W_var, W_c, W_v, fz_val, fz_lst, fz_dct, W_fz, W_bin, W_binT, W_binS, W_u, W_tr, W_andT, W_orT, W_notT, asB_bl, W_andV, W_orV, W_notV, W_ifE, W_ifS, W_nil, W_cons, W_tup, W_lst, pk_val, pk_lst, pk_dct, W_ixN, W_o0, asI_int, W_o1, W_sl, W_cb, W_lenN, W_isi, W_bm, nxt_nx, nxt_bk, nxt_ct, nxt_ret, W_skip, W_seq, W_drop, W_ret, W_retN, W_ct, W_bk, W_if, wr_un, wr_val, wr_own, W_asg, G_n, Gs_0, Gs_1, G_u, W_asgG, mv_val, mv_own, W_mov, ol_lst, W_mutL, WS_nil, WS_cons, put_nil, put_cons, W_parS, WB_nil, WB_d, WB_r, ls_val, ls_own, sl_nil, sl_d, sl_r, W_call, lp_nx, lp_ct, lp_bk, lp_ret, W_for, W_forL_nil, W_ia, waL, waT, waR, waS, waD, WK_0, WK_1, W_dct, kD_nil, kD_S, oo_own, W_putX, put_lst, put_dctS, v_dictL, v_dictD, v_max3, ixK, x_eqS, x_neS, x_eqI, x_neI, inX_L, inX_T, inX_S, inX_D, sl_1T, sl_1L, sl_2T, sl_2L, List.drop_succ_cons, List.drop_zero, r1_int, W_IR1, r2_int, W_IR2, a1_one, W_IE, a2_two, W_IZ, W_lc, W_lcL_nil, W_yes, W_chT, W_inN, W_inNV, List.getElem?_cons_zero, List.getElem?_cons_succ, List.set_cons_zero, List.set_cons_succ, List.length_cons, List.length_nil, v_add, v_sub, v_mul, v_div, v_mod, v_pow, v_neg, v_abs, v_intB, v_intI, v_lt, v_le, v_gt, v_ge, v_max, v_min, v_trI, v_trB, v_lenL, v_lenT, v_lenR, lenLst, lenTup, lenRl, ixL, ixT, ixR, itL, itT, itR, lsL, lsR, blD_lt, v_list, v_tuple, v_eqS, v_neS, v_eqI, v_neI, v_app, v_rev, v_clear, v_ext, at0, at1, at2, at3, at4, at5, at6, at7, st0, st1, st2, st3, merge, lent, backAll_nil, backAll_cons, bA_un, bA_val, bA_nil, bA_d, bA_ne, bA_rv, bA_eq, List.nodup_cons, List.nodup_nil, List.not_mem_nil, not_false_eq_true, Nat.reduceAdd, Nat.reduceEqDiff, ne_eq, reduceCtorEq, if_true, reduceIte, wipe_nil, wipe_cons, nown_un, nown_val, restO, on_nil, on_cons, gd0, gdS, kQ_nm, kQ_ex, W_kT, W_kV, W_isiN, W_trN, true_and, and_true, w_isiP, W_IZM, zmT, zmL, zmTL, zmLT, zipD, v_all0, v_all1, v_all2, w_isiS, w_isiT, w_isiB, x_neB, x_eqB, cst0, cst1, cst2, cst3, cst4, cst5, cst6, cst7, cst8, cst9, cst10, cst11, cst12, cst13, cst14, cst15, is_non, is_tup, is_str, is_int, isn_non, isn_tup, isn_str, isn_int, Int.reduceEq, Int.reduceNe, Int.reduceLT, Int.reduceLE, Int.reduceGT, Nat.reduceLeDiff, Nat.reduceLT, Nat.reduceEqDiff, List.nil_append, List.cons_append, decide_true, decide_false, forall_const, false_implies, true_implies, not_true_eq_false, Int.reduceNeg, Nat.le_refl, Nat.zero_le, prD, W_lcL_cons]
  exact ⟨by decide, q⟩
theorem plusN {n : Nat} {p r : Rat} {a b : Nat} {Q : Slot → List Slot → Prop} (hp : Sz a p) (hr : Sz b r) (hab : a + b ≤ 8000) (q : Q (.val (prD (p + r))) [.val (prD p), .val (prD r)]) : W (q_nest_plus (n + 1) [.val (prD p), .val (prD r)]) Q := by
  simp only [q_nest_plus]
  unfold o_nest_plus
  refine W_fn rfl ?_
  show W (b_nest_plus _ _ _ _ _ [.val (prD p), .val (prD r), .un, .un, .un, .un, .un]) _
  unfold b_nest_plus
  walk_at "wq"
  refine outer_pp ?_
  walk_at "wq"
  exact pair_plus_W hp hr hab q
theorem timesN {n : Nat} {p r : Rat} {a b : Nat} {Q : Slot → List Slot → Prop} (hp : Sz a p) (hr : Sz b r) (hab : a + b ≤ 8000) (q : Q (.val (prD (p * r))) [.val (prD p), .val (prD r)]) : W (q_nest_times (n + 1) [.val (prD p), .val (prD r)]) Q := by
  simp only [q_nest_times]
  unfold o_nest_times
  refine W_fn rfl ?_
  show W (b_nest_times _ _ _ _ _ _ [.val (prD p), .val (prD r), .un, .un, .un, .un, .un, .un]) _
  unfold b_nest_times
  walk_at "wq"
  refine outer_pp ?_
  walk_at "wq"
  exact pair_times_W hp hr hab q
theorem pr_minus : (D.tup [.int (-1), .int 1]) = prD ((-1 : Int) : Rat) := (pr_int (-1)).symm
theorem pr_nought : (D.tup [.int 0, .int 1]) = prD ((0 : Int) : Rat) := (pr_int 0).symm
theorem pr_one : (D.tup [.int 1, .int 1]) = prD ((1 : Int) : Rat) := (pr_int 1).symm
theorem Sz.one : Sz 1 ((-1 : Int) : Rat) := Sz.int (by decide) (by decide)
theorem minusN {n : Nat} {p r : Rat} {a b : Nat} {Q : Slot → List Slot → Prop} (hp : Sz a p) (hr : Sz b r) (hab : a + b ≤ 7990) (q : Q (.val (prD (p - r))) [.val (prD p), .val (prD r)]) : W (q_nest_minus (n + 2) [.val (prD p), .val (prD r)]) Q := by
  simp only [q_nest_minus]
  unfold o_nest_minus
  refine W_fn rfl ?_
  show W (b_nest_minus _ _ [.val (prD p), .val (prD r)]) _
  unfold b_nest_minus
  walk_at "wq"
  rw [pr_minus]
  refine timesN Sz.one hr (by omega) ?_
  walk_at "wq"
  refine plusN hp (Sz.one.mul hr) (by omega) ?_
  have e : p + ((-1 : Int) : Rat) * r = p - r := by
    rw [show ((-1 : Int) : Rat) = -1 from rfl]
    grind
  rw [e]
  exact q
/-- 1, 0 or -1 -/
def sgI (q : Rat) : Int := (if decide (0 < q.num) = true then 1 else 0) - (if decide (q.num < 0) = true then 1 else 0)
theorem signN {n : Nat} {p : Rat} {Q : Slot → List Slot → Prop} (q : Q (.val (.int (sgI p))) [.val (prD p)]) : W (q_nest_sign (n + 1) [.val (prD p)]) Q := by
  simp only [q_nest_sign]
  unfold o_nest_sign
  refine W_fn rfl ?_
  show W (b_nest_sign _ _ [.val (prD p), .un, .un]) _
  unfold b_nest_sign
  try simp -dsimp only [W_some, W_none, WO_some, WO_none, br_true, br_false, br_dec, br_not, rd_val, rd_lst, rd_dct, W_var, W_c, W_v, fz_val, fz_lst, fz_dct, W_fz, W_bin, W_binT, W_binS, W_u, W_tr, W_andT, W_orT, W_notT, asB_bl, W_andV, W_orV, W_notV, W_ifE, W_ifS, W_nil, W_cons, W_tup, W_lst, pk_val, pk_lst, pk_dct, W_ixN, W_o0, asI_int, W_o1, W_sl, W_cb, W_lenN, W_isi, W_bm, nxt_nx, nxt_bk, nxt_ct, nxt_ret, W_skip, W_seq, W_drop, W_ret, W_retN, W_ct, W_bk, W_if, wr_un, wr_val, wr_own, W_asg, G_n, Gs_0, Gs_1, G_u, W_asgG, mv_val, mv_own, W_mov, ol_lst, W_mutL, WS_nil, WS_cons, put_nil, put_cons, W_parS, WB_nil, WB_d, WB_r, ls_val, ls_own, sl_nil, sl_d, sl_r, W_call, lp_nx, lp_ct, lp_bk, lp_ret, W_for, W_forL_nil, W_ia, waL, waT, waR, waS, waD, WK_0, WK_1, W_dct, kD_nil, kD_S, oo_own, W_putX, put_lst, put_dctS, v_dictL, v_dictD, v_max3, ixK, x_eqS, x_neS, x_eqI, x_neI, inX_L, inX_T, inX_S, inX_D, sl_1T, sl_1L, sl_2T, sl_2L, List.drop_succ_cons, List.drop_zero, r1_int, W_IR1, r2_int, W_IR2, a1_one, W_IE, a2_two, W_IZ, W_lc, W_lcL_nil, W_yes, W_chT, W_inN, W_inNV, List.getElem?_cons_zero, List.getElem?_cons_succ, List.set_cons_zero, List.set_cons_succ, List.length_cons, List.length_nil, v_add, v_sub, v_mul, v_div, v_mod, v_pow, v_neg, v_abs, v_intB, v_intI, v_lt, v_le, v_gt, v_ge, v_max, v_min, v_trI, v_trB, v_lenL, v_lenT, v_lenR, lenLst, lenTup, lenRl, ixL, ixT, ixR, itL, itT, itR, lsL, lsR, blD_lt, v_list, v_tuple, v_eqS, v_neS, v_eqI, v_neI, v_app, v_rev, v_clear, v_ext, at0, at1, at2, at3, at4, at5, at6, at7, st0, st1, st2, st3, merge, lent, backAll_nil, backAll_cons, bA_un, bA_val, bA_nil, bA_d, bA_ne, bA_rv, bA_eq, List.nodup_cons, List.nodup_nil, List.not_mem_nil, not_false_eq_true, Nat.reduceAdd, Nat.reduceEqDiff, ne_eq, reduceCtorEq, if_true, reduceIte, wipe_nil, wipe_cons, nown_un, nown_val, restO, on_nil, on_cons, gd0, gdS, kQ_nm, kQ_ex, W_kT, W_kV, W_isiN, W_trN, true_and, and_true, w_isiP, W_IZM, zmT, zmL, zmTL, zmLT, zipD, v_all0, v_all1, v_all2, w_isiS, w_isiT, w_isiB, x_neB, x_eqB, cst0, cst1, cst2, cst3, cst4, cst5, cst6, cst7, cst8, cst9, cst10, cst11, cst12, cst13, cst14, cst15, is_non, is_tup, is_str, is_int, isn_non, isn_tup, isn_str, isn_int, Int.reduceEq, Int.reduceNe, Int.reduceLT, Int.reduceLE, Int.reduceGT, Nat.reduceLeDiff, Nat.reduceLT, Nat.reduceEqDiff, List.nil_append, List.cons_append, decide_true, decide_false, forall_const, false_implies, true_implies, not_true_eq_false, Int.reduceNeg, Nat.le_refl, Nat.zero_le, prD]
  exact q
theorem settledN {n : Nat} {p : Rat} {Q : Slot → List Slot → Prop} (q : Q (.val (prD p)) [.val (prD p)]) : W (q_settled (n + 1) [.val (prD p)]) Q := by
  simp only [q_settled]
  unfold o_settled
  refine W_fn rfl ?_
  show W (b_settled _ _ _ _ [.val (prD p), .un]) _
  unfold b_settled
  try simp -dsimp only [W_some, W_none, WO_some, WO_none, br_true, br_false, br_dec, br_not, rd_val, rd_lst, rd_dct, W_var, W_c, W_v, fz_val, fz_lst, fz_dct, W_fz, W_bin, W_binT, W_binS, W_u, W_tr, W_andT, W_orT, W_notT, asB_bl, W_andV, W_orV, W_notV, W_ifE, W_ifS, W_nil, W_cons, W_tup, W_lst, pk_val, pk_lst, pk_dct, W_ixN, W_o0, asI_int, W_o1, W_sl, W_cb, W_lenN, W_isi, W_bm, nxt_nx, nxt_bk, nxt_ct, nxt_ret, W_skip, W_seq, W_drop, W_ret, W_retN, W_ct, W_bk, W_if, wr_un, wr_val, wr_own, W_asg, G_n, Gs_0, Gs_1, G_u, W_asgG, mv_val, mv_own, W_mov, ol_lst, W_mutL, WS_nil, WS_cons, put_nil, put_cons, W_parS, WB_nil, WB_d, WB_r, ls_val, ls_own, sl_nil, sl_d, sl_r, W_call, lp_nx, lp_ct, lp_bk, lp_ret, W_for, W_forL_nil, W_ia, waL, waT, waR, waS, waD, WK_0, WK_1, W_dct, kD_nil, kD_S, oo_own, W_putX, put_lst, put_dctS, v_dictL, v_dictD, v_max3, ixK, x_eqS, x_neS, x_eqI, x_neI, inX_L, inX_T, inX_S, inX_D, sl_1T, sl_1L, sl_2T, sl_2L, List.drop_succ_cons, List.drop_zero, r1_int, W_IR1, r2_int, W_IR2, a1_one, W_IE, a2_two, W_IZ, W_lc, W_lcL_nil, W_yes, W_chT, W_inN, W_inNV, List.getElem?_cons_zero, List.getElem?_cons_succ, List.set_cons_zero, List.set_cons_succ, List.length_cons, List.length_nil, v_add, v_sub, v_mul, v_div, v_mod, v_pow, v_neg, v_abs, v_intB, v_intI, v_lt, v_le, v_gt, v_ge, v_max, v_min, v_trI, v_trB, v_lenL, v_lenT, v_lenR, lenLst, lenTup, lenRl, ixL, ixT, ixR, itL, itT, itR, lsL, lsR, blD_lt, v_list, v_tuple, v_eqS, v_neS, v_eqI, v_neI, v_app, v_rev, v_clear, v_ext, at0, at1, at2, at3, at4, at5, at6, at7, st0, st1, st2, st3, merge, lent, backAll_nil, backAll_cons, bA_un, bA_val, bA_nil, bA_d, bA_ne, bA_rv, bA_eq, List.nodup_cons, List.nodup_nil, List.not_mem_nil, not_false_eq_true, Nat.reduceAdd, Nat.reduceEqDiff, ne_eq, reduceCtorEq, if_true, reduceIte, wipe_nil, wipe_cons, nown_un, nown_val, restO, on_nil, on_cons, gd0, gdS, kQ_nm, kQ_ex, W_kT, W_kV, W_isiN, W_trN, true_and, and_true, w_isiP, W_IZM, zmT, zmL, zmTL, zmLT, zipD, v_all0, v_all1, v_all2, w_isiS, w_isiT, w_isiB, x_neB, x_eqB, cst0, cst1, cst2, cst3, cst4, cst5, cst6, cst7, cst8, cst9, cst10, cst11, cst12, cst13, cst14, cst15, is_non, is_tup, is_str, is_int, isn_non, isn_tup, isn_str, isn_int, Int.reduceEq, Int.reduceNe, Int.reduceLT, Int.reduceLE, Int.reduceGT, Nat.reduceLeDiff, Nat.reduceLT, Nat.reduceEqDiff, List.nil_append, List.cons_append, decide_true, decide_false, forall_const, false_implies, true_implies, not_true_eq_false, Int.reduceNeg, Nat.le_refl, Nat.zero_le, prD]
  exact q
theorem sg_zero {p : Rat} : sgI p = 0 ↔ p = 0 := by
  unfold sgI
  rw [← Rat.num_eq_zero]
  simp only [decide_eq_true_eq]
  split <;> split <;> omega
theorem num_pos' {p : Rat} : 0 < p.num ↔ 0 < p := by
  have h1 : 0 ≤ p.num ↔ 0 ≤ p := Rat.num_nonneg
  have h2 : p.num = 0 ↔ p = 0 := Rat.num_eq_zero
  constructor
  · intro h
    have a := h1.mp (by omega)
    have b : p ≠ 0 := fun e => by have := h2.mpr e; omega
    grind
  · intro h
    have a := h1.mpr (by grind)
    have b : p.num ≠ 0 := fun e => by have := h2.mp e; grind
    omega
theorem sg_pos {p : Rat} : 0 < sgI p ↔ 0 < p := by
  rw [← num_pos']
  unfold sgI
  simp only [decide_eq_true_eq]
  split <;> split <;> omega

/-! ### draws -/
theorem draw_W {p : Bool} {a b c n : Int} {Q : Slot → List Slot → Prop} (hb : 0 ≤ b ∧ b < 2 ^ 62) (hc : 0 ≤ c ∧ c < 2 ^ 40) (hn : 0 < n) (hn2 : n < 2 ^ 62)
    (k : ∀ r a' c' : Int, 0 ≤ r → r < n → 0 ≤ c' → c' ≤ c + 1 → Q (.val (.int r)) [.own p (.lst [.int a', .int b, .int c']), .val (.int n)]) :
    W (m__law_draw [.own p (.lst [.int a, .int b, .int c]), .val (.int n)]) Q := by
  unfold m__law_draw o__law_draw
  refine W_fn rfl ?_
  show W (b__law_draw [.own p (.lst [.int a, .int b, .int c]), .val (.int n), .un, .un, .un]) _
  unfold b__law_draw
  simp -dsimp only [W_some, W_none, WO_some, WO_none, br_true, br_false, br_dec, br_not, rd_val, rd_lst, rd_dct, W_var, W_c, W_v, fz_val, fz_lst, fz_dct, W_fz, W_bin, W_binT, W_binS, W_u, W_tr, W_andT, W_orT, W_notT, asB_bl, W_andV, W_orV, W_notV, W_ifE, W_ifS, W_nil, W_cons, W_tup, W_lst, pk_val, pk_lst, pk_dct, W_ixN, W_o0, asI_int, W_o1, W_sl, W_cb, W_lenN, W_isi, W_bm, nxt_nx, nxt_bk, nxt_ct, nxt_ret, W_skip, W_seq, W_drop, W_ret, W_retN, W_ct, W_bk, W_if, wr_un, wr_val, wr_own, W_asg, G_n, Gs_0, Gs_1, G_u, W_asgG, mv_val, mv_own, W_mov, ol_lst, W_mutL, WS_nil, WS_cons, put_nil, put_cons, W_parS, WB_nil, WB_d, WB_r, ls_val, ls_own, sl_nil, sl_d, sl_r, W_call, lp_nx, lp_ct, lp_bk, lp_ret, W_for, W_forL_nil, W_ia, waL, waT, waR, waS, waD, WK_0, WK_1, W_dct, kD_nil, kD_S, oo_own, W_putX, put_lst, put_dctS, v_dictL, v_dictD, v_max3, ixK, x_eqS, x_neS, x_eqI, x_neI, inX_L, inX_T, inX_S, inX_D, sl_1T, sl_1L, sl_2T, sl_2L, List.drop_succ_cons, List.drop_zero, r1_int, W_IR1, r2_int, W_IR2, a1_one, W_IE, a2_two, W_IZ, W_lc, W_lcL_nil, W_yes, W_chT, W_inN, W_inNV, List.getElem?_cons_zero, List.getElem?_cons_succ, List.set_cons_zero, List.set_cons_succ, List.length_cons, List.length_nil, v_add, v_sub, v_mul, v_div, v_mod, v_pow, v_neg, v_abs, v_intB, v_intI, v_lt, v_le, v_gt, v_ge, v_max, v_min, v_trI, v_trB, v_lenL, v_lenT, v_lenR, lenLst, lenTup, lenRl, ixL, ixT, ixR, itL, itT, itR, lsL, lsR, blD_lt, v_list, v_tuple, v_eqS, v_neS, v_eqI, v_neI, v_app, v_rev, v_clear, v_ext, at0, at1, at2, at3, at4, at5, at6, at7, st0, st1, st2, st3, merge, lent, backAll_nil, backAll_cons, bA_un, bA_val, bA_nil, bA_d, bA_ne, bA_rv, bA_eq, List.nodup_cons, List.nodup_nil, List.not_mem_nil, not_false_eq_true, Nat.reduceAdd, Nat.reduceEqDiff, ne_eq, reduceCtorEq, if_true, reduceIte, wipe_nil, wipe_cons, nown_un, nown_val, restO, on_nil, on_cons, gd0, gdS, kQ_nm, kQ_ex, W_kT, W_kV, W_isiN, W_trN, true_and, and_true]
  have n0 : n ≠ 0 := by omega
  refine ⟨fun _ => ⟨n0, ⟨n0, log2_sm (by omega) (by omega)⟩, k _ _ _ (fm0 hn) (fm1 hn) hc.1 (by omega)⟩, fun _ => ?_⟩
  have f1 := fm0 (a := (b + 39373 * (c + 1)) ^ Int.toNat 5) (n := 2147483647) (by decide)
  have f2 := fm1 (a := (b + 39373 * (c + 1)) ^ Int.toNat 5) (n := 2147483647) (by decide)
  refine ⟨mulSm_l (by decide) (by decide), ⟨by decide, by decide, by omega⟩, by decide, by decide, mulSm_l (by omega) (by omega), by decide, mulSm_r (by decide) (by decide), by decide, ⟨by decide, by decide⟩, n0, k _ _ _ (fm0 hn) (fm1 hn) (by omega) (by omega)⟩
abbrev tp (p : Bool) (a b c : Int) : Slot := .own p (.lst [.int a, .int b, .int c])

/-! ### numbers dressed with roots of squares -/
def fmA (q : Rat) (k : Int) : D := .tup [prD (q - ((k : Int) : Rat)), .tup [.int 1, .int 1], .tup [.int (k * k), .int 1]]
def fmB (q : Rat) (k : Int) : D := .tup [prD (q + ((2 * k : Int) : Rat)), .tup [.int (-2), .int 1], .tup [.tup [.int (k * k - k), .int 1], .tup [.int 1, .int 1], .tup [.int (k * k), .int 1]]]
/-- d is q, maybe dressed -/
def Dr (q : Rat) (d : D) : Prop := d = prD q ∨ ∃ k : Int, 1 ≤ k ∧ k ≤ 4 ∧ (d = fmA q k ∨ d = fmB q k)
theorem nr1 : m_nest_root [.val (.tup [.int 1, .int 1])] = some (.val (.tup [.int 1, .int 1]), [.val (.tup [.int 1, .int 1])]) := by kernel_rfl
theorem nr4 : m_nest_root [.val (.tup [.int 4, .int 1])] = some (.val (.tup [.int 2, .int 1]), [.val (.tup [.int 4, .int 1])]) := by kernel_rfl
theorem nr9 : m_nest_root [.val (.tup [.int 9, .int 1])] = some (.val (.tup [.int 3, .int 1]), [.val (.tup [.int 9, .int 1])]) := by kernel_rfl
theorem nr16 : m_nest_root [.val (.tup [.int 16, .int 1])] = some (.val (.tup [.int 4, .int 1]), [.val (.tup [.int 16, .int 1])]) := by kernel_rfl
theorem nrK {k : Int} (h1 : 1 ≤ k) (h4 : k ≤ 4) {Q : Slot → List Slot → Prop} (q : Q (.val (.tup [.int k, .int 1])) [.val (.tup [.int (k * k), .int 1])]) : W (m_nest_root [.val (.tup [.int (k * k), .int 1])]) Q := by
  have : k = 1 ∨ k = 2 ∨ k = 3 ∨ k = 4 := by omega
  rcases this with rfl | rfl | rfl | rfl
  · exact W_of nr1 q
  · exact W_of nr4 q
  · exact W_of nr9 q
  · exact W_of nr16 q
theorem st1 : q_settled 19 [.val (.tup [.tup [.int 0, .int 1], .tup [.int 1, .int 1], .tup [.int 1, .int 1]])] = some (.val (.tup [.int 1, .int 1]), [.val (.tup [.tup [.int 0, .int 1], .tup [.int 1, .int 1], .tup [.int 1, .int 1]])]) := by kernel_rfl
theorem st4 : q_settled 19 [.val (.tup [.tup [.int 2, .int 1], .tup [.int 1, .int 1], .tup [.int 4, .int 1]])] = some (.val (.tup [.int 4, .int 1]), [.val (.tup [.tup [.int 2, .int 1], .tup [.int 1, .int 1], .tup [.int 4, .int 1]])]) := by kernel_rfl
theorem st9 : q_settled 19 [.val (.tup [.tup [.int 6, .int 1], .tup [.int 1, .int 1], .tup [.int 9, .int 1]])] = some (.val (.tup [.int 9, .int 1]), [.val (.tup [.tup [.int 6, .int 1], .tup [.int 1, .int 1], .tup [.int 9, .int 1]])]) := by kernel_rfl
theorem st16 : q_settled 19 [.val (.tup [.tup [.int 12, .int 1], .tup [.int 1, .int 1], .tup [.int 16, .int 1]])] = some (.val (.tup [.int 16, .int 1]), [.val (.tup [.tup [.int 12, .int 1], .tup [.int 1, .int 1], .tup [.int 16, .int 1]])]) := by kernel_rfl
theorem stK {k : Int} (h1 : 1 ≤ k) (h4 : k ≤ 4) {Q : Slot → List Slot → Prop} (q : Q (.val (.tup [.int (k * k), .int 1])) [.val (.tup [.tup [.int (k * k - k), .int 1], .tup [.int 1, .int 1], .tup [.int (k * k), .int 1]])]) : W (q_settled 19 [.val (.tup [.tup [.int (k * k - k), .int 1], .tup [.int 1, .int 1], .tup [.int (k * k), .int 1]])]) Q := by
  have : k = 1 ∨ k = 2 ∨ k = 3 ∨ k = 4 := by omega
  rcases this with rfl | rfl | rfl | rfl
  · exact W_of st1 q
  · exact W_of st4 q
  · exact W_of st9 q
  · exact W_of st16 q
theorem Sz.small {k : Nat} {i : Int} (h0 : -100 ≤ i) (h1 : i ≤ 100) (h : 7 ≤ k) : Sz k (i : Rat) := (Sz.int (k := 7) (by omega) (by decide)).mono h
theorem settled_W {q : Rat} {d : D} {a : Nat} {Q : Slot → List Slot → Prop} (hd : Dr q d) (ha : Sz a q) (ha2 : a ≤ 3000) (k : Q (.val (prD q)) [.val d]) : W (m_settled [.val d]) Q := by
  have e20 : m_settled = o_settled m_nest_root m_nest_plus (q_settled 19) m_nest_times := by
    unfold m_settled
    rw [q_settled]
  rcases hd with rfl | ⟨n, n1, n4, rfl | rfl⟩
  · exact settledN k
  · rw [e20]
    unfold o_settled
    refine W_fn rfl ?_
    show W (b_settled _ _ _ _ [.val (fmA q n), .un]) _
    unfold b_settled
    try simp -dsimp only [W_some, W_none, WO_some, WO_none, br_true, br_false, br_dec, br_not, rd_val, rd_lst, rd_dct, W_var, W_c, W_v, fz_val, fz_lst, fz_dct, W_fz, W_bin, W_binT, W_binS, W_u, W_tr, W_andT, W_orT, W_notT, asB_bl, W_andV, W_orV, W_notV, W_ifE, W_ifS, W_nil, W_cons, W_tup, W_lst, pk_val, pk_lst, pk_dct, W_ixN, W_o0, asI_int, W_o1, W_sl, W_cb, W_lenN, W_isi, W_bm, nxt_nx, nxt_bk, nxt_ct, nxt_ret, W_skip, W_seq, W_drop, W_ret, W_retN, W_ct, W_bk, W_if, wr_un, wr_val, wr_own, W_asg, G_n, Gs_0, Gs_1, G_u, W_asgG, mv_val, mv_own, W_mov, ol_lst, W_mutL, WS_nil, WS_cons, put_nil, put_cons, W_parS, WB_nil, WB_d, WB_r, ls_val, ls_own, sl_nil, sl_d, sl_r, W_call, lp_nx, lp_ct, lp_bk, lp_ret, W_for, W_forL_nil, W_ia, waL, waT, waR, waS, waD, WK_0, WK_1, W_dct, kD_nil, kD_S, oo_own, W_putX, put_lst, put_dctS, v_dictL, v_dictD, v_max3, ixK, x_eqS, x_neS, x_eqI, x_neI, inX_L, inX_T, inX_S, inX_D, sl_1T, sl_1L, sl_2T, sl_2L, List.drop_succ_cons, List.drop_zero, r1_int, W_IR1, r2_int, W_IR2, a1_one, W_IE, a2_two, W_IZ, W_lc, W_lcL_nil, W_yes, W_chT, W_inN, W_inNV, List.getElem?_cons_zero, List.getElem?_cons_succ, List.set_cons_zero, List.set_cons_succ, List.length_cons, List.length_nil, v_add, v_sub, v_mul, v_div, v_mod, v_pow, v_neg, v_abs, v_intB, v_intI, v_lt, v_le, v_gt, v_ge, v_max, v_min, v_trI, v_trB, v_lenL, v_lenT, v_lenR, lenLst, lenTup, lenRl, ixL, ixT, ixR, itL, itT, itR, lsL, lsR, blD_lt, v_list, v_tuple, v_eqS, v_neS, v_eqI, v_neI, v_app, v_rev, v_clear, v_ext, at0, at1, at2, at3, at4, at5, at6, at7, st0, st1, st2, st3, merge, lent, backAll_nil, backAll_cons, bA_un, bA_val, bA_nil, bA_d, bA_ne, bA_rv, bA_eq, List.nodup_cons, List.nodup_nil, List.not_mem_nil, not_false_eq_true, Nat.reduceAdd, Nat.reduceEqDiff, ne_eq, reduceCtorEq, if_true, reduceIte, wipe_nil, wipe_cons, nown_un, nown_val, restO, on_nil, on_cons, gd0, gdS, kQ_nm, kQ_ex, W_kT, W_kV, W_isiN, W_trN, true_and, and_true, w_isiP, W_IZM, zmT, zmL, zmTL, zmLT, zipD, v_all0, v_all1, v_all2, w_isiS, w_isiT, w_isiB, x_neB, x_eqB, cst0, cst1, cst2, cst3, cst4, cst5, cst6, cst7, cst8, cst9, cst10, cst11, cst12, cst13, cst14, cst15, is_non, is_tup, is_str, is_int, isn_non, isn_tup, isn_str, isn_int, Int.reduceEq, Int.reduceNe, Int.reduceLT, Int.reduceLE, Int.reduceGT, Nat.reduceLeDiff, Nat.reduceLT, Nat.reduceEqDiff, List.nil_append, List.cons_append, decide_true, decide_false, forall_const, false_implies, true_implies, not_true_eq_false, Int.reduceNeg, Nat.le_refl, Nat.zero_le, fmA]
    rw [← pr_int (n * n)]
    refine settledN ?_
    walk_at "wq"
    rw [pr_int (n * n)]
    refine nrK n1 n4 ?_
    walk_at "wq"
    refine settledN ?_
    walk_at "wq"
    rw [pr_one, ← pr_int n]
    refine settledN ?_
    walk_at "wq"
    refine timesN (a := 7) (b := 7) (Sz.small (by decide) (by decide) (by decide)) (Sz.small (by omega) (by omega) (by decide)) (by decide) ?_
    walk_at "wq"
    refine plusN (a := a + 7 + 1) (b := 7 + 7) (ha.sub (Sz.small (by omega) (by omega) (by decide))) (Sz.mul (Sz.small (by decide) (by decide) (by decide)) (Sz.small (by omega) (by omega) (by decide))) (by omega) ?_
    have e : q - ((n : Int) : Rat) + ((1 : Int) : Rat) * ((n : Int) : Rat) = q := by
      rw [show ((1 : Int) : Rat) = 1 from rfl]
      grind
    rw [e]
    exact k
  · rw [e20]
    unfold o_settled
    refine W_fn rfl ?_
    show W (b_settled _ _ _ _ [.val (fmB q n), .un]) _
    unfold b_settled
    try simp -dsimp only [W_some, W_none, WO_some, WO_none, br_true, br_false, br_dec, br_not, rd_val, rd_lst, rd_dct, W_var, W_c, W_v, fz_val, fz_lst, fz_dct, W_fz, W_bin, W_binT, W_binS, W_u, W_tr, W_andT, W_orT, W_notT, asB_bl, W_andV, W_orV, W_notV, W_ifE, W_ifS, W_nil, W_cons, W_tup, W_lst, pk_val, pk_lst, pk_dct, W_ixN, W_o0, asI_int, W_o1, W_sl, W_cb, W_lenN, W_isi, W_bm, nxt_nx, nxt_bk, nxt_ct, nxt_ret, W_skip, W_seq, W_drop, W_ret, W_retN, W_ct, W_bk, W_if, wr_un, wr_val, wr_own, W_asg, G_n, Gs_0, Gs_1, G_u, W_asgG, mv_val, mv_own, W_mov, ol_lst, W_mutL, WS_nil, WS_cons, put_nil, put_cons, W_parS, WB_nil, WB_d, WB_r, ls_val, ls_own, sl_nil, sl_d, sl_r, W_call, lp_nx, lp_ct, lp_bk, lp_ret, W_for, W_forL_nil, W_ia, waL, waT, waR, waS, waD, WK_0, WK_1, W_dct, kD_nil, kD_S, oo_own, W_putX, put_lst, put_dctS, v_dictL, v_dictD, v_max3, ixK, x_eqS, x_neS, x_eqI, x_neI, inX_L, inX_T, inX_S, inX_D, sl_1T, sl_1L, sl_2T, sl_2L, List.drop_succ_cons, List.drop_zero, r1_int, W_IR1, r2_int, W_IR2, a1_one, W_IE, a2_two, W_IZ, W_lc, W_lcL_nil, W_yes, W_chT, W_inN, W_inNV, List.getElem?_cons_zero, List.getElem?_cons_succ, List.set_cons_zero, List.set_cons_succ, List.length_cons, List.length_nil, v_add, v_sub, v_mul, v_div, v_mod, v_pow, v_neg, v_abs, v_intB, v_intI, v_lt, v_le, v_gt, v_ge, v_max, v_min, v_trI, v_trB, v_lenL, v_lenT, v_lenR, lenLst, lenTup, lenRl, ixL, ixT, ixR, itL, itT, itR, lsL, lsR, blD_lt, v_list, v_tuple, v_eqS, v_neS, v_eqI, v_neI, v_app, v_rev, v_clear, v_ext, at0, at1, at2, at3, at4, at5, at6, at7, st0, st1, st2, st3, merge, lent, backAll_nil, backAll_cons, bA_un, bA_val, bA_nil, bA_d, bA_ne, bA_rv, bA_eq, List.nodup_cons, List.nodup_nil, List.not_mem_nil, not_false_eq_true, Nat.reduceAdd, Nat.reduceEqDiff, ne_eq, reduceCtorEq, if_true, reduceIte, wipe_nil, wipe_cons, nown_un, nown_val, restO, on_nil, on_cons, gd0, gdS, kQ_nm, kQ_ex, W_kT, W_kV, W_isiN, W_trN, true_and, and_true, w_isiP, W_IZM, zmT, zmL, zmTL, zmLT, zipD, v_all0, v_all1, v_all2, w_isiS, w_isiT, w_isiB, x_neB, x_eqB, cst0, cst1, cst2, cst3, cst4, cst5, cst6, cst7, cst8, cst9, cst10, cst11, cst12, cst13, cst14, cst15, is_non, is_tup, is_str, is_int, isn_non, isn_tup, isn_str, isn_int, Int.reduceEq, Int.reduceNe, Int.reduceLT, Int.reduceLE, Int.reduceGT, Nat.reduceLeDiff, Nat.reduceLT, Nat.reduceEqDiff, List.nil_append, List.cons_append, decide_true, decide_false, forall_const, false_implies, true_implies, not_true_eq_false, Int.reduceNeg, Nat.le_refl, Nat.zero_le, fmB]
    refine stK n1 n4 ?_
    walk_at "wq"
    refine nrK n1 n4 ?_
    walk_at "wq"
    refine settledN ?_
    walk_at "wq"
    rw [← pr_int (-2), ← pr_int n]
    refine settledN ?_
    walk_at "wq"
    refine timesN (a := 7) (b := 7) (Sz.small (by decide) (by decide) (by decide)) (Sz.small (by omega) (by omega) (by decide)) (by decide) ?_
    walk_at "wq"
    refine plusN (a := a + 7 + 1) (b := 7 + 7) (ha.add (Sz.small (by omega) (by omega) (by decide))) (Sz.mul (Sz.small (by decide) (by decide) (by decide)) (Sz.small (by omega) (by omega) (by decide))) (by omega) ?_
    have e : q + ((2 * n : Int) : Rat) + ((-2 : Int) : Rat) * ((n : Int) : Rat) = q := by
      rw [show ((-2 : Int) : Rat) = -2 from rfl, Rat.intCast_mul, show ((2 : Int) : Rat) = 2 from rfl]
      grind
    rw [e]
    exact k
/-! ### spots -/
abbrev spD (x y : Rat) : D := .tup [prD x, prD y]
/-! ### the law's own fractions -/
theorem part_val {t b : Int} (hb : b ≠ 0) : ((if b > 0 then 1 else -1) * t).fdiv (Int.gcd t b : Int) = (Rat.divInt t b).num ∧ ((if b > 0 then 1 else -1) * b).fdiv (Int.gcd t b : Int) = ((Rat.divInt t b).den : Int) := by
  have pv := pair_val (t := t) hb
  have d1 : (Int.gcd t b : Int) ∣ t := Int.gcd_dvd_left t b
  have d2 : (Int.gcd t b : Int) ∣ b := Int.gcd_dvd_right t b
  by_cases h : b > 0
  · rw [if_pos h] at pv ⊢
    rw [Int.one_mul, Int.one_mul]
    exact pv
  · rw [if_neg h] at pv ⊢
    rw [Int.neg_one_mul, Int.neg_one_mul, ← pv.1, ← pv.2]
    rw [Int.fdiv_eq_ediv_of_dvd (Int.dvd_neg.mpr d1), Int.fdiv_eq_ediv_of_dvd (Int.dvd_neg.mpr d2), Int.fdiv_eq_ediv_of_dvd (Int.neg_dvd.mpr d1), Int.fdiv_eq_ediv_of_dvd (Int.neg_dvd.mpr d2), Int.ediv_neg, Int.ediv_neg, Int.neg_ediv_of_dvd d1, Int.neg_ediv_of_dvd d2]
    exact ⟨rfl, rfl⟩
theorem sz_pos {a : Nat} {p : Rat} (h : Sz a p) : 0 < a := by
  rcases Nat.eq_zero_or_pos a with e | e
  · subst e
    have := h.2
    have := p.den_pos
    omega
  · exact e
theorem pr_low {n m : Int} (hm : 0 < m) (hg : Int.gcd n m = 1) : D.tup [.int n, .int m] = prD (Rat.divInt n m) := by
  unfold prD
  rw [Rat.num_divInt, Rat.den_divInt, if_neg (by omega), Int.gcd_comm m n, hg, Int.sign_eq_one_of_pos hm]
  simp
  omega

/-! ### whole roots -/
theorem fdN (a b : Nat) : ((a : Int).fdiv (b : Int)) = ((a / b : Nat) : Int) := by
  rw [Int.fdiv_eq_ediv_of_nonneg _ (by omega)]
  exact (Int.natCast_ediv a b).symm
theorem fmN (a b : Nat) : ((a : Int).fmod (b : Int)) = ((a % b : Nat) : Int) := by
  rw [Int.fmod_eq_emod_of_nonneg _ (by omega)]
  exact (Int.natCast_emod a b).symm
theorem natA (a : Nat) : ((a : Nat) : Int).natAbs = a := Int.natAbs_natCast a
theorem newton_up {n x : Nat} (hx : 1 ≤ x) : n < ((x + n / x) / 2 + 1) * ((x + n / x) / 2 + 1) := by
  have h1 : n < x * (n / x + 1) := by
    have := Nat.lt_mul_div_succ n (show 0 < x by omega)
    simpa using this
  generalize n / x = q at h1 ⊢
  generalize hb : (x + q) / 2 = b
  have h2 : x + q + 1 ≤ 2 * (b + 1) := by omega
  have h3 : 4 * (x * (q + 1)) ≤ (x + (q + 1)) * (x + (q + 1)) := by
    have e : ∀ u v : Nat, 4 * (u * v) ≤ (u + v) * (u + v) := by
      intro u v
      rcases Nat.le_total u v with h | h
      · obtain ⟨d, rfl⟩ := Nat.exists_eq_add_of_le h
        have : (u + (u + d)) * (u + (u + d)) = 4 * (u * (u + d)) + d * d := by grind
        omega
      · obtain ⟨d, rfl⟩ := Nat.exists_eq_add_of_le h
        have : (v + d + v) * (v + d + v) = 4 * ((v + d) * v) + d * d := by grind
        omega
    exact e x (q + 1)
  have h4 : (x + (q + 1)) * (x + (q + 1)) ≤ (2 * (b + 1)) * (2 * (b + 1)) := Nat.mul_le_mul (by omega) (by omega)
  have h5 : (2 * (b + 1)) * (2 * (b + 1)) = 4 * ((b + 1) * (b + 1)) := by grind
  omega
theorem newton_end {n x : Nat} (hx : 1 ≤ x) (h : x ≤ (x + n / x) / 2) : x * x ≤ n := by
  have h1 : x ≤ n / x := by omega
  exact Nat.le_trans (Nat.mul_le_mul_left x h1) (Nat.mul_div_le n x)
theorem whole_root_W {n k : Nat} {Q : Slot → List Slot → Prop} (hk : n < 2 ^ k) (k8 : k ≤ 8000) (q : ∀ r : Nat, r * r ≤ n → n < (r + 1) * (r + 1) → Q (.val (.int (r : Int))) [.val (.int (n : Int))]) : W (m_whole_root [.val (.int (n : Int))]) Q := by
  have k8' : (2 : Nat) ^ k ≤ 2 ^ 8000 := Nat.pow_le_pow_right (by decide) k8
  have big : ∀ x : Nat, x ≤ 2 * n → x < 2 ^ 8001 := fun x hx => by
    have : (2 : Nat) ^ 8001 = 2 * 2 ^ 8000 := by rw [Nat.pow_succ, Nat.mul_comm]
    omega
  unfold m_whole_root o_whole_root
  refine W_fn rfl ?_
  show W (b_whole_root [.val (.int (n : Int)), .un, .un]) _
  unfold b_whole_root
  walk_at "go"
  refine ⟨fun h2 => ?_, fun h2 => ?_⟩
  · have : n = 0 ∨ n = 1 := by omega
    rcases this with rfl | rfl
    · exact q 0 (by decide) (by decide)
    · exact q 1 (by decide) (by decide)
  · have n2 : 2 ≤ n := by omega
    refine W_wh_inv (fun m ρ => ∃ (x : Nat) (z : Int), ρ = [.val (.int (n : Int)), .val (.int z), .un] ∧ z = (x : Int) ∧ m = n - x ∧ 2 ≤ x ∧ x ≤ 2 * n) (fun m ρ h => ?_) fuelN (n - 2) _ (le_fuel (Nat.lt_of_lt_of_le (Nat.lt_of_le_of_lt (Nat.sub_le _ _) hk) (Nat.pow_le_pow_right (by decide) (by omega)))) ⟨2, 2, rfl, rfl, rfl, Nat.le_refl 2, by omega⟩
    obtain ⟨x, z, rfl, rfl, rfl, x2, xn⟩ := h
    have bx := big x xn
    walk_at "go"
    refine ⟨mulSm_b (a := 8001) (b := 8001) (by rw [natA]; exact bx) (by rw [natA]; exact bx) (by decide) (by decide) (by decide), fun hc => ?_, fun hc => ?_⟩
    · have hc' : x * x < n := by
        have e : ((x * x : Nat) : Int) < (n : Int) := by rw [Int.natCast_mul]; exact hc
        omega
      have xl : x < n := Nat.lt_of_le_of_lt (Nat.le_mul_of_pos_right x (by omega)) hc'
      refine ⟨mulSm_r (by decide) (by decide), ?_⟩
      walk_at "go"
      exact ⟨n - 2 * x, by omega, 2 * x, _, rfl, by omega, rfl, by omega, by omega⟩
    · have hc' : n ≤ x * x := by
        have e : ¬ ((x * x : Nat) : Int) < (n : Int) := by rw [Int.natCast_mul]; exact hc
        omega
      have dv : ∀ y : Nat, 1 ≤ y → y ≤ 2 * n → ((y : Int) ≠ 0 ∧ (y : Int).natAbs.log2 < 9000) := fun y h1 h2 => ⟨by omega, by
        rw [natA]
        exact Nat.lt_trans (log2_lt' (big y h2) (by decide)) (by decide)⟩
      walk_at "go"
      refine ⟨dv x (by omega) xn, ?_⟩
      walk_at "go"
      have e1 : ((x : Int) + (n : Int).fdiv (x : Int)).fdiv 2 = (((x + n / x) / 2 : Nat) : Int) := by
        rw [fdN, ← Int.natCast_add]
        exact fdN (x + n / x) 2
      refine W_wh_inv (fun m ρ => ∃ (x : Nat) (z w : Int), ρ = [.val (.int (n : Int)), .val (.int z), .val (.int w)] ∧ z = (x : Int) ∧ w = (((x + n / x) / 2 : Nat) : Int) ∧ m = x ∧ 1 ≤ x ∧ x ≤ 2 * n ∧ n < (x + 1) * (x + 1)) (fun m ρ h => ?_) fuelN x _ (le_fuel (Nat.lt_of_lt_of_le bx (Nat.pow_le_pow_right (by decide) (by decide)))) ⟨x, _, _, rfl, rfl, e1, rfl, by omega, xn, by
        have : x * x < (x + 1) * (x + 1) := Nat.mul_lt_mul'' (by omega) (by omega)
        omega⟩
      obtain ⟨x, z, w, rfl, rfl, rfl, rfl, x1, xn, xs⟩ := h
      walk_at "go"
      refine ⟨fun hl => ?_, fun hl => ?_⟩
      · have hl' : (m + n / m) / 2 < m := by omega
        have nu := newton_up (n := n) x1
        generalize (m + n / m) / 2 = y at hl' nu ⊢
        have y1 : 1 ≤ y := by
          rcases Nat.eq_zero_or_pos y with h | h
          · subst h
            omega
          · exact h
        refine ⟨dv y y1 (by omega), ?_⟩
        walk_at "go"
        refine ⟨y, hl', y, _, _, rfl, rfl, ?_, rfl, y1, by omega, nu⟩
        rw [fdN, ← Int.natCast_add]
        exact fdN (y + n / y) 2
      · exact q m (newton_end x1 (by omega)) xs
/-! ### squares out of numbers -/
/-- a number that is no square of another one -/
def NoSq (r : Nat) : Prop := ∀ s : Nat, s * s ≠ r
theorem square_out_W {n k : Nat} {Q : Slot → List Slot → Prop} (h0 : 0 < n) (hk : n < 2 ^ k) (k8 : k ≤ 8000) (q : ∀ o r : Nat, o * o * r = n → 0 < o → (r = 1 ∨ NoSq r) → Q (.val (.tup [.int (o : Int), .int (r : Int)])) [.val (.int (n : Int))]) : W (m_square_out [.val (.int (n : Int))]) Q := by
  have hk8 : n < 2 ^ 8000 := Nat.lt_of_lt_of_le hk (Nat.pow_le_pow_right (by decide) k8)
  unfold m_square_out o_square_out
  refine W_fn rfl ?_
  show W (b_square_out _ [.val (.int (n : Int)), .un, .un, .un, .un]) _
  unfold b_square_out
  walk_at "go"
  have lo : ∀ o r : Nat, o * o * r = n → 0 < o ∧ 0 < r ∧ o ≤ n ∧ r ≤ n := fun o r e => by
    have o0 : 0 < o := by
      rcases Nat.eq_zero_or_pos o with h | h
      · subst h
        simp at e
        omega
      · exact h
    have r0 : 0 < r := by
      rcases Nat.eq_zero_or_pos r with h | h
      · subst h
        simp at e
        omega
      · exact h
    refine ⟨o0, r0, ?_, ?_⟩
    · rw [← e]
      exact Nat.le_trans (Nat.le_mul_of_pos_right o o0) (Nat.le_mul_of_pos_right _ r0)
    · rw [← e]
      exact Nat.le_mul_of_pos_left r (Nat.mul_pos o0 o0)
  refine W_forL_inv (fun ds ρ => (∀ d ∈ ds, ∃ f : Nat, d = .int (f : Int) ∧ 2 ≤ f ∧ f < 100) ∧ ∃ (o r : Nat) (zo zr : Int) (s3 : Slot), ρ = [.val (.int (n : Int)), .val (.int zo), .val (.int zr), s3, .un] ∧ zo = (o : Int) ∧ zr = (r : Int) ∧ Wr s3 ∧ o * o * r = n) (fun ρ h => ?_) (fun d ds ρ h => ?_) _ _ ⟨?_, 1, n, _, _, _, rfl, rfl, rfl, trivial, by omega⟩
  · obtain ⟨_, o, r, zo, zr, s3, rfl, rfl, rfl, _, e⟩ := h
    obtain ⟨o0, r0, on, rn⟩ := lo o r e
    walk_at "go"
    refine whole_root_W (Nat.lt_of_le_of_lt rn hk) k8 fun w w1 w2 => ?_
    walk_at "go"
    have ww : w ≤ n := by
      rcases Nat.eq_zero_or_pos w with h | h
      · omega
      · exact Nat.le_trans (Nat.le_mul_of_pos_right w h) (Nat.le_trans w1 rn)
    have bw : (w : Int).natAbs < 2 ^ 8000 := by rw [natA]; omega
    refine ⟨mulSm_b bw bw (by decide) (by decide) (by decide), fun hc => ?_, fun hc => ?_⟩
    · have hc' : w * w = r := by
        have : ((w * w : Nat) : Int) = (r : Int) := by rw [Int.natCast_mul]; exact hc
        omega
      walk_at "go"
      refine ⟨mulSm_b (a := 8000) (b := 8000) (by rw [natA]; omega) bw (by decide) (by decide) (by decide), ?_⟩
      walk_at "go"
      rw [← Int.natCast_mul]
      refine q (o * w) 1 ?_ (Nat.mul_pos o0 ?_) (.inl rfl)
      · rw [← e, ← hc']
        grind
      · rcases Nat.eq_zero_or_pos w with h | h
        · subst h
          omega
        · exact h
    · walk_at "go"
      refine q o r e o0 (.inr fun s es => hc ?_)
      have : s = w := by
        have a1 : s < w + 1 := by
          rcases Nat.lt_or_ge s (w + 1) with h | h
          · exact h
          · have := Nat.mul_le_mul h h
            omega
        have a2 : w < s + 1 := by
          rcases Nat.lt_or_ge w (s + 1) with h | h
          · exact h
          · have h2 := Nat.mul_le_mul h h
            have : s * s < (s + 1) * (s + 1) := Nat.mul_lt_mul'' (by omega) (by omega)
            omega
        omega
      subst this
      rw [← es, Int.natCast_mul]
  · obtain ⟨hd, o, r, zo, zr, s3, rfl, rfl, rfl, w3, e⟩ := h
    obtain ⟨f, rfl, f2, f9⟩ := hd d List.mem_cons_self
    have hr : ∀ d ∈ ds, ∃ f : Nat, d = .int (f : Int) ∧ 2 ≤ f ∧ f < 100 := fun d h => hd d (List.mem_cons_of_mem _ h)
    repeat (first | simp -dsimp only [W_some, W_none, WO_some, WO_none, br_true, br_false, br_dec, br_not, rd_val, rd_lst, rd_dct, W_var, W_c, W_v, fz_val, fz_lst, fz_dct, W_fz, W_bin, W_binT, W_binS, W_u, W_tr, W_andT, W_orT, W_notT, asB_bl, W_andV, W_orV, W_notV, W_ifE, W_ifS, W_nil, W_cons, W_tup, W_lst, pk_val, pk_lst, pk_dct, W_ixN, W_o0, asI_int, W_o1, W_sl, W_cb, W_lenN, W_isi, W_bm, nxt_nx, nxt_bk, nxt_ct, nxt_ret, W_skip, W_seq, W_drop, W_ret, W_retN, W_ct, W_bk, W_if, wr_un, wr_val, wr_own, W_asg, G_n, Gs_0, Gs_1, G_u, W_asgG, mv_val, mv_own, W_mov, ol_lst, W_mutL, WS_nil, WS_cons, put_nil, put_cons, W_parS, WB_nil, WB_d, WB_r, ls_val, ls_own, sl_nil, sl_d, sl_r, W_call, lp_nx, lp_ct, lp_bk, lp_ret, W_for, W_forL_nil, W_ia, waL, waT, waR, waS, waD, WK_0, WK_1, W_dct, kD_nil, kD_S, oo_own, W_putX, put_lst, put_dctS, v_dictL, v_dictD, v_max3, ixK, x_eqS, x_neS, x_eqI, x_neI, inX_L, inX_T, inX_S, inX_D, sl_1T, sl_1L, sl_2T, sl_2L, List.drop_succ_cons, List.drop_zero, r1_int, W_IR1, r2_int, W_IR2, a1_one, W_IE, a2_two, W_IZ, W_lc, W_lcL_nil, W_yes, W_chT, W_inN, W_inNV, List.getElem?_cons_zero, List.getElem?_cons_succ, List.set_cons_zero, List.set_cons_succ, List.length_cons, List.length_nil, v_add, v_sub, v_mul, v_div, v_mod, v_pow, v_neg, v_abs, v_intB, v_intI, v_lt, v_le, v_gt, v_ge, v_max, v_min, v_trI, v_trB, v_lenL, v_lenT, v_lenR, lenLst, lenTup, lenRl, ixL, ixT, ixR, itL, itT, itR, lsL, lsR, blD_lt, v_list, v_tuple, v_eqS, v_neS, v_eqI, v_neI, v_app, v_rev, v_clear, v_ext, at0, at1, at2, at3, at4, at5, at6, at7, st0, st1, st2, st3, merge, lent, backAll_nil, backAll_cons, bA_un, bA_val, bA_nil, bA_d, bA_ne, bA_rv, bA_eq, List.nodup_cons, List.nodup_nil, List.not_mem_nil, not_false_eq_true, Nat.reduceAdd, Nat.reduceEqDiff, ne_eq, reduceCtorEq, if_true, reduceIte, wipe_nil, wipe_cons, nown_un, nown_val, restO, on_nil, on_cons, gd0, gdS, kQ_nm, kQ_ex, W_kT, W_kV, W_isiN, W_trN, true_and, and_true, w_isiP, W_IZM, zmT, zmL, zmTL, zmLT, zipD, v_all0, v_all1, v_all2, w_isiS, w_isiT, w_isiB, x_neB, x_eqB, cst0, cst1, cst2, cst3, cst4, cst5, cst6, cst7, cst8, cst9, cst10, cst11, cst12, cst13, cst14, cst15, is_non, is_tup, is_str, is_int, isn_non, isn_tup, isn_str, isn_int, Int.reduceEq, Int.reduceNe, Int.reduceLT, Int.reduceLE, Int.reduceGT, Nat.reduceLeDiff, Nat.reduceLT, Nat.reduceEqDiff, List.nil_append, List.cons_append, decide_true, decide_false, forall_const, false_implies, true_implies, not_true_eq_false, Int.reduceNeg, Nat.le_refl, Nat.zero_le, wr_wr, w3] | refine ⟨by decide, ?_⟩)
    refine W_wh_inv (fun m ρ => ∃ (o r : Nat) (zo zr : Int), ρ = [.val (.int (n : Int)), .val (.int zo), .val (.int zr), .val (.int (f : Int)), .un] ∧ zo = (o : Int) ∧ zr = (r : Int) ∧ m = r ∧ o * o * r = n) (fun m ρ h => ?_) fuelN r _ (le_fuel (Nat.lt_of_le_of_lt (lo o r e).2.2.2 (Nat.lt_of_lt_of_le hk (Nat.pow_le_pow_right (by decide) (by omega))))) ⟨o, r, _, _, rfl, rfl, rfl, rfl, e⟩
    obtain ⟨o, r, zo, zr, rfl, rfl, rfl, rfl, e⟩ := h
    obtain ⟨o0, r0, on, rn⟩ := lo o m e
    have ff : ((f : Int) * (f : Int)) = ((f * f : Nat) : Int) := by rw [Int.natCast_mul]
    have f4 : 4 ≤ f * f := Nat.mul_le_mul f2 f2
    have f5 : f * f < 10000 := Nat.mul_lt_mul'' f9 f9
    walk_at "go"
    refine ⟨mulSm_l (by omega) (by omega), ?_⟩
    repeat (first | simp -dsimp only [W_some, W_none, WO_some, WO_none, br_true, br_false, br_dec, br_not, rd_val, rd_lst, rd_dct, W_var, W_c, W_v, fz_val, fz_lst, fz_dct, W_fz, W_bin, W_binT, W_binS, W_u, W_tr, W_andT, W_orT, W_notT, asB_bl, W_andV, W_orV, W_notV, W_ifE, W_ifS, W_nil, W_cons, W_tup, W_lst, pk_val, pk_lst, pk_dct, W_ixN, W_o0, asI_int, W_o1, W_sl, W_cb, W_lenN, W_isi, W_bm, nxt_nx, nxt_bk, nxt_ct, nxt_ret, W_skip, W_seq, W_drop, W_ret, W_retN, W_ct, W_bk, W_if, wr_un, wr_val, wr_own, W_asg, G_n, Gs_0, Gs_1, G_u, W_asgG, mv_val, mv_own, W_mov, ol_lst, W_mutL, WS_nil, WS_cons, put_nil, put_cons, W_parS, WB_nil, WB_d, WB_r, ls_val, ls_own, sl_nil, sl_d, sl_r, W_call, lp_nx, lp_ct, lp_bk, lp_ret, W_for, W_forL_nil, W_ia, waL, waT, waR, waS, waD, WK_0, WK_1, W_dct, kD_nil, kD_S, oo_own, W_putX, put_lst, put_dctS, v_dictL, v_dictD, v_max3, ixK, x_eqS, x_neS, x_eqI, x_neI, inX_L, inX_T, inX_S, inX_D, sl_1T, sl_1L, sl_2T, sl_2L, List.drop_succ_cons, List.drop_zero, r1_int, W_IR1, r2_int, W_IR2, a1_one, W_IE, a2_two, W_IZ, W_lc, W_lcL_nil, W_yes, W_chT, W_inN, W_inNV, List.getElem?_cons_zero, List.getElem?_cons_succ, List.set_cons_zero, List.set_cons_succ, List.length_cons, List.length_nil, v_add, v_sub, v_mul, v_div, v_mod, v_pow, v_neg, v_abs, v_intB, v_intI, v_lt, v_le, v_gt, v_ge, v_max, v_min, v_trI, v_trB, v_lenL, v_lenT, v_lenR, lenLst, lenTup, lenRl, ixL, ixT, ixR, itL, itT, itR, lsL, lsR, blD_lt, v_list, v_tuple, v_eqS, v_neS, v_eqI, v_neI, v_app, v_rev, v_clear, v_ext, at0, at1, at2, at3, at4, at5, at6, at7, st0, st1, st2, st3, merge, lent, backAll_nil, backAll_cons, bA_un, bA_val, bA_nil, bA_d, bA_ne, bA_rv, bA_eq, List.nodup_cons, List.nodup_nil, List.not_mem_nil, not_false_eq_true, Nat.reduceAdd, Nat.reduceEqDiff, ne_eq, reduceCtorEq, if_true, reduceIte, wipe_nil, wipe_cons, nown_un, nown_val, restO, on_nil, on_cons, gd0, gdS, kQ_nm, kQ_ex, W_kT, W_kV, W_isiN, W_trN, true_and, and_true, w_isiP, W_IZM, zmT, zmL, zmTL, zmLT, zipD, v_all0, v_all1, v_all2, w_isiS, w_isiT, w_isiB, x_neB, x_eqB, cst0, cst1, cst2, cst3, cst4, cst5, cst6, cst7, cst8, cst9, cst10, cst11, cst12, cst13, cst14, cst15, is_non, is_tup, is_str, is_int, isn_non, isn_tup, isn_str, isn_int, Int.reduceEq, Int.reduceNe, Int.reduceLT, Int.reduceLE, Int.reduceGT, Nat.reduceLeDiff, Nat.reduceLT, Nat.reduceEqDiff, List.nil_append, List.cons_append, decide_true, decide_false, forall_const, false_implies, true_implies, not_true_eq_false, Int.reduceNeg, Nat.le_refl, Nat.zero_le, ff, fmN] | refine ⟨by decide, ?_⟩)
    refine ⟨by omega, ?_⟩
    walk_at "go"
    refine ⟨fun hc => ?_, fun hc => ?_⟩
    · walk_at "go"
      refine ⟨mulSm_r (by omega) (by omega), ?_⟩
      walk_at "go"
      refine ⟨mulSm_l (by omega) (by omega), ?_⟩
      repeat (first | simp -dsimp only [W_some, W_none, WO_some, WO_none, br_true, br_false, br_dec, br_not, rd_val, rd_lst, rd_dct, W_var, W_c, W_v, fz_val, fz_lst, fz_dct, W_fz, W_bin, W_binT, W_binS, W_u, W_tr, W_andT, W_orT, W_notT, asB_bl, W_andV, W_orV, W_notV, W_ifE, W_ifS, W_nil, W_cons, W_tup, W_lst, pk_val, pk_lst, pk_dct, W_ixN, W_o0, asI_int, W_o1, W_sl, W_cb, W_lenN, W_isi, W_bm, nxt_nx, nxt_bk, nxt_ct, nxt_ret, W_skip, W_seq, W_drop, W_ret, W_retN, W_ct, W_bk, W_if, wr_un, wr_val, wr_own, W_asg, G_n, Gs_0, Gs_1, G_u, W_asgG, mv_val, mv_own, W_mov, ol_lst, W_mutL, WS_nil, WS_cons, put_nil, put_cons, W_parS, WB_nil, WB_d, WB_r, ls_val, ls_own, sl_nil, sl_d, sl_r, W_call, lp_nx, lp_ct, lp_bk, lp_ret, W_for, W_forL_nil, W_ia, waL, waT, waR, waS, waD, WK_0, WK_1, W_dct, kD_nil, kD_S, oo_own, W_putX, put_lst, put_dctS, v_dictL, v_dictD, v_max3, ixK, x_eqS, x_neS, x_eqI, x_neI, inX_L, inX_T, inX_S, inX_D, sl_1T, sl_1L, sl_2T, sl_2L, List.drop_succ_cons, List.drop_zero, r1_int, W_IR1, r2_int, W_IR2, a1_one, W_IE, a2_two, W_IZ, W_lc, W_lcL_nil, W_yes, W_chT, W_inN, W_inNV, List.getElem?_cons_zero, List.getElem?_cons_succ, List.set_cons_zero, List.set_cons_succ, List.length_cons, List.length_nil, v_add, v_sub, v_mul, v_div, v_mod, v_pow, v_neg, v_abs, v_intB, v_intI, v_lt, v_le, v_gt, v_ge, v_max, v_min, v_trI, v_trB, v_lenL, v_lenT, v_lenR, lenLst, lenTup, lenRl, ixL, ixT, ixR, itL, itT, itR, lsL, lsR, blD_lt, v_list, v_tuple, v_eqS, v_neS, v_eqI, v_neI, v_app, v_rev, v_clear, v_ext, at0, at1, at2, at3, at4, at5, at6, at7, st0, st1, st2, st3, merge, lent, backAll_nil, backAll_cons, bA_un, bA_val, bA_nil, bA_d, bA_ne, bA_rv, bA_eq, List.nodup_cons, List.nodup_nil, List.not_mem_nil, not_false_eq_true, Nat.reduceAdd, Nat.reduceEqDiff, ne_eq, reduceCtorEq, if_true, reduceIte, wipe_nil, wipe_cons, nown_un, nown_val, restO, on_nil, on_cons, gd0, gdS, kQ_nm, kQ_ex, W_kT, W_kV, W_isiN, W_trN, true_and, and_true, w_isiP, W_IZM, zmT, zmL, zmTL, zmLT, zipD, v_all0, v_all1, v_all2, w_isiS, w_isiT, w_isiB, x_neB, x_eqB, cst0, cst1, cst2, cst3, cst4, cst5, cst6, cst7, cst8, cst9, cst10, cst11, cst12, cst13, cst14, cst15, is_non, is_tup, is_str, is_int, isn_non, isn_tup, isn_str, isn_int, Int.reduceEq, Int.reduceNe, Int.reduceLT, Int.reduceLE, Int.reduceGT, Nat.reduceLeDiff, Nat.reduceLT, Nat.reduceEqDiff, List.nil_append, List.cons_append, decide_true, decide_false, forall_const, false_implies, true_implies, not_true_eq_false, Int.reduceNeg, Nat.le_refl, Nat.zero_le, ff, fdN] | refine ⟨by decide, ?_⟩)
      refine ⟨⟨by omega, log2_sm (by omega) (by omega)⟩, ?_⟩
      walk_at "go"
      have hm : m % (f * f) = 0 := by omega
      have em : f * f * (m / (f * f)) = m := Nat.mul_div_cancel' (Nat.dvd_of_mod_eq_zero hm)
      refine ⟨m / (f * f), Nat.div_lt_self r0 (by omega), o * f, m / (f * f), _, _, rfl, by rw [Int.natCast_mul], rfl, rfl, ?_⟩
      generalize m / (f * f) = m' at em ⊢
      rw [← e, ← em]
      grind
    · walk_at "go"
      exact ⟨hr, o, m, _, _, _, rfl, rfl, rfl, trivial, e⟩
  · intro d hd
    simp only [List.mem_cons, List.not_mem_nil, or_false] at hd
    rcases hd with rfl | rfl | rfl | rfl | rfl | rfl | rfl | rfl | rfl | rfl | rfl | rfl | rfl | rfl | rfl | rfl | rfl | rfl | rfl | rfl | rfl | rfl | rfl | rfl | rfl
    · exact ⟨2, rfl, by decide, by decide⟩
    · exact ⟨3, rfl, by decide, by decide⟩
    · exact ⟨5, rfl, by decide, by decide⟩
    · exact ⟨7, rfl, by decide, by decide⟩
    · exact ⟨11, rfl, by decide, by decide⟩
    · exact ⟨13, rfl, by decide, by decide⟩
    · exact ⟨17, rfl, by decide, by decide⟩
    · exact ⟨19, rfl, by decide, by decide⟩
    · exact ⟨23, rfl, by decide, by decide⟩
    · exact ⟨29, rfl, by decide, by decide⟩
    · exact ⟨31, rfl, by decide, by decide⟩
    · exact ⟨37, rfl, by decide, by decide⟩
    · exact ⟨41, rfl, by decide, by decide⟩
    · exact ⟨43, rfl, by decide, by decide⟩
    · exact ⟨47, rfl, by decide, by decide⟩
    · exact ⟨53, rfl, by decide, by decide⟩
    · exact ⟨59, rfl, by decide, by decide⟩
    · exact ⟨61, rfl, by decide, by decide⟩
    · exact ⟨67, rfl, by decide, by decide⟩
    · exact ⟨71, rfl, by decide, by decide⟩
    · exact ⟨73, rfl, by decide, by decide⟩
    · exact ⟨79, rfl, by decide, by decide⟩
    · exact ⟨83, rfl, by decide, by decide⟩
    · exact ⟨89, rfl, by decide, by decide⟩
    · exact ⟨97, rfl, by decide, by decide⟩
/-- of a square -/
theorem square_out_sq {m k : Nat} {Q : Slot → List Slot → Prop} (h0 : 0 < m) (hk : m * m < 2 ^ k) (k8 : k ≤ 8000) (q : Q (.val (.tup [.int (m : Int), .int 1])) [.val (.int ((m * m : Nat) : Int))]) : W (m_square_out [.val (.int ((m * m : Nat) : Int))]) Q := by
  refine square_out_W (Nat.mul_pos h0 h0) hk k8 fun o r e o0 hr => ?_
  have dv : o ∣ m := by
    have : o ^ 2 ∣ m ^ 2 := ⟨r, by rw [Nat.pow_two, Nat.pow_two, e]⟩
    exact (Nat.pow_dvd_pow_iff (by decide)).mp this
  obtain ⟨t, rfl⟩ := dv
  have er : r = t * t := by
    have : o * o * r = o * o * (t * t) := by rw [e]; grind
    exact Nat.eq_of_mul_eq_mul_left (Nat.mul_pos o0 o0) this
  rcases hr with hr | hr
  · have : t = 1 := by
      rw [hr] at er
      exact (Nat.eq_one_of_mul_eq_one_left er.symm)
    subst this
    rw [hr, Nat.mul_one]
    rw [Nat.mul_one] at q
    exact q
  · exact absurd er.symm (hr t)
/-! ### roots of squares of fractions, one over a fraction -/
theorem sq_parts (t : Rat) : (t * t).num = t.num * t.num ∧ (t * t).den = t.den * t.den := by
  have e : D.tup [.int (t.num * t.num), .int ((t.den : Int) * t.den)] = prD (t * t) := by
    rw [pr_low (Int.mul_pos (den_pos t) (den_pos t)) ?_, mul_divInt]
    have h := t.reduced
    rw [← Int.natCast_mul]
    show Nat.gcd (t.num * t.num).natAbs (t.den * t.den) = 1
    rw [Int.natAbs_mul]
    exact Nat.Coprime.mul_left (Nat.Coprime.mul_right h h) (Nat.Coprime.mul_right h h)
  unfold prD at e
  injection e with e
  injection e with e1 e2
  injection e2 with e2 _
  injection e1 with e1
  injection e2 with e2
  refine ⟨e1.symm, ?_⟩
  have : ((t.den * t.den : Nat) : Int) = ((t * t).den : Int) := by rw [Int.natCast_mul]; exact e2
  omega
theorem nest_root_sq {t : Rat} {a : Nat} {Q : Slot → List Slot → Prop} (h0 : 0 ≤ t) (ha : Sz a t) (a8 : a ≤ 1500) (q : Q (.val (prD t)) [.val (prD (t * t))]) : W (m_nest_root [.val (prD (t * t))]) Q := by
  unfold m_nest_root o_nest_root
  refine W_fn rfl ?_
  show W (b_nest_root _ _ _ [.val (prD (t * t)), .un, .un, .un]) _
  unfold b_nest_root
  walk_at "go"
  refine signN ?_
  walk_at "go"
  have e0 : sgI (t * t) = 0 ↔ t = 0 := by
    rw [sg_zero, Rat.mul_eq_zero]
    exact ⟨fun h => h.elim id id, fun h => .inl h⟩
  refine ⟨fun h => ?_, fun h => ?_⟩
  · have t0 := e0.mp h
    subst t0
    exact q
  · have t0 : ¬ t = 0 := fun e => h (e0.mpr e)
    have tp : 0 < t := by grind
    have np : 0 < t.num := num_pos'.mpr tp
    obtain ⟨e1, e2⟩ := sq_parts t
    have nn : ((t.num.natAbs : Nat) : Int) = t.num := by omega
    have dp := t.den_pos
    have ed : (((t * t).den : Nat) : Int) = (t.den : Int) * t.den := by rw [e2, Int.natCast_mul]
    have b1 := mul_lt2 ha.1 ha.1
    have b2 := mul_lt2 ha.2 ha.2
    have b3 := mul_lt2 ha.1 ha.2
    have b4 := mul_lt2 b3 b3
    have a0 := sz_pos ha
    unfold prD
    repeat (first | simp -dsimp only [W_some, W_none, WO_some, WO_none, br_true, br_false, br_dec, br_not, rd_val, rd_lst, rd_dct, W_var, W_c, W_v, fz_val, fz_lst, fz_dct, W_fz, W_bin, W_binT, W_binS, W_u, W_tr, W_andT, W_orT, W_notT, asB_bl, W_andV, W_orV, W_notV, W_ifE, W_ifS, W_nil, W_cons, W_tup, W_lst, pk_val, pk_lst, pk_dct, W_ixN, W_o0, asI_int, W_o1, W_sl, W_cb, W_lenN, W_isi, W_bm, nxt_nx, nxt_bk, nxt_ct, nxt_ret, W_skip, W_seq, W_drop, W_ret, W_retN, W_ct, W_bk, W_if, wr_un, wr_val, wr_own, W_asg, G_n, Gs_0, Gs_1, G_u, W_asgG, mv_val, mv_own, W_mov, ol_lst, W_mutL, WS_nil, WS_cons, put_nil, put_cons, W_parS, WB_nil, WB_d, WB_r, ls_val, ls_own, sl_nil, sl_d, sl_r, W_call, lp_nx, lp_ct, lp_bk, lp_ret, W_for, W_forL_nil, W_ia, waL, waT, waR, waS, waD, WK_0, WK_1, W_dct, kD_nil, kD_S, oo_own, W_putX, put_lst, put_dctS, v_dictL, v_dictD, v_max3, ixK, x_eqS, x_neS, x_eqI, x_neI, inX_L, inX_T, inX_S, inX_D, sl_1T, sl_1L, sl_2T, sl_2L, List.drop_succ_cons, List.drop_zero, r1_int, W_IR1, r2_int, W_IR2, a1_one, W_IE, a2_two, W_IZ, W_lc, W_lcL_nil, W_yes, W_chT, W_inN, W_inNV, List.getElem?_cons_zero, List.getElem?_cons_succ, List.set_cons_zero, List.set_cons_succ, List.length_cons, List.length_nil, v_add, v_sub, v_mul, v_div, v_mod, v_pow, v_neg, v_abs, v_intB, v_intI, v_lt, v_le, v_gt, v_ge, v_max, v_min, v_trI, v_trB, v_lenL, v_lenT, v_lenR, lenLst, lenTup, lenRl, ixL, ixT, ixR, itL, itT, itR, lsL, lsR, blD_lt, v_list, v_tuple, v_eqS, v_neS, v_eqI, v_neI, v_app, v_rev, v_clear, v_ext, at0, at1, at2, at3, at4, at5, at6, at7, st0, st1, st2, st3, merge, lent, backAll_nil, backAll_cons, bA_un, bA_val, bA_nil, bA_d, bA_ne, bA_rv, bA_eq, List.nodup_cons, List.nodup_nil, List.not_mem_nil, not_false_eq_true, Nat.reduceAdd, Nat.reduceEqDiff, ne_eq, reduceCtorEq, if_true, reduceIte, wipe_nil, wipe_cons, nown_un, nown_val, restO, on_nil, on_cons, gd0, gdS, kQ_nm, kQ_ex, W_kT, W_kV, W_isiN, W_trN, true_and, and_true, w_isiP, W_IZM, zmT, zmL, zmTL, zmLT, zipD, v_all0, v_all1, v_all2, w_isiS, w_isiT, w_isiB, x_neB, x_eqB, cst0, cst1, cst2, cst3, cst4, cst5, cst6, cst7, cst8, cst9, cst10, cst11, cst12, cst13, cst14, cst15, is_non, is_tup, is_str, is_int, isn_non, isn_tup, isn_str, isn_int, Int.reduceEq, Int.reduceNe, Int.reduceLT, Int.reduceLE, Int.reduceGT, Nat.reduceLeDiff, Nat.reduceLT, Nat.reduceEqDiff, List.nil_append, List.cons_append, decide_true, decide_false, forall_const, false_implies, true_implies, not_true_eq_false, Int.reduceNeg, Nat.le_refl, Nat.zero_le, e1, ed] | refine ⟨by decide, ?_⟩)
    refine ⟨mulSm_b (a := a + a) (b := a + a) (by rw [Int.natAbs_mul]; exact b1) (by rw [Int.natAbs_mul, natA]; exact b2) (by omega) (by omega) (by omega), ?_⟩
    walk_at "go"
    have em : (t.num * t.num * ((t.den : Int) * t.den)) = (((t.num.natAbs * t.den) * (t.num.natAbs * t.den) : Nat) : Int) := by
      rw [Int.natCast_mul, Int.natCast_mul, nn]
      grind
    rw [em]
    refine square_out_sq (k := a + a + (a + a)) (Nat.mul_pos (by omega) dp) b4 (by omega) ?_
    repeat (first | simp -dsimp only [W_some, W_none, WO_some, WO_none, br_true, br_false, br_dec, br_not, rd_val, rd_lst, rd_dct, W_var, W_c, W_v, fz_val, fz_lst, fz_dct, W_fz, W_bin, W_binT, W_binS, W_u, W_tr, W_andT, W_orT, W_notT, asB_bl, W_andV, W_orV, W_notV, W_ifE, W_ifS, W_nil, W_cons, W_tup, W_lst, pk_val, pk_lst, pk_dct, W_ixN, W_o0, asI_int, W_o1, W_sl, W_cb, W_lenN, W_isi, W_bm, nxt_nx, nxt_bk, nxt_ct, nxt_ret, W_skip, W_seq, W_drop, W_ret, W_retN, W_ct, W_bk, W_if, wr_un, wr_val, wr_own, W_asg, G_n, Gs_0, Gs_1, G_u, W_asgG, mv_val, mv_own, W_mov, ol_lst, W_mutL, WS_nil, WS_cons, put_nil, put_cons, W_parS, WB_nil, WB_d, WB_r, ls_val, ls_own, sl_nil, sl_d, sl_r, W_call, lp_nx, lp_ct, lp_bk, lp_ret, W_for, W_forL_nil, W_ia, waL, waT, waR, waS, waD, WK_0, WK_1, W_dct, kD_nil, kD_S, oo_own, W_putX, put_lst, put_dctS, v_dictL, v_dictD, v_max3, ixK, x_eqS, x_neS, x_eqI, x_neI, inX_L, inX_T, inX_S, inX_D, sl_1T, sl_1L, sl_2T, sl_2L, List.drop_succ_cons, List.drop_zero, r1_int, W_IR1, r2_int, W_IR2, a1_one, W_IE, a2_two, W_IZ, W_lc, W_lcL_nil, W_yes, W_chT, W_inN, W_inNV, List.getElem?_cons_zero, List.getElem?_cons_succ, List.set_cons_zero, List.set_cons_succ, List.length_cons, List.length_nil, v_add, v_sub, v_mul, v_div, v_mod, v_pow, v_neg, v_abs, v_intB, v_intI, v_lt, v_le, v_gt, v_ge, v_max, v_min, v_trI, v_trB, v_lenL, v_lenT, v_lenR, lenLst, lenTup, lenRl, ixL, ixT, ixR, itL, itT, itR, lsL, lsR, blD_lt, v_list, v_tuple, v_eqS, v_neS, v_eqI, v_neI, v_app, v_rev, v_clear, v_ext, at0, at1, at2, at3, at4, at5, at6, at7, st0, st1, st2, st3, merge, lent, backAll_nil, backAll_cons, bA_un, bA_val, bA_nil, bA_d, bA_ne, bA_rv, bA_eq, List.nodup_cons, List.nodup_nil, List.not_mem_nil, not_false_eq_true, Nat.reduceAdd, Nat.reduceEqDiff, ne_eq, reduceCtorEq, if_true, reduceIte, wipe_nil, wipe_cons, nown_un, nown_val, restO, on_nil, on_cons, gd0, gdS, kQ_nm, kQ_ex, W_kT, W_kV, W_isiN, W_trN, true_and, and_true, w_isiP, W_IZM, zmT, zmL, zmTL, zmLT, zipD, v_all0, v_all1, v_all2, w_isiS, w_isiT, w_isiB, x_neB, x_eqB, cst0, cst1, cst2, cst3, cst4, cst5, cst6, cst7, cst8, cst9, cst10, cst11, cst12, cst13, cst14, cst15, is_non, is_tup, is_str, is_int, isn_non, isn_tup, isn_str, isn_int, Int.reduceEq, Int.reduceNe, Int.reduceLT, Int.reduceLE, Int.reduceGT, Nat.reduceLeDiff, Nat.reduceLT, Nat.reduceEqDiff, List.nil_append, List.cons_append, decide_true, decide_false, forall_const, false_implies, true_implies, not_true_eq_false, Int.reduceNeg, Nat.le_refl, Nat.zero_le, e1, ed] | refine ⟨by decide, ?_⟩)
    rw [Int.natCast_mul, nn]
    have dd : ((t.den : Int) * t.den) ≠ 0 := dens_ne t t
    refine pair_of_W (k := a + a) dd ?_ ?_ (by omega) fun _ => ?_
    · rw [Int.natAbs_mul, natA]
      exact b3
    · rw [Int.natAbs_mul, natA]
      exact b2
    · rw [Rat.divInt_mul_right (by omega), divInt_self]
      walk_at "go"
      exact q
theorem Sz.inv {a : Nat} {p : Rat} (h : Sz a p) : Sz a p⁻¹ := by
  by_cases z : p = 0
  · subst z
    rw [Rat.inv_zero]
    exact h
  · rw [Rat.inv_def]
    have hn : p.num ≠ 0 := fun e => z (Rat.num_eq_zero.mp e)
    exact Sz.divInt (by rw [natA]; exact h.2) h.1 hn
theorem inverse_W {p : Rat} {a n : Nat} {Q : Slot → List Slot → Prop} (h0 : p ≠ 0) (hp : Sz a p) (ha : a ≤ 8000) (q : Q (.val (prD p⁻¹)) [.val (prD p)]) : W (q_nest_inverse (n + 1) [.val (prD p)]) Q := by
  simp only [q_nest_inverse]
  unfold o_nest_inverse
  refine W_fn rfl ?_
  show W (b_nest_inverse _ _ _ _ _ _ [.val (prD p), .un]) _
  unfold b_nest_inverse
  have hn : p.num ≠ 0 := fun e => h0 (Rat.num_eq_zero.mp e)
  unfold prD
  walk_at "go"
  refine pair_of_W (k := a) hn (by rw [natA]; exact hp.2) hp.1 (by omega) fun _ => ?_
  walk_at "go"
  rw [Rat.inv_def] at q
  exact q

/-! ### what kind a thing is, numbers that are pairs -/
section
variable {T : Bool → Prop} {i : Int} {ds : List D} {b : Bool} {s : Str}
theorem w_isi_int : WO (isiB (.int i) "int") T ↔ T true := by
  rw [show isiB (.int i) "int" = some true from by show kitB "int" "int" = some true; decide +kernel, WO_some]
theorem w_isi_ib : WO (isiB (.int i) "bool") T ↔ T false := by
  rw [show isiB (.int i) "bool" = some false from by show kitB "int" "bool" = some false; decide +kernel, WO_some]
theorem w_isi_tt : WO (isiB (.tup ds) "tuple") T ↔ T true := by
  rw [show isiB (.tup ds) "tuple" = some true from by show kitB "tuple" "tuple" = some true; decide +kernel, WO_some]
end
section
variable {p r : Rat} {a c n : Nat} {Q : Slot → List Slot → Prop} {i : Int}
theorem w_isi_pt {T : Bool → Prop} : WO (isiB (prD p) "tuple") T ↔ T true := w_isi_tt
theorem minus_W (hp : Sz a p) (hr : Sz c r) (hab : a + c ≤ 7900) (q : Q (.val (prD (p - r))) [.val (prD p), .val (prD r)]) : W (m_minus [.val (prD p), .val (prD r)]) Q := by
  unfold m_minus o_minus
  refine W_fn rfl ?_
  show W (b_minus _ _ [.val (prD p), .val (prD r)]) _
  unfold b_minus
  walk_at "go"
  refine settledN ?_
  walk_at "go"
  refine settledN ?_
  walk_at "go"
  refine minusN hp hr (by omega) ?_
  walk_at "go"
  exact q
theorem times_W (hp : Sz a p) (hr : Sz c r) (hab : a + c ≤ 7900) (q : Q (.val (prD (p * r))) [.val (prD p), .val (prD r)]) : W (m_times [.val (prD p), .val (prD r)]) Q := by
  unfold m_times o_times
  refine W_fn rfl ?_
  show W (b_times _ _ [.val (prD p), .val (prD r)]) _
  unfold b_times
  walk_at "go"
  refine settledN ?_
  walk_at "go"
  refine settledN ?_
  walk_at "go"
  refine timesN hp hr (by omega) ?_
  walk_at "go"
  exact q
end

/-! ### the law's own pairs -/
theorem pairL_W {t b : Int} {k : Nat} {Q : Slot → List Slot → Prop} (hb : b ≠ 0) (ht : t.natAbs < 2 ^ k) (hk : b.natAbs < 2 ^ k) (k9 : k ≤ 8999) (q : Sz k (Rat.divInt t b) → Q (.val (prD (Rat.divInt t b))) [.val (.int t), .val (.int b)]) : W (m__law_pair [.val (.int t), .val (.int b)]) Q := by
  have hb9 : b.natAbs < 2 ^ 8999 := Nat.lt_of_lt_of_le hk (Nat.pow_le_pow_right (by decide) k9)
  have hb0 : b.natAbs < 2 ^ 9000 := Nat.lt_of_lt_of_le hb9 (Nat.pow_le_pow_right (by decide) (by decide))
  have pv := part_val (t := t) hb
  have g0 := gcd_pos (t := t) hb
  have gl := gcd_le (t := t) hb
  have gb : (Int.gcd t b) < 2 ^ 8999 := Nat.lt_of_le_of_lt gl hb9
  unfold m__law_pair o__law_pair
  refine W_fn rfl ?_
  show W (b__law_pair [.val (.int t), .val (.int b), .un, .un]) _
  unfold b__law_pair
  simp -dsimp only [W_some, W_none, WO_some, WO_none, br_true, br_false, br_dec, br_not, rd_val, rd_lst, rd_dct, W_var, W_c, W_v, fz_val, fz_lst, fz_dct, W_fz, W_bin, W_binT, W_binS, W_u, W_tr, W_andT, W_orT, W_notT, asB_bl, W_andV, W_orV, W_notV, W_ifE, W_ifS, W_nil, W_cons, W_tup, W_lst, pk_val, pk_lst, pk_dct, W_ixN, W_o0, asI_int, W_o1, W_sl, W_cb, W_lenN, W_isi, W_bm, nxt_nx, nxt_bk, nxt_ct, nxt_ret, W_skip, W_seq, W_drop, W_ret, W_retN, W_ct, W_bk, W_if, wr_un, wr_val, wr_own, W_asg, G_n, Gs_0, Gs_1, G_u, W_asgG, mv_val, mv_own, W_mov, ol_lst, W_mutL, WS_nil, WS_cons, put_nil, put_cons, W_parS, WB_nil, WB_d, WB_r, ls_val, ls_own, sl_nil, sl_d, sl_r, W_call, lp_nx, lp_ct, lp_bk, lp_ret, W_for, W_forL_nil, W_ia, waL, waT, waR, waS, waD, WK_0, WK_1, W_dct, kD_nil, kD_S, oo_own, W_putX, put_lst, put_dctS, v_dictL, v_dictD, v_max3, ixK, x_eqS, x_neS, x_eqI, x_neI, inX_L, inX_T, inX_S, inX_D, sl_1T, sl_1L, sl_2T, sl_2L, List.drop_succ_cons, List.drop_zero, r1_int, W_IR1, r2_int, W_IR2, a1_one, W_IE, a2_two, W_IZ, W_lc, W_lcL_nil, W_yes, W_chT, W_inN, W_inNV, List.getElem?_cons_zero, List.getElem?_cons_succ, List.set_cons_zero, List.set_cons_succ, List.length_cons, List.length_nil, v_add, v_sub, v_mul, v_div, v_mod, v_pow, v_neg, v_abs, v_intB, v_intI, v_lt, v_le, v_gt, v_ge, v_max, v_min, v_trI, v_trB, v_lenL, v_lenT, v_lenR, lenLst, lenTup, lenRl, ixL, ixT, ixR, itL, itT, itR, lsL, lsR, blD_lt, v_list, v_tuple, v_eqS, v_neS, v_eqI, v_neI, v_app, v_rev, v_clear, v_ext, at0, at1, at2, at3, at4, at5, at6, at7, st0, st1, st2, st3, merge, lent, backAll_nil, backAll_cons, bA_un, bA_val, bA_nil, bA_d, bA_ne, bA_rv, bA_eq, List.nodup_cons, List.nodup_nil, List.not_mem_nil, not_false_eq_true, Nat.reduceAdd, Nat.reduceEqDiff, ne_eq, reduceCtorEq, if_true, reduceIte, wipe_nil, wipe_cons, nown_un, nown_val, restO, on_nil, on_cons, gd0, gdS, kQ_nm, kQ_ex, W_kT, W_kV, W_isiN, W_trN, true_and, and_true]
  have ea : (if t < 0 then -t else t) = (t.natAbs : Int) := by split <;> omega
  have eb : (if b < 0 then -b else b) = (b.natAbs : Int) := by split <;> omega
  rw [ea, eb]
  refine ⟨by decide, ?_⟩
  refine W_wh_inv (fun m ρ => ∃ x y : Nat, ρ = [.val (.int t), .val (.int b), .val (.int x), .val (.int y)] ∧ m = y ∧ Nat.gcd x y = Int.gcd t b) (fun m ρ h => ?_) fuelN b.natAbs _ (le_fuel hb0) ⟨t.natAbs, b.natAbs, rfl, rfl, rfl⟩
  obtain ⟨x, y, rfl, rfl, e⟩ := h
  simp -dsimp only [W_some, W_none, WO_some, WO_none, br_true, br_false, br_dec, br_not, rd_val, rd_lst, rd_dct, W_var, W_c, W_v, fz_val, fz_lst, fz_dct, W_fz, W_bin, W_binT, W_binS, W_u, W_tr, W_andT, W_orT, W_notT, asB_bl, W_andV, W_orV, W_notV, W_ifE, W_ifS, W_nil, W_cons, W_tup, W_lst, pk_val, pk_lst, pk_dct, W_ixN, W_o0, asI_int, W_o1, W_sl, W_cb, W_lenN, W_isi, W_bm, nxt_nx, nxt_bk, nxt_ct, nxt_ret, W_skip, W_seq, W_drop, W_ret, W_retN, W_ct, W_bk, W_if, wr_un, wr_val, wr_own, W_asg, G_n, Gs_0, Gs_1, G_u, W_asgG, mv_val, mv_own, W_mov, ol_lst, W_mutL, WS_nil, WS_cons, put_nil, put_cons, W_parS, WB_nil, WB_d, WB_r, ls_val, ls_own, sl_nil, sl_d, sl_r, W_call, lp_nx, lp_ct, lp_bk, lp_ret, W_for, W_forL_nil, W_ia, waL, waT, waR, waS, waD, WK_0, WK_1, W_dct, kD_nil, kD_S, oo_own, W_putX, put_lst, put_dctS, v_dictL, v_dictD, v_max3, ixK, x_eqS, x_neS, x_eqI, x_neI, inX_L, inX_T, inX_S, inX_D, sl_1T, sl_1L, sl_2T, sl_2L, List.drop_succ_cons, List.drop_zero, r1_int, W_IR1, r2_int, W_IR2, a1_one, W_IE, a2_two, W_IZ, W_lc, W_lcL_nil, W_yes, W_chT, W_inN, W_inNV, List.getElem?_cons_zero, List.getElem?_cons_succ, List.set_cons_zero, List.set_cons_succ, List.length_cons, List.length_nil, v_add, v_sub, v_mul, v_div, v_mod, v_pow, v_neg, v_abs, v_intB, v_intI, v_lt, v_le, v_gt, v_ge, v_max, v_min, v_trI, v_trB, v_lenL, v_lenT, v_lenR, lenLst, lenTup, lenRl, ixL, ixT, ixR, itL, itT, itR, lsL, lsR, blD_lt, v_list, v_tuple, v_eqS, v_neS, v_eqI, v_neI, v_app, v_rev, v_clear, v_ext, at0, at1, at2, at3, at4, at5, at6, at7, st0, st1, st2, st3, merge, lent, backAll_nil, backAll_cons, bA_un, bA_val, bA_nil, bA_d, bA_ne, bA_rv, bA_eq, List.nodup_cons, List.nodup_nil, List.not_mem_nil, not_false_eq_true, Nat.reduceAdd, Nat.reduceEqDiff, ne_eq, reduceCtorEq, if_true, reduceIte, wipe_nil, wipe_cons, nown_un, nown_val, restO, on_nil, on_cons, gd0, gdS, kQ_nm, kQ_ex, W_kT, W_kV, W_isiN, W_trN, true_and, and_true]
  have e1 : ((x : Int).fmod (m : Int)) = ((x % m : Nat) : Int) := by
    rw [Int.fmod_eq_emod_of_nonneg _ (by omega)]
    exact (Int.natCast_emod x m).symm
  refine ⟨fun hy => ?_, fun hy => ?_⟩
  · have hm : 0 < m := by omega
    rw [e1]
    exact ⟨by omega, by decide, x % m, Nat.mod_lt _ hm, m, x % m, rfl, rfl, by rw [← e, Nat.gcd_comm m, ← Nat.gcd_rec m x, Nat.gcd_comm]⟩
  · have hm : m = 0 := by omega
    subst hm
    rw [Nat.gcd_zero_right] at e
    subst e
    refine ⟨fun h => ?_, fun h => ?_⟩
    · rw [if_pos h, Int.one_mul, Int.one_mul] at pv
      rw [pv.1, pv.2]
      exact ⟨⟨by omega, log2_of gb⟩, ⟨by omega, log2_of gb⟩, by decide, q (Sz.divInt ht hk hb)⟩
    · rw [if_neg h, Int.neg_one_mul, Int.neg_one_mul] at pv
      rw [pv.1, pv.2]
      exact ⟨⟨by omega, log2_of gb⟩, ⟨by omega, log2_of gb⟩, by decide, q (Sz.divInt ht hk hb)⟩
theorem begun_W {ns : List Int} {k : Int} {Q : Slot → List Slot → Prop} (h0 : 0 ≤ k) (h1 : k < 1000)
    (q : ∀ a b : Int, 0 ≤ b → b < 2 ^ 62 → Q (.own false (.lst [.int a, .int b, .int 0])) [.val (.rl (ns.map D.int)), .val (.int k)]) :
    W (m__law_begun [.val (.rl (ns.map D.int)), .val (.int k)]) Q := by
  unfold m__law_begun o__law_begun
  refine W_fn rfl ?_
  show W (b__law_begun [.val (.rl (ns.map D.int)), .val (.int k), .un]) _
  unfold b__law_begun
  simp -dsimp only [W_some, W_none, WO_some, WO_none, br_true, br_false, br_dec, br_not, rd_val, rd_lst, rd_dct, W_var, W_c, W_v, fz_val, fz_lst, fz_dct, W_fz, W_bin, W_binT, W_binS, W_u, W_tr, W_andT, W_orT, W_notT, asB_bl, W_andV, W_orV, W_notV, W_ifE, W_ifS, W_nil, W_cons, W_tup, W_lst, pk_val, pk_lst, pk_dct, W_ixN, W_o0, asI_int, W_o1, W_sl, W_cb, W_lenN, W_isi, W_bm, nxt_nx, nxt_bk, nxt_ct, nxt_ret, W_skip, W_seq, W_drop, W_ret, W_retN, W_ct, W_bk, W_if, wr_un, wr_val, wr_own, W_asg, G_n, Gs_0, Gs_1, G_u, W_asgG, mv_val, mv_own, W_mov, ol_lst, W_mutL, WS_nil, WS_cons, put_nil, put_cons, W_parS, WB_nil, WB_d, WB_r, ls_val, ls_own, sl_nil, sl_d, sl_r, W_call, lp_nx, lp_ct, lp_bk, lp_ret, W_for, W_forL_nil, W_ia, waL, waT, waR, waS, waD, WK_0, WK_1, W_dct, kD_nil, kD_S, oo_own, W_putX, put_lst, put_dctS, v_dictL, v_dictD, v_max3, ixK, x_eqS, x_neS, x_eqI, x_neI, inX_L, inX_T, inX_S, inX_D, sl_1T, sl_1L, sl_2T, sl_2L, List.drop_succ_cons, List.drop_zero, r1_int, W_IR1, r2_int, W_IR2, a1_one, W_IE, a2_two, W_IZ, W_lc, W_lcL_nil, W_yes, W_chT, W_inN, W_inNV, List.getElem?_cons_zero, List.getElem?_cons_succ, List.set_cons_zero, List.set_cons_succ, List.length_cons, List.length_nil, v_add, v_sub, v_mul, v_div, v_mod, v_pow, v_neg, v_abs, v_intB, v_intI, v_lt, v_le, v_gt, v_ge, v_max, v_min, v_trI, v_trB, v_lenL, v_lenT, v_lenR, lenLst, lenTup, lenRl, ixL, ixT, ixR, itL, itT, itR, lsL, lsR, blD_lt, v_list, v_tuple, v_eqS, v_neS, v_eqI, v_neI, v_app, v_rev, v_clear, v_ext, at0, at1, at2, at3, at4, at5, at6, at7, st0, st1, st2, st3, merge, lent, backAll_nil, backAll_cons, bA_un, bA_val, bA_nil, bA_d, bA_ne, bA_rv, bA_eq, List.nodup_cons, List.nodup_nil, List.not_mem_nil, not_false_eq_true, Nat.reduceAdd, Nat.reduceEqDiff, ne_eq, reduceCtorEq, if_true, reduceIte, wipe_nil, wipe_cons, nown_un, nown_val, restO, on_nil, on_cons, gd0, gdS, kQ_nm, kQ_ex, W_kT, W_kV, W_isiN, W_trN, true_and, and_true]
  have main : ∀ v : Int, mulSm (if v < 0 then -v else v) (if decide (10 ^ Int.toNat 18 ≤ (if v < 0 then -v else v)) = true then 1 else 0) = true := fun v => by
    by_cases z : decide (10 ^ Int.toNat 18 ≤ (if v < 0 then -v else v)) = true
    · rw [if_pos z]
      exact mulSm_r (by decide) (by decide)
    · rw [if_neg z]
      exact mulSm_r (by decide) (by decide)
  have e18 : (0 ≤ (18 : Int) ∧ (18 : Int) ≤ 1000000 ∧ Int.natAbs 10 < 2 ^ 64) := ⟨by decide, by decide, by decide⟩
  refine ⟨fun hk => ?_, fun _ => ?_⟩
  · refine W_atI h0 hk fun d hd => ?_
    rw [List.getElem?_map] at hd
    obtain ⟨v, _, rfl⟩ := Option.map_eq_some_iff.mp hd
    simp -dsimp only [W_some, W_none, WO_some, WO_none, br_true, br_false, br_dec, br_not, rd_val, rd_lst, rd_dct, W_var, W_c, W_v, fz_val, fz_lst, fz_dct, W_fz, W_bin, W_binT, W_binS, W_u, W_tr, W_andT, W_orT, W_notT, asB_bl, W_andV, W_orV, W_notV, W_ifE, W_ifS, W_nil, W_cons, W_tup, W_lst, pk_val, pk_lst, pk_dct, W_ixN, W_o0, asI_int, W_o1, W_sl, W_cb, W_lenN, W_isi, W_bm, nxt_nx, nxt_bk, nxt_ct, nxt_ret, W_skip, W_seq, W_drop, W_ret, W_retN, W_ct, W_bk, W_if, wr_un, wr_val, wr_own, W_asg, G_n, Gs_0, Gs_1, G_u, W_asgG, mv_val, mv_own, W_mov, ol_lst, W_mutL, WS_nil, WS_cons, put_nil, put_cons, W_parS, WB_nil, WB_d, WB_r, ls_val, ls_own, sl_nil, sl_d, sl_r, W_call, lp_nx, lp_ct, lp_bk, lp_ret, W_for, W_forL_nil, W_ia, waL, waT, waR, waS, waD, WK_0, WK_1, W_dct, kD_nil, kD_S, oo_own, W_putX, put_lst, put_dctS, v_dictL, v_dictD, v_max3, ixK, x_eqS, x_neS, x_eqI, x_neI, inX_L, inX_T, inX_S, inX_D, sl_1T, sl_1L, sl_2T, sl_2L, List.drop_succ_cons, List.drop_zero, r1_int, W_IR1, r2_int, W_IR2, a1_one, W_IE, a2_two, W_IZ, W_lc, W_lcL_nil, W_yes, W_chT, W_inN, W_inNV, List.getElem?_cons_zero, List.getElem?_cons_succ, List.set_cons_zero, List.set_cons_succ, List.length_cons, List.length_nil, v_add, v_sub, v_mul, v_div, v_mod, v_pow, v_neg, v_abs, v_intB, v_intI, v_lt, v_le, v_gt, v_ge, v_max, v_min, v_trI, v_trB, v_lenL, v_lenT, v_lenR, lenLst, lenTup, lenRl, ixL, ixT, ixR, itL, itT, itR, lsL, lsR, blD_lt, v_list, v_tuple, v_eqS, v_neS, v_eqI, v_neI, v_app, v_rev, v_clear, v_ext, at0, at1, at2, at3, at4, at5, at6, at7, st0, st1, st2, st3, merge, lent, backAll_nil, backAll_cons, bA_un, bA_val, bA_nil, bA_d, bA_ne, bA_rv, bA_eq, List.nodup_cons, List.nodup_nil, List.not_mem_nil, not_false_eq_true, Nat.reduceAdd, Nat.reduceEqDiff, ne_eq, reduceCtorEq, if_true, reduceIte, wipe_nil, wipe_cons, nown_un, nown_val, restO, on_nil, on_cons, gd0, gdS, kQ_nm, kQ_ex, W_kT, W_kV, W_isiN, W_trN, true_and, and_true]
    have f1 := fm0 (a := v) (n := 2305843009213693951) (by decide)
    have f2 := fm1 (a := v) (n := 2305843009213693951) (by decide)
    exact ⟨e18, main v, by decide, mulSm_l (by decide) (by decide), by decide, q _ _ (by omega) (by omega)⟩
  · have f1 := fm0 (a := 0) (n := 2305843009213693951) (by decide)
    have f2 := fm1 (a := 0) (n := 2305843009213693951) (by decide)
    exact ⟨e18, main 0, by decide, mulSm_l (by decide) (by decide), by decide, q _ _ (by omega) (by omega)⟩
section
variable {p r : Rat} {a c n : Nat} {Q : Slot → List Slot → Prop}
theorem fraction_W {t b : Int} {k : Nat} (hb : b ≠ 0) (ht : t.natAbs < 2 ^ k) (hk : b.natAbs < 2 ^ k) (k9 : k ≤ 8999) (q : Q (.val (prD (Rat.divInt t b))) [.val (.int t), .val (.int b)]) : W (m_fraction [.val (.int t), .val (.int b)]) Q := by
  unfold m_fraction o_fraction
  refine W_fn rfl ?_
  show W (b_fraction _ [.val (.int t), .val (.int b)]) _
  unfold b_fraction
  walk_at "go"
  refine pair_of_W hb ht hk k9 fun _ => ?_
  walk_at "go"
  exact q
theorem plus_W (hp : Sz a p) (hr : Sz c r) (hab : a + c ≤ 7900) (q : Q (.val (prD (p + r))) [.val (prD p), .val (prD r)]) : W (m_plus [.val (prD p), .val (prD r)]) Q := by
  unfold m_plus o_plus
  refine W_fn rfl ?_
  show W (b_plus _ _ [.val (prD p), .val (prD r)]) _
  unfold b_plus
  walk_at "go"
  refine settledN ?_
  walk_at "go"
  refine settledN ?_
  walk_at "go"
  refine plusN hp hr (by omega) ?_
  walk_at "go"
  exact q
theorem over_W (h0 : r ≠ 0) (hp : Sz a p) (hr : Sz c r) (hab : a + c ≤ 7900) (q : Q (.val (prD (p * r⁻¹))) [.val (prD p), .val (prD r)]) : W (m_over [.val (prD p), .val (prD r)]) Q := by
  unfold m_over o_over
  refine W_fn rfl ?_
  show W (b_over _ _ _ _ [.val (prD p), .val (prD r), .un]) _
  unfold b_over
  walk_at "go"
  refine settledN ?_
  walk_at "go"
  refine signN ?_
  walk_at "go"
  refine ⟨fun e => absurd (sg_zero.mp e) h0, fun _ => ?_⟩
  refine settledN ?_
  walk_at "go"
  refine inverse_W h0 hr (by omega) ?_
  walk_at "go"
  refine timesN hp (Sz.inv hr) (by omega) ?_
  walk_at "go"
  exact q
theorem root_W (h0 : 0 ≤ p) (hp : Sz a p) (ha : a ≤ 1500) (q : Q (.val (prD p)) [.val (prD (p * p))]) : W (m_root [.val (prD (p * p))]) Q := by
  unfold m_root o_root
  refine W_fn rfl ?_
  show W (b_root _ _ _ [.val (prD (p * p)), .un]) _
  unfold b_root
  have nn : ¬ sgI (p * p) < 0 := fun e => by
    have h1 : 0 ≤ p * p := Rat.mul_nonneg h0 h0
    have h2 : ¬ 0 < sgI (p * p) := by omega
    have h3 : sgI (p * p) ≠ 0 := by omega
    have h4 : ¬ 0 < p * p := fun x => h2 (sg_pos.mpr x)
    have h5 : p * p ≠ 0 := fun x => h3 (sg_zero.mpr x)
    grind
  walk_at "go"
  refine settledN ?_
  walk_at "go"
  refine signN ?_
  walk_at "go"
  refine ⟨fun e => absurd e nn, fun _ => ?_⟩
  refine nest_root_sq h0 hp ha ?_
  walk_at "go"
  exact q
theorem same_W (q : Q (.val (.bl true)) [.val (prD p), .val (prD p)]) : W (m__law_same [.val (prD p), .val (prD p)]) Q := by
  unfold m__law_same o__law_same
  refine W_fn rfl ?_
  show W (b__law_same [.val (prD p), .val (prD p), .un]) _
  unfold b__law_same
  have ne : ∀ {T : Bool → Prop}, WO (neX (prD p) (prD p)) T ↔ T false := fun {T} => by
    rw [x_ne (by rw [pr_ok]; rfl), qD_pr]
    simp
  repeat (first | simp -dsimp only [W_some, W_none, WO_some, WO_none, br_true, br_false, br_dec, br_not, rd_val, rd_lst, rd_dct, W_var, W_c, W_v, fz_val, fz_lst, fz_dct, W_fz, W_bin, W_binT, W_binS, W_u, W_tr, W_andT, W_orT, W_notT, asB_bl, W_andV, W_orV, W_notV, W_ifE, W_ifS, W_nil, W_cons, W_tup, W_lst, pk_val, pk_lst, pk_dct, W_ixN, W_o0, asI_int, W_o1, W_sl, W_cb, W_lenN, W_isi, W_bm, nxt_nx, nxt_bk, nxt_ct, nxt_ret, W_skip, W_seq, W_drop, W_ret, W_retN, W_ct, W_bk, W_if, wr_un, wr_val, wr_own, W_asg, G_n, Gs_0, Gs_1, G_u, W_asgG, mv_val, mv_own, W_mov, ol_lst, W_mutL, WS_nil, WS_cons, put_nil, put_cons, W_parS, WB_nil, WB_d, WB_r, ls_val, ls_own, sl_nil, sl_d, sl_r, W_call, lp_nx, lp_ct, lp_bk, lp_ret, W_for, W_forL_nil, W_ia, waL, waT, waR, waS, waD, WK_0, WK_1, W_dct, kD_nil, kD_S, oo_own, W_putX, put_lst, put_dctS, v_dictL, v_dictD, v_max3, ixK, x_eqS, x_neS, x_eqI, x_neI, inX_L, inX_T, inX_S, inX_D, sl_1T, sl_1L, sl_2T, sl_2L, List.drop_succ_cons, List.drop_zero, r1_int, W_IR1, r2_int, W_IR2, a1_one, W_IE, a2_two, W_IZ, W_lc, W_lcL_nil, W_yes, W_chT, W_inN, W_inNV, List.getElem?_cons_zero, List.getElem?_cons_succ, List.set_cons_zero, List.set_cons_succ, List.length_cons, List.length_nil, v_add, v_sub, v_mul, v_div, v_mod, v_pow, v_neg, v_abs, v_intB, v_intI, v_lt, v_le, v_gt, v_ge, v_max, v_min, v_trI, v_trB, v_lenL, v_lenT, v_lenR, lenLst, lenTup, lenRl, ixL, ixT, ixR, itL, itT, itR, lsL, lsR, blD_lt, v_list, v_tuple, v_eqS, v_neS, v_eqI, v_neI, v_app, v_rev, v_clear, v_ext, at0, at1, at2, at3, at4, at5, at6, at7, st0, st1, st2, st3, merge, lent, backAll_nil, backAll_cons, bA_un, bA_val, bA_nil, bA_d, bA_ne, bA_rv, bA_eq, List.nodup_cons, List.nodup_nil, List.not_mem_nil, not_false_eq_true, Nat.reduceAdd, Nat.reduceEqDiff, ne_eq, reduceCtorEq, if_true, reduceIte, wipe_nil, wipe_cons, nown_un, nown_val, restO, on_nil, on_cons, gd0, gdS, kQ_nm, kQ_ex, W_kT, W_kV, W_isiN, W_trN, true_and, and_true, w_isiP, W_IZM, zmT, zmL, zmTL, zmLT, zipD, v_all0, v_all1, v_all2, w_isiS, w_isiT, w_isiB, x_neB, x_eqB, cst0, cst1, cst2, cst3, cst4, cst5, cst6, cst7, cst8, cst9, cst10, cst11, cst12, cst13, cst14, cst15, is_non, is_tup, is_str, is_int, isn_non, isn_tup, isn_str, isn_int, Int.reduceEq, Int.reduceNe, Int.reduceLT, Int.reduceLE, Int.reduceGT, Nat.reduceLeDiff, Nat.reduceLT, Nat.reduceEqDiff, List.nil_append, List.cons_append, decide_true, decide_false, forall_const, false_implies, true_implies, not_true_eq_false, Int.reduceNeg, Nat.le_refl, Nat.zero_le, w_isi_pt, Bool.not_true, ne] | refine ⟨by decide, ?_⟩)
  have e : prD p = .tup [.int p.num, .int p.den] := rfl
  rw [e] at q ⊢
  repeat (first | simp -dsimp only [W_some, W_none, WO_some, WO_none, br_true, br_false, br_dec, br_not, rd_val, rd_lst, rd_dct, W_var, W_c, W_v, fz_val, fz_lst, fz_dct, W_fz, W_bin, W_binT, W_binS, W_u, W_tr, W_andT, W_orT, W_notT, asB_bl, W_andV, W_orV, W_notV, W_ifE, W_ifS, W_nil, W_cons, W_tup, W_lst, pk_val, pk_lst, pk_dct, W_ixN, W_o0, asI_int, W_o1, W_sl, W_cb, W_lenN, W_isi, W_bm, nxt_nx, nxt_bk, nxt_ct, nxt_ret, W_skip, W_seq, W_drop, W_ret, W_retN, W_ct, W_bk, W_if, wr_un, wr_val, wr_own, W_asg, G_n, Gs_0, Gs_1, G_u, W_asgG, mv_val, mv_own, W_mov, ol_lst, W_mutL, WS_nil, WS_cons, put_nil, put_cons, W_parS, WB_nil, WB_d, WB_r, ls_val, ls_own, sl_nil, sl_d, sl_r, W_call, lp_nx, lp_ct, lp_bk, lp_ret, W_for, W_forL_nil, W_ia, waL, waT, waR, waS, waD, WK_0, WK_1, W_dct, kD_nil, kD_S, oo_own, W_putX, put_lst, put_dctS, v_dictL, v_dictD, v_max3, ixK, x_eqS, x_neS, x_eqI, x_neI, inX_L, inX_T, inX_S, inX_D, sl_1T, sl_1L, sl_2T, sl_2L, List.drop_succ_cons, List.drop_zero, r1_int, W_IR1, r2_int, W_IR2, a1_one, W_IE, a2_two, W_IZ, W_lc, W_lcL_nil, W_yes, W_chT, W_inN, W_inNV, List.getElem?_cons_zero, List.getElem?_cons_succ, List.set_cons_zero, List.set_cons_succ, List.length_cons, List.length_nil, v_add, v_sub, v_mul, v_div, v_mod, v_pow, v_neg, v_abs, v_intB, v_intI, v_lt, v_le, v_gt, v_ge, v_max, v_min, v_trI, v_trB, v_lenL, v_lenT, v_lenR, lenLst, lenTup, lenRl, ixL, ixT, ixR, itL, itT, itR, lsL, lsR, blD_lt, v_list, v_tuple, v_eqS, v_neS, v_eqI, v_neI, v_app, v_rev, v_clear, v_ext, at0, at1, at2, at3, at4, at5, at6, at7, st0, st1, st2, st3, merge, lent, backAll_nil, backAll_cons, bA_un, bA_val, bA_nil, bA_d, bA_ne, bA_rv, bA_eq, List.nodup_cons, List.nodup_nil, List.not_mem_nil, not_false_eq_true, Nat.reduceAdd, Nat.reduceEqDiff, ne_eq, reduceCtorEq, if_true, reduceIte, wipe_nil, wipe_cons, nown_un, nown_val, restO, on_nil, on_cons, gd0, gdS, kQ_nm, kQ_ex, W_kT, W_kV, W_isiN, W_trN, true_and, and_true, w_isiP, W_IZM, zmT, zmL, zmTL, zmLT, zipD, v_all0, v_all1, v_all2, w_isiS, w_isiT, w_isiB, x_neB, x_eqB, cst0, cst1, cst2, cst3, cst4, cst5, cst6, cst7, cst8, cst9, cst10, cst11, cst12, cst13, cst14, cst15, is_non, is_tup, is_str, is_int, isn_non, isn_tup, isn_str, isn_int, Int.reduceEq, Int.reduceNe, Int.reduceLT, Int.reduceLE, Int.reduceGT, Nat.reduceLeDiff, Nat.reduceLT, Nat.reduceEqDiff, List.nil_append, List.cons_append, decide_true, decide_false, forall_const, false_implies, true_implies, not_true_eq_false, Int.reduceNeg, Nat.le_refl, Nat.zero_le, W_lcL_cons, w_isi_int, w_isi_ib, Bool.not_false, Bool.and_self] | refine ⟨by decide, ?_⟩)
  exact q
end

theorem refused_W {d : D} {Q : Slot → List Slot → Prop} (q : Q (.val (.bl true)) [.val d]) : W (m__law_refused [.val d]) Q := ⟨_, _, rfl, q⟩
theorem small_W {a b c : Int} {Q : Slot → List Slot → Prop} (hb : 0 ≤ b ∧ b < 2 ^ 62) (hc : 0 ≤ c ∧ c < 2 ^ 30)
    (q : ∀ (a' c' : Int) (p : Rat), Sz 70 p → 0 ≤ c' → c' ≤ c + 4 → Q (.val (prD p)) [tp true a' b c']) : W (m__law_small [tp true a b c]) Q := by
  unfold m__law_small o__law_small
  refine W_fn rfl ?_
  show W (b__law_small _ _ [tp true a b c, .un, .un]) _
  unfold b__law_small
  repeat (first | simp -dsimp only [W_some, W_none, WO_some, WO_none, br_true, br_false, br_dec, br_not, rd_val, rd_lst, rd_dct, W_var, W_c, W_v, fz_val, fz_lst, fz_dct, W_fz, W_bin, W_binT, W_binS, W_u, W_tr, W_andT, W_orT, W_notT, asB_bl, W_andV, W_orV, W_notV, W_ifE, W_ifS, W_nil, W_cons, W_tup, W_lst, pk_val, pk_lst, pk_dct, W_ixN, W_o0, asI_int, W_o1, W_sl, W_cb, W_lenN, W_isi, W_bm, nxt_nx, nxt_bk, nxt_ct, nxt_ret, W_skip, W_seq, W_drop, W_ret, W_retN, W_ct, W_bk, W_if, wr_un, wr_val, wr_own, W_asg, G_n, Gs_0, Gs_1, G_u, W_asgG, mv_val, mv_own, W_mov, ol_lst, W_mutL, WS_nil, WS_cons, put_nil, put_cons, W_parS, WB_nil, WB_d, WB_r, ls_val, ls_own, sl_nil, sl_d, sl_r, W_call, lp_nx, lp_ct, lp_bk, lp_ret, W_for, W_forL_nil, W_ia, waL, waT, waR, waS, waD, WK_0, WK_1, W_dct, kD_nil, kD_S, oo_own, W_putX, put_lst, put_dctS, v_dictL, v_dictD, v_max3, ixK, x_eqS, x_neS, x_eqI, x_neI, inX_L, inX_T, inX_S, inX_D, sl_1T, sl_1L, sl_2T, sl_2L, List.drop_succ_cons, List.drop_zero, r1_int, W_IR1, r2_int, W_IR2, a1_one, W_IE, a2_two, W_IZ, W_lc, W_lcL_nil, W_yes, W_chT, W_inN, W_inNV, List.getElem?_cons_zero, List.getElem?_cons_succ, List.set_cons_zero, List.set_cons_succ, List.length_cons, List.length_nil, v_add, v_sub, v_mul, v_div, v_mod, v_pow, v_neg, v_abs, v_intB, v_intI, v_lt, v_le, v_gt, v_ge, v_max, v_min, v_trI, v_trB, v_lenL, v_lenT, v_lenR, lenLst, lenTup, lenRl, ixL, ixT, ixR, itL, itT, itR, lsL, lsR, blD_lt, v_list, v_tuple, v_eqS, v_neS, v_eqI, v_neI, v_app, v_rev, v_clear, v_ext, at0, at1, at2, at3, at4, at5, at6, at7, st0, st1, st2, st3, merge, lent, backAll_nil, backAll_cons, bA_un, bA_val, bA_nil, bA_d, bA_ne, bA_rv, bA_eq, List.nodup_cons, List.nodup_nil, List.not_mem_nil, not_false_eq_true, Nat.reduceAdd, Nat.reduceEqDiff, ne_eq, reduceCtorEq, if_true, reduceIte, wipe_nil, wipe_cons, nown_un, nown_val, restO, on_nil, on_cons, gd0, gdS, kQ_nm, kQ_ex, W_kT, W_kV, W_isiN, W_trN, true_and, and_true, w_isiP, W_IZM, zmT, zmL, zmTL, zmLT, zipD, v_all0, v_all1, v_all2, w_isiS, w_isiT, w_isiB, x_neB, x_eqB, cst0, cst1, cst2, cst3, cst4, cst5, cst6, cst7, cst8, cst9, cst10, cst11, cst12, cst13, cst14, cst15, is_non, is_tup, is_str, is_int, isn_non, isn_tup, isn_str, isn_int, Int.reduceEq, Int.reduceNe, Int.reduceLT, Int.reduceLE, Int.reduceGT, Nat.reduceLeDiff, Nat.reduceLT, Nat.reduceEqDiff, List.nil_append, List.cons_append, decide_true, decide_false, forall_const, false_implies, true_implies, not_true_eq_false, Int.reduceNeg, Nat.le_refl, Nat.zero_le, tp] | refine ⟨by decide, ?_⟩)
  refine draw_W hb ⟨hc.1, by omega⟩ (by decide) (by decide) fun r1 a1 c1 r10 r11 c10 c11 => ?_
  repeat (first | simp -dsimp only [W_some, W_none, WO_some, WO_none, br_true, br_false, br_dec, br_not, rd_val, rd_lst, rd_dct, W_var, W_c, W_v, fz_val, fz_lst, fz_dct, W_fz, W_bin, W_binT, W_binS, W_u, W_tr, W_andT, W_orT, W_notT, asB_bl, W_andV, W_orV, W_notV, W_ifE, W_ifS, W_nil, W_cons, W_tup, W_lst, pk_val, pk_lst, pk_dct, W_ixN, W_o0, asI_int, W_o1, W_sl, W_cb, W_lenN, W_isi, W_bm, nxt_nx, nxt_bk, nxt_ct, nxt_ret, W_skip, W_seq, W_drop, W_ret, W_retN, W_ct, W_bk, W_if, wr_un, wr_val, wr_own, W_asg, G_n, Gs_0, Gs_1, G_u, W_asgG, mv_val, mv_own, W_mov, ol_lst, W_mutL, WS_nil, WS_cons, put_nil, put_cons, W_parS, WB_nil, WB_d, WB_r, ls_val, ls_own, sl_nil, sl_d, sl_r, W_call, lp_nx, lp_ct, lp_bk, lp_ret, W_for, W_forL_nil, W_ia, waL, waT, waR, waS, waD, WK_0, WK_1, W_dct, kD_nil, kD_S, oo_own, W_putX, put_lst, put_dctS, v_dictL, v_dictD, v_max3, ixK, x_eqS, x_neS, x_eqI, x_neI, inX_L, inX_T, inX_S, inX_D, sl_1T, sl_1L, sl_2T, sl_2L, List.drop_succ_cons, List.drop_zero, r1_int, W_IR1, r2_int, W_IR2, a1_one, W_IE, a2_two, W_IZ, W_lc, W_lcL_nil, W_yes, W_chT, W_inN, W_inNV, List.getElem?_cons_zero, List.getElem?_cons_succ, List.set_cons_zero, List.set_cons_succ, List.length_cons, List.length_nil, v_add, v_sub, v_mul, v_div, v_mod, v_pow, v_neg, v_abs, v_intB, v_intI, v_lt, v_le, v_gt, v_ge, v_max, v_min, v_trI, v_trB, v_lenL, v_lenT, v_lenR, lenLst, lenTup, lenRl, ixL, ixT, ixR, itL, itT, itR, lsL, lsR, blD_lt, v_list, v_tuple, v_eqS, v_neS, v_eqI, v_neI, v_app, v_rev, v_clear, v_ext, at0, at1, at2, at3, at4, at5, at6, at7, st0, st1, st2, st3, merge, lent, backAll_nil, backAll_cons, bA_un, bA_val, bA_nil, bA_d, bA_ne, bA_rv, bA_eq, List.nodup_cons, List.nodup_nil, List.not_mem_nil, not_false_eq_true, Nat.reduceAdd, Nat.reduceEqDiff, ne_eq, reduceCtorEq, if_true, reduceIte, wipe_nil, wipe_cons, nown_un, nown_val, restO, on_nil, on_cons, gd0, gdS, kQ_nm, kQ_ex, W_kT, W_kV, W_isiN, W_trN, true_and, and_true, w_isiP, W_IZM, zmT, zmL, zmTL, zmLT, zipD, v_all0, v_all1, v_all2, w_isiS, w_isiT, w_isiB, x_neB, x_eqB, cst0, cst1, cst2, cst3, cst4, cst5, cst6, cst7, cst8, cst9, cst10, cst11, cst12, cst13, cst14, cst15, is_non, is_tup, is_str, is_int, isn_non, isn_tup, isn_str, isn_int, Int.reduceEq, Int.reduceNe, Int.reduceLT, Int.reduceLE, Int.reduceGT, Nat.reduceLeDiff, Nat.reduceLT, Nat.reduceEqDiff, List.nil_append, List.cons_append, decide_true, decide_false, forall_const, false_implies, true_implies, not_true_eq_false, Int.reduceNeg, Nat.le_refl, Nat.zero_le, tp] | refine ⟨by decide, ?_⟩)
  refine draw_W hb ⟨c10, by omega⟩ (by decide) (by decide) fun r2 a2 c2 r20 r21 c20 c21 => ?_
  repeat (first | simp -dsimp only [W_some, W_none, WO_some, WO_none, br_true, br_false, br_dec, br_not, rd_val, rd_lst, rd_dct, W_var, W_c, W_v, fz_val, fz_lst, fz_dct, W_fz, W_bin, W_binT, W_binS, W_u, W_tr, W_andT, W_orT, W_notT, asB_bl, W_andV, W_orV, W_notV, W_ifE, W_ifS, W_nil, W_cons, W_tup, W_lst, pk_val, pk_lst, pk_dct, W_ixN, W_o0, asI_int, W_o1, W_sl, W_cb, W_lenN, W_isi, W_bm, nxt_nx, nxt_bk, nxt_ct, nxt_ret, W_skip, W_seq, W_drop, W_ret, W_retN, W_ct, W_bk, W_if, wr_un, wr_val, wr_own, W_asg, G_n, Gs_0, Gs_1, G_u, W_asgG, mv_val, mv_own, W_mov, ol_lst, W_mutL, WS_nil, WS_cons, put_nil, put_cons, W_parS, WB_nil, WB_d, WB_r, ls_val, ls_own, sl_nil, sl_d, sl_r, W_call, lp_nx, lp_ct, lp_bk, lp_ret, W_for, W_forL_nil, W_ia, waL, waT, waR, waS, waD, WK_0, WK_1, W_dct, kD_nil, kD_S, oo_own, W_putX, put_lst, put_dctS, v_dictL, v_dictD, v_max3, ixK, x_eqS, x_neS, x_eqI, x_neI, inX_L, inX_T, inX_S, inX_D, sl_1T, sl_1L, sl_2T, sl_2L, List.drop_succ_cons, List.drop_zero, r1_int, W_IR1, r2_int, W_IR2, a1_one, W_IE, a2_two, W_IZ, W_lc, W_lcL_nil, W_yes, W_chT, W_inN, W_inNV, List.getElem?_cons_zero, List.getElem?_cons_succ, List.set_cons_zero, List.set_cons_succ, List.length_cons, List.length_nil, v_add, v_sub, v_mul, v_div, v_mod, v_pow, v_neg, v_abs, v_intB, v_intI, v_lt, v_le, v_gt, v_ge, v_max, v_min, v_trI, v_trB, v_lenL, v_lenT, v_lenR, lenLst, lenTup, lenRl, ixL, ixT, ixR, itL, itT, itR, lsL, lsR, blD_lt, v_list, v_tuple, v_eqS, v_neS, v_eqI, v_neI, v_app, v_rev, v_clear, v_ext, at0, at1, at2, at3, at4, at5, at6, at7, st0, st1, st2, st3, merge, lent, backAll_nil, backAll_cons, bA_un, bA_val, bA_nil, bA_d, bA_ne, bA_rv, bA_eq, List.nodup_cons, List.nodup_nil, List.not_mem_nil, not_false_eq_true, Nat.reduceAdd, Nat.reduceEqDiff, ne_eq, reduceCtorEq, if_true, reduceIte, wipe_nil, wipe_cons, nown_un, nown_val, restO, on_nil, on_cons, gd0, gdS, kQ_nm, kQ_ex, W_kT, W_kV, W_isiN, W_trN, true_and, and_true, w_isiP, W_IZM, zmT, zmL, zmTL, zmLT, zipD, v_all0, v_all1, v_all2, w_isiS, w_isiT, w_isiB, x_neB, x_eqB, cst0, cst1, cst2, cst3, cst4, cst5, cst6, cst7, cst8, cst9, cst10, cst11, cst12, cst13, cst14, cst15, is_non, is_tup, is_str, is_int, isn_non, isn_tup, isn_str, isn_int, Int.reduceEq, Int.reduceNe, Int.reduceLT, Int.reduceLE, Int.reduceGT, Nat.reduceLeDiff, Nat.reduceLT, Nat.reduceEqDiff, List.nil_append, List.cons_append, decide_true, decide_false, forall_const, false_implies, true_implies, not_true_eq_false, Int.reduceNeg, Nat.le_refl, Nat.zero_le, tp] | refine ⟨by decide, ?_⟩)
  refine W_atM (by omega) (by simp; omega) fun d hd => ?_
  have hd' : ∃ u : Int, d = .int u ∧ 1 ≤ u ∧ u ≤ 4 := by
    simp only [List.mem_cons, List.not_mem_nil, or_false] at hd
    rcases hd with rfl | rfl | rfl | rfl | rfl | rfl
    all_goals exact ⟨_, rfl, by decide, by decide⟩
  obtain ⟨u, rfl, u0, u1⟩ := hd'
  repeat (first | simp -dsimp only [W_some, W_none, WO_some, WO_none, br_true, br_false, br_dec, br_not, rd_val, rd_lst, rd_dct, W_var, W_c, W_v, fz_val, fz_lst, fz_dct, W_fz, W_bin, W_binT, W_binS, W_u, W_tr, W_andT, W_orT, W_notT, asB_bl, W_andV, W_orV, W_notV, W_ifE, W_ifS, W_nil, W_cons, W_tup, W_lst, pk_val, pk_lst, pk_dct, W_ixN, W_o0, asI_int, W_o1, W_sl, W_cb, W_lenN, W_isi, W_bm, nxt_nx, nxt_bk, nxt_ct, nxt_ret, W_skip, W_seq, W_drop, W_ret, W_retN, W_ct, W_bk, W_if, wr_un, wr_val, wr_own, W_asg, G_n, Gs_0, Gs_1, G_u, W_asgG, mv_val, mv_own, W_mov, ol_lst, W_mutL, WS_nil, WS_cons, put_nil, put_cons, W_parS, WB_nil, WB_d, WB_r, ls_val, ls_own, sl_nil, sl_d, sl_r, W_call, lp_nx, lp_ct, lp_bk, lp_ret, W_for, W_forL_nil, W_ia, waL, waT, waR, waS, waD, WK_0, WK_1, W_dct, kD_nil, kD_S, oo_own, W_putX, put_lst, put_dctS, v_dictL, v_dictD, v_max3, ixK, x_eqS, x_neS, x_eqI, x_neI, inX_L, inX_T, inX_S, inX_D, sl_1T, sl_1L, sl_2T, sl_2L, List.drop_succ_cons, List.drop_zero, r1_int, W_IR1, r2_int, W_IR2, a1_one, W_IE, a2_two, W_IZ, W_lc, W_lcL_nil, W_yes, W_chT, W_inN, W_inNV, List.getElem?_cons_zero, List.getElem?_cons_succ, List.set_cons_zero, List.set_cons_succ, List.length_cons, List.length_nil, v_add, v_sub, v_mul, v_div, v_mod, v_pow, v_neg, v_abs, v_intB, v_intI, v_lt, v_le, v_gt, v_ge, v_max, v_min, v_trI, v_trB, v_lenL, v_lenT, v_lenR, lenLst, lenTup, lenRl, ixL, ixT, ixR, itL, itT, itR, lsL, lsR, blD_lt, v_list, v_tuple, v_eqS, v_neS, v_eqI, v_neI, v_app, v_rev, v_clear, v_ext, at0, at1, at2, at3, at4, at5, at6, at7, st0, st1, st2, st3, merge, lent, backAll_nil, backAll_cons, bA_un, bA_val, bA_nil, bA_d, bA_ne, bA_rv, bA_eq, List.nodup_cons, List.nodup_nil, List.not_mem_nil, not_false_eq_true, Nat.reduceAdd, Nat.reduceEqDiff, ne_eq, reduceCtorEq, if_true, reduceIte, wipe_nil, wipe_cons, nown_un, nown_val, restO, on_nil, on_cons, gd0, gdS, kQ_nm, kQ_ex, W_kT, W_kV, W_isiN, W_trN, true_and, and_true, w_isiP, W_IZM, zmT, zmL, zmTL, zmLT, zipD, v_all0, v_all1, v_all2, w_isiS, w_isiT, w_isiB, x_neB, x_eqB, cst0, cst1, cst2, cst3, cst4, cst5, cst6, cst7, cst8, cst9, cst10, cst11, cst12, cst13, cst14, cst15, is_non, is_tup, is_str, is_int, isn_non, isn_tup, isn_str, isn_int, Int.reduceEq, Int.reduceNe, Int.reduceLT, Int.reduceLE, Int.reduceGT, Nat.reduceLeDiff, Nat.reduceLT, Nat.reduceEqDiff, List.nil_append, List.cons_append, decide_true, decide_false, forall_const, false_implies, true_implies, not_true_eq_false, Int.reduceNeg, Nat.le_refl, Nat.zero_le, tp] | refine ⟨by decide, ?_⟩)
  refine draw_W hb ⟨c20, by omega⟩ (by decide) (by decide) fun r3 a3 c3 r30 r31 c30 c31 => ?_
  repeat (first | simp -dsimp only [W_some, W_none, WO_some, WO_none, br_true, br_false, br_dec, br_not, rd_val, rd_lst, rd_dct, W_var, W_c, W_v, fz_val, fz_lst, fz_dct, W_fz, W_bin, W_binT, W_binS, W_u, W_tr, W_andT, W_orT, W_notT, asB_bl, W_andV, W_orV, W_notV, W_ifE, W_ifS, W_nil, W_cons, W_tup, W_lst, pk_val, pk_lst, pk_dct, W_ixN, W_o0, asI_int, W_o1, W_sl, W_cb, W_lenN, W_isi, W_bm, nxt_nx, nxt_bk, nxt_ct, nxt_ret, W_skip, W_seq, W_drop, W_ret, W_retN, W_ct, W_bk, W_if, wr_un, wr_val, wr_own, W_asg, G_n, Gs_0, Gs_1, G_u, W_asgG, mv_val, mv_own, W_mov, ol_lst, W_mutL, WS_nil, WS_cons, put_nil, put_cons, W_parS, WB_nil, WB_d, WB_r, ls_val, ls_own, sl_nil, sl_d, sl_r, W_call, lp_nx, lp_ct, lp_bk, lp_ret, W_for, W_forL_nil, W_ia, waL, waT, waR, waS, waD, WK_0, WK_1, W_dct, kD_nil, kD_S, oo_own, W_putX, put_lst, put_dctS, v_dictL, v_dictD, v_max3, ixK, x_eqS, x_neS, x_eqI, x_neI, inX_L, inX_T, inX_S, inX_D, sl_1T, sl_1L, sl_2T, sl_2L, List.drop_succ_cons, List.drop_zero, r1_int, W_IR1, r2_int, W_IR2, a1_one, W_IE, a2_two, W_IZ, W_lc, W_lcL_nil, W_yes, W_chT, W_inN, W_inNV, List.getElem?_cons_zero, List.getElem?_cons_succ, List.set_cons_zero, List.set_cons_succ, List.length_cons, List.length_nil, v_add, v_sub, v_mul, v_div, v_mod, v_pow, v_neg, v_abs, v_intB, v_intI, v_lt, v_le, v_gt, v_ge, v_max, v_min, v_trI, v_trB, v_lenL, v_lenT, v_lenR, lenLst, lenTup, lenRl, ixL, ixT, ixR, itL, itT, itR, lsL, lsR, blD_lt, v_list, v_tuple, v_eqS, v_neS, v_eqI, v_neI, v_app, v_rev, v_clear, v_ext, at0, at1, at2, at3, at4, at5, at6, at7, st0, st1, st2, st3, merge, lent, backAll_nil, backAll_cons, bA_un, bA_val, bA_nil, bA_d, bA_ne, bA_rv, bA_eq, List.nodup_cons, List.nodup_nil, List.not_mem_nil, not_false_eq_true, Nat.reduceAdd, Nat.reduceEqDiff, ne_eq, reduceCtorEq, if_true, reduceIte, wipe_nil, wipe_cons, nown_un, nown_val, restO, on_nil, on_cons, gd0, gdS, kQ_nm, kQ_ex, W_kT, W_kV, W_isiN, W_trN, true_and, and_true, w_isiP, W_IZM, zmT, zmL, zmTL, zmLT, zipD, v_all0, v_all1, v_all2, w_isiS, w_isiT, w_isiB, x_neB, x_eqB, cst0, cst1, cst2, cst3, cst4, cst5, cst6, cst7, cst8, cst9, cst10, cst11, cst12, cst13, cst14, cst15, is_non, is_tup, is_str, is_int, isn_non, isn_tup, isn_str, isn_int, Int.reduceEq, Int.reduceNe, Int.reduceLT, Int.reduceLE, Int.reduceGT, Nat.reduceLeDiff, Nat.reduceLT, Nat.reduceEqDiff, List.nil_append, List.cons_append, decide_true, decide_false, forall_const, false_implies, true_implies, not_true_eq_false, Int.reduceNeg, Nat.le_refl, Nat.zero_le, tp] | refine ⟨by decide, ?_⟩)
  refine ⟨fun _ => ⟨by decide, by decide, by decide, ?_⟩, fun _ => ?_⟩
  · refine draw_W hb ⟨c30, by omega⟩ (by decide) (by decide) fun r4 a4 c4 r40 r41 c40 c41 => ?_
    repeat (first | simp -dsimp only [W_some, W_none, WO_some, WO_none, br_true, br_false, br_dec, br_not, rd_val, rd_lst, rd_dct, W_var, W_c, W_v, fz_val, fz_lst, fz_dct, W_fz, W_bin, W_binT, W_binS, W_u, W_tr, W_andT, W_orT, W_notT, asB_bl, W_andV, W_orV, W_notV, W_ifE, W_ifS, W_nil, W_cons, W_tup, W_lst, pk_val, pk_lst, pk_dct, W_ixN, W_o0, asI_int, W_o1, W_sl, W_cb, W_lenN, W_isi, W_bm, nxt_nx, nxt_bk, nxt_ct, nxt_ret, W_skip, W_seq, W_drop, W_ret, W_retN, W_ct, W_bk, W_if, wr_un, wr_val, wr_own, W_asg, G_n, Gs_0, Gs_1, G_u, W_asgG, mv_val, mv_own, W_mov, ol_lst, W_mutL, WS_nil, WS_cons, put_nil, put_cons, W_parS, WB_nil, WB_d, WB_r, ls_val, ls_own, sl_nil, sl_d, sl_r, W_call, lp_nx, lp_ct, lp_bk, lp_ret, W_for, W_forL_nil, W_ia, waL, waT, waR, waS, waD, WK_0, WK_1, W_dct, kD_nil, kD_S, oo_own, W_putX, put_lst, put_dctS, v_dictL, v_dictD, v_max3, ixK, x_eqS, x_neS, x_eqI, x_neI, inX_L, inX_T, inX_S, inX_D, sl_1T, sl_1L, sl_2T, sl_2L, List.drop_succ_cons, List.drop_zero, r1_int, W_IR1, r2_int, W_IR2, a1_one, W_IE, a2_two, W_IZ, W_lc, W_lcL_nil, W_yes, W_chT, W_inN, W_inNV, List.getElem?_cons_zero, List.getElem?_cons_succ, List.set_cons_zero, List.set_cons_succ, List.length_cons, List.length_nil, v_add, v_sub, v_mul, v_div, v_mod, v_pow, v_neg, v_abs, v_intB, v_intI, v_lt, v_le, v_gt, v_ge, v_max, v_min, v_trI, v_trB, v_lenL, v_lenT, v_lenR, lenLst, lenTup, lenRl, ixL, ixT, ixR, itL, itT, itR, lsL, lsR, blD_lt, v_list, v_tuple, v_eqS, v_neS, v_eqI, v_neI, v_app, v_rev, v_clear, v_ext, at0, at1, at2, at3, at4, at5, at6, at7, st0, st1, st2, st3, merge, lent, backAll_nil, backAll_cons, bA_un, bA_val, bA_nil, bA_d, bA_ne, bA_rv, bA_eq, List.nodup_cons, List.nodup_nil, List.not_mem_nil, not_false_eq_true, Nat.reduceAdd, Nat.reduceEqDiff, ne_eq, reduceCtorEq, if_true, reduceIte, wipe_nil, wipe_cons, nown_un, nown_val, restO, on_nil, on_cons, gd0, gdS, kQ_nm, kQ_ex, W_kT, W_kV, W_isiN, W_trN, true_and, and_true, w_isiP, W_IZM, zmT, zmL, zmTL, zmLT, zipD, v_all0, v_all1, v_all2, w_isiS, w_isiT, w_isiB, x_neB, x_eqB, cst0, cst1, cst2, cst3, cst4, cst5, cst6, cst7, cst8, cst9, cst10, cst11, cst12, cst13, cst14, cst15, is_non, is_tup, is_str, is_int, isn_non, isn_tup, isn_str, isn_int, Int.reduceEq, Int.reduceNe, Int.reduceLT, Int.reduceLE, Int.reduceGT, Nat.reduceLeDiff, Nat.reduceLT, Nat.reduceEqDiff, List.nil_append, List.cons_append, decide_true, decide_false, forall_const, false_implies, true_implies, not_true_eq_false, Int.reduceNeg, Nat.le_refl, Nat.zero_le, tp] | refine ⟨by decide, ?_⟩)
    refine W_atM (by omega) (by simp; omega) fun d hd => ?_
    have e19 : (10 : Int) ^ Int.toNat 19 = 10000000000000000000 := by decide
    have e20 : (10 : Int) ^ Int.toNat 20 = 100000000000000000000 := by decide
    have hd' : ∃ t : Int, d = .int t ∧ t.natAbs < 2 ^ 70 := by
      rw [e19, e20] at hd
      simp only [List.mem_cons, List.not_mem_nil, or_false] at hd
      rcases hd with rfl | rfl | rfl
      · exact ⟨_, rfl, by omega⟩
      · exact ⟨_, rfl, by omega⟩
      · exact ⟨_, rfl, by omega⟩
    obtain ⟨t, rfl, ht⟩ := hd'
    repeat (first | simp -dsimp only [W_some, W_none, WO_some, WO_none, br_true, br_false, br_dec, br_not, rd_val, rd_lst, rd_dct, W_var, W_c, W_v, fz_val, fz_lst, fz_dct, W_fz, W_bin, W_binT, W_binS, W_u, W_tr, W_andT, W_orT, W_notT, asB_bl, W_andV, W_orV, W_notV, W_ifE, W_ifS, W_nil, W_cons, W_tup, W_lst, pk_val, pk_lst, pk_dct, W_ixN, W_o0, asI_int, W_o1, W_sl, W_cb, W_lenN, W_isi, W_bm, nxt_nx, nxt_bk, nxt_ct, nxt_ret, W_skip, W_seq, W_drop, W_ret, W_retN, W_ct, W_bk, W_if, wr_un, wr_val, wr_own, W_asg, G_n, Gs_0, Gs_1, G_u, W_asgG, mv_val, mv_own, W_mov, ol_lst, W_mutL, WS_nil, WS_cons, put_nil, put_cons, W_parS, WB_nil, WB_d, WB_r, ls_val, ls_own, sl_nil, sl_d, sl_r, W_call, lp_nx, lp_ct, lp_bk, lp_ret, W_for, W_forL_nil, W_ia, waL, waT, waR, waS, waD, WK_0, WK_1, W_dct, kD_nil, kD_S, oo_own, W_putX, put_lst, put_dctS, v_dictL, v_dictD, v_max3, ixK, x_eqS, x_neS, x_eqI, x_neI, inX_L, inX_T, inX_S, inX_D, sl_1T, sl_1L, sl_2T, sl_2L, List.drop_succ_cons, List.drop_zero, r1_int, W_IR1, r2_int, W_IR2, a1_one, W_IE, a2_two, W_IZ, W_lc, W_lcL_nil, W_yes, W_chT, W_inN, W_inNV, List.getElem?_cons_zero, List.getElem?_cons_succ, List.set_cons_zero, List.set_cons_succ, List.length_cons, List.length_nil, v_add, v_sub, v_mul, v_div, v_mod, v_pow, v_neg, v_abs, v_intB, v_intI, v_lt, v_le, v_gt, v_ge, v_max, v_min, v_trI, v_trB, v_lenL, v_lenT, v_lenR, lenLst, lenTup, lenRl, ixL, ixT, ixR, itL, itT, itR, lsL, lsR, blD_lt, v_list, v_tuple, v_eqS, v_neS, v_eqI, v_neI, v_app, v_rev, v_clear, v_ext, at0, at1, at2, at3, at4, at5, at6, at7, st0, st1, st2, st3, merge, lent, backAll_nil, backAll_cons, bA_un, bA_val, bA_nil, bA_d, bA_ne, bA_rv, bA_eq, List.nodup_cons, List.nodup_nil, List.not_mem_nil, not_false_eq_true, Nat.reduceAdd, Nat.reduceEqDiff, ne_eq, reduceCtorEq, if_true, reduceIte, wipe_nil, wipe_cons, nown_un, nown_val, restO, on_nil, on_cons, gd0, gdS, kQ_nm, kQ_ex, W_kT, W_kV, W_isiN, W_trN, true_and, and_true, w_isiP, W_IZM, zmT, zmL, zmTL, zmLT, zipD, v_all0, v_all1, v_all2, w_isiS, w_isiT, w_isiB, x_neB, x_eqB, cst0, cst1, cst2, cst3, cst4, cst5, cst6, cst7, cst8, cst9, cst10, cst11, cst12, cst13, cst14, cst15, is_non, is_tup, is_str, is_int, isn_non, isn_tup, isn_str, isn_int, Int.reduceEq, Int.reduceNe, Int.reduceLT, Int.reduceLE, Int.reduceGT, Nat.reduceLeDiff, Nat.reduceLT, Nat.reduceEqDiff, List.nil_append, List.cons_append, decide_true, decide_false, forall_const, false_implies, true_implies, not_true_eq_false, Int.reduceNeg, Nat.le_refl, Nat.zero_le, tp] | refine ⟨by decide, ?_⟩)
    refine pairL_W (k := 70) (by omega) ht (by omega) (by decide) fun sz => ?_
    walk_at "go"
    exact q _ _ _ sz c40 (by omega)
  · refine pairL_W (k := 70) (by omega) (by omega) (by omega) (by decide) fun sz => ?_
    walk_at "go"
    exact q _ _ _ sz c30 (by omega)
theorem v_addP {p r : Rat} {S : Slot → Prop} : WO (addS (prD p) (prD r)) S ↔ S (.val (.tup [.int p.num, .int p.den, .int r.num, .int r.den])) := by
  show WO (addS (.tup [.int p.num, .int p.den]) (.tup [.int r.num, .int r.den])) S ↔ _
  rw [v_addT]
  exact ⟨fun h => h.2, fun h => ⟨(by decide : 4 ≤ szL), h⟩⟩
/-- |p| -/
def mag (p : Rat) : Rat := if p < 0 then -p else p
theorem mag_nn {p : Rat} : 0 ≤ mag p := by
  unfold mag
  split <;> grind
theorem mag_sq {p : Rat} : mag p * mag p = p * p := by
  unfold mag
  split <;> grind
theorem mag_sz {p : Rat} {a : Nat} (h : Sz a p) : Sz a (mag p) := by
  unfold mag
  split
  · exact h.neg
  · exact h
theorem mag_pr {p : Rat} : D.tup [.int (if p.num < 0 then -p.num else p.num), .int p.den] = prD (mag p) := by
  unfold mag
  have hn : p.num < 0 ↔ p < 0 := by
    have h1 : 0 ≤ p.num ↔ 0 ≤ p := Rat.num_nonneg
    constructor
    · intro h
      have : ¬ 0 ≤ p := fun x => by have := h1.mpr x; omega
      grind
    · intro h
      have : ¬ 0 ≤ p.num := fun x => by have := h1.mp x; grind
      omega
  by_cases h : p < 0
  · rw [if_pos h, if_pos (hn.mpr h)]
    rfl
  · rw [if_neg h, if_neg (fun e => h (hn.mp e))]
    rfl
theorem quo_divInt (p r : Rat) : Rat.divInt (p.num * r.den) (p.den * r.num) = p * r⁻¹ := by
  have h := Rat.divInt_mul_divInt p.num r.den (d₁ := (p.den : Int)) (d₂ := r.num)
  rw [divInt_self, ← Rat.inv_def] at h
  exact h.symm
theorem bd1 {p r : Rat} {a c : Nat} (hp : Sz a p) (hr : Sz c r) : (p.num * (r.den : Int)).natAbs < 2 ^ (a + c) := by
  rw [Int.natAbs_mul]
  exact mul_lt2 hp.1 hr.2
theorem bd2 {p r : Rat} {a c : Nat} (hp : Sz a p) (hr : Sz c r) : ((p.den : Int) * r.den).natAbs < 2 ^ (a + c) := by
  rw [Int.natAbs_mul]
  exact mul_lt2 hp.2 hr.2
theorem bd3 {p r : Rat} {a c : Nat} (hp : Sz a p) (hr : Sz c r) : (p.num * r.num).natAbs < 2 ^ (a + c) := by
  rw [Int.natAbs_mul]
  exact mul_lt2 hp.1 hr.1
theorem v_allT3 {S : Slot → Prop} : WO (allF [.lst [.bl true, .bl true, .bl true]]) S ↔ S (.val (.bl true)) := v_all (bs := [true, true, true])
theorem v_allT4 {S : Slot → Prop} : WO (allF [.lst [.bl true, .bl true, .bl true, .bl true]]) S ↔ S (.val (.bl true)) := v_all (bs := [true, true, true, true])
/-- what is due: a fraction, its parts unreduced -/
def Due (x : Rat × Int × Int) : Prop := x.2.2 ≠ 0 ∧ x.2.1.natAbs < 2 ^ 150 ∧ x.2.2.natAbs < 2 ^ 150 ∧ Rat.divInt x.2.1 x.2.2 = x.1
def dueD (x : Rat × Int × Int) : D := .tup [prD x.1, .tup [.int x.2.1, .int x.2.2]]
theorem dues_W {s0 s1 s2 s3 s4 s5 s6 s7 s8 s9 s10 s11 : Slot} {Q : List D → Rho → Prop} (xs : List (Rat × Int × Int)) (hl : xs.length ≤ 100) (h : ∀ x ∈ xs, Due x) (q : Q (xs.map fun _ => .bl true) [s0, s1, s2, s3, s4, s5, s6, s7, s8, s9, s10, s11, .un, .un]) :
    W (mLcL [12, 13] (mgU 2 (mgs1 (mgN 12) (mgs1 (mgN 13) mgs0))) mYes (mFz (mCall 2 m__law_same (mbD (mVar 12) (mbD (mFz (mCall 2 m__law_pair (mbD (mIxN 13 (mC (.int 0))) (mbD (mIxN 13 (mC (.int 1))) mbNil)))) mbNil)))) (xs.map dueD) [] [s0, s1, s2, s3, s4, s5, s6, s7, s8, s9, s10, s11, .un, .un]) Q := by
  refine W_lcL_inv (fun rest acc ρ => ∃ done todo : List (Rat × Int × Int), xs = done ++ todo ∧ rest = todo.map dueD ∧ acc = done.map (fun _ => D.bl true) ∧ ρ = [s0, s1, s2, s3, s4, s5, s6, s7, s8, s9, s10, s11, .un, .un]) (fun acc ρ h => ?_) (fun d rest acc ρ h => ?_) _ _ _ ⟨[], xs, rfl, rfl, rfl, rfl⟩
  · obtain ⟨done, todo, e1, e2, rfl, rfl⟩ := h
    have t0 : todo = [] := by
      cases todo with
      | nil => rfl
      | cons _ _ => cases e2
    subst t0
    rw [List.append_nil] at e1
    subst e1
    exact q
  · obtain ⟨done, todo, e1, e2, rfl, rfl⟩ := h
    cases todo with
    | nil => cases e2
    | cons x todo =>
      rw [List.map_cons] at e2
      injection e2 with h1 h2
      subst h1 h2
      obtain ⟨n0, b1, b2, e⟩ := h x (by rw [e1]; simp)
      unfold dueD
      walk_at "go"
      refine pairL_W (k := 150) n0 b1 b2 (by decide) fun _ => ?_
      rw [e]
      walk_at "go"
      refine same_W ?_
      walk_at "go"
      have ll : xs.length = done.length + (todo.length + 1) := by rw [e1]; simp
      refine ⟨by rw [List.length_map]; unfold szL; omega, done ++ [x], todo, by rw [e1]; simp, rfl, by simp⟩
/-! ### the law -/
theorem law_ok : lawOk m_law := by
  intro ns hns
  have key : W (m_law [.val (.rl (ns.map D.int))]) fun s _ => s = .val (.bl true) := by
    unfold m_law o_law
    refine W_fn rfl ?_
    show W (b_law _ _ _ _ _ _ _ _ _ _ _ _ [.val (.rl (ns.map D.int)), .un, .un, .un, .un, .un, .un, .un, .un, .un, .un, .un, .un, .un]) _
    unfold b_law
    walk_at "go"
    have b1 : -2 ^ 62 ≤ (1 + if ((List.map D.int ns).length : Int) < 6 then ((List.map D.int ns).length : Int) else 6) ∧ (1 + if ((List.map D.int ns).length : Int) < 6 then ((List.map D.int ns).length : Int) else 6) ≤ 7 := by
      constructor <;> (split <;> omega)
    refine ⟨b1.1, by omega, ?_⟩
    have b2 := b1.2
    generalize (1 + if ((List.map D.int ns).length : Int) < 6 then ((List.map D.int ns).length : Int) else 6) = many at b2 ⊢
    refine W_forR (fun i ρ => ∃ (s1 s2 s3 s4 s5 s6 s7 s8 s9 s10 s11 : Slot), ρ = [.val (.rl (ns.map D.int)), s1, s2, s3, s4, s5, s6, s7, s8, s9, s10, s11, .un, .un] ∧ Wr s1 ∧ Wr s2 ∧ Wr s3 ∧ Wr s4 ∧ Wr s5 ∧ Wr s6 ∧ Wr s7 ∧ Wr s8 ∧ Wr s9 ∧ Wr s10 ∧ Wr s11) (fun ρ h => ?_) (fun i ρ hi h => ?_) ⟨_, _, _, _, _, _, _, _, _, _, _, rfl, trivial, trivial, trivial, trivial, trivial, trivial, trivial, trivial, trivial, trivial, trivial⟩
    · obtain ⟨s1, s2, s3, s4, s5, s6, s7, s8, s9, s10, s11, rfl, _⟩ := h
      walk_at "go"
    · obtain ⟨s1, s2, s3, s4, s5, s6, s7, s8, s9, s10, s11, rfl, w1, w2, w3, w4, w5, w6, w7, w8, w9, w10, w11⟩ := h
      repeat (first | simp -dsimp only [W_some, W_none, WO_some, WO_none, br_true, br_false, br_dec, br_not, rd_val, rd_lst, rd_dct, W_var, W_c, W_v, fz_val, fz_lst, fz_dct, W_fz, W_bin, W_binT, W_binS, W_u, W_tr, W_andT, W_orT, W_notT, asB_bl, W_andV, W_orV, W_notV, W_ifE, W_ifS, W_nil, W_cons, W_tup, W_lst, pk_val, pk_lst, pk_dct, W_ixN, W_o0, asI_int, W_o1, W_sl, W_cb, W_lenN, W_isi, W_bm, nxt_nx, nxt_bk, nxt_ct, nxt_ret, W_skip, W_seq, W_drop, W_ret, W_retN, W_ct, W_bk, W_if, wr_un, wr_val, wr_own, W_asg, G_n, Gs_0, Gs_1, G_u, W_asgG, mv_val, mv_own, W_mov, ol_lst, W_mutL, WS_nil, WS_cons, put_nil, put_cons, W_parS, WB_nil, WB_d, WB_r, ls_val, ls_own, sl_nil, sl_d, sl_r, W_call, lp_nx, lp_ct, lp_bk, lp_ret, W_for, W_forL_nil, W_ia, waL, waT, waR, waS, waD, WK_0, WK_1, W_dct, kD_nil, kD_S, oo_own, W_putX, put_lst, put_dctS, v_dictL, v_dictD, v_max3, ixK, x_eqS, x_neS, x_eqI, x_neI, inX_L, inX_T, inX_S, inX_D, sl_1T, sl_1L, sl_2T, sl_2L, List.drop_succ_cons, List.drop_zero, r1_int, W_IR1, r2_int, W_IR2, a1_one, W_IE, a2_two, W_IZ, W_lc, W_lcL_nil, W_yes, W_chT, W_inN, W_inNV, List.getElem?_cons_zero, List.getElem?_cons_succ, List.set_cons_zero, List.set_cons_succ, List.length_cons, List.length_nil, v_add, v_sub, v_mul, v_div, v_mod, v_pow, v_neg, v_abs, v_intB, v_intI, v_lt, v_le, v_gt, v_ge, v_max, v_min, v_trI, v_trB, v_lenL, v_lenT, v_lenR, lenLst, lenTup, lenRl, ixL, ixT, ixR, itL, itT, itR, lsL, lsR, blD_lt, v_list, v_tuple, v_eqS, v_neS, v_eqI, v_neI, v_app, v_rev, v_clear, v_ext, at0, at1, at2, at3, at4, at5, at6, at7, st0, st1, st2, st3, merge, lent, backAll_nil, backAll_cons, bA_un, bA_val, bA_nil, bA_d, bA_ne, bA_rv, bA_eq, List.nodup_cons, List.nodup_nil, List.not_mem_nil, not_false_eq_true, Nat.reduceAdd, Nat.reduceEqDiff, ne_eq, reduceCtorEq, if_true, reduceIte, wipe_nil, wipe_cons, nown_un, nown_val, restO, on_nil, on_cons, gd0, gdS, kQ_nm, kQ_ex, W_kT, W_kV, W_isiN, W_trN, true_and, and_true, w_isiP, W_IZM, zmT, zmL, zmTL, zmLT, zipD, v_all0, v_all1, v_all2, w_isiS, w_isiT, w_isiB, x_neB, x_eqB, cst0, cst1, cst2, cst3, cst4, cst5, cst6, cst7, cst8, cst9, cst10, cst11, cst12, cst13, cst14, cst15, is_non, is_tup, is_str, is_int, isn_non, isn_tup, isn_str, isn_int, Int.reduceEq, Int.reduceNe, Int.reduceLT, Int.reduceLE, Int.reduceGT, Nat.reduceLeDiff, Nat.reduceLT, Nat.reduceEqDiff, List.nil_append, List.cons_append, decide_true, decide_false, forall_const, false_implies, true_implies, not_true_eq_false, Int.reduceNeg, Nat.le_refl, Nat.zero_le, wr_wr, w1, w2] | refine ⟨by decide, ?_⟩)
      refine begun_W (by omega) (by omega) fun a b b0 b1 => ?_
      repeat (first | simp -dsimp only [W_some, W_none, WO_some, WO_none, br_true, br_false, br_dec, br_not, rd_val, rd_lst, rd_dct, W_var, W_c, W_v, fz_val, fz_lst, fz_dct, W_fz, W_bin, W_binT, W_binS, W_u, W_tr, W_andT, W_orT, W_notT, asB_bl, W_andV, W_orV, W_notV, W_ifE, W_ifS, W_nil, W_cons, W_tup, W_lst, pk_val, pk_lst, pk_dct, W_ixN, W_o0, asI_int, W_o1, W_sl, W_cb, W_lenN, W_isi, W_bm, nxt_nx, nxt_bk, nxt_ct, nxt_ret, W_skip, W_seq, W_drop, W_ret, W_retN, W_ct, W_bk, W_if, wr_un, wr_val, wr_own, W_asg, G_n, Gs_0, Gs_1, G_u, W_asgG, mv_val, mv_own, W_mov, ol_lst, W_mutL, WS_nil, WS_cons, put_nil, put_cons, W_parS, WB_nil, WB_d, WB_r, ls_val, ls_own, sl_nil, sl_d, sl_r, W_call, lp_nx, lp_ct, lp_bk, lp_ret, W_for, W_forL_nil, W_ia, waL, waT, waR, waS, waD, WK_0, WK_1, W_dct, kD_nil, kD_S, oo_own, W_putX, put_lst, put_dctS, v_dictL, v_dictD, v_max3, ixK, x_eqS, x_neS, x_eqI, x_neI, inX_L, inX_T, inX_S, inX_D, sl_1T, sl_1L, sl_2T, sl_2L, List.drop_succ_cons, List.drop_zero, r1_int, W_IR1, r2_int, W_IR2, a1_one, W_IE, a2_two, W_IZ, W_lc, W_lcL_nil, W_yes, W_chT, W_inN, W_inNV, List.getElem?_cons_zero, List.getElem?_cons_succ, List.set_cons_zero, List.set_cons_succ, List.length_cons, List.length_nil, v_add, v_sub, v_mul, v_div, v_mod, v_pow, v_neg, v_abs, v_intB, v_intI, v_lt, v_le, v_gt, v_ge, v_max, v_min, v_trI, v_trB, v_lenL, v_lenT, v_lenR, lenLst, lenTup, lenRl, ixL, ixT, ixR, itL, itT, itR, lsL, lsR, blD_lt, v_list, v_tuple, v_eqS, v_neS, v_eqI, v_neI, v_app, v_rev, v_clear, v_ext, at0, at1, at2, at3, at4, at5, at6, at7, st0, st1, st2, st3, merge, lent, backAll_nil, backAll_cons, bA_un, bA_val, bA_nil, bA_d, bA_ne, bA_rv, bA_eq, List.nodup_cons, List.nodup_nil, List.not_mem_nil, not_false_eq_true, Nat.reduceAdd, Nat.reduceEqDiff, ne_eq, reduceCtorEq, if_true, reduceIte, wipe_nil, wipe_cons, nown_un, nown_val, restO, on_nil, on_cons, gd0, gdS, kQ_nm, kQ_ex, W_kT, W_kV, W_isiN, W_trN, true_and, and_true, w_isiP, W_IZM, zmT, zmL, zmTL, zmLT, zipD, v_all0, v_all1, v_all2, w_isiS, w_isiT, w_isiB, x_neB, x_eqB, cst0, cst1, cst2, cst3, cst4, cst5, cst6, cst7, cst8, cst9, cst10, cst11, cst12, cst13, cst14, cst15, is_non, is_tup, is_str, is_int, isn_non, isn_tup, isn_str, isn_int, Int.reduceEq, Int.reduceNe, Int.reduceLT, Int.reduceLE, Int.reduceGT, Nat.reduceLeDiff, Nat.reduceLT, Nat.reduceEqDiff, List.nil_append, List.cons_append, decide_true, decide_false, forall_const, false_implies, true_implies, not_true_eq_false, Int.reduceNeg, Nat.le_refl, Nat.zero_le, wr_wr, w2] | refine ⟨by decide, ?_⟩)
      have e6 : (10 : Int) ^ Int.toNat 6 = 1000000 := by decide
      have e12 : (10 : Int) ^ Int.toNat 12 = 1000000000000 := by decide
      rw [e6]
      refine draw_W ⟨b0, b1⟩ (by decide) (by decide) (by decide) fun r1 a1 c1 r10 r11 c10 c11 => ?_
      repeat (first | simp -dsimp only [W_some, W_none, WO_some, WO_none, br_true, br_false, br_dec, br_not, rd_val, rd_lst, rd_dct, W_var, W_c, W_v, fz_val, fz_lst, fz_dct, W_fz, W_bin, W_binT, W_binS, W_u, W_tr, W_andT, W_orT, W_notT, asB_bl, W_andV, W_orV, W_notV, W_ifE, W_ifS, W_nil, W_cons, W_tup, W_lst, pk_val, pk_lst, pk_dct, W_ixN, W_o0, asI_int, W_o1, W_sl, W_cb, W_lenN, W_isi, W_bm, nxt_nx, nxt_bk, nxt_ct, nxt_ret, W_skip, W_seq, W_drop, W_ret, W_retN, W_ct, W_bk, W_if, wr_un, wr_val, wr_own, W_asg, G_n, Gs_0, Gs_1, G_u, W_asgG, mv_val, mv_own, W_mov, ol_lst, W_mutL, WS_nil, WS_cons, put_nil, put_cons, W_parS, WB_nil, WB_d, WB_r, ls_val, ls_own, sl_nil, sl_d, sl_r, W_call, lp_nx, lp_ct, lp_bk, lp_ret, W_for, W_forL_nil, W_ia, waL, waT, waR, waS, waD, WK_0, WK_1, W_dct, kD_nil, kD_S, oo_own, W_putX, put_lst, put_dctS, v_dictL, v_dictD, v_max3, ixK, x_eqS, x_neS, x_eqI, x_neI, inX_L, inX_T, inX_S, inX_D, sl_1T, sl_1L, sl_2T, sl_2L, List.drop_succ_cons, List.drop_zero, r1_int, W_IR1, r2_int, W_IR2, a1_one, W_IE, a2_two, W_IZ, W_lc, W_lcL_nil, W_yes, W_chT, W_inN, W_inNV, List.getElem?_cons_zero, List.getElem?_cons_succ, List.set_cons_zero, List.set_cons_succ, List.length_cons, List.length_nil, v_add, v_sub, v_mul, v_div, v_mod, v_pow, v_neg, v_abs, v_intB, v_intI, v_lt, v_le, v_gt, v_ge, v_max, v_min, v_trI, v_trB, v_lenL, v_lenT, v_lenR, lenLst, lenTup, lenRl, ixL, ixT, ixR, itL, itT, itR, lsL, lsR, blD_lt, v_list, v_tuple, v_eqS, v_neS, v_eqI, v_neI, v_app, v_rev, v_clear, v_ext, at0, at1, at2, at3, at4, at5, at6, at7, st0, st1, st2, st3, merge, lent, backAll_nil, backAll_cons, bA_un, bA_val, bA_nil, bA_d, bA_ne, bA_rv, bA_eq, List.nodup_cons, List.nodup_nil, List.not_mem_nil, not_false_eq_true, Nat.reduceAdd, Nat.reduceEqDiff, ne_eq, reduceCtorEq, if_true, reduceIte, wipe_nil, wipe_cons, nown_un, nown_val, restO, on_nil, on_cons, gd0, gdS, kQ_nm, kQ_ex, W_kT, W_kV, W_isiN, W_trN, true_and, and_true, w_isiP, W_IZM, zmT, zmL, zmTL, zmLT, zipD, v_all0, v_all1, v_all2, w_isiS, w_isiT, w_isiB, x_neB, x_eqB, cst0, cst1, cst2, cst3, cst4, cst5, cst6, cst7, cst8, cst9, cst10, cst11, cst12, cst13, cst14, cst15, is_non, is_tup, is_str, is_int, isn_non, isn_tup, isn_str, isn_int, Int.reduceEq, Int.reduceNe, Int.reduceLT, Int.reduceLE, Int.reduceGT, Nat.reduceLeDiff, Nat.reduceLT, Nat.reduceEqDiff, List.nil_append, List.cons_append, decide_true, decide_false, forall_const, false_implies, true_implies, not_true_eq_false, Int.reduceNeg, Nat.le_refl, Nat.zero_le, wr_wr, w3, w4] | refine ⟨by decide, ?_⟩)
      refine draw_W ⟨b0, b1⟩ ⟨c10, by omega⟩ (by decide) (by decide) fun r2 a2 c2 r20 r21 c20 c21 => ?_
      repeat (first | simp -dsimp only [W_some, W_none, WO_some, WO_none, br_true, br_false, br_dec, br_not, rd_val, rd_lst, rd_dct, W_var, W_c, W_v, fz_val, fz_lst, fz_dct, W_fz, W_bin, W_binT, W_binS, W_u, W_tr, W_andT, W_orT, W_notT, asB_bl, W_andV, W_orV, W_notV, W_ifE, W_ifS, W_nil, W_cons, W_tup, W_lst, pk_val, pk_lst, pk_dct, W_ixN, W_o0, asI_int, W_o1, W_sl, W_cb, W_lenN, W_isi, W_bm, nxt_nx, nxt_bk, nxt_ct, nxt_ret, W_skip, W_seq, W_drop, W_ret, W_retN, W_ct, W_bk, W_if, wr_un, wr_val, wr_own, W_asg, G_n, Gs_0, Gs_1, G_u, W_asgG, mv_val, mv_own, W_mov, ol_lst, W_mutL, WS_nil, WS_cons, put_nil, put_cons, W_parS, WB_nil, WB_d, WB_r, ls_val, ls_own, sl_nil, sl_d, sl_r, W_call, lp_nx, lp_ct, lp_bk, lp_ret, W_for, W_forL_nil, W_ia, waL, waT, waR, waS, waD, WK_0, WK_1, W_dct, kD_nil, kD_S, oo_own, W_putX, put_lst, put_dctS, v_dictL, v_dictD, v_max3, ixK, x_eqS, x_neS, x_eqI, x_neI, inX_L, inX_T, inX_S, inX_D, sl_1T, sl_1L, sl_2T, sl_2L, List.drop_succ_cons, List.drop_zero, r1_int, W_IR1, r2_int, W_IR2, a1_one, W_IE, a2_two, W_IZ, W_lc, W_lcL_nil, W_yes, W_chT, W_inN, W_inNV, List.getElem?_cons_zero, List.getElem?_cons_succ, List.set_cons_zero, List.set_cons_succ, List.length_cons, List.length_nil, v_add, v_sub, v_mul, v_div, v_mod, v_pow, v_neg, v_abs, v_intB, v_intI, v_lt, v_le, v_gt, v_ge, v_max, v_min, v_trI, v_trB, v_lenL, v_lenT, v_lenR, lenLst, lenTup, lenRl, ixL, ixT, ixR, itL, itT, itR, lsL, lsR, blD_lt, v_list, v_tuple, v_eqS, v_neS, v_eqI, v_neI, v_app, v_rev, v_clear, v_ext, at0, at1, at2, at3, at4, at5, at6, at7, st0, st1, st2, st3, merge, lent, backAll_nil, backAll_cons, bA_un, bA_val, bA_nil, bA_d, bA_ne, bA_rv, bA_eq, List.nodup_cons, List.nodup_nil, List.not_mem_nil, not_false_eq_true, Nat.reduceAdd, Nat.reduceEqDiff, ne_eq, reduceCtorEq, if_true, reduceIte, wipe_nil, wipe_cons, nown_un, nown_val, restO, on_nil, on_cons, gd0, gdS, kQ_nm, kQ_ex, W_kT, W_kV, W_isiN, W_trN, true_and, and_true, w_isiP, W_IZM, zmT, zmL, zmTL, zmLT, zipD, v_all0, v_all1, v_all2, w_isiS, w_isiT, w_isiB, x_neB, x_eqB, cst0, cst1, cst2, cst3, cst4, cst5, cst6, cst7, cst8, cst9, cst10, cst11, cst12, cst13, cst14, cst15, is_non, is_tup, is_str, is_int, isn_non, isn_tup, isn_str, isn_int, Int.reduceEq, Int.reduceNe, Int.reduceLT, Int.reduceLE, Int.reduceGT, Nat.reduceLeDiff, Nat.reduceLT, Nat.reduceEqDiff, List.nil_append, List.cons_append, decide_true, decide_false, forall_const, false_implies, true_implies, not_true_eq_false, Int.reduceNeg, Nat.le_refl, Nat.zero_le, wr_wr, w3, w4] | refine ⟨by decide, ?_⟩)
      refine W_atM (by omega) (by simp; omega) fun dd hd => ?_
      have hd' : ∃ u : Int, dd = .int u ∧ u ≠ 0 ∧ u.natAbs < 2 ^ 60 := by
        rw [e12] at hd
        simp only [List.mem_cons, List.not_mem_nil, or_false] at hd
        rcases hd with rfl | rfl | rfl | rfl | rfl | rfl
        all_goals exact ⟨_, rfl, by decide, by decide⟩
      obtain ⟨u, rfl, u0, u1⟩ := hd'
      repeat (first | simp -dsimp only [W_some, W_none, WO_some, WO_none, br_true, br_false, br_dec, br_not, rd_val, rd_lst, rd_dct, W_var, W_c, W_v, fz_val, fz_lst, fz_dct, W_fz, W_bin, W_binT, W_binS, W_u, W_tr, W_andT, W_orT, W_notT, asB_bl, W_andV, W_orV, W_notV, W_ifE, W_ifS, W_nil, W_cons, W_tup, W_lst, pk_val, pk_lst, pk_dct, W_ixN, W_o0, asI_int, W_o1, W_sl, W_cb, W_lenN, W_isi, W_bm, nxt_nx, nxt_bk, nxt_ct, nxt_ret, W_skip, W_seq, W_drop, W_ret, W_retN, W_ct, W_bk, W_if, wr_un, wr_val, wr_own, W_asg, G_n, Gs_0, Gs_1, G_u, W_asgG, mv_val, mv_own, W_mov, ol_lst, W_mutL, WS_nil, WS_cons, put_nil, put_cons, W_parS, WB_nil, WB_d, WB_r, ls_val, ls_own, sl_nil, sl_d, sl_r, W_call, lp_nx, lp_ct, lp_bk, lp_ret, W_for, W_forL_nil, W_ia, waL, waT, waR, waS, waD, WK_0, WK_1, W_dct, kD_nil, kD_S, oo_own, W_putX, put_lst, put_dctS, v_dictL, v_dictD, v_max3, ixK, x_eqS, x_neS, x_eqI, x_neI, inX_L, inX_T, inX_S, inX_D, sl_1T, sl_1L, sl_2T, sl_2L, List.drop_succ_cons, List.drop_zero, r1_int, W_IR1, r2_int, W_IR2, a1_one, W_IE, a2_two, W_IZ, W_lc, W_lcL_nil, W_yes, W_chT, W_inN, W_inNV, List.getElem?_cons_zero, List.getElem?_cons_succ, List.set_cons_zero, List.set_cons_succ, List.length_cons, List.length_nil, v_add, v_sub, v_mul, v_div, v_mod, v_pow, v_neg, v_abs, v_intB, v_intI, v_lt, v_le, v_gt, v_ge, v_max, v_min, v_trI, v_trB, v_lenL, v_lenT, v_lenR, lenLst, lenTup, lenRl, ixL, ixT, ixR, itL, itT, itR, lsL, lsR, blD_lt, v_list, v_tuple, v_eqS, v_neS, v_eqI, v_neI, v_app, v_rev, v_clear, v_ext, at0, at1, at2, at3, at4, at5, at6, at7, st0, st1, st2, st3, merge, lent, backAll_nil, backAll_cons, bA_un, bA_val, bA_nil, bA_d, bA_ne, bA_rv, bA_eq, List.nodup_cons, List.nodup_nil, List.not_mem_nil, not_false_eq_true, Nat.reduceAdd, Nat.reduceEqDiff, ne_eq, reduceCtorEq, if_true, reduceIte, wipe_nil, wipe_cons, nown_un, nown_val, restO, on_nil, on_cons, gd0, gdS, kQ_nm, kQ_ex, W_kT, W_kV, W_isiN, W_trN, true_and, and_true, w_isiP, W_IZM, zmT, zmL, zmTL, zmLT, zipD, v_all0, v_all1, v_all2, w_isiS, w_isiT, w_isiB, x_neB, x_eqB, cst0, cst1, cst2, cst3, cst4, cst5, cst6, cst7, cst8, cst9, cst10, cst11, cst12, cst13, cst14, cst15, is_non, is_tup, is_str, is_int, isn_non, isn_tup, isn_str, isn_int, Int.reduceEq, Int.reduceNe, Int.reduceLT, Int.reduceLE, Int.reduceGT, Nat.reduceLeDiff, Nat.reduceLT, Nat.reduceEqDiff, List.nil_append, List.cons_append, decide_true, decide_false, forall_const, false_implies, true_implies, not_true_eq_false, Int.reduceNeg, Nat.le_refl, Nat.zero_le, wr_wr, w3, w4] | refine ⟨by decide, ?_⟩)
      refine fraction_W (k := 60) u0 (by omega) u1 (by decide) ?_
      walk_at "go"
      refine pairL_W (k := 60) u0 (by omega) u1 (by decide) fun _ => ?_
      walk_at "go"
      refine same_W ?_
      repeat (first | simp -dsimp only [W_some, W_none, WO_some, WO_none, br_true, br_false, br_dec, br_not, rd_val, rd_lst, rd_dct, W_var, W_c, W_v, fz_val, fz_lst, fz_dct, W_fz, W_bin, W_binT, W_binS, W_u, W_tr, W_andT, W_orT, W_notT, asB_bl, W_andV, W_orV, W_notV, W_ifE, W_ifS, W_nil, W_cons, W_tup, W_lst, pk_val, pk_lst, pk_dct, W_ixN, W_o0, asI_int, W_o1, W_sl, W_cb, W_lenN, W_isi, W_bm, nxt_nx, nxt_bk, nxt_ct, nxt_ret, W_skip, W_seq, W_drop, W_ret, W_retN, W_ct, W_bk, W_if, wr_un, wr_val, wr_own, W_asg, G_n, Gs_0, Gs_1, G_u, W_asgG, mv_val, mv_own, W_mov, ol_lst, W_mutL, WS_nil, WS_cons, put_nil, put_cons, W_parS, WB_nil, WB_d, WB_r, ls_val, ls_own, sl_nil, sl_d, sl_r, W_call, lp_nx, lp_ct, lp_bk, lp_ret, W_for, W_forL_nil, W_ia, waL, waT, waR, waS, waD, WK_0, WK_1, W_dct, kD_nil, kD_S, oo_own, W_putX, put_lst, put_dctS, v_dictL, v_dictD, v_max3, ixK, x_eqS, x_neS, x_eqI, x_neI, inX_L, inX_T, inX_S, inX_D, sl_1T, sl_1L, sl_2T, sl_2L, List.drop_succ_cons, List.drop_zero, r1_int, W_IR1, r2_int, W_IR2, a1_one, W_IE, a2_two, W_IZ, W_lc, W_lcL_nil, W_yes, W_chT, W_inN, W_inNV, List.getElem?_cons_zero, List.getElem?_cons_succ, List.set_cons_zero, List.set_cons_succ, List.length_cons, List.length_nil, v_add, v_sub, v_mul, v_div, v_mod, v_pow, v_neg, v_abs, v_intB, v_intI, v_lt, v_le, v_gt, v_ge, v_max, v_min, v_trI, v_trB, v_lenL, v_lenT, v_lenR, lenLst, lenTup, lenRl, ixL, ixT, ixR, itL, itT, itR, lsL, lsR, blD_lt, v_list, v_tuple, v_eqS, v_neS, v_eqI, v_neI, v_app, v_rev, v_clear, v_ext, at0, at1, at2, at3, at4, at5, at6, at7, st0, st1, st2, st3, merge, lent, backAll_nil, backAll_cons, bA_un, bA_val, bA_nil, bA_d, bA_ne, bA_rv, bA_eq, List.nodup_cons, List.nodup_nil, List.not_mem_nil, not_false_eq_true, Nat.reduceAdd, Nat.reduceEqDiff, ne_eq, reduceCtorEq, if_true, reduceIte, wipe_nil, wipe_cons, nown_un, nown_val, restO, on_nil, on_cons, gd0, gdS, kQ_nm, kQ_ex, W_kT, W_kV, W_isiN, W_trN, true_and, and_true, w_isiP, W_IZM, zmT, zmL, zmTL, zmLT, zipD, v_all0, v_all1, v_all2, w_isiS, w_isiT, w_isiB, x_neB, x_eqB, cst0, cst1, cst2, cst3, cst4, cst5, cst6, cst7, cst8, cst9, cst10, cst11, cst12, cst13, cst14, cst15, is_non, is_tup, is_str, is_int, isn_non, isn_tup, isn_str, isn_int, Int.reduceEq, Int.reduceNe, Int.reduceLT, Int.reduceLE, Int.reduceGT, Nat.reduceLeDiff, Nat.reduceLT, Nat.reduceEqDiff, List.nil_append, List.cons_append, decide_true, decide_false, forall_const, false_implies, true_implies, not_true_eq_false, Int.reduceNeg, Nat.le_refl, Nat.zero_le, Bool.not_true, wr_wr, w5, w6] | refine ⟨by decide, ?_⟩)
      refine small_W ⟨b0, b1⟩ ⟨c20, by omega⟩ fun a3 c3 p sp c30 c31 => ?_
      repeat (first | simp -dsimp only [W_some, W_none, WO_some, WO_none, br_true, br_false, br_dec, br_not, rd_val, rd_lst, rd_dct, W_var, W_c, W_v, fz_val, fz_lst, fz_dct, W_fz, W_bin, W_binT, W_binS, W_u, W_tr, W_andT, W_orT, W_notT, asB_bl, W_andV, W_orV, W_notV, W_ifE, W_ifS, W_nil, W_cons, W_tup, W_lst, pk_val, pk_lst, pk_dct, W_ixN, W_o0, asI_int, W_o1, W_sl, W_cb, W_lenN, W_isi, W_bm, nxt_nx, nxt_bk, nxt_ct, nxt_ret, W_skip, W_seq, W_drop, W_ret, W_retN, W_ct, W_bk, W_if, wr_un, wr_val, wr_own, W_asg, G_n, Gs_0, Gs_1, G_u, W_asgG, mv_val, mv_own, W_mov, ol_lst, W_mutL, WS_nil, WS_cons, put_nil, put_cons, W_parS, WB_nil, WB_d, WB_r, ls_val, ls_own, sl_nil, sl_d, sl_r, W_call, lp_nx, lp_ct, lp_bk, lp_ret, W_for, W_forL_nil, W_ia, waL, waT, waR, waS, waD, WK_0, WK_1, W_dct, kD_nil, kD_S, oo_own, W_putX, put_lst, put_dctS, v_dictL, v_dictD, v_max3, ixK, x_eqS, x_neS, x_eqI, x_neI, inX_L, inX_T, inX_S, inX_D, sl_1T, sl_1L, sl_2T, sl_2L, List.drop_succ_cons, List.drop_zero, r1_int, W_IR1, r2_int, W_IR2, a1_one, W_IE, a2_two, W_IZ, W_lc, W_lcL_nil, W_yes, W_chT, W_inN, W_inNV, List.getElem?_cons_zero, List.getElem?_cons_succ, List.set_cons_zero, List.set_cons_succ, List.length_cons, List.length_nil, v_add, v_sub, v_mul, v_div, v_mod, v_pow, v_neg, v_abs, v_intB, v_intI, v_lt, v_le, v_gt, v_ge, v_max, v_min, v_trI, v_trB, v_lenL, v_lenT, v_lenR, lenLst, lenTup, lenRl, ixL, ixT, ixR, itL, itT, itR, lsL, lsR, blD_lt, v_list, v_tuple, v_eqS, v_neS, v_eqI, v_neI, v_app, v_rev, v_clear, v_ext, at0, at1, at2, at3, at4, at5, at6, at7, st0, st1, st2, st3, merge, lent, backAll_nil, backAll_cons, bA_un, bA_val, bA_nil, bA_d, bA_ne, bA_rv, bA_eq, List.nodup_cons, List.nodup_nil, List.not_mem_nil, not_false_eq_true, Nat.reduceAdd, Nat.reduceEqDiff, ne_eq, reduceCtorEq, if_true, reduceIte, wipe_nil, wipe_cons, nown_un, nown_val, restO, on_nil, on_cons, gd0, gdS, kQ_nm, kQ_ex, W_kT, W_kV, W_isiN, W_trN, true_and, and_true, w_isiP, W_IZM, zmT, zmL, zmTL, zmLT, zipD, v_all0, v_all1, v_all2, w_isiS, w_isiT, w_isiB, x_neB, x_eqB, cst0, cst1, cst2, cst3, cst4, cst5, cst6, cst7, cst8, cst9, cst10, cst11, cst12, cst13, cst14, cst15, is_non, is_tup, is_str, is_int, isn_non, isn_tup, isn_str, isn_int, Int.reduceEq, Int.reduceNe, Int.reduceLT, Int.reduceLE, Int.reduceGT, Nat.reduceLeDiff, Nat.reduceLT, Nat.reduceEqDiff, List.nil_append, List.cons_append, decide_true, decide_false, forall_const, false_implies, true_implies, not_true_eq_false, Int.reduceNeg, Nat.le_refl, Nat.zero_le, tp, wr_wr, w5, w6] | refine ⟨by decide, ?_⟩)
      refine small_W ⟨b0, b1⟩ ⟨c30, by omega⟩ fun a4 c4 r sr c40 c41 => ?_
      repeat (first | simp -dsimp only [W_some, W_none, WO_some, WO_none, br_true, br_false, br_dec, br_not, rd_val, rd_lst, rd_dct, W_var, W_c, W_v, fz_val, fz_lst, fz_dct, W_fz, W_bin, W_binT, W_binS, W_u, W_tr, W_andT, W_orT, W_notT, asB_bl, W_andV, W_orV, W_notV, W_ifE, W_ifS, W_nil, W_cons, W_tup, W_lst, pk_val, pk_lst, pk_dct, W_ixN, W_o0, asI_int, W_o1, W_sl, W_cb, W_lenN, W_isi, W_bm, nxt_nx, nxt_bk, nxt_ct, nxt_ret, W_skip, W_seq, W_drop, W_ret, W_retN, W_ct, W_bk, W_if, wr_un, wr_val, wr_own, W_asg, G_n, Gs_0, Gs_1, G_u, W_asgG, mv_val, mv_own, W_mov, ol_lst, W_mutL, WS_nil, WS_cons, put_nil, put_cons, W_parS, WB_nil, WB_d, WB_r, ls_val, ls_own, sl_nil, sl_d, sl_r, W_call, lp_nx, lp_ct, lp_bk, lp_ret, W_for, W_forL_nil, W_ia, waL, waT, waR, waS, waD, WK_0, WK_1, W_dct, kD_nil, kD_S, oo_own, W_putX, put_lst, put_dctS, v_dictL, v_dictD, v_max3, ixK, x_eqS, x_neS, x_eqI, x_neI, inX_L, inX_T, inX_S, inX_D, sl_1T, sl_1L, sl_2T, sl_2L, List.drop_succ_cons, List.drop_zero, r1_int, W_IR1, r2_int, W_IR2, a1_one, W_IE, a2_two, W_IZ, W_lc, W_lcL_nil, W_yes, W_chT, W_inN, W_inNV, List.getElem?_cons_zero, List.getElem?_cons_succ, List.set_cons_zero, List.set_cons_succ, List.length_cons, List.length_nil, v_add, v_sub, v_mul, v_div, v_mod, v_pow, v_neg, v_abs, v_intB, v_intI, v_lt, v_le, v_gt, v_ge, v_max, v_min, v_trI, v_trB, v_lenL, v_lenT, v_lenR, lenLst, lenTup, lenRl, ixL, ixT, ixR, itL, itT, itR, lsL, lsR, blD_lt, v_list, v_tuple, v_eqS, v_neS, v_eqI, v_neI, v_app, v_rev, v_clear, v_ext, at0, at1, at2, at3, at4, at5, at6, at7, st0, st1, st2, st3, merge, lent, backAll_nil, backAll_cons, bA_un, bA_val, bA_nil, bA_d, bA_ne, bA_rv, bA_eq, List.nodup_cons, List.nodup_nil, List.not_mem_nil, not_false_eq_true, Nat.reduceAdd, Nat.reduceEqDiff, ne_eq, reduceCtorEq, if_true, reduceIte, wipe_nil, wipe_cons, nown_un, nown_val, restO, on_nil, on_cons, gd0, gdS, kQ_nm, kQ_ex, W_kT, W_kV, W_isiN, W_trN, true_and, and_true, w_isiP, W_IZM, zmT, zmL, zmTL, zmLT, zipD, v_all0, v_all1, v_all2, w_isiS, w_isiT, w_isiB, x_neB, x_eqB, cst0, cst1, cst2, cst3, cst4, cst5, cst6, cst7, cst8, cst9, cst10, cst11, cst12, cst13, cst14, cst15, is_non, is_tup, is_str, is_int, isn_non, isn_tup, isn_str, isn_int, Int.reduceEq, Int.reduceNe, Int.reduceLT, Int.reduceLE, Int.reduceGT, Nat.reduceLeDiff, Nat.reduceLT, Nat.reduceEqDiff, List.nil_append, List.cons_append, decide_true, decide_false, forall_const, false_implies, true_implies, not_true_eq_false, Int.reduceNeg, Nat.le_refl, Nat.zero_le, tp, wr_wr, w5, w6, v_addP, w7, w8, w9, w10, w11] | refine ⟨by decide, ?_⟩)
      have m1 : mulSm p.num r.den = true := mulSm_b sp.1 (by rw [Int.natAbs_natCast]; exact sr.2) (by decide) (by decide) (by decide)
      have m2 : mulSm r.num p.den = true := mulSm_b sr.1 (by rw [Int.natAbs_natCast]; exact sp.2) (by decide) (by decide) (by decide)
      have m3 : mulSm p.den r.den = true := mulSm_b (by rw [Int.natAbs_natCast]; exact sp.2) (by rw [Int.natAbs_natCast]; exact sr.2) (by decide) (by decide) (by decide)
      have m4 : mulSm p.num r.num = true := mulSm_b sp.1 sr.1 (by decide) (by decide) (by decide)
      have m5 : mulSm p.den r.num = true := mulSm_b (by rw [Int.natAbs_natCast]; exact sp.2) sr.1 (by decide) (by decide) (by decide)
      refine plus_W sp sr (by decide) ?_
      repeat (first | simp -dsimp only [W_some, W_none, WO_some, WO_none, br_true, br_false, br_dec, br_not, rd_val, rd_lst, rd_dct, W_var, W_c, W_v, fz_val, fz_lst, fz_dct, W_fz, W_bin, W_binT, W_binS, W_u, W_tr, W_andT, W_orT, W_notT, asB_bl, W_andV, W_orV, W_notV, W_ifE, W_ifS, W_nil, W_cons, W_tup, W_lst, pk_val, pk_lst, pk_dct, W_ixN, W_o0, asI_int, W_o1, W_sl, W_cb, W_lenN, W_isi, W_bm, nxt_nx, nxt_bk, nxt_ct, nxt_ret, W_skip, W_seq, W_drop, W_ret, W_retN, W_ct, W_bk, W_if, wr_un, wr_val, wr_own, W_asg, G_n, Gs_0, Gs_1, G_u, W_asgG, mv_val, mv_own, W_mov, ol_lst, W_mutL, WS_nil, WS_cons, put_nil, put_cons, W_parS, WB_nil, WB_d, WB_r, ls_val, ls_own, sl_nil, sl_d, sl_r, W_call, lp_nx, lp_ct, lp_bk, lp_ret, W_for, W_forL_nil, W_ia, waL, waT, waR, waS, waD, WK_0, WK_1, W_dct, kD_nil, kD_S, oo_own, W_putX, put_lst, put_dctS, v_dictL, v_dictD, v_max3, ixK, x_eqS, x_neS, x_eqI, x_neI, inX_L, inX_T, inX_S, inX_D, sl_1T, sl_1L, sl_2T, sl_2L, List.drop_succ_cons, List.drop_zero, r1_int, W_IR1, r2_int, W_IR2, a1_one, W_IE, a2_two, W_IZ, W_lc, W_lcL_nil, W_yes, W_chT, W_inN, W_inNV, List.getElem?_cons_zero, List.getElem?_cons_succ, List.set_cons_zero, List.set_cons_succ, List.length_cons, List.length_nil, v_add, v_sub, v_mul, v_div, v_mod, v_pow, v_neg, v_abs, v_intB, v_intI, v_lt, v_le, v_gt, v_ge, v_max, v_min, v_trI, v_trB, v_lenL, v_lenT, v_lenR, lenLst, lenTup, lenRl, ixL, ixT, ixR, itL, itT, itR, lsL, lsR, blD_lt, v_list, v_tuple, v_eqS, v_neS, v_eqI, v_neI, v_app, v_rev, v_clear, v_ext, at0, at1, at2, at3, at4, at5, at6, at7, st0, st1, st2, st3, merge, lent, backAll_nil, backAll_cons, bA_un, bA_val, bA_nil, bA_d, bA_ne, bA_rv, bA_eq, List.nodup_cons, List.nodup_nil, List.not_mem_nil, not_false_eq_true, Nat.reduceAdd, Nat.reduceEqDiff, ne_eq, reduceCtorEq, if_true, reduceIte, wipe_nil, wipe_cons, nown_un, nown_val, restO, on_nil, on_cons, gd0, gdS, kQ_nm, kQ_ex, W_kT, W_kV, W_isiN, W_trN, true_and, and_true, w_isiP, W_IZM, zmT, zmL, zmTL, zmLT, zipD, v_all0, v_all1, v_all2, w_isiS, w_isiT, w_isiB, x_neB, x_eqB, cst0, cst1, cst2, cst3, cst4, cst5, cst6, cst7, cst8, cst9, cst10, cst11, cst12, cst13, cst14, cst15, is_non, is_tup, is_str, is_int, isn_non, isn_tup, isn_str, isn_int, Int.reduceEq, Int.reduceNe, Int.reduceLT, Int.reduceLE, Int.reduceGT, Nat.reduceLeDiff, Nat.reduceLT, Nat.reduceEqDiff, List.nil_append, List.cons_append, decide_true, decide_false, forall_const, false_implies, true_implies, not_true_eq_false, Int.reduceNeg, Nat.le_refl, Nat.zero_le, m1, m2, m3, m4, m5] | refine ⟨by decide, ?_⟩)
      refine minus_W sp sr (by decide) ?_
      repeat (first | simp -dsimp only [W_some, W_none, WO_some, WO_none, br_true, br_false, br_dec, br_not, rd_val, rd_lst, rd_dct, W_var, W_c, W_v, fz_val, fz_lst, fz_dct, W_fz, W_bin, W_binT, W_binS, W_u, W_tr, W_andT, W_orT, W_notT, asB_bl, W_andV, W_orV, W_notV, W_ifE, W_ifS, W_nil, W_cons, W_tup, W_lst, pk_val, pk_lst, pk_dct, W_ixN, W_o0, asI_int, W_o1, W_sl, W_cb, W_lenN, W_isi, W_bm, nxt_nx, nxt_bk, nxt_ct, nxt_ret, W_skip, W_seq, W_drop, W_ret, W_retN, W_ct, W_bk, W_if, wr_un, wr_val, wr_own, W_asg, G_n, Gs_0, Gs_1, G_u, W_asgG, mv_val, mv_own, W_mov, ol_lst, W_mutL, WS_nil, WS_cons, put_nil, put_cons, W_parS, WB_nil, WB_d, WB_r, ls_val, ls_own, sl_nil, sl_d, sl_r, W_call, lp_nx, lp_ct, lp_bk, lp_ret, W_for, W_forL_nil, W_ia, waL, waT, waR, waS, waD, WK_0, WK_1, W_dct, kD_nil, kD_S, oo_own, W_putX, put_lst, put_dctS, v_dictL, v_dictD, v_max3, ixK, x_eqS, x_neS, x_eqI, x_neI, inX_L, inX_T, inX_S, inX_D, sl_1T, sl_1L, sl_2T, sl_2L, List.drop_succ_cons, List.drop_zero, r1_int, W_IR1, r2_int, W_IR2, a1_one, W_IE, a2_two, W_IZ, W_lc, W_lcL_nil, W_yes, W_chT, W_inN, W_inNV, List.getElem?_cons_zero, List.getElem?_cons_succ, List.set_cons_zero, List.set_cons_succ, List.length_cons, List.length_nil, v_add, v_sub, v_mul, v_div, v_mod, v_pow, v_neg, v_abs, v_intB, v_intI, v_lt, v_le, v_gt, v_ge, v_max, v_min, v_trI, v_trB, v_lenL, v_lenT, v_lenR, lenLst, lenTup, lenRl, ixL, ixT, ixR, itL, itT, itR, lsL, lsR, blD_lt, v_list, v_tuple, v_eqS, v_neS, v_eqI, v_neI, v_app, v_rev, v_clear, v_ext, at0, at1, at2, at3, at4, at5, at6, at7, st0, st1, st2, st3, merge, lent, backAll_nil, backAll_cons, bA_un, bA_val, bA_nil, bA_d, bA_ne, bA_rv, bA_eq, List.nodup_cons, List.nodup_nil, List.not_mem_nil, not_false_eq_true, Nat.reduceAdd, Nat.reduceEqDiff, ne_eq, reduceCtorEq, if_true, reduceIte, wipe_nil, wipe_cons, nown_un, nown_val, restO, on_nil, on_cons, gd0, gdS, kQ_nm, kQ_ex, W_kT, W_kV, W_isiN, W_trN, true_and, and_true, w_isiP, W_IZM, zmT, zmL, zmTL, zmLT, zipD, v_all0, v_all1, v_all2, w_isiS, w_isiT, w_isiB, x_neB, x_eqB, cst0, cst1, cst2, cst3, cst4, cst5, cst6, cst7, cst8, cst9, cst10, cst11, cst12, cst13, cst14, cst15, is_non, is_tup, is_str, is_int, isn_non, isn_tup, isn_str, isn_int, Int.reduceEq, Int.reduceNe, Int.reduceLT, Int.reduceLE, Int.reduceGT, Nat.reduceLeDiff, Nat.reduceLT, Nat.reduceEqDiff, List.nil_append, List.cons_append, decide_true, decide_false, forall_const, false_implies, true_implies, not_true_eq_false, Int.reduceNeg, Nat.le_refl, Nat.zero_le, m1, m2, m3, m4, m5, wr_wr, w11] | refine ⟨by decide, ?_⟩)
      refine times_W sp sr (by decide) ?_
      repeat (first | simp -dsimp only [W_some, W_none, WO_some, WO_none, br_true, br_false, br_dec, br_not, rd_val, rd_lst, rd_dct, W_var, W_c, W_v, fz_val, fz_lst, fz_dct, W_fz, W_bin, W_binT, W_binS, W_u, W_tr, W_andT, W_orT, W_notT, asB_bl, W_andV, W_orV, W_notV, W_ifE, W_ifS, W_nil, W_cons, W_tup, W_lst, pk_val, pk_lst, pk_dct, W_ixN, W_o0, asI_int, W_o1, W_sl, W_cb, W_lenN, W_isi, W_bm, nxt_nx, nxt_bk, nxt_ct, nxt_ret, W_skip, W_seq, W_drop, W_ret, W_retN, W_ct, W_bk, W_if, wr_un, wr_val, wr_own, W_asg, G_n, Gs_0, Gs_1, G_u, W_asgG, mv_val, mv_own, W_mov, ol_lst, W_mutL, WS_nil, WS_cons, put_nil, put_cons, W_parS, WB_nil, WB_d, WB_r, ls_val, ls_own, sl_nil, sl_d, sl_r, W_call, lp_nx, lp_ct, lp_bk, lp_ret, W_for, W_forL_nil, W_ia, waL, waT, waR, waS, waD, WK_0, WK_1, W_dct, kD_nil, kD_S, oo_own, W_putX, put_lst, put_dctS, v_dictL, v_dictD, v_max3, ixK, x_eqS, x_neS, x_eqI, x_neI, inX_L, inX_T, inX_S, inX_D, sl_1T, sl_1L, sl_2T, sl_2L, List.drop_succ_cons, List.drop_zero, r1_int, W_IR1, r2_int, W_IR2, a1_one, W_IE, a2_two, W_IZ, W_lc, W_lcL_nil, W_yes, W_chT, W_inN, W_inNV, List.getElem?_cons_zero, List.getElem?_cons_succ, List.set_cons_zero, List.set_cons_succ, List.length_cons, List.length_nil, v_add, v_sub, v_mul, v_div, v_mod, v_pow, v_neg, v_abs, v_intB, v_intI, v_lt, v_le, v_gt, v_ge, v_max, v_min, v_trI, v_trB, v_lenL, v_lenT, v_lenR, lenLst, lenTup, lenRl, ixL, ixT, ixR, itL, itT, itR, lsL, lsR, blD_lt, v_list, v_tuple, v_eqS, v_neS, v_eqI, v_neI, v_app, v_rev, v_clear, v_ext, at0, at1, at2, at3, at4, at5, at6, at7, st0, st1, st2, st3, merge, lent, backAll_nil, backAll_cons, bA_un, bA_val, bA_nil, bA_d, bA_ne, bA_rv, bA_eq, List.nodup_cons, List.nodup_nil, List.not_mem_nil, not_false_eq_true, Nat.reduceAdd, Nat.reduceEqDiff, ne_eq, reduceCtorEq, if_true, reduceIte, wipe_nil, wipe_cons, nown_un, nown_val, restO, on_nil, on_cons, gd0, gdS, kQ_nm, kQ_ex, W_kT, W_kV, W_isiN, W_trN, true_and, and_true, w_isiP, W_IZM, zmT, zmL, zmTL, zmLT, zipD, v_all0, v_all1, v_all2, w_isiS, w_isiT, w_isiB, x_neB, x_eqB, cst0, cst1, cst2, cst3, cst4, cst5, cst6, cst7, cst8, cst9, cst10, cst11, cst12, cst13, cst14, cst15, is_non, is_tup, is_str, is_int, isn_non, isn_tup, isn_str, isn_int, Int.reduceEq, Int.reduceNe, Int.reduceLT, Int.reduceLE, Int.reduceGT, Nat.reduceLeDiff, Nat.reduceLT, Nat.reduceEqDiff, List.nil_append, List.cons_append, decide_true, decide_false, forall_const, false_implies, true_implies, not_true_eq_false, Int.reduceNeg, Nat.le_refl, Nat.zero_le, m1, m2, m3, m4, m5, wr_wr, w11] | refine ⟨by decide, ?_⟩)
      have B1 : (p.num * (r.den : Int) + r.num * (p.den : Int)).natAbs < 2 ^ 150 := by
        have h1 := bd1 sp sr
        have h2 := bd1 sr sp
        have h3 := Int.natAbs_add_le (p.num * (r.den : Int)) (r.num * (p.den : Int))
        omega
      have B2 : (p.num * (r.den : Int) - r.num * (p.den : Int)).natAbs < 2 ^ 150 := by
        have h1 := bd1 sp sr
        have h2 := bd1 sr sp
        have h3 := Int.natAbs_sub_le (p.num * (r.den : Int)) (r.num * (p.den : Int))
        omega
      have B3 : ((p.den : Int) * r.den).natAbs < 2 ^ 150 := by
        have h1 := bd2 sp sr
        omega
      have B4 : (p.num * r.num).natAbs < 2 ^ 150 := by
        have h1 := bd3 sp sr
        omega
      have B5 : (p.num * (r.den : Int)).natAbs < 2 ^ 150 := by
        have h1 := bd1 sp sr
        omega
      have B6 : ((p.den : Int) * r.num).natAbs < 2 ^ 150 := by
        have h1 := bd1 sr sp
        rw [Int.mul_comm]
        omega
      have D1 : Due (p + r, p.num * (r.den : Int) + r.num * (p.den : Int), (p.den : Int) * r.den) := ⟨dens_ne p r, B1, B3, add_divInt p r⟩
      have D2 : Due (p - r, p.num * (r.den : Int) - r.num * (p.den : Int), (p.den : Int) * r.den) := ⟨dens_ne p r, B2, B3, sub_divInt p r⟩
      have D3 : Due (p * r, p.num * r.num, (p.den : Int) * r.den) := ⟨dens_ne p r, B4, B3, mul_divInt p r⟩
      refine ⟨fun r0 => ?_, fun r0 => ?_⟩
      · refine dues_W [(p + r, p.num * (r.den : Int) + r.num * (p.den : Int), (p.den : Int) * r.den), (p - r, p.num * (r.den : Int) - r.num * (p.den : Int), (p.den : Int) * r.den), (p * r, p.num * r.num, (p.den : Int) * r.den)] (by simp) (fun x hx => ?_) ?_
        · simp only [List.mem_cons, List.not_mem_nil, or_false] at hx
          rcases hx with rfl | rfl | rfl
          · exact D1
          · exact D2
          · exact D3
        repeat (first | simp -dsimp only [W_some, W_none, WO_some, WO_none, br_true, br_false, br_dec, br_not, rd_val, rd_lst, rd_dct, W_var, W_c, W_v, fz_val, fz_lst, fz_dct, W_fz, W_bin, W_binT, W_binS, W_u, W_tr, W_andT, W_orT, W_notT, asB_bl, W_andV, W_orV, W_notV, W_ifE, W_ifS, W_nil, W_cons, W_tup, W_lst, pk_val, pk_lst, pk_dct, W_ixN, W_o0, asI_int, W_o1, W_sl, W_cb, W_lenN, W_isi, W_bm, nxt_nx, nxt_bk, nxt_ct, nxt_ret, W_skip, W_seq, W_drop, W_ret, W_retN, W_ct, W_bk, W_if, wr_un, wr_val, wr_own, W_asg, G_n, Gs_0, Gs_1, G_u, W_asgG, mv_val, mv_own, W_mov, ol_lst, W_mutL, WS_nil, WS_cons, put_nil, put_cons, W_parS, WB_nil, WB_d, WB_r, ls_val, ls_own, sl_nil, sl_d, sl_r, W_call, lp_nx, lp_ct, lp_bk, lp_ret, W_for, W_forL_nil, W_ia, waL, waT, waR, waS, waD, WK_0, WK_1, W_dct, kD_nil, kD_S, oo_own, W_putX, put_lst, put_dctS, v_dictL, v_dictD, v_max3, ixK, x_eqS, x_neS, x_eqI, x_neI, inX_L, inX_T, inX_S, inX_D, sl_1T, sl_1L, sl_2T, sl_2L, List.drop_succ_cons, List.drop_zero, r1_int, W_IR1, r2_int, W_IR2, a1_one, W_IE, a2_two, W_IZ, W_lc, W_lcL_nil, W_yes, W_chT, W_inN, W_inNV, List.getElem?_cons_zero, List.getElem?_cons_succ, List.set_cons_zero, List.set_cons_succ, List.length_cons, List.length_nil, v_add, v_sub, v_mul, v_div, v_mod, v_pow, v_neg, v_abs, v_intB, v_intI, v_lt, v_le, v_gt, v_ge, v_max, v_min, v_trI, v_trB, v_lenL, v_lenT, v_lenR, lenLst, lenTup, lenRl, ixL, ixT, ixR, itL, itT, itR, lsL, lsR, blD_lt, v_list, v_tuple, v_eqS, v_neS, v_eqI, v_neI, v_app, v_rev, v_clear, v_ext, at0, at1, at2, at3, at4, at5, at6, at7, st0, st1, st2, st3, merge, lent, backAll_nil, backAll_cons, bA_un, bA_val, bA_nil, bA_d, bA_ne, bA_rv, bA_eq, List.nodup_cons, List.nodup_nil, List.not_mem_nil, not_false_eq_true, Nat.reduceAdd, Nat.reduceEqDiff, ne_eq, reduceCtorEq, if_true, reduceIte, wipe_nil, wipe_cons, nown_un, nown_val, restO, on_nil, on_cons, gd0, gdS, kQ_nm, kQ_ex, W_kT, W_kV, W_isiN, W_trN, true_and, and_true, w_isiP, W_IZM, zmT, zmL, zmTL, zmLT, zipD, v_all0, v_all1, v_all2, w_isiS, w_isiT, w_isiB, x_neB, x_eqB, cst0, cst1, cst2, cst3, cst4, cst5, cst6, cst7, cst8, cst9, cst10, cst11, cst12, cst13, cst14, cst15, is_non, is_tup, is_str, is_int, isn_non, isn_tup, isn_str, isn_int, Int.reduceEq, Int.reduceNe, Int.reduceLT, Int.reduceLE, Int.reduceGT, Nat.reduceLeDiff, Nat.reduceLT, Nat.reduceEqDiff, List.nil_append, List.cons_append, decide_true, decide_false, forall_const, false_implies, true_implies, not_true_eq_false, Int.reduceNeg, Nat.le_refl, Nat.zero_le, List.map_cons, List.map_nil, v_allT3, Bool.not_true] | refine ⟨by decide, ?_⟩)
        refine refused_W ?_
        repeat (first | simp -dsimp only [W_some, W_none, WO_some, WO_none, br_true, br_false, br_dec, br_not, rd_val, rd_lst, rd_dct, W_var, W_c, W_v, fz_val, fz_lst, fz_dct, W_fz, W_bin, W_binT, W_binS, W_u, W_tr, W_andT, W_orT, W_notT, asB_bl, W_andV, W_orV, W_notV, W_ifE, W_ifS, W_nil, W_cons, W_tup, W_lst, pk_val, pk_lst, pk_dct, W_ixN, W_o0, asI_int, W_o1, W_sl, W_cb, W_lenN, W_isi, W_bm, nxt_nx, nxt_bk, nxt_ct, nxt_ret, W_skip, W_seq, W_drop, W_ret, W_retN, W_ct, W_bk, W_if, wr_un, wr_val, wr_own, W_asg, G_n, Gs_0, Gs_1, G_u, W_asgG, mv_val, mv_own, W_mov, ol_lst, W_mutL, WS_nil, WS_cons, put_nil, put_cons, W_parS, WB_nil, WB_d, WB_r, ls_val, ls_own, sl_nil, sl_d, sl_r, W_call, lp_nx, lp_ct, lp_bk, lp_ret, W_for, W_forL_nil, W_ia, waL, waT, waR, waS, waD, WK_0, WK_1, W_dct, kD_nil, kD_S, oo_own, W_putX, put_lst, put_dctS, v_dictL, v_dictD, v_max3, ixK, x_eqS, x_neS, x_eqI, x_neI, inX_L, inX_T, inX_S, inX_D, sl_1T, sl_1L, sl_2T, sl_2L, List.drop_succ_cons, List.drop_zero, r1_int, W_IR1, r2_int, W_IR2, a1_one, W_IE, a2_two, W_IZ, W_lc, W_lcL_nil, W_yes, W_chT, W_inN, W_inNV, List.getElem?_cons_zero, List.getElem?_cons_succ, List.set_cons_zero, List.set_cons_succ, List.length_cons, List.length_nil, v_add, v_sub, v_mul, v_div, v_mod, v_pow, v_neg, v_abs, v_intB, v_intI, v_lt, v_le, v_gt, v_ge, v_max, v_min, v_trI, v_trB, v_lenL, v_lenT, v_lenR, lenLst, lenTup, lenRl, ixL, ixT, ixR, itL, itT, itR, lsL, lsR, blD_lt, v_list, v_tuple, v_eqS, v_neS, v_eqI, v_neI, v_app, v_rev, v_clear, v_ext, at0, at1, at2, at3, at4, at5, at6, at7, st0, st1, st2, st3, merge, lent, backAll_nil, backAll_cons, bA_un, bA_val, bA_nil, bA_d, bA_ne, bA_rv, bA_eq, List.nodup_cons, List.nodup_nil, List.not_mem_nil, not_false_eq_true, Nat.reduceAdd, Nat.reduceEqDiff, ne_eq, reduceCtorEq, if_true, reduceIte, wipe_nil, wipe_cons, nown_un, nown_val, restO, on_nil, on_cons, gd0, gdS, kQ_nm, kQ_ex, W_kT, W_kV, W_isiN, W_trN, true_and, and_true, w_isiP, W_IZM, zmT, zmL, zmTL, zmLT, zipD, v_all0, v_all1, v_all2, w_isiS, w_isiT, w_isiB, x_neB, x_eqB, cst0, cst1, cst2, cst3, cst4, cst5, cst6, cst7, cst8, cst9, cst10, cst11, cst12, cst13, cst14, cst15, is_non, is_tup, is_str, is_int, isn_non, isn_tup, isn_str, isn_int, Int.reduceEq, Int.reduceNe, Int.reduceLT, Int.reduceLE, Int.reduceGT, Nat.reduceLeDiff, Nat.reduceLT, Nat.reduceEqDiff, List.nil_append, List.cons_append, decide_true, decide_false, forall_const, false_implies, true_implies, not_true_eq_false, Int.reduceNeg, Nat.le_refl, Nat.zero_le, Bool.not_true] | refine ⟨by decide, ?_⟩)
        refine times_W sp sp (by decide) ?_
        rw [← mag_sq (p := p)]
        walk_at "go"
        refine root_W mag_nn (mag_sz sp) (by decide) ?_
        repeat (first | simp -dsimp only [W_some, W_none, WO_some, WO_none, br_true, br_false, br_dec, br_not, rd_val, rd_lst, rd_dct, W_var, W_c, W_v, fz_val, fz_lst, fz_dct, W_fz, W_bin, W_binT, W_binS, W_u, W_tr, W_andT, W_orT, W_notT, asB_bl, W_andV, W_orV, W_notV, W_ifE, W_ifS, W_nil, W_cons, W_tup, W_lst, pk_val, pk_lst, pk_dct, W_ixN, W_o0, asI_int, W_o1, W_sl, W_cb, W_lenN, W_isi, W_bm, nxt_nx, nxt_bk, nxt_ct, nxt_ret, W_skip, W_seq, W_drop, W_ret, W_retN, W_ct, W_bk, W_if, wr_un, wr_val, wr_own, W_asg, G_n, Gs_0, Gs_1, G_u, W_asgG, mv_val, mv_own, W_mov, ol_lst, W_mutL, WS_nil, WS_cons, put_nil, put_cons, W_parS, WB_nil, WB_d, WB_r, ls_val, ls_own, sl_nil, sl_d, sl_r, W_call, lp_nx, lp_ct, lp_bk, lp_ret, W_for, W_forL_nil, W_ia, waL, waT, waR, waS, waD, WK_0, WK_1, W_dct, kD_nil, kD_S, oo_own, W_putX, put_lst, put_dctS, v_dictL, v_dictD, v_max3, ixK, x_eqS, x_neS, x_eqI, x_neI, inX_L, inX_T, inX_S, inX_D, sl_1T, sl_1L, sl_2T, sl_2L, List.drop_succ_cons, List.drop_zero, r1_int, W_IR1, r2_int, W_IR2, a1_one, W_IE, a2_two, W_IZ, W_lc, W_lcL_nil, W_yes, W_chT, W_inN, W_inNV, List.getElem?_cons_zero, List.getElem?_cons_succ, List.set_cons_zero, List.set_cons_succ, List.length_cons, List.length_nil, v_add, v_sub, v_mul, v_div, v_mod, v_pow, v_neg, v_abs, v_intB, v_intI, v_lt, v_le, v_gt, v_ge, v_max, v_min, v_trI, v_trB, v_lenL, v_lenT, v_lenR, lenLst, lenTup, lenRl, ixL, ixT, ixR, itL, itT, itR, lsL, lsR, blD_lt, v_list, v_tuple, v_eqS, v_neS, v_eqI, v_neI, v_app, v_rev, v_clear, v_ext, at0, at1, at2, at3, at4, at5, at6, at7, st0, st1, st2, st3, merge, lent, backAll_nil, backAll_cons, bA_un, bA_val, bA_nil, bA_d, bA_ne, bA_rv, bA_eq, List.nodup_cons, List.nodup_nil, List.not_mem_nil, not_false_eq_true, Nat.reduceAdd, Nat.reduceEqDiff, ne_eq, reduceCtorEq, if_true, reduceIte, wipe_nil, wipe_cons, nown_un, nown_val, restO, on_nil, on_cons, gd0, gdS, kQ_nm, kQ_ex, W_kT, W_kV, W_isiN, W_trN, true_and, and_true, w_isiP, W_IZM, zmT, zmL, zmTL, zmLT, zipD, v_all0, v_all1, v_all2, w_isiS, w_isiT, w_isiB, x_neB, x_eqB, cst0, cst1, cst2, cst3, cst4, cst5, cst6, cst7, cst8, cst9, cst10, cst11, cst12, cst13, cst14, cst15, is_non, is_tup, is_str, is_int, isn_non, isn_tup, isn_str, isn_int, Int.reduceEq, Int.reduceNe, Int.reduceLT, Int.reduceLE, Int.reduceGT, Nat.reduceLeDiff, Nat.reduceLT, Nat.reduceEqDiff, List.nil_append, List.cons_append, decide_true, decide_false, forall_const, false_implies, true_implies, not_true_eq_false, Int.reduceNeg, Nat.le_refl, Nat.zero_le, mag_pr] | refine ⟨by decide, ?_⟩)
        refine same_W ?_
        repeat (first | simp -dsimp only [W_some, W_none, WO_some, WO_none, br_true, br_false, br_dec, br_not, rd_val, rd_lst, rd_dct, W_var, W_c, W_v, fz_val, fz_lst, fz_dct, W_fz, W_bin, W_binT, W_binS, W_u, W_tr, W_andT, W_orT, W_notT, asB_bl, W_andV, W_orV, W_notV, W_ifE, W_ifS, W_nil, W_cons, W_tup, W_lst, pk_val, pk_lst, pk_dct, W_ixN, W_o0, asI_int, W_o1, W_sl, W_cb, W_lenN, W_isi, W_bm, nxt_nx, nxt_bk, nxt_ct, nxt_ret, W_skip, W_seq, W_drop, W_ret, W_retN, W_ct, W_bk, W_if, wr_un, wr_val, wr_own, W_asg, G_n, Gs_0, Gs_1, G_u, W_asgG, mv_val, mv_own, W_mov, ol_lst, W_mutL, WS_nil, WS_cons, put_nil, put_cons, W_parS, WB_nil, WB_d, WB_r, ls_val, ls_own, sl_nil, sl_d, sl_r, W_call, lp_nx, lp_ct, lp_bk, lp_ret, W_for, W_forL_nil, W_ia, waL, waT, waR, waS, waD, WK_0, WK_1, W_dct, kD_nil, kD_S, oo_own, W_putX, put_lst, put_dctS, v_dictL, v_dictD, v_max3, ixK, x_eqS, x_neS, x_eqI, x_neI, inX_L, inX_T, inX_S, inX_D, sl_1T, sl_1L, sl_2T, sl_2L, List.drop_succ_cons, List.drop_zero, r1_int, W_IR1, r2_int, W_IR2, a1_one, W_IE, a2_two, W_IZ, W_lc, W_lcL_nil, W_yes, W_chT, W_inN, W_inNV, List.getElem?_cons_zero, List.getElem?_cons_succ, List.set_cons_zero, List.set_cons_succ, List.length_cons, List.length_nil, v_add, v_sub, v_mul, v_div, v_mod, v_pow, v_neg, v_abs, v_intB, v_intI, v_lt, v_le, v_gt, v_ge, v_max, v_min, v_trI, v_trB, v_lenL, v_lenT, v_lenR, lenLst, lenTup, lenRl, ixL, ixT, ixR, itL, itT, itR, lsL, lsR, blD_lt, v_list, v_tuple, v_eqS, v_neS, v_eqI, v_neI, v_app, v_rev, v_clear, v_ext, at0, at1, at2, at3, at4, at5, at6, at7, st0, st1, st2, st3, merge, lent, backAll_nil, backAll_cons, bA_un, bA_val, bA_nil, bA_d, bA_ne, bA_rv, bA_eq, List.nodup_cons, List.nodup_nil, List.not_mem_nil, not_false_eq_true, Nat.reduceAdd, Nat.reduceEqDiff, ne_eq, reduceCtorEq, if_true, reduceIte, wipe_nil, wipe_cons, nown_un, nown_val, restO, on_nil, on_cons, gd0, gdS, kQ_nm, kQ_ex, W_kT, W_kV, W_isiN, W_trN, true_and, and_true, w_isiP, W_IZM, zmT, zmL, zmTL, zmLT, zipD, v_all0, v_all1, v_all2, w_isiS, w_isiT, w_isiB, x_neB, x_eqB, cst0, cst1, cst2, cst3, cst4, cst5, cst6, cst7, cst8, cst9, cst10, cst11, cst12, cst13, cst14, cst15, is_non, is_tup, is_str, is_int, isn_non, isn_tup, isn_str, isn_int, Int.reduceEq, Int.reduceNe, Int.reduceLT, Int.reduceLE, Int.reduceGT, Nat.reduceLeDiff, Nat.reduceLT, Nat.reduceEqDiff, List.nil_append, List.cons_append, decide_true, decide_false, forall_const, false_implies, true_implies, not_true_eq_false, Int.reduceNeg, Nat.le_refl, Nat.zero_le, Bool.not_true] | refine ⟨by decide, ?_⟩)
        exact ⟨_, _, _, _, _, _, _, _, _, _, _, rfl, trivial, trivial, trivial, trivial, trivial, trivial, trivial, trivial, trivial, trivial, trivial⟩
      · have rn : r ≠ 0 := fun e => r0 (Rat.num_eq_zero.mpr e)
        refine over_W rn sp sr (by decide) ?_
        repeat (first | simp -dsimp only [W_some, W_none, WO_some, WO_none, br_true, br_false, br_dec, br_not, rd_val, rd_lst, rd_dct, W_var, W_c, W_v, fz_val, fz_lst, fz_dct, W_fz, W_bin, W_binT, W_binS, W_u, W_tr, W_andT, W_orT, W_notT, asB_bl, W_andV, W_orV, W_notV, W_ifE, W_ifS, W_nil, W_cons, W_tup, W_lst, pk_val, pk_lst, pk_dct, W_ixN, W_o0, asI_int, W_o1, W_sl, W_cb, W_lenN, W_isi, W_bm, nxt_nx, nxt_bk, nxt_ct, nxt_ret, W_skip, W_seq, W_drop, W_ret, W_retN, W_ct, W_bk, W_if, wr_un, wr_val, wr_own, W_asg, G_n, Gs_0, Gs_1, G_u, W_asgG, mv_val, mv_own, W_mov, ol_lst, W_mutL, WS_nil, WS_cons, put_nil, put_cons, W_parS, WB_nil, WB_d, WB_r, ls_val, ls_own, sl_nil, sl_d, sl_r, W_call, lp_nx, lp_ct, lp_bk, lp_ret, W_for, W_forL_nil, W_ia, waL, waT, waR, waS, waD, WK_0, WK_1, W_dct, kD_nil, kD_S, oo_own, W_putX, put_lst, put_dctS, v_dictL, v_dictD, v_max3, ixK, x_eqS, x_neS, x_eqI, x_neI, inX_L, inX_T, inX_S, inX_D, sl_1T, sl_1L, sl_2T, sl_2L, List.drop_succ_cons, List.drop_zero, r1_int, W_IR1, r2_int, W_IR2, a1_one, W_IE, a2_two, W_IZ, W_lc, W_lcL_nil, W_yes, W_chT, W_inN, W_inNV, List.getElem?_cons_zero, List.getElem?_cons_succ, List.set_cons_zero, List.set_cons_succ, List.length_cons, List.length_nil, v_add, v_sub, v_mul, v_div, v_mod, v_pow, v_neg, v_abs, v_intB, v_intI, v_lt, v_le, v_gt, v_ge, v_max, v_min, v_trI, v_trB, v_lenL, v_lenT, v_lenR, lenLst, lenTup, lenRl, ixL, ixT, ixR, itL, itT, itR, lsL, lsR, blD_lt, v_list, v_tuple, v_eqS, v_neS, v_eqI, v_neI, v_app, v_rev, v_clear, v_ext, at0, at1, at2, at3, at4, at5, at6, at7, st0, st1, st2, st3, merge, lent, backAll_nil, backAll_cons, bA_un, bA_val, bA_nil, bA_d, bA_ne, bA_rv, bA_eq, List.nodup_cons, List.nodup_nil, List.not_mem_nil, not_false_eq_true, Nat.reduceAdd, Nat.reduceEqDiff, ne_eq, reduceCtorEq, if_true, reduceIte, wipe_nil, wipe_cons, nown_un, nown_val, restO, on_nil, on_cons, gd0, gdS, kQ_nm, kQ_ex, W_kT, W_kV, W_isiN, W_trN, true_and, and_true, w_isiP, W_IZM, zmT, zmL, zmTL, zmLT, zipD, v_all0, v_all1, v_all2, w_isiS, w_isiT, w_isiB, x_neB, x_eqB, cst0, cst1, cst2, cst3, cst4, cst5, cst6, cst7, cst8, cst9, cst10, cst11, cst12, cst13, cst14, cst15, is_non, is_tup, is_str, is_int, isn_non, isn_tup, isn_str, isn_int, Int.reduceEq, Int.reduceNe, Int.reduceLT, Int.reduceLE, Int.reduceGT, Nat.reduceLeDiff, Nat.reduceLT, Nat.reduceEqDiff, List.nil_append, List.cons_append, decide_true, decide_false, forall_const, false_implies, true_implies, not_true_eq_false, Int.reduceNeg, Nat.le_refl, Nat.zero_le, m1, m2, m3, m4, m5, wr_wr] | refine ⟨by decide, ?_⟩)
        refine dues_W [(p + r, p.num * (r.den : Int) + r.num * (p.den : Int), (p.den : Int) * r.den), (p - r, p.num * (r.den : Int) - r.num * (p.den : Int), (p.den : Int) * r.den), (p * r, p.num * r.num, (p.den : Int) * r.den), (p * r⁻¹, p.num * (r.den : Int), (p.den : Int) * r.num)] (by simp) (fun x hx => ?_) ?_
        · simp only [List.mem_cons, List.not_mem_nil, or_false] at hx
          rcases hx with rfl | rfl | rfl | rfl
          · exact D1
          · exact D2
          · exact D3
          · exact ⟨Int.mul_ne_zero (Int.ne_of_gt (den_pos p)) r0, B5, B6, quo_divInt p r⟩
        repeat (first | simp -dsimp only [W_some, W_none, WO_some, WO_none, br_true, br_false, br_dec, br_not, rd_val, rd_lst, rd_dct, W_var, W_c, W_v, fz_val, fz_lst, fz_dct, W_fz, W_bin, W_binT, W_binS, W_u, W_tr, W_andT, W_orT, W_notT, asB_bl, W_andV, W_orV, W_notV, W_ifE, W_ifS, W_nil, W_cons, W_tup, W_lst, pk_val, pk_lst, pk_dct, W_ixN, W_o0, asI_int, W_o1, W_sl, W_cb, W_lenN, W_isi, W_bm, nxt_nx, nxt_bk, nxt_ct, nxt_ret, W_skip, W_seq, W_drop, W_ret, W_retN, W_ct, W_bk, W_if, wr_un, wr_val, wr_own, W_asg, G_n, Gs_0, Gs_1, G_u, W_asgG, mv_val, mv_own, W_mov, ol_lst, W_mutL, WS_nil, WS_cons, put_nil, put_cons, W_parS, WB_nil, WB_d, WB_r, ls_val, ls_own, sl_nil, sl_d, sl_r, W_call, lp_nx, lp_ct, lp_bk, lp_ret, W_for, W_forL_nil, W_ia, waL, waT, waR, waS, waD, WK_0, WK_1, W_dct, kD_nil, kD_S, oo_own, W_putX, put_lst, put_dctS, v_dictL, v_dictD, v_max3, ixK, x_eqS, x_neS, x_eqI, x_neI, inX_L, inX_T, inX_S, inX_D, sl_1T, sl_1L, sl_2T, sl_2L, List.drop_succ_cons, List.drop_zero, r1_int, W_IR1, r2_int, W_IR2, a1_one, W_IE, a2_two, W_IZ, W_lc, W_lcL_nil, W_yes, W_chT, W_inN, W_inNV, List.getElem?_cons_zero, List.getElem?_cons_succ, List.set_cons_zero, List.set_cons_succ, List.length_cons, List.length_nil, v_add, v_sub, v_mul, v_div, v_mod, v_pow, v_neg, v_abs, v_intB, v_intI, v_lt, v_le, v_gt, v_ge, v_max, v_min, v_trI, v_trB, v_lenL, v_lenT, v_lenR, lenLst, lenTup, lenRl, ixL, ixT, ixR, itL, itT, itR, lsL, lsR, blD_lt, v_list, v_tuple, v_eqS, v_neS, v_eqI, v_neI, v_app, v_rev, v_clear, v_ext, at0, at1, at2, at3, at4, at5, at6, at7, st0, st1, st2, st3, merge, lent, backAll_nil, backAll_cons, bA_un, bA_val, bA_nil, bA_d, bA_ne, bA_rv, bA_eq, List.nodup_cons, List.nodup_nil, List.not_mem_nil, not_false_eq_true, Nat.reduceAdd, Nat.reduceEqDiff, ne_eq, reduceCtorEq, if_true, reduceIte, wipe_nil, wipe_cons, nown_un, nown_val, restO, on_nil, on_cons, gd0, gdS, kQ_nm, kQ_ex, W_kT, W_kV, W_isiN, W_trN, true_and, and_true, w_isiP, W_IZM, zmT, zmL, zmTL, zmLT, zipD, v_all0, v_all1, v_all2, w_isiS, w_isiT, w_isiB, x_neB, x_eqB, cst0, cst1, cst2, cst3, cst4, cst5, cst6, cst7, cst8, cst9, cst10, cst11, cst12, cst13, cst14, cst15, is_non, is_tup, is_str, is_int, isn_non, isn_tup, isn_str, isn_int, Int.reduceEq, Int.reduceNe, Int.reduceLT, Int.reduceLE, Int.reduceGT, Nat.reduceLeDiff, Nat.reduceLT, Nat.reduceEqDiff, List.nil_append, List.cons_append, decide_true, decide_false, forall_const, false_implies, true_implies, not_true_eq_false, Int.reduceNeg, Nat.le_refl, Nat.zero_le, List.map_cons, List.map_nil, v_allT4, Bool.not_true] | refine ⟨by decide, ?_⟩)
        refine refused_W ?_
        repeat (first | simp -dsimp only [W_some, W_none, WO_some, WO_none, br_true, br_false, br_dec, br_not, rd_val, rd_lst, rd_dct, W_var, W_c, W_v, fz_val, fz_lst, fz_dct, W_fz, W_bin, W_binT, W_binS, W_u, W_tr, W_andT, W_orT, W_notT, asB_bl, W_andV, W_orV, W_notV, W_ifE, W_ifS, W_nil, W_cons, W_tup, W_lst, pk_val, pk_lst, pk_dct, W_ixN, W_o0, asI_int, W_o1, W_sl, W_cb, W_lenN, W_isi, W_bm, nxt_nx, nxt_bk, nxt_ct, nxt_ret, W_skip, W_seq, W_drop, W_ret, W_retN, W_ct, W_bk, W_if, wr_un, wr_val, wr_own, W_asg, G_n, Gs_0, Gs_1, G_u, W_asgG, mv_val, mv_own, W_mov, ol_lst, W_mutL, WS_nil, WS_cons, put_nil, put_cons, W_parS, WB_nil, WB_d, WB_r, ls_val, ls_own, sl_nil, sl_d, sl_r, W_call, lp_nx, lp_ct, lp_bk, lp_ret, W_for, W_forL_nil, W_ia, waL, waT, waR, waS, waD, WK_0, WK_1, W_dct, kD_nil, kD_S, oo_own, W_putX, put_lst, put_dctS, v_dictL, v_dictD, v_max3, ixK, x_eqS, x_neS, x_eqI, x_neI, inX_L, inX_T, inX_S, inX_D, sl_1T, sl_1L, sl_2T, sl_2L, List.drop_succ_cons, List.drop_zero, r1_int, W_IR1, r2_int, W_IR2, a1_one, W_IE, a2_two, W_IZ, W_lc, W_lcL_nil, W_yes, W_chT, W_inN, W_inNV, List.getElem?_cons_zero, List.getElem?_cons_succ, List.set_cons_zero, List.set_cons_succ, List.length_cons, List.length_nil, v_add, v_sub, v_mul, v_div, v_mod, v_pow, v_neg, v_abs, v_intB, v_intI, v_lt, v_le, v_gt, v_ge, v_max, v_min, v_trI, v_trB, v_lenL, v_lenT, v_lenR, lenLst, lenTup, lenRl, ixL, ixT, ixR, itL, itT, itR, lsL, lsR, blD_lt, v_list, v_tuple, v_eqS, v_neS, v_eqI, v_neI, v_app, v_rev, v_clear, v_ext, at0, at1, at2, at3, at4, at5, at6, at7, st0, st1, st2, st3, merge, lent, backAll_nil, backAll_cons, bA_un, bA_val, bA_nil, bA_d, bA_ne, bA_rv, bA_eq, List.nodup_cons, List.nodup_nil, List.not_mem_nil, not_false_eq_true, Nat.reduceAdd, Nat.reduceEqDiff, ne_eq, reduceCtorEq, if_true, reduceIte, wipe_nil, wipe_cons, nown_un, nown_val, restO, on_nil, on_cons, gd0, gdS, kQ_nm, kQ_ex, W_kT, W_kV, W_isiN, W_trN, true_and, and_true, w_isiP, W_IZM, zmT, zmL, zmTL, zmLT, zipD, v_all0, v_all1, v_all2, w_isiS, w_isiT, w_isiB, x_neB, x_eqB, cst0, cst1, cst2, cst3, cst4, cst5, cst6, cst7, cst8, cst9, cst10, cst11, cst12, cst13, cst14, cst15, is_non, is_tup, is_str, is_int, isn_non, isn_tup, isn_str, isn_int, Int.reduceEq, Int.reduceNe, Int.reduceLT, Int.reduceLE, Int.reduceGT, Nat.reduceLeDiff, Nat.reduceLT, Nat.reduceEqDiff, List.nil_append, List.cons_append, decide_true, decide_false, forall_const, false_implies, true_implies, not_true_eq_false, Int.reduceNeg, Nat.le_refl, Nat.zero_le, Bool.not_true] | refine ⟨by decide, ?_⟩)
        refine times_W sp sp (by decide) ?_
        rw [← mag_sq (p := p)]
        walk_at "go"
        refine root_W mag_nn (mag_sz sp) (by decide) ?_
        repeat (first | simp -dsimp only [W_some, W_none, WO_some, WO_none, br_true, br_false, br_dec, br_not, rd_val, rd_lst, rd_dct, W_var, W_c, W_v, fz_val, fz_lst, fz_dct, W_fz, W_bin, W_binT, W_binS, W_u, W_tr, W_andT, W_orT, W_notT, asB_bl, W_andV, W_orV, W_notV, W_ifE, W_ifS, W_nil, W_cons, W_tup, W_lst, pk_val, pk_lst, pk_dct, W_ixN, W_o0, asI_int, W_o1, W_sl, W_cb, W_lenN, W_isi, W_bm, nxt_nx, nxt_bk, nxt_ct, nxt_ret, W_skip, W_seq, W_drop, W_ret, W_retN, W_ct, W_bk, W_if, wr_un, wr_val, wr_own, W_asg, G_n, Gs_0, Gs_1, G_u, W_asgG, mv_val, mv_own, W_mov, ol_lst, W_mutL, WS_nil, WS_cons, put_nil, put_cons, W_parS, WB_nil, WB_d, WB_r, ls_val, ls_own, sl_nil, sl_d, sl_r, W_call, lp_nx, lp_ct, lp_bk, lp_ret, W_for, W_forL_nil, W_ia, waL, waT, waR, waS, waD, WK_0, WK_1, W_dct, kD_nil, kD_S, oo_own, W_putX, put_lst, put_dctS, v_dictL, v_dictD, v_max3, ixK, x_eqS, x_neS, x_eqI, x_neI, inX_L, inX_T, inX_S, inX_D, sl_1T, sl_1L, sl_2T, sl_2L, List.drop_succ_cons, List.drop_zero, r1_int, W_IR1, r2_int, W_IR2, a1_one, W_IE, a2_two, W_IZ, W_lc, W_lcL_nil, W_yes, W_chT, W_inN, W_inNV, List.getElem?_cons_zero, List.getElem?_cons_succ, List.set_cons_zero, List.set_cons_succ, List.length_cons, List.length_nil, v_add, v_sub, v_mul, v_div, v_mod, v_pow, v_neg, v_abs, v_intB, v_intI, v_lt, v_le, v_gt, v_ge, v_max, v_min, v_trI, v_trB, v_lenL, v_lenT, v_lenR, lenLst, lenTup, lenRl, ixL, ixT, ixR, itL, itT, itR, lsL, lsR, blD_lt, v_list, v_tuple, v_eqS, v_neS, v_eqI, v_neI, v_app, v_rev, v_clear, v_ext, at0, at1, at2, at3, at4, at5, at6, at7, st0, st1, st2, st3, merge, lent, backAll_nil, backAll_cons, bA_un, bA_val, bA_nil, bA_d, bA_ne, bA_rv, bA_eq, List.nodup_cons, List.nodup_nil, List.not_mem_nil, not_false_eq_true, Nat.reduceAdd, Nat.reduceEqDiff, ne_eq, reduceCtorEq, if_true, reduceIte, wipe_nil, wipe_cons, nown_un, nown_val, restO, on_nil, on_cons, gd0, gdS, kQ_nm, kQ_ex, W_kT, W_kV, W_isiN, W_trN, true_and, and_true, w_isiP, W_IZM, zmT, zmL, zmTL, zmLT, zipD, v_all0, v_all1, v_all2, w_isiS, w_isiT, w_isiB, x_neB, x_eqB, cst0, cst1, cst2, cst3, cst4, cst5, cst6, cst7, cst8, cst9, cst10, cst11, cst12, cst13, cst14, cst15, is_non, is_tup, is_str, is_int, isn_non, isn_tup, isn_str, isn_int, Int.reduceEq, Int.reduceNe, Int.reduceLT, Int.reduceLE, Int.reduceGT, Nat.reduceLeDiff, Nat.reduceLT, Nat.reduceEqDiff, List.nil_append, List.cons_append, decide_true, decide_false, forall_const, false_implies, true_implies, not_true_eq_false, Int.reduceNeg, Nat.le_refl, Nat.zero_le, mag_pr] | refine ⟨by decide, ?_⟩)
        refine same_W ?_
        repeat (first | simp -dsimp only [W_some, W_none, WO_some, WO_none, br_true, br_false, br_dec, br_not, rd_val, rd_lst, rd_dct, W_var, W_c, W_v, fz_val, fz_lst, fz_dct, W_fz, W_bin, W_binT, W_binS, W_u, W_tr, W_andT, W_orT, W_notT, asB_bl, W_andV, W_orV, W_notV, W_ifE, W_ifS, W_nil, W_cons, W_tup, W_lst, pk_val, pk_lst, pk_dct, W_ixN, W_o0, asI_int, W_o1, W_sl, W_cb, W_lenN, W_isi, W_bm, nxt_nx, nxt_bk, nxt_ct, nxt_ret, W_skip, W_seq, W_drop, W_ret, W_retN, W_ct, W_bk, W_if, wr_un, wr_val, wr_own, W_asg, G_n, Gs_0, Gs_1, G_u, W_asgG, mv_val, mv_own, W_mov, ol_lst, W_mutL, WS_nil, WS_cons, put_nil, put_cons, W_parS, WB_nil, WB_d, WB_r, ls_val, ls_own, sl_nil, sl_d, sl_r, W_call, lp_nx, lp_ct, lp_bk, lp_ret, W_for, W_forL_nil, W_ia, waL, waT, waR, waS, waD, WK_0, WK_1, W_dct, kD_nil, kD_S, oo_own, W_putX, put_lst, put_dctS, v_dictL, v_dictD, v_max3, ixK, x_eqS, x_neS, x_eqI, x_neI, inX_L, inX_T, inX_S, inX_D, sl_1T, sl_1L, sl_2T, sl_2L, List.drop_succ_cons, List.drop_zero, r1_int, W_IR1, r2_int, W_IR2, a1_one, W_IE, a2_two, W_IZ, W_lc, W_lcL_nil, W_yes, W_chT, W_inN, W_inNV, List.getElem?_cons_zero, List.getElem?_cons_succ, List.set_cons_zero, List.set_cons_succ, List.length_cons, List.length_nil, v_add, v_sub, v_mul, v_div, v_mod, v_pow, v_neg, v_abs, v_intB, v_intI, v_lt, v_le, v_gt, v_ge, v_max, v_min, v_trI, v_trB, v_lenL, v_lenT, v_lenR, lenLst, lenTup, lenRl, ixL, ixT, ixR, itL, itT, itR, lsL, lsR, blD_lt, v_list, v_tuple, v_eqS, v_neS, v_eqI, v_neI, v_app, v_rev, v_clear, v_ext, at0, at1, at2, at3, at4, at5, at6, at7, st0, st1, st2, st3, merge, lent, backAll_nil, backAll_cons, bA_un, bA_val, bA_nil, bA_d, bA_ne, bA_rv, bA_eq, List.nodup_cons, List.nodup_nil, List.not_mem_nil, not_false_eq_true, Nat.reduceAdd, Nat.reduceEqDiff, ne_eq, reduceCtorEq, if_true, reduceIte, wipe_nil, wipe_cons, nown_un, nown_val, restO, on_nil, on_cons, gd0, gdS, kQ_nm, kQ_ex, W_kT, W_kV, W_isiN, W_trN, true_and, and_true, w_isiP, W_IZM, zmT, zmL, zmTL, zmLT, zipD, v_all0, v_all1, v_all2, w_isiS, w_isiT, w_isiB, x_neB, x_eqB, cst0, cst1, cst2, cst3, cst4, cst5, cst6, cst7, cst8, cst9, cst10, cst11, cst12, cst13, cst14, cst15, is_non, is_tup, is_str, is_int, isn_non, isn_tup, isn_str, isn_int, Int.reduceEq, Int.reduceNe, Int.reduceLT, Int.reduceLE, Int.reduceGT, Nat.reduceLeDiff, Nat.reduceLT, Nat.reduceEqDiff, List.nil_append, List.cons_append, decide_true, decide_false, forall_const, false_implies, true_implies, not_true_eq_false, Int.reduceNeg, Nat.le_refl, Nat.zero_le, Bool.not_true] | refine ⟨by decide, ?_⟩)
        exact ⟨_, _, _, _, _, _, _, _, _, _, _, rfl, trivial, trivial, trivial, trivial, trivial, trivial, trivial, trivial, trivial, trivial, trivial⟩
  obtain ⟨s, ρ, e, rfl⟩ := key
  exact ⟨ρ, e⟩

end Mr.k01

open PySem PySem.W PyProof.Rows in
set_option maxRecDepth 100000 in
set_option maxHeartbeats 0 in
theorem PySem.Challenge.cw_wishplace_k01_fractions_holds : PySem.Challenge.rw_wishplace_k01_fractions.Holds := by
  w_on; o_law; k_head; (case hw => w_witness2)
  k_fill
  refine Mr.k01.walk (l := PySem.Challenge.rw_wishplace_k01_fractions) rfl rfl (fun w h Y => PySem.W.kIn_of Y) ?F
  case F =>
    intro w mg fa h KX G hmg
    refine' Mr.k01.all_mk KX G hmg Mr.k01.law_ok ?a0 ?l0 ?c0 ?k0 ?a1 ?l1 ?c1 ?k1 ?a2 ?l2 ?c2 ?k2 ?a3 ?l3 ?c3 ?k3 ?a4 ?l4 ?c4 ?k4 ?a5 ?l5 ?c5 ?k5 ?a6 ?l6 ?c6 ?k6 ?a7 ?l7 ?c7 ?k7 ?a8 ?l8 ?c8 ?k8 ?a9 ?l9 ?c9 ?k9 ?a10 ?l10 ?c10 ?k10 ?a11 ?l11 ?c11 ?k11 ?a12 ?l12 ?c12 ?k12 ?a13 ?l13 ?c13 ?k13 ?a14 ?l14 ?c14 ?k14 ?a15 ?l15 ?c15 ?k15 ?a16 ?l16 ?c16 ?k16 ?a17 ?l17 ?c17 ?k17 ?a18 ?l18 ?c18 ?k18 ?a19 ?l19 ?c19 ?k19 ?a20 ?l20 ?c20 ?k20 ?a21 ?l21 ?c21 ?k21 ?a22 ?l22 ?c22 ?k22 ?a23 ?l23 ?c23 ?k23 ?a24 ?l24 ?c24 ?k24 ?a25 ?l25 ?c25 ?k25 ?a26 ?l26 ?c26 ?k26 ?a27 ?l27 ?c27 ?k27 ?a28 ?l28 ?c28 ?k28 ?a29 ?l29 ?c29 ?k29 ?a30 ?l30 ?c30 ?k30 ?a31 ?l31 ?c31 ?k31 ?a32 ?l32 ?c32 ?k32 ?gl1 ?gm4 ?gl5 ?gm8 ?gl9 ?gm12 ?hW ?hB ?h1 ?h2 ?h3 ?h4 ?h5 ?h6 ?h7 ?h8 ?hV ?hq ?hk ?hs ?ht ?hx1 ?hx2 ?hx3 ?hx4 ?he1 ?he2 ?he4 ?he5 ?he6 ?he7 ?he8 ?hd1 ?ht1 ?hn1 ?hd2 ?ht2 ?hn2 ?hd3 ?ht3 ?hn3 ?hd4 ?ht4 ?hn4 ?hd5 ?ht5 ?hn5 ?hd6 ?ht6 ?hn6 ?hd7 ?ht7 ?hn7 ?hd8 ?ht8 ?hn8 ?hr ?hoV ?z_len ?z_abs ?z_max ?z_min ?z_int ?z_str ?z_list ?z_tuple ?z_all ?z_any ?z_isinstance ?z_range ?z_enumerate ?z_zip ?z_sorted ?z_dict ?z_bool
    (case a0 => k_is)
    (case l0 => k_is)
    (case c0 => k_is)
    (case k0 => k_is)
    (case a1 => k_is)
    (case l1 => k_is)
    (case c1 => k_is)
    (case k1 => k_is)
    (case a2 => k_is)
    (case l2 => k_is)
    (case c2 => k_is)
    (case k2 => k_is)
    (case a3 => k_is)
    (case l3 => k_is)
    (case c3 => k_is)
    (case k3 => k_is)
    (case a4 => k_is)
    (case l4 => k_is)
    (case c4 => k_is)
    (case k4 => k_is)
    (case a5 => k_is)
    (case l5 => k_is)
    (case c5 => k_is)
    (case k5 => k_is)
    (case a6 => k_is)
    (case l6 => k_is)
    (case c6 => k_is)
    (case k6 => k_is)
    (case a7 => k_is)
    (case l7 => k_is)
    (case c7 => k_is)
    (case k7 => k_is)
    (case a8 => k_is)
    (case l8 => k_is)
    (case c8 => k_is)
    (case k8 => k_is)
    (case a9 => k_is)
    (case l9 => k_is)
    (case c9 => k_is)
    (case k9 => k_is)
    (case a10 => k_is)
    (case l10 => k_is)
    (case c10 => k_is)
    (case k10 => k_is)
    (case a11 => k_is)
    (case l11 => k_is)
    (case c11 => k_is)
    (case k11 => k_is)
    (case a12 => k_is)
    (case l12 => k_is)
    (case c12 => k_is)
    (case k12 => k_is)
    (case a13 => k_is)
    (case l13 => k_is)
    (case c13 => k_is)
    (case k13 => k_is)
    (case a14 => k_is)
    (case l14 => k_is)
    (case c14 => k_is)
    (case k14 => k_is)
    (case a15 => k_is)
    (case l15 => k_is)
    (case c15 => k_is)
    (case k15 => k_is)
    (case a16 => k_is)
    (case l16 => k_is)
    (case c16 => k_is)
    (case k16 => k_is)
    (case a17 => k_is)
    (case l17 => k_is)
    (case c17 => k_is)
    (case k17 => k_is)
    (case a18 => k_is)
    (case l18 => k_is)
    (case c18 => k_is)
    (case k18 => k_is)
    (case a19 => k_is)
    (case l19 => k_is)
    (case c19 => k_is)
    (case k19 => k_is)
    (case a20 => k_is)
    (case l20 => k_is)
    (case c20 => k_is)
    (case k20 => k_is)
    (case a21 => k_is)
    (case l21 => k_is)
    (case c21 => k_is)
    (case k21 => k_is)
    (case a22 => k_is)
    (case l22 => k_is)
    (case c22 => k_is)
    (case k22 => k_is)
    (case a23 => k_is)
    (case l23 => k_is)
    (case c23 => k_is)
    (case k23 => k_is)
    (case a24 => k_is)
    (case l24 => k_is)
    (case c24 => k_is)
    (case k24 => k_is)
    (case a25 => k_is)
    (case l25 => k_is)
    (case c25 => k_is)
    (case k25 => k_is)
    (case a26 => k_is)
    (case l26 => k_is)
    (case c26 => k_is)
    (case k26 => k_is)
    (case a27 => k_is)
    (case l27 => k_is)
    (case c27 => k_is)
    (case k27 => k_is)
    (case a28 => k_is)
    (case l28 => k_is)
    (case c28 => k_is)
    (case k28 => k_is)
    (case a29 => k_is)
    (case l29 => k_is)
    (case c29 => k_is)
    (case k29 => k_is)
    (case a30 => k_is)
    (case l30 => k_is)
    (case c30 => k_is)
    (case k30 => k_is)
    (case a31 => k_is)
    (case l31 => k_is)
    (case c31 => k_is)
    (case k31 => k_is)
    (case a32 => k_is)
    (case l32 => k_is)
    (case c32 => k_is)
    (case k32 => k_is)
    (case gm4 => k_is)
    (case gl1 => k_is)
    (case gm8 => k_is)
    (case gl5 => k_is)
    (case gm12 => k_is)
    (case gl9 => k_is)
    (case hW => k_is)
    (case hB => k_is)
    (case h1 => k_is)
    (case h2 => k_is)
    (case h3 => k_is)
    (case h4 => k_is)
    (case h5 => k_is)
    (case h6 => k_is)
    (case h7 => k_is)
    (case h8 => k_is)
    (case hV => k_is)
    (case hq => k_exc)
    (case hk => k_is)
    (case hs => k_is)
    (case ht => k_is)
    (case hx1 => k_is)
    (case hx2 => k_is)
    (case hx3 => k_is)
    (case hx4 => k_is)
    (case he1 => k_is)
    (case he2 => k_is)
    (case he4 => k_is)
    (case he5 => k_is)
    (case he6 => k_is)
    (case he7 => k_is)
    (case he8 => k_is)
    (case hd1 => k_is)
    (case ht1 => k_is)
    (case hn1 => k_is)
    (case hd2 => k_is)
    (case ht2 => k_is)
    (case hn2 => k_is)
    (case hd3 => k_is)
    (case ht3 => k_is)
    (case hn3 => k_is)
    (case hd4 => k_is)
    (case ht4 => k_is)
    (case hn4 => k_is)
    (case hd5 => k_is)
    (case ht5 => k_is)
    (case hn5 => k_is)
    (case hd6 => k_is)
    (case ht6 => k_is)
    (case hn6 => k_is)
    (case hd7 => k_is)
    (case ht7 => k_is)
    (case hn7 => k_is)
    (case hd8 => k_is)
    (case ht8 => k_is)
    (case hn8 => k_is)
    (case hr => k_is)
    (case hoV => k_is)
    (case z_len => k_is)
    (case z_abs => k_is)
    (case z_max => k_is)
    (case z_min => k_is)
    (case z_int => k_is)
    (case z_str => k_is)
    (case z_list => k_is)
    (case z_tuple => k_is)
    (case z_all => k_is)
    (case z_any => k_is)
    (case z_isinstance => k_is)
    (case z_range => k_is)
    (case z_enumerate => k_is)
    (case z_zip => k_is)
    (case z_sorted => k_is)
    (case z_dict => k_is)
    (case z_bool => k_is)

