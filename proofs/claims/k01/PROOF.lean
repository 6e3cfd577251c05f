import PyProof.Rows.All
import Wide.All
import OpenK.AllK
import Wide.FinOn
import HandS.ForExc
import HandS.ForMost
import HandS.Walk
import HandS.TupAny
import HandS.Wide
import HandS.CallSlots
import HandS.IsInst
import HandS.StrMore
import HandS.Defaults
import HandS.TryMany
import PySem.Challenge.RW_wayfill_k01_places_of_a_part
set_option Elab.async false
set_option linter.all false
set_option maxRecDepth 100000
set_option maxHeartbeats 4000000
namespace TT
open PySem PySem.Spec PyProof.Rows L2

/-- data: what a value is, without addresses -/
inductive D where
  | non
  | bl (b : Bool)
  | int (i : Int)
  | str (x : List Char)
  | lst (ds : List D)
  | frl (ds : List D)
  | tup (ds : List D)
  | cell (n : Nat)
  | ty (n : String)
abbrev Cells := List (List D)
/-- an error: its class by name, its attributes -/
structure Ex where
  nm : String
  fs : List (Str × D)
inductive Out (α : Type) where
  | ok (a : α) (S : Cells)
  | ex (x : Ex) (S : Cells)
  | no
/-- a local name: nothing known, data, or a list of its own that may still grow -/
inductive Sl where
  | no
  | val (d : D)
  | own (ds : List D)
abbrev Ev := List Sl
abbrev Me := Ev → Cells → Out D
abbrev Ma := Ev → Cells → Out (List D)
abbrev Mt := Ev → Cells → Out Bool
def Out.bind {α β : Type} (o : Out α) (k : α → Cells → Out β) : Out β := match o with
  | .ok a S => k a S
  | .ex x S => .ex x S
  | .no => .no

/-- a text by its signs -/
def cps (x : List Char) : Str := ⟨(x.map Char.toNat).toArray⟩
/-- the ground: the written part, the classes of errors by name -/
structure Gm where
  K : PySem.W.Frag
  cv : String → Value

mutual
def Rep (K : PySem.W.Frag) (F : Hp) (io : List Addr) : D → V → Prop
  | .non, v => v = .non
  | .bl b, v => v = .bl b
  | .int i, v => v = .int i
  | .str x, v => v = .str (cps x)
  | .lst ds, v => ∃ a xs, v = .ref a ∧ F a = some (.lst xs) ∧ Reps K F io ds xs
  | .frl ds, v => ∃ a xs, v = .ref a ∧ SqL K F a xs ∧ Reps K F io ds xs
  | .tup ds, v => ∃ a xs, v = .ref a ∧ SqT K F a xs ∧ Reps K F io ds xs
  | .cell n, v => ∃ a, v = .ref a ∧ io[n]? = some a
  | .ty n, v => v = .ty n
def Reps (K : PySem.W.Frag) (F : Hp) (io : List Addr) : List D → List V → Prop
  | [], xs => xs = []
  | d :: ds, xs => ∃ x r, xs = x :: r ∧ Rep K F io d x ∧ Reps K F io ds r
end
theorem seqT {K : PySem.W.Frag} {H H' : Hp} {a : Addr} {xs : List V} (e : Same H H') (h : SqT K H a xs) : SqT K H' a xs := by
  rcases h with (h | ⟨o, h⟩) | h
  · exact .inl (.inl (e _ _ h))
  · exact .inl (.inr ⟨o, e _ _ h⟩)
  · exact .inr h
mutual
theorem Rep.mono {K : PySem.W.Frag} {F F' : Hp} {io : List Addr} (e : Same F F') : ∀ (d : D) (v : V), Rep K F io d v → Rep K F' io d v
  | .non, _, h => h
  | .bl _, _, h => h
  | .int _, _, h => h
  | .str _, _, h => h
  | .lst ds, _, ⟨a, xs, h1, h2, h3⟩ => ⟨a, xs, h1, e _ _ h2, Reps.mono e ds xs h3⟩
  | .frl ds, _, ⟨a, xs, h1, h2, h3⟩ => ⟨a, xs, h1, e.seq h2, Reps.mono e ds xs h3⟩
  | .tup ds, _, ⟨a, xs, h1, h2, h3⟩ => ⟨a, xs, h1, seqT e h2, Reps.mono e ds xs h3⟩
  | .cell _, _, h => h
  | .ty _, _, h => h
theorem Reps.mono {K : PySem.W.Frag} {F F' : Hp} {io : List Addr} (e : Same F F') : ∀ (ds : List D) (xs : List V), Reps K F io ds xs → Reps K F' io ds xs
  | [], _, h => h
  | d :: ds, _, ⟨x, r, h1, h2, h3⟩ => ⟨x, r, h1, Rep.mono e d x h2, Reps.mono e ds r h3⟩
end
section reps
variable {K : PySem.W.Frag} {F : Hp} {io : List Addr}
theorem Reps.len : ∀ {ds : List D} {xs : List V}, Reps K F io ds xs → xs.length = ds.length
  | [], _, h => by cases h; rfl
  | d :: ds, _, ⟨x, r, h1, _, h3⟩ => by subst h1; simp [Reps.len h3]
theorem Reps.get : ∀ {ds : List D} {xs : List V} {i : Nat} {d : D}, Reps K F io ds xs → ds[i]? = some d → ∃ v, xs[i]? = some v ∧ Rep K F io d v
  | [], _, _, _, _, h => by simp at h
  | d :: ds, _, 0, _, ⟨x, r, h1, h2, _⟩, h => by
    subst h1
    simp at h
    subst h
    exact ⟨x, rfl, h2⟩
  | d :: ds, _, i + 1, _, ⟨x, r, h1, _, h3⟩, h => by
    subst h1
    simpa using Reps.get h3 (by simpa using h)
theorem Reps.append : ∀ {ds es : List D} {xs ys : List V}, Reps K F io ds xs → Reps K F io es ys → Reps K F io (ds ++ es) (xs ++ ys)
  | [], _, _, _, h, h' => by cases h; exact h'
  | d :: ds, _, _, _, ⟨x, r, h1, h2, h3⟩, h' => by
    subst h1
    exact ⟨x, r ++ _, rfl, h2, Reps.append h3 h'⟩
theorem Reps.one {d : D} {v : V} (h : Rep K F io d v) : Reps K F io [d] [v] := ⟨v, [], rfl, h, rfl⟩
theorem Reps.take : ∀ (n : Nat) {ds : List D} {xs : List V}, Reps K F io ds xs → Reps K F io (ds.take n) (xs.take n)
  | 0, _, _, _ => by simp [Reps]
  | n + 1, [], _, h => by cases h; simp [Reps]
  | n + 1, d :: ds, _, ⟨x, r, h1, h2, h3⟩ => by
    subst h1
    exact ⟨x, _, rfl, h2, Reps.take n h3⟩
theorem Reps.drop : ∀ (n : Nat) {ds : List D} {xs : List V}, Reps K F io ds xs → Reps K F io (ds.drop n) (xs.drop n)
  | 0, _, _, h => h
  | n + 1, [], _, h => by cases h; simp [Reps]
  | n + 1, d :: ds, _, ⟨x, r, h1, h2, h3⟩ => by
    subst h1
    exact Reps.drop n h3
theorem Reps.set : ∀ (n : Nat) {ds : List D} {xs : List V} {d : D} {v : V}, Reps K F io ds xs → Rep K F io d v → Reps K F io (ds.set n d) (xs.set n v)
  | _, [], _, _, _, h, _ => by cases h; simp [Reps]
  | 0, d :: ds, _, _, _, ⟨x, r, h1, h2, h3⟩, h => by
    subst h1
    exact ⟨_, r, rfl, h, h3⟩
  | n + 1, d :: ds, _, _, _, ⟨x, r, h1, h2, h3⟩, h => by
    subst h1
    exact ⟨x, _, rfl, h2, Reps.set n h3 h⟩
theorem Reps.of_get : ∀ {ds : List D} {xs : List V}, xs.length = ds.length → (∀ (i : Nat) (d : D) (v : V), ds[i]? = some d → xs[i]? = some v → Rep K F io d v) → Reps K F io ds xs
  | [], xs, h, _ => by
    have : xs = [] := List.length_eq_zero_iff.mp h
    exact this
  | d :: ds, [], h, _ => by simp at h
  | d :: ds, x :: r, h, g => ⟨x, r, rfl, g 0 d x rfl rfl, Reps.of_get (by simpa using h) fun i d' v h1 h2 => g (i + 1) d' v (by simpa using h1) (by simpa using h2)⟩
end reps

/-- a def's entry: the given mutable lists' addresses, the heap, the frozen heap -/
structure Snap where
  io : List Addr
  nw : Nat
  H0 : Hp
  F0 : Hp
/-- the lists that may be written -/
def Snap.wr (s : Snap) : List Addr := s.io.take s.nw
structure RelH (K : PySem.W.Frag) (s : Snap) (S : Cells) (F H : Hp) : Prop where
  fh : Same F H
  f0 : Same s.F0 F
  new : ∀ a, F a ≠ none → s.F0 a ≠ none ∨ s.H0 a = none
  frame : ∀ a o, s.H0 a = some o → a ∉ s.wr → H a = some o
  len : s.wr.length = S.length
  nd : s.wr.Nodup
  cell : ∀ (n : Nat) (a : Addr) (ds : List D), s.wr[n]? = some a → S[n]? = some ds → F a = none ∧ ∃ xs, H a = some (.lst xs) ∧ Reps K F s.io ds xs
/-- a list at a that nobody else holds -/
structure OwnAt (K : PySem.W.Frag) (s : Snap) (F H : Hp) (a : Addr) (ds : List D) : Prop where
  fr : F a = none
  h0 : s.H0 a = none
  ni : a ∉ s.wr
  at_ : ∃ xs, H a = some (.lst xs) ∧ Reps K F s.io ds xs
structure R (K : PySem.W.Frag) (s : Snap) (env : Ev) (S : Cells) (F : Hp) (σ : L2.St) (H : Hp) : Prop where
  h : RelH K s S F H
  len : env.length = σ.length
  val : ∀ (i : Nat) (d : D), env[i]? = some (.val d) → ∃ v, σ[i]? = some (some v) ∧ Rep K F s.io d v
  own : ∀ (i : Nat) (ds : List D), env[i]? = some (.own ds) → ∃ a, σ[i]? = some (some (.ref a)) ∧ OwnAt K s F H a ds
  dist : ∀ (i j : Nat) (a : Addr) (ds es : List D), i ≠ j → env[i]? = some (.own ds) → env[j]? = some (.own es) → σ[i]? = some (some (.ref a)) → σ[j]? ≠ some (some (.ref a))
/-- not one of the slots' own lists -/
def Off (env : Ev) (σ : L2.St) (a : Addr) : Prop := ∀ (i : Nat) (ds : List D), env[i]? = some (.own ds) → σ[i]? ≠ some (some (.ref a))

theorem same_upd {H : Hp} {p : Addr} {o : HO} (h : H p = none) : Same H (upd H p o) := fun b x e => by
  rw [upd_ne (ne_of_none e h)]
  exact e
theorem same_upd2 {F H : Hp} {p : Addr} {o : HO} (e : Same F H) : Same (upd F p o) (upd H p o) := fun b x h => by
  unfold upd at h ⊢
  split
  · rename_i hb
    rw [if_pos hb] at h
    exact h
  · rename_i hb
    rw [if_neg hb] at h
    exact e b x h
theorem same_off {F H : Hp} {p : Addr} {o : HO} (e : Same F H) (hp : F p = none) : Same F (upd H p o) := fun b x h => by
  rw [upd_ne (ne_of_none h hp)]
  exact e b x h
section core
variable {K : PySem.W.Frag} {s : Snap} {env : Ev} {S : Cells} {F H : Hp} {σ : L2.St} {p : Addr} {o : HO}
theorem RelH.h0 (r : RelH K s S F H) (hp : H p = none) : s.H0 p = none ∧ p ∉ s.wr ∧ F p = none := by
  have hni : p ∉ s.wr := fun hm => by
    obtain ⟨n, hn⟩ := List.getElem?_of_mem hm
    have hl : n < S.length := by
      rw [← r.len]
      exact (List.getElem?_eq_some_iff.mp hn).1
    obtain ⟨_, xs, hx, _⟩ := r.cell n p S[n] hn (List.getElem?_eq_getElem hl)
    rw [hp] at hx
    cases hx
  refine ⟨?_, hni, r.fh.free hp⟩
  cases q : s.H0 p with
  | none => rfl
  | some u =>
    have := r.frame p u q hni
    rw [hp] at this
    cases this
/-- a new object, of no further concern -/
theorem RelH.lay (r : RelH K s S F H) (hp : H p = none) : RelH K s S F (upd H p o) := by
  obtain ⟨h0, hni, hf⟩ := r.h0 hp
  refine ⟨same_off r.fh hf, r.f0, r.new, fun a u e hn => ?_, r.len, r.nd, fun n a ds h1 h2 => ?_⟩
  · rw [upd_ne (fun z => by rw [z, h0] at e; cases e)]
    exact r.frame a u e hn
  · obtain ⟨g1, xs, g2, g3⟩ := r.cell n a ds h1 h2
    exact ⟨g1, xs, by rw [upd_ne (ne_of_none g2 hp)]; exact g2, g3⟩
/-- .. frozen -/
theorem RelH.freeze (r : RelH K s S F H) (hf : F p = none) (h0 : s.H0 p = none) (hni : p ∉ s.wr) (hp : H p = some o) : RelH K s S (upd F p o) H := by
  have sm : Same F (upd F p o) := same_upd hf
  refine ⟨fun b x e => ?_, r.f0.trans sm, fun a e => ?_, r.frame, r.len, r.nd, fun n a ds h1 h2 => ?_⟩
  · unfold upd at e
    split at e
    · rename_i hb
      cases e
      rw [hb]
      exact hp
    · exact r.fh b x e
  · by_cases ha : a = p
    · rw [ha]
      exact .inr h0
    · rw [upd_ne ha] at e
      exact r.new a e
  · obtain ⟨g1, xs, g2, g3⟩ := r.cell n a ds h1 h2
    refine ⟨?_, xs, g2, Reps.mono sm ds xs g3⟩
    have ne : a ≠ p := fun z => hni (by rw [← z]; exact List.mem_of_getElem? h1)
    rw [upd_ne ne]
    exact g1
theorem R.lay (r : R K s env S F σ H) (hp : H p = none) : R K s env S F σ (upd H p o) ∧ Off env σ p := by
  refine ⟨⟨r.h.lay hp, r.len, r.val, fun i ds e => ?_, r.dist⟩, fun i ds e q => ?_⟩
  · obtain ⟨a, h1, h2, h3, h4, xs, h5, h6⟩ := r.own i ds e
    exact ⟨a, h1, h2, h3, h4, xs, by rw [upd_ne (ne_of_none h5 hp)]; exact h5, h6⟩
  · obtain ⟨a, h1, _, _, _, xs, h5, _⟩ := r.own i ds e
    rw [q] at h1
    cases h1
    rw [hp] at h5
    cases h5
theorem OwnAt.mono {a : Addr} {ds : List D} {F' : Hp} (h : OwnAt K s F H a ds) (e : Same F F') (hf : F' a = none) : OwnAt K s F' H a ds := by
  obtain ⟨_, h0, hn, xs, h1, h2⟩ := h
  exact ⟨hf, h0, hn, xs, h1, Reps.mono e ds xs h2⟩
theorem R.freeze (r : R K s env S F σ H) (hf : F p = none) (h0 : s.H0 p = none) (hni : p ∉ s.wr) (hp : H p = some o) (off : Off env σ p) : R K s env S (upd F p o) σ H := by
  have sm : Same F (upd F p o) := same_upd hf
  refine ⟨r.h.freeze hf h0 hni hp, r.len, fun i d e => ?_, fun i ds e => ?_, r.dist⟩
  · obtain ⟨v, h1, h2⟩ := r.val i d e
    exact ⟨v, h1, Rep.mono sm d v h2⟩
  · obtain ⟨a, h1, h2⟩ := r.own i ds e
    refine ⟨a, h1, h2.mono sm ?_⟩
    have ne : a ≠ p := fun z => off i ds e (by rw [← z]; exact h1)
    rw [upd_ne ne]
    exact h2.fr
/-- a new frozen object -/
theorem R.new (r : R K s env S F σ H) (hp : H p = none) : R K s env S (upd F p o) σ (upd H p o) ∧ Same F (upd F p o) := by
  obtain ⟨r1, off⟩ := r.lay (o := o) hp
  obtain ⟨h0, hni, hf⟩ := r.h.h0 hp
  exact ⟨r1.freeze hf h0 hni upd_same off, same_upd hf⟩
/-- behind a call: the callee's own entry was the state here -/
theorem RelH.after {S' : Cells} {F' H' : Hp} (r : RelH K s S F H) (c : RelH K ⟨s.io, s.nw, H, F⟩ S' F' H') : RelH K s S' F' H' := by
  refine ⟨c.fh, r.f0.trans c.f0, fun a e => ?_, fun a u e hn => c.frame a u (r.frame a u e hn) hn, c.len, r.nd, c.cell⟩
  rcases c.new a e with h | h
  · exact r.new a h
  · exact .inr (r.h0 h).1
theorem R.after {S' : Cells} {F' H' : Hp} (r : R K s env S F σ H) (c : RelH K ⟨s.io, s.nw, H, F⟩ S' F' H') : R K s env S' F' σ H' := by
  refine ⟨r.h.after c, r.len, fun i d e => ?_, fun i ds e => ?_, r.dist⟩
  · obtain ⟨v, h1, h2⟩ := r.val i d e
    exact ⟨v, h1, Rep.mono c.f0 d v h2⟩
  · obtain ⟨a, h1, h2, h3, h4, xs, h5, h6⟩ := r.own i ds e
    refine ⟨a, h1, ?_, h3, h4, xs, c.frame a _ h5 h4, Reps.mono c.f0 ds xs h6⟩
    cases q : F' a with
    | none => rfl
    | some u =>
      rcases c.new a (by rw [q]; exact fun z => nomatch z) with z | z
      · exact absurd h2 z
      · have z' : H a = none := z
        rw [z'] at h5
        cases h5
theorem RelH.enter (r : RelH K s S F H) : RelH K ⟨s.io, s.nw, H, F⟩ S F H :=
  ⟨r.fh, Same.refl F, fun a e => .inl e, fun a o e _ => e, r.len, r.nd, r.cell⟩
end core

/-! ### readings by meanings -/
/-- an error lies so -/
def RepX (G : Gm) (F H : Hp) (io : List Addr) (x : Ex) (c : Value) (dx : Option Addr) : Prop :=
  c = G.cv x.nm ∧ ((x.fs = [] ∧ dx = none) ∨ ∃ d vs, dx = some d ∧ H d = some (.xd vs) ∧ vs.map (·.1) = x.fs.map (·.1) ∧ Reps G.K F io (x.fs.map (·.2)) (vs.map (·.2)))
abbrev Rp (α β : Type) := Snap → Ev → Hp → L2.St → Hp → α → β → Prop
def OutP {α β : Type} (G : Gm) (W : WX) (rp : Rp α β) (s : Snap) (env : Ev) (σ : L2.St) (F : Hp) (o : Out α) (Q : β → Hp → Prop) : Prop := match o with
  | .ok a S' => ∀ b F' H', R G.K s env S' F' σ H' → Same F F' → rp s env F' σ H' a b → Q b H'
  | .ex x S' => ∀ c dx F' H', R G.K s env S' F' σ H' → RepX G F' H' s.io x c dx → W c dx σ H'
  | .no => False
def tG {α β : Type} (G : Gm) (W : WX) (rp : Rp α β) (m : Ev → Cells → Out α) : L2.St → Hp → (β → Hp → Prop) → Prop := fun σ H Q =>
  ∃ s env S F, R G.K s env S F σ H ∧ OutP G W rp s env σ F (m env S) Q
abbrev rpE (G : Gm) : Rp D V := fun s _ F _ _ d v => Rep G.K F s.io d v
abbrev rpA (G : Gm) : Rp (List D) (List V) := fun s _ F _ _ d v => Reps G.K F s.io d v
abbrev rpT : Rp Bool Bool := fun _ _ _ _ _ a b => a = b
abbrev rpP : Rp (Option Int) (Option Int) := fun _ _ _ _ _ a b => a = b
abbrev rpO (G : Gm) : Rp (List D) V := fun s env F σ H ds v => ∃ a, v = .ref a ∧ OwnAt G.K s F H a ds ∧ Off env σ a
abbrev tE (G : Gm) (W : WX) (m : Me) : TE := tG G W (rpE G) m
abbrev tA (G : Gm) (W : WX) (m : Ma) : TA := tG G W (rpA G) m
abbrev tT (G : Gm) (W : WX) (m : Mt) : TT := tG G W rpT m
abbrev tO (G : Gm) (W : WX) (m : Ma) : TE := tG G W (rpO G) m
abbrev tPt (G : Gm) (W : WX) (m : Ev → Cells → Out (Option Int)) : TO := tG G W rpP m

section out
variable {α β γ δ : Type} {G : Gm} {W : WX} {rp : Rp α β} {rp2 : Rp γ δ} {s : Snap} {env : Ev} {σ : L2.St} {F F' : Hp}
theorem OutP.weak {o : Out α} {Q : β → Hp → Prop} (h : OutP G W rp s env σ F o Q) (e : Same F F') : OutP G W rp s env σ F' o Q := by
  cases o with
  | ok a S' => exact fun b F2 H' r sm q => h b F2 H' r (e.trans sm) q
  | ex x S' => exact h
  | no => exact h
theorem OutP.bind {om : Out α} {k : α → Cells → Out γ} {Q : δ → Hp → Prop} {Q1 : β → Hp → Prop} (h : OutP G W rp2 s env σ F (om.bind k) Q)
    (hk : ∀ a S' b F' H', R G.K s env S' F' σ H' → Same F F' → rp s env F' σ H' a b → OutP G W rp2 s env σ F' (k a S') Q → Q1 b H') : OutP G W rp s env σ F om Q1 := by
  cases om with
  | ok a S' => exact fun b F' H' r sm q => hk a S' b F' H' r sm q (OutP.weak h sm)
  | ex x S' => exact h
  | no => exact h
end out
theorem PE.weak {X : Cx} {e : Expr} {t t' : TE} (h : PE X e t) (w : ∀ σ H Q, t' σ H Q → t σ H Q) : PE X e t' := ⟨fun pins s σ H Q I q => h.run pins s σ H Q I (w σ H Q q)⟩
theorem PT.weak {X : Cx} {e : Expr} {t t' : TT} (h : PT X e t) (w : ∀ σ H Q, t' σ H Q → t σ H Q) : PT X e t' := ⟨fun pins s σ H Q I q => h.run pins s σ H Q I (w σ H Q q)⟩
theorem PA.weak {X : Cx} {e : List Expr} {t t' : TA} (h : PA X e t) (w : ∀ σ H Q, t' σ H Q → t σ H Q) : PA X e t' := ⟨fun p pins s σ H Q I q => h.run p pins s σ H Q I (w σ H Q q)⟩
theorem PS.weak {X : Cx} {e : Stmt} {t t' : TS} (h : PS X e t) (w : ∀ D σ H, t' D σ H → t D σ H) : PS X e t' := ⟨fun pins s σ H D I q => h.run pins s σ H D I (w D σ H q)⟩
theorem PSs.weak {X : Cx} {e : List Stmt} {t t' : TS} (h : PSs X e t) (w : ∀ D σ H, t' D σ H → t D σ H) : PSs X e t' := ⟨fun pins s σ H D I q => h.run pins s σ H D I (w D σ H q)⟩
end TT
namespace TT
open PySem PySem.Spec PyProof.Rows L2

/-! ### expressions -/
def DE (X : Cx) (cv : String → Value) (W : WX) (e : Expr) (m : Me) : Prop := PE X e (tE ⟨X.K, cv⟩ W m)
def DT (X : Cx) (cv : String → Value) (W : WX) (e : Expr) (m : Mt) : Prop := PT X e (tT ⟨X.K, cv⟩ W m)
def DW (X : Cx) (cv : String → Value) (W : WX) (e : Expr) (m : Mt) : Prop := PW X e (tT ⟨X.K, cv⟩ W m)
def DA (X : Cx) (cv : String → Value) (W : WX) (es : List Expr) (m : Ma) : Prop := PA X es (tA ⟨X.K, cv⟩ W m)
/-- an expression that makes a new list -/
def DO (X : Cx) (cv : String → Value) (W : WX) (e : Expr) (m : Ma) : Prop := PE X e (tO ⟨X.K, cv⟩ W m)
def DPt (X : Cx) (cv : String → Value) (W : WX) (e : Option Expr) (m : Ev → Cells → Out (Option Int)) : Prop := PO X e (tPt ⟨X.K, cv⟩ W m)

def dVar (i : Nat) : Me := fun env S => match env[i]? with
  | some (.val d) => .ok d S
  | _ => .no
def dC (d : D) : Me := fun _ S => .ok d S
def dUn {α : Type} (f : D → Cells → Out α) (m : Me) : Ev → Cells → Out α := fun env S => (m env S).bind f
def dBin {α : Type} (f : D → D → Cells → Out α) (m1 m2 : Me) : Ev → Cells → Out α := fun env S => (m1 env S).bind fun a S1 => (m2 env S1).bind fun b S2 => f a b S2
def aNil : Ma := fun _ S => .ok [] S
def aCons (m : Me) (ma : Ma) : Ma := fun env S => (m env S).bind fun d S1 => (ma env S1).bind fun ds S2 => .ok (d :: ds) S2
def dArgs {α : Type} (f : List D → Cells → Out α) (ma : Ma) : Ev → Cells → Out α := fun env S => (ma env S).bind f
def asB (d : D) (S : Cells) : Out Bool := match d with
  | .bl b => .ok b S
  | _ => .no
def tB (m : Me) : Mt := fun env S => (m env S).bind asB
def mAnd (a b : Mt) : Mt := fun env S => (a env S).bind fun c S1 => if c = true then b env S1 else .ok false S1
def mOr (a b : Mt) : Mt := fun env S => (a env S).bind fun c S1 => if c = true then .ok true S1 else b env S1
def mNot (a : Mt) : Mt := fun env S => (a env S).bind fun c S1 => .ok (!c) S1
def dIf (c : Mt) (a b : Me) : Me := fun env S => (c env S).bind fun k S1 => if k = true then a env S1 else b env S1
def dAnd (a b : Me) : Me := fun env S => (a env S).bind fun d S1 => (asB d S1).bind fun c S1 => if c = true then b env S1 else .ok (.bl false) S1
def dOr (a b : Me) : Me := fun env S => (a env S).bind fun d S1 => (asB d S1).bind fun c S1 => if c = true then .ok (.bl true) S1 else b env S1
def dNot (a : Me) : Me := fun env S => (a env S).bind fun d S1 => (asB d S1).bind fun c S1 => .ok (.bl (!c)) S1
def pNone : Ev → Cells → Out (Option Int) := fun _ S => .ok none S
def pSome (m : Me) : Ev → Cells → Out (Option Int) := fun env S => (m env S).bind fun d S1 => match d with
  | .int i => .ok (some i) S1
  | _ => .no

section rules
variable {X : Cx} {cv : String → Value} {W : WX} {e e1 e2 : Expr} {es : List Expr} {m m1 m2 : Me} {ma : Ma} {pos : Pos}

theorem de_var (i : Nat) {x : Str} (hN : X.N[i]? = some x := by rfl) (hv : Vis X.env.scope x := by first | exact Or.inl rfl | exact Or.inr (Or.inl rfl) | exact Or.inr (Or.inr rfl)) (hd : (x == ("__debug__" : Str)) = false := by decide)
    (hcd : (x == ("__classdict__" : Str)) = false := by decide) : DE X cv W (.Name x pos) (dVar i) := PE.weak (pe_var hN hv hd hcd) fun σ H Q ⟨s, env, S, F, r, o⟩ => by
  unfold dVar at o
  split at o
  · rename_i d h
    obtain ⟨v, h1, h2⟩ := r.val i d h
    exact ⟨v, h1, o v F H r (Same.refl F) h2⟩
  · exact o.elim
theorem de_c {te : TE} {v : V} {d : D} (h : PE X e te) (ht : te = tC v) (hr : ∀ K F io, Rep K F io d v) : DE X cv W e (dC d) := by
  subst ht
  exact PE.weak h fun σ H Q ⟨s, env, S, F, r, o⟩ => o v F H r (Same.refl F) (hr _ _ _)
theorem de_int {i j} : DE X cv W (.Constant (.int i) j pos) (dC (.int i)) := de_c pe_int rfl fun _ _ _ => rfl
theorem de_bl {b j} : DE X cv W (.Constant (.bool b) j pos) (dC (.bl b)) := de_c pe_bl rfl fun _ _ _ => rfl
theorem de_non {j} : DE X cv W (.Constant .none j pos) (dC .non) := de_c pe_non rfl fun _ _ _ => rfl
theorem de_str {t : String} {j} : DE X cv W (.Constant (.str (Str.ofString t)) j pos) (dC (.str t.toList)) := de_c pe_str rfl fun _ _ _ => by
  show V.str (Str.ofString t) = V.str (cps t.toList)
  rw [Str.ofString_eq_toList]
  rfl
theorem da_nil : DA X cv W [] aNil := PA.weak pa_nil fun σ H Q ⟨s, env, S, F, r, o⟩ => o [] F H r (Same.refl F) rfl
theorem da_cons (h : DE X cv W e m) (hr : DA X cv W es ma) (hs : starEach (e :: es) X.env = (false, eval e X.env) :: starEach es X.env := by rfl) : DA X cv W (e :: es) (aCons m ma) :=
  PA.weak (pa_cons h hr hs) fun σ H Q ⟨s, env, S, F, r, o⟩ => ⟨s, env, S, F, r, OutP.bind (rp := rpE _) o fun d S1 v F1 H1 r1 sm rv o1 => ⟨s, env, S1, F1, r1, OutP.bind (rp := rpA _) o1 fun ds S2 vs F2 H2 r2 sm2 rvs o2 =>
    o2 (v :: vs) F2 H2 r2 (Same.refl F2) ⟨v, vs, rfl, Rep.mono sm2 d v rv, rvs⟩⟩⟩

/-- what an operation's rule asks is got from its meaning -/
def Op2 (cv : String → Value) (X : Cx) {α : Type} (rp : Rp α V) (r : R2) (f : D → D → Cells → Out α) : Prop := ∀ (W : WX) (s : Snap) (env : Ev) (S : Cells) (F : Hp) (σ : L2.St) (H : Hp) (a b : D) (x y : V) (Q : VK),
  R X.K s env S F σ H → Rep X.K F s.io a x → Rep X.K F s.io b y → OutP ⟨X.K, cv⟩ W rp s env σ F (f a b S) Q → r x y H Q
def Op1 (cv : String → Value) (X : Cx) {α : Type} (rp : Rp α V) (r : V → Hp → VK → Prop) (f : D → Cells → Out α) : Prop := ∀ (W : WX) (s : Snap) (env : Ev) (S : Cells) (F : Hp) (σ : L2.St) (H : Hp) (a : D) (x : V) (Q : VK),
  R X.K s env S F σ H → Rep X.K F s.io a x → OutP ⟨X.K, cv⟩ W rp s env σ F (f a S) Q → r x H Q
def OpA (cv : String → Value) (X : Cx) {α : Type} (rp : Rp α V) (r : List V → Hp → VK → Prop) (f : List D → Cells → Out α) : Prop := ∀ (W : WX) (s : Snap) (env : Ev) (S : Cells) (F : Hp) (σ : L2.St) (H : Hp) (ds : List D) (vs : List V) (Q : VK),
  R X.K s env S F σ H → Reps X.K F s.io ds vs → OutP ⟨X.K, cv⟩ W rp s env σ F (f ds S) Q → r vs H Q
/-- a method: the object, the arguments -/
def OpM (cv : String → Value) (X : Cx) {α : Type} (rp : Rp α V) (T : String) (r : V → List V → Hp → VK → Prop) (f : D → List D → Cells → Out α) : Prop := ∀ (W : WX) (s : Snap) (env : Ev) (S : Cells) (F : Hp) (σ : L2.St) (H : Hp) (d : D) (x : V) (ds : List D) (vs : List V) (Q : VK),
  R X.K s env S F σ H → Rep X.K F s.io d x → Reps X.K F s.io ds vs → OutP ⟨X.K, cv⟩ W rp s env σ F (f d ds S) Q → r x vs H Q

theorem bin_w {α : Type} {rp : Rp α V} {r : R2} {f : D → D → Cells → Out α} {ta tb : TE} (hf : Op2 cv X rp r f) (ha : ta = tE ⟨X.K, cv⟩ W m1) (hb : tb = tE ⟨X.K, cv⟩ W m2) (σ : L2.St) (H : Hp) (Q : VK)
    (h : tG ⟨X.K, cv⟩ W rp (dBin f m1 m2) σ H Q) : tOp r ta tb σ H Q := by
  subst ha hb
  obtain ⟨s, env, S, F, r0, o⟩ := h
  exact ⟨s, env, S, F, r0, OutP.bind (rp := rpE _) o fun a S1 x F1 H1 r1 sm rv o1 => ⟨s, env, S1, F1, r1, OutP.bind (rp := rpE _) o1 fun b S2 y F2 H2 r2 sm2 rv2 o2 =>
    hf W s env S2 F2 σ H2 a b x y Q r2 (Rep.mono sm2 a x rv) rv2 o2⟩⟩
theorem de_bin {op : Operator} {r : R2} {f : D → D → Cells → Out D} (ho : OpR X (binaryOp op) r) (hf : Op2 cv X (rpE ⟨X.K, cv⟩) r f) (h1 : DE X cv W e1 m1) (h2 : DE X cv W e2 m2) : DE X cv W (.BinOp e1 op e2 pos) (dBin f m1 m2) :=
  PE.weak (pe_op ho h1 h2) (bin_w hf rfl rfl)
theorem do_bin {op : Operator} {r : R2} {f : D → D → Cells → Out (List D)} (ho : OpR X (binaryOp op) r) (hf : Op2 cv X (rpO ⟨X.K, cv⟩) r f) (h1 : DE X cv W e1 m1) (h2 : DE X cv W e2 m2) : DO X cv W (.BinOp e1 op e2 pos) (dBin f m1 m2) :=
  PE.weak (pe_op ho h1 h2) (bin_w hf rfl rfl)
theorem de_un {op : UnaryOp} {r : V → Hp → VK → Prop} {f : D → Cells → Out D} (ho : UnR X (unaryOp op) r) (hf : Op1 cv X (rpE ⟨X.K, cv⟩) r f) (h1 : DE X cv W e1 m1) : DE X cv W (.UnaryOp op e1 pos) (dUn f m1) :=
  PE.weak (pe_un ho h1) fun σ H Q ⟨s, env, S, F, r0, o⟩ => ⟨s, env, S, F, r0, OutP.bind (rp := rpE _) o fun a S1 x F1 H1 r1 sm rv o1 => hf W s env S1 F1 σ H1 a x Q r1 rv o1⟩
theorem de_cmp {op : CmpOp} {r : R2} {f : D → D → Cells → Out D} (ho : OpR X (compareOp op) r) (hf : Op2 cv X (rpE ⟨X.K, cv⟩) r f) (h1 : DE X cv W e1 m1) (h2 : DE X cv W e2 m2) (hm : behindInMarks op e2 = false) : DE X cv W (.Compare e1 [op] [e2] pos) (dBin f m1 m2) :=
  PE.weak (pe_cmpR ho h1 h2 hm) (bin_w hf rfl rfl)
/-- a value as a test -/
theorem tst_w {te : TE} (ht : te = tE ⟨X.K, cv⟩ W m) (σ : L2.St) (H : Hp) (Q : Bool → Hp → Prop) (h : tT ⟨X.K, cv⟩ W (tB m) σ H Q) : tTest te σ H Q := by
  subst ht
  obtain ⟨s, env, S, F, r0, o⟩ := h
  refine ⟨s, env, S, F, r0, OutP.bind (rp := rpE _) o fun a S1 x F1 H1 r1 sm rv o1 => ?_⟩
  cases a with
  | bl b =>
    cases rv
    exact ⟨b, rfl, o1 b F1 H1 r1 (Same.refl F1) rfl⟩
  | _ => exact False.elim o1
theorem dt_cmp {op : CmpOp} {r : R2} {f : D → D → Cells → Out D} (ho : OpR X (compareOp op) r) (hf : Op2 cv X (rpE ⟨X.K, cv⟩) r f) (h1 : DE X cv W e1 m1) (h2 : DE X cv W e2 m2) (hm : behindInMarks op e2 = false) : DT X cv W (.Compare e1 [op] [e2] pos) (tB (dBin f m1 m2)) :=
  PT.weak (pt_cmpR ho h1 h2 hm) fun σ H Q ⟨s, env, S, F, r0, o⟩ => by
    refine ⟨s, env, S, F, r0, ?_⟩
    have o' : OutP ⟨X.K, cv⟩ W rpT s env σ F (((m1 env S).bind fun a S1 => (m2 env S1).bind fun b S2 => f a b S2).bind asB) Q := o
    cases q : m1 env S with
    | ok a S1 =>
      rw [q] at o'
      intro x F1 H1 r1 sm rv
      refine ⟨s, env, S1, F1, r1, ?_⟩
      have o2 := OutP.weak o' sm
      cases q2 : m2 env S1 with
      | ok b S2 =>
        simp only [Out.bind, q2] at o2
        intro y F2 H2 r2 sm2 rv2
        refine hf W s env S2 F2 σ H2 a b x y _ r2 (Rep.mono sm2 a x rv) rv2 ?_
        have o3 := OutP.weak o2 sm2
        cases q3 : f a b S2 with
        | ok d S3 =>
          rw [q3] at o3
          intro z F3 H3 r3 sm3 rv3
          cases d with
          | bl k =>
            cases rv3
            exact ⟨k, rfl, o3 k F3 H3 r3 sm3 rfl⟩
          | _ => exact False.elim o3
        | ex x S' =>
          rw [q3] at o3
          exact o3
        | no =>
          rw [q3] at o3
          exact o3
      | ex x S' =>
        simp only [Out.bind, q2] at o2
        exact o2
      | no =>
        simp only [Out.bind, q2] at o2
        exact False.elim o2
    | ex x S' =>
      rw [q] at o'
      exact o'
    | no =>
      rw [q] at o'
      exact o'

/-! ### tests -/
variable {mt mt1 mt2 : Mt} {rest : List Expr}
theorem dt_val (h : DE X cv W e m) (he : ∀ whole, isTrue e X.env whole = (do let v ← whole; standAt e.pos; holding [v] (truthy v)) := by intro _; rfl) : DT X cv W e (tB m) :=
  PT.weak (pt_val h he) fun σ H Q q => by
    obtain ⟨s, env, S, F, r0, o⟩ := q
    refine ⟨s, env, S, F, r0, OutP.bind (rp := rpE _) o fun a S1 x F1 H1 r1 sm rv o1 => ?_⟩
    cases a with
    | bl b =>
      cases rv
      exact ⟨b, rfl, o1 b F1 H1 r1 (Same.refl F1) rfl⟩
    | _ => exact False.elim o1
theorem dw_and1 (h : DT X cv W e mt) : DW X cv W (.BoolOp .And [e] pos) mt := pw_and1 h
theorem dw_or1 (h : DT X cv W e mt) : DW X cv W (.BoolOp .Or [e] pos) mt := pw_or1 h
theorem PW.weak {t t' : TT} (h : PW X e t) (w : ∀ σ H Q, t' σ H Q → t σ H Q) : PW X e t' := ⟨fun wh pins s σ H Q I q => h.run wh pins s σ H Q I (w σ H Q q)⟩
theorem dw_and (ha : DT X cv W e1 mt1) (hb : DW X cv W (.BoolOp .And (e2 :: rest) pos) mt2) : DW X cv W (.BoolOp .And (e1 :: e2 :: rest) pos) (mAnd mt1 mt2) :=
  PW.weak (pw_and ha hb) fun σ H Q ⟨s, env, S, F, r0, o⟩ => ⟨s, env, S, F, r0, OutP.bind (rp := rpT) o fun a S1 b F1 H1 r1 sm rv o1 => by
    cases rv
    cases a with
    | true => exact ⟨s, env, S1, F1, r1, o1⟩
    | false => exact o1 false F1 H1 r1 (Same.refl F1) rfl⟩
theorem dw_or (ha : DT X cv W e1 mt1) (hb : DW X cv W (.BoolOp .Or (e2 :: rest) pos) mt2) : DW X cv W (.BoolOp .Or (e1 :: e2 :: rest) pos) (mOr mt1 mt2) :=
  PW.weak (pw_or ha hb) fun σ H Q ⟨s, env, S, F, r0, o⟩ => ⟨s, env, S, F, r0, OutP.bind (rp := rpT) o fun a S1 b F1 H1 r1 sm rv o1 => by
    cases rv
    cases a with
    | false => exact ⟨s, env, S1, F1, r1, o1⟩
    | true => exact o1 true F1 H1 r1 (Same.refl F1) rfl⟩
theorem dt_w (h : DW X cv W e mt) : DT X cv W e mt := PW.pt h
theorem dt_not (h : DT X cv W e mt) : DT X cv W (.UnaryOp .Not e pos) (mNot mt) :=
  PT.weak (pt_not h) fun σ H Q ⟨s, env, S, F, r0, o⟩ => ⟨s, env, S, F, r0, OutP.bind (rp := rpT) o fun a S1 b F1 H1 r1 sm rv o1 => by
    cases rv
    exact o1 (!a) F1 H1 r1 (Same.refl F1) rfl⟩
theorem asB_w {S : Cells} {s : Snap} {env : Ev} {F : Hp} {σ : L2.St} {a : D} {x : V} {γ δ : Type} {rp : Rp γ δ} {k : Bool → Cells → Out γ} {Q : δ → Hp → Prop} {R' : Bool → Prop} (rv : Rep X.K F s.io a x)
    (o : OutP ⟨X.K, cv⟩ W rp s env σ F ((asB a S).bind k) Q) (h : ∀ c, OutP ⟨X.K, cv⟩ W rp s env σ F (k c S) Q → R' c) : ∃ c, x = .bl c ∧ R' c := by
  cases a with
  | bl b =>
    cases rv
    exact ⟨b, rfl, h b o⟩
  | _ => exact False.elim o
theorem de_one {op : BoolOp} (h : DE X cv W e m) : DE X cv W (.BoolOp op [e] pos) m := pe_one h
theorem de_and (ha : DE X cv W e1 m1) (hb : DE X cv W (.BoolOp .And (e2 :: rest) pos) m2) : DE X cv W (.BoolOp .And (e1 :: e2 :: rest) pos) (dAnd m1 m2) :=
  PE.weak (pe_and ha hb) fun σ H Q ⟨s, env, S, F, r0, o⟩ => ⟨s, env, S, F, r0, OutP.bind (rp := rpE _) o fun a S1 x F1 H1 r1 sm rv o1 => asB_w rv o1 fun c o2 => by
    cases c with
    | true => exact ⟨s, env, S1, F1, r1, o2⟩
    | false => exact o2 _ F1 H1 r1 (Same.refl F1) rfl⟩
theorem de_or (ha : DE X cv W e1 m1) (hb : DE X cv W (.BoolOp .Or (e2 :: rest) pos) m2) : DE X cv W (.BoolOp .Or (e1 :: e2 :: rest) pos) (dOr m1 m2) :=
  PE.weak (pe_or ha hb) fun σ H Q ⟨s, env, S, F, r0, o⟩ => ⟨s, env, S, F, r0, OutP.bind (rp := rpE _) o fun a S1 x F1 H1 r1 sm rv o1 => asB_w rv o1 fun c o2 => by
    cases c with
    | false => exact ⟨s, env, S1, F1, r1, o2⟩
    | true => exact o2 _ F1 H1 r1 (Same.refl F1) rfl⟩
theorem de_not (h : DE X cv W e m) : DE X cv W (.UnaryOp .Not e pos) (dNot m) :=
  PE.weak (pe_not h) fun σ H Q ⟨s, env, S, F, r0, o⟩ => ⟨s, env, S, F, r0, OutP.bind (rp := rpE _) o fun a S1 x F1 H1 r1 sm rv o1 => asB_w rv o1 fun c o2 => o2 _ F1 H1 r1 (Same.refl F1) rfl⟩
theorem de_if {c : Expr} (hc : DT X cv W c mt) (ha : DE X cv W e1 m1) (hb : DE X cv W e2 m2) : DE X cv W (.IfExp c e1 e2 pos) (dIf mt m1 m2) :=
  PE.weak (pe_ifExp hc ha hb) fun σ H Q ⟨s, env, S, F, r0, o⟩ => ⟨s, env, S, F, r0, OutP.bind (rp := rpT) o fun a S1 b F1 H1 r1 sm rv o1 => by
    cases rv
    cases a with
    | true => exact ⟨s, env, S1, F1, r1, o1⟩
    | false => exact ⟨s, env, S1, F1, r1, o1⟩⟩

/-! ### parts of a slice -/
theorem PO.weak {e : Option Expr} {t t' : TO} (h : PO X e t) (w : ∀ σ H Q, t' σ H Q → t σ H Q) : PO X e t' := ⟨fun pins s σ H Q I q => h.run pins s σ H Q I (w σ H Q q)⟩
theorem dp_none : DPt X cv W none pNone := PO.weak po_none fun σ H Q ⟨s, env, S, F, r, o⟩ => o none F H r (Same.refl F) rfl
theorem dp_some (h : DE X cv W e m) : DPt X cv W (some e) (pSome m) := PO.weak (po_some h) fun σ H Q ⟨s, env, S, F, r, o⟩ => ⟨s, env, S, F, r, OutP.bind (rp := rpE _) o fun a S1 x F1 H1 r1 sm rv o1 => by
  cases a with
  | int i =>
    cases rv
    exact ⟨i, rfl, o1 _ F1 H1 r1 (Same.refl F1) rfl⟩
  | _ => exact False.elim o1⟩

/-! ### displays, new lists frozen -/
def dTup (ma : Ma) : Me := fun env S => (ma env S).bind fun ds S1 => if ds.length ≤ 16777216 then .ok (.tup ds) S1 else .no
def oLst (ma : Ma) : Ma := fun env S => (ma env S).bind fun ds S1 => if ds.length ≤ 16777216 then .ok ds S1 else .no
/-- a new list, frozen at once -/
def dFz (mo : Ma) : Me := fun env S => (mo env S).bind fun ds S1 => .ok (.lst ds) S1
theorem sz_ok {n : Nat} (h : n ≤ 16777216) : n ≤ sizeLine := by rw [sizeLine_eq]; exact h
theorem de_tup {x1} (h : DA X cv W es ma) : DE X cv W (.Tuple es x1 pos) (dTup ma) :=
  PE.weak (pe_tup h) fun σ H Q ⟨s, env, S, F, r0, o⟩ => ⟨s, env, S, F, r0, OutP.bind (rp := rpA _) o fun ds S1 vs F1 H1 r1 sm rv o1 => by
    by_cases hl : ds.length ≤ 16777216
    · rw [if_pos hl] at o1
      refine ⟨sz_ok (by rw [Reps.len rv]; exact hl), fun p hp => ?_⟩
      obtain ⟨r2, sm2⟩ := r1.new (o := .tup vs) hp
      exact o1 _ _ _ r2 sm2 ⟨p, vs, rfl, .inl (.inl upd_same), Reps.mono sm2 ds vs rv⟩
    · rw [if_neg hl] at o1
      exact False.elim o1⟩
theorem do_lst (h : DA X cv W es ma) : DO X cv W (.List es pos) (oLst ma) :=
  PE.weak (pe_lst h) fun σ H Q ⟨s, env, S, F, r0, o⟩ => ⟨s, env, S, F, r0, OutP.bind (rp := rpA _) o fun ds S1 vs F1 H1 r1 sm rv o1 => by
    by_cases hl : ds.length ≤ 16777216
    · rw [if_pos hl] at o1
      refine ⟨sz_ok (by rw [Reps.len rv]; exact hl), fun p hp => ?_⟩
      obtain ⟨r2, off⟩ := r1.lay (o := .lst vs) hp
      obtain ⟨h0, hni, hf⟩ := r1.h.h0 hp
      exact o1 _ _ _ r2 (Same.refl F1) ⟨p, rfl, ⟨hf, h0, hni, vs, upd_same, rv⟩, off⟩
    · rw [if_neg hl] at o1
      exact False.elim o1⟩
theorem R.fz {K : PySem.W.Frag} {s : Snap} {env : Ev} {S : Cells} {F : Hp} {σ : L2.St} {H : Hp} {a : Addr} {ds : List D} (r : R K s env S F σ H) (w : OwnAt K s F H a ds) (off : Off env σ a) :
    ∃ F', R K s env S F' σ H ∧ Same F F' ∧ Rep K F' s.io (.lst ds) (.ref a) := by
  obtain ⟨hf, h0, hni, xs, h1, h2⟩ := w
  have sm : Same F (upd F a (.lst xs)) := same_upd hf
  exact ⟨_, r.freeze hf h0 hni h1 off, sm, a, xs, rfl, upd_same, Reps.mono sm ds xs h2⟩
theorem de_fz {mo : Ma} (h : DO X cv W e mo) : DE X cv W e (dFz mo) :=
  PE.weak h fun σ H Q ⟨s, env, S, F, r0, o⟩ => ⟨s, env, S, F, r0, OutP.bind (rp := rpO _) o fun ds S1 v F1 H1 r1 sm rv o1 => by
    obtain ⟨a, rfl, w, off⟩ := rv
    obtain ⟨F2, r2, sm2, rp⟩ := r1.fz w off
    exact o1 _ F2 H1 r2 sm2 rp⟩

/-! ### subscripts, slices -/
theorem de_ix {r : R2} {f : D → D → Cells → Out D} (hr : IxR X r) (hf : Op2 cv X (rpE ⟨X.K, cv⟩) r f) (h1 : DE X cv W e1 m1) (h2 : DE X cv W e2 m2) (hs : PlainIx e2 := by exact fun _ _ => rfl) : DE X cv W (.Subscript e1 e2 pos) (dBin f m1 m2) :=
  PE.weak (pe_ix hr h1 h2 hs) (bin_w hf rfl rfl)
/-- x[e], x a list of its own in slot i -/
def dIxO (i : Nat) (m : Me) : Me := fun env S => match env[i]? with
  | some (.own ds) => (m env S).bind fun b S1 => match b with
    | .int j => (match atI ds j with | some d => .ok d S1 | none => .no)
    | _ => .no
  | _ => .no
theorem Reps.atI {K : PySem.W.Frag} {F : Hp} {io : List Addr} {ds : List D} {xs : List V} {j : Int} {d : D} (r : Reps K F io ds xs) (h : L2.atI ds j = some d) : ∃ v, L2.atI xs j = some v ∧ Rep K F io d v := by
  unfold L2.atI at h ⊢
  rw [r.len]
  cases q : ixN ds.length j with
  | none =>
    rw [q] at h
    cases h
  | some k =>
    rw [q] at h
    exact r.get h
theorem de_ixO (i : Nat) {x : Str} {xp : Pos} (h2 : DE X cv W e2 m2) (hN : X.N[i]? = some x := by rfl) (hv : Vis X.env.scope x := by first | exact Or.inl rfl | exact Or.inr (Or.inl rfl) | exact Or.inr (Or.inr rfl)) (hs : PlainIx e2 := by exact fun _ _ => rfl)
    (hd : (x == ("__debug__" : Str)) = false := by decide) (hcd : (x == ("__classdict__" : Str)) = false := by decide) : DE X cv W (.Subscript (.Name x xp) e2 pos) (dIxO i m2) :=
  PE.weak (pe_ix ix_list (pe_var hN hv hd hcd) h2 hs) fun σ H Q ⟨s, env, S, F, r0, o⟩ => by
    unfold dIxO at o
    split at o
    · rename_i ds q
      obtain ⟨a, h1, h3⟩ := r0.own i ds q
      refine ⟨.ref a, h1, s, env, S, F, r0, OutP.bind (rp := rpE _) o fun b S1 y F1 H1 r1 sm rv o1 => ?_⟩
      cases b with
      | int j =>
        cases rv
        simp only at o1
        split at o1
        · rename_i d hd
          obtain ⟨a', g1, _, _, _, xs, g2, g3⟩ := r1.own i ds q
          rw [h1] at g1
          cases g1
          obtain ⟨v, hv, rv⟩ := g3.atI hd
          exact ⟨a, xs, j, v, rfl, rfl, .inl (.inl g2), hv, o1 v F1 H1 r1 (Same.refl F1) rv⟩
        · exact o1.elim
      | _ => exact False.elim o1
    · exact o.elim
end rules
end TT
namespace TT
open PySem PySem.Spec PyProof.Rows L2

/-! ### texts -/
theorem cps_len (x : List Char) : (cps x).length = x.length := by simp [cps, Str.length]
theorem cps_list (x : List Char) : (cps x).cps.toList = x.map Char.toNat := by simp [cps]
theorem cps_app (x y : List Char) : cps x ++ cps y = cps (x ++ y) := by
  show Str.mk ((cps x).cps ++ (cps y).cps) = _
  simp [cps]
theorem cps_inj {x y : List Char} (h : cps x = cps y) : x = y := by
  have e : x.map Char.toNat = y.map Char.toNat := by
    have := congrArg (fun z : Str => z.cps.toList) h
    simpa [cps] using this
  exact List.map_inj_right (fun a b h => Char.ext (UInt32.toNat_inj.mp h)) |>.mp e

/-- a list that is read: its items -/
def lv (S : Cells) : D → Option (List D)
  | .lst ds => some ds
  | .cell n => S[n]?
  | _ => none
/-- .. also one that is known to the object (the script) -/
def lvr (S : Cells) : D → Option (List D)
  | .lst ds => some ds
  | .frl ds => some ds
  | .cell n => S[n]?
  | _ => none
section
variable {K : PySem.W.Frag} {s : Snap} {env : Ev} {S : Cells} {F : Hp} {σ : L2.St} {H : Hp} {d : D} {ds : List D} {v : V}
theorem lv_w (r : RelH K s S F H) (h : Rep K F s.io d v) (e : lv S d = some ds) : ∃ a xs, v = .ref a ∧ H a = some (.lst xs) ∧ Reps K F s.io ds xs := by
  cases d with
  | lst es =>
    cases e
    obtain ⟨a, xs, h1, h2, h3⟩ := h
    exact ⟨a, xs, h1, r.fh _ _ h2, h3⟩
  | cell n =>
    obtain ⟨a, h1, h2⟩ := h
    have e' : S[n]? = some ds := e
    have hn : n < s.wr.length := by
      rw [r.len]
      exact (List.getElem?_eq_some_iff.mp e').1
    have hw : s.wr[n]? = some a := by
      unfold Snap.wr at hn ⊢
      rw [List.length_take] at hn
      rw [List.getElem?_take_of_lt (by omega)]
      exact h2
    obtain ⟨_, xs, g1, g2⟩ := r.cell n a ds hw e'
    exact ⟨a, xs, h1, g1, g2⟩
  | _ => cases e
theorem lvr_w (r : RelH K s S F H) (h : Rep K F s.io d v) (e : lvr S d = some ds) : ∃ a xs, v = .ref a ∧ SqL K H a xs ∧ Reps K F s.io ds xs := by
  cases d with
  | lst es =>
    obtain ⟨a, xs, h1, h2, h3⟩ := lv_w (ds := ds) r h e
    exact ⟨a, xs, h1, .inl (.inl h2), h3⟩
  | cell n =>
    obtain ⟨a, xs, h1, h2, h3⟩ := lv_w (ds := ds) r h e
    exact ⟨a, xs, h1, .inl (.inl h2), h3⟩
  | frl es =>
    cases e
    obtain ⟨a, xs, h1, h2, h3⟩ := h
    exact ⟨a, xs, h1, r.fh.seq h2, h3⟩
  | _ => cases e
theorem tup_w (r : RelH K s S F H) (h : Rep K F s.io (.tup ds) v) : ∃ a xs, v = .ref a ∧ SqT K H a xs ∧ Reps K F s.io ds xs := by
  obtain ⟨a, xs, h1, h2, h3⟩ := h
  exact ⟨a, xs, h1, seqT r.fh h2, h3⟩
end

/-! ### arithmetic -/
def lim : Nat := 16777216
def mulOk (i j : Int) : Bool := decide (i.natAbs < 18446744073709551616) || decide (j.natAbs < 18446744073709551616) || decide (i.natAbs.log2 + j.natAbs.log2 < 1000000)
def divOk (j : Int) : Bool := decide (0 < j) && decide (j.natAbs.log2 < 9000)
def opAdd (a b : D) (S : Cells) : Out D := match a, b with
  | .int i, .int j => .ok (.int (i + j)) S
  | .str x, .str y => if x.length + y.length ≤ 16777216 then .ok (.str (x ++ y)) S else .no
  | .tup x, .tup y => if x.length + y.length ≤ 16777216 then .ok (.tup (x ++ y)) S else .no
  | a, b => match lv S a, lv S b with
    | some x, some y => if x.length + y.length ≤ 16777216 then .ok (.lst (x ++ y)) S else .no
    | _, _ => .no
/-- .. a new list that may grow -/
def opCat (a b : D) (S : Cells) : Out (List D) := match lv S a, lv S b with
  | some x, some y => if x.length + y.length ≤ 16777216 then .ok (x ++ y) S else .no
  | _, _ => .no
def opSub (a b : D) (S : Cells) : Out D := match a, b with
  | .int i, .int j => .ok (.int (i - j)) S
  | _, _ => .no
def opMul (a b : D) (S : Cells) : Out D := match a, b with
  | .int i, .int j => if mulOk i j = true then .ok (.int (i * j)) S else .no
  | .str x, .int n => if -9223372036854775808 ≤ n ∧ n < 9223372036854775808 ∧ x.length * n.toNat ≤ 16777216 then .ok (.str (List.replicate n.toNat x).flatten) S else .no
  | a, .int n => match lv S a with
    | some x => if -9223372036854775808 ≤ n ∧ n < 9223372036854775808 ∧ x.length * n.toNat ≤ 16777216 then .ok (.lst (List.replicate n.toNat x).flatten) S else .no
    | none => .no
  | _, _ => .no
def opRep (a b : D) (S : Cells) : Out (List D) := match lv S a, b with
  | some x, .int n => if -9223372036854775808 ≤ n ∧ n < 9223372036854775808 ∧ x.length * n.toNat ≤ 16777216 then .ok (List.replicate n.toNat x).flatten S else .no
  | _, _ => .no
def opMod (a b : D) (S : Cells) : Out D := match a, b with
  | .int i, .int j => if 0 < j then .ok (.int (i % j)) S else .no
  | _, _ => .no
def opFDiv (a b : D) (S : Cells) : Out D := match a, b with
  | .int i, .int j => if divOk j = true then .ok (.int (i / j)) S else .no
  | _, _ => .no
def opPow (a b : D) (S : Cells) : Out D := match a, b with
  | .int i, .int j => if 0 ≤ j ∧ j ≤ 1000000 ∧ i.natAbs < 18446744073709551616 then .ok (.int (i ^ j.toNat)) S else .no
  | _, _ => .no
def opNeg (a : D) (S : Cells) : Out D := match a with
  | .int i => .ok (.int (-i)) S
  | _ => .no

theorem foldl_app {α : Type} : ∀ (l : List (Array α)) (a : Array α), (l.foldl (· ++ ·) a).toList = a.toList ++ (l.map Array.toList).flatten
  | [], a => by simp
  | b :: l, a => by
    rw [List.foldl_cons, foldl_app l (a ++ b)]
    simp
theorem cps_rep (x : List Char) (n : Nat) : (⟨(List.replicate n (cps x).cps).foldl (· ++ ·) #[]⟩ : Str) = cps (List.replicate n x).flatten := by
  have e : (List.replicate n (cps x).cps).foldl (· ++ ·) #[] = ((List.replicate n x).flatten.map Char.toNat).toArray := by
    apply Array.toList_inj.mp
    rw [foldl_app]
    simp [cps, List.map_flatten]
  rw [e]
  rfl
section
variable {X : Cx} {cv : String → Value}
def rMulS : R2 := fun x y H Q => ∃ z n, x = .str z ∧ y = .int n ∧ -(2 ^ 63) ≤ n ∧ n < 2 ^ 63 ∧ z.length * n.toNat ≤ sizeLine ∧ Q (.str ⟨(List.replicate n.toNat z.cps).foldl (· ++ ·) #[]⟩) H
theorem op_mulS : OpR X (binaryOp .Mult) rMulS := by
  intro pins s σ H x y v u Q I rx ry h
  obtain ⟨z, n, rfl, rfl, h1, h2, hz, q⟩ := h
  obtain ⟨t, rfl⟩ := rx
  obtain ⟨t', rfl⟩ := ry
  rw [sizeLine_eq] at hz
  refine PySem.P.mul_str (by rw [decide_eq_false (by omega), decide_eq_false (by omega)]; rfl) (fun hn he => ?_) (fun hn he => ?_) ?_
  · have hn' : 1 ≤ n := by omega
    have hk : (z.length : Int) * n ≤ 16777216 := by
      have : (n.toNat : Int) = n := Int.toNat_of_nonneg (by omega)
      have h3 : ((z.length * n.toNat : Nat) : Int) ≤ 16777216 := Int.ofNat_le.mpr hz
      rw [Int.natCast_mul, this] at h3
      exact h3
    have : (z.length : Int) ≤ (2 ^ 63 - 1) / n := by
      rw [Int.le_ediv_iff_mul_le (by omega)]
      omega
    omega
  · show decide (z.length * n.toNat > sizeLine) = false
    rw [sizeLine_eq]
    exact decide_eq_false (by omega)
  · by_cases hn : n < 1
    · rw [if_pos hn]
      have e : n.toNat = 0 := by omega
      rw [e] at q
      exact ⟨by decide, .str Str.empty, H, I.tok _, ⟨_, rfl⟩, q⟩
    · rw [if_neg hn]
      by_cases h1 : (n == 1 || z.length == 0) = true
      · rw [if_pos h1]
        have e : (⟨(List.replicate n.toNat z.cps).foldl (· ++ ·) #[]⟩ : Str) = z := by
          have hh : (List.replicate n.toNat z.cps).foldl (· ++ ·) #[] = z.cps := by
            apply Array.toList_inj.mp
            rw [foldl_app]
            simp only [Bool.or_eq_true, beq_iff_eq] at h1
            rcases h1 with h1 | h1
            · subst h1
              simp
            · have hz0 : z.cps = #[] := Array.size_eq_zero_iff.mp h1
              rw [hz0]
              simp
          rw [hh]
        rw [e] at q
        exact ⟨.str z, H, I, ⟨_, rfl⟩, q⟩
      · rw [if_neg h1]
        refine ⟨?_, .str _, H, I.tok _, ⟨_, rfl⟩, q⟩
        have hl : ((List.replicate n.toNat z.cps).foldl (· ++ ·) #[]).size = z.length * n.toNat := by
          rw [← Array.length_toList, foldl_app]
          simp [Str.length, Nat.mul_comm]
        show _ ≤ sizeLine
        rw [sizeLine_eq]
        show ((List.replicate n.toNat z.cps).foldl (· ++ ·) #[]).size ≤ 16777216
        omega

theorem o2_add : OpR X (binaryOp .Add) (fun x y H Q => rI0 (fun i j => .int (i + j)) x y H Q ∨ (∃ i j, x = .str i ∧ y = .str j ∧ i.length + j.length ≤ sizeLine ∧ Q (.str (i ++ j)) H) ∨ rCat x y H Q ∨ rCatA X.K x y H Q) :=
  OpR.or op_add (OpR.or op_add_str (OpR.or op_cat op_catA))
theorem cat_new {s : Snap} {env : Ev} {S : Cells} {F : Hp} {σ : L2.St} {H : Hp} {a b : D} {x y : V} {Q : VK} {xs ys : List D} (r : R X.K s env S F σ H) (ra : Rep X.K F s.io a x) (rb : Rep X.K F s.io b y)
    (ea : lv S a = some xs) (eb : lv S b = some ys) (hl : xs.length + ys.length ≤ 16777216) (h : ∀ p us, H p = none → Reps X.K F s.io (xs ++ ys) us → Q (.ref p) (upd H p (.lst us))) : rCat x y H Q := by
  obtain ⟨l, us, rfl, h1, h2⟩ := lv_w r.h ra ea
  obtain ⟨l', us', rfl, h1', h2'⟩ := lv_w r.h rb eb
  exact ⟨l, l', us, us', rfl, rfl, h1, h1', sz_ok (by rw [h2.len, h2'.len]; exact hl), fun p hp => h p _ hp (h2.append h2')⟩
theorem f_add : Op2 cv X (rpE ⟨X.K, cv⟩) (fun x y H Q => rI0 (fun i j => .int (i + j)) x y H Q ∨ (∃ i j, x = .str i ∧ y = .str j ∧ i.length + j.length ≤ sizeLine ∧ Q (.str (i ++ j)) H) ∨ rCat x y H Q ∨ rCatA X.K x y H Q) opAdd := by
  intro W s env S F σ H a b x y Q r ra rb o
  unfold opAdd at o
  split at o
  · cases ra
    cases rb
    exact .inl ⟨_, _, rfl, rfl, o _ F H r (Same.refl F) rfl⟩
  · cases ra
    cases rb
    split at o
    · rename_i h
      refine .inr (.inl ⟨_, _, rfl, rfl, sz_ok (by rw [cps_len, cps_len]; exact h), ?_⟩)
      rw [cps_app]
      exact o _ F H r (Same.refl F) rfl
    · exact o.elim
  · rename_i xs ys
    split at o
    · rename_i h
      obtain ⟨p, us, rfl, h1, h2⟩ := tup_w r.h ra
      obtain ⟨q, ws, rfl, h3, h4⟩ := tup_w r.h rb
      refine .inr (.inr (.inr ⟨p, q, us, ws, rfl, rfl, h1, h3, sz_ok (by rw [h2.len, h4.len]; exact h), fun e => ?_, fun _ e => ?_, fun _ _ t ht => ?_⟩))
      · subst e
        have : xs = [] := List.length_eq_zero_iff.mp h2.len.symm
        subst this
        exact o _ F H r (Same.refl F) rb
      · subst e
        have : ys = [] := List.length_eq_zero_iff.mp h4.len.symm
        subst this
        rw [List.append_nil] at o
        exact o _ F H r (Same.refl F) ra
      · obtain ⟨r2, sm2⟩ := r.new (o := .tup (us ++ ws)) ht
        exact o _ _ _ r2 sm2 ⟨t, us ++ ws, rfl, .inl (.inl upd_same), Reps.mono sm2 _ _ (h2.append h4)⟩
    · exact o.elim
  · split at o
    · rename_i xs ys ea eb
      split at o
      · rename_i h
        refine .inr (.inr (.inl (cat_new r ra rb ea eb h fun p us hp rus => ?_)))
        obtain ⟨r2, sm2⟩ := r.new (o := .lst us) hp
        exact o _ _ _ r2 sm2 ⟨p, us, rfl, upd_same, Reps.mono sm2 _ _ rus⟩
      · exact o.elim
    · exact o.elim
theorem f_cat : Op2 cv X (rpO ⟨X.K, cv⟩) rCat opCat := by
  intro W s env S F σ H a b x y Q r ra rb o
  unfold opCat at o
  split at o
  · rename_i xs ys ea eb
    split at o
    · rename_i h
      refine cat_new r ra rb ea eb h fun p us hp rus => ?_
      obtain ⟨r2, off⟩ := r.lay (o := .lst us) hp
      obtain ⟨h0, hni, hf⟩ := r.h.h0 hp
      exact o _ _ _ r2 (Same.refl F) ⟨p, rfl, ⟨hf, h0, hni, us, upd_same, rus⟩, off⟩
    · exact o.elim
  · exact o.elim
theorem f_sub : Op2 cv X (rpE ⟨X.K, cv⟩) (rI0 fun i j => .int (i - j)) opSub := by
  intro W s env S F σ H a b x y Q r ra rb o
  unfold opSub at o
  split at o
  · cases ra
    cases rb
    exact ⟨_, _, rfl, rfl, o _ F H r (Same.refl F) rfl⟩
  · exact o.elim
theorem o2_mul : OpR X (binaryOp .Mult) (fun x y H Q => rI CMul (fun i j => .int (i * j)) x y H Q ∨ rI CMulW (fun i j => .int (i * j)) x y H Q ∨ rMulS x y H Q ∨ rRep x y H Q) :=
  OpR.or op_mul (OpR.or op_mulW (OpR.or op_mulS op_rep))
theorem Reps.rep {K : PySem.W.Frag} {F : Hp} {io : List Addr} {ds : List D} {xs : List V} (h : Reps K F io ds xs) : ∀ n : Nat, Reps K F io (List.replicate n ds).flatten (List.replicate n xs).flatten
  | 0 => rfl
  | n + 1 => by
    rw [List.replicate_succ, List.replicate_succ, List.flatten_cons, List.flatten_cons]
    exact h.append (Reps.rep h n)
theorem f_mul : Op2 cv X (rpE ⟨X.K, cv⟩) (fun x y H Q => rI CMul (fun i j => .int (i * j)) x y H Q ∨ rI CMulW (fun i j => .int (i * j)) x y H Q ∨ rMulS x y H Q ∨ rRep x y H Q) opMul := by
  intro W s env S F σ H a b x y Q r ra rb o
  unfold opMul at o
  split at o
  · cases ra
    cases rb
    split at o
    · rename_i i j h
      unfold mulOk at h
      simp only [Bool.or_eq_true, decide_eq_true_eq] at h
      rcases h with (h | h) | h
      · exact .inl ⟨_, _, rfl, rfl, .inl (by omega), o _ F H r (Same.refl F) rfl⟩
      · exact .inl ⟨_, _, rfl, rfl, .inr (by omega), o _ F H r (Same.refl F) rfl⟩
      · exact .inr (.inl ⟨_, _, rfl, rfl, h, o _ F H r (Same.refl F) rfl⟩)
    · exact o.elim
  · cases ra
    cases rb
    split at o
    · rename_i h
      refine .inr (.inr (.inl ⟨_, _, rfl, rfl, by omega, by omega, sz_ok (by rw [cps_len]; exact h.2.2), ?_⟩))
      rw [cps_rep]
      exact o _ F H r (Same.refl F) rfl
    · exact o.elim
  · cases rb
    split at o
    · rename_i xs ea
      split at o
      · rename_i h
        obtain ⟨l, us, rfl, h1, h2⟩ := lv_w r.h ra ea
        refine .inr (.inr (.inr ⟨l, _, us, rfl, rfl, h1, by omega, by omega, sz_ok (by rw [h2.len]; exact h.2.2), fun p hp => ?_⟩))
        obtain ⟨r2, sm2⟩ := r.new (o := .lst _) hp
        exact o _ _ _ r2 sm2 ⟨p, _, rfl, upd_same, Reps.mono sm2 _ _ (h2.rep _)⟩
      · exact o.elim
    · exact o.elim
  · exact o.elim
theorem f_rep : Op2 cv X (rpO ⟨X.K, cv⟩) rRep opRep := by
  intro W s env S F σ H a b x y Q r ra rb o
  unfold opRep at o
  split at o
  · rename_i xs n ea
    cases rb
    split at o
    · rename_i h
      obtain ⟨l, us, rfl, h1, h2⟩ := lv_w r.h ra ea
      refine ⟨l, _, us, rfl, rfl, h1, by omega, by omega, sz_ok (by rw [h2.len]; exact h.2.2), fun p hp => ?_⟩
      obtain ⟨r2, off⟩ := r.lay (o := .lst (List.replicate n.toNat us).flatten) hp
      obtain ⟨h0, hni, hf⟩ := r.h.h0 hp
      exact o _ _ _ r2 (Same.refl F) ⟨p, rfl, ⟨hf, h0, hni, _, upd_same, h2.rep _⟩, off⟩
    · exact o.elim
  · exact o.elim
theorem f_mod : Op2 cv X (rpE ⟨X.K, cv⟩) (rI (fun _ j => 0 < j) fun i j => .int (i % j)) opMod := by
  intro W s env S F σ H a b x y Q r ra rb o
  unfold opMod at o
  split at o
  · cases ra
    cases rb
    split at o
    · rename_i h
      exact ⟨_, _, rfl, rfl, h, o _ F H r (Same.refl F) rfl⟩
    · exact o.elim
  · exact o.elim
theorem f_fdiv : Op2 cv X (rpE ⟨X.K, cv⟩) (rI CDivW fun i j => .int (i / j)) opFDiv := by
  intro W s env S F σ H a b x y Q r ra rb o
  unfold opFDiv at o
  split at o
  · cases ra
    cases rb
    split at o
    · rename_i h
      unfold divOk at h
      simp only [Bool.and_eq_true, decide_eq_true_eq] at h
      exact ⟨_, _, rfl, rfl, h, o _ F H r (Same.refl F) rfl⟩
    · exact o.elim
  · exact o.elim
theorem f_pow : Op2 cv X (rpE ⟨X.K, cv⟩) (rI CPow fun i j => .int (i ^ j.toNat)) opPow := by
  intro W s env S F σ H a b x y Q r ra rb o
  unfold opPow at o
  split at o
  · cases ra
    cases rb
    split at o
    · rename_i h
      exact ⟨_, _, rfl, rfl, ⟨h.1, h.2.1, by omega⟩, o _ F H r (Same.refl F) rfl⟩
    · exact o.elim
  · exact o.elim
theorem f_neg : Op1 cv X (rpE ⟨X.K, cv⟩) (rU fun i => .int (-i)) opNeg := by
  intro W s env S F σ H a x Q r ra o
  unfold opNeg at o
  split at o
  · cases ra
    exact ⟨_, rfl, o _ F H r (Same.refl F) rfl⟩
  · exact o.elim
end
end TT
namespace TT
open PySem PySem.Spec PyProof.Rows L2

/-! ### comparisons -/
mutual
def toP : D → PyData
  | .non => .none
  | .bl b => .bool b
  | .int i => .int i
  | .str x => .str (cps x)
  | .lst ds => .list (toPs ds)
  | .frl ds => .list (toPs ds)
  | .tup ds => .tuple (toPs ds)
  | .cell _ => .none
  | .ty _ => .none
def toPs : List D → List PyData
  | [] => []
  | d :: ds => toP d :: toPs ds
end
mutual
/-- how deep a datum is; above 64 for what == does not serve -/
def dep : D → Nat
  | .lst ds => deps ds + 1
  | .frl ds => deps ds + 1
  | .tup ds => deps ds + 1
  | .cell _ => 100
  | .ty _ => 100
  | .non => 0
  | .bl _ => 0
  | .int _ => 0
  | .str _ => 0
def deps : List D → Nat
  | [] => 0
  | d :: ds => max (dep d) (deps ds)
end
mutual
theorem dp_w {K : PySem.W.Frag} {F H : Hp} {io : List Addr} (e : Same F H) : ∀ (d : D) (v : V), Rep K F io d v → dep d ≤ 64 → Dp K H v (toP d)
  | .non, _, h, _ => by cases h; exact .non
  | .bl b, _, h, _ => by cases h; exact .bl b
  | .int i, _, h, _ => by cases h; exact .int i
  | .str x, _, h, _ => by cases h; exact .str _
  | .lst ds, _, ⟨a, xs, h1, h2, h3⟩, hd => by
    subst h1
    exact .lst (.inl (.inl (e _ _ h2))) (dps_w e ds xs h3 (by simp only [dep] at hd; omega))
  | .frl ds, _, ⟨a, xs, h1, h2, h3⟩, hd => by
    subst h1
    exact .lst (e.seq h2) (dps_w e ds xs h3 (by simp only [dep] at hd; omega))
  | .tup ds, _, ⟨a, xs, h1, h2, h3⟩, hd => by
    subst h1
    exact .tup (seqT e h2) (dps_w e ds xs h3 (by simp only [dep] at hd; omega))
  | .cell _, _, _, hd => by simp only [dep] at hd; omega
  | .ty _, _, _, hd => by simp only [dep] at hd; omega
theorem dps_w {K : PySem.W.Frag} {F H : Hp} {io : List Addr} (e : Same F H) : ∀ (ds : List D) (vs : List V), Reps K F io ds vs → deps ds ≤ 64 → DpAll K H vs (toPs ds)
  | [], _, h, _ => by cases h; exact .nil
  | d :: ds, _, ⟨x, r, h1, h2, h3⟩, hd => by
    subst h1
    simp only [deps] at hd
    exact .cons (dp_w e d x h2 (by omega)) (dps_w e ds r h3 (by omega))
end
theorem cps_ok (x : List Char) : PyData.strOk (cps x) = true := by
  unfold PyData.strOk cps
  simp only [List.all_toArray, List.all_eq_true, List.mem_map, decide_eq_true_eq]
  rintro n ⟨c, _, rfl⟩
  have h := c.valid
  simp only [UInt32.isValidChar, Nat.isValidChar] at h
  show c.val.toNat < 1114112
  omega
mutual
theorem toP_can : ∀ d : D, (toP d).canLay0 = true
  | .non => by simp only [toP, PyData.canLay0]
  | .bl _ => by simp only [toP, PyData.canLay0]
  | .int _ => by simp only [toP, PyData.canLay0]
  | .str x => by simp only [toP, PyData.canLay0]; exact cps_ok x
  | .lst ds => by simp only [toP, PyData.canLay0]; exact toPs_can ds
  | .frl ds => by simp only [toP, PyData.canLay0]; exact toPs_can ds
  | .tup ds => by simp only [toP, PyData.canLay0]; exact toPs_can ds
  | .cell _ => by simp only [toP, PyData.canLay0]
  | .ty _ => by simp only [toP, PyData.canLay0]
theorem toPs_can : ∀ ds : List D, PyData.canLayAll0 (toPs ds) = true
  | [] => by simp only [toPs, PyData.canLayAll0]
  | d :: ds => by simp only [toPs, PyData.canLayAll0, toP_can d, toPs_can ds, Bool.and_self]
end
mutual
theorem toP_dep : ∀ d : D, (toP d).depth ≤ dep d
  | .non => by simp only [toP, PyData.depth, dep]; omega
  | .bl _ => by simp only [toP, PyData.depth, dep]; omega
  | .int _ => by simp only [toP, PyData.depth, dep]; omega
  | .str x => by simp only [toP, PyData.depth, dep]; omega
  | .lst ds => by simp only [toP, PyData.depth, dep]; have := toPs_dep ds; omega
  | .frl ds => by simp only [toP, PyData.depth, dep]; have := toPs_dep ds; omega
  | .tup ds => by simp only [toP, PyData.depth, dep]; have := toPs_dep ds; omega
  | .cell _ => by simp only [toP, PyData.depth, dep]; omega
  | .ty _ => by simp only [toP, PyData.depth, dep]; omega
theorem toPs_dep : ∀ ds : List D, PyData.depthAll (toPs ds) ≤ deps ds
  | [] => by simp only [toPs, PyData.depthAll, deps]; omega
  | d :: ds => by
    simp only [toPs, PyData.depthAll, deps]
    have h1 := toP_dep d
    have h2 := toPs_dep ds
    omega
end
theorem shaped_w {d : D} (h : dep d ≤ 64) : SeqAt.shaped (toP d) = true := by
  unfold SeqAt.shaped
  rw [toP_can, Bool.true_and]
  exact decide_eq_true (Nat.le_trans (toP_dep d) h)
/-- a cell's content now -/
def view (S : Cells) : D → D
  | .cell n => match S[n]? with
    | some ds => .lst ds
    | none => .cell n
  | d => d
def deq (a b : D) : Bool := PyData.eqv (toP a) (toP b)
def deqs (a b : List D) : Bool := PyData.eqvAll (toPs a) (toPs b)
def opEq (a b : D) (S : Cells) : Out D := if dep (view S a) ≤ 64 ∧ dep (view S b) ≤ 64 then .ok (.bl (deq (view S a) (view S b))) S else .no
def opNe (a b : D) (S : Cells) : Out D := if dep (view S a) ≤ 64 ∧ dep (view S b) ≤ 64 then .ok (.bl (!deq (view S a) (view S b))) S else .no
theorem view_w {K : PySem.W.Frag} {s : Snap} {S : Cells} {F H : Hp} {d : D} {v : V} (r : RelH K s S F H) (h : Rep K F s.io d v) (hd : dep (view S d) ≤ 64) : Dp K H v (toP (view S d)) := by
  cases d with
  | cell n =>
    cases e : S[n]? with
    | some ds =>
      have ev : view S (.cell n) = .lst ds := by simp [view, e]
      rw [ev] at hd ⊢
      obtain ⟨a, xs, h1, h2, h3⟩ := lv_w (d := .cell n) (ds := ds) r h e
      subst h1
      exact .lst (.inl (.inl h2)) (dps_w r.fh ds xs h3 (by simp only [dep] at hd; omega))
    | none =>
      have ev : view S (.cell n) = .cell n := by simp [view, e]
      rw [ev] at hd
      simp only [dep] at hd
      omega
  | _ => exact dp_w r.fh _ v h hd
section
variable {X : Cx} {cv : String → Value}
theorem f_eq : Op2 cv X (rpE ⟨X.K, cv⟩) (rEqD X.K) opEq := by
  intro W s env S F σ H a b x y Q r ra rb o
  unfold opEq at o
  split at o
  · rename_i h
    exact ⟨_, _, view_w r.h ra h.1, view_w r.h rb h.2, shaped_w h.1, shaped_w h.2, o _ F H r (Same.refl F) rfl⟩
  · exact o.elim
theorem f_ne : Op2 cv X (rpE ⟨X.K, cv⟩) (rNeD X.K) opNe := by
  intro W s env S F σ H a b x y Q r ra rb o
  unfold opNe at o
  split at o
  · rename_i h
    exact ⟨_, _, view_w r.h ra h.1, view_w r.h rb h.2, shaped_w h.1, shaped_w h.2, o _ F H r (Same.refl F) rfl⟩
  · exact o.elim
/-- an order of ints, of texts -/
def opOrd (p : Int → Int → Bool) (q : List Nat → List Nat → Bool) (a b : D) (S : Cells) : Out D := match a, b with
  | .int i, .int j => .ok (.bl (p i j)) S
  | .str x, .str y => .ok (.bl (q (x.map Char.toNat) (y.map Char.toNat))) S
  | _, _ => .no
theorem f_ord {p : Int → Int → Bool} {q : List Nat → List Nat → Bool} : Op2 cv X (rpE ⟨X.K, cv⟩) (fun x y H Q => rI0 (fun i j => .bl (p i j)) x y H Q ∨ ∃ i j, x = .str i ∧ y = .str j ∧ Q (.bl (q i.cps.toList j.cps.toList)) H) (opOrd p q) := by
  intro W s env S F σ H a b x y Q r ra rb o
  unfold opOrd at o
  split at o
  · cases ra
    cases rb
    exact .inl ⟨_, _, rfl, rfl, o _ F H r (Same.refl F) rfl⟩
  · cases ra
    cases rb
    refine .inr ⟨_, _, rfl, rfl, ?_⟩
    rw [cps_list, cps_list]
    exact o _ F H r (Same.refl F) rfl
  · exact o.elim
abbrev opLt := opOrd (fun i j => decide (i < j)) fun x y => decide (x < y)
abbrev opLe := opOrd (fun i j => decide (i ≤ j)) fun x y => !decide (y < x)
abbrev opGt := opOrd (fun i j => decide (j < i)) fun x y => decide (y < x)
abbrev opGe := opOrd (fun i j => decide (j ≤ i)) fun x y => !decide (x < y)
theorem o2_lt : OpR X (compareOp .Lt) (fun x y H Q => rI0 (fun i j => .bl (decide (i < j))) x y H Q ∨ ∃ i j, x = .str i ∧ y = .str j ∧ Q (.bl (decide (i.cps.toList < j.cps.toList))) H) := OpR.or op_lt op_lt_str
theorem o2_le : OpR X (compareOp .LtE) (fun x y H Q => rI0 (fun i j => .bl (decide (i ≤ j))) x y H Q ∨ ∃ i j, x = .str i ∧ y = .str j ∧ Q (.bl (!decide (j.cps.toList < i.cps.toList))) H) := OpR.or op_le op_le_str
theorem o2_gt : OpR X (compareOp .Gt) (fun x y H Q => rI0 (fun i j => .bl (decide (j < i))) x y H Q ∨ ∃ i j, x = .str i ∧ y = .str j ∧ Q (.bl (decide (j.cps.toList < i.cps.toList))) H) := OpR.or op_gt op_gt_str
theorem o2_ge : OpR X (compareOp .GtE) (fun x y H Q => rI0 (fun i j => .bl (decide (j ≤ i))) x y H Q ∨ ∃ i j, x = .str i ∧ y = .str j ∧ Q (.bl (!decide (i.cps.toList < j.cps.toList))) H) := OpR.or op_ge op_ge_str
def isNon : D → Bool
  | .non => true
  | _ => false
def opIs (a b : D) (S : Cells) : Out D := match b with
  | .non => .ok (.bl (isNon a)) S
  | _ => .no
def opIsNot (a b : D) (S : Cells) : Out D := match b with
  | .non => .ok (.bl (!isNon a)) S
  | _ => .no
theorem isNon_w {K : PySem.W.Frag} {F : Hp} {io : List Addr} {d : D} {v : V} (h : Rep K F io d v) : decide (v = .non) = isNon d := by
  cases d with
  | non => cases h; rfl
  | bl b => cases h; rfl
  | int b => cases h; rfl
  | str b => cases h; rfl
  | ty b => cases h; rfl
  | lst b => obtain ⟨_, _, rfl, _⟩ := h; rfl
  | frl b => obtain ⟨_, _, rfl, _⟩ := h; rfl
  | tup b => obtain ⟨_, _, rfl, _⟩ := h; rfl
  | cell b => obtain ⟨_, rfl, _⟩ := h; rfl
theorem f_is : Op2 cv X (rpE ⟨X.K, cv⟩) (fun x y H Q => y = .non ∧ Q (.bl (decide (x = .non))) H) opIs := by
  intro W s env S F σ H a b x y Q r ra rb o
  unfold opIs at o
  split at o
  · cases rb
    refine ⟨rfl, ?_⟩
    rw [isNon_w ra]
    exact o _ F H r (Same.refl F) rfl
  · exact o.elim
theorem f_isnot : Op2 cv X (rpE ⟨X.K, cv⟩) (fun x y H Q => y = .non ∧ Q (.bl (!decide (x = .non))) H) opIsNot := by
  intro W s env S F σ H a b x y Q r ra rb o
  unfold opIsNot at o
  split at o
  · cases rb
    refine ⟨rfl, ?_⟩
    rw [isNon_w ra]
    exact o _ F H r (Same.refl F) rfl
  · exact o.elim

/-! ### in -/
def flatD : D → Bool
  | .non => true
  | .bl _ => true
  | .int _ => true
  | .str _ => true
  | _ => false
def toV : D → V
  | .bl b => .bl b
  | .int i => .int i
  | .str x => .str (cps x)
  | _ => .non
def inD (x : D) (xs : List D) : Bool := inV (toV x) (xs.map toV)
theorem flat_w {K : PySem.W.Frag} {F : Hp} {io : List Addr} {d : D} {v : V} (h : Rep K F io d v) (f : flatD d = true) : v = toV d ∧ flatV v = true := by
  cases d <;> first | (cases h; exact ⟨rfl, rfl⟩) | (simp [flatD] at f)
theorem flats_w {K : PySem.W.Frag} {F : Hp} {io : List Addr} : ∀ {ds : List D} {vs : List V}, Reps K F io ds vs → ds.all flatD = true → vs = ds.map toV ∧ vs.all flatV = true
  | [], _, h, _ => by cases h; exact ⟨rfl, rfl⟩
  | d :: ds, _, ⟨x, r, h1, h2, h3⟩, f => by
    subst h1
    simp only [List.all_cons, Bool.and_eq_true] at f
    obtain ⟨e1, e2⟩ := flat_w h2 f.1
    obtain ⟨e3, e4⟩ := flats_w h3 f.2
    exact ⟨by rw [e1, e3]; rfl, by simp [e2, e4]⟩
def inB (a b : D) (S : Cells) : Option Bool := match a, b with
  | .str [c], .str y => some (decide (c ∈ y))
  | a, .tup ys => if flatD a = true ∧ ys.all flatD = true then some (inD a ys) else none
  | a, b => match lvr S b with
    | some ys => if flatD a = true ∧ ys.all flatD = true then some (inD a ys) else none
    | none => none
def opIn (a b : D) (S : Cells) : Out D := match inB a b S with
  | some k => .ok (.bl k) S
  | none => .no
def opNotIn (a b : D) (S : Cells) : Out D := match inB a b S with
  | some k => .ok (.bl (!k)) S
  | none => .no
def rInA (K : PySem.W.Frag) (neg : Bool) : R2 := fun x y H Q => (∃ (c : Nat) (z : Str), x = .str ⟨#[c]⟩ ∧ y = .str z ∧ Q (.bl (if neg then !decide (c ∈ z.cps.toList) else decide (c ∈ z.cps.toList))) H) ∨ rIn K neg x y H Q
theorem inB_w {neg : Bool} {s : Snap} {env : Ev} {S : Cells} {F : Hp} {σ : L2.St} {H : Hp} {a b : D} {x y : V} {Q : VK} {k : Bool} (r : R X.K s env S F σ H) (ra : Rep X.K F s.io a x) (rb : Rep X.K F s.io b y) (e : inB a b S = some k)
    (q : Q (.bl (if neg then !k else k)) H) : rInA X.K neg x y H Q := by
  unfold inB at e
  split at e
  · rename_i c z
    cases ra
    cases rb
    cases e
    refine .inl ⟨c.toNat, _, rfl, rfl, ?_⟩
    have : decide (c.toNat ∈ (cps z).cps.toList) = decide (c ∈ z) := by
      rw [cps_list, decide_eq_decide, List.mem_map]
      constructor
      · rintro ⟨d, h1, h2⟩
        have : d = c := Char.ext (UInt32.toNat_inj.mp h2)
        rw [← this]
        exact h1
      · intro h
        exact ⟨c, h, rfl⟩
    rw [this]
    exact q
  · rename_i ys
    split at e
    · rename_i h
      cases e
      obtain ⟨p, us, rfl, h1, h2⟩ := tup_w r.h rb
      obtain ⟨e1, e2⟩ := flat_w ra h.1
      obtain ⟨e3, e4⟩ := flats_w h2 h.2
      exact .inr ⟨p, us, rfl, .inr h1, e2, e4, by rw [e1, e3]; exact q⟩
    · cases e
  · split at e
    · rename_i ys eb
      split at e
      · rename_i h
        cases e
        obtain ⟨p, us, rfl, h1, h2⟩ := lvr_w r.h rb eb
        obtain ⟨e1, e2⟩ := flat_w ra h.1
        obtain ⟨e3, e4⟩ := flats_w h2 h.2
        exact .inr ⟨p, us, rfl, .inl h1, e2, e4, by rw [e1, e3]; exact q⟩
      · cases e
    · cases e
theorem o2_in : OpR X (compareOp .In) (rInA X.K false) := OpR.or op_in_sign op_in_seq
theorem o2_notIn : OpR X (compareOp .NotIn) (rInA X.K true) := OpR.or op_notIn_sign op_notIn_seq
theorem f_in : Op2 cv X (rpE ⟨X.K, cv⟩) (rInA X.K false) opIn := by
  intro W s env S F σ H a b x y Q r ra rb o
  unfold opIn at o
  split at o
  · rename_i k e
    exact inB_w r ra rb e (o _ F H r (Same.refl F) rfl)
  · exact o.elim
theorem f_notIn : Op2 cv X (rpE ⟨X.K, cv⟩) (rInA X.K true) opNotIn := by
  intro W s env S F σ H a b x y Q r ra rb o
  unfold opNotIn at o
  split at o
  · rename_i k e
    exact inB_w r ra rb e (o _ F H r (Same.refl F) rfl)
  · exact o.elim

/-! ### items, slices, len -/
def atO {α : Type} (o : Option α) (f : α → D) (S : Cells) : Out D := match o with
  | some a => .ok (f a) S
  | none => .no
def opIx (a b : D) (S : Cells) : Out D := match a, b with
  | .str x, .int i => if x.length ≤ 16777216 then atO (L2.atI x i) (fun c => .str [c]) S else .no
  | .tup ds, .int i => atO (L2.atI ds i) id S
  | a, .int i => match lvr S a with
    | some ds => atO (L2.atI ds i) id S
    | none => .no
  | _, _ => .no
theorem atI_map {α β : Type} (f : α → β) (x : List α) (i : Int) : L2.atI (x.map f) i = (L2.atI x i).map f := by
  unfold L2.atI
  rw [List.length_map]
  cases ixN x.length i with
  | none => rfl
  | some j => simp
theorem f_ix : Op2 cv X (rpE ⟨X.K, cv⟩) (rIx X.K) opIx := by
  intro W s env S F σ H a b x y Q r ra rb o
  unfold opIx at o
  split at o
  · rename_i z i
    cases ra
    cases rb
    split at o
    · rename_i h
      unfold atO at o
      split at o
      · rename_i c e
        refine .inr (.inr ⟨_, _, c.toNat, rfl, rfl, sz_ok (by rw [cps_len]; exact h), ?_, o _ F H r (Same.refl F) rfl⟩)
        rw [cps_list, atI_map, e]
        rfl
      · exact o.elim
    · exact o.elim
  · rename_i ds i
    cases rb
    unfold atO at o
    split at o
    · rename_i d e
      obtain ⟨p, us, rfl, h1, h2⟩ := tup_w r.h ra
      obtain ⟨v, hv, rv⟩ := h2.atI e
      exact .inr (.inl ⟨p, us, _, v, rfl, rfl, h1, hv, o v F H r (Same.refl F) rv⟩)
    · exact o.elim
  · cases rb
    split at o
    · rename_i ds ea
      unfold atO at o
      split at o
      · rename_i d e
        obtain ⟨p, us, rfl, h1, h2⟩ := lvr_w r.h ra ea
        obtain ⟨v, hv, rv⟩ := h2.atI e
        exact .inl ⟨p, us, _, v, rfl, rfl, h1, hv, o v F H r (Same.refl F) rv⟩
      · exact o.elim
    · exact o.elim
  · exact o.elim
/-- xs[lo:hi] -/
def cut {α : Type} (xs : List α) (lo hi : Option Int) : List α := (xs.drop (HT.sIx xs.length 0 lo)).take (HT.sIx xs.length xs.length hi - HT.sIx xs.length 0 lo)
theorem Reps.cut {K : PySem.W.Frag} {F : Hp} {io : List Addr} {ds : List D} {xs : List V} (r : Reps K F io ds xs) (lo hi : Option Int) : Reps K F io (TT.cut ds lo hi) (cutV xs lo hi) := by
  unfold TT.cut cutV
  rw [r.len]
  exact (r.drop _).take _
theorem cutS_cps (x : List Char) (lo hi : Option Int) : cutS (cps x) lo hi = cps (cut x lo hi) := by
  unfold cutS cut
  rw [cps_len, cps_list]
  simp [cps, List.map_drop, List.map_take]
def opSl (a : D) (lo hi : Option Int) (S : Cells) : Out D := match a with
  | .str x => if x.length ≤ 16777216 then .ok (.str (cut x lo hi)) S else .no
  | .tup ds => .ok (.tup (cut ds lo hi)) S
  | a => match lvr S a with
    | some ds => .ok (.lst (cut ds lo hi)) S
    | none => .no
def opSlO (a : D) (lo hi : Option Int) (S : Cells) : Out (List D) := match lvr S a with
  | some ds => .ok (cut ds lo hi) S
  | none => .no
theorem SlR.or {r r' : V → Option Int → Option Int → Hp → VK → Prop} (h : L2.SlR X r) (h' : L2.SlR X r') : L2.SlR X (fun x lo hi H Q => r x lo hi H Q ∨ r' x lo hi H Q) := by
  intro pins s σ H x v vl vu lo hi sl Q I rx hs pl pu q
  rcases q with q | q
  · exact h pins s σ H x v vl vu lo hi sl Q I rx hs pl pu q
  · exact h' pins s σ H x v vl vu lo hi sl Q I rx hs pl pu q
def OpS (cv : String → Value) (X : Cx) {α : Type} (rp : Rp α V) (r : V → Option Int → Option Int → Hp → VK → Prop) (f : D → Option Int → Option Int → Cells → Out α) : Prop := ∀ (W : WX) (s : Snap) (env : Ev) (S : Cells) (F : Hp) (σ : L2.St) (H : Hp) (a : D) (x : V) (lo hi : Option Int) (Q : VK),
  R X.K s env S F σ H → Rep X.K F s.io a x → OutP ⟨X.K, cv⟩ W rp s env σ F (f a lo hi S) Q → r x lo hi H Q
theorem f_sl : OpS cv X (rpE ⟨X.K, cv⟩) (fun x lo hi H Q => rSlS x lo hi H Q ∨ rSlA X.K x lo hi H Q ∨ rSlL X.K x lo hi H Q) opSl := by
  intro W s env S F σ H a x lo hi Q r ra o
  unfold opSl at o
  split at o
  · cases ra
    split at o
    · rename_i h
      refine .inl ⟨_, rfl, sz_ok (by rw [cps_len]; exact h), ?_⟩
      rw [cutS_cps]
      exact o _ F H r (Same.refl F) rfl
    · exact o.elim
  · rename_i ds
    obtain ⟨p, us, rfl, h1, h2⟩ := tup_w r.h ra
    refine .inr (.inl ⟨p, us, rfl, h1, fun e => ?_, fun _ t ht => ?_⟩)
    · have : TT.cut ds lo hi = ds := by
        unfold TT.cut
        rw [h2.len] at e
        rw [e.1, e.2]
        simp
      rw [this] at o
      exact o _ F H r (Same.refl F) ra
    · obtain ⟨r2, sm2⟩ := r.new (o := .tup (cutV us lo hi)) ht
      exact o _ _ _ r2 sm2 ⟨t, _, rfl, .inl (.inl upd_same), Reps.mono sm2 _ _ (h2.cut lo hi)⟩
  · split at o
    · rename_i ds ea
      obtain ⟨p, us, rfl, h1, h2⟩ := lvr_w r.h ra ea
      refine .inr (.inr ⟨p, us, rfl, h1, fun t ht => ?_⟩)
      obtain ⟨r2, sm2⟩ := r.new (o := .lst (cutV us lo hi)) ht
      exact o _ _ _ r2 sm2 ⟨t, _, rfl, upd_same, Reps.mono sm2 _ _ (h2.cut lo hi)⟩
    · exact o.elim
theorem f_slO : OpS cv X (rpO ⟨X.K, cv⟩) (fun x lo hi H Q => rSlS x lo hi H Q ∨ rSlA X.K x lo hi H Q ∨ rSlL X.K x lo hi H Q) opSlO := by
  intro W s env S F σ H a x lo hi Q r ra o
  unfold opSlO at o
  split at o
  · rename_i ds ea
    obtain ⟨p, us, rfl, h1, h2⟩ := lvr_w r.h ra ea
    refine .inr (.inr ⟨p, us, rfl, h1, fun t ht => ?_⟩)
    obtain ⟨r2, off⟩ := r.lay (o := .lst (cutV us lo hi)) ht
    obtain ⟨h0, hni, hf⟩ := r.h.h0 ht
    exact o _ _ _ r2 (Same.refl F) ⟨t, rfl, ⟨hf, h0, hni, _, upd_same, h2.cut lo hi⟩, off⟩
  · exact o.elim
theorem sl_any : L2.SlR X (fun x lo hi H Q => rSlS x lo hi H Q ∨ rSlA X.K x lo hi H Q ∨ rSlL X.K x lo hi H Q) := SlR.or sl_str (SlR.or sl_tupA sl_list)
def dSl {α : Type} (f : D → Option Int → Option Int → Cells → Out α) (m : Me) (lo hi : Ev → Cells → Out (Option Int)) : Ev → Cells → Out α := fun env S => (m env S).bind fun a S1 => (lo env S1).bind fun l S2 => (hi env S2).bind fun h S3 => f a l h S3
theorem sl_w {W : WX} {m : Me} {ml mh : Ev → Cells → Out (Option Int)} {α : Type} {rp : Rp α V} {r : V → Option Int → Option Int → Hp → VK → Prop} {f : D → Option Int → Option Int → Cells → Out α} (hf : OpS cv X rp r f) (σ : L2.St) (H : Hp) (Q : VK)
    (h : tG ⟨X.K, cv⟩ W rp (dSl f m ml mh) σ H Q) : tSl r (tE ⟨X.K, cv⟩ W m) (tPt ⟨X.K, cv⟩ W ml) (tPt ⟨X.K, cv⟩ W mh) σ H Q := by
  obtain ⟨s, env, S, F, r0, o⟩ := h
  exact ⟨s, env, S, F, r0, OutP.bind (rp := rpE _) o fun a S1 x F1 H1 r1 sm rv o1 => ⟨s, env, S1, F1, r1, OutP.bind (rp := rpP) o1 fun l S2 l' F2 H2 r2 sm2 el o2 => ⟨s, env, S2, F2, r2, OutP.bind (rp := rpP) o2 fun h S3 h' F3 H3 r3 sm3 eh o3 => by
    cases el
    cases eh
    exact hf W s env S3 F3 σ H3 a x l h Q r3 (Rep.mono (sm2.trans sm3) a x rv) o3⟩⟩⟩
variable {W : WX} {e : Expr} {m : Me} {ml mh : Ev → Cells → Out (Option Int)} {lo hi : Option Expr} {pos p2 : Pos}
theorem de_sl (he : DE X cv W e m) (hl : DPt X cv W lo ml) (hh : DPt X cv W hi mh) : DE X cv W (.Subscript e (.Slice lo hi none p2) pos) (dSl opSl m ml mh) := PE.weak (pe_slice sl_any he hl hh) (sl_w f_sl)
theorem do_sl (he : DE X cv W e m) (hl : DPt X cv W lo ml) (hh : DPt X cv W hi mh) : DO X cv W (.Subscript e (.Slice lo hi none p2) pos) (dSl opSlO m ml mh) := PE.weak (pe_slice sl_any he hl hh) (sl_w f_slO)
end
end TT
namespace TT
open PySem PySem.Spec PyProof.Rows L2

/-! ### statements -/
inductive Ret where
  | val (d : D)
  | own (ds : List D)
def Ret.fz : Ret → D
  | .val d => d
  | .own ds => .lst ds
inductive SOut where
  | nx (env : Ev) (S : Cells)
  | bk (env : Ev) (S : Cells)
  | ct (env : Ev) (S : Cells)
  | ret (r : Ret) (S : Cells)
  | ex (x : Ex) (env : Ev) (S : Cells)
  | no
abbrev Ms := Ev → Cells → SOut
/-- an expression's outcome goes on in a statement -/
def Out.go {α : Type} (o : Out α) (env : Ev) (k : α → Cells → SOut) : SOut := match o with
  | .ok a S => k a S
  | .ex x S => .ex x env S
  | .no => .no
def RetP (G : Gm) (s : Snap) (r : Ret) (S : Cells) (Q : VK) : Prop := match r with
  | .val d => ∀ v F H, RelH G.K s S F H → Rep G.K F s.io d v → Q v H
  | .own ds => ∀ a F H, RelH G.K s S F H → OwnAt G.K s F H a ds → Q (.ref a) H
def OutS (G : Gm) (W : WX) (s : Snap) (F0 : Hp) (o : SOut) (E : Ends) : Prop := match o with
  | .nx env S => ∀ σ F H, R G.K s env S F σ H → Same F0 F → E.nx σ H
  | .bk env S => ∀ σ F H, R G.K s env S F σ H → Same F0 F → E.bk σ H
  | .ct env S => ∀ σ F H, R G.K s env S F σ H → Same F0 F → E.ct σ H
  | .ret r S => RetP G s r S E.rt
  | .ex x env S => ∀ c dx σ F H, R G.K s env S F σ H → RepX G F H s.io x c dx → W c dx σ H
  | .no => False
def tS (G : Gm) (W : WX) (m : Ms) : TS := fun E σ H => ∃ s env S F, R G.K s env S F σ H ∧ OutS G W s F (m env S) E
def DS (X : Cx) (cv : String → Value) (W : WX) (st : Stmt) (m : Ms) : Prop := PS X st (tS ⟨X.K, cv⟩ W m)
def DB (X : Cx) (cv : String → Value) (W : WX) (sts : List Stmt) (m : Ms) : Prop := PSs X sts (tS ⟨X.K, cv⟩ W m)

def sNil : Ms := fun env S => .nx env S
def SOut.seq (o : SOut) (k : Ms) : SOut := match o with
  | .nx env S => k env S
  | o => o
def sSeq (a b : Ms) : Ms := fun env S => (a env S).seq b
def sBrk : Ms := fun env S => .bk env S
def sCnt : Ms := fun env S => .ct env S
def sExp (m : Me) : Ms := fun env S => (m env S).go env fun _ S1 => .nx env S1
def sRet (m : Me) : Ms := fun env S => (m env S).go env fun d S1 => .ret (.val d) S1
def sRetO (m : Ma) : Ms := fun env S => (m env S).go env fun ds S1 => .ret (.own ds) S1
def sRetN : Ms := fun _ S => .ret (.val .non) S
/-- return x, a list of its own -/
def sRetV (i : Nat) : Ms := fun env S => match env[i]? with
  | some (.own ds) => .ret (.own ds) S
  | some (.val d) => .ret (.val d) S
  | _ => .no
def sIf (c : Mt) (a b : Ms) : Ms := fun env S => (c env S).go env fun k S1 => if k = true then a env S1 else b env S1
def sSet (i : Nat) (m : Me) : Ms := fun env S => (m env S).go env fun d S1 => .nx (env.set i (.val d)) S1
def sSetO (i : Nat) (m : Ma) : Ms := fun env S => (m env S).go env fun ds S1 => .nx (env.set i (.own ds)) S1
/-- a list of its own is frozen from here on -/
def sFrz (i : Nat) (m : Ms) : Ms := fun env S => match env[i]? with
  | some (.own ds) => m (env.set i (.val (.lst ds))) S
  | _ => m env S
/-- x.append(e), x a list of its own -/
def sApp (i : Nat) (m : Me) : Ms := fun env S => match env[i]? with
  | some (.own ds) => (m env S).go env fun d S1 => if ds.length < 16777216 then .nx (env.set i (.own (ds ++ [d]))) S1 else .no
  | _ => .no
/-- x[j] = e, x a list of its own -/
def sPutO (i : Nat) (mj me : Me) : Ms := fun env S => (me env S).go env fun d S1 => match env[i]? with
  | some (.own ds) => (mj env S1).go env fun j S2 => (match j with
    | .int k => (match ixN ds.length k with
      | some n => .nx (env.set i (.own (ds.set n d))) S2
      | none => .no)
    | _ => .no)
  | _ => .no
/-- o[j] = e, o a given list -/
def sPutC (mo mj me : Me) : Ms := fun env S => (me env S).go env fun d S1 => (mo env S1).go env fun o S2 => (mj env S2).go env fun j S3 => match o, j with
  | .cell c, .int k => (match S3[c]? with
    | some ds => (match ixN ds.length k with
      | some n => .nx env (S3.set c (ds.set n d))
      | none => .no)
    | none => .no)
  | _, _ => .no

section
variable {G : Gm} {W : WX} {s : Snap} {env : Ev} {S : Cells} {F : Hp} {σ : L2.St} {H : Hp}
theorem R.setVal {K : PySem.W.Frag} {i : Nat} {d : D} {v : V} (r : R K s env S F σ H) (h : Rep K F s.io d v) : R K s (env.set i (.val d)) S F (σ.set i (some v)) H := by
  refine ⟨r.h, by simp [r.len], fun j e q => ?_, fun j ds q => ?_, fun j k a ds es hne q1 q2 e1 => ?_⟩
  · by_cases hj : i = j
    · subst hj
      have hl : i < env.length := by
        have := (List.getElem?_eq_some_iff.mp q).1
        simpa using this
      rw [List.getElem?_set_self hl] at q
      cases q
      exact ⟨v, List.getElem?_set_self (by rw [← r.len]; exact hl), h⟩
    · rw [List.getElem?_set_ne hj] at q
      obtain ⟨u, h1, h2⟩ := r.val j e q
      exact ⟨u, by rw [List.getElem?_set_ne hj]; exact h1, h2⟩
  · by_cases hj : i = j
    · subst hj
      have hl : i < env.length := by
        have := (List.getElem?_eq_some_iff.mp q).1
        simpa using this
      rw [List.getElem?_set_self hl] at q
      cases q
    · rw [List.getElem?_set_ne hj] at q
      obtain ⟨a, h1, h2⟩ := r.own j ds q
      exact ⟨a, by rw [List.getElem?_set_ne hj]; exact h1, h2⟩
  · have hj : i ≠ j := fun z => by
      subst z
      have hl : i < env.length := by
        have := (List.getElem?_eq_some_iff.mp q1).1
        simpa using this
      rw [List.getElem?_set_self hl] at q1
      cases q1
    have hk : i ≠ k := fun z => by
      subst z
      have hl : i < env.length := by
        have := (List.getElem?_eq_some_iff.mp q2).1
        simpa using this
      rw [List.getElem?_set_self hl] at q2
      cases q2
    rw [List.getElem?_set_ne hj] at q1 e1
    rw [List.getElem?_set_ne hk] at q2 ⊢
    exact r.dist j k a ds es hne q1 q2 e1
theorem R.setOwn {K : PySem.W.Frag} {i : Nat} {ds : List D} {a : Addr} (r : R K s env S F σ H) (h : OwnAt K s F H a ds) (off : Off env σ a) : R K s (env.set i (.own ds)) S F (σ.set i (some (.ref a))) H := by
  have key : ∀ {j : Nat} {sl : Sl}, (env.set i (.own ds))[j]? = some sl → (i = j ∧ sl = .own ds ∧ (σ.set i (some (.ref a)))[j]? = some (some (.ref a))) ∨ (i ≠ j ∧ env[j]? = some sl ∧ (σ.set i (some (.ref a)))[j]? = σ[j]?) := fun {j sl} q => by
    by_cases hj : i = j
    · subst hj
      have hl : i < env.length := by
        have := (List.getElem?_eq_some_iff.mp q).1
        simpa using this
      rw [List.getElem?_set_self hl] at q
      cases q
      exact .inl ⟨rfl, rfl, List.getElem?_set_self (by rw [← r.len]; exact hl)⟩
    · rw [List.getElem?_set_ne hj] at q
      exact .inr ⟨hj, q, List.getElem?_set_ne hj⟩
  refine ⟨r.h, by simp [r.len], fun j e q => ?_, fun j es q => ?_, fun j k b es fs hne q1 q2 e1 => ?_⟩
  · rcases key q with ⟨_, z, _⟩ | ⟨_, q', e'⟩
    · cases z
    · obtain ⟨u, h1, h2⟩ := r.val j e q'
      exact ⟨u, by rw [e']; exact h1, h2⟩
  · rcases key q with ⟨_, z, e'⟩ | ⟨_, q', e'⟩
    · cases z
      exact ⟨a, e', h⟩
    · obtain ⟨b, h1, h2⟩ := r.own j es q'
      exact ⟨b, by rw [e']; exact h1, h2⟩
  · rcases key q1 with ⟨z1, _, e1'⟩ | ⟨n1, q1', e1'⟩ <;> rcases key q2 with ⟨z2, _, e2'⟩ | ⟨n2, q2', e2'⟩
    · exact absurd (z1.symm.trans z2) hne
    · rw [e1'] at e1
      cases e1
      rw [e2']
      exact off k fs q2'
    · rw [e1'] at e1
      rw [e2']
      intro z
      cases z
      exact off j es q1' e1
    · rw [e1'] at e1
      rw [e2']
      exact r.dist j k b es fs hne q1' q2' e1
/-- a list of its own is written -/
theorem R.write {K : PySem.W.Frag} {i : Nat} {ds es : List D} {a : Addr} {ys : List V} (r : R K s env S F σ H) (hi : env[i]? = some (.own ds)) (hs : σ[i]? = some (some (.ref a))) (h : Reps K F s.io es ys) : R K s (env.set i (.own es)) S F σ (upd H a (.lst ys)) := by
  obtain ⟨a', g1, w⟩ := r.own i ds hi
  rw [hs] at g1
  cases g1
  have hl : i < env.length := (List.getElem?_eq_some_iff.mp hi).1
  have key : ∀ {j : Nat} {sl : Sl}, (env.set i (.own es))[j]? = some sl → (i = j ∧ sl = .own es) ∨ (i ≠ j ∧ env[j]? = some sl) := fun {j sl} q => by
    by_cases hj : i = j
    · subst hj
      rw [List.getElem?_set_self hl] at q
      cases q
      exact .inl ⟨rfl, rfl⟩
    · rw [List.getElem?_set_ne hj] at q
      exact .inr ⟨hj, q⟩
  refine ⟨⟨same_off r.h.fh w.fr, r.h.f0, r.h.new, fun b u e hn => ?_, r.h.len, r.h.nd, fun n b ds' h1 h2 => ?_⟩, by simp [r.len], fun j d q => ?_, fun j fs q => ?_, fun j k b fs gs hne q1 q2 e1 => ?_⟩
  · have : b ≠ a := fun z => by
      rw [z, w.h0] at e
      cases e
    rw [upd_ne this]
    exact r.h.frame b u e hn
  · obtain ⟨p1, xs, p2, p3⟩ := r.h.cell n b ds' h1 h2
    have : b ≠ a := fun z => w.ni (by rw [← z]; exact List.mem_of_getElem? h1)
    exact ⟨p1, xs, by rw [upd_ne this]; exact p2, p3⟩
  · rcases key q with ⟨_, z⟩ | ⟨_, q'⟩
    · cases z
    · exact r.val j d q'
  · rcases key q with ⟨z, z2⟩ | ⟨z, q'⟩
    · subst z
      cases z2
      exact ⟨a, hs, w.fr, w.h0, w.ni, ys, upd_same, h⟩
    · obtain ⟨b, h1, h2, h3, h4, xs, h5, h6⟩ := r.own j fs q'
      have : b ≠ a := fun e => r.dist i j a ds fs z hi q' hs (by rw [h1, e])
      exact ⟨b, h1, h2, h3, h4, xs, by rw [upd_ne this]; exact h5, h6⟩
  · have fix : ∀ {j : Nat} {fs : List D}, (env.set i (.own es))[j]? = some (.own fs) → ∃ fs', env[j]? = some (.own fs') := fun {j fs} q => by
      rcases key q with ⟨z, _⟩ | ⟨_, q'⟩
      · subst z
        exact ⟨ds, hi⟩
      · exact ⟨fs, q'⟩
    obtain ⟨fs', q1'⟩ := fix q1
    obtain ⟨gs', q2'⟩ := fix q2
    exact r.dist j k b fs' gs' hne q1' q2' e1
/-- a given list is written -/
theorem R.writeC {K : PySem.W.Frag} {c : Nat} {ds : List D} {a : Addr} {ys : List V} (r : R K s env S F σ H) (hw : s.wr[c]? = some a) (h : Reps K F s.io ds ys) : R K s env (S.set c ds) F σ (upd H a (.lst ys)) := by
  have hc : c < S.length := by
    rw [← r.h.len]
    exact (List.getElem?_eq_some_iff.mp hw).1
  obtain ⟨g1, xs0, g2, _⟩ := r.h.cell c a _ hw (List.getElem?_eq_getElem hc)
  have ma : a ∈ s.wr := List.mem_of_getElem? hw
  refine ⟨⟨same_off r.h.fh g1, r.h.f0, r.h.new, fun b u e hn => ?_, by simp [r.h.len], r.h.nd, fun n b ds' h1 h2 => ?_⟩, r.len, r.val, fun j fs q => ?_, r.dist⟩
  · rw [upd_ne (fun z => hn (by rw [z]; exact ma))]
    exact r.h.frame b u e hn
  · by_cases hn : c = n
    · subst hn
      rw [hw] at h1
      cases h1
      rw [List.getElem?_set_self hc] at h2
      cases h2
      exact ⟨g1, ys, upd_same, h⟩
    · rw [List.getElem?_set_ne hn] at h2
      obtain ⟨p1, xs, p2, p3⟩ := r.h.cell n b ds' h1 h2
      have : b ≠ a := fun z => by
        subst z
        exact hn ((List.getElem?_inj (List.getElem?_eq_some_iff.mp hw).1 r.h.nd).mp (hw.trans h1.symm))
      exact ⟨p1, xs, by rw [upd_ne this]; exact p2, p3⟩
  · obtain ⟨b, h1, h2, h3, h4, xs, h5, h6⟩ := r.own j fs q
    exact ⟨b, h1, h2, h3, h4, xs, by rw [upd_ne (fun z => h4 (by rw [z]; exact ma))]; exact h5, h6⟩

theorem OutS.weak {o : SOut} {E : Ends} {F' : Hp} (h : OutS G W s F o E) (e : Same F F') : OutS G W s F' o E := by
  cases o with
  | nx env S => exact fun σ F H r q => h σ F H r (e.trans q)
  | bk env S => exact fun σ F H r q => h σ F H r (e.trans q)
  | ct env S => exact fun σ F H r q => h σ F H r (e.trans q)
  | ret rt S => exact h
  | ex x env S => exact h
  | no => exact h
theorem OutS.go {α β : Type} {rp : Rp α β} {o : Out α} {k : α → Cells → SOut} {E : Ends} {Q : β → Hp → Prop} (h : OutS G W s F (o.go env k) E)
    (hk : ∀ a S' b F' H', R G.K s env S' F' σ H' → Same F F' → rp s env F' σ H' a b → OutS G W s F' (k a S') E → Q b H') : OutP G W rp s env σ F o Q := by
  cases o with
  | ok a S' => exact fun b F' H' r sm q => hk a S' b F' H' r sm q (OutS.weak h sm)
  | ex x S' => exact fun c dx F' H' r q => h c dx σ F' H' r q
  | no => exact h
theorem OutS.nxE {o : SOut} {E E' : Ends} (h : OutS G W s F o E) (h1 : ∀ σ H, E.nx σ H → E'.nx σ H) (h2 : ∀ σ H, E.bk σ H → E'.bk σ H) (h3 : ∀ σ H, E.ct σ H → E'.ct σ H) (h4 : ∀ v H, E.rt v H → E'.rt v H) : OutS G W s F o E' := by
  cases o with
  | nx env S => exact fun σ F H r q => h1 σ H (h σ F H r q)
  | bk env S => exact fun σ F H r q => h2 σ H (h σ F H r q)
  | ct env S => exact fun σ F H r q => h3 σ H (h σ F H r q)
  | ret rt S =>
    cases rt with
    | val d => exact fun v F H r q => h4 v H (h v F H r q)
    | own ds => exact fun a F H r q => h4 _ H (h a F H r q)
  | ex x env S => exact h
  | no => exact h
end

section
variable {X : Cx} {cv : String → Value} {W : WX} {e e1 e2 : Expr} {m m1 m2 : Me} {ma mo : Ma} {mt : Mt} {st : Stmt} {sts sts2 : List Stmt} {ms ms1 ms2 : Ms} {pos pos' pos'' : Pos}
theorem db_nil : DB X cv W [] sNil := PSs.weak pss_nil fun E σ H ⟨s, env, S, F, r, o⟩ => o σ F H r (Same.refl F)
theorem db_cons (h1 : DS X cv W st ms1) (h2 : DB X cv W sts ms2) : DB X cv W (st :: sts) (sSeq ms1 ms2) := PSs.weak (pss_cons h1 h2) fun E σ H ⟨s, env, S, F, r, o⟩ => by
  refine ⟨s, env, S, F, r, ?_⟩
  unfold sSeq at o
  generalize ms1 env S = o1 at o
  cases o1 with
  | nx env' S' => exact fun σ' F' H' r' sm => ⟨s, env', S', F', r', OutS.weak o sm⟩
  | bk _ _ => exact o
  | ct _ _ => exact o
  | ret _ _ => exact o
  | ex _ _ _ => exact o
  | no => exact o
theorem db_one (h1 : DS X cv W st ms1) : DB X cv W [st] ms1 := PSs.weak (pss_one h1) fun E σ H h => h
theorem db_frz (i : Nat) (h : DB X cv W sts ms) : DB X cv W sts (sFrz i ms) := PSs.weak h fun E σ H ⟨s, env, S, F, r, o⟩ => by
  unfold sFrz at o
  split at o
  · rename_i ds q
    obtain ⟨a, h1, w⟩ := r.own i ds q
    -- the list leaves its slot, is frozen, comes back as data
    have r0 : R X.K s (env.set i .no) S F σ H := by
      have key : ∀ {j : Nat} {sl : Sl}, (env.set i .no)[j]? = some sl → sl ≠ .no → i ≠ j ∧ env[j]? = some sl := fun {j sl} q hne => by
        by_cases hj : i = j
        · subst hj
          have hl : i < env.length := by
            have := (List.getElem?_eq_some_iff.mp q).1
            simpa using this
          rw [List.getElem?_set_self hl] at q
          cases q
          exact absurd rfl hne
        · rw [List.getElem?_set_ne hj] at q
          exact ⟨hj, q⟩
      exact ⟨r.h, by simp [r.len], fun j d q => r.val j d (key q (fun z => nomatch z)).2, fun j ds q => r.own j ds (key q (fun z => nomatch z)).2,
        fun j k b es fs hne q1 q2 => r.dist j k b es fs hne (key q1 (fun z => nomatch z)).2 (key q2 (fun z => nomatch z)).2⟩
    have off : Off (env.set i .no) σ a := fun j fs qj hj => by
      by_cases hij : i = j
      · subst hij
        have hl : i < env.length := (List.getElem?_eq_some_iff.mp q).1
        rw [List.getElem?_set_self hl] at qj
        cases qj
      · rw [List.getElem?_set_ne hij] at qj
        exact r.dist i j a ds fs hij q qj h1 hj
    obtain ⟨F2, r2, sm2, rp⟩ := r0.fz w off
    have r3 := r2.setVal (i := i) rp
    rw [List.set_set] at r3
    have es : σ.set i (some (V.ref a)) = σ := by
      refine List.ext_getElem? fun j => ?_
      by_cases hj : i = j
      · subst hj
        rw [List.getElem?_set_self (List.getElem?_eq_some_iff.mp h1).1, h1]
      · rw [List.getElem?_set_ne hj]
    rw [es] at r3
    exact ⟨s, _, S, F2, r3, OutS.weak o sm2⟩
  · exact ⟨s, env, S, F, r, o⟩
theorem ds_pass : DS X cv W (.Pass pos) sNil := PS.weak ps_pass fun E σ H ⟨s, env, S, F, r, o⟩ => o σ F H r (Same.refl F)
theorem ds_break : DS X cv W (.Break pos) sBrk := PS.weak ps_break fun E σ H ⟨s, env, S, F, r, o⟩ => o σ F H r (Same.refl F)
theorem ds_continue : DS X cv W (.Continue pos) sCnt := PS.weak ps_continue fun E σ H ⟨s, env, S, F, r, o⟩ => o σ F H r (Same.refl F)
theorem ds_doc {x j} : DS X cv W (.Expr (.Constant (.str x) j pos) pos') sNil := PS.weak ps_doc fun E σ H ⟨s, env, S, F, r, o⟩ => o σ F H r (Same.refl F)
theorem ds_expr (he : DE X cv W e m) (hs : swapsWith e none pos.line X.env = pure false := by rfl) : DS X cv W (.Expr e pos) (sExp m) := PS.weak (ps_expr he hs) fun E σ H ⟨s, env, S, F, r, o⟩ => ⟨s, env, S, F, r, OutS.go (rp := rpE _) o fun a S1 v F1 H1 r1 sm rv o1 => o1 σ F1 H1 r1 (Same.refl F1)⟩
theorem ds_ret (he : DE X cv W e m) : DS X cv W (.Return (some e) pos) (sRet m) := PS.weak (ps_ret he) fun E σ H ⟨s, env, S, F, r, o⟩ => ⟨s, env, S, F, r, OutS.go (rp := rpE _) o fun a S1 v F1 H1 r1 sm rv o1 => o1 v F1 H1 r1.h rv⟩
theorem ds_retO (he : DO X cv W e mo) : DS X cv W (.Return (some e) pos) (sRetO mo) := PS.weak (ps_ret he) fun E σ H ⟨s, env, S, F, r, o⟩ => ⟨s, env, S, F, r, OutS.go (rp := rpO _) o fun a S1 v F1 H1 r1 sm rv o1 => by
  obtain ⟨p, rfl, w, off⟩ := rv
  exact o1 p F1 H1 r1.h w⟩
theorem ds_retN : DS X cv W (.Return none pos) sRetN := PS.weak ps_retN fun E σ H ⟨s, env, S, F, r, o⟩ => o .non F H r.h rfl
theorem ds_retV (i : Nat) {x : Str} (hN : X.N[i]? = some x := by rfl) (hv : Vis X.env.scope x := by first | exact Or.inl rfl | exact Or.inr (Or.inl rfl) | exact Or.inr (Or.inr rfl)) (hd : (x == ("__debug__" : Str)) = false := by decide)
    (hcd : (x == ("__classdict__" : Str)) = false := by decide) : DS X cv W (.Return (some (.Name x pos')) pos) (sRetV i) := PS.weak (ps_ret (pe_var hN hv hd hcd)) fun E σ H ⟨s, env, S, F, r, o⟩ => by
  unfold sRetV at o
  split at o
  · rename_i ds q
    obtain ⟨a, h1, w⟩ := r.own i ds q
    exact ⟨.ref a, h1, o a F H r.h w⟩
  · rename_i d q
    obtain ⟨v, h1, w⟩ := r.val i d q
    exact ⟨v, h1, o v F H r.h w⟩
  · exact o.elim
theorem ds_if {c : Expr} (hc : DT X cv W c mt) (ha : DB X cv W sts ms1) (hb : DB X cv W sts2 ms2) : DS X cv W (.If c sts sts2 pos) (sIf mt ms1 ms2) := PS.weak (ps_if hc ha hb) fun E σ H ⟨s, env, S, F, r, o⟩ => ⟨s, env, S, F, r, OutS.go (rp := rpT) o fun a S1 b F1 H1 r1 sm rv o1 => by
  cases rv
  cases a with
  | true => exact ⟨s, env, S1, F1, r1, o1⟩
  | false => exact ⟨s, env, S1, F1, r1, o1⟩⟩
theorem ds_set (i : Nat) {x : Str} (hN : X.N.Nodup) (he : DE X cv W e m) (hi : X.N[i]? = some x := by rfl) (hx : Loc X.env.scope x := by first | exact Or.inl rfl | exact Or.inr rfl) (hs : swapsWith e (some (.Name x pos')) pos.line X.env = pure false := by rfl)
    (hf : X.fn x = true ∨ X.env.scope.names.lookup x = some .local := by first | exact .inl rfl | exact .inr rfl | assumption) : DS X cv W (.Assign [.Name x pos'] e pos) (sSet i m) := PS.weak (ps_set hN hi hx he hs hf) fun E σ H ⟨s, env, S, F, r, o⟩ =>
  ⟨s, env, S, F, r, OutS.go (rp := rpE _) o fun a S1 v F1 H1 r1 sm rv o1 => o1 _ F1 H1 (r1.setVal rv) (Same.refl F1)⟩
theorem ds_setO (i : Nat) {x : Str} (hN : X.N.Nodup) (he : DO X cv W e mo) (hi : X.N[i]? = some x := by rfl) (hx : Loc X.env.scope x := by first | exact Or.inl rfl | exact Or.inr rfl) (hs : swapsWith e (some (.Name x pos')) pos.line X.env = pure false := by rfl)
    (hf : X.fn x = true ∨ X.env.scope.names.lookup x = some .local := by first | exact .inl rfl | exact .inr rfl | assumption) : DS X cv W (.Assign [.Name x pos'] e pos) (sSetO i mo) := PS.weak (ps_set hN hi hx he hs hf) fun E σ H ⟨s, env, S, F, r, o⟩ =>
  ⟨s, env, S, F, r, OutS.go (rp := rpO _) o fun a S1 v F1 H1 r1 sm rv o1 => by
    obtain ⟨p, rfl, w, off⟩ := rv
    exact o1 _ F1 H1 (r1.setOwn w off) (Same.refl F1)⟩
theorem sz_lt' {n : Nat} (h : n < 16777216) : n < sizeLine := by rw [sizeLine_eq]; exact h
/-- x.append(e) -/
theorem ds_app (i : Nat) {x : Str} {apos cpos : Pos} (he : DE X cv W e m) (hN : X.N[i]? = some x := by rfl) (hv : Vis X.env.scope x := by first | exact Or.inl rfl | exact Or.inr (Or.inl rfl) | exact Or.inr (Or.inr rfl)) (hd : (x == ("__debug__" : Str)) = false := by decide)
    (hcd : (x == ("__classdict__" : Str)) = false := by decide)
    (hbase : attributeBase (.Name x pos') "append" X.env (eval (.Name x pos') X.env) = eval (.Name x pos') X.env := by rfl)
    (hfew : ((backTo cpos (starEach [e] X.env)).all (fun x => !x.1) && (backToKw cpos (keywordEach [] X.env)).all (fun x => x.1.isSome)
      && decide (([e] : List Expr).length + ([] : List Keyword).length + (if ([] : List Keyword).isEmpty then 0 else 1) < 30)) = true := by rfl)
    (hline : (apos.endLine == cpos.line) = true := by rfl) (hs : starEach [e] X.env = (false, eval e X.env) :: starEach [] X.env := by rfl) (hplain : (backTo cpos (starEach [] X.env)).any (·.1) = false := by rfl)
    (hsw : swapsWith (.Call (.Attribute (.Name x pos') "append" apos) [e] [] cpos) none pos.line X.env = pure false := by rfl) :
    DS X cv W (.Expr (.Call (.Attribute (.Name x pos') "append" apos) [e] [] cpos) pos) (sApp i m) :=
  PS.weak (ps_expr (pe_bm PySem.F.plainAttrs_list PySem.F.slot_list_append PySem.F.type_list_append mt_append (pe_var hN hv hd hcd) (pa_cons he pa_nil hs) hbase hfew hline hs hplain) hsw) fun E σ H ⟨s, env, S, F, r, o⟩ => by
    unfold sApp at o
    split at o
    · rename_i ds0 q
      obtain ⟨a, h1, w⟩ := r.own i ds0 q
      obtain ⟨xs0, hx0, _⟩ := w.at_
      refine ⟨.ref a, h1, .inl ⟨rfl, xs0, .inl (.inl hx0)⟩, s, env, S, F, r, OutS.go (rp := rpE _) o fun d S1 v F1 H1 r1 sm rv o1 => ?_⟩
      split at o1
      · rename_i hl
        obtain ⟨a', g1, w1⟩ := r1.own i ds0 q
        rw [h1] at g1
        cases g1
        obtain ⟨xs, hx, hr⟩ := w1.at_
        exact ⟨a, xs, v, rfl, rfl, hx, sz_lt' (by rw [hr.len]; exact hl), o1 σ F1 _ (r1.write q h1 (hr.append (Reps.one rv))) (Same.refl F1)⟩
      · exact o1.elim
    · exact o.elim
/-- o[j] = e, o a given list -/
theorem ds_putC {ej : Expr} {mj me : Me} (hw : DE X cv W e me) (ho : DE X cv W e1 m1) (hj : DE X cv W ej mj)
    (ha : ∀ v, assign (.Subscript e1 ej pos') X.env v = (do
      let ov ← holding [v] (eval e1 X.env)
      let iv ← holding [v, ov] (eval ej X.env)
      standAt pos'
      holding [v, ov, iv] (setItem ov iv v)
      release [v, ov, iv] []) := by intro _; rfl)
    (hs : swapsWithSole [.Subscript e1 ej pos'] e pos.line X.env = pure false := by rfl) (hw' : swappedStores [.Subscript e1 ej pos'] e X.env = pure none := by rfl)
    (h1 : (assignEach [.Subscript e1 ej pos'] X.env).map (·.2) = [assign (.Subscript e1 ej pos') X.env] := by rfl) :
    DS X cv W (.Assign [.Subscript e1 ej pos'] e pos) (sPutC m1 mj me) :=
  PS.weak (ps_asg hw (pg_sub ho hj set_list ha) hs hw' h1) fun E σ H ⟨s, env, S, F, r, o⟩ =>
    ⟨s, env, S, F, r, OutS.go (rp := rpE _) o fun d S1 v F1 H1 r1 sm1 rv o1 => ⟨s, env, S1, F1, r1, OutS.go (rp := rpE _) o1 fun dc S2 c F2 H2 r2 sm2 rc o2 => ⟨s, env, S2, F2, r2, OutS.go (rp := rpE _) o2 fun dj S3 j F3 H3 r3 sm3 rj o3 => by
      split at o3
      · rename_i cn k
        split at o3
        · rename_i ds q
          split at o3
          · rename_i n hn
            cases rj
            obtain ⟨a, g1, g2⟩ := rc
            subst g1
            have hlt : cn < s.wr.length := by
              rw [r3.h.len]
              exact (List.getElem?_eq_some_iff.mp q).1
            have hwr : s.wr[cn]? = some a := by
              unfold Snap.wr at hlt ⊢
              rw [List.length_take] at hlt
              rw [List.getElem?_take_of_lt (by omega)]
              exact g2
            obtain ⟨p1, xs, p2, p3⟩ := r3.h.cell cn a ds hwr q
            refine ⟨a, xs, k, n, rfl, rfl, p2, by rw [p3.len]; exact hn, ?_⟩
            exact o3 σ F3 _ (r3.writeC hwr (p3.set n (Rep.mono (sm2.trans sm3) d v rv))) (Same.refl F3)
          · exact o3.elim
        · exact o3.elim
      · exact o3.elim⟩⟩⟩
/-- x[j] = e, x a list of its own -/
theorem ds_putO (i : Nat) {x : Str} {ej : Expr} {mj me : Me} {xp : Pos} (hw : DE X cv W e me) (hj : DE X cv W ej mj) (hN : X.N[i]? = some x := by rfl) (hv : Vis X.env.scope x := by first | exact Or.inl rfl | exact Or.inr (Or.inl rfl) | exact Or.inr (Or.inr rfl)) (hd : (x == ("__debug__" : Str)) = false := by decide)
    (hcd : (x == ("__classdict__" : Str)) = false := by decide)
    (ha : ∀ v, assign (.Subscript (.Name x xp) ej pos') X.env v = (do
      let ov ← holding [v] (eval (.Name x xp) X.env)
      let iv ← holding [v, ov] (eval ej X.env)
      standAt pos'
      holding [v, ov, iv] (setItem ov iv v)
      release [v, ov, iv] []) := by intro _; rfl)
    (hs : swapsWithSole [.Subscript (.Name x xp) ej pos'] e pos.line X.env = pure false := by rfl) (hw' : swappedStores [.Subscript (.Name x xp) ej pos'] e X.env = pure none := by rfl)
    (h1 : (assignEach [.Subscript (.Name x xp) ej pos'] X.env).map (·.2) = [assign (.Subscript (.Name x xp) ej pos') X.env] := by rfl) :
    DS X cv W (.Assign [.Subscript (.Name x xp) ej pos'] e pos) (sPutO i mj me) :=
  PS.weak (ps_asg hw (pg_sub (pe_var hN hv hd hcd) hj set_list ha) hs hw' h1) fun E σ H ⟨s, env, S, F, r, o⟩ =>
    ⟨s, env, S, F, r, OutS.go (rp := rpE _) o fun d S1 v F1 H1 r1 sm1 rv o1 => by
      split at o1
      · rename_i ds q
        obtain ⟨a, g1, w⟩ := r1.own i ds q
        refine ⟨.ref a, g1, s, env, S1, F1, r1, OutS.go (rp := rpE _) o1 fun dj S3 j F3 H3 r3 sm3 rj o3 => ?_⟩
        split at o3
        · rename_i k
          split at o3
          · rename_i n hn
            cases rj
            obtain ⟨a', g1', w1⟩ := r3.own i ds q
            rw [g1] at g1'
            cases g1'
            obtain ⟨xs, hx, hr⟩ := w1.at_
            exact ⟨a, xs, k, n, rfl, rfl, hx, by rw [hr.len]; exact hn, o3 σ F3 _ (r3.write q g1 (hr.set n (Rep.mono sm3 d v rv))) (Same.refl F3)⟩
          · exact o3.elim
        · exact o3.elim
      · exact o1.elim⟩
end
end TT
namespace TT
open PySem PySem.Spec PyProof.Rows L2

/-! ### defs -/
abbrev Mf := List D → Cells → Out Ret
def fnM (n N : Nat) (body : Ms) : Mf := fun ds S => if ds.length = n then (match body (ds.map .val ++ List.replicate (N - n) .no) S with
  | .nx _ S' => .ok (.val .non) S'
  | .ret r S' => .ok r S'
  | .ex x _ S' => .ex x S'
  | _ => .no) else .no
def OutC (G : Gm) (s : Snap) (o : Out Ret) (Q : VK) (E : XK) : Prop := match o with
  | .ok r S => RetP G s r S Q
  | .ex x S => ∀ c dx F H, RelH G.K s S F H → RepX G F H s.io x c dx → E c dx H
  | .no => False
/-- a def's promise by its meaning -/
def spT (G : Gm) (m : Mf) : Sp := fun vs H Q E => ∃ ds S F io nw, RelH G.K ⟨io, nw, H, F⟩ S F H ∧ Reps G.K F io ds vs ∧ OutC G ⟨io, nw, H, F⟩ (m ds S) Q E
theorem spT_len {G : Gm} {n N : Nat} {body : Ms} {vs : List V} {H : Hp} {Q : VK} {E : XK} (h : spT G (fnM n N body) vs H Q E) : vs.length = n := by
  obtain ⟨ds, S, F, io, nw, r, rv, o⟩ := h
  unfold fnM at o
  split at o
  · rename_i e
    rw [rv.len, e]
  · exact o.elim
theorem R.start {K : PySem.W.Frag} {s : Snap} {S : Cells} {F H : Hp} {ds : List D} {vs : List V} {N : List Str} {n : Nat} (r : RelH K s S F H) (rv : Reps K F s.io ds vs) (hn : ds.length = n) :
    R K s (ds.map .val ++ List.replicate (N.length - n) .no) S F (L2.start N vs) H := by
  have hl : vs.length = n := by rw [rv.len, hn]
  have key : ∀ {i : Nat} {sl : Sl}, (ds.map Sl.val ++ List.replicate (N.length - n) .no)[i]? = some sl → sl = .no ∨ ∃ d, sl = .val d ∧ ds[i]? = some d := fun {i sl} q => by
    by_cases hi : i < ds.length
    · rw [List.getElem?_append_left (by simpa using hi), List.getElem?_map, List.getElem?_eq_getElem hi] at q
      cases q
      exact .inr ⟨_, rfl, List.getElem?_eq_getElem hi⟩
    · rw [List.getElem?_append_right (by simpa using hi)] at q
      have := List.mem_of_getElem? q
      exact .inl (List.eq_of_mem_replicate this)
  refine ⟨r, ?_, fun i d q => ?_, fun i es q => ?_, fun i j a es fs _ q => ?_⟩
  · simp [L2.start, hl, hn]
  · rcases key q with z | ⟨d', z, hd⟩
    · cases z
    · cases z
      obtain ⟨v, hv, hr⟩ := rv.get hd
      refine ⟨v, ?_, hr⟩
      unfold L2.start
      have hi : i < vs.length := (List.getElem?_eq_some_iff.mp hv).1
      rw [List.getElem?_append_left (by simpa using hi), List.getElem?_map, hv]
      rfl
  · rcases key q with z | ⟨d', z, _⟩ <;> cases z
  · rcases key q with z | ⟨d', z, _⟩ <;> cases z
/-- THE RULE for a def -/
theorem fn_ok {P : Program} {w : World} {K : PySem.W.Frag} {mg : Str → Option Value} {base : Heap} {cv : String → Value} {x qual : Str} {st : Stmt} {f : Addr} {fd : FuncData} {N ps : List Str} {k : Nat} {body : Ms} (F : Fun K x qual st f fd) (Sc : FnScope N ps (defScope st))
    (hbody : ∀ (cdv : Value) (A : Around) (outer : List Env) (s : Shared) (H : Hp) (E : XK), Room k (A.deeper (envOfC qual (defScope st) s.heap.objs.size f cdv)) →
      DB (cxOf (L2.CX P w) P w K mg base N qual (defScope st) f cdv A outer s H E) cv (fun c dx _ H' => E c dx H') (defBody st) body) :
    FnOk P w K mg base (L2.CX P w) (k + 1) f fd ps (spT ⟨K, cv⟩ (fnM ps.length N.length body)) := by
  refine F.okX Sc (fun vs H Q E h => spT_len h) fun cdv A outer s H vs Q E hr h => ⟨_, hbody cdv A outer s H E hr, ?_⟩
  obtain ⟨ds, S, F1, io, nw, r, rv, o⟩ := h
  unfold fnM at o
  split at o
  · rename_i e
    refine ⟨⟨io, nw, H, F1⟩, _, S, F1, R.start r rv e, ?_⟩
    generalize body (ds.map .val ++ List.replicate (N.length - ps.length) .no) S = ob at o
    cases ob with
    | nx env' S' => exact fun σ F' H' r' _ => o .non F' H' r'.h rfl
    | bk _ _ => exact o.elim
    | ct _ _ => exact o.elim
    | ret rt S' => exact o
    | ex x env' S' => exact fun c dx σ F' H' r' q => o c dx F' H' r'.h q
    | no => exact o.elim
  · exact o.elim

/-! ### calls -/
/-- e is a call of the def at f; ma tells the parameters' values -/
def DC (X : Cx) (cv : String → Value) (W : WX) (e : Expr) (f : Addr) (fd : FuncData) (ps : List Str) (ma : Ma) : Prop := ∀ (k : Nat) (sp : Sp) (E : L2.St → XK), FnOk X.prog X.w X.K X.mg X.base (L2.CX X.prog X.w) k f fd ps sp → Room k X.A →
  (∀ σ, PassesAt (L2.CX X.prog X.w) X σ (E σ)) → PE X e (fun σ H Q => tA ⟨X.K, cv⟩ W ma σ H fun vs H1 => sp vs H1 Q (E σ))
/-- the arguments, then the defaults -/
def aDef (ma : Ma) (dds : List D) : Ma := fun env S => (ma env S).bind fun ds S1 => .ok (ds ++ dds) S1
def sel {α : Type} (ix : List Nat) (l : List α) : List α := ix.filterMap fun i => l[i]?
/-- the positional ones, the keywords', put in the parameters' order -/
def aKw (n m : Nat) (ix : List Nat) (ma mk : Ma) : Ma := fun env S => (ma env S).bind fun ds S1 => (mk env S1).bind fun es S2 => if ds.length = n ∧ es.length = m then .ok (sel ix (ds ++ es)) S2 else .no
theorem Reps.sel {K : PySem.W.Frag} {F : Hp} {io : List Addr} {ds : List D} {vs : List V} (r : Reps K F io ds vs) : ∀ ix : List Nat, Reps K F io (TT.sel ix ds) (TT.sel ix vs)
  | [] => rfl
  | i :: ix => by
    unfold TT.sel
    rw [List.filterMap_cons, List.filterMap_cons]
    cases q : ds[i]? with
    | some d =>
      obtain ⟨v, hv, hr⟩ := r.get q
      rw [hv]
      exact ⟨v, _, rfl, hr, Reps.sel r ix⟩
    | none =>
      have : vs[i]? = none := by
        rw [List.getElem?_eq_none_iff] at q ⊢
        rw [r.len]
        exact q
      rw [this]
      exact Reps.sel r ix
theorem Vals.sel {xs : List V} {us : List Value} (r : Vals xs us) : ∀ ix : List Nat, Vals (TT.sel ix xs) (TT.sel ix us)
  | [] => .nil
  | i :: ix => by
    unfold TT.sel
    rw [List.filterMap_cons, List.filterMap_cons]
    cases q : xs[i]? with
    | some v =>
      obtain ⟨u, hu, hr⟩ := r.get q
      rw [hu]
      exact .cons hr (Vals.sel r ix)
    | none =>
      rw [Vals.none_of r q]
      exact Vals.sel r ix
def DK (X : Cx) (cv : String → Value) (W : WX) (kws : List Keyword) (m : Ma) : Prop := PK X kws (tA ⟨X.K, cv⟩ W m)
theorem PK.weak {X : Cx} {e : List Keyword} {t t' : TA} (h : PK X e t) (w : ∀ σ H Q, t' σ H Q → t σ H Q) : PK X e t' := ⟨fun p pins s σ H Q I q => h.run p pins s σ H Q I (w σ H Q q)⟩
section
variable {X : Cx} {cv : String → Value} {W : WX} {e e1 : Expr} {es : List Expr} {m : Me} {ma mk : Ma} {f : Addr} {fd : FuncData} {ps ks : List Str} {x : Str} {p pos kpos : Pos} {kws : List Keyword} {nm : Option Str} {dvs : List V} {us0 : List Value} {dds : List D}
theorem dk_nil : DK X cv W [] aNil := PK.weak pk_nil fun σ H Q ⟨s, env, S, F, r, o⟩ => o [] F H r (Same.refl F) rfl
theorem dk_cons (h : DE X cv W e m) (hr : DK X cv W kws mk) : DK X cv W (⟨nm, e, kpos⟩ :: kws) (aCons m mk) :=
  PK.weak (pk_cons h hr) fun σ H Q ⟨s, env, S, F, r, o⟩ => ⟨s, env, S, F, r, OutP.bind (rp := rpE _) o fun d S1 v F1 H1 r1 sm rv o1 => ⟨s, env, S1, F1, r1, OutP.bind (rp := rpA _) o1 fun ds S2 vs F2 H2 r2 sm2 rvs o2 =>
    o2 (v :: vs) F2 H2 r2 (Same.refl F2) ⟨v, vs, rfl, Rep.mono sm2 d v rv, rvs⟩⟩⟩
/-- f(e, ..) -/
theorem dc_pos (hg : Gl X x) (hm : X.mg x = some (.ref f)) (hk : PySem.W.keepIn X.K (.ref f) = true) (hb : Binds X.K fd ps us0) (hd : Vals dvs us0) (hdd : ∀ F io, Reps X.K F io dds dvs) (ha : DA X cv W (e :: es) ma) (hdb : (x == ("__debug__" : Str)) = false := by decide)
    (he : starEach (e :: es) X.env = (false, eval e X.env) :: starEach es X.env := by rfl) (hpl : (backTo pos (starEach es X.env)).any (·.1) = false := by rfl) : DC X cv W (.Call (.Name x p) (e :: es) [] pos) f fd ps (aDef ma dds) := fun k sp E F hr hx =>
  PE.weak (pe_callSD F hr hg hm hk hb hd hx ha hdb he hpl) fun σ H Q ⟨s, env, S, F, r, o⟩ => ⟨s, env, S, F, r, OutP.bind (rp := rpA _) o fun ds S1 vs F1 H1 r1 sm rv o1 => o1 _ F1 H1 r1 (Same.refl F1) (rv.append (hdd F1 s.io))⟩
theorem run_k {pins : List (Addr × Obj)} {σ : L2.St} {H : Hp} {s : Shared} {Q : VK} {k : Nat} {sp : Sp} {E : L2.St → XK} {us us' : List Value} {kw : List (Str × Value)} {vs : List V} (F : FnOk X.prog X.w X.K X.mg X.base (L2.CX X.prog X.w) k f fd ps sp) (hr : Room k X.A) (hx : PassesAt (L2.CX X.prog X.w) X σ (E σ))
    (I : Inv X pins σ H s) (hb : BindsTo s fd ⟨us, kw⟩ (ps.zip us')) (r : Vals vs us') (h : sp vs H Q (E σ)) : wpAny (model X.prog X.w) X.A (call (.ref f) us kw) (EP X pins σ Q) X.xe s := by
  refine wpAny_call (codeAny_mono (F.run X.A X.stack s H ⟨us, kw⟩ us' vs Q (E σ) hr I.env0 hb r h) fun r s' hq => ?_)
  cases r with
  | error e => exact hx pins H s e s' I hq
  | ok fl =>
    cases fl with
    | ret u => exact I.after hq
    | next => exact False.elim hq
    | brk => exact False.elim hq
    | cont => exact False.elim hq
/-- f() -/
theorem dc_no (hg : Gl X x) (hm : X.mg x = some (.ref f)) (hk : PySem.W.keepIn X.K (.ref f) = true) (hb : Binds X.K fd ps us0) (hd : Vals dvs us0) (hdd : ∀ F io, Reps X.K F io dds dvs) (hdb : (x == ("__debug__" : Str)) = false := by decide) :
    DC X cv W (.Call (.Name x p) [] [] pos) f fd ps (fun _ S => .ok dds S) := fun k sp E F hr hx => ⟨fun pins s σ H Q I h => by
  obtain ⟨sn, env, S, F1, r, o⟩ := h
  refine wpAny_Call_Name_kw (ld_glob I hg hm ?_ hdb)
  have h2 := o dvs F1 H r (Same.refl F1) (hdd F1 sn.io)
  have hl : ([] ++ us0).length = ps.length := by
    rw [List.nil_append, ← hd.length]
    exact F.len _ _ _ _ h2
  have hb' := hb s [] I.kIn hl
  rw [List.nil_append] at hb'
  exact PySem.W.callWith_K0 I.kIn hk (run_k F hr (hx σ) I hb' hd h2)⟩
/-- how keywords bind: the parameters by their places among the positional values and the keywords' -/
def KwB (K : PySem.W.Frag) (fd : FuncData) (ps : List Str) (n : Nat) (ks : List Str) (ix : List Nat) : Prop := ∀ (s : Shared) (us ws : List Value), K.In s.heap → us.length = n → ws.length = ks.length → BindsTo s fd ⟨us, ks.zip ws⟩ (ps.zip (sel ix (us ++ ws)))
/-- f(k = v, ..) -/
theorem dc_kw0 {ix : List Nat} (hg : Gl X x) (hm : X.mg x = some (.ref f)) (hk : PySem.W.keepIn X.K (.ref f) = true) (hb : KwB X.K fd ps 0 ks ix) (hkw : DK X cv W kws mk) (hall : (backToKw pos (keywordEach kws X.env)).all (·.1.isSome) = true := by rfl) (hks : (backToKw pos (keywordEach kws X.env)).filterMap (·.1) = ks := by rfl)
    (hdb : (x == ("__debug__" : Str)) = false := by decide) (hpl : ((backTo pos (starEach [] X.env)).any (·.1) || (backToKw pos (keywordEach kws X.env)).any (·.1.isNone)) = false := by rfl) :
    DC X cv W (.Call (.Name x p) [] kws pos) f fd ps (aKw 0 ks.length ix aNil mk) := fun k sp E F hr hx => ⟨fun pins s σ H Q I h => by
  obtain ⟨sn, env, S, F1, r, o⟩ := h
  refine wpAny_Call_Name_kw (ld_glob I hg hm ?_ hdb)
  refine PySem.W.callWith_KW0 (h₀ := X.base) I.ok.mod.kin hk hall ?_ hpl
  refine thn (hkw.run pos pins s σ H (fun ws H2 => ∃ es S2 F2, Reps X.K F2 sn.io es ws ∧ R X.K sn env S2 F2 σ H2 ∧ OutP ⟨X.K, cv⟩ W (rpA _) sn env σ F2 (if ([] : List D).length = 0 ∧ es.length = ks.length then .ok (sel ix ([] ++ es)) S2 else .no) (fun vs H1 => sp vs H1 Q (E σ))) I ⟨sn, env, S, F1, r, OutP.bind (rp := rpA _) o fun es S2 ws F2 H2 r2 sm rv o2 => ⟨es, S2, F2, rv, r2, o2⟩⟩) fun us s2 h2 => ?_
  obtain ⟨ws, H2, I2, rz, es, S2, F2, rv, r2, o2⟩ := h2
  refine ⟨I2.kIn, ?_⟩
  rw [hks]
  split at o2
  · rename_i hl
    refine run_k F hr (hx σ) I2 (hb s2 [] us I2.kIn rfl (by rw [← rz.length, rv.len]; exact hl.2)) (Vals.sel (rz : Vals ([] ++ ws) ([] ++ us)) ix) ?_
    exact o2 _ F2 H2 r2 (Same.refl F2) (Reps.sel (rv : Reps X.K F2 sn.io ([] ++ es) ([] ++ ws)) ix)
  · exact o2.elim⟩
/-- f(e, .., k = v, ..) -/
theorem dc_kw {ix : List Nat} {n : Nat} (hg : Gl X x) (hm : X.mg x = some (.ref f)) (hk : PySem.W.keepIn X.K (.ref f) = true) (hb : KwB X.K fd ps n ks ix) (ha : DA X cv W (e :: es) ma) (hkw : DK X cv W kws mk) (hall : (backToKw pos (keywordEach kws X.env)).all (·.1.isSome) = true := by rfl)
    (hks : (backToKw pos (keywordEach kws X.env)).filterMap (·.1) = ks := by rfl) (hdb : (x == ("__debug__" : Str)) = false := by decide) (he : starEach (e :: es) X.env = (false, eval e X.env) :: starEach es X.env := by rfl)
    (hpl : ((backTo pos (starEach (e :: es) X.env)).any (·.1) || (backToKw pos (keywordEach kws X.env)).any (·.1.isNone)) = false := by rfl) :
    DC X cv W (.Call (.Name x p) (e :: es) kws pos) f fd ps (aKw n ks.length ix ma mk) := fun k sp E F hr hx => ⟨fun pins s σ H Q I h => by
  obtain ⟨sn, env, S, F1, r, o⟩ := h
  refine wpAny_Call_Name_kw (ld_glob I hg hm ?_ hdb)
  refine PySem.W.callWith_KW (h₀ := X.base) I.ok.mod.kin hk hall ?_ hpl he
  refine thn (ha.run pos pins s σ H _ I ⟨sn, env, S, F1, r, OutP.bind (rp := rpA _) o fun ds S1 vs F1 H1 r1 sm rv o1 => (⟨ds, S1, F1, rv, r1, o1⟩ : ∃ ds S1 F1, Reps X.K F1 sn.io ds vs ∧ R X.K sn env S1 F1 σ H1 ∧
    OutP ⟨X.K, cv⟩ W (rpA _) sn env σ F1 ((mk env S1).bind fun es S2 => if ds.length = n ∧ es.length = ks.length then .ok (sel ix (ds ++ es)) S2 else .no) (fun vs H1 => sp vs H1 Q (E σ)))⟩) fun us s1 h1 => ?_
  obtain ⟨vs, H1, I1, rz1, ds, S1, F1, rv1, r1, o1⟩ := h1
  refine thn (hkw.run pos pins s1 σ H1 _ I1 ⟨sn, env, S1, F1, r1, OutP.bind (rp := rpA _) o1 fun es S2 ws F2 H2 r2 sm rv o2 => (⟨es, S2, F2, Reps.mono sm _ _ rv1, rv, r2, o2⟩ : ∃ es S2 F2, Reps X.K F2 sn.io ds vs ∧ Reps X.K F2 sn.io es ws ∧ R X.K sn env S2 F2 σ H2 ∧
    OutP ⟨X.K, cv⟩ W (rpA _) sn env σ F2 (if ds.length = n ∧ es.length = ks.length then .ok (sel ix (ds ++ es)) S2 else .no) (fun vs H1 => sp vs H1 Q (E σ)))⟩) fun us2 s2 h2 => ?_
  obtain ⟨ws, H2, I2, rz, es, S2, F2, rv1', rv, r2, o2⟩ := h2
  refine ⟨I2.kIn, ?_⟩
  rw [hks]
  split at o2
  · rename_i hl
    refine run_k F hr (hx σ) I2 (hb s2 us us2 I2.kIn (by rw [← rz1.length, rv1.len]; exact hl.1) (by rw [← rz.length, rv.len]; exact hl.2)) (Vals.sel (rz1.append rz) ix) ?_
    exact o2 _ F2 H2 r2 (Same.refl F2) (Reps.sel (rv1'.append rv) ix)
  · exact o2.elim⟩

/-! ### what a call gives -/
/-- data -/
def dCall (mf : Mf) (ma : Ma) : Me := fun env S => (ma env S).bind fun ds S1 => (mf ds S1).bind fun r S2 => .ok r.fz S2
/-- a new list -/
def oCall (mf : Mf) (ma : Ma) : Ma := fun env S => (ma env S).bind fun ds S1 => (mf ds S1).bind fun r S2 => match r with
  | .own es => .ok es S2
  | _ => .no
/-- data, of a def that uses no given list -/
def dCallP (mf : Mf) (ma : Ma) : Me := fun env S => (ma env S).bind fun ds S1 => match mf ds [] with
  | .ok r _ => .ok r.fz S1
  | .ex x _ => .ex x S1
  | .no => .no
def oCallP (mf : Mf) (ma : Ma) : Ma := fun env S => (ma env S).bind fun ds S1 => match mf ds [] with
  | .ok (.own es) _ => .ok es S1
  | .ok _ _ => .no
  | .ex x _ => .ex x S1
  | .no => .no
theorem own_off {K : PySem.W.Frag} {s : Snap} {env : Ev} {S S' : Cells} {F F' H H' : Hp} {σ : L2.St} {a : Addr} {ds : List D} {nw : Nat} (r : R K s env S F σ H) (hni : a ∉ s.wr) (c : OwnAt K ⟨s.io, nw, H, F⟩ F' H' a ds) : OwnAt K s F' H' a ds ∧ Off env σ a := by
  obtain ⟨h0, _, _⟩ := r.h.h0 c.h0
  refine ⟨⟨c.fr, h0, hni, c.at_⟩, fun i es q hs => ?_⟩
  obtain ⟨b, g1, g2⟩ := r.own i es q
  rw [hs] at g1
  cases g1
  obtain ⟨xs, g3, _⟩ := g2.at_
  have z : H a = none := c.h0
  rw [z] at g3
  cases g3
theorem RelH.enterP {K : PySem.W.Frag} {s : Snap} {S : Cells} {F H : Hp} (r : RelH K s S F H) : RelH K ⟨s.io, 0, H, F⟩ [] F H :=
  ⟨r.fh, Same.refl F, fun a e => .inl e, fun a o e _ => e, rfl, .nil, fun n a ds h => by cases h⟩
theorem R.afterP {K : PySem.W.Frag} {s : Snap} {env : Ev} {S S' : Cells} {F F' H H' : Hp} {σ : L2.St} (r : R K s env S F σ H) (c : RelH K ⟨s.io, 0, H, F⟩ S' F' H') : R K s env S F' σ H' := by
  have fr : ∀ a o, H a = some o → H' a = some o := fun a o e => c.frame a o e (by simp [Snap.wr])
  have nf : ∀ a, F a = none → H a ≠ none → F' a = none := fun a h1 h2 => by
    cases q : F' a with
    | none => rfl
    | some u =>
      rcases c.new a (by rw [q]; exact fun z => nomatch z) with z | z
      · exact absurd h1 z
      · exact absurd z h2
  refine ⟨⟨c.fh, r.h.f0.trans c.f0, fun a e => ?_, fun a o e hn => fr a o (r.h.frame a o e hn), r.h.len, r.h.nd, fun n a ds h1 h2 => ?_⟩, r.len, fun i d q => ?_, fun i ds q => ?_, r.dist⟩
  · rcases c.new a e with h | h
    · exact r.h.new a h
    · exact .inr (r.h.h0 h).1
  · obtain ⟨g1, xs, g2, g3⟩ := r.h.cell n a ds h1 h2
    exact ⟨nf a g1 (by rw [g2]; exact fun z => nomatch z), xs, fr a _ g2, Reps.mono c.f0 ds xs g3⟩
  · obtain ⟨v, h1, h2⟩ := r.val i d q
    exact ⟨v, h1, Rep.mono c.f0 d v h2⟩
  · obtain ⟨a, h1, h2, h3, h4, xs, h5, h6⟩ := r.own i ds q
    exact ⟨a, h1, nf a h2 (by rw [h5]; exact fun z => nomatch z), h3, h4, xs, fr a _ h5, Reps.mono c.f0 ds xs h6⟩
theorem de_call {k : Nat} {mf : Mf} (tk : Takes X W) (F : FnOk X.prog X.w X.K X.mg X.base (L2.CX X.prog X.w) k f fd ps (spT ⟨X.K, cv⟩ mf)) (hr : Room k X.A) (h : DC X cv W e f fd ps ma) : DE X cv W e (dCall mf ma) :=
  PE.weak (h k _ _ F hr (fun σ => passAt tk σ)) fun σ H Q ⟨s, env, S, F, r, o⟩ => ⟨s, env, S, F, r, OutP.bind (rp := rpA _) o fun ds S1 vs F1 H1 r1 sm rv o1 => ⟨ds, S1, F1, s.io, s.nw, r1.h.enter, rv, by
    generalize mf ds S1 = om at o1
    cases om with
    | ok rt S2 =>
      cases rt with
      | val d => exact fun v F2 H2 c rv2 => o1 v F2 H2 (r1.after c) c.f0 rv2
      | own es =>
        intro a F2 H2 c w
        obtain ⟨w2, off⟩ := own_off (S' := S2) r1 w.ni w
        obtain ⟨F3, r3, sm3, rp3⟩ := (r1.after c).fz w2 off
        exact o1 _ F3 H2 r3 (c.f0.trans sm3) rp3
    | ex x S2 => exact fun c dx F2 H2 cr rx => o1 c dx F2 H2 (r1.after cr) rx
    | no => exact o1⟩⟩
theorem do_call {k : Nat} {mf : Mf} (tk : Takes X W) (F : FnOk X.prog X.w X.K X.mg X.base (L2.CX X.prog X.w) k f fd ps (spT ⟨X.K, cv⟩ mf)) (hr : Room k X.A) (h : DC X cv W e f fd ps ma) : DO X cv W e (oCall mf ma) :=
  PE.weak (h k _ _ F hr (fun σ => passAt tk σ)) fun σ H Q ⟨s, env, S, F, r, o⟩ => ⟨s, env, S, F, r, OutP.bind (rp := rpA _) o fun ds S1 vs F1 H1 r1 sm rv o1 => ⟨ds, S1, F1, s.io, s.nw, r1.h.enter, rv, by
    generalize mf ds S1 = om at o1
    cases om with
    | ok rt S2 =>
      cases rt with
      | val d => exact False.elim o1
      | own es =>
        intro a F2 H2 c w
        obtain ⟨w2, off⟩ := own_off (S' := S2) r1 w.ni w
        exact o1 _ F2 H2 (r1.after c) c.f0 ⟨a, rfl, w2, off⟩
    | ex x S2 => exact fun c dx F2 H2 cr rx => o1 c dx F2 H2 (r1.after cr) rx
    | no => exact o1⟩⟩
theorem wr0 {K : PySem.W.Frag} {s : Snap} {env : Ev} {S S' : Cells} {F F' H H' : Hp} {σ : L2.St} {a : Addr} {ds : List D} (r : R K s env S F σ H) (c : OwnAt K ⟨s.io, 0, H, F⟩ F' H' a ds) : a ∉ s.wr := (r.h.h0 c.h0).2.1
theorem de_callP {k : Nat} {mf : Mf} (tk : Takes X W) (F : FnOk X.prog X.w X.K X.mg X.base (L2.CX X.prog X.w) k f fd ps (spT ⟨X.K, cv⟩ mf)) (hr : Room k X.A) (h : DC X cv W e f fd ps ma) : DE X cv W e (dCallP mf ma) :=
  PE.weak (h k _ _ F hr (fun σ => passAt tk σ)) fun σ H Q ⟨s, env, S, F, r, o⟩ => ⟨s, env, S, F, r, OutP.bind (rp := rpA _) o fun ds S1 vs F1 H1 r1 sm rv o1 => ⟨ds, [], F1, s.io, 0, r1.h.enterP, rv, by
    generalize mf ds [] = om at o1
    cases om with
    | ok rt S2 =>
      cases rt with
      | val d => exact fun v F2 H2 c rv2 => o1 v F2 H2 (r1.afterP c) c.f0 rv2
      | own es =>
        intro a F2 H2 c w
        obtain ⟨w2, off⟩ := own_off (S' := S2) r1 (wr0 (S' := S2) r1 w) w
        obtain ⟨F3, r3, sm3, rp3⟩ := (r1.afterP c).fz w2 off
        exact o1 _ F3 H2 r3 (c.f0.trans sm3) rp3
    | ex x S2 => exact fun c dx F2 H2 cr rx => o1 c dx F2 H2 (r1.afterP cr) rx
    | no => exact o1⟩⟩
theorem do_callP {k : Nat} {mf : Mf} (tk : Takes X W) (F : FnOk X.prog X.w X.K X.mg X.base (L2.CX X.prog X.w) k f fd ps (spT ⟨X.K, cv⟩ mf)) (hr : Room k X.A) (h : DC X cv W e f fd ps ma) : DO X cv W e (oCallP mf ma) :=
  PE.weak (h k _ _ F hr (fun σ => passAt tk σ)) fun σ H Q ⟨s, env, S, F, r, o⟩ => ⟨s, env, S, F, r, OutP.bind (rp := rpA _) o fun ds S1 vs F1 H1 r1 sm rv o1 => ⟨ds, [], F1, s.io, 0, r1.h.enterP, rv, by
    generalize mf ds [] = om at o1
    cases om with
    | ok rt S2 =>
      cases rt with
      | val d => exact False.elim o1
      | own es =>
        intro a F2 H2 c w
        obtain ⟨w2, off⟩ := own_off (S' := S2) r1 (wr0 (S' := S2) r1 w) w
        exact o1 _ F2 H2 (r1.afterP c) c.f0 ⟨a, rfl, w2, off⟩
    | ex x S2 => exact fun c dx F2 H2 cr rx => o1 c dx F2 H2 (r1.afterP cr) rx
    | no => exact o1⟩⟩
end
end TT
namespace TT
open PySem PySem.Spec PyProof.Rows L2

/-! ### what is walked -/
/-- the item d is x: as it stands, or a new object -/
def Yd (K : PySem.W.Frag) (io : List Addr) (F : Hp) (d : D) (H : Hp) (x : V) (H' : Hp) : Prop :=
  (H' = H ∧ Rep K F io d x) ∨ ∃ T o, H T = none ∧ H' = upd H T o ∧ ∀ F2, Same F F2 → F2 T = none → Rep K (upd F2 T o) io d x
def WalkD (K : PySem.W.Frag) (io : List Addr) (F : Hp) (J : It) (ds : List D) : Prop :=
  L2.Walk J ds.length (fun H => Same F H) fun i H x H' => ∃ d, ds[i]? = some d ∧ Yd K io F d H x H'
abbrev rpI (G : Gm) : Rp (List D) It := fun s _ F _ _ ds J => WalkD G.K s.io F J ds
def DI (X : Cx) (cv : String → Value) (W : WX) (tg iter : Expr) (mi : Ma) : Prop := PI X tg iter (tG ⟨X.K, cv⟩ W (rpI ⟨X.K, cv⟩) mi)
theorem Reps.getV {K : PySem.W.Frag} {F : Hp} {io : List Addr} : ∀ {ds : List D} {xs : List V} {i : Nat} {v : V}, Reps K F io ds xs → xs[i]? = some v → ∃ d, ds[i]? = some d ∧ Rep K F io d v
  | [], _, _, _, h, e => by cases h; simp at e
  | d :: ds, _, 0, _, ⟨x, r, h1, h2, _⟩, e => by
    subst h1
    simp at e
    subst e
    exact ⟨d, rfl, h2⟩
  | d :: ds, _, i + 1, _, ⟨x, r, h1, _, h3⟩, e => by
    subst h1
    simpa using Reps.getV h3 (by simpa using e)
theorem PI.weak {X : Cx} {tg e : Expr} {t t' : TI} (h : PI X tg e t) (w : ∀ σ H Q, t' σ H Q → t σ H Q) : PI X tg e t' := ⟨fun pins s σ H Q I q => h.run pins s σ H Q I (w σ H Q q)⟩
theorem PI.or {X : Cx} {tg e : Expr} {t t' : TI} (h : PI X tg e t) (h' : PI X tg e t') : PI X tg e (fun σ H R => t σ H R ∨ t' σ H R) := ⟨fun pins s σ H Q I q => by
  rcases q with q | q
  · exact h.run pins s σ H Q I q
  · exact h'.run pins s σ H Q I q⟩
section
variable {K : PySem.W.Frag} {io : List Addr} {F : Hp} {ds : List D} {xs : List V} {a : Addr}
theorem walk_l (h : SqL K F a xs) (r : Reps K F io ds xs) : WalkD K io F (Itl K a) ds := by
  unfold WalkD
  rw [← r.len]
  exact walk_list.mono (fun H e => e.seq h) fun i H x H' _ _ y => by
    obtain ⟨d, h1, h2⟩ := r.getV y.2
    exact ⟨d, h1, .inl ⟨y.1, h2⟩⟩
theorem walk_t (h : SqT K F a xs) (r : Reps K F io ds xs) : WalkD K io F (Itt K a) ds := by
  unfold WalkD
  rw [← r.len]
  exact walk_tup.mono (fun H e => seqT e h) fun i H x H' _ _ y => by
    obtain ⟨d, h1, h2⟩ := r.getV y.2
    exact ⟨d, h1, .inl ⟨y.1, h2⟩⟩
theorem walk_s (x : List Char) : WalkD K io F (Its (cps x)) (x.map fun c => .str [c]) := by
  unfold WalkD
  have e : (x.map fun c => D.str [c]).length = (cps x).cps.size := by simp [cps]
  rw [e]
  exact walk_str.mono (fun _ _ => trivial) fun i H v H' hi _ y => by
    obtain ⟨y1, c, y2, y3⟩ := y
    have hx : i < x.length := by simpa [cps] using hi
    refine ⟨.str [x[i]], by simp [hx], .inl ⟨y1, ?_⟩⟩
    have : c = x[i].toNat := by
      have z : (cps x).cps[i]? = some x[i].toNat := by simp [cps, hx]
      rw [z] at y2
      exact (Option.some.inj y2).symm
    rw [y3, this]
    rfl
def rgD (lo : Int) (n : Nat) : List D := (List.range n).map fun (i : Nat) => .int (lo + (i : Int))
theorem walk_r (lo : Int) (n : Nat) : WalkD K io F (Itr lo n) (rgD lo n) := by
  unfold WalkD
  have e : (rgD lo n).length = n := by simp [rgD]
  rw [e]
  exact walk_range.mono (fun _ _ => trivial) fun i H v H' hi _ y => by
    refine ⟨.int (lo + i), by simp [rgD, hi], .inl ⟨y.1, ?_⟩⟩
    exact y.2
def enumD (ds : List D) : List D := (List.range ds.length).zipWith (fun (i : Nat) d => .tup [.int (i : Int), d]) ds
theorem walk_en (h : SqL K F a xs) (r : Reps K F io ds xs) : WalkD K io F (Ite K a) (enumD ds) := by
  unfold WalkD
  have e : (enumD ds).length = xs.length := by simp [enumD, r.len]
  rw [e]
  exact walk_enum.mono (fun H e => e.seq h) fun i H v H' hi _ y => by
    obtain ⟨T, x, z, e1, e2, e3, e4, e5⟩ := y
    obtain ⟨d, h1, h2⟩ := r.getV e5
    have hi' : i < ds.length := by rw [← r.len]; exact hi
    refine ⟨.tup [.int (i : Int), d], ?_, .inr ⟨T, .tup [x, z], e2, e3, fun F2 sm hT => ⟨T, [x, z], e1, .inl (.inl upd_same), ?_⟩⟩⟩
    · simp [enumD, List.getElem?_zipWith, hi', h1]
      exact Option.some.inj ((List.getElem?_eq_getElem hi').symm.trans h1)
    · cases e4
      exact ⟨_, _, rfl, rfl, _, _, rfl, Rep.mono (sm.trans (same_upd hT)) d z h2, rfl⟩
def zipD (ds es : List D) : List D := ds.zipWith (fun d e => .tup [d, e]) es
theorem walk_z {es : List D} {ys : List V} {b : Addr} (h : SqL K F a xs) (r : Reps K F io ds xs) (h' : SqL K F b ys) (r' : Reps K F io es ys) : WalkD K io F (Itz K a b) (zipD ds es) := by
  unfold WalkD
  have e : (zipD ds es).length = min xs.length ys.length := by simp [zipD, r.len, r'.len]
  refine Walk.mono (walk_zip (xs := xs) (ys := ys) e) (fun H e => ⟨e.seq h, e.seq h'⟩) fun i H v H' hi _ y => ?_
  obtain ⟨T, x, z, e1, e2, e3, e4, e5⟩ := y
  obtain ⟨d, h1, h2⟩ := r.getV e4
  obtain ⟨d', h3, h4⟩ := r'.getV e5
  refine ⟨.tup [d, d'], by simp [zipD, List.getElem?_zipWith, h1, h3], .inr ⟨T, .tup [x, z], e2, e3, fun F2 sm hT => ⟨T, [x, z], e1, .inl (.inl upd_same), ?_⟩⟩⟩
  exact ⟨_, _, rfl, Rep.mono (sm.trans (same_upd hT)) d x h2, _, _, rfl, Rep.mono (sm.trans (same_upd hT)) d' z h4, rfl⟩
end
def itemsOf (d : D) (S : Cells) : Out (List D) := match d with
  | .lst ds => .ok ds S
  | .frl ds => .ok ds S
  | .tup ds => .ok ds S
  | .str x => .ok (x.map fun c => .str [c]) S
  | _ => .no
/-- range(a) -/
def iRange1 (ds : List D) (S : Cells) : Out (List D) := match ds with
  | [.int j] => if -4611686018427387904 ≤ j ∧ j < 4611686018427387904 then .ok (rgD 0 j.toNat) S else .no
  | _ => .no
def iRange2 (ds : List D) (S : Cells) : Out (List D) := match ds with
  | [.int i, .int j] => if -4611686018427387904 ≤ i ∧ i < 4611686018427387904 ∧ -4611686018427387904 ≤ j ∧ j < 4611686018427387904 then .ok (rgD i (j - i).toNat) S else .no
  | _ => .no
def iEnumD (ds : List D) (S : Cells) : Out (List D) := match ds with
  | [.lst ds] => .ok (enumD ds) S
  | [.frl ds] => .ok (enumD ds) S
  | _ => .no
def iZipD (ds : List D) (S : Cells) : Out (List D) := match ds with
  | [.lst ds, .lst es] => .ok (zipD ds es) S
  | _ => .no
section
variable {X : Cx} {cv : String → Value} {W : WX} {e e1 e2 tg : Expr} {m : Me} {ma : Ma} {p pos tpos : Pos} {elts : List Expr} {kk : Nat}
theorem di_any (h : DE X cv W e m) : DI X cv W tg e (dUn itemsOf m) :=
  PI.weak (PI.or (pi_list h) (PI.or (pi_tup h) (pi_str h))) fun σ H Q ⟨s, env, S, F, r, o⟩ => by
    have o' : OutP ⟨X.K, cv⟩ W (rpI _) s env σ F ((m env S).bind itemsOf) Q := o
    cases q : m env S with
    | ok d S1 =>
      cases d with
      | lst ds =>
        refine .inl ⟨s, env, S, F, r, ?_⟩
        rw [q] at o' ⊢
        intro v F1 H1 r1 sm rv
        obtain ⟨a, xs, rfl, h1, h2⟩ := rv
        exact ⟨a, rfl, ⟨xs, .inl (.inl (r1.h.fh _ _ h1))⟩, o' _ F1 H1 r1 sm (walk_l (.inl (.inl h1)) h2)⟩
      | frl ds =>
        refine .inl ⟨s, env, S, F, r, ?_⟩
        rw [q] at o' ⊢
        intro v F1 H1 r1 sm rv
        obtain ⟨a, xs, rfl, h1, h2⟩ := rv
        exact ⟨a, rfl, ⟨xs, r1.h.fh.seq h1⟩, o' _ F1 H1 r1 sm (walk_l h1 h2)⟩
      | tup ds =>
        refine .inr (.inl ⟨s, env, S, F, r, ?_⟩)
        rw [q] at o' ⊢
        intro v F1 H1 r1 sm rv
        obtain ⟨a, xs, rfl, h1, h2⟩ := rv
        exact ⟨a, rfl, ⟨xs, seqT r1.h.fh h1⟩, o' _ F1 H1 r1 sm (walk_t h1 h2)⟩
      | str x =>
        refine .inr (.inr ⟨s, env, S, F, r, ?_⟩)
        rw [q] at o' ⊢
        intro v F1 H1 r1 sm rv
        cases rv
        exact ⟨_, rfl, o' _ F1 H1 r1 sm (walk_s x)⟩
      | _ =>
        rw [q] at o'
        exact False.elim o'
    | ex x S1 =>
      refine .inl ⟨s, env, S, F, r, ?_⟩
      rw [q] at o' ⊢
      exact o'
    | no =>
      rw [q] at o'
      exact False.elim o'
theorem di_range1 (hg : Gl X "range") (hm : X.mg "range" = none) (ha : DA X cv W [e] ma) (hs : starEach [e] X.env = [(false, eval e X.env)] := by rfl) : DI X cv W tg (.Call (.Name "range" p) [e] [] pos) (dArgs iRange1 ma) :=
  PI.weak (pi_range1 hg hm ha hs) fun σ H Q ⟨s, env, S, F, r, o⟩ => ⟨s, env, S, F, r, OutP.bind (rp := rpA _) o fun ds S1 vs F1 H1 r1 sm rv o1 => by
    unfold iRange1 at o1
    split at o1
    · split at o1
      · rename_i j h
        obtain ⟨x, r', rfl, h1, h2⟩ := rv
        cases h1
        cases h2
        exact ⟨j, rfl, by omega, by omega, o1 _ F1 H1 r1 (Same.refl F1) (walk_r 0 _)⟩
      · exact o1.elim
    · exact o1.elim⟩
theorem di_range2 (hg : Gl X "range") (hm : X.mg "range" = none) (ha : DA X cv W [e1, e2] ma) (hs : starEach [e1, e2] X.env = [(false, eval e1 X.env), (false, eval e2 X.env)] := by rfl) (hs2 : starEach [e2] X.env = [(false, eval e2 X.env)] := by rfl) :
    DI X cv W tg (.Call (.Name "range" p) [e1, e2] [] pos) (dArgs iRange2 ma) :=
  PI.weak (pi_range2 hg hm ha hs hs2) fun σ H Q ⟨s, env, S, F, r, o⟩ => ⟨s, env, S, F, r, OutP.bind (rp := rpA _) o fun ds S1 vs F1 H1 r1 sm rv o1 => by
    unfold iRange2 at o1
    split at o1
    · split at o1
      · rename_i i j h
        obtain ⟨x, r', rfl, h1, x2, r2, rfl, h2, h3⟩ := rv
        cases h1
        cases h2
        cases h3
        exact ⟨i, j, rfl, ⟨by omega, by omega, by omega, by omega⟩, o1 _ F1 H1 r1 (Same.refl F1) (walk_r i _)⟩
      · exact o1.elim
    · exact o1.elim⟩
theorem di_enum (hg : Gl X "enumerate") (hm : X.mg "enumerate" = none) (ha : DA X cv W [e] ma) (hs : starEach [e] X.env = [(false, eval e X.env)] := by rfl) : DI X cv W (.Tuple elts kk tpos) (.Call (.Name "enumerate" p) [e] [] pos) (dArgs iEnumD ma) :=
  PI.weak (pi_enum hg hm ha hs) fun σ H Q ⟨s, env, S, F, r, o⟩ => ⟨s, env, S, F, r, OutP.bind (rp := rpA _) o fun ds S1 vs F1 H1 r1 sm rv o1 => by
    unfold iEnumD at o1
    split at o1
    · obtain ⟨x, r', rfl, h1, h2⟩ := rv
      cases h2
      obtain ⟨a, xs, rfl, h3, h4⟩ := h1
      exact ⟨a, xs, rfl, .inl (.inl (r1.h.fh _ _ h3)), o1 _ F1 H1 r1 (Same.refl F1) (walk_en (.inl (.inl h3)) h4)⟩
    · obtain ⟨x, r', rfl, h1, h2⟩ := rv
      cases h2
      obtain ⟨a, xs, rfl, h3, h4⟩ := h1
      exact ⟨a, xs, rfl, r1.h.fh.seq h3, o1 _ F1 H1 r1 (Same.refl F1) (walk_en h3 h4)⟩
    · exact o1.elim⟩
theorem di_zip (hg : Gl X "zip") (hm : X.mg "zip" = none) (ha : DA X cv W [e1, e2] ma) (hs : starEach [e1, e2] X.env = (false, eval e1 X.env) :: starEach [e2] X.env := by rfl) (hpl : (backTo pos (starEach [e2] X.env)).any (·.1) = false := by rfl) :
    DI X cv W (.Tuple elts kk tpos) (.Call (.Name "zip" p) [e1, e2] [] pos) (dArgs iZipD ma) :=
  PI.weak (pi_zip hg hm ha hs hpl) fun σ H Q ⟨s, env, S, F, r, o⟩ => ⟨s, env, S, F, r, OutP.bind (rp := rpA _) o fun ds S1 vs F1 H1 r1 sm rv o1 => by
    unfold iZipD at o1
    split at o1
    · obtain ⟨x, r', rfl, h1, x2, r2, rfl, h5, h6⟩ := rv
      cases h6
      obtain ⟨a, xs, rfl, h3, h4⟩ := h1
      obtain ⟨b, ys, rfl, h7, h8⟩ := h5
      exact ⟨a, b, xs, ys, rfl, .inl (.inl (r1.h.fh _ _ h3)), .inl (.inl (r1.h.fh _ _ h7)), o1 _ F1 H1 r1 (Same.refl F1) (walk_z (.inl (.inl h3)) h4 (.inl (.inl h7)) h8)⟩
    · exact o1.elim⟩

/-! ### targets -/
abbrev Mg := D → Ev → Option Ev
abbrev Mgs := List D → Ev → Option Ev
def tGt (K : PySem.W.Frag) (ts : List Nat) (mg : Mg) : TG := fun v σ H Q => ∃ s env S F d env', R K s env S F σ H ∧ Rep K F s.io d v ∧ mg d env = some env' ∧ ∀ σ', R K s env' S F σ' H → σ'.length = σ.length → (∀ j, j ∉ ts → σ'[j]? = σ[j]?) → Q σ' H
def tGs (K : PySem.W.Frag) (ts : List Nat) (mg : Mgs) : TGs := fun vs σ H Q => ∃ s env S F ds env', R K s env S F σ H ∧ Reps K F s.io ds vs ∧ mg ds env = some env' ∧ ∀ σ', R K s env' S F σ' H → σ'.length = σ.length → (∀ j, j ∉ ts → σ'[j]? = σ[j]?) → Q σ' H
def DG (X : Cx) (e : Expr) (ts : List Nat) (mg : Mg) : Prop := PG X e (tGt X.K ts mg)
def DGs (X : Cx) (es : List Expr) (ts : List Nat) (mg : Mgs) : Prop := PGs X es (tGs X.K ts mg)
def gtN (i : Nat) : Mg := fun d env => some (env.set i (.val d))
def gtNil : Mgs := fun ds env => match ds with
  | [] => some env
  | _ => none
def gtCons (g : Mg) (gs : Mgs) : Mgs := fun ds env => match ds with
  | d :: r => (g d env).bind fun env1 => gs r env1
  | [] => none
def gtT (n : Nat) (gs : Mgs) : Mg := fun d env => match d with
  | .tup ds => if ds.length = n then gs ds env else none
  | _ => none
theorem PG.weak {t t' : TG} (h : PG X e t) (w : ∀ v σ H Q, t' v σ H Q → t v σ H Q) : PG X e t' := ⟨fun pins s σ H v u Q I r q => h.run pins s σ H v u Q I r (w v σ H Q q)⟩
theorem PGs.weak {es : List Expr} {t t' : TGs} (h : PGs X es t) (w : ∀ v σ H Q, t' v σ H Q → t v σ H Q) : PGs X es t' := ⟨fun pins s σ H v u Q I r q => h.run pins s σ H v u Q I r (w v σ H Q q)⟩
theorem dg_name (i : Nat) {x : Str} (hN : X.N.Nodup) (hi : X.N[i]? = some x := by rfl) (hx : Loc X.env.scope x := by first | exact Or.inl rfl | exact Or.inr rfl) (hf : X.fn x = true ∨ X.env.scope.names.lookup x = some .local := by first | exact .inl rfl | exact .inr rfl | assumption) : DG X (.Name x pos) [i] (gtN i) :=
  PG.weak (pg_name hN hi hx hf) fun v σ H Q ⟨s, env, S, F, d, env', r, rv, h1, h2⟩ => by
    cases h1
    exact h2 _ (r.setVal rv) (by simp) fun j hj => List.getElem?_set_ne fun z => hj (by simp [z])
theorem dgs_nil : DGs X [] [] gtNil := PGs.weak pgs_nil fun v σ H Q ⟨s, env, S, F, d, env', r, rv, h1, h2⟩ => by
  unfold gtNil at h1
  split at h1
  · cases h1
    cases rv
    exact ⟨rfl, h2 σ r rfl fun _ _ => rfl⟩
  · cases h1
theorem dgs_cons {es : List Expr} {ts ts' : List Nat} {g : Mg} {gs : Mgs} (h1 : DG X e ts g) (h2 : DGs X es ts' gs) (hs : (assignEach (e :: es) X.env).map (·.2) = assign e X.env :: (assignEach es X.env).map (·.2) := by rfl) : DGs X (e :: es) (ts ++ ts') (gtCons g gs) :=
  PGs.weak (pgs_cons h1 h2 hs) fun v σ H Q ⟨s, env, S, F, ds, env', r, rv, e1, q⟩ => by
    unfold gtCons at e1
    split at e1
    · rename_i d rest
      obtain ⟨x, r', rfl, h3, h4⟩ := rv
      cases e2 : g d env with
      | none =>
        rw [e2] at e1
        cases e1
      | some env1 =>
        rw [e2] at e1
        exact ⟨x, r', rfl, s, env, S, F, d, env1, r, h3, e2, fun σ1 r1 l1 k1 => ⟨s, env1, S, F, rest, env', r1, h4, e1, fun σ2 r2 l2 k2 => q σ2 r2 (l2.trans l1) fun j hj => (k2 j fun z => hj (List.mem_append_right _ z)).trans (k1 j fun z => hj (List.mem_append_left _ z))⟩⟩
    · cases e1
theorem dg_tup {es : List Expr} {k n : Nat} {ts : List Nat} {gs : Mgs} (hc : X.calm = true) (h : DGs X es ts gs) (hn : (assignEach es X.env).length = n := by rfl) (hst : (assignEach es X.env).findIdx? (·.1) = none := by rfl) : DG X (.Tuple es k pos) ts (gtT n gs) :=
  PG.weak (pg_tup hc h hn hst) fun v σ H Q ⟨s, env, S, F, d, env', r, rv, e1, q⟩ => by
    unfold gtT at e1
    split at e1
    · rename_i ds
      split at e1
      · rename_i hl
        obtain ⟨a, xs, rfl, h2, h3⟩ := rv
        exact ⟨a, xs, rfl, seqT r.h.fh h2, by rw [h3.len, hl], s, env, S, F, ds, env', r, h3, e1, q⟩
      · cases e1
    · cases e1

/-! ### for -/
def forL (mg : Mg) (mb : Ms) : List D → Ms
  | [], env, S => .nx env S
  | d :: ds, env, S => match mg d env with
    | none => .no
    | some env1 => match mb env1 S with
      | .nx e S' => forL mg mb ds e S'
      | .ct e S' => forL mg mb ds e S'
      | .bk e S' => .nx e S'
      | .ret r S' => .ret r S'
      | .ex x e S' => .ex x e S'
      | .no => .no
def sFor (mi : Ma) (mg : Mg) (mb : Ms) : Ms := fun env S => (mi env S).go env fun ds S1 => forL mg mb ds env S1
theorem R.yd {K : PySem.W.Frag} {s : Snap} {env : Ev} {S : Cells} {F0 F H H' : Hp} {σ : L2.St} {d : D} {x : V} (r : R K s env S F σ H) (sm : Same F0 F) (y : Yd K s.io F0 d H x H') : ∃ F', R K s env S F' σ H' ∧ Same F F' ∧ Rep K F' s.io d x := by
  rcases y with ⟨rfl, h⟩ | ⟨T, o, h1, h2, h3⟩
  · exact ⟨F, r, Same.refl F, Rep.mono sm d x h⟩
  · subst h2
    obtain ⟨r2, sm2⟩ := r.new (o := o) h1
    exact ⟨_, r2, sm2, h3 F sm (r.h.h0 h1).2.2⟩
theorem ds_for {body : List Stmt} {iter : Expr} {mi : Ma} {mg : Mg} {mb : Ms} {ts : List Nat} (hp : PassesOwn (model X.prog X.w) X.A X.env X.xe) (hc : X.calm = true) (hi : DI X cv W tg iter mi) (hg : DG X tg ts mg) (hb : DB X cv W body mb)
    (hs : ∀ x, foldedSetIterable iter X.env x = pure x := by intro _; rfl) : DS X cv W (.For tg iter body [] pos) (sFor mi mg mb) :=
  PS.weak (ps_for hp hc hi hg hb hs) fun E σ H ⟨s, env, S, F, r, o⟩ => ⟨s, env, S, F, r, OutS.go (rp := rpI _) o fun ds S1 J F1 H1 r1 sm w o1 => by
    refine for_it w (fun i σ' H' => ∃ env' S' F', Same F1 F' ∧ R X.K s env' S' F' σ' H' ∧ OutS ⟨X.K, cv⟩ W s F' (forL mg mb (ds.drop i) env' S') E) ⟨env, S1, F1, Same.refl F1, r1, o1⟩ (fun i σ' H' _ ⟨_, _, F', sm', r', _⟩ => sm'.trans r'.h.fh) ?_ ?_
    · rintro i x σ' H' H'' hi ⟨env', S', F', sm', r', o'⟩ ⟨d, hd, y⟩
      obtain ⟨F2, r2, sm2, rd⟩ := r'.yd sm' y
      have ed : ds.drop i = d :: ds.drop (i + 1) := by
        rw [List.drop_eq_getElem_cons hi]
        congr 1
        exact Option.some.inj ((List.getElem?_eq_getElem hi).symm.trans hd)
      rw [ed] at o'
      unfold forL at o'
      cases e1 : mg d env' with
      | none =>
        rw [e1] at o'
        exact o'.elim
      | some env1 =>
        rw [e1] at o'
        simp only at o'
        refine ⟨s, env', S', F2, d, env1, r2, rd, e1, fun σ2 r3 _ _ => ⟨s, env1, S', F2, r3, ?_⟩⟩
        have o2 := OutS.weak o' sm2
        generalize mb env1 S' = ob at o2
        have smF : Same F1 F2 := sm'.trans sm2
        cases ob with
        | nx e3 S3 => exact fun σ4 F4 H4 r4 sm4 => ⟨e3, S3, F4, smF.trans sm4, r4, OutS.weak o2 sm4⟩
        | ct e3 S3 => exact fun σ4 F4 H4 r4 sm4 => ⟨e3, S3, F4, smF.trans sm4, r4, OutS.weak o2 sm4⟩
        | bk e3 S3 => exact o2
        | ret rt S3 => exact o2
        | ex x e3 S3 => exact o2
        | no => exact o2
    · rintro σ' H' ⟨env', S', F', sm', r', o'⟩
      rw [List.drop_length] at o'
      exact o' σ' F' H' r' (Same.refl F')⟩

/-! ### while -/
def whileF (c : Mt) (mb : Ms) : Nat → Ms
  | 0, _, _ => .no
  | n + 1, env, S => (c env S).go env fun k S1 => if k = true then (match mb env S1 with
      | .nx e S' => whileF c mb n e S'
      | .ct e S' => whileF c mb n e S'
      | .bk e S' => .nx e S'
      | .ret r S' => .ret r S'
      | .ex x e S' => .ex x e S'
      | .no => .no) else .nx env S1
def sWhile (fuel : Ev → Cells → Nat) (c : Mt) (mb : Ms) : Ms := fun env S => whileF c mb (fuel env S) env S
theorem ds_while {body : List Stmt} {c : Expr} {mt : Mt} {mb : Ms} (fuel : Ev → Cells → Nat) (hp : PassesOwn (model X.prog X.w) X.A X.env X.xe) (hc : DT X cv W c mt) (hb : DB X cv W body mb) : DS X cv W (.While c body [] pos) (sWhile fuel mt mb) :=
  PS.weak (ps_while hp hc hb) fun E σ H ⟨s, env, S, F, r, o⟩ => by
    refine ⟨fun n σ' H' => ∃ env' S' F', Same F F' ∧ R X.K s env' S' F' σ' H' ∧ OutS ⟨X.K, cv⟩ W s F' (whileF mt mb n env' S') E, ⟨fuel env S, env, S, F, Same.refl F, r, o⟩, ?_⟩
    rintro n σ' H' ⟨env', S', F', sm', r', o'⟩
    cases n with
    | zero => exact o'.elim
    | succ n =>
      refine ⟨s, env', S', F', r', OutS.go (rp := rpT) o' fun k S1 b F1 H1 r1 sm1 rv o1 => ?_⟩
      cases rv
      cases k with
      | true =>
        rw [if_pos rfl] at o1 ⊢
        refine ⟨fun σ2 H2 => ∃ env2 S2 F2, Same F F2 ∧ R X.K s env2 S2 F2 σ2 H2 ∧ OutS ⟨X.K, cv⟩ W s F2 (whileF mt mb n env2 S2) E, fun σ2 H2 h => ⟨n, Nat.lt_succ_self n, h⟩, s, env', S1, F1, r1, ?_⟩
        generalize mb env' S1 = ob at o1
        have smF : Same F F1 := sm'.trans sm1
        cases ob with
        | nx e3 S3 => exact fun σ4 F4 H4 r4 sm4 => ⟨e3, S3, F4, smF.trans sm4, r4, OutS.weak o1 sm4⟩
        | ct e3 S3 => exact fun σ4 F4 H4 r4 sm4 => ⟨e3, S3, F4, smF.trans sm4, r4, OutS.weak o1 sm4⟩
        | bk e3 S3 => exact o1
        | ret rt S3 => exact o1
        | ex x e3 S3 => exact o1
        | no => exact o1
      | false =>
        rw [if_neg Bool.false_ne_true] at o1 ⊢
        exact o1 σ' F1 H1 r1 (Same.refl F1)
end
end TT
namespace TT
open PySem PySem.Spec PyProof.Rows L2

/-! ### list comprehensions -/
abbrev wF : WX := fun _ _ _ _ => False
theorem takesF {X : Cx} {s : Shared} {H : Hp} {scope : Scope} {ce : Env} {fp : List Addr} : Takes (X.blk s H scope ce fp) wF := fun u s' ⟨_, _, _, _, _, _, _, _, _, _, _, _, _, _, _, _, h⟩ => h
def DTs (X : Cx) (cv : String → Value) (W : WX) (ifs : List Expr) (m : Mt) : Prop := PTs X ifs (tT ⟨X.K, cv⟩ W m)
def mYes : Mt := fun _ S => .ok true S
theorem PTs.weak {X : Cx} {e : List Expr} {t t' : TT} (h : PTs X e t) (w : ∀ σ H Q, t' σ H Q → t σ H Q) : PTs X e t' := ⟨fun pins s σ H Q I q => h.run pins s σ H Q I (w σ H Q q)⟩
theorem dts_nil {X : Cx} {cv : String → Value} {W : WX} : DTs X cv W [] mYes := PTs.weak pts_nil fun σ H Q ⟨s, env, S, F, r, o⟩ => o true F H r (Same.refl F) rfl
theorem dts_one {X : Cx} {cv : String → Value} {W : WX} {c : Expr} {m : Mt} (h : DT X cv W c m) : DTs X cv W [c] m := pts_one h
def unOwn : Sl → Sl
  | .own _ => .no
  | s => s
/-- the slots as a comprehension's block sees them -/
def inEnv (env : Ev) : List Nat → Ev
  | [] => env.map unOwn
  | v :: vs => (inEnv env vs).set v .no
def compL (vs : List Nat) (mg : Mg) (mt : Mt) (me : Me) (env : Ev) : List D → List D → Cells → Out (List D)
  | [], acc, S => .ok acc S
  | d :: ds, acc, S => match mg d (inEnv env vs) with
    | none => .no
    | some env1 => match mt env1 S with
      | .ok true S1 => (match me env1 S1 with
        | .ok y S2 => if acc.length < 16777216 then compL vs mg mt me env ds (acc ++ [y]) S2 else .no
        | _ => .no)
      | .ok false S1 => compL vs mg mt me env ds acc S1
      | _ => .no
def oComp (vs : List Nat) (mi : Ma) (mg : Mg) (mt : Mt) (me : Me) : Ma := fun env S => (mi env S).bind fun ds S1 => compL vs mg mt me env ds [] S1
theorem inEnv_len (env : Ev) : ∀ vs, (inEnv env vs).length = env.length
  | [] => by simp [inEnv]
  | v :: vs => by simp [inEnv, inEnv_len env vs]
theorem inEnv_get {env : Ev} {i : Nat} {sl : Sl} : ∀ {vs : List Nat}, (inEnv env vs)[i]? = some sl → sl = .no ∨ (i ∉ vs ∧ ∃ d, sl = .val d ∧ env[i]? = some (.val d))
  | [], h => by
    unfold inEnv at h
    rw [List.getElem?_map] at h
    cases q : env[i]? with
    | none => rw [q] at h; cases h
    | some s0 =>
      rw [q] at h
      cases s0 with
      | no => cases h; exact .inl rfl
      | own ds => cases h; exact .inl rfl
      | val d => cases h; exact .inr ⟨by simp, d, rfl, rfl⟩
  | v :: vs, h => by
    unfold inEnv at h
    by_cases hv : v = i
    · subst hv
      have hl : v < (inEnv env vs).length := by
        have := (List.getElem?_eq_some_iff.mp h).1
        simpa using this
      rw [List.getElem?_set_self hl] at h
      cases h
      exact .inl rfl
    · rw [List.getElem?_set_ne hv] at h
      rcases inEnv_get h with z | ⟨h1, h2⟩
      · exact .inl z
      · exact .inr ⟨by simp only [List.mem_cons, not_or]; exact ⟨fun e => hv e.symm, h1⟩, h2⟩
theorem R.block {K : PySem.W.Frag} {s : Snap} {env : Ev} {S : Cells} {F H : Hp} {σ : L2.St} (r : R K s env S F σ H) (vs : List Nat) : R K ⟨s.io, s.nw, H, F⟩ (inEnv env vs) S F (wipe σ vs) H := by
  refine ⟨r.h.enter, by rw [inEnv_len, wipe_length, r.len], fun i d q => ?_, fun i ds q => ?_, fun i j a ds es _ q => ?_⟩
  · rcases inEnv_get q with z | ⟨h1, d', z, h2⟩
    · cases z
    · cases z
      obtain ⟨v, h3, h4⟩ := r.val i d h2
      exact ⟨v, by rw [wipe_out h1]; exact h3, h4⟩
  · rcases inEnv_get q with z | ⟨_, _, z, _⟩ <;> cases z
  · rcases inEnv_get q with z | ⟨_, _, z, _⟩ <;> cases z
theorem wipe_none {σ : L2.St} {i : Nat} : ∀ {vs : List Nat}, i ∈ vs → i < σ.length → (wipe σ vs)[i]? = some none
  | v :: vs, h, hl => by
    unfold wipe
    by_cases hv : v = i
    · subst hv
      rw [List.getElem?_set_self (by rw [wipe_length]; exact hl)]
    · rw [List.getElem?_set_ne hv]
      exact wipe_none ((List.mem_cons.mp h).resolve_left fun e => hv e.symm) hl
theorem wipe_eq {σ σ' : L2.St} {vs : List Nat} (hl : σ'.length = σ.length) (h : ∀ j, j ∉ vs → σ'[j]? = (wipe σ vs)[j]?) : wipe σ' vs = wipe σ vs := by
  refine List.ext_getElem? fun j => ?_
  by_cases hj : j ∈ vs
  · by_cases hl' : j < σ.length
    · rw [wipe_none hj hl', wipe_none hj (by rw [hl]; exact hl')]
    · rw [List.getElem?_eq_none (by rw [wipe_length]; omega), List.getElem?_eq_none (by rw [wipe_length]; omega)]
  · rw [wipe_out hj, h j hj]
theorem R.updOff {K : PySem.W.Frag} {s : Snap} {env : Ev} {S : Cells} {F H : Hp} {σ : L2.St} {a : Addr} {o : HO} (r : R K s env S F σ H) (hf : F a = none) (h0 : s.H0 a = none) (hn : a ∉ s.wr) (off : Off env σ a) : R K s env S F σ (upd H a o) := by
  refine ⟨⟨same_off r.h.fh hf, r.h.f0, r.h.new, fun b u e hb => ?_, r.h.len, r.h.nd, fun n b ds h1 h2 => ?_⟩, r.len, r.val, fun i ds q => ?_, r.dist⟩
  · rw [upd_ne (fun z => by rw [z, h0] at e; cases e)]
    exact r.h.frame b u e hb
  · obtain ⟨p1, xs, p2, p3⟩ := r.h.cell n b ds h1 h2
    have : b ≠ a := fun z => hn (by rw [← z]; exact List.mem_of_getElem? h1)
    exact ⟨p1, xs, by rw [upd_ne this]; exact p2, p3⟩
  · obtain ⟨b, h1, h2, h3, h4, xs, h5, h6⟩ := r.own i ds q
    have : b ≠ a := fun z => off i ds q (by rw [← z]; exact h1)
    exact ⟨b, h1, h2, h3, h4, xs, by rw [upd_ne this]; exact h5, h6⟩

section
variable {X : Cx} {cv : String → Value} {W : WX} {elt iter tg : Expr} {ifs : List Expr} {scope : Scope} {own : List (Str × Nat)} {pos : Pos} {mi : Ma} {mg : Mg} {mt : Mt} {me : Me} {ts : List Nat}
theorem comp_w {G : Gm} (hts : ∀ i ∈ ts, i ∈ own.map (·.2)) (σ : L2.St) (H : Hp) (Q : VK) (h : tO G W (oComp (own.map (·.2)) mi mg mt me) σ H Q) :
    tLc (tG G W (rpI G) mi) (tGt G.K ts mg) (tT G wF mt) (tE G wF me) (own.map (·.2)) σ H Q := by
  obtain ⟨s, env, S, F, r, o⟩ := h
  refine ⟨s, env, S, F, r, OutP.bind (rp := rpI _) o fun ds S1 J F1 H1 r1 sm w o1 => fun P hP => ?_⟩
  obtain ⟨p0, pni, pf⟩ := r1.h.h0 hP
  obtain ⟨rP, offP⟩ := r1.lay (o := .lst []) hP
  refine lc_it w (fun i H' => ∃ acc accV S' F', Same F1 F' ∧ R G.K s env S' F' σ H' ∧ F' P = none ∧ H' P = some (.lst accV) ∧ Reps G.K F' s.io acc accV ∧ OutP G W (rpO G) s env σ F1 (compL (own.map (·.2)) mg mt me env (ds.drop i) acc S') Q)
    ⟨[], [], S1, F1, Same.refl F1, rP, pf, upd_same, rfl, o1⟩ (fun i H' _ ⟨_, _, _, F', sm', r', _⟩ => sm'.trans r'.h.fh) ?_ ?_
  · rintro i x H' H'' hi ⟨acc, accV, S', F', sm', r', pf', hP', ra, o'⟩ ⟨d, hd, y⟩
    have ed : ds.drop i = d :: ds.drop (i + 1) := by
      rw [List.drop_eq_getElem_cons hi]
      congr 1
      exact Option.some.inj ((List.getElem?_eq_getElem hi).symm.trans hd)
    rw [ed] at o'
    unfold compL at o'
    -- the item is drawn
    have hPne : H' P ≠ none := by rw [hP']; exact fun z => nomatch z
    obtain ⟨F2, r2, sm2, rd, hP2, pf2⟩ : ∃ F2, R G.K s env S' F2 σ H'' ∧ Same F' F2 ∧ Rep G.K F2 s.io d x ∧ H'' P = some (.lst accV) ∧ F2 P = none := by
      rcases y with ⟨rfl, h⟩ | ⟨T, ob, h1, h2, h3⟩
      · exact ⟨F', r', Same.refl _, Rep.mono sm' d x h, hP', pf'⟩
      · subst h2
        obtain ⟨r2, sm2⟩ := r'.new (o := ob) h1
        have ne : P ≠ T := fun z => hPne (by rw [z]; exact h1)
        exact ⟨_, r2, sm2, h3 F' sm' (r'.h.h0 h1).2.2, by rw [upd_ne ne]; exact hP', by rw [upd_ne ne]; exact pf'⟩
    have rb := r2.block (own.map (·.2))
    cases e1 : mg d (inEnv env (own.map (·.2))) with
    | none =>
      rw [e1] at o'
      exact o'.elim
    | some env1 =>
      rw [e1] at o'
      simp only at o'
      refine ⟨⟨s.io, s.nw, H'', F2⟩, _, S', F2, d, env1, rb, rd, e1, fun σ2 r3 l3 k3 => ⟨?_, ?_⟩⟩
      · refine wipe_eq ?_ fun j hj => k3 j fun z => hj (hts j z)
        rw [l3, wipe_length]
      · cases et : mt env1 S' with
        | ok b S3 =>
          rw [et] at o'
          refine ⟨⟨s.io, s.nw, H'', F2⟩, env1, S', F2, r3, ?_⟩
          rw [et]
          intro b' F3 H3 r4 sm4 eb
          cases eb
          have hP3 : H3 P = some (.lst accV) := r4.h.frame P _ hP2 pni
          have pf3 : F3 P = none := by
            cases q : F3 P with
            | none => rfl
            | some u =>
              rcases r4.h.new P (by rw [q]; exact fun z => nomatch z) with z | z
              · exact absurd pf2 z
              · have z' : H'' P = none := z
                rw [z'] at hP2
                cases hP2
          cases b with
          | false =>
            simp only [Bool.false_eq_true, if_false]
            simp only at o'
            exact ⟨acc, accV, S3, F3, sm'.trans (sm2.trans sm4), r2.after r4.h, pf3, hP3, Reps.mono (sm2.trans sm4) _ _ ra, o'⟩
          | true =>
            simp only [if_true]
            simp only at o'
            cases ee : me env1 S3 with
            | ok y S4 =>
              rw [ee] at o'
              simp only at o'
              split at o'
              · rename_i hl
                refine ⟨⟨s.io, s.nw, H'', F2⟩, env1, S3, F3, r4, ?_⟩
                rw [ee]
                intro v F4 H4 r5 sm5 rv
                have hP4 : H4 P = some (.lst accV) := r5.h.frame P _ hP2 pni
                have pf4 : F4 P = none := by
                  cases q : F4 P with
                  | none => rfl
                  | some u =>
                    rcases r5.h.new P (by rw [q]; exact fun z => nomatch z) with z | z
                    · exact absurd pf2 z
                    · have z' : H'' P = none := z
                      rw [z'] at hP2
                      cases hP2
                have ra4 := Reps.mono (sm2.trans (sm4.trans sm5)) _ _ ra
                refine ⟨accV, hP4, sz_lt' (by rw [ra4.len]; exact hl), acc ++ [y], accV ++ [v], S4, F4, sm'.trans (sm2.trans (sm4.trans sm5)), (r2.after r5.h).updOff pf4 p0 pni offP, pf4, upd_same, ra4.append (Reps.one rv), o'⟩
              · exact o'.elim
            | ex x S4 =>
              rw [ee] at o'
              exact o'.elim
            | no =>
              rw [ee] at o'
              exact o'.elim
        | ex x S3 =>
          rw [et] at o'
          exact o'.elim
        | no =>
          rw [et] at o'
          exact o'.elim
  · rintro H' ⟨acc, accV, S', F', sm', r', pf', hP', ra, o'⟩
    rw [List.drop_length] at o'
    exact o' _ F' H' r' sm' ⟨P, rfl, ⟨pf', p0, pni, accV, hP', ra⟩, offP⟩
/-- [elt for tg in iter if ..], a new list -/
theorem do_lc (hc : X.calm = true) (hN : X.N.Nodup) (hts : ∀ i ∈ ts, i ∈ own.map (·.2)) (hi : DI X cv W tg iter mi) (ok : BlkOk X.N X.env.scope scope own)
    (hg : ∀ (s : Shared) (H : Hp) (C : Addr) (cl : List (Str × Addr)) (fp : List Addr), DG (X.blk s H scope (compEnvC scope cl C X.env) fp) tg ts mg) (ht : ∀ (s : Shared) (H : Hp) (C : Addr) (cl : List (Str × Addr)) (fp : List Addr), DTs (X.blk s H scope (compEnvC scope cl C X.env) fp) cv wF ifs mt)
    (he : ∀ (s : Shared) (H : Hp) (C : Addr) (cl : List (Str × Addr)) (fp : List Addr), DE (X.blk s H scope (compEnvC scope cl C X.env) fp) cv wF elt me) (hs : ∀ x, foldedSetIterable iter X.env x = pure x := by intro _; rfl) :
    DO X cv W (.ListComp elt [⟨tg, iter, ifs, 0⟩] scope pos) (oComp (own.map (·.2)) mi mg mt me) := PE.weak (pe_lc (g := tGt X.K ts mg) (tt := tT ⟨X.K, cv⟩ wF mt) (te := tE ⟨X.K, cv⟩ wF me) hc hN hi ok hg ht he hs) (comp_w (G := ⟨X.K, cv⟩) hts)
/-- y = [elt for ..], the list y's own -/
theorem ds_setLc (i : Nat) {y : Str} {py spos : Pos} (hc : X.calm = true) (hN : X.N.Nodup) (hts : ∀ i ∈ ts, i ∈ own.map (·.2)) (hsw : swapsWith (.ListComp elt [⟨tg, iter, ifs, 0⟩] scope pos) (some (.Name y py)) spos.line X.env = pure true) (hi : DI X cv W tg iter mi) (ok : BlkOk X.N X.env.scope scope own)
    (hg : ∀ (s : Shared) (H : Hp) (C : Addr) (cl : List (Str × Addr)) (fp : List Addr), DG (X.blk s H scope (compEnvC scope cl C X.env) fp) tg ts mg) (ht : ∀ (s : Shared) (H : Hp) (C : Addr) (cl : List (Str × Addr)) (fp : List Addr), DTs (X.blk s H scope (compEnvC scope cl C X.env) fp) cv wF ifs mt)
    (he : ∀ (s : Shared) (H : Hp) (C : Addr) (cl : List (Str × Addr)) (fp : List Addr), DE (X.blk s H scope (compEnvC scope cl C X.env) fp) cv wF elt me) (hy : X.N[i]? = some y := by rfl) (hyl : X.env.scope.names.lookup y = some .local := by rfl) (hs : ∀ x, foldedSetIterable iter X.env x = pure x := by intro _; rfl) :
    DS X cv W (.Assign [.Name y py] (.ListComp elt [⟨tg, iter, ifs, 0⟩] scope pos) spos) (sSetO i (oComp (own.map (·.2)) mi mg mt me)) := PS.weak (ps_setLc (g := tGt X.K ts mg) (tt := tT ⟨X.K, cv⟩ wF mt) (te := tE ⟨X.K, cv⟩ wF me) hc hN hy hyl hsw hi ok hg ht he hs) fun E σ H ⟨s, env, S, F, r, o⟩ =>
  comp_w (W := W) (G := ⟨X.K, cv⟩) hts σ H (fun x H1 => gName i x σ H1 E.nx) ⟨s, env, S, F, r, OutS.go (rp := rpO _) o fun a S1 v F1 H1 r1 sm rv o1 => by
    obtain ⟨p, rfl, w, off⟩ := rv
    exact o1 _ F1 H1 (r1.setOwn w off) (Same.refl F1)⟩
end
end TT
namespace TT
open PySem PySem.Spec PyProof.Rows L2

/-! ### built-ins by name -/
section
variable {X : Cx} {cv : String → Value} {W : WX} {e e1 e2 : Expr} {es : List Expr} {m m1 m2 : Me} {ma : Ma} {x : Str} {p pos : Pos} {id T : String} {r : List V → Hp → VK → Prop} {f : List D → Cells → Out D} {fo : List D → Cells → Out (List D)}
theorem de_callB (hc : CallR X (.builtin id) r) (hf : OpA cv X (rpE ⟨X.K, cv⟩) r f) (hg : Gl X x) (hm : X.mg x = none) (hv : bootBuiltins x = some (.builtin id)) (ha : DA X cv W (e :: es) ma) (hn : x ≠ "__name__" := by decide) (hdb : (x == ("__debug__" : Str)) = false := by decide)
    (he : starEach (e :: es) X.env = (false, eval e X.env) :: starEach es X.env := by rfl) (hpl : (backTo pos (starEach es X.env)).any (·.1) = false := by rfl) : DE X cv W (.Call (.Name x p) (e :: es) [] pos) (dArgs f ma) :=
  PE.weak (pe_callB hc hg hm hv ha hn hdb he hpl) fun σ H Q ⟨s, env, S, F, r0, o⟩ => ⟨s, env, S, F, r0, OutP.bind (rp := rpA _) o fun ds S1 vs F1 H1 r1 sm rv o1 => hf W s env S1 F1 σ H1 ds vs Q r1 rv o1⟩
theorem de_callTy (hc : CallR X (.type T) r) (hf : OpA cv X (rpE ⟨X.K, cv⟩) r f) (hg : Gl X x) (hm : X.mg x = none) (hv : bootBuiltins x = some (.type T)) (ha : DA X cv W (e :: es) ma) (hn : x ≠ "__name__" := by decide) (hdb : (x == ("__debug__" : Str)) = false := by decide)
    (he : starEach (e :: es) X.env = (false, eval e X.env) :: starEach es X.env := by rfl) (hpl : (backTo pos (starEach es X.env)).any (·.1) = false := by rfl) : DE X cv W (.Call (.Name x p) (e :: es) [] pos) (dArgs f ma) :=
  PE.weak (pe_callTy hc hg hm hv ha hn hdb he hpl) fun σ H Q ⟨s, env, S, F, r0, o⟩ => ⟨s, env, S, F, r0, OutP.bind (rp := rpA _) o fun ds S1 vs F1 H1 r1 sm rv o1 => hf W s env S1 F1 σ H1 ds vs Q r1 rv o1⟩
theorem do_callTy (hc : CallR X (.type T) r) (hf : OpA cv X (rpO ⟨X.K, cv⟩) r fo) (hg : Gl X x) (hm : X.mg x = none) (hv : bootBuiltins x = some (.type T)) (ha : DA X cv W (e :: es) ma) (hn : x ≠ "__name__" := by decide) (hdb : (x == ("__debug__" : Str)) = false := by decide)
    (he : starEach (e :: es) X.env = (false, eval e X.env) :: starEach es X.env := by rfl) (hpl : (backTo pos (starEach es X.env)).any (·.1) = false := by rfl) : DO X cv W (.Call (.Name x p) (e :: es) [] pos) (dArgs fo ma) :=
  PE.weak (pe_callTy hc hg hm hv ha hn hdb he hpl) fun σ H Q ⟨s, env, S, F, r0, o⟩ => ⟨s, env, S, F, r0, OutP.bind (rp := rpA _) o fun ds S1 vs F1 H1 r1 sm rv o1 => hf W s env S1 F1 σ H1 ds vs Q r1 rv o1⟩
/-- a built-in class as a value -/
theorem de_bty {t : String} (hg : Gl X x) (hm : X.mg x = none) (hv : bootBuiltins x = some (.type t)) (hn : x ≠ "__name__" := by decide) (hd : (x == ("__debug__" : Str)) = false := by decide) : DE X cv W (.Name x pos) (dC (.ty t)) :=
  de_c (pe_bltn (v := .ty t) hg hm hv rfl hn hd) rfl fun _ _ _ => rfl

def fLen (ds : List D) (S : Cells) : Out D := match ds with
  | [.str x] => if x.length ≤ 16777216 then .ok (.int (x.length : Int)) S else .no
  | [.tup xs] => .ok (.int (xs.length : Int)) S
  | [d] => match lvr S d with
    | some xs => .ok (.int (xs.length : Int)) S
    | none => .no
  | _ => .no
theorem f_len : OpA cv X (rpE ⟨X.K, cv⟩) (fun xs H Q => ∃ x n, xs = [x] ∧ LenV X.K x H n ∧ Q (.int n) H) fLen := by
  intro W s env S F σ H ds vs Q r rv o
  unfold fLen at o
  split at o
  · split at o
    · rename_i z h
      obtain ⟨v, r', rfl, h1, h2⟩ := rv
      cases h1
      cases h2
      refine ⟨_, (cps z).length, rfl, ⟨sz_ok (by rw [cps_len]; exact h), rfl⟩, ?_⟩
      rw [cps_len]
      exact o _ F H r (Same.refl F) rfl
    · exact o.elim
  · rename_i xs
    obtain ⟨v, r', rfl, h1, h2⟩ := rv
    cases h2
    obtain ⟨a, us, rfl, h3, h4⟩ := tup_w r.h h1
    refine ⟨_, us.length, rfl, .inr ⟨us, h3, rfl⟩, ?_⟩
    rw [h4.len]
    exact o _ F H r (Same.refl F) rfl
  · split at o
    · rename_i xs e
      obtain ⟨v, r', rfl, h1, h2⟩ := rv
      cases h2
      obtain ⟨a, us, rfl, h3, h4⟩ := lvr_w r.h h1 e
      refine ⟨_, us.length, rfl, .inl ⟨us, h3, rfl⟩, ?_⟩
      rw [h4.len]
      exact o _ F H r (Same.refl F) rfl
    · exact o.elim
  · exact o.elim
/-- len(x), x a list of its own -/
def dLenO (i : Nat) : Me := fun env S => match env[i]? with
  | some (.own ds) => .ok (.int (ds.length : Int)) S
  | _ => .no
theorem de_lenO (i : Nat) {y : Str} {yp : Pos} (hg : Gl X "len") (hm : X.mg "len" = none) (hN : X.N[i]? = some y := by rfl) (hv : Vis X.env.scope y := by first | exact Or.inl rfl | exact Or.inr (Or.inl rfl) | exact Or.inr (Or.inr rfl)) (hd : (y == ("__debug__" : Str)) = false := by decide)
    (hcd : (y == ("__classdict__" : Str)) = false := by decide)
    (he : starEach [.Name y yp] X.env = (false, eval (.Name y yp) X.env) :: starEach [] X.env := by rfl) (hpl : (backTo pos (starEach [] X.env)).any (·.1) = false := by rfl) : DE X cv W (.Call (.Name "len" p) [.Name y yp] [] pos) (dLenO i) :=
  PE.weak (pe_callB call_len hg hm PySem.boot_len (pa_cons (pe_var hN hv hd hcd) pa_nil he) (by decide) (by decide) he hpl) fun σ H Q ⟨s, env, S, F, r, o⟩ => by
    unfold dLenO at o
    split at o
    · rename_i ds q
      obtain ⟨a, h1, w⟩ := r.own i ds q
      obtain ⟨xs, hx, hr⟩ := w.at_
      refine ⟨.ref a, h1, _, xs.length, rfl, .inl ⟨xs, .inl (.inl hx), rfl⟩, ?_⟩
      rw [hr.len]
      exact o _ F H r (Same.refl F) rfl
    · exact o.elim
def fAbs (ds : List D) (S : Cells) : Out D := match ds with
  | [.int i] => .ok (.int (if i < 0 then -i else i)) S
  | _ => .no
theorem f_abs : OpA cv X (rpE ⟨X.K, cv⟩) (fun xs H Q => ∃ i, xs = [.int i] ∧ Q (.int (if i < 0 then -i else i)) H) fAbs := by
  intro W s env S F σ H ds vs Q r rv o
  unfold fAbs at o
  split at o
  · obtain ⟨v, r', rfl, h1, h2⟩ := rv
    cases h1
    cases h2
    exact ⟨_, rfl, o _ F H r (Same.refl F) rfl⟩
  · exact o.elim
def fInt (ds : List D) (S : Cells) : Out D := match ds with
  | [.int i] => .ok (.int i) S
  | [.bl k] => .ok (.int (if k then 1 else 0)) S
  | _ => .no
theorem f_int : OpA cv X (rpE ⟨X.K, cv⟩) (fun xs H Q => (∃ i, xs = [.int i] ∧ Q (.int i) H) ∨ ∃ k, xs = [.bl k] ∧ Q (.int (if k then 1 else 0)) H) fInt := by
  intro W s env S F σ H ds vs Q r rv o
  unfold fInt at o
  split at o
  · obtain ⟨v, r', rfl, h1, h2⟩ := rv
    cases h1
    cases h2
    exact .inl ⟨_, rfl, o _ F H r (Same.refl F) rfl⟩
  · obtain ⟨v, r', rfl, h1, h2⟩ := rv
    cases h1
    cases h2
    exact .inr ⟨_, rfl, o _ F H r (Same.refl F) rfl⟩
  · exact o.elim
def f2I (g : Int → Int → Int) (ds : List D) (S : Cells) : Out D := match ds with
  | [.int i, .int j] => .ok (.int (g i j)) S
  | _ => .no
theorem f_2i {g : Int → Int → Int} : OpA cv X (rpE ⟨X.K, cv⟩) (fun xs H Q => ∃ i j, xs = [.int i, .int j] ∧ Q (.int (g i j)) H) (f2I g) := by
  intro W s env S F σ H ds vs Q r rv o
  unfold f2I at o
  split at o
  · obtain ⟨v, r', rfl, h1, v2, r2, rfl, h2, h3⟩ := rv
    cases h1
    cases h2
    cases h3
    exact ⟨_, _, rfl, o _ F H r (Same.refl F) rfl⟩
  · exact o.elim
abbrev fMin2 := f2I fun i j => if j < i then j else i
abbrev fMax2 := f2I fun i j => if j > i then j else i
/-- list(x), a new list -/
def fList (ds : List D) (S : Cells) : Out (List D) := match ds with
  | [.tup xs] => .ok xs S
  | [d] => match lvr S d with
    | some xs => .ok xs S
    | none => .no
  | _ => .no
theorem f_list : OpA cv X (rpO ⟨X.K, cv⟩) (fun xs H Q => ∃ p ys, xs = [.ref p] ∧ (SqL X.K H p ys ∨ SqT X.K H p ys) ∧ ∀ l, H l = none → Q (.ref l) (upd H l (.lst ys))) fList := by
  intro W s env S F σ H ds vs Q r rv o
  have fin : ∀ {xs : List D} {us : List V} {l : Addr}, Reps X.K F s.io xs us → H l = none → OutP ⟨X.K, cv⟩ W (rpO ⟨X.K, cv⟩) s env σ F (.ok xs S) Q → Q (.ref l) (upd H l (.lst us)) := fun {xs us l} h hl o => by
    obtain ⟨r2, off⟩ := r.lay (o := .lst us) hl
    obtain ⟨h0, hni, hf⟩ := r.h.h0 hl
    exact o _ _ _ r2 (Same.refl F) ⟨l, rfl, (⟨hf, h0, hni, us, upd_same, h⟩ : OwnAt X.K s F _ l xs), off⟩
  unfold fList at o
  split at o
  · obtain ⟨v, r', rfl, h1, h2⟩ := rv
    cases h2
    obtain ⟨a, us, rfl, h3, h4⟩ := tup_w r.h h1
    exact ⟨a, us, rfl, .inr h3, fun l hl => fin h4 hl o⟩
  · split at o
    · rename_i xs e
      obtain ⟨v, r', rfl, h1, h2⟩ := rv
      cases h2
      obtain ⟨a, us, rfl, h3, h4⟩ := lvr_w r.h h1 e
      exact ⟨a, us, rfl, .inl h3, fun l hl => fin h4 hl o⟩
    · exact o.elim
  · exact o.elim

/-! ### isinstance -/
def tyN : D → String
  | .non => "NoneType"
  | .bl _ => "bool"
  | .int _ => "int"
  | .str _ => "str"
  | .lst _ => "list"
  | .frl _ => "list"
  | .tup _ => "tuple"
  | .cell _ => "list"
  | .ty _ => ""
def cellOk (d : D) (S : Cells) : Bool := match d with
  | .cell n => decide (n < S.length)
  | _ => true
def isiB (d : D) (t : String) : Option Bool := if tyN d = "" then none else kitB (tyN d) t
def fIsi (ds : List D) (S : Cells) : Out D := match ds with
  | [d, .ty t] => if cellOk d S = true then (match isiB d t with
    | some b => .ok (.bl b) S
    | none => .no) else .no
  | _ => .no
theorem tyX_w {s : Snap} {S : Cells} {F H : Hp} {d : D} {v : V} (r : RelH X.K s S F H) (h : Rep X.K F s.io d v) (hd : ∀ n, d = .cell n → n < S.length) (hn : tyN d ≠ "") : TyX X.K H v (.type (tyN d)) := by
  cases d with
  | non => cases h; exact .base .non
  | bl b => cases h; exact .base (.bl b)
  | int i => cases h; exact .base (.int i)
  | str x => cases h; exact .base (.str _)
  | lst ds =>
    obtain ⟨a, xs, rfl, h1, _⟩ := h
    exact .base (.lst (r.fh _ _ h1))
  | frl ds =>
    obtain ⟨a, xs, rfl, h1, _⟩ := h
    rcases h1 with (h1 | ⟨o, h1⟩) | ⟨o, its, n, hk, hc, _⟩
    · exact .base (.lst (r.fh _ _ h1))
    · exact .base (.frz (r.fh _ _ h1))
    · exact .kList hk hc
  | tup ds =>
    obtain ⟨a, xs, rfl, h1, _⟩ := h
    rcases h1 with (h1 | ⟨o, h1⟩) | ⟨o, its, n, hk, hc, _⟩
    · exact .base (.tup (r.fh _ _ h1))
    · exact .fTuple (r.fh _ _ h1)
    · exact .kTuple hk hc
  | cell n =>
    obtain ⟨a, xs, rfl, h2, _⟩ := lv_w (d := .cell n) (ds := S[n]'(hd n rfl)) r h (List.getElem?_eq_getElem (hd n rfl))
    exact .base (.lst h2)
  | ty n => exact absurd rfl hn
theorem f_isi : OpA cv X (rpE ⟨X.K, cv⟩) (rIsi X.K) fIsi := by
  intro W s env S F σ H ds vs Q r rv o
  unfold fIsi at o
  split at o
  · rename_i d t
    split at o
    · rename_i hc
      split at o
      · rename_i b e
        obtain ⟨v, r', rfl, h1, v2, r2, rfl, h2, h3⟩ := rv
        cases h2
        cases h3
        unfold isiB at e
        split at e
        · cases e
        · rename_i hne
          refine ⟨v, .ty t, _, _, b, rfl, .ty t, tyX_w r.h h1 (fun n e => ?_) hne, kit_ty e, o _ F H r (Same.refl F) rfl⟩
          subst e
          exact of_decide_eq_true hc
      · exact o.elim
    · exact o.elim
  · exact o.elim

/-! ### methods of texts -/
/-- s.name(e, ..) -/
def dMeS (f : List Char → List D → Cells → Out D) (m : Me) (ma : Ma) : Me := fun env S => (m env S).bind fun d S1 => match d with
  | .str x => (ma env S1).bind fun ds S2 => f x ds S2
  | _ => .no
def OpMS (cv : String → Value) (X : Cx) (r : V → List V → Hp → VK → Prop) (f : List Char → List D → Cells → Out D) : Prop := ∀ (W : WX) (s : Snap) (env : Ev) (S : Cells) (F : Hp) (σ : L2.St) (H : Hp) (z : List Char) (ds : List D) (vs : List V) (Q : VK),
  R X.K s env S F σ H → Reps X.K F s.io ds vs → OutP ⟨X.K, cv⟩ W (rpE ⟨X.K, cv⟩) s env σ F (f z ds S) Q → r (.str (cps z)) vs H Q
theorem de_meS {name : Str} {apos cpos : Pos} {rm : V → List V → Hp → VK → Prop} {fm : List Char → List D → Cells → Out D} (slot : Slot "str" name id) (hty : typeOf (.builtin id) = pure (.type "method_descriptor")) (hm : MtR X id rm) (hf : OpMS cv X rm fm) (ho : DE X cv W e1 m) (ha : DA X cv W (e :: es) ma)
    (hbase : attributeBase e1 name X.env (eval e1 X.env) = eval e1 X.env := by rfl)
    (hfew : ((backTo cpos (starEach (e :: es) X.env)).all (fun x => !x.1) && (backToKw cpos (keywordEach [] X.env)).all (fun x => x.1.isSome)
      && decide ((e :: es).length + ([] : List Keyword).length + (if ([] : List Keyword).isEmpty then 0 else 1) < 30)) = true := by rfl)
    (hline : (apos.endLine == cpos.line) = true := by rfl) (hs : starEach (e :: es) X.env = (false, eval e X.env) :: starEach es X.env := by rfl) (hplain : (backTo cpos (starEach es X.env)).any (·.1) = false := by rfl) :
    DE X cv W (.Call (.Attribute e1 name apos) (e :: es) [] cpos) (dMeS fm m ma) :=
  PE.weak (pe_bm PySem.F.plainAttrs_str slot hty hm ho ha hbase hfew hline hs hplain) fun σ H Q ⟨s, env, S, F, r0, o⟩ => ⟨s, env, S, F, r0, OutP.bind (rp := rpE _) o fun d S1 v F1 H1 r1 sm rv o1 => by
    cases d with
    | str z =>
      cases rv
      exact ⟨rfl, s, env, S1, F1, r1, OutP.bind (rp := rpA _) o1 fun ds S2 vs F2 H2 r2 sm2 rvs o2 => hf W s env S2 F2 σ H2 z ds vs Q r2 rvs o2⟩
    | _ => exact False.elim o1⟩
def fFind3 (x : List Char) (ds : List D) (S : Cells) : Out D := match ds with
  | [.str y, .int i] => .ok (.int (PySem.Txt.find3 (cps x) (cps y) i)) S
  | _ => .no
theorem f_find3 : OpMS cv X (fun x xs H Q => ∃ (a b : Str) (i : Int), x = .str a ∧ xs = [.str b, .int i] ∧ Q (.int (PySem.Txt.find3 a b i)) H) fFind3 := by
  intro W s env S F σ H z ds vs Q r rv o
  unfold fFind3 at o
  split at o
  · obtain ⟨v, r', rfl, h1, v2, r2, rfl, h2, h3⟩ := rv
    cases h1
    cases h2
    cases h3
    exact ⟨_, _, _, rfl, rfl, o _ F H r (Same.refl F) rfl⟩
  · exact o.elim
def fFind (x : List Char) (ds : List D) (S : Cells) : Out D := match ds with
  | [.str y] => .ok (.int (PySem.Txt.find (cps x) (cps y))) S
  | _ => .no
theorem f_find : OpMS cv X (fun x xs H Q => ∃ a b, x = .str a ∧ xs = [.str b] ∧ Q (.int (PySem.Txt.find a b)) H) fFind := by
  intro W s env S F σ H z ds vs Q r rv o
  unfold fFind at o
  split at o
  · obtain ⟨v, r', rfl, h1, h2⟩ := rv
    cases h1
    cases h2
    exact ⟨_, _, rfl, rfl, o _ F H r (Same.refl F) rfl⟩
  · exact o.elim
/-- the texts of a list -/
def strsD : List D → Option (List (List Char))
  | [] => some []
  | .str x :: ds => (strsD ds).map (x :: ·)
  | _ => none
def joinC (x : List Char) : List (List Char) → List Char
  | [] => []
  | [p] => p
  | p :: q :: r => p ++ (x ++ joinC x (q :: r))
theorem join_cps (x : List Char) : ∀ ys : List (List Char), Str.join (cps x) (ys.map cps) = cps (joinC x ys)
  | [] => rfl
  | [p] => rfl
  | p :: q :: r => by
    show cps p ++ cps x ++ Str.join (cps x) ((q :: r).map cps) = cps (p ++ (x ++ joinC x (q :: r)))
    rw [join_cps x (q :: r), cps_app, cps_app, List.append_assoc]
theorem strs_w {K : PySem.W.Frag} {F : Hp} {io : List Addr} : ∀ {ds : List D} {vs : List V} {ys : List (List Char)}, Reps K F io ds vs → strsD ds = some ys → vs = (ys.map cps).map V.str
  | [], _, _, h, e => by cases h; cases e; rfl
  | d :: ds, _, ys, ⟨v, r, h1, h2, h3⟩, e => by
    subst h1
    cases d with
    | str x =>
      unfold strsD at e
      cases q : strsD ds with
      | none => rw [q] at e; cases e
      | some zs =>
        rw [q] at e
        cases e
        cases h2
        rw [strs_w h3 q]
        rfl
    | _ => cases e
def fJoin (x : List Char) (ds : List D) (S : Cells) : Out D := match ds with
  | [d] => match lvr S d with
    | some es => (match strsD es with
      | some ys => if (ys.map List.length).sum + ys.length * x.length ≤ 16777216 then .ok (.str (joinC x ys)) S else .no
      | none => .no)
    | none => .no
  | _ => .no
theorem f_join : OpMS cv X (fun x xs H Q => ∃ a p, ∃ ys : List Str, x = .str a ∧ xs = [.ref p] ∧ (SqL X.K H p (ys.map V.str) ∨ SqT X.K H p (ys.map V.str)) ∧ (ys.map (·.length)).sum + ys.length * a.length ≤ 16777216 ∧ Q (.str (PySem.Txt.join a ys)) H) fJoin := by
  intro W s env S F σ H z ds vs Q r rv o
  unfold fJoin at o
  split at o
  · split at o
    · rename_i es e
      split at o
      · rename_i ys ey
        split at o
        · rename_i hl
          obtain ⟨v, r', rfl, h1, h2⟩ := rv
          cases h2
          obtain ⟨a, us, rfl, h3, h4⟩ := lvr_w r.h h1 e
          have := strs_w h4 ey
          subst this
          refine ⟨cps z, a, ys.map cps, rfl, rfl, .inl h3, ?_, ?_⟩
          · rw [List.map_map, List.length_map, cps_len]
            have : (fun x : Str => x.length) ∘ cps = List.length := by
              funext x
              exact cps_len x
            rw [this]
            exact hl
          · rw [TL.join_eq, join_cps]
            exact o _ F H r (Same.refl F) rfl
        · exact o.elim
      · exact o.elim
    · exact o.elim
  · exact o.elim
end

/-! ### a call whose arguments may be lists of one's own: they are lent -/
abbrev Mk := Ev → Cells → Out (List (D ⊕ Nat))
def RepM (K : PySem.W.Frag) (F : Hp) (io : List Addr) (σ : L2.St) : List (D ⊕ Nat) → List V → Prop
  | [], vs => vs = []
  | .inl d :: r, vs => ∃ v us, vs = v :: us ∧ Rep K F io d v ∧ RepM K F io σ r us
  | .inr i :: r, vs => ∃ v us, vs = v :: us ∧ σ[i]? = some (some v) ∧ RepM K F io σ r us
theorem RepM.mono {K : PySem.W.Frag} {F F' : Hp} {io : List Addr} {σ : L2.St} (e : Same F F') : ∀ {l : List (D ⊕ Nat)} {vs : List V}, RepM K F io σ l vs → RepM K F' io σ l vs
  | [], _, h => h
  | .inl d :: r, _, ⟨v, us, h1, h2, h3⟩ => ⟨v, us, h1, Rep.mono e d v h2, RepM.mono e h3⟩
  | .inr i :: r, _, ⟨v, us, h1, h2, h3⟩ => ⟨v, us, h1, h2, RepM.mono e h3⟩
abbrev rpM (G : Gm) : Rp (List (D ⊕ Nat)) (List V) := fun s _ F σ _ l vs => RepM G.K F s.io σ l vs
def lNil : Mk := fun _ S => .ok [] S
def lVal (m : Me) (mk : Mk) : Mk := fun env S => (m env S).bind fun d S1 => (mk env S1).bind fun l S2 => .ok (.inl d :: l) S2
def lOwn (i : Nat) (mk : Mk) : Mk := fun env S => match env[i]? with
  | some (.own _) => (mk env S).bind fun l S1 => .ok (.inr i :: l) S1
  | _ => .no
def lent (env : Ev) : List (D ⊕ Nat) → Option (List D)
  | [] => some []
  | .inl d :: r => (lent env r).map (d :: ·)
  | .inr i :: r => match env[i]? with
    | some (.own ds) => (lent env r).map (.lst ds :: ·)
    | _ => none
/-- a call that lends; its answer is flat -/
def dLend (mf : Mf) (mk : Mk) : Me := fun env S => (mk env S).bind fun l S1 => match lent env l with
  | some ds => (match mf ds [] with
    | .ok (.val d) _ => if flatD d = true then .ok d S1 else .no
    | _ => .no)
  | none => .no
section
variable {X : Cx} {cv : String → Value} {W : WX} {e : Expr} {es : List Expr} {m : Me} {mk : Mk} {f : Addr} {fd : FuncData} {ps : List Str} {x : Str} {p pos : Pos}
def DL (X : Cx) (cv : String → Value) (W : WX) (es : List Expr) (mk : Mk) : Prop := PA X es (tG ⟨X.K, cv⟩ W (rpM ⟨X.K, cv⟩) mk)
theorem dl_nil : DL X cv W [] lNil := PA.weak pa_nil fun σ H Q ⟨s, env, S, F, r, o⟩ => o [] F H r (Same.refl F) rfl
theorem dl_val (h : DE X cv W e m) (hr : DL X cv W es mk) (hs : starEach (e :: es) X.env = (false, eval e X.env) :: starEach es X.env := by rfl) : DL X cv W (e :: es) (lVal m mk) :=
  PA.weak (pa_cons h hr hs) fun σ H Q ⟨s, env, S, F, r, o⟩ => ⟨s, env, S, F, r, OutP.bind (rp := rpE _) o fun d S1 v F1 H1 r1 sm rv o1 => ⟨s, env, S1, F1, r1, OutP.bind (rp := rpM _) o1 fun ds S2 vs F2 H2 r2 sm2 rvs o2 =>
    o2 (v :: vs) F2 H2 r2 (Same.refl F2) ⟨v, vs, rfl, Rep.mono sm2 d v rv, rvs⟩⟩⟩
theorem dl_own (i : Nat) {y : Str} {yp : Pos} (hr : DL X cv W es mk) (hs : starEach (.Name y yp :: es) X.env = (false, eval (.Name y yp) X.env) :: starEach es X.env := by rfl) (hN : X.N[i]? = some y := by rfl) (hv : Vis X.env.scope y := by first | exact Or.inl rfl | exact Or.inr (Or.inl rfl) | exact Or.inr (Or.inr rfl))
    (hd : (y == ("__debug__" : Str)) = false := by decide) (hcd : (y == ("__classdict__" : Str)) = false := by decide) : DL X cv W (.Name y yp :: es) (lOwn i mk) :=
  PA.weak (pa_cons (pe_var hN hv hd hcd) hr hs) fun σ H Q ⟨s, env, S, F, r, o⟩ => by
    unfold lOwn at o
    split at o
    · rename_i ds q
      obtain ⟨a, h1, w⟩ := r.own i ds q
      exact ⟨.ref a, h1, s, env, S, F, r, OutP.bind (rp := rpM _) o fun l S1 vs F1 H1 r1 sm rv o1 => o1 _ F1 H1 r1 (Same.refl F1) ⟨.ref a, vs, rfl, h1, rv⟩⟩
    · exact o.elim
open Classical in
/-- what is frozen, and the lists of one's own as they stand -/
noncomputable def ovl (env : Ev) (σ : L2.St) (F H : Hp) : Hp := fun a => if ∃ (i : Nat) (ds : List D), env[i]? = some (.own ds) ∧ σ[i]? = some (some (.ref a)) then H a else F a
theorem ovl_same {K : PySem.W.Frag} {s : Snap} {env : Ev} {S : Cells} {F H : Hp} {σ : L2.St} (r : R K s env S F σ H) : Same F (ovl env σ F H) ∧ Same (ovl env σ F H) H := by
  refine ⟨fun a o e => ?_, fun a o e => ?_⟩
  · unfold ovl
    split
    · exact r.h.fh a o e
    · exact e
  · unfold ovl at e
    split at e
    · exact e
    · exact r.h.fh a o e
theorem lent_w {K : PySem.W.Frag} {s : Snap} {env : Ev} {S : Cells} {F H : Hp} {σ : L2.St} (r : R K s env S F σ H) : ∀ {l : List (D ⊕ Nat)} {vs : List V} {ds : List D}, RepM K F s.io σ l vs → lent env l = some ds → Reps K (ovl env σ F H) s.io ds vs
  | [], _, _, h, e => by cases h; cases e; rfl
  | .inl d :: l, _, ds, ⟨v, us, h1, h2, h3⟩, e => by
    subst h1
    unfold lent at e
    cases q : lent env l with
    | none => rw [q] at e; cases e
    | some es =>
      rw [q] at e
      cases e
      exact ⟨v, us, rfl, Rep.mono (ovl_same r).1 d v h2, lent_w r h3 q⟩
  | .inr i :: l, _, ds, ⟨v, us, h1, h2, h3⟩, e => by
    subst h1
    unfold lent at e
    split at e
    · rename_i es qi
      cases q : lent env l with
      | none => rw [q] at e; cases e
      | some fs =>
        rw [q] at e
        cases e
        obtain ⟨a, g1, w⟩ := r.own i es qi
        rw [h2] at g1
        cases g1
        obtain ⟨xs, g2, g3⟩ := w.at_
        refine ⟨_, us, rfl, ⟨a, xs, rfl, ?_, Reps.mono (ovl_same r).1 _ _ g3⟩, lent_w r h3 q⟩
        unfold ovl
        rw [if_pos ⟨i, es, qi, h2⟩]
        exact g2
    · cases e
theorem R.keep {K : PySem.W.Frag} {s : Snap} {env : Ev} {S : Cells} {F H H' : Hp} {σ : L2.St} (r : R K s env S F σ H) (fr : ∀ a o, H a = some o → H' a = some o) : R K s env S F σ H' := by
  refine ⟨⟨fun a o e => fr a o (r.h.fh a o e), r.h.f0, r.h.new, fun a o e hn => fr a o (r.h.frame a o e hn), r.h.len, r.h.nd, fun n a ds h1 h2 => ?_⟩, r.len, r.val, fun i ds q => ?_, r.dist⟩
  · obtain ⟨g1, xs, g2, g3⟩ := r.h.cell n a ds h1 h2
    exact ⟨g1, xs, fr a _ g2, g3⟩
  · obtain ⟨a, h1, h2, h3, h4, xs, h5, h6⟩ := r.own i ds q
    exact ⟨a, h1, h2, h3, h4, xs, fr a _ h5, h6⟩
theorem rep_flat {K : PySem.W.Frag} {F F' : Hp} {io io' : List Addr} {d : D} {v : V} (f : flatD d = true) (h : Rep K F io d v) : Rep K F' io' d v := by
  cases d <;> first | exact h | (simp [flatD] at f)
theorem de_lend {k : Nat} {mf : Mf} (F : FnOk X.prog X.w X.K X.mg X.base (L2.CX X.prog X.w) k f fd ps (spT ⟨X.K, cv⟩ mf)) (tk : Takes X W) (hr : Room k X.A) (hg : Gl X x) (hm : X.mg x = some (.ref f)) (hk : PySem.W.keepIn X.K (.ref f) = true) (hb : Binds X.K fd ps []) (ha : DL X cv W (e :: es) mk) (hdb : (x == ("__debug__" : Str)) = false := by decide)
    (he : starEach (e :: es) X.env = (false, eval e X.env) :: starEach es X.env := by rfl) (hpl : (backTo pos (starEach es X.env)).any (·.1) = false := by rfl) : DE X cv W (.Call (.Name x p) (e :: es) [] pos) (dLend mf mk) :=
  PE.weak (pe_callSD (E := WE W) F hr hg hm hk hb .nil (fun σ => passAt tk σ) ha hdb he hpl) fun σ H Q ⟨s, env, S, F0, r, o⟩ => ⟨s, env, S, F0, r, OutP.bind (rp := rpM _) o fun l S1 vs F1 H1 r1 sm rv o1 => by
    rw [List.append_nil]
    split at o1
    · rename_i ds e1
      obtain ⟨s1, s2⟩ := ovl_same r1
      refine ⟨ds, [], ovl env σ F1 H1, s.io, 0, ⟨s2, Same.refl _, fun a e => .inl e, fun a o e _ => e, rfl, .nil, fun n a ds h => by cases h⟩, lent_w r1 rv e1, ?_⟩
      generalize mf ds [] = om at o1
      cases om with
      | ok rt S2 =>
        cases rt with
        | val d =>
          simp only at o1
          split at o1
          · rename_i hf
            exact fun v F2 H2 c rv2 => o1 v F1 H2 (r1.keep fun a o e => c.frame a o e (by simp [Snap.wr])) (Same.refl F1) (rep_flat hf rv2)
          · exact False.elim o1
        | own es => exact False.elim o1
      | ex x S2 => exact False.elim o1
      | no => exact False.elim o1
    · exact o1.elim⟩
end

/-! ### the law's end -/
theorem law_sp {K : PySem.W.Frag} {cv : String → Value} {m : Mf} {n : Nat} (h : ∀ ns : List Int, ns.length ≤ n → ∃ S, m [.frl (ns.map .int)] [] = .ok (.val (.bl true)) S) (H : Hp) (a : Addr) (ns : List Int) (hn : ns.length ≤ n) (hS : SqL K H a (ns.map V.int)) :
    spT ⟨K, cv⟩ m [.ref a] H (fun v _ => v = .bl true) fun _ _ _ => False := by
  have ri : ∀ ms : List Int, Reps K H [] (ms.map .int) (ms.map V.int) := fun ms => by
    induction ms with
    | nil => rfl
    | cons i r ih => exact ⟨_, _, rfl, rfl, ih⟩
  refine ⟨[.frl (ns.map .int)], [], H, [], 0, ⟨Same.refl H, Same.refl H, fun a e => .inl e, fun a o e _ => e, rfl, .nil, fun n a ds h => by cases h⟩, ⟨_, _, rfl, ⟨a, _, rfl, hS, ri ns⟩, rfl⟩, ?_⟩
  obtain ⟨S, e⟩ := h ns hn
  rw [e]
  exact fun v F H' _ hv => hv
theorem cx_end {P : Program} {w : World} (H : Hp) (s : Shared) (e : Value) (s' : Shared) (h : L2.CX P w [] H s (fun _ _ _ => False) e s') : False := by
  obtain ⟨_, _, _, _, _, _, _, _, _, _, _, _, z⟩ := h
  exact z
end TT
namespace TT
open PySem PySem.Spec PyProof.Rows L2

theorem fn_no {P : Program} {w : World} {K : PySem.W.Frag} {mg : Str → Option Value} {base : Heap} {cv : String → Value} {f : Addr} {fd : FuncData} {ps : List Str} {k : Nat} : FnOk P w K mg base (L2.CX P w) k f fd ps (spT ⟨K, cv⟩ fun _ _ => .no) :=
  ⟨fun vs H Q E ⟨_, _, _, _, _, _, _, o⟩ => o.elim, fun _ _ _ _ _ _ _ _ _ _ _ _ _ ⟨_, _, _, _, _, _, _, o⟩ => o.elim⟩
theorem kwb {K : PySem.W.Frag} {x qual : Str} {st : Stmt} {f : Addr} {fd : FuncData} {ps ks : List Str} {n : Nat} {ix : List Nat} (F : Fun K x qual st f fd)
    (h : ∀ (kV doc pm : Value) (an : Option Addr) (cdv ct : Value) (us ws : List Value), us.length = n → ws.length = ks.length → bindArgs (PySem.W.fnOf x qual (defArgs st) (defBody st) (defScope st) .none kV doc pm an cdv ct) ⟨us, ks.zip ws⟩ = pure (ps.zip (sel ix (us ++ ws)))) : KwB K fd ps n ks ix := by
  obtain ⟨oc, od, kV, doc, pm, an, cdv, ct, osl, rfl, lk, hcd⟩ := F.ex
  exact fun s us ws _ h1 h2 => .of_eq (h kV doc pm an cdv ct us ws h1 h2)

/-! ### a constant of the module -/
theorem de_glob {X : Cx} {cv : String → Value} {W : WX} {x : Str} {pos : Pos} {v : V} {d : D} (hg : Gl X x) (hm : ∃ u, X.mg x = some u ∧ RelV v u) (hr : ∀ K F io, Rep K F io d v) (hd : (x == ("__debug__" : Str)) = false := by decide) : DE X cv W (.Name x pos) (dC d) := by
  obtain ⟨u, h1, h2⟩ := hm
  exact de_c (pe_glob hg h1 h2 hd) rfl hr

/-! ### a op b op c -/
def dChain (f g : D → D → Cells → Out D) (a b c : Me) : Me := fun env S => (a env S).bind fun x S1 => (b env S1).bind fun y S2 => (f x y S2).bind fun z S3 => (asB z S3).bind fun k S4 => if k = true then (c env S4).bind fun w S5 => g y w S5 else .ok (.bl false) S4
section
variable {X : Cx} {cv : String → Value} {W : WX} {a b c : Expr} {ma mb mc : Me} {pos : Pos} {op op' : CmpOp} {r r' : R2} {f g : D → D → Cells → Out D}
theorem chain_w (hf : Op2 cv X (rpE ⟨X.K, cv⟩) r f) (hg : Op2 cv X (rpE ⟨X.K, cv⟩) r' g) (σ : L2.St) (H : Hp) (Q : VK) (h : tE ⟨X.K, cv⟩ W (dChain f g ma mb mc) σ H Q) :
    tChain r r' (tE ⟨X.K, cv⟩ W ma) (tE ⟨X.K, cv⟩ W mb) (tE ⟨X.K, cv⟩ W mc) σ H Q := by
  obtain ⟨s, env, S, F, r0, o⟩ := h
  refine ⟨s, env, S, F, r0, OutP.bind (rp := rpE _) o fun d1 S1 x F1 H1 r1 sm1 rx o1 => ⟨s, env, S1, F1, r1, OutP.bind (rp := rpE _) o1 fun d2 S2 y F2 H2 r2 sm2 ry o2 => ?_⟩⟩
  refine hf W s env S2 F2 σ H2 d1 d2 x y _ r2 (Rep.mono sm2 d1 x rx) ry (OutP.bind (rp := rpE _) o2 fun d3 S3 z F3 H3 r3 sm3 rz o3 => ?_)
  refine asB_w rz o3 fun k o4 => ?_
  cases k with
  | true =>
    rw [if_pos rfl] at o4 ⊢
    exact ⟨s, env, S3, F3, r3, OutP.bind (rp := rpE _) o4 fun d4 S4 w F4 H4 r4 sm4 rw o5 => hg W s env S4 F4 σ H4 d2 d4 y w Q r4 (Rep.mono (sm3.trans sm4) d2 y ry) rw o5⟩
  | false =>
    rw [if_neg Bool.false_ne_true] at o4 ⊢
    exact o4 _ F3 H3 r3 (Same.refl F3) rfl
theorem de_chain (ho : OpR X (compareOp op) r) (ho' : OpR X (compareOp op') r') (hf : Op2 cv X (rpE ⟨X.K, cv⟩) r f) (hg : Op2 cv X (rpE ⟨X.K, cv⟩) r' g) (ha : DE X cv W a ma) (hb : DE X cv W b mb) (hc : DE X cv W c mc) (hm : lastMarks [op, op'] [b, c] = false := by with_unfolding_all rfl) :
    DE X cv W (.Compare a [op, op'] [b, c] pos) (dChain f g ma mb mc) := PE.weak (pe_chain ho ho' ha hb hc hm) (chain_w hf hg)
theorem tT_tE {G : Gm} {m : Me} {te : TE} (h : ∀ σ H (Q : VK), tE G W m σ H Q → te σ H Q) (σ : L2.St) (H : Hp) (Q : Bool → Hp → Prop) (q : tT G W (tB m) σ H Q) : tTest te σ H Q := by
  obtain ⟨s, env, S, F, r, o⟩ := q
  refine h σ H _ ⟨s, env, S, F, r, OutP.bind (rp := rpE _) o fun d S1 v F1 H1 r1 sm rv o1 => ?_⟩
  cases d with
  | bl k =>
    cases rv
    exact ⟨k, rfl, o1 k F1 H1 r1 (Same.refl F1) rfl⟩
  | _ => exact False.elim o1
theorem dt_chain (ho : OpR X (compareOp op) r) (ho' : OpR X (compareOp op') r') (hf : Op2 cv X (rpE ⟨X.K, cv⟩) r f) (hg : Op2 cv X (rpE ⟨X.K, cv⟩) r' g) (ha : DE X cv W a ma) (hb : DE X cv W b mb) (hc : DE X cv W c mc) (hm : lastMarks [op, op'] [b, c] = false := by with_unfolding_all rfl) :
    DT X cv W (.Compare a [op, op'] [b, c] pos) (tB (dChain f g ma mb mc)) := PT.weak (pt_chain ho ho' ha hb hc hm) (tT_tE (chain_w hf hg))
end

/-! ### a list becomes a given one (the law's store) -/
mutual
def noC : D → Bool
  | .lst ds => noCs ds
  | .frl ds => noCs ds
  | .tup ds => noCs ds
  | .cell _ => false
  | .non => true
  | .bl _ => true
  | .int _ => true
  | .str _ => true
  | .ty _ => true
def noCs : List D → Bool
  | [] => true
  | d :: ds => noC d && noCs ds
end
mutual
theorem Rep.io {K : PySem.W.Frag} {F : Hp} {io io' : List Addr} : ∀ (d : D) (v : V), noC d = true → Rep K F io d v → Rep K F io' d v
  | .non, _, _, h => h
  | .bl _, _, _, h => h
  | .int _, _, _, h => h
  | .str _, _, _, h => h
  | .ty _, _, _, h => h
  | .lst ds, _, n, ⟨a, xs, h1, h2, h3⟩ => ⟨a, xs, h1, h2, Reps.io ds xs (by simpa only [noC] using n) h3⟩
  | .frl ds, _, n, ⟨a, xs, h1, h2, h3⟩ => ⟨a, xs, h1, h2, Reps.io ds xs (by simpa only [noC] using n) h3⟩
  | .tup ds, _, n, ⟨a, xs, h1, h2, h3⟩ => ⟨a, xs, h1, h2, Reps.io ds xs (by simpa only [noC] using n) h3⟩
  | .cell _, _, n, _ => by simp only [noC] at n; cases n
theorem Reps.io {K : PySem.W.Frag} {F : Hp} {io io' : List Addr} : ∀ (ds : List D) (vs : List V), noCs ds = true → Reps K F io ds vs → Reps K F io' ds vs
  | [], _, _, h => h
  | d :: ds, _, n, ⟨x, r, h1, h2, h3⟩ => by
    simp only [noCs, Bool.and_eq_true] at n
    exact ⟨x, r, h1, Rep.io d x n.1 h2, Reps.io ds r n.2 h3⟩
end
def clf : Sl → Bool
  | .no => true
  | .val d => noC d
  | .own ds => noCs ds
/-- x = e, the new list a given one from here on; the rest of the block ends with a flat answer -/
def sProm (i : Nat) (mo : Ma) (mr : Ms) : Ms := fun env S => (mo env S).go env fun ds S1 => match S1 with
  | [] => if env.all clf = true ∧ noCs ds = true then (match mr (env.set i (.val (.cell 0))) [ds] with
    | .ret (.val d) _ => if flatD d = true then .ret (.val d) [] else .no
    | _ => .no) else .no
  | _ :: _ => .no
section
variable {X : Cx} {cv : String → Value} {W : WX} {e : Expr} {mo : Ma} {rest : List Stmt} {mr : Ms} {pos pos' : Pos}
theorem db_prom (i : Nat) {x : Str} (hN : X.N.Nodup) (he : DO X cv W e mo) (hr : DB X cv W rest mr) (hi : X.N[i]? = some x := by rfl) (hx : Loc X.env.scope x := by first | exact Or.inl rfl | exact Or.inr rfl) (hs : swapsWith e (some (.Name x pos')) pos.line X.env = pure false := by rfl)
    (hf : X.fn x = true ∨ X.env.scope.names.lookup x = some .local := by first | exact .inl rfl | exact .inr rfl | assumption) : DB X cv W (.Assign [.Name x pos'] e pos :: rest) (sProm i mo mr) :=
  PSs.weak (pss_cons (ps_set hN hi hx he hs hf) hr) fun E σ H ⟨s, env, S, F, r, o⟩ => ⟨s, env, S, F, r, OutS.go (rp := rpO _) o fun ds S1 v F1 H1 r1 sm rv o1 => by
    obtain ⟨a, rfl, w, off⟩ := rv
    cases S1 with
    | cons _ _ => exact o1.elim
    | nil =>
      simp only at o1
      split at o1
      · rename_i hc
        have hw : s.wr = [] := List.length_eq_zero_iff.mp r1.h.len
        obtain ⟨xs, hx1, hx2⟩ := w.at_
        have cl : ∀ (j : Nat) (sl : Sl), env[j]? = some sl → clf sl = true := fun j sl q => List.all_eq_true.mp hc.1 sl (List.mem_of_getElem? q)
        -- the same state, with the list at a given
        have r2 : R X.K ⟨[a], 1, s.H0, s.F0⟩ env [ds] F1 σ H1 := by
          refine ⟨⟨r1.h.fh, r1.h.f0, r1.h.new, fun b u q _ => r1.h.frame b u q (by rw [hw]; simp), rfl, by simp [Snap.wr], fun n b es h1 h2 => ?_⟩, r1.len, fun j d q => ?_, fun j es q => ?_, r1.dist⟩
          · cases n with
            | zero =>
              cases h1
              cases h2
              exact ⟨w.fr, xs, hx1, Reps.io ds xs hc.2 hx2⟩
            | succ n => simp at h2
          · obtain ⟨v, g1, g2⟩ := r1.val j d q
            exact ⟨v, g1, Rep.io d v (cl j _ q) g2⟩
          · obtain ⟨b, g1, g2, g3, g4, ys, g5, g6⟩ := r1.own j es q
            refine ⟨b, g1, g2, g3, fun hm => ?_, ys, g5, Reps.io es ys (cl j _ q) g6⟩
            have : b = a := by simpa [Snap.wr] using hm
            exact off j es q (by rw [← this]; exact g1)
        have r3 := r2.setVal (i := i) (d := .cell 0) (v := .ref a) ⟨a, rfl, rfl⟩
        refine ⟨⟨[a], 1, s.H0, s.F0⟩, env.set i (.val (.cell 0)), [ds], F1, r3, ?_⟩
        generalize mr (env.set i (.val (.cell 0))) [ds] = om at o1
        cases om with
        | ret rt S2 =>
          cases rt with
          | val d =>
            simp only at o1
            split at o1
            · rename_i hd
              intro v F2 H2 c rv
              refine o1 v F2 H2 ⟨c.fh, c.f0, c.new, fun b u q hb => ?_, r1.h.len, r1.h.nd, fun n b es h1 h2 => by simp at h2⟩ (rep_flat hd rv)
              refine c.frame b u q fun hm => ?_
              have : b = a := by simpa [Snap.wr] using hm
              rw [this] at q
              have q' : s.H0 a = some u := q
              rw [w.h0] at q'
              cases q'
            · exact o1.elim
          | own es => exact o1.elim
        | nx _ _ => exact o1.elim
        | bk _ _ => exact o1.elim
        | ct _ _ => exact o1.elim
        | ex _ _ _ => exact o1.elim
        | no => exact o1.elim
      · exact o1.elim⟩
end
end TT
namespace TT
open PySem PySem.Spec PyProof.Rows L2

/-! ### what a meaning reaches -/
@[irreducible] def RE {α : Type} (o : Out α) (P : α → Cells → Prop) (X : Ex → Cells → Prop) : Prop := match o with
  | .ok a S => P a S
  | .ex x S => X x S
  | .no => False
structure Kt where
  nx : Ev → Cells → Prop
  bk : Ev → Cells → Prop
  ct : Ev → Cells → Prop
  rt : Ret → Cells → Prop
  ex : Ex → Ev → Cells → Prop
@[irreducible] def RS (o : SOut) (κ : Kt) : Prop := match o with
  | .nx e S => κ.nx e S
  | .bk e S => κ.bk e S
  | .ct e S => κ.ct e S
  | .ret r S => κ.rt r S
  | .ex x e S => κ.ex x e S
  | .no => False
abbrev nf {α β : Type} : α → β → Prop := fun _ _ => False
section
variable {α β : Type} {P P' : α → Cells → Prop} {X X' : Ex → Cells → Prop} {o : Out α} {κ κ' : Kt} {env : Ev} {S : Cells}
theorem RE.mono (h : RE o P X) (h1 : ∀ a S, P a S → P' a S) (h2 : ∀ x S, X x S → X' x S) : RE o P' X' := by
  cases o with
  | ok a S => with_unfolding_all exact h1 a S h
  | ex x S => with_unfolding_all exact h2 x S h
  | no => with_unfolding_all exact h
theorem RE.imp (h : RE o P nf) (h1 : ∀ a S, P a S → P' a S) : RE o P' X' := h.mono h1 fun _ _ z => z.elim
theorem RS.mono {so : SOut} (h : RS so κ) (h1 : ∀ e S, κ.nx e S → κ'.nx e S) (h2 : ∀ e S, κ.bk e S → κ'.bk e S) (h3 : ∀ e S, κ.ct e S → κ'.ct e S) (h4 : ∀ r S, κ.rt r S → κ'.rt r S) (h5 : ∀ x e S, κ.ex x e S → κ'.ex x e S) : RS so κ' := by
  cases so with
  | nx e S => with_unfolding_all exact h1 e S h
  | bk e S => with_unfolding_all exact h2 e S h
  | ct e S => with_unfolding_all exact h3 e S h
  | ret r S => with_unfolding_all exact h4 r S h
  | ex x e S => with_unfolding_all exact h5 x e S h
  | no => with_unfolding_all exact h
@[simp] theorem re_ok {a : α} : RE (.ok a S) P X = P a S := by with_unfolding_all rfl
@[simp] theorem re_ex {x : Ex} : RE (.ex x S : Out α) P X = X x S := by with_unfolding_all rfl
@[simp] theorem re_no : RE (.no : Out α) P X = False := by with_unfolding_all rfl
@[simp] theorem re_bind {k : α → Cells → Out β} {P : β → Cells → Prop} : RE (o.bind k) P X = RE o (fun a S => RE (k a S) P X) X := by
  cases o <;> with_unfolding_all rfl
@[simp] theorem re_ite {c : Prop} [Decidable c] {o' : Out α} : RE (if c then o else o') P X = if c then RE o P X else RE o' P X := by
  split <;> with_unfolding_all rfl
@[simp] theorem rs_nx : RS (.nx env S) κ = κ.nx env S := by with_unfolding_all rfl
@[simp] theorem rs_bk : RS (.bk env S) κ = κ.bk env S := by with_unfolding_all rfl
@[simp] theorem rs_ct : RS (.ct env S) κ = κ.ct env S := by with_unfolding_all rfl
@[simp] theorem rs_ret {r : Ret} : RS (.ret r S) κ = κ.rt r S := by with_unfolding_all rfl
@[simp] theorem rs_ex {x : Ex} : RS (.ex x env S) κ = κ.ex x env S := by with_unfolding_all rfl
@[simp] theorem rs_no : RS .no κ = False := by with_unfolding_all rfl
@[simp] theorem rs_go {k : α → Cells → SOut} : RS (o.go env k) κ = RE o (fun a S => RS (k a S) κ) (fun x S => κ.ex x env S) := by
  cases o <;> with_unfolding_all rfl
@[simp] theorem rs_ite {c : Prop} [Decidable c] {a b : SOut} : RS (if c then a else b) κ = if c then RS a κ else RS b κ := by
  split <;> with_unfolding_all rfl
@[simp] theorem rs_seq {a b : Ms} : RS (sSeq a b env S) κ = RS (a env S) { κ with nx := fun e S => RS (b e S) κ } := by
  unfold sSeq SOut.seq
  cases a env S <;> with_unfolding_all rfl
@[simp] theorem rs_nil : RS (sNil env S) κ = κ.nx env S := by with_unfolding_all rfl
@[simp] theorem rs_brk : RS (sBrk env S) κ = κ.bk env S := by with_unfolding_all rfl
@[simp] theorem rs_cnt : RS (sCnt env S) κ = κ.ct env S := by with_unfolding_all rfl
@[simp] theorem rs_exp {m : Me} : RS (sExp m env S) κ = RE (m env S) (fun _ S => κ.nx env S) (fun x S => κ.ex x env S) := by
  unfold sExp; rw [rs_go]; with_unfolding_all rfl
@[simp] theorem rs_rt {m : Me} : RS (sRet m env S) κ = RE (m env S) (fun d S => κ.rt (.val d) S) (fun x S => κ.ex x env S) := by
  unfold sRet; rw [rs_go]; with_unfolding_all rfl
@[simp] theorem rs_rtO {m : Ma} : RS (sRetO m env S) κ = RE (m env S) (fun d S => κ.rt (.own d) S) (fun x S => κ.ex x env S) := by
  unfold sRetO; rw [rs_go]; with_unfolding_all rfl
@[simp] theorem rs_rtN : RS (sRetN env S) κ = κ.rt (.val .non) S := by with_unfolding_all rfl
@[simp] theorem rs_rtV {i : Nat} : RS (sRetV i env S) κ = (match env[i]? with
  | some (.own ds) => κ.rt (.own ds) S
  | some (.val d) => κ.rt (.val d) S
  | _ => False) := by
  unfold sRetV
  cases env[i]? with
  | none => with_unfolding_all rfl
  | some sl => cases sl <;> with_unfolding_all rfl
@[simp] theorem rs_if {c : Mt} {a b : Ms} : RS (sIf c a b env S) κ = RE (c env S) (fun k S => if k = true then RS (a env S) κ else RS (b env S) κ) (fun x S => κ.ex x env S) := by
  unfold sIf; rw [rs_go]
  congr 1
  funext k S
  rw [rs_ite]
@[simp] theorem rs_set {i : Nat} {m : Me} : RS (sSet i m env S) κ = RE (m env S) (fun d S => κ.nx (env.set i (.val d)) S) (fun x S => κ.ex x env S) := by
  unfold sSet; rw [rs_go]; with_unfolding_all rfl
@[simp] theorem rs_setO {i : Nat} {m : Ma} : RS (sSetO i m env S) κ = RE (m env S) (fun d S => κ.nx (env.set i (.own d)) S) (fun x S => κ.ex x env S) := by
  unfold sSetO; rw [rs_go]; with_unfolding_all rfl
@[simp] theorem rs_frz {i : Nat} {m : Ms} : RS (sFrz i m env S) κ = (match env[i]? with
  | some (.own ds) => RS (m (env.set i (.val (.lst ds))) S) κ
  | _ => RS (m env S) κ) := by
  unfold sFrz
  cases env[i]? with
  | none => with_unfolding_all rfl
  | some sl => cases sl <;> with_unfolding_all rfl
@[simp] theorem rs_app {i : Nat} {m : Me} : RS (sApp i m env S) κ = (match env[i]? with
  | some (.own ds) => RE (m env S) (fun d S1 => ds.length < 16777216 ∧ κ.nx (env.set i (.own (ds ++ [d]))) S1) (fun x S => κ.ex x env S)
  | _ => False) := by
  unfold sApp
  cases env[i]? with
  | none => with_unfolding_all rfl
  | some sl =>
    cases sl with
    | own ds =>
      simp only [rs_go]
      congr 1
      funext d S1
      split
      · rename_i h
        simp [h]
      · rename_i h
        simp [h]
    | _ => with_unfolding_all rfl
@[simp] theorem rs_putO {i : Nat} {mj me : Me} : RS (sPutO i mj me env S) κ = RE (me env S) (fun d S1 => match env[i]? with
  | some (.own ds) => RE (mj env S1) (fun j S2 => match j with
    | .int k => (match ixN ds.length k with
      | some n => κ.nx (env.set i (.own (ds.set n d))) S2
      | none => False)
    | _ => False) (fun x S => κ.ex x env S)
  | _ => False) (fun x S => κ.ex x env S) := by
  unfold sPutO
  rw [rs_go]
  congr 1
  funext d S1
  cases env[i]? with
  | none => with_unfolding_all rfl
  | some sl =>
    cases sl with
    | own ds =>
      simp only [rs_go]
      congr 1
      funext j S2
      cases j with
      | int k =>
        simp only
        cases ixN ds.length k <;> with_unfolding_all rfl
      | _ => with_unfolding_all rfl
    | _ => with_unfolding_all rfl
@[simp] theorem rs_putC {mo mj me : Me} : RS (sPutC mo mj me env S) κ = RE (me env S) (fun d S1 => RE (mo env S1) (fun o S2 => RE (mj env S2) (fun j S3 => match o, j with
  | .cell c, .int k => (match S3[c]? with
    | some ds => (match ixN ds.length k with
      | some n => κ.nx env (S3.set c (ds.set n d))
      | none => False)
    | none => False)
  | _, _ => False) (fun x S => κ.ex x env S)) (fun x S => κ.ex x env S)) (fun x S => κ.ex x env S) := by
  unfold sPutC
  simp only [rs_go]
  congr 1
  funext d S1
  congr 1
  funext o S2
  congr 1
  funext j S3
  cases o with
  | cell c =>
    cases j with
    | int k =>
      simp only
      cases S3[c]? with
      | none => with_unfolding_all rfl
      | some ds =>
        simp only
        cases ixN ds.length k <;> with_unfolding_all rfl
    | _ => with_unfolding_all rfl
  | _ => with_unfolding_all rfl
@[simp] theorem re_fn {n N : Nat} {body : Ms} {ds : List D} {P : Ret → Cells → Prop} : RE (fnM n N body ds S) P X = (ds.length = n ∧ RS (body (ds.map .val ++ List.replicate (N - n) .no) S) ⟨fun _ S => P (.val .non) S, nf, nf, P, fun x _ S => X x S⟩) := by
  unfold fnM
  split
  · rename_i h
    cases body (ds.map .val ++ List.replicate (N - n) .no) S <;> simp [h]
  · rename_i h
    simp [h]
end

/-! ### the meanings, one step each -/
section
variable {α β : Type} {env : Ev} {S : Cells}
@[simp] theorem x_var {i : Nat} : dVar i env S = (match env[i]? with | some (.val d) => .ok d S | _ => .no) := rfl
@[simp] theorem x_c {d : D} : dC d env S = .ok d S := rfl
@[simp] theorem x_un {f : D → Cells → Out α} {m : Me} : dUn f m env S = (m env S).bind f := rfl
@[simp] theorem x_bin {f : D → D → Cells → Out α} {m1 m2 : Me} : dBin f m1 m2 env S = (m1 env S).bind fun a S1 => (m2 env S1).bind fun b S2 => f a b S2 := rfl
@[simp] theorem x_nil : aNil env S = .ok [] S := rfl
@[simp] theorem x_cons {m : Me} {ma : Ma} : aCons m ma env S = (m env S).bind fun d S1 => (ma env S1).bind fun ds S2 => .ok (d :: ds) S2 := rfl
@[simp] theorem x_args {f : List D → Cells → Out α} {ma : Ma} : dArgs f ma env S = (ma env S).bind f := rfl
@[simp] theorem x_asB {b : Bool} : asB (.bl b) S = .ok b S := rfl
@[simp] theorem x_tB {m : Me} : tB m env S = (m env S).bind asB := rfl
@[simp] theorem x_mAnd {a b : Mt} : mAnd a b env S = (a env S).bind fun c S1 => if c = true then b env S1 else .ok false S1 := rfl
@[simp] theorem x_mOr {a b : Mt} : mOr a b env S = (a env S).bind fun c S1 => if c = true then .ok true S1 else b env S1 := rfl
@[simp] theorem x_mNot {a : Mt} : mNot a env S = (a env S).bind fun c S1 => .ok (!c) S1 := rfl
@[simp] theorem x_dIf {c : Mt} {a b : Me} : dIf c a b env S = (c env S).bind fun k S1 => if k = true then a env S1 else b env S1 := rfl
@[simp] theorem x_dAnd {a b : Me} : dAnd a b env S = (a env S).bind fun d S1 => (asB d S1).bind fun c S1 => if c = true then b env S1 else .ok (.bl false) S1 := rfl
@[simp] theorem x_dOr {a b : Me} : dOr a b env S = (a env S).bind fun d S1 => (asB d S1).bind fun c S1 => if c = true then .ok (.bl true) S1 else b env S1 := rfl
@[simp] theorem x_dNot {a : Me} : dNot a env S = (a env S).bind fun d S1 => (asB d S1).bind fun c S1 => .ok (.bl (!c)) S1 := rfl
@[simp] theorem x_pNone : pNone env S = .ok none S := rfl
@[simp] theorem x_pSome {m : Me} : pSome m env S = (m env S).bind fun d S1 => match d with | .int i => .ok (some i) S1 | _ => .no := rfl
@[simp] theorem x_tup {ma : Ma} : dTup ma env S = (ma env S).bind fun ds S1 => if ds.length ≤ 16777216 then .ok (.tup ds) S1 else .no := rfl
@[simp] theorem x_lst {ma : Ma} : oLst ma env S = (ma env S).bind fun ds S1 => if ds.length ≤ 16777216 then .ok ds S1 else .no := rfl
@[simp] theorem x_fz {mo : Ma} : dFz mo env S = (mo env S).bind fun ds S1 => .ok (.lst ds) S1 := rfl
@[simp] theorem x_sl {f : D → Option Int → Option Int → Cells → Out α} {m : Me} {lo hi : Ev → Cells → Out (Option Int)} : dSl f m lo hi env S = (m env S).bind fun a S1 => (lo env S1).bind fun l S2 => (hi env S2).bind fun h S3 => f a l h S3 := rfl
@[simp] theorem x_def {ma : Ma} {dds : List D} : aDef ma dds env S = (ma env S).bind fun ds S1 => .ok (ds ++ dds) S1 := rfl
@[simp] theorem x_kw {n m : Nat} {ix : List Nat} {ma mk : Ma} : aKw n m ix ma mk env S = (ma env S).bind fun ds S1 => (mk env S1).bind fun es S2 => if ds.length = n ∧ es.length = m then .ok (sel ix (ds ++ es)) S2 else .no := rfl
@[simp] theorem x_call {mf : Mf} {ma : Ma} : dCall mf ma env S = (ma env S).bind fun ds S1 => (mf ds S1).bind fun r S2 => .ok r.fz S2 := rfl
@[simp] theorem x_oCall {mf : Mf} {ma : Ma} : oCall mf ma env S = (ma env S).bind fun ds S1 => (mf ds S1).bind fun r S2 => match r with | .own es => .ok es S2 | _ => .no := rfl
/-- a call that uses no given list: its answer, the given lists as they are -/
def pureOf {α : Type} (o : Out α) (S : Cells) : Out α := match o with
  | .ok a _ => .ok a S
  | .ex x _ => .ex x S
  | .no => .no
@[simp] theorem x_callP {mf : Mf} {ma : Ma} : dCallP mf ma env S = (ma env S).bind fun ds S1 => (pureOf (mf ds []) S1).bind fun r S2 => .ok r.fz S2 := by
  unfold dCallP
  congr 1
  funext ds S1
  cases mf ds [] <;> with_unfolding_all rfl
@[simp] theorem x_oCallP {mf : Mf} {ma : Ma} : oCallP mf ma env S = (ma env S).bind fun ds S1 => (pureOf (mf ds []) S1).bind fun r S2 => match r with | .own es => .ok es S2 | _ => .no := by
  unfold oCallP
  congr 1
  funext ds S1
  cases mf ds [] with
  | ok r S => cases r <;> with_unfolding_all rfl
  | _ => with_unfolding_all rfl
@[simp] theorem pureOf_ok {a : α} {S' : Cells} : pureOf (.ok a S') S = .ok a S := rfl
@[simp] theorem pureOf_ex {x : Ex} {S' : Cells} : pureOf (.ex x S' : Out α) S = .ex x S := rfl
theorem re_pure {o : Out α} {P : α → Cells → Prop} {X : Ex → Cells → Prop} (h : RE o (fun a _ => P a S) (fun x _ => X x S)) : RE (pureOf o S) P X := by
  cases o <;> with_unfolding_all exact h
@[simp] theorem fz_val {d : D} : (Ret.val d).fz = d := rfl
@[simp] theorem fz_own {ds : List D} : (Ret.own ds).fz = .lst ds := rfl
@[simp] theorem x_ixO {i : Nat} {m : Me} : dIxO i m env S = (match env[i]? with
  | some (.own ds) => (m env S).bind fun b S1 => match b with
    | .int j => (match L2.atI ds j with | some d => .ok d S1 | none => .no)
    | _ => .no
  | _ => .no) := rfl
@[simp] theorem x_lenO {i : Nat} : dLenO i env S = (match env[i]? with
  | some (.own ds) => .ok (.int (ds.length : Int)) S
  | _ => .no) := rfl
@[simp] theorem x_meS {f : List Char → List D → Cells → Out D} {m : Me} {ma : Ma} : dMeS f m ma env S = (m env S).bind fun d S1 => match d with
  | .str x => (ma env S1).bind fun ds S2 => f x ds S2
  | _ => .no := rfl
@[simp] theorem x_lNil : lNil env S = .ok [] S := rfl
@[simp] theorem x_lVal {m : Me} {mk : Mk} : lVal m mk env S = (m env S).bind fun d S1 => (mk env S1).bind fun l S2 => .ok (.inl d :: l) S2 := rfl
@[simp] theorem x_lOwn {i : Nat} {mk : Mk} : lOwn i mk env S = (match env[i]? with
  | some (.own _) => (mk env S).bind fun l S1 => .ok (.inr i :: l) S1
  | _ => .no) := rfl
@[simp] theorem x_lend {mf : Mf} {mk : Mk} : dLend mf mk env S = (mk env S).bind fun l S1 => match lent env l with
  | some ds => (match mf ds [] with
    | .ok (.val d) _ => if flatD d = true then .ok d S1 else .no
    | _ => .no)
  | none => .no := rfl
@[simp] theorem x_comp {vs : List Nat} {mi : Ma} {mg : Mg} {mt : Mt} {me : Me} : oComp vs mi mg mt me env S = (mi env S).bind fun ds S1 => compL vs mg mt me env ds [] S1 := rfl
@[simp] theorem x_gtN {i : Nat} {d : D} : gtN i d env = some (env.set i (.val d)) := rfl
@[simp] theorem x_mYes : mYes env S = .ok true S := rfl
-- operations on what is known
@[simp] theorem v_add_i {i j : Int} : opAdd (.int i) (.int j) S = .ok (.int (i + j)) S := rfl
@[simp] theorem v_add_s {x y : List Char} : opAdd (.str x) (.str y) S = if x.length + y.length ≤ 16777216 then .ok (.str (x ++ y)) S else .no := rfl
@[simp] theorem v_add_l {x y : List D} : opAdd (.lst x) (.lst y) S = if x.length + y.length ≤ 16777216 then .ok (.lst (x ++ y)) S else .no := rfl
@[simp] theorem v_add_t {x y : List D} : opAdd (.tup x) (.tup y) S = if x.length + y.length ≤ 16777216 then .ok (.tup (x ++ y)) S else .no := rfl
@[simp] theorem v_cat_l {x y : List D} : opCat (.lst x) (.lst y) S = if x.length + y.length ≤ 16777216 then .ok (x ++ y) S else .no := rfl
@[simp] theorem v_sub {i j : Int} : opSub (.int i) (.int j) S = .ok (.int (i - j)) S := rfl
@[simp] theorem v_mul_i {i j : Int} : opMul (.int i) (.int j) S = if mulOk i j = true then .ok (.int (i * j)) S else .no := rfl
@[simp] theorem v_mul_s {x : List Char} {n : Int} : opMul (.str x) (.int n) S = if -9223372036854775808 ≤ n ∧ n < 9223372036854775808 ∧ x.length * n.toNat ≤ 16777216 then .ok (.str (List.replicate n.toNat x).flatten) S else .no := rfl
@[simp] theorem v_mul_l {x : List D} {n : Int} : opMul (.lst x) (.int n) S = if -9223372036854775808 ≤ n ∧ n < 9223372036854775808 ∧ x.length * n.toNat ≤ 16777216 then .ok (.lst (List.replicate n.toNat x).flatten) S else .no := rfl
@[simp] theorem v_mod {i j : Int} : opMod (.int i) (.int j) S = if 0 < j then .ok (.int (i % j)) S else .no := rfl
@[simp] theorem v_fdiv {i j : Int} : opFDiv (.int i) (.int j) S = if divOk j = true then .ok (.int (i / j)) S else .no := rfl
@[simp] theorem v_pow {i j : Int} : opPow (.int i) (.int j) S = if 0 ≤ j ∧ j ≤ 1000000 ∧ i.natAbs < 18446744073709551616 then .ok (.int (i ^ j.toNat)) S else .no := rfl
@[simp] theorem v_neg {i : Int} : opNeg (.int i) S = .ok (.int (-i)) S := rfl
@[simp] theorem v_ord_i {p : Int → Int → Bool} {q : List Nat → List Nat → Bool} {i j : Int} : opOrd p q (.int i) (.int j) S = .ok (.bl (p i j)) S := rfl
@[simp] theorem v_ord_s {p : Int → Int → Bool} {q : List Nat → List Nat → Bool} {x y : List Char} : opOrd p q (.str x) (.str y) S = .ok (.bl (q (x.map Char.toNat) (y.map Char.toNat))) S := rfl
@[simp] theorem v_is {a : D} : opIs a .non S = .ok (.bl (isNon a)) S := rfl
@[simp] theorem v_isnot {a : D} : opIsNot a .non S = .ok (.bl (!isNon a)) S := rfl
@[simp] theorem isNon_non : isNon .non = true := rfl
@[simp] theorem isNon_bl {b : Bool} : isNon (.bl b) = false := rfl
@[simp] theorem isNon_int {i : Int} : isNon (.int i) = false := rfl
@[simp] theorem isNon_str {x : List Char} : isNon (.str x) = false := rfl
@[simp] theorem isNon_lst {x : List D} : isNon (.lst x) = false := rfl
@[simp] theorem isNon_tup {x : List D} : isNon (.tup x) = false := rfl
-- equality of scalars
theorem deq_str {x y : List Char} : deq (.str x) (.str y) = decide (x = y) := by
  show (cps x == cps y) = decide (x = y)
  rw [Bool.eq_iff_iff]
  simp only [beq_iff_eq, decide_eq_true_eq]
  with_unfolding_all exact ⟨cps_inj, fun h => by rw [h]⟩
@[simp] theorem v_eq_i {i j : Int} : opEq (.int i) (.int j) S = .ok (.bl (decide (i = j))) S := by
  have h : dep (view S (.int i)) ≤ 64 ∧ dep (view S (.int j)) ≤ 64 := ⟨Nat.zero_le _, Nat.zero_le _⟩
  unfold opEq
  rw [if_pos h]
  rfl
@[simp] theorem v_eq_s {x y : List Char} : opEq (.str x) (.str y) S = .ok (.bl (decide (x = y))) S := by
  have h : dep (view S (.str x)) ≤ 64 ∧ dep (view S (.str y)) ≤ 64 := ⟨Nat.zero_le _, Nat.zero_le _⟩
  unfold opEq
  rw [if_pos h]
  show Out.ok (D.bl (deq (.str x) (.str y))) S = _
  rw [deq_str]
@[simp] theorem v_eq_b {x y : Bool} : opEq (.bl x) (.bl y) S = .ok (.bl (x == y)) S := by
  have h : dep (view S (.bl x)) ≤ 64 ∧ dep (view S (.bl y)) ≤ 64 := ⟨Nat.zero_le _, Nat.zero_le _⟩
  unfold opEq
  rw [if_pos h]
  rfl
@[simp] theorem v_ne_i {i j : Int} : opNe (.int i) (.int j) S = .ok (.bl (!decide (i = j))) S := by
  have h : dep (view S (.int i)) ≤ 64 ∧ dep (view S (.int j)) ≤ 64 := ⟨Nat.zero_le _, Nat.zero_le _⟩
  unfold opNe
  rw [if_pos h]
  rfl
@[simp] theorem v_ne_s {x y : List Char} : opNe (.str x) (.str y) S = .ok (.bl (!decide (x = y))) S := by
  have h : dep (view S (.str x)) ≤ 64 ∧ dep (view S (.str y)) ≤ 64 := ⟨Nat.zero_le _, Nat.zero_le _⟩
  unfold opNe
  rw [if_pos h]
  show Out.ok (D.bl (!deq (.str x) (.str y))) S = _
  rw [deq_str]
-- items, slices, lengths
@[simp] theorem v_ix_s {x : List Char} {i : Int} : opIx (.str x) (.int i) S = if x.length ≤ 16777216 then atO (L2.atI x i) (fun c => .str [c]) S else .no := rfl
@[simp] theorem v_ix_t {x : List D} {i : Int} : opIx (.tup x) (.int i) S = atO (L2.atI x i) id S := rfl
@[simp] theorem v_ix_l {x : List D} {i : Int} : opIx (.lst x) (.int i) S = atO (L2.atI x i) id S := rfl
@[simp] theorem v_ix_c {n : Nat} {i : Int} : opIx (.cell n) (.int i) S = match S[n]? with | some ds => atO (L2.atI ds i) id S | none => .no := rfl
@[simp] theorem v_sl_s {x : List Char} {l h : Option Int} : opSl (.str x) l h S = if x.length ≤ 16777216 then .ok (.str (cut x l h)) S else .no := rfl
@[simp] theorem v_sl_l {x : List D} {l h : Option Int} : opSl (.lst x) l h S = .ok (.lst (cut x l h)) S := rfl
@[simp] theorem v_sl_t {x : List D} {l h : Option Int} : opSl (.tup x) l h S = .ok (.tup (cut x l h)) S := rfl
@[simp] theorem v_slO_l {x : List D} {l h : Option Int} : opSlO (.lst x) l h S = .ok (cut x l h) S := rfl
@[simp] theorem v_len_s {x : List Char} : fLen [.str x] S = if x.length ≤ 16777216 then .ok (.int (x.length : Int)) S else .no := rfl
@[simp] theorem v_len_l {x : List D} : fLen [.lst x] S = .ok (.int (x.length : Int)) S := rfl
@[simp] theorem v_len_f {x : List D} : fLen [.frl x] S = .ok (.int (x.length : Int)) S := rfl
@[simp] theorem v_len_t {x : List D} : fLen [.tup x] S = .ok (.int (x.length : Int)) S := rfl
@[simp] theorem v_abs {i : Int} : fAbs [.int i] S = .ok (.int (if i < 0 then -i else i)) S := rfl
@[simp] theorem v_int {i : Int} : fInt [.int i] S = .ok (.int i) S := rfl
@[simp] theorem v_2i {g : Int → Int → Int} {i j : Int} : f2I g [.int i, .int j] S = .ok (.int (g i j)) S := rfl
@[simp] theorem v_list_l {x : List D} : fList [.lst x] S = .ok x S := rfl
@[simp] theorem v_list_t {x : List D} : fList [.tup x] S = .ok x S := rfl
@[simp] theorem v_it_l {x : List D} : itemsOf (.lst x) S = .ok x S := rfl
@[simp] theorem v_it_f {x : List D} : itemsOf (.frl x) S = .ok x S := rfl
@[simp] theorem v_it_t {x : List D} : itemsOf (.tup x) S = .ok x S := rfl
@[simp] theorem v_it_s {x : List Char} : itemsOf (.str x) S = .ok (x.map fun c => .str [c]) S := rfl
@[simp] theorem v_rg1 {j : Int} : iRange1 [.int j] S = if -4611686018427387904 ≤ j ∧ j < 4611686018427387904 then .ok (rgD 0 j.toNat) S else .no := rfl
@[simp] theorem v_rg2 {i j : Int} : iRange2 [.int i, .int j] S = if -4611686018427387904 ≤ i ∧ i < 4611686018427387904 ∧ -4611686018427387904 ≤ j ∧ j < 4611686018427387904 then .ok (rgD i (j - i).toNat) S else .no := rfl
@[simp] theorem v_find3 {x y : List Char} {i : Int} : fFind3 x [.str y, .int i] S = .ok (.int (PySem.Txt.find3 (cps x) (cps y) i)) S := rfl
@[simp] theorem v_isi {d : D} {t : String} : fIsi [d, .ty t] S = if cellOk d S = true then (match isiB d t with | some b => .ok (.bl b) S | none => .no) else .no := rfl
@[simp] theorem atI_nn {l : List α} {n : Nat} (h : n < l.length) : L2.atI l (n : Int) = some l[n] := by
  unfold L2.atI ixN
  rw [if_pos (by omega), if_pos (by omega)]
  simp [h]
theorem atI_of {l : List α} {i : Int} (h0 : 0 ≤ i) (h : i < l.length) : ∃ x, x ∈ l ∧ L2.atI l i = some x ∧ l[i.toNat]? = some x := by
  have hn : i.toNat < l.length := by omega
  refine ⟨l[i.toNat], List.getElem_mem hn, ?_, List.getElem?_eq_getElem hn⟩
  have e := atI_nn hn
  rw [Int.toNat_of_nonneg h0] at e
  with_unfolding_all exact e
end

/-! ### loops -/
/-- a for: I holds of the items that are left -/
theorem for_run {mg : Mg} {mb : Ms} {κ : Kt} (I : List D → Ev → Cells → Prop) (hs : ∀ d ds env S, I (d :: ds) env S → ∃ env1, mg d env = some env1 ∧ RS (mb env1 S) ⟨I ds, κ.nx, I ds, κ.rt, κ.ex⟩) (he : ∀ env S, I [] env S → κ.nx env S) :
    ∀ (ds : List D) (env : Ev) (S : Cells), I ds env S → RS (forL mg mb ds env S) κ
  | [], env, S, h => by with_unfolding_all exact he env S h
  | d :: ds, env, S, h => by
    obtain ⟨env1, e1, h1⟩ := hs d ds env S h
    unfold forL
    rw [e1]
    simp only
    generalize mb env1 S = o at h1
    cases o with
    | nx e S' => with_unfolding_all exact for_run I hs he ds e S' h1
    | ct e S' => with_unfolding_all exact for_run I hs he ds e S' h1
    | bk e S' => with_unfolding_all exact h1
    | ret r S' => with_unfolding_all exact h1
    | ex x e S' => with_unfolding_all exact h1
    | no => with_unfolding_all exact h1
@[simp] theorem rs_for {mi : Ma} {mg : Mg} {mb : Ms} {κ : Kt} {env : Ev} {S : Cells} : RS (sFor mi mg mb env S) κ = RE (mi env S) (fun ds S1 => RS (forL mg mb ds env S1) κ) (fun x S => κ.ex x env S) := by
  unfold sFor
  rw [rs_go]
/-- a comprehension without a test: I holds of the items that are left and of the list so far -/
theorem comp_run {vs : List Nat} {mg : Mg} {mt : Mt} {me : Me} {env : Ev} {P : List D → Cells → Prop} {X : Ex → Cells → Prop} (I : List D → List D → Cells → Prop)
    (hs : ∀ d ds acc S, I (d :: ds) acc S → ∃ env1, mg d (inEnv env vs) = some env1 ∧ RE (mt env1 S) (fun b S1 => if b = true then RE (me env1 S1) (fun y S2 => acc.length < 16777216 ∧ I ds (acc ++ [y]) S2) nf else I ds acc S1) nf) (he : ∀ acc S, I [] acc S → P acc S) :
    ∀ (ds acc : List D) (S : Cells), I ds acc S → RE (compL vs mg mt me env ds acc S) P X
  | [], acc, S, h => by with_unfolding_all exact he acc S h
  | d :: ds, acc, S, h => by
    obtain ⟨env1, e1, h1⟩ := hs d ds acc S h
    unfold compL
    rw [e1]
    simp only
    cases et : mt env1 S with
    | ok b S1 =>
      rw [et] at h1
      cases b with
      | true =>
        simp only [re_ok, if_true] at h1
        simp only
        cases ee : me env1 S1 with
        | ok y S2 =>
          rw [ee] at h1
          simp only [re_ok] at h1
          simp only
          rw [if_pos h1.1]
          with_unfolding_all exact comp_run I hs he ds _ S2 h1.2
        | ex x S2 =>
          rw [ee] at h1
          with_unfolding_all exact h1.elim
        | no =>
          rw [ee] at h1
          with_unfolding_all exact h1.elim
      | false =>
        simp only [re_ok, Bool.false_eq_true, if_false] at h1
        with_unfolding_all exact comp_run I hs he ds acc S1 h1
    | ex x S1 =>
      rw [et] at h1
      with_unfolding_all exact h1.elim
    | no =>
      rw [et] at h1
      with_unfolding_all exact h1.elim
end TT
namespace TT
open PySem PySem.Spec PyProof.Rows L2

/-! ### backward steps -/
def Br (k : Bool) (A B : Prop) : Prop := if k = true then A else B
section
variable {A B : Prop} {k : Bool}
theorem br_t (h : A) : Br true A B := h
theorem br_f (h : B) : Br false A B := h
theorem br_not (h : Br k B A) : Br (!k) A B := by cases k <;> with_unfolding_all exact h
theorem br_dec {p : Prop} [Decidable p] (h1 : p → A) (h2 : ¬p → B) : Br (decide p) A B := by
  unfold Br
  split
  · rename_i h
    with_unfolding_all exact h1 (by simpa using h)
  · rename_i h
    with_unfolding_all exact h2 (by simpa using h)
theorem br_any (h1 : k = true → A) (h2 : k = false → B) : Br k A B := by
  cases k
  · with_unfolding_all exact h2 rfl
  · with_unfolding_all exact h1 rfl
end
def isI (d : D) (p : Int → Prop) : Prop := match d with
  | .int i => p i
  | _ => False
def isS (d : D) (p : List Char → Prop) : Prop := match d with
  | .str i => p i
  | _ => False
def isO (r : Ret) (p : List D → Prop) : Prop := match r with
  | .own i => p i
  | _ => False
def rf (r : Ret) (p : D → Prop) : Prop := p r.fz
theorem isI_i {p : Int → Prop} {i : Int} (h : p i) : isI (.int i) p := h
theorem isS_s {p : List Char → Prop} {i : List Char} (h : p i) : isS (.str i) p := h
theorem isO_o {p : List D → Prop} {i : List D} (h : p i) : isO (.own i) p := h
theorem rf_v {p : D → Prop} {d : D} (h : p d) : rf (.val d) p := h
theorem rf_o {p : D → Prop} {ds : List D} (h : p (.lst ds)) : rf (.own ds) p := h
section
variable {α β : Type} {X : Ex → Cells → Prop} {env : Ev} {S : Cells}
theorem w_ok {P : α → Cells → Prop} {a : α} (h : P a S) : RE (.ok a S) P X := by with_unfolding_all exact h
theorem w_ex {P : α → Cells → Prop} {x : Ex} (h : X x S) : RE (.ex x S : Out α) P X := by with_unfolding_all exact h
theorem w_bind {P : β → Cells → Prop} {o : Out α} {k : α → Cells → Out β} (h : RE o (fun a S => RE (k a S) P X) X) : RE (o.bind k) P X := by
  rw [re_bind]; with_unfolding_all exact h
variable {P : D → Cells → Prop}
theorem w_var {i : Nat} {d : D} (e : env[i]? = some (.val d)) (h : P d S) : RE (dVar i env S) P X := by
  rw [x_var, e]; with_unfolding_all exact h
theorem w_c {d : D} (h : P d S) : RE (dC d env S) P X := by with_unfolding_all exact h
theorem w_un {P : α → Cells → Prop} {f : D → Cells → Out α} {m : Me} (h : RE (m env S) (fun a S => RE (f a S) P X) X) : RE (dUn f m env S) P X := by with_unfolding_all exact w_bind h
theorem w_bin {P : α → Cells → Prop} {f : D → D → Cells → Out α} {m1 m2 : Me} (h : RE (m1 env S) (fun a S => RE (m2 env S) (fun b S => RE (f a b S) P X) X) X) : RE (dBin f m1 m2 env S) P X := by
  rw [x_bin, re_bind]; simp only [re_bind]; with_unfolding_all exact h
theorem w_nil {P : List D → Cells → Prop} (h : P [] S) : RE (aNil env S) P X := by with_unfolding_all exact h
theorem w_cons {P : List D → Cells → Prop} {m : Me} {ma : Ma} (h : RE (m env S) (fun a S => RE (ma env S) (fun ds S => P (a :: ds) S) X) X) : RE (aCons m ma env S) P X := by
  rw [x_cons, re_bind]; simp only [re_bind]; with_unfolding_all exact h
theorem w_args {P : α → Cells → Prop} {f : List D → Cells → Out α} {ma : Ma} (h : RE (ma env S) (fun a S => RE (f a S) P X) X) : RE (dArgs f ma env S) P X := by with_unfolding_all exact w_bind h
theorem w_tB {P : Bool → Cells → Prop} {m : Me} (h : RE (m env S) (fun a S => RE (asB a S) P X) X) : RE (tB m env S) P X := by with_unfolding_all exact w_bind h
theorem w_asB {P : Bool → Cells → Prop} {b : Bool} (h : P b S) : RE (asB (.bl b) S) P X := by with_unfolding_all exact h
theorem re_br {P : α → Cells → Prop} {k : Bool} {o o' : Out α} (h : Br k (RE o P X) (RE o' P X)) : RE (if k = true then o else o') P X := by
  cases k <;> with_unfolding_all exact h
theorem rs_br {κ : Kt} {k : Bool} {o o' : SOut} (h : Br k (RS o κ) (RS o' κ)) : RS (if k = true then o else o') κ := by
  cases k <;> with_unfolding_all exact h
theorem w_and {P : Bool → Cells → Prop} {a b : Mt} (h : RE (a env S) (fun c S => Br c (RE (b env S) P X) (P false S)) X) : RE (mAnd a b env S) P X := by
  rw [x_mAnd, re_bind]; with_unfolding_all exact h.mono (fun c S h => re_br h) fun _ _ h => h
theorem w_or {P : Bool → Cells → Prop} {a b : Mt} (h : RE (a env S) (fun c S => Br c (P true S) (RE (b env S) P X)) X) : RE (mOr a b env S) P X := by
  rw [x_mOr, re_bind]; with_unfolding_all exact h.mono (fun c S h => re_br h) fun _ _ h => h
theorem w_mNot {P : Bool → Cells → Prop} {a : Mt} (h : RE (a env S) (fun c S => P (!c) S) X) : RE (mNot a env S) P X := by
  rw [x_mNot, re_bind]; with_unfolding_all exact h
theorem w_dif {c : Mt} {a b : Me} (h : RE (c env S) (fun k S => Br k (RE (a env S) P X) (RE (b env S) P X)) X) : RE (dIf c a b env S) P X := by
  rw [x_dIf, re_bind]; with_unfolding_all exact h.mono (fun c S h => re_br h) fun _ _ h => h
theorem w_dand {a b : Me} (h : RE (a env S) (fun d S => RE (asB d S) (fun c S => Br c (RE (b env S) P X) (P (.bl false) S)) X) X) : RE (dAnd a b env S) P X := by
  rw [x_dAnd, re_bind]; refine h.mono (fun c S h => ?_) fun _ _ h => h
  rw [re_bind]; with_unfolding_all exact h.mono (fun c S h => re_br h) fun _ _ h => h
theorem w_dor {a b : Me} (h : RE (a env S) (fun d S => RE (asB d S) (fun c S => Br c (P (.bl true) S) (RE (b env S) P X)) X) X) : RE (dOr a b env S) P X := by
  rw [x_dOr, re_bind]; refine h.mono (fun c S h => ?_) fun _ _ h => h
  rw [re_bind]; with_unfolding_all exact h.mono (fun c S h => re_br h) fun _ _ h => h
theorem w_dnot {a : Me} (h : RE (a env S) (fun d S => RE (asB d S) (fun c S => P (.bl (!c)) S) X) X) : RE (dNot a env S) P X := by
  rw [x_dNot, re_bind]; refine h.mono (fun c S h => ?_) fun _ _ h => h
  rw [re_bind]; with_unfolding_all exact h
theorem w_pno {P : Option Int → Cells → Prop} (h : P none S) : RE (pNone env S) P X := by with_unfolding_all exact h
theorem w_pso {P : Option Int → Cells → Prop} {m : Me} (h : RE (m env S) (fun d S => isI d fun i => P (some i) S) X) : RE (pSome m env S) P X := by
  rw [x_pSome, re_bind]; refine h.mono (fun d S h => ?_) fun _ _ h => h
  cases d <;> with_unfolding_all exact h
theorem w_tup {ma : Ma} (h : RE (ma env S) (fun ds S => ds.length ≤ 16777216 ∧ P (.tup ds) S) X) : RE (dTup ma env S) P X := by
  rw [x_tup, re_bind]; refine h.mono (fun d S h => ?_) fun _ _ h => h
  rw [if_pos h.1]; with_unfolding_all exact h.2
theorem w_lst {P : List D → Cells → Prop} {ma : Ma} (h : RE (ma env S) (fun ds S => ds.length ≤ 16777216 ∧ P ds S) X) : RE (oLst ma env S) P X := by
  rw [x_lst, re_bind]; refine h.mono (fun d S h => ?_) fun _ _ h => h
  rw [if_pos h.1]; with_unfolding_all exact h.2
theorem w_fz {mo : Ma} (h : RE (mo env S) (fun ds S => P (.lst ds) S) X) : RE (dFz mo env S) P X := by
  rw [x_fz, re_bind]; with_unfolding_all exact h
theorem w_sl {P : α → Cells → Prop} {f : D → Option Int → Option Int → Cells → Out α} {m : Me} {lo hi : Ev → Cells → Out (Option Int)} (h : RE (m env S) (fun a S => RE (lo env S) (fun l S => RE (hi env S) (fun h S => RE (f a l h S) P X) X) X) X) : RE (dSl f m lo hi env S) P X := by
  rw [x_sl]; simp only [re_bind]; with_unfolding_all exact h
theorem w_def0 {P : List D → Cells → Prop} {ma : Ma} (h : RE (ma env S) P X) : RE (aDef ma [] env S) P X := by
  rw [x_def, re_bind]; simpa using h
theorem w_def {P : List D → Cells → Prop} {ma : Ma} {dds : List D} (h : RE (ma env S) (fun ds S => P (ds ++ dds) S) X) : RE (aDef ma dds env S) P X := by
  rw [x_def, re_bind]; with_unfolding_all exact h
theorem w_kw {P : List D → Cells → Prop} {n m : Nat} {ix : List Nat} {ma mk : Ma} (h : RE (ma env S) (fun ds S => RE (mk env S) (fun es S => (ds.length = n ∧ es.length = m) ∧ P (sel ix (ds ++ es)) S) X) X) : RE (aKw n m ix ma mk env S) P X := by
  rw [x_kw]; simp only [re_bind]; refine h.mono (fun d S h => ?_) fun _ _ h => h
  refine h.mono (fun d S h => ?_) fun _ _ h => h
  rw [if_pos h.1]; with_unfolding_all exact h.2
theorem w_call {mf : Mf} {ma : Ma} (h : RE (ma env S) (fun ds S => RE (mf ds S) (fun r S => rf r fun d => P d S) X) X) : RE (dCall mf ma env S) P X := by
  rw [x_call]; simp only [re_bind]; with_unfolding_all exact h
theorem w_oCall {P : List D → Cells → Prop} {mf : Mf} {ma : Ma} (h : RE (ma env S) (fun ds S => RE (mf ds S) (fun r S => isO r fun d => P d S) X) X) : RE (oCall mf ma env S) P X := by
  rw [x_oCall]; simp only [re_bind]; refine h.mono (fun d S h => ?_) fun _ _ h => h
  refine h.mono (fun d S h => ?_) fun _ _ h => h
  cases d <;> with_unfolding_all exact h
theorem w_callP {mf : Mf} {ma : Ma} (h : RE (ma env S) (fun ds S => RE (pureOf (mf ds []) S) (fun r S => rf r fun d => P d S) X) X) : RE (dCallP mf ma env S) P X := by
  rw [x_callP]; simp only [re_bind]; with_unfolding_all exact h
theorem w_oCallP {P : List D → Cells → Prop} {mf : Mf} {ma : Ma} (h : RE (ma env S) (fun ds S => RE (pureOf (mf ds []) S) (fun r S => isO r fun d => P d S) X) X) : RE (oCallP mf ma env S) P X := by
  rw [x_oCallP]; simp only [re_bind]; refine h.mono (fun d S h => ?_) fun _ _ h => h
  refine h.mono (fun d S h => ?_) fun _ _ h => h
  cases d <;> with_unfolding_all exact h
theorem w_pure {P : α → Cells → Prop} {o : Out α} (h : RE o (fun a _ => P a S) (fun x _ => X x S)) : RE (pureOf o S) P X := by with_unfolding_all exact re_pure h
theorem w_ixO {i : Nat} {m : Me} {ds : List D} (e : env[i]? = some (.own ds)) (h : RE (m env S) (fun b S => isI b fun j => RE (atO (L2.atI ds j) id S) P X) X) : RE (dIxO i m env S) P X := by
  rw [x_ixO, e]; simp only [re_bind]; refine h.mono (fun d S h => ?_) fun _ _ h => h
  cases d with
  | int j =>
    replace h : RE (atO (L2.atI ds j) id S) P X := h
    simp only
    cases e : L2.atI ds j with
    | none => rw [e] at h; with_unfolding_all exact h
    | some x => rw [e] at h; with_unfolding_all exact h
  | _ => with_unfolding_all exact h
theorem w_lenO {i : Nat} {ds : List D} (e : env[i]? = some (.own ds)) (h : P (.int (ds.length : Int)) S) : RE (dLenO i env S) P X := by
  rw [x_lenO, e]; with_unfolding_all exact h
theorem w_meS {f : List Char → List D → Cells → Out D} {m : Me} {ma : Ma} (h : RE (m env S) (fun d S => isS d fun x => RE (ma env S) (fun ds S => RE (f x ds S) P X) X) X) : RE (dMeS f m ma env S) P X := by
  rw [x_meS]; simp only [re_bind]; refine h.mono (fun d S h => ?_) fun _ _ h => h
  cases d with
  | str x =>
    simp only [re_bind]; with_unfolding_all exact h
  | _ => with_unfolding_all exact h
theorem w_lNil {P : List (D ⊕ Nat) → Cells → Prop} (h : P [] S) : RE (lNil env S) P X := by with_unfolding_all exact h
theorem w_lVal {P : List (D ⊕ Nat) → Cells → Prop} {m : Me} {mk : Mk} (h : RE (m env S) (fun d S => RE (mk env S) (fun l S => P (.inl d :: l) S) X) X) : RE (lVal m mk env S) P X := by
  rw [x_lVal]; simp only [re_bind]; with_unfolding_all exact h
theorem w_lOwn {P : List (D ⊕ Nat) → Cells → Prop} {i : Nat} {ds : List D} {mk : Mk} (e : env[i]? = some (.own ds)) (h : RE (mk env S) (fun l S => P (.inr i :: l) S) X) : RE (lOwn i mk env S) P X := by
  rw [x_lOwn, e]; simp only [re_bind]; with_unfolding_all exact h
/-- a lent call: the answer is flat -/
def lendP (env : Ev) (S : Cells) (mf : Mf) (l : List (D ⊕ Nat)) (P : D → Cells → Prop) : Prop := ∃ ds, lent env l = some ds ∧ RE (mf ds []) (fun r _ => ∃ d, r = .val d ∧ flatD d = true ∧ P d S) nf
theorem w_lend {mf : Mf} {mk : Mk} (h : RE (mk env S) (fun l S => lendP env S mf l P) X) : RE (dLend mf mk env S) P X := by
  rw [x_lend]; simp only [re_bind]; refine h.mono (fun d S h => ?_) fun _ _ h => h
  obtain ⟨ds, e, h⟩ := h
  rw [e]
  simp only
  generalize mf ds [] = o at h
  cases o with
  | ok r S =>
    rw [re_ok] at h
    obtain ⟨d, rfl, hf, h⟩ := h
    simp only
    rw [if_pos hf]; with_unfolding_all exact h
  | _ => with_unfolding_all exact h
theorem w_lendP {mf : Mf} {l : List (D ⊕ Nat)} {ds : List D} (e : lent env l = some ds) (h : RE (mf ds []) (fun r _ => ∃ d, r = .val d ∧ flatD d = true ∧ P d S) nf) : lendP env S mf l P := ⟨ds, e, h⟩
theorem w_comp {P : List D → Cells → Prop} {vs : List Nat} {mi : Ma} {mg : Mg} {mt : Mt} {me : Me} (h : RE (mi env S) (fun ds S => RE (compL vs mg mt me env ds [] S) P X) X) : RE (oComp vs mi mg mt me env S) P X := by
  rw [x_comp]; simp only [re_bind]; with_unfolding_all exact h
theorem w_yes {P : Bool → Cells → Prop} (h : P true S) : RE (mYes env S) P X := by with_unfolding_all exact h
-- operations
theorem w_add_i {i j : Int} (h : P (.int (i + j)) S) : RE (opAdd (.int i) (.int j) S) P X := by with_unfolding_all exact h
theorem w_add_s {x y : List Char} (g : x.length + y.length ≤ 16777216) (h : P (.str (x ++ y)) S) : RE (opAdd (.str x) (.str y) S) P X := by rw [v_add_s, if_pos g]; with_unfolding_all exact h
theorem w_add_l {x y : List D} (g : x.length + y.length ≤ 16777216) (h : P (.lst (x ++ y)) S) : RE (opAdd (.lst x) (.lst y) S) P X := by rw [v_add_l, if_pos g]; with_unfolding_all exact h
theorem w_add_t {x y : List D} (g : x.length + y.length ≤ 16777216) (h : P (.tup (x ++ y)) S) : RE (opAdd (.tup x) (.tup y) S) P X := by rw [v_add_t, if_pos g]; with_unfolding_all exact h
theorem w_cat_l {P : List D → Cells → Prop} {x y : List D} (g : x.length + y.length ≤ 16777216) (h : P (x ++ y) S) : RE (opCat (.lst x) (.lst y) S) P X := by rw [v_cat_l, if_pos g]; with_unfolding_all exact h
theorem w_sub {i j : Int} (h : P (.int (i - j)) S) : RE (opSub (.int i) (.int j) S) P X := by with_unfolding_all exact h
theorem mulOk_l {i j : Int} (h : i.natAbs < 18446744073709551616) : mulOk i j = true := by simp [mulOk, h]
theorem mulOk_r {i j : Int} (h : j.natAbs < 18446744073709551616) : mulOk i j = true := by simp [mulOk, h]
theorem w_mul_i {i j : Int} (g : mulOk i j = true) (h : P (.int (i * j)) S) : RE (opMul (.int i) (.int j) S) P X := by rw [v_mul_i, if_pos g]; with_unfolding_all exact h
theorem w_mul_s {x : List Char} {n : Int} (g : -9223372036854775808 ≤ n ∧ n < 9223372036854775808 ∧ x.length * n.toNat ≤ 16777216) (h : P (.str (List.replicate n.toNat x).flatten) S) : RE (opMul (.str x) (.int n) S) P X := by rw [v_mul_s, if_pos g]; with_unfolding_all exact h
theorem w_mul_l {x : List D} {n : Int} (g : -9223372036854775808 ≤ n ∧ n < 9223372036854775808 ∧ x.length * n.toNat ≤ 16777216) (h : P (.lst (List.replicate n.toNat x).flatten) S) : RE (opMul (.lst x) (.int n) S) P X := by rw [v_mul_l, if_pos g]; with_unfolding_all exact h
theorem w_mod {i j : Int} (g : 0 < j) (h : P (.int (i % j)) S) : RE (opMod (.int i) (.int j) S) P X := by rw [v_mod, if_pos g]; with_unfolding_all exact h
theorem w_fdiv {i j : Int} (g : divOk j = true) (h : P (.int (i / j)) S) : RE (opFDiv (.int i) (.int j) S) P X := by rw [v_fdiv, if_pos g]; with_unfolding_all exact h
theorem divOk_s {j : Int} (h0 : 0 < j) (h : j < 9223372036854775808) : divOk j = true := by
  have h1 : j.natAbs < 2 ^ 63 := by omega
  have h2 : j.natAbs.log2 < 63 := by
    rw [Nat.log2_lt (by omega)]; with_unfolding_all exact h1
  simp [divOk, h0]; omega
theorem w_pow {i j : Int} (g : 0 ≤ j ∧ j ≤ 1000000 ∧ i.natAbs < 18446744073709551616) (h : P (.int (i ^ j.toNat)) S) : RE (opPow (.int i) (.int j) S) P X := by rw [v_pow, if_pos g]; with_unfolding_all exact h
theorem w_neg {i : Int} (h : P (.int (-i)) S) : RE (opNeg (.int i) S) P X := by with_unfolding_all exact h
theorem w_lt_i {i j : Int} (h : P (.bl (decide (i < j))) S) : RE (opLt (.int i) (.int j) S) P X := by with_unfolding_all exact h
theorem w_le_i {i j : Int} (h : P (.bl (decide (i ≤ j))) S) : RE (opLe (.int i) (.int j) S) P X := by with_unfolding_all exact h
theorem w_gt_i {i j : Int} (h : P (.bl (decide (j < i))) S) : RE (opGt (.int i) (.int j) S) P X := by with_unfolding_all exact h
theorem w_ge_i {i j : Int} (h : P (.bl (decide (j ≤ i))) S) : RE (opGe (.int i) (.int j) S) P X := by with_unfolding_all exact h
theorem w_is {a : D} (h : P (.bl (isNon a)) S) : RE (opIs a .non S) P X := by with_unfolding_all exact h
theorem w_isnot {a : D} (h : P (.bl (!isNon a)) S) : RE (opIsNot a .non S) P X := by with_unfolding_all exact h
theorem w_eq_i {i j : Int} (h : P (.bl (decide (i = j))) S) : RE (opEq (.int i) (.int j) S) P X := by rw [v_eq_i]; with_unfolding_all exact h
theorem w_eq_s {i j : List Char} (h : P (.bl (decide (i = j))) S) : RE (opEq (.str i) (.str j) S) P X := by rw [v_eq_s]; with_unfolding_all exact h
theorem w_eq_b {i j : Bool} (h : P (.bl (i == j)) S) : RE (opEq (.bl i) (.bl j) S) P X := by rw [v_eq_b]; with_unfolding_all exact h
theorem w_ne_i {i j : Int} (h : P (.bl (!decide (i = j))) S) : RE (opNe (.int i) (.int j) S) P X := by rw [v_ne_i]; with_unfolding_all exact h
theorem w_ne_s {i j : List Char} (h : P (.bl (!decide (i = j))) S) : RE (opNe (.str i) (.str j) S) P X := by rw [v_ne_s]; with_unfolding_all exact h
theorem w_ix_s {x : List Char} {i : Int} (g : x.length ≤ 16777216) (h : RE (atO (L2.atI x i) (fun c => .str [c]) S) P X) : RE (opIx (.str x) (.int i) S) P X := by rw [v_ix_s, if_pos g]; with_unfolding_all exact h
theorem w_ix_t {x : List D} {i : Int} (h : RE (atO (L2.atI x i) id S) P X) : RE (opIx (.tup x) (.int i) S) P X := by with_unfolding_all exact h
theorem w_ix_l {x : List D} {i : Int} (h : RE (atO (L2.atI x i) id S) P X) : RE (opIx (.lst x) (.int i) S) P X := by with_unfolding_all exact h
theorem w_ix_c {n : Nat} {ds : List D} {i : Int} (e : S[n]? = some ds) (h : RE (atO (L2.atI ds i) id S) P X) : RE (opIx (.cell n) (.int i) S) P X := by rw [v_ix_c, e]; with_unfolding_all exact h
theorem w_at_r {f : α → D} {o : Option α} {x : α} (e : o = some x) (h : P (f x) S) : RE (atO o f S) P X := by rw [e]; with_unfolding_all exact h
theorem w_at_rd {o : Option D} {x : D} (e : o = some x) (h : P x S) : RE (atO o id S) P X := by rw [e]; with_unfolding_all exact h
theorem w_at {f : α → D} {l : List α} {i : Int} (g : 0 ≤ i ∧ i < l.length) (h : ∀ x, x ∈ l → l[i.toNat]? = some x → P (f x) S) : RE (atO (L2.atI l i) f S) P X := by
  obtain ⟨x, h1, h2, h3⟩ := atI_of g.1 g.2
  rw [h2]; with_unfolding_all exact h x h1 h3
theorem w_at_d {l : List D} {i : Int} (g : 0 ≤ i ∧ i < l.length) (h : ∀ x, x ∈ l → l[i.toNat]? = some x → P x S) : RE (atO (L2.atI l i) id S) P X := by with_unfolding_all exact w_at g h
theorem w_sl_s {x : List Char} {l u : Option Int} (g : x.length ≤ 16777216) (h : P (.str (cut x l u)) S) : RE (opSl (.str x) l u S) P X := by rw [v_sl_s, if_pos g]; with_unfolding_all exact h
theorem w_sl_l {x : List D} {l u : Option Int} (h : P (.lst (cut x l u)) S) : RE (opSl (.lst x) l u S) P X := by with_unfolding_all exact h
theorem w_sl_t {x : List D} {l u : Option Int} (h : P (.tup (cut x l u)) S) : RE (opSl (.tup x) l u S) P X := by with_unfolding_all exact h
theorem w_slO_l {P : List D → Cells → Prop} {x : List D} {l u : Option Int} (h : P (cut x l u) S) : RE (opSlO (.lst x) l u S) P X := by with_unfolding_all exact h
theorem w_len_s {x : List Char} (g : x.length ≤ 16777216) (h : P (.int (x.length : Int)) S) : RE (fLen [.str x] S) P X := by rw [v_len_s, if_pos g]; with_unfolding_all exact h
theorem w_len_l {x : List D} (h : P (.int (x.length : Int)) S) : RE (fLen [.lst x] S) P X := by with_unfolding_all exact h
theorem w_len_f {x : List D} (h : P (.int (x.length : Int)) S) : RE (fLen [.frl x] S) P X := by with_unfolding_all exact h
theorem w_len_t {x : List D} (h : P (.int (x.length : Int)) S) : RE (fLen [.tup x] S) P X := by with_unfolding_all exact h
theorem w_abs {i : Int} (h : P (.int (if i < 0 then -i else i)) S) : RE (fAbs [.int i] S) P X := by with_unfolding_all exact h
theorem w_int {i : Int} (h : P (.int i) S) : RE (fInt [.int i] S) P X := by with_unfolding_all exact h
theorem w_2i {g : Int → Int → Int} {i j : Int} (h : P (.int (g i j)) S) : RE (f2I g [.int i, .int j] S) P X := by with_unfolding_all exact h
theorem w_list_l {P : List D → Cells → Prop} {x : List D} (h : P x S) : RE (fList [.lst x] S) P X := by with_unfolding_all exact h
theorem w_list_t {P : List D → Cells → Prop} {x : List D} (h : P x S) : RE (fList [.tup x] S) P X := by with_unfolding_all exact h
theorem w_it_l {P : List D → Cells → Prop} {x : List D} (h : P x S) : RE (itemsOf (.lst x) S) P X := by with_unfolding_all exact h
theorem w_it_f {P : List D → Cells → Prop} {x : List D} (h : P x S) : RE (itemsOf (.frl x) S) P X := by with_unfolding_all exact h
theorem w_it_t {P : List D → Cells → Prop} {x : List D} (h : P x S) : RE (itemsOf (.tup x) S) P X := by with_unfolding_all exact h
theorem w_it_s {P : List D → Cells → Prop} {x : List Char} (h : P (x.map fun c => .str [c]) S) : RE (itemsOf (.str x) S) P X := by with_unfolding_all exact h
theorem w_rg1 {P : List D → Cells → Prop} {j : Int} (g : -4611686018427387904 ≤ j ∧ j < 4611686018427387904) (h : P (rgD 0 j.toNat) S) : RE (iRange1 [.int j] S) P X := by rw [v_rg1, if_pos g]; with_unfolding_all exact h
theorem w_rg2 {P : List D → Cells → Prop} {i j : Int} (g : -4611686018427387904 ≤ i ∧ i < 4611686018427387904 ∧ -4611686018427387904 ≤ j ∧ j < 4611686018427387904) (h : P (rgD i (j - i).toNat) S) : RE (iRange2 [.int i, .int j] S) P X := by rw [v_rg2, if_pos g]; with_unfolding_all exact h
theorem w_find3 {x y : List Char} {i : Int} (h : P (.int (PySem.Txt.find3 (cps x) (cps y) i)) S) : RE (fFind3 x [.str y, .int i] S) P X := by with_unfolding_all exact h
theorem w_isi {d : D} {t : String} {b : Bool} (e : isiB d t = some b) (g : cellOk d S = true) (h : P (.bl b) S) : RE (fIsi [d, .ty t] S) P X := by rw [v_isi, if_pos g, e]; with_unfolding_all exact h
theorem w_join {x : List Char} {es : List D} {ys : List (List Char)} (e : strsD es = some ys) (g : (ys.map List.length).sum + ys.length * x.length ≤ 16777216) (h : P (.str (joinC x ys)) S) : RE (fJoin x [.lst es] S) P X := by
  show RE (match strsD es with
      | some ys => if (ys.map List.length).sum + ys.length * x.length ≤ 16777216 then Out.ok (D.str (joinC x ys)) S else .no
      | none => .no) P X
  rw [e]; simp only; rw [if_pos g]; with_unfolding_all exact h
end

/-! ### statements -/
section
variable {env : Ev} {S : Cells} {N B C : Ev → Cells → Prop} {T : Ret → Cells → Prop} {Z : Ex → Ev → Cells → Prop}
theorem s_seq {a b : Ms} (h : RS (a env S) ⟨fun e S => RS (b e S) ⟨N, B, C, T, Z⟩, B, C, T, Z⟩) : RS (sSeq a b env S) ⟨N, B, C, T, Z⟩ := by rw [rs_seq]; with_unfolding_all exact h
/-- a cut behind a statement -/
theorem s_cut {a b : Ms} (I : Ev → Cells → Prop) (h : RS (a env S) ⟨I, B, C, T, Z⟩) (h2 : ∀ e S, I e S → RS (b e S) ⟨N, B, C, T, Z⟩) : RS (sSeq a b env S) ⟨N, B, C, T, Z⟩ :=
  s_seq (h.mono h2 (fun _ _ h => h) (fun _ _ h => h) (fun _ _ h => h) fun _ _ _ h => h)
theorem s_nil (h : N env S) : RS (sNil env S) ⟨N, B, C, T, Z⟩ := by with_unfolding_all exact h
theorem s_brk (h : B env S) : RS (sBrk env S) ⟨N, B, C, T, Z⟩ := by with_unfolding_all exact h
theorem s_cnt (h : C env S) : RS (sCnt env S) ⟨N, B, C, T, Z⟩ := by with_unfolding_all exact h
theorem s_exp {m : Me} (h : RE (m env S) (fun _ S => N env S) (fun x S => Z x env S)) : RS (sExp m env S) ⟨N, B, C, T, Z⟩ := by rw [rs_exp]; with_unfolding_all exact h
theorem s_rt {m : Me} (h : RE (m env S) (fun d S => T (.val d) S) (fun x S => Z x env S)) : RS (sRet m env S) ⟨N, B, C, T, Z⟩ := by rw [rs_rt]; with_unfolding_all exact h
theorem s_rtO {m : Ma} (h : RE (m env S) (fun d S => T (.own d) S) (fun x S => Z x env S)) : RS (sRetO m env S) ⟨N, B, C, T, Z⟩ := by rw [rs_rtO]; with_unfolding_all exact h
theorem s_rtN (h : T (.val .non) S) : RS (sRetN env S) ⟨N, B, C, T, Z⟩ := by with_unfolding_all exact h
theorem s_rtVo {i : Nat} {ds : List D} (e : env[i]? = some (.own ds)) (h : T (.own ds) S) : RS (sRetV i env S) ⟨N, B, C, T, Z⟩ := by rw [rs_rtV, e]; with_unfolding_all exact h
theorem s_rtVv {i : Nat} {d : D} (e : env[i]? = some (.val d)) (h : T (.val d) S) : RS (sRetV i env S) ⟨N, B, C, T, Z⟩ := by rw [rs_rtV, e]; with_unfolding_all exact h
theorem s_if {c : Mt} {a b : Ms} (h : RE (c env S) (fun k S => Br k (RS (a env S) ⟨N, B, C, T, Z⟩) (RS (b env S) ⟨N, B, C, T, Z⟩)) (fun x S => Z x env S)) : RS (sIf c a b env S) ⟨N, B, C, T, Z⟩ := by rw [rs_if]; with_unfolding_all exact h
theorem s_set {i : Nat} {m : Me} (h : RE (m env S) (fun d S => N (env.set i (.val d)) S) (fun x S => Z x env S)) : RS (sSet i m env S) ⟨N, B, C, T, Z⟩ := by rw [rs_set]; with_unfolding_all exact h
theorem s_setO {i : Nat} {m : Ma} (h : RE (m env S) (fun d S => N (env.set i (.own d)) S) (fun x S => Z x env S)) : RS (sSetO i m env S) ⟨N, B, C, T, Z⟩ := by rw [rs_setO]; with_unfolding_all exact h
theorem s_frz {i : Nat} {m : Ms} {ds : List D} (e : env[i]? = some (.own ds)) (h : RS (m (env.set i (.val (.lst ds))) S) ⟨N, B, C, T, Z⟩) : RS (sFrz i m env S) ⟨N, B, C, T, Z⟩ := by rw [rs_frz, e]; with_unfolding_all exact h
theorem s_app {i : Nat} {m : Me} {ds : List D} (e : env[i]? = some (.own ds)) (h : RE (m env S) (fun d S => ds.length < 16777216 ∧ N (env.set i (.own (ds ++ [d]))) S) (fun x S => Z x env S)) : RS (sApp i m env S) ⟨N, B, C, T, Z⟩ := by rw [rs_app, e]; with_unfolding_all exact h
theorem s_putO {i : Nat} {mj me : Me} {ds : List D} (e : env[i]? = some (.own ds)) (h : RE (me env S) (fun d S => RE (mj env S) (fun j S => isI j fun k => ∃ n, ixN ds.length k = some n ∧ N (env.set i (.own (ds.set n d))) S) (fun x S => Z x env S)) (fun x S => Z x env S)) : RS (sPutO i mj me env S) ⟨N, B, C, T, Z⟩ := by
  rw [rs_putO]; refine h.mono (fun d S h => ?_) fun _ _ h => h
  rw [e]; simp only; refine h.mono (fun j S h => ?_) fun _ _ h => h
  cases j with
  | int k => obtain ⟨n, e1, h⟩ := h; simp only; rw [e1]; with_unfolding_all exact h
  | _ => with_unfolding_all exact h
def putP (o j d : D) (S : Cells) (N : Cells → Prop) : Prop := match o, j with
  | .cell c, .int k => ∃ ds n, S[c]? = some ds ∧ ixN ds.length k = some n ∧ N (S.set c (ds.set n d))
  | _, _ => False
theorem s_putC {mo mj me : Me} (h : RE (me env S) (fun d S => RE (mo env S) (fun o S => RE (mj env S) (fun j S => putP o j d S fun S => N env S) (fun x S => Z x env S)) (fun x S => Z x env S)) (fun x S => Z x env S)) : RS (sPutC mo mj me env S) ⟨N, B, C, T, Z⟩ := by
  rw [rs_putC]; refine h.mono (fun d S h => ?_) fun _ _ h => h
  refine h.mono (fun o S h => ?_) fun _ _ h => h
  refine h.mono (fun j S h => ?_) fun _ _ h => h
  cases o with
  | cell c =>
    cases j with
    | int k => obtain ⟨ds, n, e1, e2, h⟩ := h; simp only; rw [e1]; simp only; rw [e2]; with_unfolding_all exact h
    | _ => with_unfolding_all exact h
  | _ => with_unfolding_all exact h
theorem w_put {c n : Nat} {ds : List D} {k : Int} {d : D} {N : Cells → Prop} {S' : Cells} (e : S[c]? = some ds) (e2 : ixN ds.length k = some n) (e3 : S.set c (ds.set n d) = S') (h : N S') : putP (.cell c) (.int k) d S N := ⟨ds, n, e, e2, e3 ▸ h⟩
theorem s_for {mi : Ma} {mg : Mg} {mb : Ms} (h : RE (mi env S) (fun ds S => RS (forL mg mb ds env S) ⟨N, B, C, T, Z⟩) (fun x S => Z x env S)) : RS (sFor mi mg mb env S) ⟨N, B, C, T, Z⟩ := by rw [rs_for]; with_unfolding_all exact h
theorem s_prom {i : Nat} {mo : Ma} {mr : Ms} (h : RE (mo env S) (fun ds S => S = [] ∧ (env.all clf = true ∧ noCs ds = true) ∧ RS (mr (env.set i (.val (.cell 0))) [ds]) ⟨nf, nf, nf, fun r _ => ∃ d, r = .val d ∧ flatD d = true ∧ T (.val d) [], fun x e S => False⟩) (fun x S => Z x env S)) : RS (sProm i mo mr env S) ⟨N, B, C, T, Z⟩ := by
  unfold sProm
  rw [rs_go]
  refine h.mono (fun ds S h => ?_) fun _ _ h => h
  obtain ⟨rfl, g, h⟩ := h
  simp only
  rw [if_pos g]
  generalize mr (env.set i (.val (.cell 0))) [ds] = o at h
  cases o with
  | ret r S =>
    rw [rs_ret] at h
    obtain ⟨d, rfl, hf, h⟩ := h
    simp only
    rw [if_pos hf]; with_unfolding_all exact h
  | _ => with_unfolding_all exact h.elim
end
theorem w_fn {n N : Nat} {body : Ms} {ds : List D} {S : Cells} {P : Ret → Cells → Prop} {X : Ex → Cells → Prop} {env : Ev} (e : ds.length = n) (e2 : ds.map .val ++ List.replicate (N - n) .no = env) (h : RS (body env S) ⟨fun _ S => P (.val .non) S, nf, nf, P, fun x _ S => X x S⟩) : RE (fnM n N body ds S) P X := by
  rw [re_fn, e2]; with_unfolding_all exact ⟨e, h⟩
theorem re_out {o : Out Ret} {d : D} (h : RE o (fun r _ => r = .val d) nf) : ∃ S, o = .ok (.val d) S := by
  cases o with
  | ok r S => with_unfolding_all exact ⟨S, by rw [show r = .val d from h]⟩
  | _ => with_unfolding_all exact h.elim
end TT
namespace TT
open PySem PySem.Spec PyProof.Rows L2

/-! ### loops over a range -/
theorem rgD_len (lo : Int) (n : Nat) : (rgD lo n).length = n := by simp [rgD]
theorem rgD_cons (lo : Int) (k m : Nat) : (List.range' k (m + 1)).map (fun (i : Nat) => D.int (lo + (i : Int))) = .int (lo + (k : Int)) :: (List.range' (k + 1) m).map (fun (i : Nat) => D.int (lo + (i : Int))) := by
  rw [List.range'_succ]; with_unfolding_all rfl
theorem rgD_eq (lo : Int) (n : Nat) : rgD lo n = (List.range' 0 n).map (fun (i : Nat) => D.int (lo + (i : Int))) := by
  rw [← List.range_eq_range']; with_unfolding_all rfl
section
variable {env : Ev} {S : Cells} {N B C : Ev → Cells → Prop} {T : Ret → Cells → Prop} {Z : Ex → Ev → Cells → Prop} {mg : Mg} {mb : Ms}
theorem for_rg {lo : Int} {n : Nat} (I : Nat → Ev → Cells → Prop) (h0 : I 0 env S) (hs : ∀ k env S, k < n → I k env S → ∃ env1, mg (.int (lo + (k : Int))) env = some env1 ∧ RS (mb env1 S) ⟨I (k + 1), N, I (k + 1), T, Z⟩) (he : ∀ env S, I n env S → N env S) :
    RS (forL mg mb (rgD lo n) env S) ⟨N, B, C, T, Z⟩ := by
  refine for_run (fun ds env S => ∃ k, k ≤ n ∧ ds = (List.range' k (n - k)).map (fun (i : Nat) => D.int (lo + (i : Int))) ∧ I k env S) ?_ ?_ _ _ _ ⟨0, Nat.zero_le _, rgD_eq _ _, h0⟩
  · rintro d ds env S ⟨k, hk, e, hI⟩
    have hlt : k < n := by
      rcases Nat.lt_or_ge k n with h | h
      · with_unfolding_all exact h
      · have e0 : n - k = 0 := by omega
        rw [e0] at e; with_unfolding_all exact nomatch e
    obtain ⟨m, hm⟩ : ∃ m, n - k = m + 1 := ⟨n - k - 1, by omega⟩
    rw [hm, rgD_cons] at e
    injection e with e1 e2
    subst e1 e2
    obtain ⟨env1, e3, h⟩ := hs k env S hlt hI
    have em : m = n - (k + 1) := by omega
    refine ⟨env1, e3, h.mono (fun _ _ h => ⟨k + 1, hlt, by rw [em], h⟩) (fun _ _ h => h) (fun _ _ h => ⟨k + 1, hlt, by rw [em], h⟩) (fun _ _ h => h) (fun _ _ _ h => h)⟩
  · rintro env S ⟨k, hk, e, hI⟩
    have e1 := congrArg List.length e
    simp at e1
    have : k = n := by omega
    subst this
    with_unfolding_all exact he _ _ hI
theorem for_mem {ds : List D} (I : Ev → Cells → Prop) (h0 : I env S) (hs : ∀ d env S, d ∈ ds → I env S → ∃ env1, mg d env = some env1 ∧ RS (mb env1 S) ⟨I, N, I, T, Z⟩) (he : ∀ env S, I env S → N env S) :
    RS (forL mg mb ds env S) ⟨N, B, C, T, Z⟩ := by
  refine for_run (fun es env S => (∀ d, d ∈ es → d ∈ ds) ∧ I env S) ?_ ?_ _ _ _ ⟨fun _ h => h, h0⟩
  · rintro d es env S ⟨hm, hI⟩
    obtain ⟨env1, e3, h⟩ := hs d env S (hm d (List.mem_cons_self ..)) hI
    have hm' : ∀ e, e ∈ es → e ∈ ds := fun e he => hm e (List.mem_cons_of_mem _ he)
    with_unfolding_all exact ⟨env1, e3, h.mono (fun _ _ h => ⟨hm', h⟩) (fun _ _ h => h) (fun _ _ h => ⟨hm', h⟩) (fun _ _ h => h) (fun _ _ _ h => h)⟩
  · rintro env S ⟨_, hI⟩
    with_unfolding_all exact he _ _ hI
/-- with the items that are done and those that are left -/
theorem for_at {ds : List D} (I : List D → List D → Ev → Cells → Prop) (h0 : I [] ds env S) (hs : ∀ a d b env S, ds = a ++ d :: b → I a (d :: b) env S → ∃ env1, mg d env = some env1 ∧ RS (mb env1 S) ⟨I (a ++ [d]) b, N, I (a ++ [d]) b, T, Z⟩) (he : ∀ env S, I ds [] env S → N env S) :
    RS (forL mg mb ds env S) ⟨N, B, C, T, Z⟩ := by
  refine for_run (fun es env S => ∃ a, ds = a ++ es ∧ I a es env S) ?_ ?_ _ _ _ ⟨[], rfl, h0⟩
  · rintro d es env S ⟨a, e, hI⟩
    obtain ⟨env1, e3, h⟩ := hs a d es env S e hI
    have e' : ds = a ++ [d] ++ es := by rw [e]; simp
    with_unfolding_all exact ⟨env1, e3, h.mono (fun _ _ h => ⟨_, e', h⟩) (fun _ _ h => h) (fun _ _ h => ⟨_, e', h⟩) (fun _ _ h => h) (fun _ _ _ h => h)⟩
  · rintro env S ⟨a, e, hI⟩
    rw [List.append_nil] at e
    subst e
    with_unfolding_all exact he _ _ hI
end
section
variable {vs : List Nat} {mg : Mg} {mt : Mt} {me : Me} {env : Ev} {P : List D → Cells → Prop} {X : Ex → Cells → Prop} {S : Cells}
theorem comp_rg {lo : Int} {n : Nat} (I : Nat → List D → Cells → Prop) (h0 : I 0 [] S)
    (hs : ∀ k acc S, k < n → I k acc S → ∃ env1, mg (.int (lo + (k : Int))) (inEnv env vs) = some env1 ∧ RE (mt env1 S) (fun b S1 => Br b (RE (me env1 S1) (fun y S2 => acc.length < 16777216 ∧ I (k + 1) (acc ++ [y]) S2) nf) (I (k + 1) acc S1)) nf) (he : ∀ acc S, I n acc S → P acc S) :
    RE (compL vs mg mt me env (rgD lo n) [] S) P X := by
  refine comp_run (fun ds acc S => ∃ k, k ≤ n ∧ ds = (List.range' k (n - k)).map (fun (i : Nat) => D.int (lo + (i : Int))) ∧ I k acc S) ?_ ?_ _ _ _ ⟨0, Nat.zero_le _, rgD_eq _ _, h0⟩
  · rintro d ds acc S ⟨k, hk, e, hI⟩
    have hlt : k < n := by
      rcases Nat.lt_or_ge k n with h | h
      · with_unfolding_all exact h
      · have e0 : n - k = 0 := by omega
        rw [e0] at e; with_unfolding_all exact nomatch e
    obtain ⟨m, hm⟩ : ∃ m, n - k = m + 1 := ⟨n - k - 1, by omega⟩
    rw [hm, rgD_cons] at e
    injection e with e1 e2
    subst e1 e2
    obtain ⟨env1, e3, h⟩ := hs k acc S hlt hI
    have em : m = n - (k + 1) := by omega
    refine ⟨env1, e3, h.mono (fun b S1 h => ?_) (fun _ _ h => h)⟩
    cases b with
    | true =>
      rw [if_pos rfl]
      with_unfolding_all exact RE.mono h (fun y S2 h => ⟨h.1, k + 1, hlt, by rw [em], h.2⟩) (fun _ _ h => h)
    | false =>
      rw [if_neg (by decide)]
      with_unfolding_all exact ⟨k + 1, hlt, by rw [em], h⟩
  · rintro acc S ⟨k, hk, e, hI⟩
    have e1 := congrArg List.length e
    simp at e1
    have : k = n := by omega
    subst this
    with_unfolding_all exact he _ _ hI
/-- with the items that are done and those that are left -/
theorem comp_at {ds : List D} (I : List D → List D → List D → Cells → Prop) (h0 : I [] ds [] S)
    (hs : ∀ a d b acc S, ds = a ++ d :: b → I a (d :: b) acc S → ∃ env1, mg d (inEnv env vs) = some env1 ∧ RE (mt env1 S) (fun k S1 => Br k (RE (me env1 S1) (fun y S2 => acc.length < 16777216 ∧ I (a ++ [d]) b (acc ++ [y]) S2) nf) (I (a ++ [d]) b acc S1)) nf) (he : ∀ acc S, I ds [] acc S → P acc S) :
    RE (compL vs mg mt me env ds [] S) P X := by
  refine comp_run (fun es acc S => ∃ a, ds = a ++ es ∧ I a es acc S) ?_ ?_ _ _ _ ⟨[], rfl, h0⟩
  · rintro d es acc S ⟨a, e, hI⟩
    obtain ⟨env1, e3, h⟩ := hs a d es acc S e hI
    have e' : ds = a ++ [d] ++ es := by rw [e]; simp
    refine ⟨env1, e3, h.mono (fun b S1 h => ?_) (fun _ _ h => h)⟩
    cases b with
    | true =>
      rw [if_pos rfl]
      with_unfolding_all exact RE.mono h (fun y S2 h => ⟨h.1, _, e', h.2⟩) (fun _ _ h => h)
    | false =>
      rw [if_neg (by decide)]
      with_unfolding_all exact ⟨_, e', h⟩
  · rintro acc S ⟨a, e, hI⟩
    rw [List.append_nil] at e
    subst e
    with_unfolding_all exact he _ _ hI
end
section
variable {P : D → Cells → Prop} {X : Ex → Cells → Prop} {S : Cells}
theorem w_at_im {cs : List Int} {i : Int} (g : 0 ≤ i ∧ i < (cs.map D.int).length) (h : ∀ c, c ∈ cs → P (.int c) S) : RE (atO (L2.atI (cs.map D.int) i) id S) P X := by
  refine w_at_d g fun x hx _ => ?_
  obtain ⟨c, hc, rfl⟩ := List.mem_map.mp hx
  with_unfolding_all exact h c hc
theorem w_is_t {a : D} (e : isNon a = true) (h : P (.bl true) S) : RE (opIs a .non S) P X := by
  refine w_is ?_
  rw [e]; exact h
theorem w_is_f {a : D} (e : isNon a = false) (h : P (.bl false) S) : RE (opIs a .non S) P X := by
  refine w_is ?_
  rw [e]; exact h
theorem w_isn_t {a : D} (e : isNon a = true) (h : P (.bl false) S) : RE (opIsNot a .non S) P X := by
  refine w_isnot ?_
  rw [e]; exact h
theorem w_isn_f {a : D} (e : isNon a = false) (h : P (.bl true) S) : RE (opIsNot a .non S) P X := by
  refine w_isnot ?_
  rw [e]; exact h
theorem ixN_0 {n : Nat} (h : 0 < n) : ixN n 0 = some 0 := by
  unfold ixN
  rw [if_pos (by omega), if_pos (by omega)]
  rfl
def is_bool : D → Option Bool
  | .ty _ => none
  | .bl _ => some true
  | _ => some false
theorem isi_bool : ∀ d, isiB d "bool" = is_bool d
  | .non => rfl
  | .bl _ => rfl
  | .int _ => rfl
  | .str _ => rfl
  | .lst _ => rfl
  | .frl _ => rfl
  | .tup _ => rfl
  | .cell _ => rfl
  | .ty _ => rfl
theorem w_isi_bool {d : D} {b : Bool} (e : is_bool d = some b) (g : cellOk d S = true) (h : P (.bl b) S) : RE (fIsi [d, .ty "bool"] S) P X := w_isi (by rw [isi_bool]; exact e) g h
def is_int : D → Option Bool
  | .ty _ => none
  | .bl _ => some true
  | .int _ => some true
  | _ => some false
theorem isi_int : ∀ d, isiB d "int" = is_int d
  | .non => rfl
  | .bl _ => rfl
  | .int _ => rfl
  | .str _ => rfl
  | .lst _ => rfl
  | .frl _ => rfl
  | .tup _ => rfl
  | .cell _ => rfl
  | .ty _ => rfl
theorem w_isi_int {d : D} {b : Bool} (e : is_int d = some b) (g : cellOk d S = true) (h : P (.bl b) S) : RE (fIsi [d, .ty "int"] S) P X := w_isi (by rw [isi_int]; exact e) g h
def is_str : D → Option Bool
  | .ty _ => none
  | .str _ => some true
  | _ => some false
theorem isi_str : ∀ d, isiB d "str" = is_str d
  | .non => rfl
  | .bl _ => rfl
  | .int _ => rfl
  | .str _ => rfl
  | .lst _ => rfl
  | .frl _ => rfl
  | .tup _ => rfl
  | .cell _ => rfl
  | .ty _ => rfl
theorem w_isi_str {d : D} {b : Bool} (e : is_str d = some b) (g : cellOk d S = true) (h : P (.bl b) S) : RE (fIsi [d, .ty "str"] S) P X := w_isi (by rw [isi_str]; exact e) g h
def is_tuple : D → Option Bool
  | .ty _ => none
  | .tup _ => some true
  | _ => some false
theorem isi_tuple : ∀ d, isiB d "tuple" = is_tuple d
  | .non => rfl
  | .bl _ => rfl
  | .int _ => rfl
  | .str _ => rfl
  | .lst _ => rfl
  | .frl _ => rfl
  | .tup _ => rfl
  | .cell _ => rfl
  | .ty _ => rfl
theorem w_isi_tuple {d : D} {b : Bool} (e : is_tuple d = some b) (g : cellOk d S = true) (h : P (.bl b) S) : RE (fIsi [d, .ty "tuple"] S) P X := w_isi (by rw [isi_tuple]; exact e) g h
def is_list : D → Option Bool
  | .ty _ => none
  | .lst _ => some true
  | .frl _ => some true
  | .cell _ => some true
  | _ => some false
theorem isi_list : ∀ d, isiB d "list" = is_list d
  | .non => rfl
  | .bl _ => rfl
  | .int _ => rfl
  | .str _ => rfl
  | .lst _ => rfl
  | .frl _ => rfl
  | .tup _ => rfl
  | .cell _ => rfl
  | .ty _ => rfl
theorem w_isi_list {d : D} {b : Bool} (e : is_list d = some b) (g : cellOk d S = true) (h : P (.bl b) S) : RE (fIsi [d, .ty "list"] S) P X := w_isi (by rw [isi_list]; exact e) g h
theorem w_pow18 (h : P (.int 1000000000000000000) S) : RE (opPow (.int 10) (.int 18) S) P X := by
  refine w_pow ⟨by decide, by decide, by decide⟩ ?_
  have e : (10 : Int) ^ (18 : Int).toNat = 1000000000000000000 := by decide
  rw [e]; with_unfolding_all exact h
theorem w_fdiv_s {i j : Int} (g : 0 < j ∧ j < 9223372036854775808) (h : P (.int (i / j)) S) : RE (opFDiv (.int i) (.int j) S) P X := by with_unfolding_all exact w_fdiv (divOk_s g.1 g.2) h
end

/-! ### keywords -/
inductive Sel (l : List D) : List Nat → List D → Prop
  | z : Sel l [] []
  | s {i : Nat} {ix : List Nat} {d : D} {r : List D} (e : l[i]? = some d) (h : Sel l ix r) : Sel l (i :: ix) (d :: r)
theorem Sel.eq {l : List D} : ∀ {ix : List Nat} {r : List D}, Sel l ix r → sel ix l = r
  | _, _, .z => rfl
  | _, _, .s (i := i) (ix := ix) e h => by
    unfold sel
    rw [List.filterMap_cons_some e]
    exact congrArg _ h.eq
def kwP (n m : Nat) (ix : List Nat) (ds es : List D) (p : List D → Prop) : Prop := (ds.length = n ∧ es.length = m) ∧ p (sel ix (ds ++ es))
theorem w_kwp {P : List D → Cells → Prop} {X : Ex → Cells → Prop} {env : Ev} {S : Cells} {n m : Nat} {ix : List Nat} {ma mk : Ma} (h : RE (ma env S) (fun ds S => RE (mk env S) (fun es S => kwP n m ix ds es fun args => P args S) X) X) : RE (aKw n m ix ma mk env S) P X := w_kw h
theorem kwp_i {n m : Nat} {ix : List Nat} {ds es r : List D} {p : List D → Prop} (e1 : ds.length = n) (e2 : es.length = m) (s : Sel (ds ++ es) ix r) (h : p r) : kwP n m ix ds es p := by
  refine ⟨⟨e1, e2⟩, ?_⟩
  rw [s.eq]; exact h

/-! ### the store of six -/
section
variable {P : D → Cells → Prop} {X : Ex → Cells → Prop} {N : Cells → Prop} {x a b c d e f : D} {S : Cells}
theorem w_ix6_0 (h : P a ([a, b, c, d, e, f] :: S)) : RE (opIx (.cell 0) (.int 0) ([a, b, c, d, e, f] :: S)) P X := by with_unfolding_all exact h
theorem w_ix6_1 (h : P b ([a, b, c, d, e, f] :: S)) : RE (opIx (.cell 0) (.int 1) ([a, b, c, d, e, f] :: S)) P X := by with_unfolding_all exact h
theorem w_ix6_2 (h : P c ([a, b, c, d, e, f] :: S)) : RE (opIx (.cell 0) (.int 2) ([a, b, c, d, e, f] :: S)) P X := by with_unfolding_all exact h
theorem w_ix6_3 (h : P d ([a, b, c, d, e, f] :: S)) : RE (opIx (.cell 0) (.int 3) ([a, b, c, d, e, f] :: S)) P X := by with_unfolding_all exact h
theorem w_ix6_4 (h : P e ([a, b, c, d, e, f] :: S)) : RE (opIx (.cell 0) (.int 4) ([a, b, c, d, e, f] :: S)) P X := by with_unfolding_all exact h
theorem w_ix6_5 (h : P f ([a, b, c, d, e, f] :: S)) : RE (opIx (.cell 0) (.int 5) ([a, b, c, d, e, f] :: S)) P X := by with_unfolding_all exact h
theorem w_pt6_0 (h : N ([x, b, c, d, e, f] :: S)) : putP (.cell 0) (.int 0) x ([a, b, c, d, e, f] :: S) N := ⟨_, 0, rfl, rfl, h⟩
theorem w_pt6_1 (h : N ([a, x, c, d, e, f] :: S)) : putP (.cell 0) (.int 1) x ([a, b, c, d, e, f] :: S) N := ⟨_, 1, rfl, rfl, h⟩
theorem w_pt6_2 (h : N ([a, b, x, d, e, f] :: S)) : putP (.cell 0) (.int 2) x ([a, b, c, d, e, f] :: S) N := ⟨_, 2, rfl, rfl, h⟩
theorem w_pt6_3 (h : N ([a, b, c, x, e, f] :: S)) : putP (.cell 0) (.int 3) x ([a, b, c, d, e, f] :: S) N := ⟨_, 3, rfl, rfl, h⟩
theorem w_pt6_4 (h : N ([a, b, c, d, x, f] :: S)) : putP (.cell 0) (.int 4) x ([a, b, c, d, e, f] :: S) N := ⟨_, 4, rfl, rfl, h⟩
theorem w_pt6_5 (h : N ([a, b, c, d, e, x] :: S)) : putP (.cell 0) (.int 5) x ([a, b, c, d, e, f] :: S) N := ⟨_, 5, rfl, rfl, h⟩
end

/-! ### slices -/
theorem cut_len {α : Type} (x : List α) (l u : Option Int) : (cut x l u).length ≤ x.length := by
  unfold cut
  simp only [List.length_take, List.length_drop]
  omega
theorem cut_sub {α : Type} {x : List α} {l u : Option Int} {a : α} (h : a ∈ cut x l u) : a ∈ x := List.mem_of_mem_drop (List.mem_of_mem_take h)
theorem cut_nn {α : Type} (x : List α) (a b : Nat) : cut x (some (a : Int)) (some (b : Int)) = (x.drop (min a x.length)).take (min b x.length - min a x.length) := by
  unfold cut
  rw [HT.sIx_nat, HT.sIx_nat]
theorem cut_add {α : Type} (x : List α) (a n : Nat) (h : a + n ≤ x.length) : cut x (some (a : Int)) (some ((a : Int) + (n : Int))) = (x.drop a).take n := by
  have e : ((a : Int) + (n : Int)) = ((a + n : Nat) : Int) := by omega
  rw [e, cut_nn, Nat.min_eq_left h, Nat.min_eq_left (a := a) (by omega)]
  congr 1
  omega
theorem cut_pre {α : Type} (x : List α) (b : Nat) : cut x none (some (b : Int)) = x.take b := by
  unfold cut
  rw [HT.sIx_nat, HT.sIx_none]
  simp only [List.drop_zero, Nat.sub_zero]
  rw [← List.take_eq_take_min]
theorem cut_suf {α : Type} (x : List α) (b : Nat) : cut x (some (b : Int)) none = x.drop b := by
  unfold cut
  rw [HT.sIx_nat, HT.sIx_none]
  rw [List.take_of_length_le (by simp)]
  rcases Nat.le_total b x.length with h | h
  · rw [Nat.min_eq_left h]
  · rw [Nat.min_eq_right h, List.drop_length, List.drop_eq_nil_of_le h]

/-! ### where lengths alone are asked -/
section
variable {P : D → Cells → Prop} {X : Ex → Cells → Prop} {S : Cells}
theorem l_sl_pre {x : List Char} {b : Int} (g : x.length ≤ 16777216 ∧ 0 ≤ b) (h : ∀ y : List Char, y.length ≤ x.length → (y.length : Int) ≤ b → P (.str y) S) : RE (opSl (.str x) none (some b) S) P X := by
  refine w_sl_s g.1 (h _ (cut_len _ _ _) ?_)
  obtain ⟨n, rfl⟩ : ∃ n : Nat, b = (n : Int) := ⟨b.toNat, by omega⟩
  rw [cut_pre, List.length_take]
  omega
theorem l_sl {x : List Char} {a b : Option Int} (g : x.length ≤ 16777216) (h : ∀ y : List Char, y.length ≤ x.length → P (.str y) S) : RE (opSl (.str x) a b S) P X :=
  w_sl_s g (h _ (cut_len _ _ _))
theorem l_mul {x : List Char} {n : Int} (g : 0 ≤ n ∧ n ≤ 10000 ∧ x.length ≤ 1000) (h : ∀ y : List Char, y.length ≤ 10000000 → P (.str y) S) : RE (opMul (.str x) (.int n) S) P X := by
  have e : x.length * n.toNat ≤ 10000000 := Nat.le_trans (Nat.mul_le_mul g.2.2 (show n.toNat ≤ 10000 by omega)) (by decide)
  refine w_mul_s ⟨by omega, by omega, by omega⟩ (h _ ?_)
  simp only [List.length_flatten, List.map_replicate, List.sum_replicate_nat]
  rw [Nat.mul_comm]; exact e
theorem l_add1 {x : List Char} {c : Char} (g : x.length ≤ 16777215) (h : ∀ z : List Char, z.length = x.length + 1 → P (.str z) S) : RE (opAdd (.str x) (.str [c]) S) P X := w_add_s (by simp; omega) (h _ (by simp))
theorem l_add {x y : List Char} (g : x.length + y.length ≤ 16777216) (h : ∀ z : List Char, z.length = x.length + y.length → P (.str z) S) : RE (opAdd (.str x) (.str y) S) P X := w_add_s g (h _ (by simp))
end

/-! ### a text in a text -/
def occ (x y : List Char) (k : Nat) : Bool := decide (k + y.length ≤ x.length ∧ (x.drop k).take y.length = y)
theorem at_occ {x y : List Char} {k : Nat} : StrLaws.At (cps x) (cps y) (cps x).length k ↔ occ x y k = true := by
  have l1 : ∀ z : List Char, (cps z).length = z.length := fun z => by simp [cps, Str.length]
  unfold StrLaws.At occ
  rw [StrLaws.subAt_eq, l1, l1]
  simp only [decide_eq_true_eq]
  refine and_congr Iff.rfl ?_
  show (((x.map Char.toNat).drop k).take y.length == y.map Char.toNat) = true ↔ _
  rw [beq_iff_eq, ← List.map_drop, ← List.map_take]
  constructor
  · intro h
    with_unfolding_all exact cps_inj (by unfold cps; rw [h])
  · intro h
    rw [h]
theorem f3_occ (x y : List Char) (i : Nat) : (Txt.find3 (cps x) (cps y) i = -1 ∧ ∀ k, i ≤ k → occ x y k = false) ∨ ∃ k : Nat, Txt.find3 (cps x) (cps y) i = k ∧ i ≤ k ∧ occ x y k = true ∧ ∀ j, i ≤ j → j < k → occ x y j = false := by
  have l1 : ∀ z : List Char, (cps z).length = z.length := fun z => by simp [cps, Str.length]
  have ef : fromIndex (cps x).length (i : Int) = i := by
    unfold fromIndex
    rw [if_neg (by omega)]
    omega
  have hn : ∀ {k}, ¬ StrLaws.At (cps x) (cps y) (cps x).length k → occ x y k = false := fun h => by
    rw [at_occ] at h
    simpa using h
  unfold Txt.find3
  rw [ef, StrLaws.occ_eq]
  rcases StrLaws.occ_first (cps x) (cps y) (cps x).length 1 (by decide) (List.range' i ((cps x).length + 1 - i)) i (fun j hj => by rw [List.mem_range'_1] at hj; with_unfolding_all exact hj.1) with ⟨h0, h1⟩ | ⟨pre, a, post, e, h0, ha, h1⟩
  · left
    rw [h0]
    refine ⟨rfl, fun k hk => ?_⟩
    by_cases h : k < (cps x).length + 1
    · with_unfolding_all exact hn (h1 k (by rw [List.mem_range'_1]; omega))
    · rw [l1] at h
      unfold occ
      simp
      omega
  · right
    have ia : i ≤ a ∧ a ∈ List.range' i ((cps x).length + 1 - i) := by
      have : a ∈ List.range' i ((cps x).length + 1 - i) := by rw [e]; simp
      with_unfolding_all exact ⟨(List.mem_range'_1.mp this).1, this⟩
    refine ⟨a, ?_, ia.1, at_occ.mp ha, fun j h2 h3 => hn (h1 j ?_)⟩
    · rw [← Array.getElem?_toList] at h0
      generalize (forIn (List.range' i ((cps x).length + 1 - i)) ((#[] : Array Nat), i) (StrLaws.occBody (cps x) (cps y) (cps x).length 1)).run.fst.toList = l at h0 ⊢
      cases l with
      | nil => cases h0
      | cons b r =>
        injection h0 with h0
        rw [h0]
    · have hlen : pre.length = a - i := by
        have h1' : (List.range' i ((cps x).length + 1 - i))[pre.length]? = some a := by rw [e]; simp
        have hb : pre.length < (cps x).length + 1 - i := by
          have := congrArg List.length e
          simp at this
          omega
        rw [List.getElem?_range' hb] at h1'
        injection h1' with h1'
        omega
      have h2' : (List.range' i ((cps x).length + 1 - i))[j - i]? = pre[j - i]? := by rw [e, List.getElem?_append_left (by omega)]
      have hb : j - i < (cps x).length + 1 - i := by
        have := (List.mem_range'_1.mp ia.2).2
        omega
      rw [List.getElem?_range' hb] at h2'
      have e3 : i + 1 * (j - i) = j := by omega
      rw [e3] at h2'
      with_unfolding_all exact List.mem_of_getElem? h2'.symm
def occs (x y : List Char) (n : Nat) : List Nat := (List.range n).filter (occ x y)
theorem occs_len (x y : List Char) (n : Nat) : (occs x y n).length ≤ n := by
  have := List.length_filter_le (occ x y) (List.range n)
  simpa [occs] using this
theorem occs_gap {x y : List Char} {n : Nat} : ∀ {m : Nat}, n ≤ m → (∀ k, n ≤ k → k < m → occ x y k = false) → occs x y m = occs x y n
  | 0, h, _ => by
    have : n = 0 := by omega
    rw [this]
  | m + 1, h, hk => by
    rcases Nat.lt_or_ge n (m + 1) with h1 | h1
    · have e : occs x y (m + 1) = occs x y m := by
        unfold occs
        rw [List.range_succ, List.filter_append]
        simp [hk m (by omega) (by omega)]
      rw [e]
      with_unfolding_all exact occs_gap (by omega) fun k h2 h3 => hk k h2 (by omega)
    · have : n = m + 1 := by omega
      rw [this]
theorem occs_hit {x y : List Char} {m : Nat} (h : occ x y m = true) : occs x y (m + 1) = occs x y m ++ [m] := by
  unfold occs
  rw [List.range_succ, List.filter_append]
  simp [h]
theorem occs_miss {x y : List Char} {m : Nat} (h : occ x y m = false) : occs x y (m + 1) = occs x y m := occs_gap (by omega) fun k h1 h2 => by
  have : k = m := by omega
  rw [this]; with_unfolding_all exact h
theorem occ_le {x y : List Char} {k : Nat} (h : occ x y k = true) : k + y.length ≤ x.length := by
  unfold occ at h
  simp at h
  with_unfolding_all exact h.1
def occI (x y : List Char) : List D := (occs x y (x.length + 1)).map fun (n : Nat) => .int (n : Int)
theorem occI_len (x y : List Char) : (occI x y).length ≤ x.length + 1 := by
  unfold occI
  rw [List.length_map]
  exact occs_len _ _ _
/-! ### texts put together -/
def oneC (d : D) : Prop := ∃ c, d = .str [c]
theorem strs_one : ∀ {es : List D}, (∀ d, d ∈ es → oneC d) → ∃ ys, strsD es = some ys ∧ (ys.map List.length).sum = es.length ∧ ys.length = es.length
  | [], _ => ⟨[], rfl, rfl, rfl⟩
  | d :: es, h => by
    obtain ⟨ys, e1, e2, e3⟩ := strs_one fun d hd => h d (List.mem_cons_of_mem _ hd)
    obtain ⟨c, rfl⟩ := h d (List.mem_cons_self ..)
    refine ⟨[c] :: ys, by unfold strsD; rw [e1]; rfl, ?_, by simp [e3]⟩
    simp [e2]; omega
theorem joinC_nil : ∀ ys : List (List Char), joinC [] ys = ys.flatten
  | [] => rfl
  | [p] => by simp [joinC]
  | p :: q :: r => by
    show p ++ ([] ++ joinC [] (q :: r)) = _
    rw [joinC_nil (q :: r)]; with_unfolding_all rfl
theorem w_join_one {P : D → Cells → Prop} {X : Ex → Cells → Prop} {S : Cells} {es : List D} (h1 : ∀ d, d ∈ es → oneC d) (h2 : es.length ≤ 16777216) (h : ∀ x : List Char, x.length = es.length → P (.str x) S) : RE (fJoin [] [.lst es] S) P X := by
  obtain ⟨ys, e1, e2, e3⟩ := strs_one h1
  refine w_join e1 (by rw [e2]; simp; with_unfolding_all exact h2) (h _ ?_)
  rw [joinC_nil, List.length_flatten, e2]
/-! ### what is the same as itself -/
def Gd : Nat → D → Prop
  | 0, _ => False
  | n + 1, .lst ds => ds.length < 4611686018427387904 ∧ ∀ d, d ∈ ds → Gd n d
  | n + 1, .tup ds => ds.length < 4611686018427387904 ∧ ∀ d, d ∈ ds → Gd n d
  | _ + 1, .non => True
  | _ + 1, .bl _ => True
  | _ + 1, .int _ => True
  | _ + 1, .str _ => True
  | _ + 1, _ => False
theorem gd_ints {n : Nat} {is : List Nat} (h : is.length < 4611686018427387904) : Gd (n + 2) (.lst (is.map fun (n : Nat) => .int (n : Int))) := by
  refine ⟨by simpa using h, fun d hd => ?_⟩
  obtain ⟨k, _, rfl⟩ := List.mem_map.mp hd
  trivial
end TT
namespace Lawk01
open PySem PySem.Spec PyProof.Rows L2 TT
def b_places_of' : Ms :=
  (sSeq (sSet 2 (dArgs fLen (aCons (dVar 0) aNil))) (sRetO (oComp [3] (dArgs iRange1 (aCons (dBin opAdd (dBin opSub (dArgs fLen (aCons (dVar 1) aNil)) (dVar 2)) (dC (.int 1))) aNil)) (gtN 3) (tB (dBin opEq (dSl opSl (dVar 1) (pSome (dVar 3)) (pSome (dBin opAdd (dVar 3) (dVar 2)))) (dVar 0))) (dVar 3))))
def m_places_of : Mf := fnM 2 4 b_places_of'

def b__law_draws' : Ms :=
  (sRetO (oLst (aCons (dFz (oComp [1] (dUn itemsOf (dVar 0)) (gtN 1) mYes (dArgs fInt (aCons (dVar 1) aNil)))) (aCons (dC (.int 0)) (aCons (dC (.int 0)) (aCons (dC (.int 0)) (aCons (dC (.int 1)) (aCons (dC (.int 0)) aNil))))))))
def m__law_draws : Mf := fnM 1 2 b__law_draws'

def b__law_mixed' : Ms :=
  (sSeq (sSet 2 (dBin opMod (dArgs fInt (aCons (dBin opAdd (dBin opAdd (dBin opMul (dVar 0) (dC (.int 48271))) (dBin opMul (dVar 1) (dC (.int 69621)))) (dC (.int 11))) aNil)) (dC (.int 2147483647)))) (sSeq (sSet 3 (dBin opMod (dArgs fInt (aCons (dBin opAdd (dBin opAdd (dBin opMul (dVar 2) (dVar 2)) (dBin opMul (dVar 1) (dC (.int 40014)))) (dC (.int 7))) aNil)) (dC (.int 2147483399)))) (sRet (dBin opMod (dArgs fInt (aCons (dBin opAdd (dBin opMul (dVar 3) (dVar 3)) (dVar 2)) aNil)) (dC (.int 2147483629))))))
def m__law_mixed : Mf := fnM 2 4 b__law_mixed'

def b__law_take' : Ms :=
  (sSeq (sIf (tB (dBin opLt (dVar 1) (dC (.int 2)))) (sRet (dC (.int 0))) sNil) (sSeq (sIf (mAnd (tB (dBin opEq (dBin opIx (dVar 0) (dC (.int 2))) (dC (.int 0)))) (mAnd (tB (dBin opEq (dBin opIx (dVar 0) (dC (.int 3))) (dC (.int 0)))) (tB (dBin opLt (dBin opIx (dVar 0) (dC (.int 1))) (dArgs fLen (aCons (dBin opIx (dVar 0) (dC (.int 0))) aNil)))))) (sSeq (sSet 2 (dBin opIx (dBin opIx (dVar 0) (dC (.int 0))) (dBin opIx (dVar 0) (dC (.int 1))))) (sSeq (sPutC (dVar 0) (dC (.int 1)) (dBin opAdd (dBin opIx (dVar 0) (dC (.int 1))) (dC (.int 1)))) (sSeq (sPutC (dVar 0) (dC (.int 4)) (dBin opMod (dArgs fInt (aCons (dBin opAdd (dBin opMul (dBin opIx (dVar 0) (dC (.int 4))) (dC (.int 16807))) (dVar 2)) aNil)) (dC (.int 2147483647)))) (sIf (mOr (tB (dBin opGe (dVar 2) (dBin opPow (dC (.int 10)) (dC (.int 18))))) (tB (dBin opGe (dUn opNeg (dVar 2)) (dBin opPow (dC (.int 10)) (dC (.int 18)))))) (sPutC (dVar 0) (dC (.int 2)) (dArgs fAbs (aCons (dVar 2) aNil))) (sPutC (dVar 0) (dC (.int 3)) (dC (.int 3))))))) sNil) (sSeq (sIf (tB (dBin opGt (dBin opIx (dVar 0) (dC (.int 2))) (dC (.int 0)))) (sSeq (sSet 3 (dBin opMod (dArgs fInt (aCons (dBin opIx (dVar 0) (dC (.int 2))) aNil)) (dVar 1))) (sSeq (sPutC (dVar 0) (dC (.int 2)) (dBin opFDiv (dBin opIx (dVar 0) (dC (.int 2))) (dVar 1))) (sRet (dVar 3)))) sNil) (sSeq (sIf (tB (dBin opGt (dBin opIx (dVar 0) (dC (.int 3))) (dC (.int 0)))) (sPutC (dVar 0) (dC (.int 3)) (dBin opSub (dBin opIx (dVar 0) (dC (.int 3))) (dC (.int 1)))) sNil) (sSeq (sPutC (dVar 0) (dC (.int 5)) (dBin opAdd (dBin opIx (dVar 0) (dC (.int 5))) (dC (.int 1)))) (sRet (dBin opMod (dArgs fInt (aCons (dCallP m__law_mixed (aDef (aCons (dBin opIx (dVar 0) (dC (.int 4))) (aCons (dBin opIx (dVar 0) (dC (.int 5))) aNil)) [])) aNil)) (dVar 1))))))))
def m__law_take : Mf := fnM 2 4 b__law_take'

def b__law_span' : Ms :=
  (sRet (dBin opAdd (dVar 1) (dCall m__law_take (aDef (aCons (dVar 0) (aCons (dBin opAdd (dBin opSub (dVar 2) (dVar 1)) (dC (.int 1))) aNil)) []))))
def m__law_span : Mf := fnM 3 3 b__law_span'

def b__law_rare' : Ms :=
  (sRet (dBin opEq (dCall m__law_take (aDef (aCons (dVar 0) (aCons (dVar 1) aNil)) [])) (dBin opSub (dVar 1) (dC (.int 1)))))
def m__law_rare : Mf := fnM 2 2 b__law_rare'

def b__law_pick' : Ms :=
  (sRet (dBin opIx (dVar 1) (dCall m__law_take (aDef (aCons (dVar 0) (aCons (dArgs fLen (aCons (dVar 1) aNil)) aNil)) []))))
def m__law_pick : Mf := fnM 2 2 b__law_pick'

def b__law_in_range' : Ms :=
  (sSeq (sIf (tB (dBin opEq (dCall m__law_take (aDef (aCons (dVar 0) (aCons (dC (.int 3)) aNil)) [])) (dC (.int 2)))) (sRet (dCall m__law_pick (aDef (aCons (dVar 0) (aCons (dFz (oLst (aCons (dVar 1) (aCons (dVar 2) aNil)))) aNil)) []))) sNil) (sRet (dCall m__law_span (aDef (aCons (dVar 0) (aCons (dVar 1) (aCons (dVar 2) aNil))) []))))
def m__law_in_range : Mf := fnM 3 3 b__law_in_range'

def b__law_shuffled' : Ms :=
  (sSeq (sSet 2 (dFz (dArgs fList (aCons (dVar 1) aNil)))) (sSeq (sSetO 3 (oLst aNil)) (sSeq (sFor (dArgs iRange1 (aCons (dArgs fLen (aCons (dVar 1) aNil)) aNil)) (gtN 4) (sSeq (sSet 5 (dCall m__law_take (aDef (aCons (dVar 0) (aCons (dArgs fLen (aCons (dVar 2) aNil)) aNil)) []))) (sSeq (sApp 3 (dBin opIx (dVar 2) (dVar 5))) (sSet 2 (dBin opAdd (dSl opSl (dVar 2) pNone (pSome (dVar 5))) (dSl opSl (dVar 2) (pSome (dBin opAdd (dVar 5) (dC (.int 1)))) pNone)))))) (sRetV 3))))
def m__law_shuffled : Mf := fnM 2 6 b__law_shuffled'

def b__law_same' (rec : Mf) : Ms :=
  (sSeq (sIf (tB (dBin opIs (dVar 1) (dC .non))) (sRet (dBin opIs (dVar 0) (dC .non))) sNil) (sSeq (sIf (tB (dArgs fIsi (aCons (dVar 1) (aCons (dC (.ty "bool")) aNil)))) (sRet (dAnd (dArgs fIsi (aCons (dVar 0) (aCons (dC (.ty "bool")) aNil))) (dBin opEq (dVar 0) (dVar 1)))) sNil) (sSeq (sIf (tB (dArgs fIsi (aCons (dVar 1) (aCons (dC (.ty "int")) aNil)))) (sRet (dAnd (dArgs fIsi (aCons (dVar 0) (aCons (dC (.ty "int")) aNil))) (dAnd (dNot (dArgs fIsi (aCons (dVar 0) (aCons (dC (.ty "bool")) aNil)))) (dBin opEq (dVar 0) (dVar 1))))) sNil) (sSeq (sIf (tB (dArgs fIsi (aCons (dVar 1) (aCons (dC (.ty "str")) aNil)))) (sRet (dAnd (dArgs fIsi (aCons (dVar 0) (aCons (dC (.ty "str")) aNil))) (dBin opEq (dVar 0) (dVar 1)))) sNil) (sSeq (sIf (mAnd (tB (dArgs fIsi (aCons (dVar 1) (aCons (dC (.ty "tuple")) aNil)))) (mNot (tB (dArgs fIsi (aCons (dVar 0) (aCons (dC (.ty "tuple")) aNil)))))) (sRet (dC (.bl false))) sNil) (sSeq (sIf (mAnd (tB (dArgs fIsi (aCons (dVar 1) (aCons (dC (.ty "list")) aNil)))) (mNot (tB (dArgs fIsi (aCons (dVar 0) (aCons (dC (.ty "list")) aNil)))))) (sRet (dC (.bl false))) sNil) (sSeq (sIf (tB (dBin opNe (dArgs fLen (aCons (dVar 0) aNil)) (dArgs fLen (aCons (dVar 1) aNil)))) (sRet (dC (.bl false))) sNil) (sSeq (sFor (dArgs iRange1 (aCons (dArgs fLen (aCons (dVar 1) aNil)) aNil)) (gtN 2) (sIf (mNot (tB (dCallP (rec) (aDef (aCons (dBin opIx (dVar 0) (dVar 2)) (aCons (dBin opIx (dVar 1) (dVar 2)) aNil)) [])))) (sRet (dC (.bl false))) sNil)) (sRet (dC (.bl true)))))))))))
def m__law_same : Nat → Mf
  | 0 => fun _ _ => .no
  | n + 1 => fnM 2 3 (b__law_same' (m__law_same n))

def b__law_found' : Ms :=
  (sSeq (sSetO 2 (oLst aNil)) (sSeq (sSet 3 (dUn opNeg (dC (.int 1)))) (sSeq (sFor (dArgs iRange1 (aCons (dBin opAdd (dArgs fLen (aCons (dVar 1) aNil)) (dC (.int 2))) aNil)) (gtN 4) (sSeq (sSet 3 (dMeS fFind3 (dVar 1) (aCons (dVar 0) (aCons (dBin opAdd (dVar 3) (dC (.int 1))) aNil)))) (sSeq (sIf (tB (dBin opLt (dVar 3) (dC (.int 0)))) sBrk sNil) (sApp 2 (dVar 3))))) (sRetV 2))))
def m__law_found : Mf := fnM 2 5 b__law_found'

def b__law_menu' : Ms :=
  (sSeq (sSet 1 (dC (.str " !\"#$&'()*+,-./0123456789:;<=>?@ABCDEFGHIJKLMNOPQRSTUVWXYZ[\\]^_`".toList))) (sSeq (sSet 1 (dBin opAdd (dVar 1) (dC (.str "abcdefghijklmnopqrstuvwxyz{|}~".toList)))) (sSeq (sSet 2 (dCall m__law_take (aDef (aCons (dVar 0) (aCons (dArgs fLen (aCons (dVar 1) aNil)) aNil)) []))) (sRet (dCall m__law_pick (aDef (aCons (dVar 0) (aCons (dFz (oLst (aCons (dC (.str "a".toList)) (aCons (dC (.str "ab".toList)) (aCons (dC (.str "ab".toList)) (aCons (dC (.str "aA".toList)) (aCons (dC (.str "abc".toList)) (aCons (dC (.str "- 0~".toList)) (aCons (dVar 1) (aCons (dBin opAdd (dBin opIx (dVar 1) (dVar 2)) (dCall m__law_pick (aDef (aCons (dVar 0) (aCons (dVar 1) aNil)) []))) aNil)))))))))) aNil)) []))))))
def m__law_menu : Mf := fnM 1 3 b__law_menu'

def b__law_text' : Ms :=
  (sSeq (sIf (tB (dCall m__law_rare (aDef (aCons (dVar 0) (aCons (dC (.int 8)) aNil)) []))) (sSeq (sSet 2 (dBin opAdd (dC (.int 60)) (dCall m__law_take (aDef (aCons (dVar 0) (aCons (dC (.int 341)) aNil)) [])))) (sSeq (sIf (tB (dCall m__law_rare (aDef (aCons (dVar 0) (aCons (dC (.int 5)) aNil)) []))) (sSet 2 (dC (.int 5000))) sNil) (sSeq (sSet 3 (dMeS fJoin (dC (.str "".toList)) (aCons (dFz (oComp [6] (dArgs iRange1 (aCons (dBin opAdd (dC (.int 1)) (dCall m__law_take (aDef (aCons (dVar 0) (aCons (dC (.int 5)) aNil)) []))) aNil)) (gtN 6) mYes (dCall m__law_pick (aDef (aCons (dVar 0) (aCons (dVar 1) aNil)) [])))) aNil))) (sSeq (sSet 4 (dSl opSl (dBin opMul (dVar 3) (dVar 2)) pNone (pSome (dVar 2)))) (sSeq (sSet 5 (dCall m__law_take (aDef (aCons (dVar 0) (aCons (dVar 2) aNil)) []))) (sRet (dBin opAdd (dBin opAdd (dSl opSl (dVar 4) pNone (pSome (dVar 5))) (dCall m__law_pick (aDef (aCons (dVar 0) (aCons (dVar 1) aNil)) []))) (dSl opSl (dVar 4) (pSome (dBin opAdd (dVar 5) (dC (.int 1)))) pNone)))))))) sNil) (sRet (dMeS fJoin (dC (.str "".toList)) (aCons (dFz (oComp [6] (dArgs iRange1 (aCons (dCall m__law_in_range (aDef (aCons (dVar 0) (aCons (dC (.int 0)) (aCons (dC (.int 12)) aNil))) [])) aNil)) (gtN 6) mYes (dCall m__law_pick (aDef (aCons (dVar 0) (aCons (dVar 1) aNil)) [])))) aNil))))
def m__law_text : Mf := fnM 2 7 b__law_text'

def b__law_slice' : Ms :=
  (sSeq (sSet 2 (dCall m__law_take (aDef (aCons (dVar 0) (aCons (dBin opAdd (dArgs fLen (aCons (dVar 1) aNil)) (dC (.int 1))) aNil)) []))) (sRet (dSl opSl (dVar 1) (pSome (dVar 2)) (pSome (dBin opAdd (dVar 2) (dCall m__law_take (aDef (aCons (dVar 0) (aCons (dBin opAdd (dC (.int 1)) (dArgs fMin2 (aCons (dBin opSub (dArgs fLen (aCons (dVar 1) aNil)) (dVar 2)) (aCons (dC (.int 40)) aNil)))) aNil)) [])))))))
def m__law_slice : Mf := fnM 2 3 b__law_slice'

def b__law_parts' : Ms :=
  (sSeq (sSetO 4 (oLst (aCons (dC (.str "".toList)) (aCons (dVar 2) (aCons (dSl opSl (dBin opAdd (dVar 2) (dCall m__law_pick (aDef (aCons (dVar 0) (aCons (dVar 1) aNil)) []))) pNone (pSome (dC (.int 5000)))) (aCons (dCall m__law_slice (aDef (aCons (dVar 0) (aCons (dVar 2) aNil)) [])) (aCons (dCall m__law_slice (aDef (aCons (dVar 0) (aCons (dVar 3) aNil)) [])) aNil))))))) (sSeq (sSet 5 (dCall m__law_slice (aDef (aCons (dVar 0) (aCons (dVar 2) aNil)) []))) (sSeq (sApp 4 (dBin opAdd (dSl opSl (dVar 5) pNone (pSome (dUn opNeg (dC (.int 1))))) (dCall m__law_pick (aDef (aCons (dVar 0) (aCons (dVar 1) aNil)) [])))) (sSeq (sApp 4 (dMeS fJoin (dC (.str "".toList)) (aCons (dFz (oComp [6] (dArgs iRange1 (aCons (dBin opAdd (dC (.int 1)) (dCall m__law_take (aDef (aCons (dVar 0) (aCons (dC (.int 4)) aNil)) []))) aNil)) (gtN 6) mYes (dCall m__law_pick (aDef (aCons (dVar 0) (aCons (dVar 1) aNil)) [])))) aNil))) (sFrz 4 (sRet (dCall m__law_shuffled (aDef (aCons (dVar 0) (aCons (dVar 4) aNil)) []))))))))
def m__law_parts : Mf := fnM 4 7 b__law_parts'

def b_law' : Ms :=
  (sProm 1 (oCallP m__law_draws (aDef (aCons (dVar 0) aNil) [])) (sSeq (sSet 2 (dCall m__law_menu (aDef (aCons (dVar 1) aNil) []))) (sSeq (sSet 3 (dCall m__law_text (aDef (aCons (dVar 1) (aCons (dVar 2) aNil)) []))) (sSeq (sSet 4 (dCall m__law_text (aDef (aCons (dVar 1) (aCons (dVar 2) aNil)) []))) (sSeq (sFor (dUn itemsOf (dCall m__law_parts (aDef (aCons (dVar 1) (aCons (dVar 2) (aCons (dVar 3) (aCons (dVar 4) aNil)))) []))) (gtN 5) (sSeq (sSet 6 (dCallP m__law_found (aDef (aCons (dVar 5) (aCons (dVar 3) aNil)) []))) (sSeq (sSet 7 (dCallP m__law_found (aDef (aCons (dVar 5) (aCons (dVar 4) aNil)) []))) (sSeq (sSetO 8 (oCallP m_places_of (aDef (aCons (dVar 5) (aCons (dVar 3) aNil)) []))) (sSeq (sIf (mOr (mNot (tB (dLend (m__law_same 8) (lOwn 8 (lVal (dVar 6) lNil))))) (mNot (tB (dCallP (m__law_same 8) (aDef (aCons (dCallP m_places_of (aDef (aCons (dVar 5) (aCons (dVar 4) aNil)) [])) (aCons (dVar 7) aNil)) []))))) (sRet (dC (.bl false))) sNil) (sSeq (sApp 8 (dUn opNeg (dC (.int 1)))) (sSeq (sPutO 8 (dC (.int 0)) (dC (.int 7))) (sSeq (sIf (mNot (tB (dCallP (m__law_same 8) (aDef (aCons (dCallP m_places_of (aKw 0 2 [0, 1] aNil (aCons (dVar 5) (aCons (dVar 3) aNil)))) (aCons (dVar 6) aNil)) [])))) (sRet (dC (.bl false))) sNil) (sIf (mNot (tB (dCallP (m__law_same 8) (aDef (aCons (dCallP m_places_of (aKw 0 2 [1, 0] aNil (aCons (dVar 4) (aCons (dVar 5) aNil)))) (aCons (dVar 7) aNil)) [])))) (sRet (dC (.bl false))) sNil))))))))) (sSeq (sIf (mNot (tB (dCallP (m__law_same 8) (aDef (aCons (dCallP m_places_of (aDef (aCons (dVar 3) (aCons (dC (.str "".toList)) aNil)) [])) (aCons (dCallP m__law_found (aDef (aCons (dVar 3) (aCons (dC (.str "".toList)) aNil)) [])) aNil)) [])))) (sRet (dC (.bl false))) sNil) (sRet (dCallP (m__law_same 8) (aDef (aCons (dCallP m_places_of (aDef (aCons (dC (.str "".toList)) (aCons (dC (.str "".toList)) aNil)) [])) (aCons (dFz (oLst (aCons (dC (.int 0)) aNil))) aNil)) [])))))))))
def m_law : Mf := fnM 1 9 b_law'
end Lawk01
section
open PySem PySem.Spec PyProof.Rows L2 TT
local macro_rules | `(tactic| walk_at "sd") => `(tactic| first
  | omega
  | assumption
  | (simp only [List.length_append, List.length_cons, List.length_nil, List.length_map, List.length_singleton, List.length_replicate]; omega)
  | (refine And.intro ?_ ?_ <;> ((try simp only [List.length_append, List.length_cons, List.length_nil, List.length_map, List.length_singleton, List.length_replicate]); omega)))
local macro_rules | `(tactic| walk_at "op") => `(tactic| first
  | with_reducible refine w_eq_i ?_
  | with_reducible refine w_lt_i ?_
  | with_reducible refine w_le_i ?_
  | with_reducible refine w_gt_i ?_
  | with_reducible refine w_ge_i ?_
  | with_reducible refine w_add_i ?_
  | with_reducible refine w_sub_i ?_
  | with_reducible refine w_sub ?_
  | with_reducible refine w_neg ?_
  | with_reducible refine w_ix_l ?_
  | with_reducible refine w_ix_t ?_
  | with_reducible refine w_ix6_0 ?_
  | with_reducible refine w_ix6_1 ?_
  | with_reducible refine w_ix6_2 ?_
  | with_reducible refine w_ix6_3 ?_
  | with_reducible refine w_ix6_4 ?_
  | with_reducible refine w_ix6_5 ?_
  | with_reducible refine w_pow18 ?_
  | with_reducible refine w_ix_c (by with_unfolding_all rfl) ?_
  | with_reducible refine w_len_l ?_
  | with_reducible refine w_len_t ?_
  | with_reducible refine w_len_f ?_
  | (with_reducible refine w_len_s ?_ ?_; try (next => walk_at "sd"))
  | (with_reducible refine w_add_s ?_ ?_; try (next => walk_at "sd"))
  | (with_reducible refine w_add_l ?_ ?_; try (next => walk_at "sd"))
  | (with_reducible refine w_add_t ?_ ?_; try (next => walk_at "sd"))
  | (with_reducible refine w_cat_l ?_ ?_; try (next => walk_at "sd"))
  | (with_reducible refine w_mul_i (mulOk_r ?_) ?_; next => omega)
  | (with_reducible refine w_mul_i (mulOk_l ?_) ?_; next => omega)
  | (with_reducible refine w_mul_i ?_ ?_)
  | (with_reducible refine w_mul_s ?_ ?_; try (next => walk_at "sd"))
  | (with_reducible refine w_mul_l ?_ ?_; try (next => walk_at "sd"))
  | (with_reducible refine w_mod (by decide) ?_)
  | (with_reducible refine w_mod ?_ ?_; try (next => walk_at "sd"))
  | (with_reducible refine w_fdiv_s ?_ ?_; try (next => walk_at "sd"))
  | with_reducible refine w_pow ⟨by decide, by decide, by decide⟩ ?_
  | with_reducible refine w_is_t (by with_unfolding_all rfl) ?_
  | with_reducible refine w_is_f (by with_unfolding_all rfl) ?_
  | with_reducible refine w_isn_t (by with_unfolding_all rfl) ?_
  | with_reducible refine w_isn_f (by with_unfolding_all rfl) ?_
  | with_reducible refine w_is ?_
  | with_reducible refine w_isnot ?_
  | with_reducible refine w_eq_s ?_
  | with_reducible refine w_ne_i ?_
  | with_reducible refine w_ne_s ?_
  | with_reducible refine w_eq_b ?_
  | (with_reducible refine w_ix_s ?_ ?_; try (next => walk_at "sd"))
  | with_reducible refine w_at_rd (by with_unfolding_all rfl) ?_
  | with_reducible refine w_at_r (by with_unfolding_all rfl) ?_
  | (with_reducible refine w_at_im ?_ (fun _ _ => ?_); try (next => walk_at "sd"))
  | (with_reducible refine w_at_d ?_ (fun _ _ _ => ?_); try (next => walk_at "sd"))
  | (with_reducible refine w_at ?_ (fun _ _ _ => ?_); try (next => walk_at "sd"))
  | (with_reducible refine w_sl_s ?_ ?_; try (next => walk_at "sd"))
  | with_reducible refine w_sl_l ?_
  | with_reducible refine w_sl_t ?_
  | with_reducible refine w_slO_l ?_
  | with_reducible refine w_abs ?_
  | with_reducible refine w_int ?_
  | with_reducible refine w_2i ?_
  | with_reducible refine w_list_l ?_
  | with_reducible refine w_list_t ?_
  | with_reducible refine w_it_l ?_
  | with_reducible refine w_it_f ?_
  | with_reducible refine w_it_t ?_
  | with_reducible refine w_it_s ?_
  | (with_reducible refine w_rg1 ?_ ?_; try (next => walk_at "sd"))
  | (with_reducible refine w_rg2 ?_ ?_; try (next => walk_at "sd"))
  | with_reducible refine w_find3 ?_
  | ((with_reducible show RE (fJoin _ [.lst _] _) _ _); refine w_join_one (by assumption) ?_ (fun _ _ => ?_); try (next => walk_at "sd"))
  | with_reducible refine w_isi_bool (by with_unfolding_all rfl) (by with_unfolding_all rfl) ?_
  | with_reducible refine w_isi_int (by with_unfolding_all rfl) (by with_unfolding_all rfl) ?_
  | with_reducible refine w_isi_str (by with_unfolding_all rfl) (by with_unfolding_all rfl) ?_
  | with_reducible refine w_isi_tuple (by with_unfolding_all rfl) (by with_unfolding_all rfl) ?_
  | with_reducible refine w_isi_list (by with_unfolding_all rfl) (by with_unfolding_all rfl) ?_
  | with_reducible refine w_isi (by with_unfolding_all rfl) (by with_unfolding_all rfl) ?_
  | with_reducible refine w_asB ?_)
local macro_rules | `(tactic| walk_at "me") => `(tactic| first
  | with_reducible refine w_bin ?_
  | with_reducible refine w_var (by with_unfolding_all rfl) ?_
  | with_reducible refine w_c ?_
  | with_reducible refine w_args ?_
  | with_reducible refine w_cons ?_
  | with_reducible refine w_nil ?_
  | with_reducible refine w_tB ?_
  | with_reducible refine w_un ?_
  | with_reducible refine w_def0 ?_
  | with_reducible refine w_def ?_
  | with_reducible refine w_call ?_
  | with_reducible refine w_callP ?_
  | with_reducible refine w_oCallP ?_
  | with_reducible refine w_oCall ?_
  | with_reducible refine w_pure ?_
  | with_reducible refine w_and ?_
  | with_reducible refine w_or ?_
  | with_reducible refine w_mNot ?_
  | with_reducible refine w_dand ?_
  | with_reducible refine w_dor ?_
  | with_reducible refine w_dnot ?_
  | with_reducible refine w_dif ?_
  | with_reducible refine w_sl ?_
  | with_reducible refine w_pso ?_
  | with_reducible refine w_pno ?_
  | with_reducible refine w_tup ?_
  | with_reducible refine w_lst ?_
  | with_reducible refine w_fz ?_
  | with_reducible refine w_kwp ?_
  | with_reducible refine w_ixO (by with_unfolding_all rfl) ?_
  | with_reducible refine w_lenO (by with_unfolding_all rfl) ?_
  | with_reducible refine w_meS ?_
  | with_reducible refine w_lOwn (by with_unfolding_all rfl) ?_
  | with_reducible refine w_lVal ?_
  | with_reducible refine w_lNil ?_
  | with_reducible refine w_lend ?_
  | with_reducible refine w_comp ?_
  | with_reducible refine w_yes ?_
  | with_reducible refine w_ok ?_
  | with_reducible refine w_ex ?_
  | with_reducible refine w_bind ?_)
local macro_rules | `(tactic| walk_at "st") => `(tactic| first
  | with_reducible refine s_seq ?_
  | with_reducible refine s_set ?_
  | with_reducible refine s_if ?_
  | with_reducible refine s_nil ?_
  | with_reducible refine s_rt ?_
  | with_reducible refine s_putC ?_
  | with_reducible refine s_setO ?_
  | with_reducible refine s_app (by with_unfolding_all rfl) ?_
  | with_reducible refine s_rtO ?_
  | with_reducible refine s_rtVo (by with_unfolding_all rfl) ?_
  | with_reducible refine s_rtVv (by with_unfolding_all rfl) ?_
  | with_reducible refine s_frz (by with_unfolding_all rfl) ?_
  | with_reducible refine s_exp ?_
  | with_reducible refine s_brk ?_
  | with_reducible refine s_cnt ?_
  | with_reducible refine s_rtN ?_
  | with_reducible refine s_putO (by with_unfolding_all rfl) ?_
  | with_reducible refine s_for ?_
  | with_reducible refine s_prom ?_)
local macro_rules | `(tactic| walk_at "br") => `(tactic| first
  | with_reducible refine isI_i ?_
  | with_reducible refine isS_s ?_
  | with_reducible refine isO_o ?_
  | with_reducible refine rf_v ?_
  | with_reducible refine rf_o ?_
  | with_reducible refine br_t ?_
  | with_reducible refine br_f ?_
  | with_reducible refine br_not ?_
  | (with_reducible refine br_dec (fun _ => ?_) (fun _ => ?_) <;> try (exfalso; omega))
  | with_reducible refine br_any (fun _ => ?_) (fun _ => ?_)
  | with_reducible refine w_lendP (by with_unfolding_all rfl) ?_
  | (with_reducible refine kwp_i (by with_unfolding_all rfl) (by with_unfolding_all rfl) (by repeat (first | exact Sel.z | (apply Sel.s; (next => with_unfolding_all rfl)))) ?_)
  | with_reducible refine w_pt6_0 ?_
  | with_reducible refine w_pt6_1 ?_
  | with_reducible refine w_pt6_2 ?_
  | with_reducible refine w_pt6_3 ?_
  | with_reducible refine w_pt6_4 ?_
  | with_reducible refine w_pt6_5 ?_
  | with_reducible refine w_put (by with_unfolding_all rfl) (by with_unfolding_all rfl) (by with_unfolding_all rfl) ?_)
local macro_rules | `(tactic| walk_at "an") => `(tactic| first
  | ((with_reducible show _ ≤ 16777216 ∧ _); refine And.intro ?_ ?_; try (next => walk_at "sd"))
  | ((with_reducible show _ < 16777216 ∧ _); refine And.intro ?_ ?_; try (next => walk_at "sd"))
  | ((with_reducible show ∃ d, Ret.val _ = Ret.val d ∧ _); refine ⟨_, rfl, rfl, ?_⟩))
local macro_rules | `(tactic| walk_at "cl") => `(tactic| fail)
local macro_rules | `(tactic| walk_at "wp1") => `(tactic| first
  | ((with_reducible show RE _ _ _); first | walk_at "me" | walk_at "op" | walk_at "cl")
  | ((with_reducible show RS _ _); walk_at "st")
  | walk_at "br"
  | walk_at "an")
local macro_rules | `(tactic| walk_at "wp") => `(tactic| repeat' walk_at "wp1")
namespace Lawk01
def TapeD (ds : List D) : Prop := ∃ (cs : List Int) (pos big sm seed turn : Int), 0 ≤ pos ∧ ds = [D.lst (cs.map .int), .int pos, .int big, .int sm, .int seed, .int turn]
theorem tape_mk {cs : List Int} {pos big sm seed turn : Int} (h : 0 ≤ pos) : TapeD [D.lst (cs.map .int), .int pos, .int big, .int sm, .int seed, .int turn] := ⟨cs, pos, big, sm, seed, turn, h, rfl⟩

theorem mixed_w {a b : Int} {S : Cells} {P : Ret → Cells → Prop} {X : Ex → Cells → Prop} (h : ∀ k, P (.val (.int k)) S) : RE (m__law_mixed [.int a, .int b] S) P X := by
  refine w_fn rfl rfl ?_
  unfold b__law_mixed'
  walk_at "wp"
  exact h _
local macro_rules | `(tactic| walk_at "cl") => `(tactic| with_reducible refine mixed_w (fun _ => ?_))

theorem take_w {n : Int} {ds : List D} {P : Ret → Cells → Prop} {X : Ex → Cells → Prop} (hn : n < 9223372036854775808) (ht : TapeD ds) (h : ∀ k ds', TapeD ds' → 0 ≤ k → (k < n ∨ k = 0) → P (.val (.int k)) [ds']) : RE (m__law_take [.cell 0, .int n] [ds]) P X := by
  obtain ⟨cs, pos, big, sm, seed, turn, hp, rfl⟩ := ht
  have fin : ∀ x ds', ¬ n < 2 → TapeD ds' → P (.val (.int (x % n))) [ds'] := fun x ds' h2 h3 => h _ _ h3 (Int.emod_nonneg _ (by omega)) (.inl (Int.emod_lt_of_pos _ (by omega)))
  refine w_fn rfl rfl ?_
  unfold b__law_take'
  walk_at "wp"
  all_goals first | exact fin _ _ (by assumption) (tape_mk (by omega)) | exact h _ _ (tape_mk hp) (Int.le_refl _) (.inr rfl)
local macro_rules | `(tactic| walk_at "cl") => `(tactic| with_reducible refine take_w (by omega) (by assumption) (fun _ _ _ _ _ => ?_))

theorem span_w {a b : Int} {ds : List D} {P : Ret → Cells → Prop} {X : Ex → Cells → Prop} (hn : b - a + 1 < 9223372036854775808) (ht : TapeD ds) (h : ∀ k ds', TapeD ds' → a ≤ k → (k ≤ b ∨ k = a) → P (.val (.int k)) [ds']) : RE (m__law_span [.cell 0, .int a, .int b] [ds]) P X := by
  refine w_fn rfl rfl ?_
  unfold b__law_span'
  walk_at "wp"
  exact h _ _ (by assumption) (by omega) (by omega)
local macro_rules | `(tactic| walk_at "cl") => `(tactic| with_reducible refine span_w (by omega) (by assumption) (fun _ _ _ _ _ => ?_))

theorem rare_w {n : Int} {ds : List D} {P : Ret → Cells → Prop} {X : Ex → Cells → Prop} (hn : n < 9223372036854775808) (ht : TapeD ds) (h : ∀ k ds', TapeD ds' → P (.val (.bl k)) [ds']) : RE (m__law_rare [.cell 0, .int n] [ds]) P X := by
  refine w_fn rfl rfl ?_
  unfold b__law_rare'
  walk_at "wp"
  exact h _ _ (by assumption)
local macro_rules | `(tactic| walk_at "cl") => `(tactic| with_reducible refine rare_w (by omega) (by assumption) (fun _ _ _ => ?_))

theorem pick_l {row : List D} {ds : List D} {P : Ret → Cells → Prop} {X : Ex → Cells → Prop} (ht : TapeD ds) (hn : 0 < row.length ∧ row.length < 9223372036854775808) (h : ∀ x ds', TapeD ds' → x ∈ row → P (.val x) [ds']) : RE (m__law_pick [.cell 0, .lst row] [ds]) P X := by
  refine w_fn rfl rfl ?_
  unfold b__law_pick'
  walk_at "wp"
  exact h _ _ (by assumption) (by assumption)
theorem pick_s {row : List Char} {ds : List D} {P : Ret → Cells → Prop} {X : Ex → Cells → Prop} (ht : TapeD ds) (hn : 0 < row.length ∧ row.length ≤ 16777216) (h : ∀ x ds', TapeD ds' → x ∈ row → P (.val (.str [x])) [ds']) : RE (m__law_pick [.cell 0, .str row] [ds]) P X := by
  refine w_fn rfl rfl ?_
  unfold b__law_pick'
  walk_at "wp"
  exact h _ _ (by assumption) (by assumption)
local macro_rules | `(tactic| walk_at "cl") => `(tactic| (with_reducible refine pick_s (by assumption) ?_ (fun _ _ _ _ => ?_); try (next => walk_at "sd")))
local macro_rules | `(tactic| walk_at "cl") => `(tactic| (with_reducible refine pick_l (by assumption) ?_ (fun _ _ _ _ => ?_); try (next => walk_at "sd")))

theorem in_range_w {a b : Int} {ds : List D} {P : Ret → Cells → Prop} {X : Ex → Cells → Prop} (hn : a ≤ b ∧ b - a + 1 < 9223372036854775808) (ht : TapeD ds) (h : ∀ k ds', TapeD ds' → a ≤ k → k ≤ b → P (.val (.int k)) [ds']) : RE (m__law_in_range [.cell 0, .int a, .int b] [ds]) P X := by
  refine w_fn rfl rfl ?_
  unfold b__law_in_range'
  walk_at "wp"
  · rename_i h1
    simp only [List.mem_cons, List.not_mem_nil, or_false] at h1
    rcases h1 with rfl | rfl
    · exact h _ _ (by assumption) (by omega) (by omega)
    · exact h _ _ (by assumption) (by omega) (by omega)
  · exact h _ _ (by assumption) (by omega) (by omega)
local macro_rules | `(tactic| walk_at "cl") => `(tactic| with_reducible refine in_range_w (by omega) (by assumption) (fun _ _ _ _ _ => ?_))

theorem shuffled_w {row : List D} {ds : List D} {P : Ret → Cells → Prop} {X : Ex → Cells → Prop} (Q : D → Prop) (hr : ∀ d, d ∈ row → Q d) (hn : row.length ≤ 1000) (ht : TapeD ds) (h : ∀ es ds', TapeD ds' → (∀ d, d ∈ es → Q d) → P (.own es) [ds']) : RE (m__law_shuffled [.cell 0, .lst row] [ds]) P X := by
  refine w_fn rfl rfl ?_
  unfold b__law_shuffled'
  walk_at "wp"
  refine for_rg (fun k env S => ∃ left out x4 x5 ds', env = [.val (.cell 0), .val (.lst row), .val (.lst left), .own out, x4, x5] ∧ S = [ds'] ∧ TapeD ds' ∧ left.length + k = row.length ∧ out.length = k ∧ (∀ d, d ∈ left → Q d) ∧ (∀ d, d ∈ out → Q d)) ?_ ?_ ?_
  · exact ⟨row, [], _, _, ds, rfl, rfl, ht, rfl, rfl, hr, fun _ h => nomatch h⟩
  · rintro k env S hk ⟨left, out, x4, x5, ds', rfl, rfl, ht, h1, h2, h3, h4⟩
    refine ⟨_, rfl, ?_⟩
    walk_at "wp"
    · rename_i s _ _ h5 h6 y h7 _
      have := cut_len left none (some s)
      have := cut_len left (some (s + 1)) none
      omega
    · rename_i s dz h8 h5 h6 y h7 _
      obtain ⟨n, rfl⟩ : ∃ n : Nat, s = (n : Int) := ⟨s.toNat, by omega⟩
      refine ⟨_, out ++ [y], _, _, dz, rfl, rfl, h8, ?_, by simp [h2], ?_, ?_⟩
      · have e : ((n : Int) + 1) = ((n + 1 : Nat) : Int) := by omega
        rw [List.length_append, cut_pre, e, cut_suf, List.length_take, List.length_drop]
        omega
      · intro d hd
        rcases List.mem_append.mp hd with hd | hd
        · exact h3 d (cut_sub hd)
        · exact h3 d (cut_sub hd)
      · intro d hd
        rcases List.mem_append.mp hd with hd | hd
        · exact h4 d hd
        · simp at hd
          rw [hd]; exact h3 y h7
  · rintro env S ⟨left, out, x4, x5, ds', rfl, rfl, ht, h1, h2, h3, h4⟩
    walk_at "wp"
    exact h _ _ ht h4

theorem menu_w {ds : List D} {P : Ret → Cells → Prop} {X : Ex → Cells → Prop} (ht : TapeD ds) (h : ∀ x ds', TapeD ds' → 0 < x.length ∧ x.length ≤ 200 → P (.val (.str x)) [ds']) : RE (m__law_menu [.cell 0] [ds]) P X := by
  refine w_fn rfl rfl ?_
  unfold b__law_menu'
  walk_at "wp"
  · simp
  · simp
  · refine take_w (by simp) (by assumption) (fun k ds1 h1 h2 h3 => ?_)
    simp at h3
    walk_at "wp"
    · simp
    · simp; omega
    · simp
    · rename_i hx
      simp only [List.mem_cons, List.not_mem_nil, or_false] at hx
      rcases hx with rfl | rfl | rfl | rfl | rfl | rfl | rfl | rfl <;> exact h _ _ (by assumption) (by simp)
local macro_rules | `(tactic| walk_at "cl") => `(tactic| (with_reducible refine menu_w (by assumption) (fun _ _ _ _ => ?_)))

theorem chars_w {n : Nat} {env : Ev} {cs : List Char} {ds : List D} {P : List D → Cells → Prop} {X : Ex → Cells → Prop} (h0 : ∀ d, ((inEnv env [6]).set 6 (.val d))[0]? = some (.val (.cell 0))) (h1 : ∀ d, ((inEnv env [6]).set 6 (.val d))[1]? = some (.val (.str cs))) (hc : 0 < cs.length ∧ cs.length ≤ 200) (hn : n ≤ 1000) (ht : TapeD ds)
    (h : ∀ es ds', TapeD ds' → es.length = n → (∀ d, d ∈ es → oneC d) → P es [ds']) : RE (compL [6] (gtN 6) mYes (dCall m__law_pick (aDef (aCons (dVar 0) (aCons (dVar 1) aNil)) [])) env (rgD 0 n) [] [ds]) P X := by
  refine comp_rg (fun k acc S => ∃ ds', S = [ds'] ∧ TapeD ds' ∧ acc.length = k ∧ ∀ d, d ∈ acc → oneC d) ⟨ds, rfl, ht, rfl, fun _ h => nomatch h⟩ ?_ ?_
  · rintro k acc S hk ⟨ds', rfl, h2, h3, h4⟩
    refine ⟨_, rfl, w_yes (br_t ?_)⟩
    refine w_call (w_def0 (w_cons (w_var (h0 _) (w_cons (w_var (h1 _) (w_nil ?_))))))
    refine pick_s (by assumption) (by omega) (fun c ds2 h5 _ => rf_v ⟨by omega, ds2, rfl, h5, by simp [h3], ?_⟩)
    intro d hd
    rcases List.mem_append.mp hd with hd | hd
    · exact h4 d hd
    · simp at hd
      exact ⟨c, hd⟩
  · rintro acc S ⟨ds', rfl, h2, h3, h4⟩
    exact h _ _ h2 h3 h4
local macro_rules | `(tactic| walk_at "cl") => `(tactic| (with_reducible refine chars_w (by with_unfolding_all exact fun _ => rfl) (by with_unfolding_all exact fun _ => rfl) (by assumption) ?_ (by assumption) (fun _ _ _ _ _ => ?_); try (next => walk_at "sd")))
section
local macro_rules | `(tactic| walk_at "op") => `(tactic| first
  | (with_reducible refine l_sl_pre ?_ (fun _ _ _ => ?_); next => walk_at "sd")
  | (with_reducible refine l_sl ?_ (fun _ _ => ?_); try (next => walk_at "sd"))
  | (with_reducible refine l_mul ?_ (fun _ _ => ?_); try (next => walk_at "sd"))
  | (with_reducible refine l_add1 ?_ (fun _ _ => ?_); try (next => walk_at "sd"))
  | (with_reducible refine l_add ?_ (fun _ _ => ?_); try (next => walk_at "sd")))
theorem text_w {cs : List Char} {ds : List D} {P : Ret → Cells → Prop} {X : Ex → Cells → Prop} (hc : 0 < cs.length ∧ cs.length ≤ 200) (ht : TapeD ds) (h : ∀ x ds', TapeD ds' → x.length ≤ 20000 → P (.val (.str x)) [ds']) : RE (m__law_text [.cell 0, .str cs] [ds]) P X := by
  refine w_fn rfl rfl ?_
  unfold b__law_text'
  walk_at "wp"
  all_goals exact h _ _ (by assumption) (by walk_at "sd")
end
local macro_rules | `(tactic| walk_at "cl") => `(tactic| (with_reducible refine text_w (by assumption) (by assumption) (fun _ _ _ _ => ?_)))

theorem slice_w {cs : List Char} {ds : List D} {P : Ret → Cells → Prop} {X : Ex → Cells → Prop} (hc : cs.length ≤ 100000) (ht : TapeD ds) (h : ∀ x ds', TapeD ds' → x.length ≤ cs.length → P (.val (.str x)) [ds']) : RE (m__law_slice [.cell 0, .str cs] [ds]) P X := by
  refine w_fn rfl rfl ?_
  unfold b__law_slice'
  walk_at "wp"
  exact h _ _ (by assumption) (cut_len _ _ _)
local macro_rules | `(tactic| walk_at "cl") => `(tactic| (with_reducible refine slice_w ?_ (by assumption) (fun _ _ _ _ => ?_); try (next => walk_at "sd")))
def Tx (d : D) : Prop := ∃ x : List Char, d = .str x ∧ x.length ≤ 100000
section
local macro_rules | `(tactic| walk_at "op") => `(tactic| first
  | (with_reducible refine l_sl_pre ?_ (fun _ _ _ => ?_); next => walk_at "sd")
  | (with_reducible refine l_sl ?_ (fun _ _ => ?_); try (next => walk_at "sd"))
  | (with_reducible refine l_mul ?_ (fun _ _ => ?_); try (next => walk_at "sd"))
  | (with_reducible refine l_add1 ?_ (fun _ _ => ?_); try (next => walk_at "sd"))
  | (with_reducible refine l_add ?_ (fun _ _ => ?_); try (next => walk_at "sd")))

theorem parts_w {cs x y : List Char} {ds : List D} {P : Ret → Cells → Prop} {X : Ex → Cells → Prop} (hc : 0 < cs.length ∧ cs.length ≤ 200) (hx : x.length ≤ 20000) (hy : y.length ≤ 20000) (ht : TapeD ds) (h : ∀ es ds', TapeD ds' → (∀ d, d ∈ es → Tx d) → P (.val (.lst es)) [ds']) : RE (m__law_parts [.cell 0, .str cs, .str x, .str y] [ds]) P X := by
  refine w_fn rfl rfl ?_
  unfold b__law_parts'
  walk_at "wp"
  refine shuffled_w Tx ?_ (by simp) (by assumption) (fun es ds' h1 h2 => ?_)
  · intro d hd
    simp only [List.mem_append, List.mem_cons, List.not_mem_nil, or_false] at hd
    rcases hd with ((rfl | rfl | rfl | rfl | rfl) | rfl) | rfl <;> refine ⟨_, rfl, ?_⟩ <;> first | (simp; done) | omega
  · walk_at "wp"
    exact h _ _ h1 h2
end

theorem same_w : ∀ (n : Nat) (d : D) (S : Cells) (P : Ret → Cells → Prop) (X : Ex → Cells → Prop), Gd n d → P (.val (.bl true)) S → RE (m__law_same n [d, d] S) P X
  | 0, d, S, P, X, g, h => g.elim
  | n + 1, d, S, P, X, g, h => by
    show RE (fnM 2 3 (b__law_same' (m__law_same n)) [d, d] S) P X
    refine w_fn rfl rfl ?_
    unfold b__law_same'
    have ih := same_w n
    cases d with
    | lst ds =>
      have g1 : ds.length < 4611686018427387904 := g.1
      walk_at "wp"
      refine for_rg (fun k env S' => S' = S ∧ ∃ x, env = [.val (.lst ds), .val (.lst ds), x]) ⟨rfl, _, rfl⟩ ?_ ?_
      · rintro k env _ hk ⟨rfl, x, rfl⟩
        refine ⟨_, rfl, ?_⟩
        walk_at "wp"
        rename_i y h1 h2 z h3 h4
        have e : y = z := by
          rw [h2] at h4; exact Option.some.inj h4
        subst e
        refine ih _ _ _ _ (g.2 y h1) ?_
        walk_at "wp"
        exact ⟨rfl, _, rfl⟩
      · rintro env _ ⟨rfl, x, rfl⟩
        walk_at "wp"
        exact h
    | tup ds =>
      have g1 : ds.length < 4611686018427387904 := g.1
      walk_at "wp"
      refine for_rg (fun k env S' => S' = S ∧ ∃ x, env = [.val (.tup ds), .val (.tup ds), x]) ⟨rfl, _, rfl⟩ ?_ ?_
      · rintro k env _ hk ⟨rfl, x, rfl⟩
        refine ⟨_, rfl, ?_⟩
        walk_at "wp"
        rename_i y h1 h2 z h3 h4
        have e : y = z := by
          rw [h2] at h4; exact Option.some.inj h4
        subst e
        refine ih _ _ _ _ (g.2 y h1) ?_
        walk_at "wp"
        exact ⟨rfl, _, rfl⟩
      · rintro env _ ⟨rfl, x, rfl⟩
        walk_at "wp"
        exact h
    | bl b =>
      walk_at "wp"
      simpa using h
    | int b =>
      walk_at "wp"
      simpa using h
    | str b =>
      walk_at "wp"
      simpa using h
    | non =>
      walk_at "wp"
      simpa using h
    | _ => exact g.elim

theorem places_w {x y : List Char} {S : Cells} {P : Ret → Cells → Prop} {X : Ex → Cells → Prop} (hx : x.length ≤ 100000) (hy : y.length ≤ 100000) (h : P (.own (occI x y)) S) : RE (m_places_of [.str y, .str x] S) P X := by
  refine w_fn rfl rfl ?_
  unfold b_places_of'
  walk_at "wp"
  refine comp_rg (fun k acc S' => S' = S ∧ acc = (occs x y k).map fun (n : Nat) => .int (n : Int)) ⟨rfl, rfl⟩ ?_ ?_
  · rintro k acc _ hk ⟨rfl, rfl⟩
    refine ⟨_, rfl, ?_⟩
    have e1 : (0 + (k : Int)) = (k : Int) := by omega
    have e2 : cut x (some (0 + (k : Int))) (some (0 + (k : Int) + (y.length : Int))) = (x.drop k).take y.length := by rw [e1, cut_add _ _ _ (by omega)]
    walk_at "wp"
    · rw [List.length_map]
      have := occs_len x y k
      omega
    · rename_i h1
      rw [e2] at h1
      refine ⟨rfl, ?_⟩
      rw [occs_hit (by unfold occ; simp; exact ⟨by omega, h1⟩), e1, List.map_append]
      rfl
    · rename_i h1
      rw [e2] at h1
      refine ⟨rfl, ?_⟩
      rw [occs_miss (by unfold occ; simp; exact fun _ => h1)]
  · rintro acc _ ⟨rfl, rfl⟩
    walk_at "wp"
    have e : occs x y ((x.length : Int) - (y.length : Int) + 1).toNat = occs x y (x.length + 1) := (occs_gap (by omega) fun k h1 h2 => by unfold occ; simp; omega).symm
    rw [e]
    exact h
local macro_rules | `(tactic| walk_at "cl") => `(tactic| (with_reducible refine places_w ?_ ?_ ?_; try (next => walk_at "sd"); try (next => walk_at "sd")))

theorem found_w {x y : List Char} {S : Cells} {P : Ret → Cells → Prop} {X : Ex → Cells → Prop} (hx : x.length ≤ 100000) (h : P (.own (occI x y)) S) : RE (m__law_found [.str y, .str x] S) P X := by
  refine w_fn rfl rfl ?_
  unfold b__law_found'
  walk_at "wp"
  refine for_rg (fun k env S' => S' = S ∧ ∃ (s : Nat) (x4 : Sl), env = [.val (.str y), .val (.str x), .own ((occs x y s).map fun (n : Nat) => .int (n : Int)), .val (.int ((s : Int) - 1)), x4] ∧ s ≤ x.length + 1 ∧ (occs x y s).length = k) ⟨rfl, 0, _, rfl, by omega, rfl⟩ ?_ ?_
  · rintro k env _ hk ⟨rfl, s, x4, rfl, hs, hl⟩
    refine ⟨_, rfl, ?_⟩
    have e : ((s : Int) - 1 + 1) = (s : Int) := by omega
    have hf := f3_occ x y s
    rw [← e] at hf
    walk_at "wp"
    · rename_i h1
      rcases hf with ⟨_, h2⟩ | ⟨r, h2, _⟩
      · have e3 : occs x y s = occs x y (x.length + 1) := (occs_gap hs fun k h3 _ => h2 k h3).symm
        rw [e3]
        exact h
      · rw [h2] at h1
        omega
    · rename_i h1
      rcases hf with ⟨h2, _⟩ | ⟨r, h2, h3, h4, h5⟩
      · rw [h2] at h1
        omega
      · have e3 : occs x y r = occs x y s := occs_gap h3 h5
        have e4 := occs_hit h4
        refine ⟨rfl, r + 1, .val (.int (0 + (k : Int))), ?_, ?_, ?_⟩
        · rw [h2, e4, e3]
          have e5 : (((r + 1 : Nat) : Int) - 1) = (r : Int) := by omega
          rw [e5, List.map_append]
          rfl
        · have := occ_le h4
          omega
        · rw [e4, e3, List.length_append, hl]
          rfl
  · rintro env _ ⟨rfl, s, x4, rfl, hs, hl⟩
    have := occs_len x y s
    exfalso
    omega
local macro_rules | `(tactic| walk_at "cl") => `(tactic| (with_reducible refine found_w ?_ ?_; try (next => walk_at "sd")))

theorem draws_w {ns : List Int} {S : Cells} {P : Ret → Cells → Prop} {X : Ex → Cells → Prop} (hn : ns.length ≤ 63) (h : P (.own [.lst (ns.map .int), .int 0, .int 0, .int 0, .int 1, .int 0]) S) : RE (m__law_draws [.frl (ns.map .int)] S) P X := by
  refine w_fn rfl rfl ?_
  unfold b__law_draws'
  walk_at "wp"
  refine comp_at (fun a b acc S' => S' = S ∧ acc = a) ⟨rfl, rfl⟩ ?_ ?_
  · rintro a d b acc _ e ⟨rfl, rfl⟩
    refine ⟨_, rfl, ?_⟩
    have hm : d ∈ ns.map D.int := by rw [e]; simp
    obtain ⟨c, _, rfl⟩ := List.mem_map.mp hm
    have hl := congrArg List.length e
    simp at hl
    walk_at "wp"
    exact ⟨rfl, rfl⟩
  · rintro acc _ ⟨rfl, rfl⟩
    walk_at "wp"
    exact h
local macro_rules | `(tactic| walk_at "cl") => `(tactic| (with_reducible refine draws_w (by assumption) ?_))

theorem gd_occ {n : Nat} {x y : List Char} (h : x.length ≤ 100000) : Gd (n + 2) (.lst (occI x y)) := gd_ints (Nat.lt_of_le_of_lt (occs_len x y _) (by omega))
local macro_rules | `(tactic| walk_at "cl") => `(tactic| (with_reducible refine menu_w (by assumption) (fun _ _ _ _ => ?_)))
local macro_rules | `(tactic| walk_at "cl") => `(tactic| (with_reducible refine text_w (by assumption) (by assumption) (fun _ _ _ _ => ?_)))
local macro_rules | `(tactic| walk_at "cl") => `(tactic| (with_reducible refine parts_w (by assumption) (by assumption) (by assumption) (by assumption) (fun _ _ _ _ => ?_)))
local macro_rules | `(tactic| walk_at "cl") => `(tactic| (with_reducible refine same_w _ _ _ _ _ ?_ ?_; next => exact gd_occ (by omega)))
theorem noCs_int : ∀ ns : List Int, noCs (ns.map .int) = true
  | [] => rfl
  | n :: r => by
    show (noC (.int n) && noCs (r.map .int)) = true
    rw [noCs_int r]; rfl
theorem law_true (ns : List Int) (hn : ns.length ≤ 63) : ∃ S, m_law [.frl (ns.map .int)] [] = .ok (.val (.bl true)) S := by
  refine re_out ?_
  refine w_fn rfl rfl ?_
  unfold b_law'
  walk_at "wp"
  refine ⟨rfl, ⟨?_, ?_⟩, ?_⟩
  · simp [clf, noC, noCs_int]
  · simp [noC, noCs, noCs_int]
  have ht := tape_mk (cs := ns) (pos := 0) (big := 0) (sm := 0) (seed := 1) (turn := 0) (by omega)
  walk_at "wp"
  rename_i cs d1 t1 hcs x d2 t2 hx y d3 t3 hy es d4 t4 hes
  refine for_mem (fun env S => ∃ x5 x6 x7 x8 d, env = [.val (.frl (ns.map .int)), .val (.cell 0), .val (.str cs), .val (.str x), .val (.str y), x5, x6, x7, x8] ∧ S = [d]) ⟨_, _, _, _, _, rfl, rfl⟩ ?_ ?_
  · rintro d env _ hd ⟨x5, x6, x7, x8, dd, rfl, rfl⟩
    obtain ⟨z, rfl, hz⟩ := hes d hd
    refine ⟨_, rfl, ?_⟩
    have hl := occI_len x z
    walk_at "wp"
    refine ⟨0, ixN_0 (by simp), ?_⟩
    walk_at "wp"
    exact ⟨_, _, _, _, _, rfl, rfl⟩
  · rintro env _ ⟨x5, x6, x7, x8, dd, rfl, rfl⟩
    have hz : ("".toList).length ≤ 100000 := by simp
    walk_at "wp"
    refine same_w _ _ _ _ _ ?_ ?_
    · exact gd_occ (by omega)
    walk_at "wp"
    rfl
end Lawk01
end
namespace Lawk01
open PySem PySem.Spec PyProof.Rows L2 TT
def topS (i : Nat) : Stmt := PySem.Challenge.pw_wayfill_k01_places_of_a_part.main.body.getD i (.Pass ⟨0, 0, 0, 0⟩)
abbrev s_places_of : Stmt := topS 1
abbrev N_places_of : List Str := ["part", "word", "size", "at"]
theorem sc_places_of : FnScope N_places_of ["part", "word"] (defScope s_places_of) := ⟨rfl, rfl, rfl, by decide +kernel, rfl, by decide +kernel, by decide +kernel⟩
abbrev s__law_draws : Stmt := topS 3
abbrev N__law_draws : List Str := ["_law_script", "_law_cell"]
theorem sc__law_draws : FnScope N__law_draws ["_law_script"] (defScope s__law_draws) := ⟨rfl, rfl, rfl, by decide +kernel, rfl, by decide +kernel, by decide +kernel⟩
abbrev s__law_mixed : Stmt := topS 4
abbrev N__law_mixed : List Str := ["_law_seed", "_law_turn", "_law_first", "_law_second"]
theorem sc__law_mixed : FnScope N__law_mixed ["_law_seed", "_law_turn"] (defScope s__law_mixed) := ⟨rfl, rfl, rfl, by decide +kernel, rfl, by decide +kernel, by decide +kernel⟩
abbrev s__law_take : Stmt := topS 5
abbrev N__law_take : List Str := ["_law_store", "_law_size", "_law_cell", "_law_drawn"]
theorem sc__law_take : FnScope N__law_take ["_law_store", "_law_size"] (defScope s__law_take) := ⟨rfl, rfl, rfl, by decide +kernel, rfl, by decide +kernel, by decide +kernel⟩
abbrev s__law_span : Stmt := topS 6
abbrev N__law_span : List Str := ["_law_store", "_law_low", "_law_high"]
theorem sc__law_span : FnScope N__law_span ["_law_store", "_law_low", "_law_high"] (defScope s__law_span) := ⟨rfl, rfl, rfl, by decide +kernel, rfl, by decide +kernel, by decide +kernel⟩
abbrev s__law_rare : Stmt := topS 7
abbrev N__law_rare : List Str := ["_law_store", "_law_size"]
theorem sc__law_rare : FnScope N__law_rare ["_law_store", "_law_size"] (defScope s__law_rare) := ⟨rfl, rfl, rfl, by decide +kernel, rfl, by decide +kernel, by decide +kernel⟩
abbrev s__law_pick : Stmt := topS 8
abbrev N__law_pick : List Str := ["_law_store", "_law_row"]
theorem sc__law_pick : FnScope N__law_pick ["_law_store", "_law_row"] (defScope s__law_pick) := ⟨rfl, rfl, rfl, by decide +kernel, rfl, by decide +kernel, by decide +kernel⟩
abbrev s__law_in_range : Stmt := topS 9
abbrev N__law_in_range : List Str := ["_law_store", "_law_low", "_law_high"]
theorem sc__law_in_range : FnScope N__law_in_range ["_law_store", "_law_low", "_law_high"] (defScope s__law_in_range) := ⟨rfl, rfl, rfl, by decide +kernel, rfl, by decide +kernel, by decide +kernel⟩
abbrev s__law_shuffled : Stmt := topS 10
abbrev N__law_shuffled : List Str := ["_law_store", "_law_row", "_law_left", "_law_out", "_law_k", "_law_spot"]
theorem sc__law_shuffled : FnScope N__law_shuffled ["_law_store", "_law_row"] (defScope s__law_shuffled) := ⟨rfl, rfl, rfl, by decide +kernel, rfl, by decide +kernel, by decide +kernel⟩
abbrev s__law_same : Stmt := topS 11
abbrev N__law_same : List Str := ["_law_told", "_law_due", "_law_k"]
theorem sc__law_same : FnScope N__law_same ["_law_told", "_law_due"] (defScope s__law_same) := ⟨rfl, rfl, rfl, by decide +kernel, rfl, by decide +kernel, by decide +kernel⟩
abbrev s__law_found : Stmt := topS 12
abbrev N__law_found : List Str := ["_law_look", "_law_text_here", "_law_out", "_law_spot", "_law_k"]
theorem sc__law_found : FnScope N__law_found ["_law_look", "_law_text_here"] (defScope s__law_found) := ⟨rfl, rfl, rfl, by decide +kernel, rfl, by decide +kernel, by decide +kernel⟩
abbrev s__law_menu : Stmt := topS 13
abbrev N__law_menu : List Str := ["_law_store", "_law_chars", "_law_start"]
theorem sc__law_menu : FnScope N__law_menu ["_law_store"] (defScope s__law_menu) := ⟨rfl, rfl, rfl, by decide +kernel, rfl, by decide +kernel, by decide +kernel⟩
abbrev s__law_text : Stmt := topS 14
abbrev N__law_text : List Str := ["_law_store", "_law_chars", "_law_size", "_law_piece", "_law_text_here", "_law_spot", "_law_k"]
theorem sc__law_text : FnScope N__law_text ["_law_store", "_law_chars"] (defScope s__law_text) := ⟨rfl, rfl, rfl, by decide +kernel, rfl, by decide +kernel, by decide +kernel⟩
abbrev s__law_slice : Stmt := topS 15
abbrev N__law_slice : List Str := ["_law_store", "_law_text_here", "_law_spot"]
theorem sc__law_slice : FnScope N__law_slice ["_law_store", "_law_text_here"] (defScope s__law_slice) := ⟨rfl, rfl, rfl, by decide +kernel, rfl, by decide +kernel, by decide +kernel⟩
abbrev s__law_parts : Stmt := topS 16
abbrev N__law_parts : List Str := ["_law_store", "_law_chars", "_law_text_here", "_law_other", "_law_out", "_law_bent", "_law_k"]
theorem sc__law_parts : FnScope N__law_parts ["_law_store", "_law_chars", "_law_text_here", "_law_other"] (defScope s__law_parts) := ⟨rfl, rfl, rfl, by decide +kernel, rfl, by decide +kernel, by decide +kernel⟩
abbrev s_law : Stmt := topS 17
abbrev N_law : List Str := ["_law_script", "_law_store", "_law_chars", "_law_first", "_law_second", "_law_look", "_law_due", "_law_other_due", "_law_told"]
theorem sc_law : FnScope N_law ["_law_script"] (defScope s_law) := ⟨rfl, rfl, rfl, by decide +kernel, rfl, by decide +kernel, by decide +kernel⟩
structure Fx (K : PySem.W.Frag) (mg : Str → Option Value) : Type where
  f_places_of : Addr
  d_places_of : FuncData
  F_places_of : Fun K "places_of" "places_of" s_places_of f_places_of d_places_of
  g_places_of : mg "places_of" = some (.ref f_places_of)
  f__law_draws : Addr
  d__law_draws : FuncData
  F__law_draws : Fun K "_law_draws" "_law_draws" s__law_draws f__law_draws d__law_draws
  g__law_draws : mg "_law_draws" = some (.ref f__law_draws)
  f__law_mixed : Addr
  d__law_mixed : FuncData
  F__law_mixed : Fun K "_law_mixed" "_law_mixed" s__law_mixed f__law_mixed d__law_mixed
  g__law_mixed : mg "_law_mixed" = some (.ref f__law_mixed)
  f__law_take : Addr
  d__law_take : FuncData
  F__law_take : Fun K "_law_take" "_law_take" s__law_take f__law_take d__law_take
  g__law_take : mg "_law_take" = some (.ref f__law_take)
  f__law_span : Addr
  d__law_span : FuncData
  F__law_span : Fun K "_law_span" "_law_span" s__law_span f__law_span d__law_span
  g__law_span : mg "_law_span" = some (.ref f__law_span)
  f__law_rare : Addr
  d__law_rare : FuncData
  F__law_rare : Fun K "_law_rare" "_law_rare" s__law_rare f__law_rare d__law_rare
  g__law_rare : mg "_law_rare" = some (.ref f__law_rare)
  f__law_pick : Addr
  d__law_pick : FuncData
  F__law_pick : Fun K "_law_pick" "_law_pick" s__law_pick f__law_pick d__law_pick
  g__law_pick : mg "_law_pick" = some (.ref f__law_pick)
  f__law_in_range : Addr
  d__law_in_range : FuncData
  F__law_in_range : Fun K "_law_in_range" "_law_in_range" s__law_in_range f__law_in_range d__law_in_range
  g__law_in_range : mg "_law_in_range" = some (.ref f__law_in_range)
  f__law_shuffled : Addr
  d__law_shuffled : FuncData
  F__law_shuffled : Fun K "_law_shuffled" "_law_shuffled" s__law_shuffled f__law_shuffled d__law_shuffled
  g__law_shuffled : mg "_law_shuffled" = some (.ref f__law_shuffled)
  f__law_same : Addr
  d__law_same : FuncData
  F__law_same : Fun K "_law_same" "_law_same" s__law_same f__law_same d__law_same
  g__law_same : mg "_law_same" = some (.ref f__law_same)
  f__law_found : Addr
  d__law_found : FuncData
  F__law_found : Fun K "_law_found" "_law_found" s__law_found f__law_found d__law_found
  g__law_found : mg "_law_found" = some (.ref f__law_found)
  f__law_menu : Addr
  d__law_menu : FuncData
  F__law_menu : Fun K "_law_menu" "_law_menu" s__law_menu f__law_menu d__law_menu
  g__law_menu : mg "_law_menu" = some (.ref f__law_menu)
  f__law_text : Addr
  d__law_text : FuncData
  F__law_text : Fun K "_law_text" "_law_text" s__law_text f__law_text d__law_text
  g__law_text : mg "_law_text" = some (.ref f__law_text)
  f__law_slice : Addr
  d__law_slice : FuncData
  F__law_slice : Fun K "_law_slice" "_law_slice" s__law_slice f__law_slice d__law_slice
  g__law_slice : mg "_law_slice" = some (.ref f__law_slice)
  f__law_parts : Addr
  d__law_parts : FuncData
  F__law_parts : Fun K "_law_parts" "_law_parts" s__law_parts f__law_parts d__law_parts
  g__law_parts : mg "_law_parts" = some (.ref f__law_parts)
  f_law : Addr
  d_law : FuncData
  F_law : Fun K "law" "law" s_law f_law d_law
  g_law : mg "law" = some (.ref f_law)
  b_abs : mg "abs" = none
  b_bool : mg "bool" = none
  b_int : mg "int" = none
  b_isinstance : mg "isinstance" = none
  b_len : mg "len" = none
  b_list : mg "list" = none
  b_min : mg "min" = none
  b_range : mg "range" = none
  b_str : mg "str" = none
  b_tuple : mg "tuple" = none
section
variable {P : Program} {w : World} {K : PySem.W.Frag} {mg : Str → Option Value} {base : Heap} {cv : String → Value}
theorem b_places_of (T : Fx K mg) : Binds K T.d_places_of ["part", "word"] [] := T.F_places_of.binds fun _ _ _ _ _ _ us hl => match us, hl with | [_, _], _ => rfl
theorem b__law_draws (T : Fx K mg) : Binds K T.d__law_draws ["_law_script"] [] := T.F__law_draws.binds fun _ _ _ _ _ _ us hl => match us, hl with | [_], _ => rfl
theorem b__law_mixed (T : Fx K mg) : Binds K T.d__law_mixed ["_law_seed", "_law_turn"] [] := T.F__law_mixed.binds fun _ _ _ _ _ _ us hl => match us, hl with | [_, _], _ => rfl
theorem b__law_take (T : Fx K mg) : Binds K T.d__law_take ["_law_store", "_law_size"] [] := T.F__law_take.binds fun _ _ _ _ _ _ us hl => match us, hl with | [_, _], _ => rfl
theorem b__law_span (T : Fx K mg) : Binds K T.d__law_span ["_law_store", "_law_low", "_law_high"] [] := T.F__law_span.binds fun _ _ _ _ _ _ us hl => match us, hl with | [_, _, _], _ => rfl
theorem b__law_rare (T : Fx K mg) : Binds K T.d__law_rare ["_law_store", "_law_size"] [] := T.F__law_rare.binds fun _ _ _ _ _ _ us hl => match us, hl with | [_, _], _ => rfl
theorem b__law_pick (T : Fx K mg) : Binds K T.d__law_pick ["_law_store", "_law_row"] [] := T.F__law_pick.binds fun _ _ _ _ _ _ us hl => match us, hl with | [_, _], _ => rfl
theorem b__law_in_range (T : Fx K mg) : Binds K T.d__law_in_range ["_law_store", "_law_low", "_law_high"] [] := T.F__law_in_range.binds fun _ _ _ _ _ _ us hl => match us, hl with | [_, _, _], _ => rfl
theorem b__law_shuffled (T : Fx K mg) : Binds K T.d__law_shuffled ["_law_store", "_law_row"] [] := T.F__law_shuffled.binds fun _ _ _ _ _ _ us hl => match us, hl with | [_, _], _ => rfl
theorem b__law_same (T : Fx K mg) : Binds K T.d__law_same ["_law_told", "_law_due"] [] := T.F__law_same.binds fun _ _ _ _ _ _ us hl => match us, hl with | [_, _], _ => rfl
theorem b__law_found (T : Fx K mg) : Binds K T.d__law_found ["_law_look", "_law_text_here"] [] := T.F__law_found.binds fun _ _ _ _ _ _ us hl => match us, hl with | [_, _], _ => rfl
theorem b__law_menu (T : Fx K mg) : Binds K T.d__law_menu ["_law_store"] [] := T.F__law_menu.binds fun _ _ _ _ _ _ us hl => match us, hl with | [_], _ => rfl
theorem b__law_text (T : Fx K mg) : Binds K T.d__law_text ["_law_store", "_law_chars"] [] := T.F__law_text.binds fun _ _ _ _ _ _ us hl => match us, hl with | [_, _], _ => rfl
theorem b__law_slice (T : Fx K mg) : Binds K T.d__law_slice ["_law_store", "_law_text_here"] [] := T.F__law_slice.binds fun _ _ _ _ _ _ us hl => match us, hl with | [_, _], _ => rfl
theorem b__law_parts (T : Fx K mg) : Binds K T.d__law_parts ["_law_store", "_law_chars", "_law_text_here", "_law_other"] [] := T.F__law_parts.binds fun _ _ _ _ _ _ us hl => match us, hl with | [_, _, _, _], _ => rfl
theorem b_law (T : Fx K mg) : Binds K T.d_law ["_law_script"] [] := T.F_law.binds fun _ _ _ _ _ _ us hl => match us, hl with | [_], _ => rfl
theorem kw_places_of_0 (T : Fx K mg) : KwB K T.d_places_of ["part", "word"] 0 ["part", "word"] [0, 1] := kwb T.F_places_of fun _ _ _ _ _ _ us ws h1 h2 => match us, ws, h1, h2 with | [], [_, _], _, _ => rfl
theorem kw_places_of_1 (T : Fx K mg) : KwB K T.d_places_of ["part", "word"] 0 ["word", "part"] [1, 0] := kwb T.F_places_of fun _ _ _ _ _ _ us ws h1 h2 => match us, ws, h1, h2 with | [], [_, _], _, _ => rfl
theorem ok_places_of (T : Fx K mg) : FnOk P w K mg base (L2.CX P w) 1 T.f_places_of T.d_places_of ["part", "word"] (spT ⟨K, cv⟩ m_places_of) :=
  fn_ok (k := 0) T.F_places_of sc_places_of fun cdv A outer s H E hr =>
    (db_cons (ds_set 2 sc_places_of.nd (de_callB call_len f_len rfl T.b_len (by decide +kernel) (da_cons (de_var 0) da_nil)))
    (db_one (ds_retO (do_lc (own := [("at", 3)]) rfl sc_places_of.nd (by decide) (di_range1 rfl T.b_range (da_cons (de_bin o2_add f_add (de_bin op_sub f_sub (de_callB call_len f_len rfl T.b_len (by decide +kernel) (da_cons (de_var 1) da_nil)) (de_var 2)) de_int) da_nil)) (blkOk_by (N := N_places_of) (sc := defScope s_places_of) (by decide +kernel)) (fun _ _ _ _ _ => (dg_name 3 sc_places_of.nd)) (fun _ _ _ _ _ => (dts_one (dt_cmp (op_eqD hr.units) f_eq (de_sl (de_var 1) (dp_some (de_var 3)) (dp_some (de_bin o2_add f_add (de_var 3) (de_var 2)))) (de_var 0) (nomark _)))) (fun _ _ _ _ _ => (de_var 3))))))
theorem ok__law_draws (T : Fx K mg) : FnOk P w K mg base (L2.CX P w) 1 T.f__law_draws T.d__law_draws ["_law_script"] (spT ⟨K, cv⟩ m__law_draws) :=
  fn_ok (k := 0) T.F__law_draws sc__law_draws fun cdv A outer s H E hr =>
    (db_one (ds_retO (do_lst (da_cons (de_fz (do_lc (own := [("_law_cell", 1)]) rfl sc__law_draws.nd (by decide) (di_any (de_var 0)) (blkOk_by (N := N__law_draws) (sc := defScope s__law_draws) (by decide +kernel)) (fun _ _ _ _ _ => (dg_name 1 sc__law_draws.nd)) (fun _ _ _ _ _ => dts_nil) (fun _ _ _ _ _ => (de_callTy call_int1 f_int rfl T.b_int (by decide +kernel) (da_cons (de_var 1) da_nil))))) (da_cons de_int (da_cons de_int (da_cons de_int (da_cons de_int (da_cons de_int da_nil)))))))))
theorem ok__law_mixed (T : Fx K mg) : FnOk P w K mg base (L2.CX P w) 1 T.f__law_mixed T.d__law_mixed ["_law_seed", "_law_turn"] (spT ⟨K, cv⟩ m__law_mixed) :=
  fn_ok (k := 0) T.F__law_mixed sc__law_mixed fun cdv A outer s H E hr =>
    (db_cons (ds_set 2 sc__law_mixed.nd (de_bin op_mod f_mod (de_callTy call_int1 f_int rfl T.b_int (by decide +kernel) (da_cons (de_bin o2_add f_add (de_bin o2_add f_add (de_bin o2_mul f_mul (de_var 0) de_int) (de_bin o2_mul f_mul (de_var 1) de_int)) de_int) da_nil)) de_int))
    (db_cons (ds_set 3 sc__law_mixed.nd (de_bin op_mod f_mod (de_callTy call_int1 f_int rfl T.b_int (by decide +kernel) (da_cons (de_bin o2_add f_add (de_bin o2_add f_add (de_bin o2_mul f_mul (de_var 2) (de_var 2)) (de_bin o2_mul f_mul (de_var 1) de_int)) de_int) da_nil)) de_int))
    (db_one (ds_ret (de_bin op_mod f_mod (de_callTy call_int1 f_int rfl T.b_int (by decide +kernel) (da_cons (de_bin o2_add f_add (de_bin o2_mul f_mul (de_var 3) (de_var 3)) (de_var 2)) da_nil)) de_int)))))
theorem ok__law_take (T : Fx K mg) : FnOk P w K mg base (L2.CX P w) 2 T.f__law_take T.d__law_take ["_law_store", "_law_size"] (spT ⟨K, cv⟩ m__law_take) :=
  fn_ok (k := 1) T.F__law_take sc__law_take fun cdv A outer s H E hr =>
    (db_cons (ds_if (dt_cmp o2_lt f_ord (de_var 1) de_int (nomark _)) (db_one (ds_ret de_int)) db_nil)
    (db_cons (ds_if (dt_w (dw_and (dt_cmp (op_eqD hr.units) f_eq (de_ix ix_seq f_ix (de_var 0) de_int) de_int (nomark _)) (dw_and (dt_cmp (op_eqD hr.units) f_eq (de_ix ix_seq f_ix (de_var 0) de_int) de_int (nomark _)) (dw_and1 (dt_cmp o2_lt f_ord (de_ix ix_seq f_ix (de_var 0) de_int) (de_callB call_len f_len rfl T.b_len (by decide +kernel) (da_cons (de_ix ix_seq f_ix (de_var 0) de_int) da_nil)) (nomark _)))))) (db_cons (ds_set 2 sc__law_take.nd (de_ix ix_seq f_ix (de_ix ix_seq f_ix (de_var 0) de_int) (de_ix ix_seq f_ix (de_var 0) de_int)))
    (db_cons (ds_putC (de_bin o2_add f_add (de_ix ix_seq f_ix (de_var 0) de_int) de_int) (de_var 0) de_int)
    (db_cons (ds_putC (de_bin op_mod f_mod (de_callTy call_int1 f_int rfl T.b_int (by decide +kernel) (da_cons (de_bin o2_add f_add (de_bin o2_mul f_mul (de_ix ix_seq f_ix (de_var 0) de_int) de_int) (de_var 2)) da_nil)) de_int) (de_var 0) de_int)
    (db_one (ds_if (dt_w (dw_or (dt_cmp o2_ge f_ord (de_var 2) (de_bin op_pow f_pow de_int de_int) (nomark _)) (dw_or1 (dt_cmp o2_ge f_ord (de_un un_neg f_neg (de_var 2)) (de_bin op_pow f_pow de_int de_int) (nomark _))))) (db_one (ds_putC (de_callB call_abs f_abs rfl T.b_abs (by decide +kernel) (da_cons (de_var 2) da_nil)) (de_var 0) de_int)) (db_one (ds_putC de_int (de_var 0) de_int))))))) db_nil)
    (db_cons (ds_if (dt_cmp o2_gt f_ord (de_ix ix_seq f_ix (de_var 0) de_int) de_int (nomark _)) (db_cons (ds_set 3 sc__law_take.nd (de_bin op_mod f_mod (de_callTy call_int1 f_int rfl T.b_int (by decide +kernel) (da_cons (de_ix ix_seq f_ix (de_var 0) de_int) da_nil)) (de_var 1)))
    (db_cons (ds_putC (de_bin op_fdivW f_fdiv (de_ix ix_seq f_ix (de_var 0) de_int) (de_var 1)) (de_var 0) de_int)
    (db_one (ds_ret (de_var 3))))) db_nil)
    (db_cons (ds_if (dt_cmp o2_gt f_ord (de_ix ix_seq f_ix (de_var 0) de_int) de_int (nomark _)) (db_one (ds_putC (de_bin op_sub f_sub (de_ix ix_seq f_ix (de_var 0) de_int) de_int) (de_var 0) de_int)) db_nil)
    (db_cons (ds_putC (de_bin o2_add f_add (de_ix ix_seq f_ix (de_var 0) de_int) de_int) (de_var 0) de_int)
    (db_one (ds_ret (de_bin op_mod f_mod (de_callTy call_int1 f_int rfl T.b_int (by decide +kernel) (da_cons (de_callP (takes_of rfl rfl rfl rfl) (ok__law_mixed T) (hr.mono (by decide)) (dc_pos rfl T.g__law_mixed T.F__law_mixed.kp (b__law_mixed T) .nil (fun _ _ => rfl) (da_cons (de_ix ix_seq f_ix (de_var 0) de_int) (da_cons (de_ix ix_seq f_ix (de_var 0) de_int) da_nil)))) da_nil)) (de_var 1)))))))))
theorem ok__law_span (T : Fx K mg) : FnOk P w K mg base (L2.CX P w) 3 T.f__law_span T.d__law_span ["_law_store", "_law_low", "_law_high"] (spT ⟨K, cv⟩ m__law_span) :=
  fn_ok (k := 2) T.F__law_span sc__law_span fun cdv A outer s H E hr =>
    (db_one (ds_ret (de_bin o2_add f_add (de_var 1) (de_call (takes_of rfl rfl rfl rfl) (ok__law_take T) (hr.mono (by decide)) (dc_pos rfl T.g__law_take T.F__law_take.kp (b__law_take T) .nil (fun _ _ => rfl) (da_cons (de_var 0) (da_cons (de_bin o2_add f_add (de_bin op_sub f_sub (de_var 2) (de_var 1)) de_int) da_nil)))))))
theorem ok__law_rare (T : Fx K mg) : FnOk P w K mg base (L2.CX P w) 3 T.f__law_rare T.d__law_rare ["_law_store", "_law_size"] (spT ⟨K, cv⟩ m__law_rare) :=
  fn_ok (k := 2) T.F__law_rare sc__law_rare fun cdv A outer s H E hr =>
    (db_one (ds_ret (de_cmp (op_eqD hr.units) f_eq (de_call (takes_of rfl rfl rfl rfl) (ok__law_take T) (hr.mono (by decide)) (dc_pos rfl T.g__law_take T.F__law_take.kp (b__law_take T) .nil (fun _ _ => rfl) (da_cons (de_var 0) (da_cons (de_var 1) da_nil)))) (de_bin op_sub f_sub (de_var 1) de_int) (nomark _))))
theorem ok__law_pick (T : Fx K mg) : FnOk P w K mg base (L2.CX P w) 3 T.f__law_pick T.d__law_pick ["_law_store", "_law_row"] (spT ⟨K, cv⟩ m__law_pick) :=
  fn_ok (k := 2) T.F__law_pick sc__law_pick fun cdv A outer s H E hr =>
    (db_one (ds_ret (de_ix ix_seq f_ix (de_var 1) (de_call (takes_of rfl rfl rfl rfl) (ok__law_take T) (hr.mono (by decide)) (dc_pos rfl T.g__law_take T.F__law_take.kp (b__law_take T) .nil (fun _ _ => rfl) (da_cons (de_var 0) (da_cons (de_callB call_len f_len rfl T.b_len (by decide +kernel) (da_cons (de_var 1) da_nil)) da_nil)))))))
theorem ok__law_in_range (T : Fx K mg) : FnOk P w K mg base (L2.CX P w) 4 T.f__law_in_range T.d__law_in_range ["_law_store", "_law_low", "_law_high"] (spT ⟨K, cv⟩ m__law_in_range) :=
  fn_ok (k := 3) T.F__law_in_range sc__law_in_range fun cdv A outer s H E hr =>
    (db_cons (ds_if (dt_cmp (op_eqD hr.units) f_eq (de_call (takes_of rfl rfl rfl rfl) (ok__law_take T) (hr.mono (by decide)) (dc_pos rfl T.g__law_take T.F__law_take.kp (b__law_take T) .nil (fun _ _ => rfl) (da_cons (de_var 0) (da_cons de_int da_nil)))) de_int (nomark _)) (db_one (ds_ret (de_call (takes_of rfl rfl rfl rfl) (ok__law_pick T) (hr.mono (by decide)) (dc_pos rfl T.g__law_pick T.F__law_pick.kp (b__law_pick T) .nil (fun _ _ => rfl) (da_cons (de_var 0) (da_cons (de_fz (do_lst (da_cons (de_var 1) (da_cons (de_var 2) da_nil)))) da_nil)))))) db_nil)
    (db_one (ds_ret (de_call (takes_of rfl rfl rfl rfl) (ok__law_span T) (hr.mono (by decide)) (dc_pos rfl T.g__law_span T.F__law_span.kp (b__law_span T) .nil (fun _ _ => rfl) (da_cons (de_var 0) (da_cons (de_var 1) (da_cons (de_var 2) da_nil))))))))
theorem ok__law_shuffled (T : Fx K mg) : FnOk P w K mg base (L2.CX P w) 3 T.f__law_shuffled T.d__law_shuffled ["_law_store", "_law_row"] (spT ⟨K, cv⟩ m__law_shuffled) :=
  fn_ok (k := 2) T.F__law_shuffled sc__law_shuffled fun cdv A outer s H E hr =>
    (db_cons (ds_set 2 sc__law_shuffled.nd (de_fz (do_callTy call_list_of f_list rfl T.b_list (by decide +kernel) (da_cons (de_var 1) da_nil))))
    (db_cons (ds_setO 3 sc__law_shuffled.nd (do_lst da_nil))
    (db_cons (ds_for (passes_of rfl) rfl (di_range1 rfl T.b_range (da_cons (de_callB call_len f_len rfl T.b_len (by decide +kernel) (da_cons (de_var 1) da_nil)) da_nil)) (dg_name 4 sc__law_shuffled.nd) (db_cons (ds_set 5 sc__law_shuffled.nd (de_call (takes_of rfl rfl rfl rfl) (ok__law_take T) (hr.mono (by decide)) (dc_pos rfl T.g__law_take T.F__law_take.kp (b__law_take T) .nil (fun _ _ => rfl) (da_cons (de_var 0) (da_cons (de_callB call_len f_len rfl T.b_len (by decide +kernel) (da_cons (de_var 2) da_nil)) da_nil)))))
    (db_cons (ds_app 3 (de_ix ix_seq f_ix (de_var 2) (de_var 5)))
    (db_one (ds_set 2 sc__law_shuffled.nd (de_bin o2_add f_add (de_sl (de_var 2) dp_none (dp_some (de_var 5))) (de_sl (de_var 2) (dp_some (de_bin o2_add f_add (de_var 5) de_int)) dp_none)))))))
    (db_one (ds_retV 3)))))
theorem ok__law_same (T : Fx K mg) : ∀ n : Nat, FnOk P w K mg base (L2.CX P w) (1 + n) T.f__law_same T.d__law_same ["_law_told", "_law_due"] (spT ⟨K, cv⟩ (m__law_same n))
  | 0 => fn_no
  | n + 1 => by
    have ih := ok__law_same T n
    exact fn_ok (k := 1 + n) T.F__law_same sc__law_same fun cdv A outer s H E hr =>
    (db_cons (ds_if (dt_cmp op_isN f_is (de_var 1) de_non (nomark _)) (db_one (ds_ret (de_cmp op_isN f_is (de_var 0) de_non (nomark _)))) db_nil)
    (db_cons (ds_if (dt_val (de_callB call_isi f_isi rfl T.b_isinstance (by decide +kernel) (da_cons (de_var 1) (da_cons (de_bty rfl T.b_bool (by decide +kernel)) da_nil)))) (db_one (ds_ret (de_and (de_callB call_isi f_isi rfl T.b_isinstance (by decide +kernel) (da_cons (de_var 0) (da_cons (de_bty rfl T.b_bool (by decide +kernel)) da_nil))) (de_one (de_cmp (op_eqD hr.units) f_eq (de_var 0) (de_var 1) (nomark _)))))) db_nil)
    (db_cons (ds_if (dt_val (de_callB call_isi f_isi rfl T.b_isinstance (by decide +kernel) (da_cons (de_var 1) (da_cons (de_bty rfl T.b_int (by decide +kernel)) da_nil)))) (db_one (ds_ret (de_and (de_callB call_isi f_isi rfl T.b_isinstance (by decide +kernel) (da_cons (de_var 0) (da_cons (de_bty rfl T.b_int (by decide +kernel)) da_nil))) (de_and (de_not (de_callB call_isi f_isi rfl T.b_isinstance (by decide +kernel) (da_cons (de_var 0) (da_cons (de_bty rfl T.b_bool (by decide +kernel)) da_nil)))) (de_one (de_cmp (op_eqD hr.units) f_eq (de_var 0) (de_var 1) (nomark _))))))) db_nil)
    (db_cons (ds_if (dt_val (de_callB call_isi f_isi rfl T.b_isinstance (by decide +kernel) (da_cons (de_var 1) (da_cons (de_bty rfl T.b_str (by decide +kernel)) da_nil)))) (db_one (ds_ret (de_and (de_callB call_isi f_isi rfl T.b_isinstance (by decide +kernel) (da_cons (de_var 0) (da_cons (de_bty rfl T.b_str (by decide +kernel)) da_nil))) (de_one (de_cmp (op_eqD hr.units) f_eq (de_var 0) (de_var 1) (nomark _)))))) db_nil)
    (db_cons (ds_if (dt_w (dw_and (dt_val (de_callB call_isi f_isi rfl T.b_isinstance (by decide +kernel) (da_cons (de_var 1) (da_cons (de_bty rfl T.b_tuple (by decide +kernel)) da_nil)))) (dw_and1 (dt_not (dt_val (de_callB call_isi f_isi rfl T.b_isinstance (by decide +kernel) (da_cons (de_var 0) (da_cons (de_bty rfl T.b_tuple (by decide +kernel)) da_nil)))))))) (db_one (ds_ret de_bl)) db_nil)
    (db_cons (ds_if (dt_w (dw_and (dt_val (de_callB call_isi f_isi rfl T.b_isinstance (by decide +kernel) (da_cons (de_var 1) (da_cons (de_bty rfl T.b_list (by decide +kernel)) da_nil)))) (dw_and1 (dt_not (dt_val (de_callB call_isi f_isi rfl T.b_isinstance (by decide +kernel) (da_cons (de_var 0) (da_cons (de_bty rfl T.b_list (by decide +kernel)) da_nil)))))))) (db_one (ds_ret de_bl)) db_nil)
    (db_cons (ds_if (dt_cmp (op_neD hr.units) f_ne (de_callB call_len f_len rfl T.b_len (by decide +kernel) (da_cons (de_var 0) da_nil)) (de_callB call_len f_len rfl T.b_len (by decide +kernel) (da_cons (de_var 1) da_nil)) (nomark _)) (db_one (ds_ret de_bl)) db_nil)
    (db_cons (ds_for (passes_of rfl) rfl (di_range1 rfl T.b_range (da_cons (de_callB call_len f_len rfl T.b_len (by decide +kernel) (da_cons (de_var 1) da_nil)) da_nil)) (dg_name 2 sc__law_same.nd) (db_one (ds_if (dt_not (dt_val (de_callP (takes_of rfl rfl rfl rfl) ih (hr.mono (by omega)) (dc_pos rfl T.g__law_same T.F__law_same.kp (b__law_same T) .nil (fun _ _ => rfl) (da_cons (de_ix ix_seq f_ix (de_var 0) (de_var 2)) (da_cons (de_ix ix_seq f_ix (de_var 1) (de_var 2)) da_nil)))))) (db_one (ds_ret de_bl)) db_nil)))
    (db_one (ds_ret de_bl))))))))))
theorem ok__law_found (T : Fx K mg) : FnOk P w K mg base (L2.CX P w) 1 T.f__law_found T.d__law_found ["_law_look", "_law_text_here"] (spT ⟨K, cv⟩ m__law_found) :=
  fn_ok (k := 0) T.F__law_found sc__law_found fun cdv A outer s H E hr =>
    (db_cons (ds_setO 2 sc__law_found.nd (do_lst da_nil))
    (db_cons (ds_set 3 sc__law_found.nd (de_un un_neg f_neg de_int))
    (db_cons (ds_for (passes_of rfl) rfl (di_range1 rfl T.b_range (da_cons (de_bin o2_add f_add (de_callB call_len f_len rfl T.b_len (by decide +kernel) (da_cons (de_var 1) da_nil)) de_int) da_nil)) (dg_name 4 sc__law_found.nd) (db_cons (ds_set 3 sc__law_found.nd (de_meS PySem.F.slot_str_find PySem.F.type_str_find mt_find3 f_find3 (de_var 1) (da_cons (de_var 0) (da_cons (de_bin o2_add f_add (de_var 3) de_int) da_nil))))
    (db_cons (ds_if (dt_cmp o2_lt f_ord (de_var 3) de_int (nomark _)) (db_one ds_break) db_nil)
    (db_one (ds_app 2 (de_var 3))))))
    (db_one (ds_retV 2)))))
theorem ok__law_menu (T : Fx K mg) : FnOk P w K mg base (L2.CX P w) 4 T.f__law_menu T.d__law_menu ["_law_store"] (spT ⟨K, cv⟩ m__law_menu) :=
  fn_ok (k := 3) T.F__law_menu sc__law_menu fun cdv A outer s H E hr =>
    (db_cons (ds_set 1 sc__law_menu.nd (de_str (t := " !\"#$&'()*+,-./0123456789:;<=>?@ABCDEFGHIJKLMNOPQRSTUVWXYZ[\\]^_`")))
    (db_cons (ds_set 1 sc__law_menu.nd (de_bin o2_add f_add (de_var 1) (de_str (t := "abcdefghijklmnopqrstuvwxyz{|}~"))))
    (db_cons (ds_set 2 sc__law_menu.nd (de_call (takes_of rfl rfl rfl rfl) (ok__law_take T) (hr.mono (by decide)) (dc_pos rfl T.g__law_take T.F__law_take.kp (b__law_take T) .nil (fun _ _ => rfl) (da_cons (de_var 0) (da_cons (de_callB call_len f_len rfl T.b_len (by decide +kernel) (da_cons (de_var 1) da_nil)) da_nil)))))
    (db_one (ds_ret (de_call (takes_of rfl rfl rfl rfl) (ok__law_pick T) (hr.mono (by decide)) (dc_pos rfl T.g__law_pick T.F__law_pick.kp (b__law_pick T) .nil (fun _ _ => rfl) (da_cons (de_var 0) (da_cons (de_fz (do_lst (da_cons (de_str (t := "a")) (da_cons (de_str (t := "ab")) (da_cons (de_str (t := "ab")) (da_cons (de_str (t := "aA")) (da_cons (de_str (t := "abc")) (da_cons (de_str (t := "- 0~")) (da_cons (de_var 1) (da_cons (de_bin o2_add f_add (de_ix ix_seq f_ix (de_var 1) (de_var 2)) (de_call (takes_of rfl rfl rfl rfl) (ok__law_pick T) (hr.mono (by decide)) (dc_pos rfl T.g__law_pick T.F__law_pick.kp (b__law_pick T) .nil (fun _ _ => rfl) (da_cons (de_var 0) (da_cons (de_var 1) da_nil))))) da_nil)))))))))) da_nil)))))))))
theorem ok__law_text (T : Fx K mg) : FnOk P w K mg base (L2.CX P w) 5 T.f__law_text T.d__law_text ["_law_store", "_law_chars"] (spT ⟨K, cv⟩ m__law_text) :=
  fn_ok (k := 4) T.F__law_text sc__law_text fun cdv A outer s H E hr =>
    (db_cons (ds_if (dt_val (de_call (takes_of rfl rfl rfl rfl) (ok__law_rare T) (hr.mono (by decide)) (dc_pos rfl T.g__law_rare T.F__law_rare.kp (b__law_rare T) .nil (fun _ _ => rfl) (da_cons (de_var 0) (da_cons de_int da_nil))))) (db_cons (ds_set 2 sc__law_text.nd (de_bin o2_add f_add de_int (de_call (takes_of rfl rfl rfl rfl) (ok__law_take T) (hr.mono (by decide)) (dc_pos rfl T.g__law_take T.F__law_take.kp (b__law_take T) .nil (fun _ _ => rfl) (da_cons (de_var 0) (da_cons de_int da_nil))))))
    (db_cons (ds_if (dt_val (de_call (takes_of rfl rfl rfl rfl) (ok__law_rare T) (hr.mono (by decide)) (dc_pos rfl T.g__law_rare T.F__law_rare.kp (b__law_rare T) .nil (fun _ _ => rfl) (da_cons (de_var 0) (da_cons de_int da_nil))))) (db_one (ds_set 2 sc__law_text.nd de_int)) db_nil)
    (db_cons (ds_set 3 sc__law_text.nd (de_meS PySem.F.slot_str_join PySem.F.type_str_join mt_join f_join (de_str (t := "")) (da_cons (de_fz (do_lc (own := [("_law_k", 6)]) rfl sc__law_text.nd (by decide) (di_range1 rfl T.b_range (da_cons (de_bin o2_add f_add de_int (de_call (takes_of rfl rfl rfl rfl) (ok__law_take T) (hr.mono (by decide)) (dc_pos rfl T.g__law_take T.F__law_take.kp (b__law_take T) .nil (fun _ _ => rfl) (da_cons (de_var 0) (da_cons de_int da_nil))))) da_nil)) (blkOk_by (N := N__law_text) (sc := defScope s__law_text) (by decide +kernel)) (fun _ _ _ _ _ => (dg_name 6 sc__law_text.nd)) (fun _ _ _ _ _ => dts_nil) (fun _ _ _ _ _ => (de_call takesF (ok__law_pick T) (hr.mono (by decide)) (dc_pos rfl T.g__law_pick T.F__law_pick.kp (b__law_pick T) .nil (fun _ _ => rfl) (da_cons (de_var 0) (da_cons (de_var 1) da_nil))))))) da_nil)))
    (db_cons (ds_set 4 sc__law_text.nd (de_sl (de_bin o2_mul f_mul (de_var 3) (de_var 2)) dp_none (dp_some (de_var 2))))
    (db_cons (ds_set 5 sc__law_text.nd (de_call (takes_of rfl rfl rfl rfl) (ok__law_take T) (hr.mono (by decide)) (dc_pos rfl T.g__law_take T.F__law_take.kp (b__law_take T) .nil (fun _ _ => rfl) (da_cons (de_var 0) (da_cons (de_var 2) da_nil)))))
    (db_one (ds_ret (de_bin o2_add f_add (de_bin o2_add f_add (de_sl (de_var 4) dp_none (dp_some (de_var 5))) (de_call (takes_of rfl rfl rfl rfl) (ok__law_pick T) (hr.mono (by decide)) (dc_pos rfl T.g__law_pick T.F__law_pick.kp (b__law_pick T) .nil (fun _ _ => rfl) (da_cons (de_var 0) (da_cons (de_var 1) da_nil))))) (de_sl (de_var 4) (dp_some (de_bin o2_add f_add (de_var 5) de_int)) dp_none))))))))) db_nil)
    (db_one (ds_ret (de_meS PySem.F.slot_str_join PySem.F.type_str_join mt_join f_join (de_str (t := "")) (da_cons (de_fz (do_lc (own := [("_law_k", 6)]) rfl sc__law_text.nd (by decide) (di_range1 rfl T.b_range (da_cons (de_call (takes_of rfl rfl rfl rfl) (ok__law_in_range T) (hr.mono (by decide)) (dc_pos rfl T.g__law_in_range T.F__law_in_range.kp (b__law_in_range T) .nil (fun _ _ => rfl) (da_cons (de_var 0) (da_cons de_int (da_cons de_int da_nil))))) da_nil)) (blkOk_by (N := N__law_text) (sc := defScope s__law_text) (by decide +kernel)) (fun _ _ _ _ _ => (dg_name 6 sc__law_text.nd)) (fun _ _ _ _ _ => dts_nil) (fun _ _ _ _ _ => (de_call takesF (ok__law_pick T) (hr.mono (by decide)) (dc_pos rfl T.g__law_pick T.F__law_pick.kp (b__law_pick T) .nil (fun _ _ => rfl) (da_cons (de_var 0) (da_cons (de_var 1) da_nil))))))) da_nil)))))
theorem ok__law_slice (T : Fx K mg) : FnOk P w K mg base (L2.CX P w) 3 T.f__law_slice T.d__law_slice ["_law_store", "_law_text_here"] (spT ⟨K, cv⟩ m__law_slice) :=
  fn_ok (k := 2) T.F__law_slice sc__law_slice fun cdv A outer s H E hr =>
    (db_cons (ds_set 2 sc__law_slice.nd (de_call (takes_of rfl rfl rfl rfl) (ok__law_take T) (hr.mono (by decide)) (dc_pos rfl T.g__law_take T.F__law_take.kp (b__law_take T) .nil (fun _ _ => rfl) (da_cons (de_var 0) (da_cons (de_bin o2_add f_add (de_callB call_len f_len rfl T.b_len (by decide +kernel) (da_cons (de_var 1) da_nil)) de_int) da_nil)))))
    (db_one (ds_ret (de_sl (de_var 1) (dp_some (de_var 2)) (dp_some (de_bin o2_add f_add (de_var 2) (de_call (takes_of rfl rfl rfl rfl) (ok__law_take T) (hr.mono (by decide)) (dc_pos rfl T.g__law_take T.F__law_take.kp (b__law_take T) .nil (fun _ _ => rfl) (da_cons (de_var 0) (da_cons (de_bin o2_add f_add de_int (de_callB (call_min2 rfl) f_2i rfl T.b_min (by decide +kernel) (da_cons (de_bin op_sub f_sub (de_callB call_len f_len rfl T.b_len (by decide +kernel) (da_cons (de_var 1) da_nil)) (de_var 2)) (da_cons de_int da_nil)))) da_nil))))))))))
theorem ok__law_parts (T : Fx K mg) : FnOk P w K mg base (L2.CX P w) 4 T.f__law_parts T.d__law_parts ["_law_store", "_law_chars", "_law_text_here", "_law_other"] (spT ⟨K, cv⟩ m__law_parts) :=
  fn_ok (k := 3) T.F__law_parts sc__law_parts fun cdv A outer s H E hr =>
    (db_cons (ds_setO 4 sc__law_parts.nd (do_lst (da_cons (de_str (t := "")) (da_cons (de_var 2) (da_cons (de_sl (de_bin o2_add f_add (de_var 2) (de_call (takes_of rfl rfl rfl rfl) (ok__law_pick T) (hr.mono (by decide)) (dc_pos rfl T.g__law_pick T.F__law_pick.kp (b__law_pick T) .nil (fun _ _ => rfl) (da_cons (de_var 0) (da_cons (de_var 1) da_nil))))) dp_none (dp_some de_int)) (da_cons (de_call (takes_of rfl rfl rfl rfl) (ok__law_slice T) (hr.mono (by decide)) (dc_pos rfl T.g__law_slice T.F__law_slice.kp (b__law_slice T) .nil (fun _ _ => rfl) (da_cons (de_var 0) (da_cons (de_var 2) da_nil)))) (da_cons (de_call (takes_of rfl rfl rfl rfl) (ok__law_slice T) (hr.mono (by decide)) (dc_pos rfl T.g__law_slice T.F__law_slice.kp (b__law_slice T) .nil (fun _ _ => rfl) (da_cons (de_var 0) (da_cons (de_var 3) da_nil)))) da_nil)))))))
    (db_cons (ds_set 5 sc__law_parts.nd (de_call (takes_of rfl rfl rfl rfl) (ok__law_slice T) (hr.mono (by decide)) (dc_pos rfl T.g__law_slice T.F__law_slice.kp (b__law_slice T) .nil (fun _ _ => rfl) (da_cons (de_var 0) (da_cons (de_var 2) da_nil)))))
    (db_cons (ds_app 4 (de_bin o2_add f_add (de_sl (de_var 5) dp_none (dp_some (de_un un_neg f_neg de_int))) (de_call (takes_of rfl rfl rfl rfl) (ok__law_pick T) (hr.mono (by decide)) (dc_pos rfl T.g__law_pick T.F__law_pick.kp (b__law_pick T) .nil (fun _ _ => rfl) (da_cons (de_var 0) (da_cons (de_var 1) da_nil))))))
    (db_cons (ds_app 4 (de_meS PySem.F.slot_str_join PySem.F.type_str_join mt_join f_join (de_str (t := "")) (da_cons (de_fz (do_lc (own := [("_law_k", 6)]) rfl sc__law_parts.nd (by decide) (di_range1 rfl T.b_range (da_cons (de_bin o2_add f_add de_int (de_call (takes_of rfl rfl rfl rfl) (ok__law_take T) (hr.mono (by decide)) (dc_pos rfl T.g__law_take T.F__law_take.kp (b__law_take T) .nil (fun _ _ => rfl) (da_cons (de_var 0) (da_cons de_int da_nil))))) da_nil)) (blkOk_by (N := N__law_parts) (sc := defScope s__law_parts) (by decide +kernel)) (fun _ _ _ _ _ => (dg_name 6 sc__law_parts.nd)) (fun _ _ _ _ _ => dts_nil) (fun _ _ _ _ _ => (de_call takesF (ok__law_pick T) (hr.mono (by decide)) (dc_pos rfl T.g__law_pick T.F__law_pick.kp (b__law_pick T) .nil (fun _ _ => rfl) (da_cons (de_var 0) (da_cons (de_var 1) da_nil))))))) da_nil)))
    (db_frz 4 (db_one (ds_ret (de_call (takes_of rfl rfl rfl rfl) (ok__law_shuffled T) (hr.mono (by decide)) (dc_pos rfl T.g__law_shuffled T.F__law_shuffled.kp (b__law_shuffled T) .nil (fun _ _ => rfl) (da_cons (de_var 0) (da_cons (de_var 4) da_nil)))))))))))
theorem ok_law (T : Fx K mg) : FnOk P w K mg base (L2.CX P w) 10 T.f_law T.d_law ["_law_script"] (spT ⟨K, cv⟩ m_law) :=
  fn_ok (k := 9) T.F_law sc_law fun cdv A outer s H E hr =>
    (db_prom 1 sc_law.nd (do_callP (takes_of rfl rfl rfl rfl) (ok__law_draws T) (hr.mono (by decide)) (dc_pos rfl T.g__law_draws T.F__law_draws.kp (b__law_draws T) .nil (fun _ _ => rfl) (da_cons (de_var 0) da_nil)))
    (db_cons (ds_set 2 sc_law.nd (de_call (takes_of rfl rfl rfl rfl) (ok__law_menu T) (hr.mono (by decide)) (dc_pos rfl T.g__law_menu T.F__law_menu.kp (b__law_menu T) .nil (fun _ _ => rfl) (da_cons (de_var 1) da_nil))))
    (db_cons (ds_set 3 sc_law.nd (de_call (takes_of rfl rfl rfl rfl) (ok__law_text T) (hr.mono (by decide)) (dc_pos rfl T.g__law_text T.F__law_text.kp (b__law_text T) .nil (fun _ _ => rfl) (da_cons (de_var 1) (da_cons (de_var 2) da_nil)))))
    (db_cons (ds_set 4 sc_law.nd (de_call (takes_of rfl rfl rfl rfl) (ok__law_text T) (hr.mono (by decide)) (dc_pos rfl T.g__law_text T.F__law_text.kp (b__law_text T) .nil (fun _ _ => rfl) (da_cons (de_var 1) (da_cons (de_var 2) da_nil)))))
    (db_cons (ds_for (passes_of rfl) rfl (di_any (de_call (takes_of rfl rfl rfl rfl) (ok__law_parts T) (hr.mono (by decide)) (dc_pos rfl T.g__law_parts T.F__law_parts.kp (b__law_parts T) .nil (fun _ _ => rfl) (da_cons (de_var 1) (da_cons (de_var 2) (da_cons (de_var 3) (da_cons (de_var 4) da_nil))))))) (dg_name 5 sc_law.nd) (db_cons (ds_set 6 sc_law.nd (de_callP (takes_of rfl rfl rfl rfl) (ok__law_found T) (hr.mono (by decide)) (dc_pos rfl T.g__law_found T.F__law_found.kp (b__law_found T) .nil (fun _ _ => rfl) (da_cons (de_var 5) (da_cons (de_var 3) da_nil)))))
    (db_cons (ds_set 7 sc_law.nd (de_callP (takes_of rfl rfl rfl rfl) (ok__law_found T) (hr.mono (by decide)) (dc_pos rfl T.g__law_found T.F__law_found.kp (b__law_found T) .nil (fun _ _ => rfl) (da_cons (de_var 5) (da_cons (de_var 4) da_nil)))))
    (db_cons (ds_setO 8 sc_law.nd (do_callP (takes_of rfl rfl rfl rfl) (ok_places_of T) (hr.mono (by decide)) (dc_pos rfl T.g_places_of T.F_places_of.kp (b_places_of T) .nil (fun _ _ => rfl) (da_cons (de_var 5) (da_cons (de_var 3) da_nil)))))
    (db_cons (ds_if (dt_w (dw_or (dt_not (dt_val (de_lend (ok__law_same T 8) (takes_of rfl rfl rfl rfl) (hr.mono (by decide)) rfl T.g__law_same T.F__law_same.kp (b__law_same T) (dl_own 8 (dl_val (de_var 6) dl_nil))))) (dw_or1 (dt_not (dt_val (de_callP (takes_of rfl rfl rfl rfl) (ok__law_same T 8) (hr.mono (by decide)) (dc_pos rfl T.g__law_same T.F__law_same.kp (b__law_same T) .nil (fun _ _ => rfl) (da_cons (de_callP (takes_of rfl rfl rfl rfl) (ok_places_of T) (hr.mono (by decide)) (dc_pos rfl T.g_places_of T.F_places_of.kp (b_places_of T) .nil (fun _ _ => rfl) (da_cons (de_var 5) (da_cons (de_var 4) da_nil)))) (da_cons (de_var 7) da_nil))))))))) (db_one (ds_ret de_bl)) db_nil)
    (db_cons (ds_app 8 (de_un un_neg f_neg de_int))
    (db_cons (ds_putO 8 de_int de_int)
    (db_cons (ds_if (dt_not (dt_val (de_callP (takes_of rfl rfl rfl rfl) (ok__law_same T 8) (hr.mono (by decide)) (dc_pos rfl T.g__law_same T.F__law_same.kp (b__law_same T) .nil (fun _ _ => rfl) (da_cons (de_callP (takes_of rfl rfl rfl rfl) (ok_places_of T) (hr.mono (by decide)) (dc_kw0 (ks := ["part", "word"]) (ix := [0, 1]) rfl T.g_places_of T.F_places_of.kp (kw_places_of_0 T) (dk_cons (de_var 5) (dk_cons (de_var 3) dk_nil)))) (da_cons (de_var 6) da_nil)))))) (db_one (ds_ret de_bl)) db_nil)
    (db_one (ds_if (dt_not (dt_val (de_callP (takes_of rfl rfl rfl rfl) (ok__law_same T 8) (hr.mono (by decide)) (dc_pos rfl T.g__law_same T.F__law_same.kp (b__law_same T) .nil (fun _ _ => rfl) (da_cons (de_callP (takes_of rfl rfl rfl rfl) (ok_places_of T) (hr.mono (by decide)) (dc_kw0 (ks := ["word", "part"]) (ix := [1, 0]) rfl T.g_places_of T.F_places_of.kp (kw_places_of_1 T) (dk_cons (de_var 4) (dk_cons (de_var 5) dk_nil)))) (da_cons (de_var 7) da_nil)))))) (db_one (ds_ret de_bl)) db_nil))))))))))
    (db_cons (ds_if (dt_not (dt_val (de_callP (takes_of rfl rfl rfl rfl) (ok__law_same T 8) (hr.mono (by decide)) (dc_pos rfl T.g__law_same T.F__law_same.kp (b__law_same T) .nil (fun _ _ => rfl) (da_cons (de_callP (takes_of rfl rfl rfl rfl) (ok_places_of T) (hr.mono (by decide)) (dc_pos rfl T.g_places_of T.F_places_of.kp (b_places_of T) .nil (fun _ _ => rfl) (da_cons (de_var 3) (da_cons (de_str (t := "")) da_nil)))) (da_cons (de_callP (takes_of rfl rfl rfl rfl) (ok__law_found T) (hr.mono (by decide)) (dc_pos rfl T.g__law_found T.F__law_found.kp (b__law_found T) .nil (fun _ _ => rfl) (da_cons (de_var 3) (da_cons (de_str (t := "")) da_nil)))) da_nil)))))) (db_one (ds_ret de_bl)) db_nil)
    (db_one (ds_ret (de_callP (takes_of rfl rfl rfl rfl) (ok__law_same T 8) (hr.mono (by decide)) (dc_pos rfl T.g__law_same T.F__law_same.kp (b__law_same T) .nil (fun _ _ => rfl) (da_cons (de_callP (takes_of rfl rfl rfl rfl) (ok_places_of T) (hr.mono (by decide)) (dc_pos rfl T.g_places_of T.F_places_of.kp (b_places_of T) .nil (fun _ _ => rfl) (da_cons (de_str (t := "")) (da_cons (de_str (t := "")) da_nil)))) (da_cons (de_fz (do_lst (da_cons de_int da_nil))) da_nil))))))))))))
end
theorem all_mk {K : PySem.W.Frag} {h : Heap} {mg : Str → Option Value} (X : K.In h) (G : h.Ns mainGlobals mg)
    {f0 : Addr} {od0 an0 : Option Addr} {sl0 : Array (Option Value)} {oc0 kV0 dc0 pm0 cd0 ct0 : Value}
    (a0 : PySem.W.nsIn K mainGlobals "places_of" = some (some (.ref f0))) (l0 : K.lookup f0 = some ⟨oc0, od0, .func (PySem.W.fnOf "places_of" "places_of" (defArgs s_places_of) (defBody s_places_of) (defScope s_places_of) .none kV0 dc0 pm0 an0 cd0 ct0), sl0⟩) (c0 : PySem.W.codeIn K cd0 "places_of" = true) (k0 : PySem.W.keepIn K (.ref f0) = true)
    {f1 : Addr} {od1 an1 : Option Addr} {sl1 : Array (Option Value)} {oc1 kV1 dc1 pm1 cd1 ct1 : Value}
    (a1 : PySem.W.nsIn K mainGlobals "_law_draws" = some (some (.ref f1))) (l1 : K.lookup f1 = some ⟨oc1, od1, .func (PySem.W.fnOf "_law_draws" "_law_draws" (defArgs s__law_draws) (defBody s__law_draws) (defScope s__law_draws) .none kV1 dc1 pm1 an1 cd1 ct1), sl1⟩) (c1 : PySem.W.codeIn K cd1 "_law_draws" = true) (k1 : PySem.W.keepIn K (.ref f1) = true)
    {f2 : Addr} {od2 an2 : Option Addr} {sl2 : Array (Option Value)} {oc2 kV2 dc2 pm2 cd2 ct2 : Value}
    (a2 : PySem.W.nsIn K mainGlobals "_law_mixed" = some (some (.ref f2))) (l2 : K.lookup f2 = some ⟨oc2, od2, .func (PySem.W.fnOf "_law_mixed" "_law_mixed" (defArgs s__law_mixed) (defBody s__law_mixed) (defScope s__law_mixed) .none kV2 dc2 pm2 an2 cd2 ct2), sl2⟩) (c2 : PySem.W.codeIn K cd2 "_law_mixed" = true) (k2 : PySem.W.keepIn K (.ref f2) = true)
    {f3 : Addr} {od3 an3 : Option Addr} {sl3 : Array (Option Value)} {oc3 kV3 dc3 pm3 cd3 ct3 : Value}
    (a3 : PySem.W.nsIn K mainGlobals "_law_take" = some (some (.ref f3))) (l3 : K.lookup f3 = some ⟨oc3, od3, .func (PySem.W.fnOf "_law_take" "_law_take" (defArgs s__law_take) (defBody s__law_take) (defScope s__law_take) .none kV3 dc3 pm3 an3 cd3 ct3), sl3⟩) (c3 : PySem.W.codeIn K cd3 "_law_take" = true) (k3 : PySem.W.keepIn K (.ref f3) = true)
    {f4 : Addr} {od4 an4 : Option Addr} {sl4 : Array (Option Value)} {oc4 kV4 dc4 pm4 cd4 ct4 : Value}
    (a4 : PySem.W.nsIn K mainGlobals "_law_span" = some (some (.ref f4))) (l4 : K.lookup f4 = some ⟨oc4, od4, .func (PySem.W.fnOf "_law_span" "_law_span" (defArgs s__law_span) (defBody s__law_span) (defScope s__law_span) .none kV4 dc4 pm4 an4 cd4 ct4), sl4⟩) (c4 : PySem.W.codeIn K cd4 "_law_span" = true) (k4 : PySem.W.keepIn K (.ref f4) = true)
    {f5 : Addr} {od5 an5 : Option Addr} {sl5 : Array (Option Value)} {oc5 kV5 dc5 pm5 cd5 ct5 : Value}
    (a5 : PySem.W.nsIn K mainGlobals "_law_rare" = some (some (.ref f5))) (l5 : K.lookup f5 = some ⟨oc5, od5, .func (PySem.W.fnOf "_law_rare" "_law_rare" (defArgs s__law_rare) (defBody s__law_rare) (defScope s__law_rare) .none kV5 dc5 pm5 an5 cd5 ct5), sl5⟩) (c5 : PySem.W.codeIn K cd5 "_law_rare" = true) (k5 : PySem.W.keepIn K (.ref f5) = true)
    {f6 : Addr} {od6 an6 : Option Addr} {sl6 : Array (Option Value)} {oc6 kV6 dc6 pm6 cd6 ct6 : Value}
    (a6 : PySem.W.nsIn K mainGlobals "_law_pick" = some (some (.ref f6))) (l6 : K.lookup f6 = some ⟨oc6, od6, .func (PySem.W.fnOf "_law_pick" "_law_pick" (defArgs s__law_pick) (defBody s__law_pick) (defScope s__law_pick) .none kV6 dc6 pm6 an6 cd6 ct6), sl6⟩) (c6 : PySem.W.codeIn K cd6 "_law_pick" = true) (k6 : PySem.W.keepIn K (.ref f6) = true)
    {f7 : Addr} {od7 an7 : Option Addr} {sl7 : Array (Option Value)} {oc7 kV7 dc7 pm7 cd7 ct7 : Value}
    (a7 : PySem.W.nsIn K mainGlobals "_law_in_range" = some (some (.ref f7))) (l7 : K.lookup f7 = some ⟨oc7, od7, .func (PySem.W.fnOf "_law_in_range" "_law_in_range" (defArgs s__law_in_range) (defBody s__law_in_range) (defScope s__law_in_range) .none kV7 dc7 pm7 an7 cd7 ct7), sl7⟩) (c7 : PySem.W.codeIn K cd7 "_law_in_range" = true) (k7 : PySem.W.keepIn K (.ref f7) = true)
    {f8 : Addr} {od8 an8 : Option Addr} {sl8 : Array (Option Value)} {oc8 kV8 dc8 pm8 cd8 ct8 : Value}
    (a8 : PySem.W.nsIn K mainGlobals "_law_shuffled" = some (some (.ref f8))) (l8 : K.lookup f8 = some ⟨oc8, od8, .func (PySem.W.fnOf "_law_shuffled" "_law_shuffled" (defArgs s__law_shuffled) (defBody s__law_shuffled) (defScope s__law_shuffled) .none kV8 dc8 pm8 an8 cd8 ct8), sl8⟩) (c8 : PySem.W.codeIn K cd8 "_law_shuffled" = true) (k8 : PySem.W.keepIn K (.ref f8) = true)
    {f9 : Addr} {od9 an9 : Option Addr} {sl9 : Array (Option Value)} {oc9 kV9 dc9 pm9 cd9 ct9 : Value}
    (a9 : PySem.W.nsIn K mainGlobals "_law_same" = some (some (.ref f9))) (l9 : K.lookup f9 = some ⟨oc9, od9, .func (PySem.W.fnOf "_law_same" "_law_same" (defArgs s__law_same) (defBody s__law_same) (defScope s__law_same) .none kV9 dc9 pm9 an9 cd9 ct9), sl9⟩) (c9 : PySem.W.codeIn K cd9 "_law_same" = true) (k9 : PySem.W.keepIn K (.ref f9) = true)
    {f10 : Addr} {od10 an10 : Option Addr} {sl10 : Array (Option Value)} {oc10 kV10 dc10 pm10 cd10 ct10 : Value}
    (a10 : PySem.W.nsIn K mainGlobals "_law_found" = some (some (.ref f10))) (l10 : K.lookup f10 = some ⟨oc10, od10, .func (PySem.W.fnOf "_law_found" "_law_found" (defArgs s__law_found) (defBody s__law_found) (defScope s__law_found) .none kV10 dc10 pm10 an10 cd10 ct10), sl10⟩) (c10 : PySem.W.codeIn K cd10 "_law_found" = true) (k10 : PySem.W.keepIn K (.ref f10) = true)
    {f11 : Addr} {od11 an11 : Option Addr} {sl11 : Array (Option Value)} {oc11 kV11 dc11 pm11 cd11 ct11 : Value}
    (a11 : PySem.W.nsIn K mainGlobals "_law_menu" = some (some (.ref f11))) (l11 : K.lookup f11 = some ⟨oc11, od11, .func (PySem.W.fnOf "_law_menu" "_law_menu" (defArgs s__law_menu) (defBody s__law_menu) (defScope s__law_menu) .none kV11 dc11 pm11 an11 cd11 ct11), sl11⟩) (c11 : PySem.W.codeIn K cd11 "_law_menu" = true) (k11 : PySem.W.keepIn K (.ref f11) = true)
    {f12 : Addr} {od12 an12 : Option Addr} {sl12 : Array (Option Value)} {oc12 kV12 dc12 pm12 cd12 ct12 : Value}
    (a12 : PySem.W.nsIn K mainGlobals "_law_text" = some (some (.ref f12))) (l12 : K.lookup f12 = some ⟨oc12, od12, .func (PySem.W.fnOf "_law_text" "_law_text" (defArgs s__law_text) (defBody s__law_text) (defScope s__law_text) .none kV12 dc12 pm12 an12 cd12 ct12), sl12⟩) (c12 : PySem.W.codeIn K cd12 "_law_text" = true) (k12 : PySem.W.keepIn K (.ref f12) = true)
    {f13 : Addr} {od13 an13 : Option Addr} {sl13 : Array (Option Value)} {oc13 kV13 dc13 pm13 cd13 ct13 : Value}
    (a13 : PySem.W.nsIn K mainGlobals "_law_slice" = some (some (.ref f13))) (l13 : K.lookup f13 = some ⟨oc13, od13, .func (PySem.W.fnOf "_law_slice" "_law_slice" (defArgs s__law_slice) (defBody s__law_slice) (defScope s__law_slice) .none kV13 dc13 pm13 an13 cd13 ct13), sl13⟩) (c13 : PySem.W.codeIn K cd13 "_law_slice" = true) (k13 : PySem.W.keepIn K (.ref f13) = true)
    {f14 : Addr} {od14 an14 : Option Addr} {sl14 : Array (Option Value)} {oc14 kV14 dc14 pm14 cd14 ct14 : Value}
    (a14 : PySem.W.nsIn K mainGlobals "_law_parts" = some (some (.ref f14))) (l14 : K.lookup f14 = some ⟨oc14, od14, .func (PySem.W.fnOf "_law_parts" "_law_parts" (defArgs s__law_parts) (defBody s__law_parts) (defScope s__law_parts) .none kV14 dc14 pm14 an14 cd14 ct14), sl14⟩) (c14 : PySem.W.codeIn K cd14 "_law_parts" = true) (k14 : PySem.W.keepIn K (.ref f14) = true)
    {f15 : Addr} {od15 an15 : Option Addr} {sl15 : Array (Option Value)} {oc15 kV15 dc15 pm15 cd15 ct15 : Value}
    (a15 : PySem.W.nsIn K mainGlobals "law" = some (some (.ref f15))) (l15 : K.lookup f15 = some ⟨oc15, od15, .func (PySem.W.fnOf "law" "law" (defArgs s_law) (defBody s_law) (defScope s_law) .none kV15 dc15 pm15 an15 cd15 ct15), sl15⟩) (c15 : PySem.W.codeIn K cd15 "law" = true) (k15 : PySem.W.keepIn K (.ref f15) = true)
    (z_abs : PySem.W.nsIn K mainGlobals "abs" = some none)
    (z_bool : PySem.W.nsIn K mainGlobals "bool" = some none)
    (z_int : PySem.W.nsIn K mainGlobals "int" = some none)
    (z_isinstance : PySem.W.nsIn K mainGlobals "isinstance" = some none)
    (z_len : PySem.W.nsIn K mainGlobals "len" = some none)
    (z_list : PySem.W.nsIn K mainGlobals "list" = some none)
    (z_min : PySem.W.nsIn K mainGlobals "min" = some none)
    (z_range : PySem.W.nsIn K mainGlobals "range" = some none)
    (z_str : PySem.W.nsIn K mainGlobals "str" = some none)
    (z_tuple : PySem.W.nsIn K mainGlobals "tuple" = some none) :
    ∃ T : Fx K mg, T.f_law = f15 ∧ T.d_law = PySem.W.fnOf "law" "law" (defArgs s_law) (defBody s_law) (defScope s_law) .none kV15 dc15 pm15 an15 cd15 ct15 := ⟨{
    f_places_of := f0, d_places_of := _, F_places_of := fun_mk (st := s_places_of) l0 c0 k0, g_places_of := PySem.W.mg_of X G a0,
    f__law_draws := f1, d__law_draws := _, F__law_draws := fun_mk (st := s__law_draws) l1 c1 k1, g__law_draws := PySem.W.mg_of X G a1,
    f__law_mixed := f2, d__law_mixed := _, F__law_mixed := fun_mk (st := s__law_mixed) l2 c2 k2, g__law_mixed := PySem.W.mg_of X G a2,
    f__law_take := f3, d__law_take := _, F__law_take := fun_mk (st := s__law_take) l3 c3 k3, g__law_take := PySem.W.mg_of X G a3,
    f__law_span := f4, d__law_span := _, F__law_span := fun_mk (st := s__law_span) l4 c4 k4, g__law_span := PySem.W.mg_of X G a4,
    f__law_rare := f5, d__law_rare := _, F__law_rare := fun_mk (st := s__law_rare) l5 c5 k5, g__law_rare := PySem.W.mg_of X G a5,
    f__law_pick := f6, d__law_pick := _, F__law_pick := fun_mk (st := s__law_pick) l6 c6 k6, g__law_pick := PySem.W.mg_of X G a6,
    f__law_in_range := f7, d__law_in_range := _, F__law_in_range := fun_mk (st := s__law_in_range) l7 c7 k7, g__law_in_range := PySem.W.mg_of X G a7,
    f__law_shuffled := f8, d__law_shuffled := _, F__law_shuffled := fun_mk (st := s__law_shuffled) l8 c8 k8, g__law_shuffled := PySem.W.mg_of X G a8,
    f__law_same := f9, d__law_same := _, F__law_same := fun_mk (st := s__law_same) l9 c9 k9, g__law_same := PySem.W.mg_of X G a9,
    f__law_found := f10, d__law_found := _, F__law_found := fun_mk (st := s__law_found) l10 c10 k10, g__law_found := PySem.W.mg_of X G a10,
    f__law_menu := f11, d__law_menu := _, F__law_menu := fun_mk (st := s__law_menu) l11 c11 k11, g__law_menu := PySem.W.mg_of X G a11,
    f__law_text := f12, d__law_text := _, F__law_text := fun_mk (st := s__law_text) l12 c12 k12, g__law_text := PySem.W.mg_of X G a12,
    f__law_slice := f13, d__law_slice := _, F__law_slice := fun_mk (st := s__law_slice) l13 c13 k13, g__law_slice := PySem.W.mg_of X G a13,
    f__law_parts := f14, d__law_parts := _, F__law_parts := fun_mk (st := s__law_parts) l14 c14 k14, g__law_parts := PySem.W.mg_of X G a14,
    f_law := f15, d_law := _, F_law := fun_mk (st := s_law) l15 c15 k15, g_law := PySem.W.mg_of X G a15,
    b_abs := PySem.W.mg_none_of X G z_abs,
    b_bool := PySem.W.mg_none_of X G z_bool,
    b_int := PySem.W.mg_none_of X G z_int,
    b_isinstance := PySem.W.mg_none_of X G z_isinstance,
    b_len := PySem.W.mg_none_of X G z_len,
    b_list := PySem.W.mg_none_of X G z_list,
    b_min := PySem.W.mg_none_of X G z_min,
    b_range := PySem.W.mg_none_of X G z_range,
    b_str := PySem.W.mg_none_of X G z_str,
    b_tuple := PySem.W.mg_none_of X G z_tuple }, rfl, rfl⟩
theorem fin_mk {l : PySem.W.OpenLaw} {w : World} {K : PySem.W.Frag} {mg : Str → Option Value} {fa : Addr} {cv : String → Value} (T : Fx K mg) (hfa : mg "law" = some (.ref fa)) {oc kV dc pm cd ct : Value} {an : Option Addr} (e : T.d_law = PySem.W.fnOf "law" "law" (defArgs s_law) (defBody s_law) (defScope s_law) .none kV dc pm an cd ct) :
    ∃ fd : FuncData, (∀ (s : Shared) (v : Value), BindsTo s fd ⟨[v], []⟩ [("_law_script", v)]) ∧ ∀ base : Heap, K.In base → base.Ns mainGlobals mg → FnOk l.prog w K mg base (L2.CX l.prog w) 10 fa fd ["_law_script"] (spT ⟨K, cv⟩ m_law) := by
  have e1 := hfa.symm.trans T.g_law
  cases e1
  refine ⟨T.d_law, fun s v => ?_, fun base _ _ => ok_law T⟩
  rw [e]
  exact .of_eq rfl
theorem top_mk {l : PySem.W.OpenLaw} {w : World} {K : PySem.W.Frag} {h : Heap} {mg : Str → Option Value} {fa : Addr} {cv : String → Value} (X : K.In h) (G : h.Ns mainGlobals mg) (hfa : mg "law" = some (.ref fa))
    {f0 : Addr} {od0 an0 : Option Addr} {sl0 : Array (Option Value)} {oc0 kV0 dc0 pm0 cd0 ct0 : Value}
    (a0 : PySem.W.nsIn K mainGlobals "places_of" = some (some (.ref f0))) (l0 : K.lookup f0 = some ⟨oc0, od0, .func (PySem.W.fnOf "places_of" "places_of" (defArgs s_places_of) (defBody s_places_of) (defScope s_places_of) .none kV0 dc0 pm0 an0 cd0 ct0), sl0⟩) (c0 : PySem.W.codeIn K cd0 "places_of" = true) (k0 : PySem.W.keepIn K (.ref f0) = true)
    {f1 : Addr} {od1 an1 : Option Addr} {sl1 : Array (Option Value)} {oc1 kV1 dc1 pm1 cd1 ct1 : Value}
    (a1 : PySem.W.nsIn K mainGlobals "_law_draws" = some (some (.ref f1))) (l1 : K.lookup f1 = some ⟨oc1, od1, .func (PySem.W.fnOf "_law_draws" "_law_draws" (defArgs s__law_draws) (defBody s__law_draws) (defScope s__law_draws) .none kV1 dc1 pm1 an1 cd1 ct1), sl1⟩) (c1 : PySem.W.codeIn K cd1 "_law_draws" = true) (k1 : PySem.W.keepIn K (.ref f1) = true)
    {f2 : Addr} {od2 an2 : Option Addr} {sl2 : Array (Option Value)} {oc2 kV2 dc2 pm2 cd2 ct2 : Value}
    (a2 : PySem.W.nsIn K mainGlobals "_law_mixed" = some (some (.ref f2))) (l2 : K.lookup f2 = some ⟨oc2, od2, .func (PySem.W.fnOf "_law_mixed" "_law_mixed" (defArgs s__law_mixed) (defBody s__law_mixed) (defScope s__law_mixed) .none kV2 dc2 pm2 an2 cd2 ct2), sl2⟩) (c2 : PySem.W.codeIn K cd2 "_law_mixed" = true) (k2 : PySem.W.keepIn K (.ref f2) = true)
    {f3 : Addr} {od3 an3 : Option Addr} {sl3 : Array (Option Value)} {oc3 kV3 dc3 pm3 cd3 ct3 : Value}
    (a3 : PySem.W.nsIn K mainGlobals "_law_take" = some (some (.ref f3))) (l3 : K.lookup f3 = some ⟨oc3, od3, .func (PySem.W.fnOf "_law_take" "_law_take" (defArgs s__law_take) (defBody s__law_take) (defScope s__law_take) .none kV3 dc3 pm3 an3 cd3 ct3), sl3⟩) (c3 : PySem.W.codeIn K cd3 "_law_take" = true) (k3 : PySem.W.keepIn K (.ref f3) = true)
    {f4 : Addr} {od4 an4 : Option Addr} {sl4 : Array (Option Value)} {oc4 kV4 dc4 pm4 cd4 ct4 : Value}
    (a4 : PySem.W.nsIn K mainGlobals "_law_span" = some (some (.ref f4))) (l4 : K.lookup f4 = some ⟨oc4, od4, .func (PySem.W.fnOf "_law_span" "_law_span" (defArgs s__law_span) (defBody s__law_span) (defScope s__law_span) .none kV4 dc4 pm4 an4 cd4 ct4), sl4⟩) (c4 : PySem.W.codeIn K cd4 "_law_span" = true) (k4 : PySem.W.keepIn K (.ref f4) = true)
    {f5 : Addr} {od5 an5 : Option Addr} {sl5 : Array (Option Value)} {oc5 kV5 dc5 pm5 cd5 ct5 : Value}
    (a5 : PySem.W.nsIn K mainGlobals "_law_rare" = some (some (.ref f5))) (l5 : K.lookup f5 = some ⟨oc5, od5, .func (PySem.W.fnOf "_law_rare" "_law_rare" (defArgs s__law_rare) (defBody s__law_rare) (defScope s__law_rare) .none kV5 dc5 pm5 an5 cd5 ct5), sl5⟩) (c5 : PySem.W.codeIn K cd5 "_law_rare" = true) (k5 : PySem.W.keepIn K (.ref f5) = true)
    {f6 : Addr} {od6 an6 : Option Addr} {sl6 : Array (Option Value)} {oc6 kV6 dc6 pm6 cd6 ct6 : Value}
    (a6 : PySem.W.nsIn K mainGlobals "_law_pick" = some (some (.ref f6))) (l6 : K.lookup f6 = some ⟨oc6, od6, .func (PySem.W.fnOf "_law_pick" "_law_pick" (defArgs s__law_pick) (defBody s__law_pick) (defScope s__law_pick) .none kV6 dc6 pm6 an6 cd6 ct6), sl6⟩) (c6 : PySem.W.codeIn K cd6 "_law_pick" = true) (k6 : PySem.W.keepIn K (.ref f6) = true)
    {f7 : Addr} {od7 an7 : Option Addr} {sl7 : Array (Option Value)} {oc7 kV7 dc7 pm7 cd7 ct7 : Value}
    (a7 : PySem.W.nsIn K mainGlobals "_law_in_range" = some (some (.ref f7))) (l7 : K.lookup f7 = some ⟨oc7, od7, .func (PySem.W.fnOf "_law_in_range" "_law_in_range" (defArgs s__law_in_range) (defBody s__law_in_range) (defScope s__law_in_range) .none kV7 dc7 pm7 an7 cd7 ct7), sl7⟩) (c7 : PySem.W.codeIn K cd7 "_law_in_range" = true) (k7 : PySem.W.keepIn K (.ref f7) = true)
    {f8 : Addr} {od8 an8 : Option Addr} {sl8 : Array (Option Value)} {oc8 kV8 dc8 pm8 cd8 ct8 : Value}
    (a8 : PySem.W.nsIn K mainGlobals "_law_shuffled" = some (some (.ref f8))) (l8 : K.lookup f8 = some ⟨oc8, od8, .func (PySem.W.fnOf "_law_shuffled" "_law_shuffled" (defArgs s__law_shuffled) (defBody s__law_shuffled) (defScope s__law_shuffled) .none kV8 dc8 pm8 an8 cd8 ct8), sl8⟩) (c8 : PySem.W.codeIn K cd8 "_law_shuffled" = true) (k8 : PySem.W.keepIn K (.ref f8) = true)
    {f9 : Addr} {od9 an9 : Option Addr} {sl9 : Array (Option Value)} {oc9 kV9 dc9 pm9 cd9 ct9 : Value}
    (a9 : PySem.W.nsIn K mainGlobals "_law_same" = some (some (.ref f9))) (l9 : K.lookup f9 = some ⟨oc9, od9, .func (PySem.W.fnOf "_law_same" "_law_same" (defArgs s__law_same) (defBody s__law_same) (defScope s__law_same) .none kV9 dc9 pm9 an9 cd9 ct9), sl9⟩) (c9 : PySem.W.codeIn K cd9 "_law_same" = true) (k9 : PySem.W.keepIn K (.ref f9) = true)
    {f10 : Addr} {od10 an10 : Option Addr} {sl10 : Array (Option Value)} {oc10 kV10 dc10 pm10 cd10 ct10 : Value}
    (a10 : PySem.W.nsIn K mainGlobals "_law_found" = some (some (.ref f10))) (l10 : K.lookup f10 = some ⟨oc10, od10, .func (PySem.W.fnOf "_law_found" "_law_found" (defArgs s__law_found) (defBody s__law_found) (defScope s__law_found) .none kV10 dc10 pm10 an10 cd10 ct10), sl10⟩) (c10 : PySem.W.codeIn K cd10 "_law_found" = true) (k10 : PySem.W.keepIn K (.ref f10) = true)
    {f11 : Addr} {od11 an11 : Option Addr} {sl11 : Array (Option Value)} {oc11 kV11 dc11 pm11 cd11 ct11 : Value}
    (a11 : PySem.W.nsIn K mainGlobals "_law_menu" = some (some (.ref f11))) (l11 : K.lookup f11 = some ⟨oc11, od11, .func (PySem.W.fnOf "_law_menu" "_law_menu" (defArgs s__law_menu) (defBody s__law_menu) (defScope s__law_menu) .none kV11 dc11 pm11 an11 cd11 ct11), sl11⟩) (c11 : PySem.W.codeIn K cd11 "_law_menu" = true) (k11 : PySem.W.keepIn K (.ref f11) = true)
    {f12 : Addr} {od12 an12 : Option Addr} {sl12 : Array (Option Value)} {oc12 kV12 dc12 pm12 cd12 ct12 : Value}
    (a12 : PySem.W.nsIn K mainGlobals "_law_text" = some (some (.ref f12))) (l12 : K.lookup f12 = some ⟨oc12, od12, .func (PySem.W.fnOf "_law_text" "_law_text" (defArgs s__law_text) (defBody s__law_text) (defScope s__law_text) .none kV12 dc12 pm12 an12 cd12 ct12), sl12⟩) (c12 : PySem.W.codeIn K cd12 "_law_text" = true) (k12 : PySem.W.keepIn K (.ref f12) = true)
    {f13 : Addr} {od13 an13 : Option Addr} {sl13 : Array (Option Value)} {oc13 kV13 dc13 pm13 cd13 ct13 : Value}
    (a13 : PySem.W.nsIn K mainGlobals "_law_slice" = some (some (.ref f13))) (l13 : K.lookup f13 = some ⟨oc13, od13, .func (PySem.W.fnOf "_law_slice" "_law_slice" (defArgs s__law_slice) (defBody s__law_slice) (defScope s__law_slice) .none kV13 dc13 pm13 an13 cd13 ct13), sl13⟩) (c13 : PySem.W.codeIn K cd13 "_law_slice" = true) (k13 : PySem.W.keepIn K (.ref f13) = true)
    {f14 : Addr} {od14 an14 : Option Addr} {sl14 : Array (Option Value)} {oc14 kV14 dc14 pm14 cd14 ct14 : Value}
    (a14 : PySem.W.nsIn K mainGlobals "_law_parts" = some (some (.ref f14))) (l14 : K.lookup f14 = some ⟨oc14, od14, .func (PySem.W.fnOf "_law_parts" "_law_parts" (defArgs s__law_parts) (defBody s__law_parts) (defScope s__law_parts) .none kV14 dc14 pm14 an14 cd14 ct14), sl14⟩) (c14 : PySem.W.codeIn K cd14 "_law_parts" = true) (k14 : PySem.W.keepIn K (.ref f14) = true)
    {f15 : Addr} {od15 an15 : Option Addr} {sl15 : Array (Option Value)} {oc15 kV15 dc15 pm15 cd15 ct15 : Value}
    (a15 : PySem.W.nsIn K mainGlobals "law" = some (some (.ref f15))) (l15 : K.lookup f15 = some ⟨oc15, od15, .func (PySem.W.fnOf "law" "law" (defArgs s_law) (defBody s_law) (defScope s_law) .none kV15 dc15 pm15 an15 cd15 ct15), sl15⟩) (c15 : PySem.W.codeIn K cd15 "law" = true) (k15 : PySem.W.keepIn K (.ref f15) = true)
    (z_abs : PySem.W.nsIn K mainGlobals "abs" = some none)
    (z_bool : PySem.W.nsIn K mainGlobals "bool" = some none)
    (z_int : PySem.W.nsIn K mainGlobals "int" = some none)
    (z_isinstance : PySem.W.nsIn K mainGlobals "isinstance" = some none)
    (z_len : PySem.W.nsIn K mainGlobals "len" = some none)
    (z_list : PySem.W.nsIn K mainGlobals "list" = some none)
    (z_min : PySem.W.nsIn K mainGlobals "min" = some none)
    (z_range : PySem.W.nsIn K mainGlobals "range" = some none)
    (z_str : PySem.W.nsIn K mainGlobals "str" = some none)
    (z_tuple : PySem.W.nsIn K mainGlobals "tuple" = some none) :
    ∃ fd : FuncData, (∀ (s : Shared) (v : Value), BindsTo s fd ⟨[v], []⟩ [("_law_script", v)]) ∧ ∀ base : Heap, K.In base → base.Ns mainGlobals mg → FnOk l.prog w K mg base (L2.CX l.prog w) 10 fa fd ["_law_script"] (spT ⟨K, cv⟩ m_law) := by
  obtain ⟨T, _, e2⟩ := all_mk X G a0 l0 c0 k0 a1 l1 c1 k1 a2 l2 c2 k2 a3 l3 c3 k3 a4 l4 c4 k4 a5 l5 c5 k5 a6 l6 c6 k6 a7 l7 c7 k7 a8 l8 c8 k8 a9 l9 c9 k9 a10 l10 c10 k10 a11 l11 c11 k11 a12 l12 c12 k12 a13 l13 c13 k13 a14 l14 c14 k14 a15 l15 c15 k15 z_abs z_bool z_int z_isinstance z_len z_list z_min z_range z_str z_tuple
  exact fin_mk (oc := .none) T hfa e2
end Lawk01
open PySem PySem.W PyProof.Rows
set_option maxRecDepth 100000 in
set_option maxHeartbeats 0 in
theorem PySem.Challenge.cw_wayfill_k01_places_of_a_part_holds : PySem.Challenge.rw_wayfill_k01_places_of_a_part.Holds := by
  w_on; o_law; k_head; (case hw => w_witness2)
  k_fill
  refine L2.walk_of (l := PySem.Challenge.rw_wayfill_k01_places_of_a_part) (n := 63) (k := 10) (x := "_law_script") (CX := fun w => L2.CX PySem.Challenge.rw_wayfill_k01_places_of_a_part.prog w) (sp := fun w => TT.spT ⟨_, fun _ => .none⟩ Lawk01.m_law) rfl (by decide) rfl ⟨rfl, by decide, by decide⟩ (fun w h Y => PySem.W.kIn_of Y) ?F (fun _ H a ns hl _ hS => TT.law_sp Lawk01.law_true H a ns hl hS) (fun _ H s e s' h => TT.cx_end H s e s' h)
  case F =>
    intro w mg fa h KX G hmg
    refine' Lawk01.top_mk KX G hmg ?a0 ?l0 ?c0 ?k0 ?a1 ?l1 ?c1 ?k1 ?a2 ?l2 ?c2 ?k2 ?a3 ?l3 ?c3 ?k3 ?a4 ?l4 ?c4 ?k4 ?a5 ?l5 ?c5 ?k5 ?a6 ?l6 ?c6 ?k6 ?a7 ?l7 ?c7 ?k7 ?a8 ?l8 ?c8 ?k8 ?a9 ?l9 ?c9 ?k9 ?a10 ?l10 ?c10 ?k10 ?a11 ?l11 ?c11 ?k11 ?a12 ?l12 ?c12 ?k12 ?a13 ?l13 ?c13 ?k13 ?a14 ?l14 ?c14 ?k14 ?a15 ?l15 ?c15 ?k15 ?z_abs ?z_bool ?z_int ?z_isinstance ?z_len ?z_list ?z_min ?z_range ?z_str ?z_tuple
    (case a0 => k_is); (case l0 => k_is); (case c0 => k_is); (case k0 => k_is); (case a1 => k_is); (case l1 => k_is); (case c1 => k_is); (case k1 => k_is); (case a2 => k_is); (case l2 => k_is); (case c2 => k_is); (case k2 => k_is); (case a3 => k_is); (case l3 => k_is); (case c3 => k_is); (case k3 => k_is); (case a4 => k_is); (case l4 => k_is); (case c4 => k_is); (case k4 => k_is); (case a5 => k_is); (case l5 => k_is); (case c5 => k_is); (case k5 => k_is); (case a6 => k_is); (case l6 => k_is); (case c6 => k_is); (case k6 => k_is); (case a7 => k_is); (case l7 => k_is); (case c7 => k_is); (case k7 => k_is); (case a8 => k_is); (case l8 => k_is); (case c8 => k_is); (case k8 => k_is); (case a9 => k_is); (case l9 => k_is); (case c9 => k_is); (case k9 => k_is); (case a10 => k_is); (case l10 => k_is); (case c10 => k_is); (case k10 => k_is); (case a11 => k_is); (case l11 => k_is); (case c11 => k_is); (case k11 => k_is); (case a12 => k_is); (case l12 => k_is); (case c12 => k_is); (case k12 => k_is); (case a13 => k_is); (case l13 => k_is); (case c13 => k_is); (case k13 => k_is); (case a14 => k_is); (case l14 => k_is); (case c14 => k_is); (case k14 => k_is); (case a15 => k_is); (case l15 => k_is); (case c15 => k_is); (case k15 => k_is); (case z_abs => k_is); (case z_bool => k_is); (case z_int => k_is); (case z_isinstance => k_is); (case z_len => k_is); (case z_list => k_is); (case z_min => k_is); (case z_range => k_is); (case z_str => k_is); (case z_tuple => k_is)
