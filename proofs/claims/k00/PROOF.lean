import PyProof.Rows.All
import Wide.All
import OpenK.AllK
import Wide.FinOn
import HandS.ForExc
import HandS.ForMost
import HandS.Walk
import HandS.TupAny
import HandS.Wide
import HandS.CallSlots
import HandS.IsInst
import HandS.StrMore
import HandS.Defaults
import HandS.TryMany
import KE.KExcSuper
import KE.KSuper
import HandS.ExcInit
import HandS.FStr
import HandS.Small
import PyProof.FitsInt
import PyProof.StrLawsRepr
import HandS.ExcIs
import KE.KExcIs
import HandS.ExcField
import HandS.Strs
import PyProof.StrWalks
import PyProof.EnumMake
import KE.SortData
import HandS.SortInts
import HandS.Style
import HandS.Replace
import PySem.Challenge.RW_wayfill_k00_word_order
set_option Elab.async false
set_option linter.all false
set_option maxRecDepth 100000
set_option maxHeartbeats 4000000
namespace TT
open PySem PySem.Spec PyProof.Rows L2

/-- data: what a value is, without addresses -/
inductive D where
  | non
  | bl (b : Bool)
  | int (i : Int)
  | str (x : List Char)
  | lst (ds : List D)
  | frl (ds : List D)
  | tup (ds : List D)
  | cell (n : Nat)
  | ty (n : String)
abbrev Cells := List (List D)
/-- an error: its class by name, its attributes -/
structure Ex where
  nm : String
  fs : List (Str × D)
inductive Out (α : Type) where
  | ok (a : α) (S : Cells)
  | ex (x : Ex) (S : Cells)
  | no
/-- a local name: nothing known, data, a list of its own that may still grow, a caught error, an answer that nobody else holds -/
inductive Sl where
  | no
  | val (d : D)
  | own (ds : List D)
  | exn (x : Ex)
  | loo (d : D)
abbrev Ev := List Sl
abbrev Me := Ev → Cells → Out D
abbrev Ma := Ev → Cells → Out (List D)
abbrev Mt := Ev → Cells → Out Bool
def Out.bind {α β : Type} (o : Out α) (k : α → Cells → Out β) : Out β := match o with
  | .ok a S => k a S
  | .ex x S => .ex x S
  | .no => .no

/-- a text by its signs -/
def cps (x : List Char) : Str := ⟨(x.map Char.toNat).toArray⟩
/-- the classes of errors by name; the error that is being handled -/
structure Cv where
  cl : String → Value
  hx : Option (Addr × Value × Option Addr)
/-- the ground: the written part, the classes of errors -/
structure Gm where
  K : PySem.W.Frag
  cv : Cv

mutual
def Rep (K : PySem.W.Frag) (F : Hp) (io : List Addr) : D → V → Prop
  | .non, v => v = .non
  | .bl b, v => v = .bl b
  | .int i, v => v = .int i
  | .str x, v => v = .str (cps x)
  | .lst ds, v => ∃ a xs, v = .ref a ∧ F a = some (.lst xs) ∧ Reps K F io ds xs
  | .frl ds, v => ∃ a xs, v = .ref a ∧ SqL K F a xs ∧ Reps K F io ds xs
  | .tup ds, v => ∃ a xs, v = .ref a ∧ SqT K F a xs ∧ Reps K F io ds xs
  | .cell n, v => ∃ a, v = .ref a ∧ io[n]? = some a
  | .ty n, v => v = .ty n
def Reps (K : PySem.W.Frag) (F : Hp) (io : List Addr) : List D → List V → Prop
  | [], xs => xs = []
  | d :: ds, xs => ∃ x r, xs = x :: r ∧ Rep K F io d x ∧ Reps K F io ds r
end
theorem seqT {K : PySem.W.Frag} {H H' : Hp} {a : Addr} {xs : List V} (e : Same H H') (h : SqT K H a xs) : SqT K H' a xs := by
  rcases h with (h | ⟨o, h⟩) | h
  · exact .inl (.inl (e _ _ h))
  · exact .inl (.inr ⟨o, e _ _ h⟩)
  · exact .inr h
mutual
theorem Rep.mono {K : PySem.W.Frag} {F F' : Hp} {io : List Addr} (e : Same F F') : ∀ (d : D) (v : V), Rep K F io d v → Rep K F' io d v
  | .non, _, h => h
  | .bl _, _, h => h
  | .int _, _, h => h
  | .str _, _, h => h
  | .lst ds, _, ⟨a, xs, h1, h2, h3⟩ => ⟨a, xs, h1, e _ _ h2, Reps.mono e ds xs h3⟩
  | .frl ds, _, ⟨a, xs, h1, h2, h3⟩ => ⟨a, xs, h1, e.seq h2, Reps.mono e ds xs h3⟩
  | .tup ds, _, ⟨a, xs, h1, h2, h3⟩ => ⟨a, xs, h1, seqT e h2, Reps.mono e ds xs h3⟩
  | .cell _, _, h => h
  | .ty _, _, h => h
theorem Reps.mono {K : PySem.W.Frag} {F F' : Hp} {io : List Addr} (e : Same F F') : ∀ (ds : List D) (xs : List V), Reps K F io ds xs → Reps K F' io ds xs
  | [], _, h => h
  | d :: ds, _, ⟨x, r, h1, h2, h3⟩ => ⟨x, r, h1, Rep.mono e d x h2, Reps.mono e ds r h3⟩
end
mutual
/-- .. where the first lists are not in F0 -/
def RepN (K : PySem.W.Frag) (F0 F : Hp) (io : List Addr) : D → V → Prop
  | .non, v => v = .non
  | .bl b, v => v = .bl b
  | .int i, v => v = .int i
  | .str x, v => v = .str (cps x)
  | .lst ds, v => ∃ a xs, v = .ref a ∧ F a = some (.lst xs) ∧ F0 a = none ∧ Reps K F io ds xs
  | .tup ds, v => ∃ a xs, v = .ref a ∧ SqT K F a xs ∧ RepsN K F0 F io ds xs
  | .frl _, _ => False
  | .cell _, _ => False
  | .ty _, _ => False
def RepsN (K : PySem.W.Frag) (F0 F : Hp) (io : List Addr) : List D → List V → Prop
  | [], xs => xs = []
  | d :: ds, xs => ∃ x r, xs = x :: r ∧ RepN K F0 F io d x ∧ RepsN K F0 F io ds r
end
mutual
theorem RepN.rep {K : PySem.W.Frag} {F0 F : Hp} {io : List Addr} : ∀ (d : D) (v : V), RepN K F0 F io d v → Rep K F io d v
  | .non, _, h => h
  | .bl _, _, h => h
  | .int _, _, h => h
  | .str _, _, h => h
  | .lst ds, _, ⟨a, xs, h1, h2, _, h3⟩ => ⟨a, xs, h1, h2, h3⟩
  | .tup ds, _, ⟨a, xs, h1, h2, h3⟩ => ⟨a, xs, h1, h2, RepsN.rep ds xs h3⟩
  | .frl _, _, h => h.elim
  | .cell _, _, h => h.elim
  | .ty _, _, h => h.elim
theorem RepsN.rep {K : PySem.W.Frag} {F0 F : Hp} {io : List Addr} : ∀ (ds : List D) (xs : List V), RepsN K F0 F io ds xs → Reps K F io ds xs
  | [], _, h => h
  | d :: ds, _, ⟨x, r, h1, h2, h3⟩ => ⟨x, r, h1, RepN.rep d x h2, RepsN.rep ds r h3⟩
end
mutual
theorem RepN.mono {K : PySem.W.Frag} {F0 F F0' F' : Hp} {io : List Addr} (e : Same F F') (h0 : ∀ a, F a ≠ none → F0 a = none → F0' a = none) : ∀ (d : D) (v : V), RepN K F0 F io d v → RepN K F0' F' io d v
  | .non, _, h => h
  | .bl _, _, h => h
  | .int _, _, h => h
  | .str _, _, h => h
  | .lst ds, _, ⟨a, xs, h1, h2, h4, h3⟩ => ⟨a, xs, h1, e _ _ h2, h0 a (by rw [h2]; exact fun z => nomatch z) h4, Reps.mono e ds xs h3⟩
  | .tup ds, _, ⟨a, xs, h1, h2, h3⟩ => ⟨a, xs, h1, seqT e h2, RepsN.mono e h0 ds xs h3⟩
  | .frl _, _, h => h.elim
  | .cell _, _, h => h.elim
  | .ty _, _, h => h.elim
theorem RepsN.mono {K : PySem.W.Frag} {F0 F F0' F' : Hp} {io : List Addr} (e : Same F F') (h0 : ∀ a, F a ≠ none → F0 a = none → F0' a = none) : ∀ (ds : List D) (xs : List V), RepsN K F0 F io ds xs → RepsN K F0' F' io ds xs
  | [], _, h => h
  | d :: ds, _, ⟨x, r, h1, h2, h3⟩ => ⟨x, r, h1, RepN.mono e h0 d x h2, RepsN.mono e h0 ds r h3⟩
end
section reps
variable {K : PySem.W.Frag} {F : Hp} {io : List Addr}
theorem Reps.len : ∀ {ds : List D} {xs : List V}, Reps K F io ds xs → xs.length = ds.length
  | [], _, h => by cases h; rfl
  | d :: ds, _, ⟨x, r, h1, _, h3⟩ => by subst h1; simp [Reps.len h3]
theorem Reps.get : ∀ {ds : List D} {xs : List V} {i : Nat} {d : D}, Reps K F io ds xs → ds[i]? = some d → ∃ v, xs[i]? = some v ∧ Rep K F io d v
  | [], _, _, _, _, h => by simp at h
  | d :: ds, _, 0, _, ⟨x, r, h1, h2, _⟩, h => by
    subst h1
    simp at h
    subst h
    exact ⟨x, rfl, h2⟩
  | d :: ds, _, i + 1, _, ⟨x, r, h1, _, h3⟩, h => by
    subst h1
    simpa using Reps.get h3 (by simpa using h)
theorem Reps.append : ∀ {ds es : List D} {xs ys : List V}, Reps K F io ds xs → Reps K F io es ys → Reps K F io (ds ++ es) (xs ++ ys)
  | [], _, _, _, h, h' => by cases h; exact h'
  | d :: ds, _, _, _, ⟨x, r, h1, h2, h3⟩, h' => by
    subst h1
    exact ⟨x, r ++ _, rfl, h2, Reps.append h3 h'⟩
theorem Reps.one {d : D} {v : V} (h : Rep K F io d v) : Reps K F io [d] [v] := ⟨v, [], rfl, h, rfl⟩
theorem Reps.take : ∀ (n : Nat) {ds : List D} {xs : List V}, Reps K F io ds xs → Reps K F io (ds.take n) (xs.take n)
  | 0, _, _, _ => by simp [Reps]
  | n + 1, [], _, h => by cases h; simp [Reps]
  | n + 1, d :: ds, _, ⟨x, r, h1, h2, h3⟩ => by
    subst h1
    exact ⟨x, _, rfl, h2, Reps.take n h3⟩
theorem Reps.drop : ∀ (n : Nat) {ds : List D} {xs : List V}, Reps K F io ds xs → Reps K F io (ds.drop n) (xs.drop n)
  | 0, _, _, h => h
  | n + 1, [], _, h => by cases h; simp [Reps]
  | n + 1, d :: ds, _, ⟨x, r, h1, h2, h3⟩ => by
    subst h1
    exact Reps.drop n h3
theorem Reps.set : ∀ (n : Nat) {ds : List D} {xs : List V} {d : D} {v : V}, Reps K F io ds xs → Rep K F io d v → Reps K F io (ds.set n d) (xs.set n v)
  | _, [], _, _, _, h, _ => by cases h; simp [Reps]
  | 0, d :: ds, _, _, _, ⟨x, r, h1, h2, h3⟩, h => by
    subst h1
    exact ⟨_, r, rfl, h, h3⟩
  | n + 1, d :: ds, _, _, _, ⟨x, r, h1, h2, h3⟩, h => by
    subst h1
    exact ⟨x, _, rfl, h2, Reps.set n h3 h⟩
theorem Reps.of_get : ∀ {ds : List D} {xs : List V}, xs.length = ds.length → (∀ (i : Nat) (d : D) (v : V), ds[i]? = some d → xs[i]? = some v → Rep K F io d v) → Reps K F io ds xs
  | [], xs, h, _ => by
    have : xs = [] := List.length_eq_zero_iff.mp h
    exact this
  | d :: ds, [], h, _ => by simp at h
  | d :: ds, x :: r, h, g => ⟨x, r, rfl, g 0 d x rfl rfl, Reps.of_get (by simpa using h) fun i d' v h1 h2 => g (i + 1) d' v (by simpa using h1) (by simpa using h2)⟩
end reps

/-- a def's entry: the given mutable lists' addresses, the heap, the frozen heap -/
structure Snap where
  io : List Addr
  nw : Nat
  H0 : Hp
  F0 : Hp
  P : Addr → Prop
/-- nothing -/
def nP : Addr → Prop := fun _ => False
/-- the lists that may be written -/
def Snap.wr (s : Snap) : List Addr := s.io.take s.nw
structure RelH (K : PySem.W.Frag) (s : Snap) (S : Cells) (F H : Hp) : Prop where
  pp : ∀ a, s.P a → H a ≠ none ∧ F a = none ∧ s.H0 a = none ∧ a ∉ s.wr
  fh : Same F H
  f0 : Same s.F0 F
  new : ∀ a, F a ≠ none → s.F0 a ≠ none ∨ s.H0 a = none
  frame : ∀ a o, s.H0 a = some o → a ∉ s.wr → H a = some o
  len : s.wr.length = S.length
  nd : s.wr.Nodup
  cell : ∀ (n : Nat) (a : Addr) (ds : List D), s.wr[n]? = some a → S[n]? = some ds → F a = none ∧ ∃ xs, H a = some (.lst xs) ∧ Reps K F s.io ds xs
/-- a list at a that nobody else holds -/
structure OwnAt (K : PySem.W.Frag) (s : Snap) (F H : Hp) (a : Addr) (ds : List D) : Prop where
  fr : F a = none
  h0 : s.H0 a = none
  ni : a ∉ s.wr
  np : ¬ s.P a
  at_ : ∃ xs, H a = some (.lst xs) ∧ Reps K F s.io ds xs
/-- two heaps, the first one wins -/
def ov (F P : Hp) : Hp := fun a => match F a with
  | some o => some o
  | none => P a
/-- an error's dict -/
def RepF (K : PySem.W.Frag) (F : Hp) (io : List Addr) (x : Ex) (dx : Option Addr) : Prop :=
  (x.fs = [] ∧ dx = none) ∨ ∃ d vs, dx = some d ∧ F d = some (.xd vs) ∧ vs.map (·.1) = x.fs.map (·.1) ∧ Reps K F io (x.fs.map (·.2)) (vs.map (·.2))
structure R (G : Gm) (s : Snap) (env : Ev) (S : Cells) (F : Hp) (σ : L2.St) (H : Hp) : Prop where
  h : RelH G.K s S F H
  len : env.length = σ.length
  val : ∀ (i : Nat) (d : D), env[i]? = some (.val d) → ∃ v, σ[i]? = some (some v) ∧ Rep G.K F s.io d v
  own : ∀ (i : Nat) (ds : List D), env[i]? = some (.own ds) → ∃ a, σ[i]? = some (some (.ref a)) ∧ OwnAt G.K s F H a ds
  dist : ∀ (i j : Nat) (a : Addr) (ds es : List D), i ≠ j → env[i]? = some (.own ds) → env[j]? = some (.own es) → σ[i]? = some (some (.ref a)) → σ[j]? ≠ some (some (.ref a))
  exn : ∀ (i : Nat) (x : Ex), env[i]? = some (.exn x) → ∃ a d, G.cv.hx = some (a, G.cv.cl x.nm, d) ∧ σ[i]? = some (some (.ref a)) ∧ RepF G.K F s.io x d
  loo : ∀ (i : Nat) (d : D), env[i]? = some (.loo d) → ∃ v Q, σ[i]? = some (some v) ∧ Same Q H ∧ (∀ a, Q a ≠ none → s.P a) ∧ RepN G.K F (ov F Q) s.io d v
/-- not one of the slots' own lists -/
def Off (env : Ev) (σ : L2.St) (a : Addr) : Prop := ∀ (i : Nat) (ds : List D), env[i]? = some (.own ds) → σ[i]? ≠ some (some (.ref a))

theorem same_upd {H : Hp} {p : Addr} {o : HO} (h : H p = none) : Same H (upd H p o) := fun b x e => by
  rw [upd_ne (ne_of_none e h)]
  exact e
theorem same_upd2 {F H : Hp} {p : Addr} {o : HO} (e : Same F H) : Same (upd F p o) (upd H p o) := fun b x h => by
  unfold upd at h ⊢
  split
  · rename_i hb
    rw [if_pos hb] at h
    exact h
  · rename_i hb
    rw [if_neg hb] at h
    exact e b x h
theorem same_off {F H : Hp} {p : Addr} {o : HO} (e : Same F H) (hp : F p = none) : Same F (upd H p o) := fun b x h => by
  rw [upd_ne (ne_of_none h hp)]
  exact e b x h
theorem ov_same {F P : Hp} : Same F (ov F P) := fun b x e => by
  unfold ov
  rw [e]
theorem ov_mono {F F' P : Hp} (e : Same F F') (h : ∀ a, P a ≠ none → F' a = none) : Same (ov F P) (ov F' P) := fun b x q => by
  unfold ov at q ⊢
  cases h1 : F b with
  | some o =>
    rw [h1] at q
    rw [e b o h1]
    exact q
  | none =>
    rw [h1] at q
    have q' : P b = some x := q
    rw [h b (by rw [q']; exact fun z => nomatch z)]
    exact q'
theorem ov_new {F F' P : Hp} (h : ∀ a, P a ≠ none → F' a = none) : ∀ a, ov F P a ≠ none → F a = none → F' a = none := fun a h1 h2 => by
  unfold ov at h1
  rw [h2] at h1
  exact h a h1
theorem RepF.mono {K : PySem.W.Frag} {F F' : Hp} {io : List Addr} {x : Ex} {dx : Option Addr} (e : Same F F') (h : RepF K F io x dx) : RepF K F' io x dx := by
  rcases h with h | ⟨d, vs, h1, h2, h3, h4⟩
  · exact .inl h
  · exact .inr ⟨d, vs, h1, e _ _ h2, h3, Reps.mono e _ _ h4⟩
section core
variable {G : Gm} {K : PySem.W.Frag} {s : Snap} {env : Ev} {S : Cells} {F H : Hp} {σ : L2.St} {p : Addr} {o : HO}
theorem RelH.pFree (r : RelH K s S F H) (hp : H p = none) : ¬ s.P p := fun q => (r.pp p q).1 hp
theorem RelH.h0 (r : RelH K s S F H) (hp : H p = none) : s.H0 p = none ∧ p ∉ s.wr ∧ F p = none := by
  have hni : p ∉ s.wr := fun hm => by
    obtain ⟨n, hn⟩ := List.getElem?_of_mem hm
    have hl : n < S.length := by
      rw [← r.len]
      exact (List.getElem?_eq_some_iff.mp hn).1
    obtain ⟨_, xs, hx, _⟩ := r.cell n p S[n] hn (List.getElem?_eq_getElem hl)
    rw [hp] at hx
    cases hx
  refine ⟨?_, hni, r.fh.free hp⟩
  cases q : s.H0 p with
  | none => rfl
  | some u =>
    have := r.frame p u q hni
    rw [hp] at this
    cases this
/-- a new object, of no further concern -/
theorem RelH.lay (r : RelH K s S F H) (hp : H p = none) : RelH K s S F (upd H p o) := by
  obtain ⟨h0, hni, hf⟩ := r.h0 hp
  refine ⟨fun a q => ⟨fun z => ?_, (r.pp a q).2⟩, same_off r.fh hf, r.f0, r.new, fun a u e hn => ?_, r.len, r.nd, fun n a ds h1 h2 => ?_⟩
  · have ne : a ≠ p := fun e => (r.pp a q).1 (by rw [e]; exact hp)
    rw [upd_ne ne] at z
    exact (r.pp a q).1 z
  · rw [upd_ne (fun z => by rw [z, h0] at e; cases e)]
    exact r.frame a u e hn
  · obtain ⟨g1, xs, g2, g3⟩ := r.cell n a ds h1 h2
    exact ⟨g1, xs, by rw [upd_ne (ne_of_none g2 hp)]; exact g2, g3⟩
/-- .. frozen -/
theorem RelH.freeze (r : RelH K s S F H) (hf : F p = none) (h0 : s.H0 p = none) (hni : p ∉ s.wr) (hpp : ¬ s.P p) (hp : H p = some o) : RelH K s S (upd F p o) H := by
  have sm : Same F (upd F p o) := same_upd hf
  refine ⟨fun a e => ?_, fun b x e => ?_, r.f0.trans sm, fun a e => ?_, r.frame, r.len, r.nd, fun n a ds h1 h2 => ?_⟩
  · have ne : a ≠ p := fun z => hpp (by rw [← z]; exact e)
    rw [upd_ne ne]
    exact r.pp a e
  · unfold upd at e
    split at e
    · rename_i hb
      cases e
      rw [hb]
      exact hp
    · exact r.fh b x e
  · by_cases ha : a = p
    · rw [ha]
      exact .inr h0
    · rw [upd_ne ha] at e
      exact r.new a e
  · obtain ⟨g1, xs, g2, g3⟩ := r.cell n a ds h1 h2
    refine ⟨?_, xs, g2, Reps.mono sm ds xs g3⟩
    have ne : a ≠ p := fun z => hni (by rw [← z]; exact List.mem_of_getElem? h1)
    rw [upd_ne ne]
    exact g1
theorem R.lay (r : R G s env S F σ H) (hp : H p = none) : R G s env S F σ (upd H p o) ∧ Off env σ p := by
  refine ⟨⟨r.h.lay hp, r.len, r.val, fun i ds e => ?_, r.dist, r.exn, fun i d e => ?_⟩, fun i ds e q => ?_⟩
  · obtain ⟨a, h1, h2, h3, h4, h5, xs, h6, h7⟩ := r.own i ds e
    exact ⟨a, h1, h2, h3, h4, h5, xs, by rw [upd_ne (ne_of_none h6 hp)]; exact h6, h7⟩
  · obtain ⟨v, Q, h1, h2, h3, h4⟩ := r.loo i d e
    exact ⟨v, Q, h1, same_off h2 (by
      cases q : Q p with
      | none => rfl
      | some u => exact absurd (h3 p (by rw [q]; exact fun z => nomatch z)) (r.h.pFree hp)), h3, h4⟩
  · obtain ⟨a, h1, _, _, _, _, xs, h5, _⟩ := r.own i ds e
    rw [q] at h1
    cases h1
    rw [hp] at h5
    cases h5
theorem OwnAt.mono {a : Addr} {ds : List D} {F' : Hp} (h : OwnAt K s F H a ds) (e : Same F F') (hf : F' a = none) : OwnAt K s F' H a ds := by
  obtain ⟨_, h0, hn, np, xs, h1, h2⟩ := h
  exact ⟨hf, h0, hn, np, xs, h1, Reps.mono e ds xs h2⟩
theorem R.freeze (r : R G s env S F σ H) (hf : F p = none) (h0 : s.H0 p = none) (hni : p ∉ s.wr) (hpp : ¬ s.P p) (hp : H p = some o) (off : Off env σ p) : R G s env S (upd F p o) σ H := by
  have sm : Same F (upd F p o) := same_upd hf
  refine ⟨r.h.freeze hf h0 hni hpp hp, r.len, fun i d e => ?_, fun i ds e => ?_, r.dist, fun i x e => ?_, fun i d e => ?_⟩
  · obtain ⟨v, h1, h2⟩ := r.val i d e
    exact ⟨v, h1, Rep.mono sm d v h2⟩
  · obtain ⟨a, h1, h2⟩ := r.own i ds e
    refine ⟨a, h1, h2.mono sm ?_⟩
    have ne : a ≠ p := fun z => off i ds e (by rw [← z]; exact h1)
    rw [upd_ne ne]
    exact h2.fr
  · obtain ⟨a, d, h1, h2, h3⟩ := r.exn i x e
    exact ⟨a, d, h1, h2, h3.mono sm⟩
  · obtain ⟨v, Q, h1, h2, h3, h4⟩ := r.loo i d e
    have hq : ∀ a, Q a ≠ none → upd F p o a = none := fun a ha => by
      have ne : a ≠ p := fun z => hpp (by rw [← z]; exact h3 a ha)
      rw [upd_ne ne]
      exact (r.h.pp a (h3 a ha)).2.1
    exact ⟨v, Q, h1, h2, h3, RepN.mono (ov_mono sm hq) (ov_new hq) d v h4⟩
/-- a new frozen object -/
theorem R.new (r : R G s env S F σ H) (hp : H p = none) : R G s env S (upd F p o) σ (upd H p o) ∧ Same F (upd F p o) := by
  obtain ⟨r1, off⟩ := r.lay (o := o) hp
  obtain ⟨h0, hni, hf⟩ := r.h.h0 hp
  exact ⟨r1.freeze hf h0 hni (r.h.pFree hp) upd_same off, same_upd hf⟩
/-- behind a call: the callee's own entry was the state here -/
theorem RelH.aft {S' : Cells} {F' H' : Hp} {nw : Nat} (r : RelH K s S F H) (hw : ∀ a, a ∈ s.io.take nw → a ∈ s.wr) (c : RelH K ⟨s.io, nw, H, F, nP⟩ S' F' H') : ∀ a, s.P a → (∀ o, H a = some o → H' a = some o) ∧ H' a ≠ none ∧ F' a = none ∧ s.H0 a = none ∧ a ∉ s.wr := by
  intro a e
  obtain ⟨q0, q1, q2, q3⟩ := r.pp a e
  have hk : ∀ o, H a = some o → H' a = some o := fun o h => c.frame a o h fun hm => q3 (hw a hm)
  refine ⟨hk, fun z => ?_, ?_, q2, q3⟩
  · cases h : H a with
    | none => exact q0 h
    | some o =>
      rw [hk o h] at z
      cases z
  · cases q : F' a with
    | none => rfl
    | some u =>
      rcases c.new a (by rw [q]; exact fun z => nomatch z) with z | z
      · exact absurd q1 z
      · exact absurd (show H a = none from z) q0
theorem loo_aft {Q F' H' : Hp} {s : Snap} (h2 : Same Q H) (h3 : ∀ a, Q a ≠ none → s.P a) (q : ∀ a, s.P a → (∀ o, H a = some o → H' a = some o) ∧ H' a ≠ none ∧ F' a = none ∧ s.H0 a = none ∧ a ∉ s.wr) (sm : Same F F') : Same Q H' ∧ Same (ov F Q) (ov F' Q) ∧ ∀ a, ov F Q a ≠ none → F a = none → F' a = none :=
  ⟨fun a o e => (q a (h3 a (by rw [e]; exact fun z => nomatch z))).1 o (h2 a o e), ov_mono sm fun a ha => (q a (h3 a ha)).2.2.1, ov_new fun a ha => (q a (h3 a ha)).2.2.1⟩
theorem RelH.after {S' : Cells} {F' H' : Hp} (r : RelH K s S F H) (c : RelH K ⟨s.io, s.nw, H, F, nP⟩ S' F' H') : RelH K s S' F' H' := by
  have q := r.aft (fun _ h => h) c
  refine ⟨fun a e => (q a e).2, c.fh, r.f0.trans c.f0, fun a e => ?_, fun a u e hn => c.frame a u (r.frame a u e hn) hn, c.len, r.nd, c.cell⟩
  rcases c.new a e with h | h
  · exact r.new a h
  · exact .inr (r.h0 h).1
theorem R.after {S' : Cells} {F' H' : Hp} (r : R G s env S F σ H) (c : RelH G.K ⟨s.io, s.nw, H, F, nP⟩ S' F' H') : R G s env S' F' σ H' := by
  have q := r.h.aft (fun _ h => h) c
  refine ⟨r.h.after c, r.len, fun i d e => ?_, fun i ds e => ?_, r.dist, fun i x e => ?_, fun i d e => ?_⟩
  · obtain ⟨v, h1, h2⟩ := r.val i d e
    exact ⟨v, h1, Rep.mono c.f0 d v h2⟩
  · obtain ⟨a, h1, h2, h3, h4, h5, xs, h6, h7⟩ := r.own i ds e
    refine ⟨a, h1, ?_, h3, h4, h5, xs, c.frame a _ h6 h4, Reps.mono c.f0 ds xs h7⟩
    cases q : F' a with
    | none => rfl
    | some u =>
      rcases c.new a (by rw [q]; exact fun z => nomatch z) with z | z
      · exact absurd h2 z
      · have z' : H a = none := z
        rw [z'] at h6
        cases h6
  · obtain ⟨a, d, h1, h2, h3⟩ := r.exn i x e
    exact ⟨a, d, h1, h2, h3.mono c.f0⟩
  · obtain ⟨v, Q, h1, h2, h3, h4⟩ := r.loo i d e
    obtain ⟨g1, g2, g3⟩ := loo_aft h2 h3 q c.f0
    exact ⟨v, Q, h1, g1, h3, RepN.mono g2 g3 d v h4⟩
theorem nP2 {C : Addr → Prop} : ∀ a, nP a → C a := fun a e => False.elim e
theorem RelH.enter (r : RelH K s S F H) : RelH K ⟨s.io, s.nw, H, F, nP⟩ S F H :=
  ⟨nP2, r.fh, Same.refl F, fun a e => .inl e, fun a o e _ => e, r.len, r.nd, r.cell⟩
end core

/-! ### readings by meanings -/
/-- an error lies so -/
def RepX (G : Gm) (F H : Hp) (io : List Addr) (x : Ex) (c : Value) (dx : Option Addr) : Prop :=
  c = G.cv.cl x.nm ∧ RepF G.K F io x dx
abbrev Rp (α β : Type) := Snap → Ev → Hp → L2.St → Hp → α → β → Prop
def OutP {α β : Type} (G : Gm) (W : WX) (rp : Rp α β) (s : Snap) (env : Ev) (σ : L2.St) (F : Hp) (o : Out α) (Q : β → Hp → Prop) : Prop := match o with
  | .ok a S' => ∀ b F' H', R G s env S' F' σ H' → Same F F' → rp s env F' σ H' a b → Q b H'
  | .ex x S' => ∀ c dx F' H', R G s env S' F' σ H' → Same F F' → RepX G F' H' s.io x c dx → W c dx σ H'
  | .no => False
def tG {α β : Type} (G : Gm) (W : WX) (rp : Rp α β) (m : Ev → Cells → Out α) : L2.St → Hp → (β → Hp → Prop) → Prop := fun σ H Q =>
  ∃ s env S F, R G s env S F σ H ∧ OutP G W rp s env σ F (m env S) Q
abbrev rpE (G : Gm) : Rp D V := fun s _ F _ _ d v => Rep G.K F s.io d v
abbrev rpA (G : Gm) : Rp (List D) (List V) := fun s _ F _ _ d v => Reps G.K F s.io d v
abbrev rpT : Rp Bool Bool := fun _ _ _ _ _ a b => a = b
abbrev rpP : Rp (Option Int) (Option Int) := fun _ _ _ _ _ a b => a = b
abbrev rpO (G : Gm) : Rp (List D) V := fun s env F σ H ds v => ∃ a, v = .ref a ∧ OwnAt G.K s F H a ds ∧ Off env σ a
abbrev tE (G : Gm) (W : WX) (m : Me) : TE := tG G W (rpE G) m
abbrev tA (G : Gm) (W : WX) (m : Ma) : TA := tG G W (rpA G) m
abbrev tT (G : Gm) (W : WX) (m : Mt) : TT := tG G W rpT m
abbrev tO (G : Gm) (W : WX) (m : Ma) : TE := tG G W (rpO G) m
abbrev tPt (G : Gm) (W : WX) (m : Ev → Cells → Out (Option Int)) : TO := tG G W rpP m

section out
variable {α β γ δ : Type} {G : Gm} {W : WX} {rp : Rp α β} {rp2 : Rp γ δ} {s : Snap} {env : Ev} {σ : L2.St} {F F' : Hp}
theorem OutP.weak {o : Out α} {Q : β → Hp → Prop} (h : OutP G W rp s env σ F o Q) (e : Same F F') : OutP G W rp s env σ F' o Q := by
  cases o with
  | ok a S' => exact fun b F2 H' r sm q => h b F2 H' r (e.trans sm) q
  | ex x S' => exact fun c dx F2 H' r sm q => h c dx F2 H' r (e.trans sm) q
  | no => exact h
theorem OutP.bind {om : Out α} {k : α → Cells → Out γ} {Q : δ → Hp → Prop} {Q1 : β → Hp → Prop} (h : OutP G W rp2 s env σ F (om.bind k) Q)
    (hk : ∀ a S' b F' H', R G s env S' F' σ H' → Same F F' → rp s env F' σ H' a b → OutP G W rp2 s env σ F' (k a S') Q → Q1 b H') : OutP G W rp s env σ F om Q1 := by
  cases om with
  | ok a S' => exact fun b F' H' r sm q => hk a S' b F' H' r sm q (OutP.weak h sm)
  | ex x S' => exact h
  | no => exact h
end out
theorem PE.weak {X : Cx} {e : Expr} {t t' : TE} (h : PE X e t) (w : ∀ σ H Q, t' σ H Q → t σ H Q) : PE X e t' := ⟨fun pins s σ H Q I q => h.run pins s σ H Q I (w σ H Q q)⟩
theorem PT.weak {X : Cx} {e : Expr} {t t' : TT} (h : PT X e t) (w : ∀ σ H Q, t' σ H Q → t σ H Q) : PT X e t' := ⟨fun pins s σ H Q I q => h.run pins s σ H Q I (w σ H Q q)⟩
theorem PA.weak {X : Cx} {e : List Expr} {t t' : TA} (h : PA X e t) (w : ∀ σ H Q, t' σ H Q → t σ H Q) : PA X e t' := ⟨fun p pins s σ H Q I q => h.run p pins s σ H Q I (w σ H Q q)⟩
theorem PS.weak {X : Cx} {e : Stmt} {t t' : TS} (h : PS X e t) (w : ∀ D σ H, t' D σ H → t D σ H) : PS X e t' := ⟨fun pins s σ H D I q => h.run pins s σ H D I (w D σ H q)⟩
theorem PSs.weak {X : Cx} {e : List Stmt} {t t' : TS} (h : PSs X e t) (w : ∀ D σ H, t' D σ H → t D σ H) : PSs X e t' := ⟨fun pins s σ H D I q => h.run pins s σ H D I (w D σ H q)⟩
end TT
namespace TT
open PySem PySem.Spec PyProof.Rows L2

/-! ### expressions -/
def DE (X : Cx) (cv : Cv) (W : WX) (e : Expr) (m : Me) : Prop := PE X e (tE ⟨X.K, cv⟩ W m)
def DT (X : Cx) (cv : Cv) (W : WX) (e : Expr) (m : Mt) : Prop := PT X e (tT ⟨X.K, cv⟩ W m)
def DW (X : Cx) (cv : Cv) (W : WX) (e : Expr) (m : Mt) : Prop := PW X e (tT ⟨X.K, cv⟩ W m)
def DA (X : Cx) (cv : Cv) (W : WX) (es : List Expr) (m : Ma) : Prop := PA X es (tA ⟨X.K, cv⟩ W m)
/-- an expression that makes a new list -/
def DO (X : Cx) (cv : Cv) (W : WX) (e : Expr) (m : Ma) : Prop := PE X e (tO ⟨X.K, cv⟩ W m)
def DPt (X : Cx) (cv : Cv) (W : WX) (e : Option Expr) (m : Ev → Cells → Out (Option Int)) : Prop := PO X e (tPt ⟨X.K, cv⟩ W m)

def dVar (i : Nat) : Me := fun env S => match env[i]? with
  | some (.val d) => .ok d S
  | _ => .no
def dC (d : D) : Me := fun _ S => .ok d S
def dUn {α : Type} (f : D → Cells → Out α) (m : Me) : Ev → Cells → Out α := fun env S => (m env S).bind f
def dBin {α : Type} (f : D → D → Cells → Out α) (m1 m2 : Me) : Ev → Cells → Out α := fun env S => (m1 env S).bind fun a S1 => (m2 env S1).bind fun b S2 => f a b S2
def aNil : Ma := fun _ S => .ok [] S
def aCons (m : Me) (ma : Ma) : Ma := fun env S => (m env S).bind fun d S1 => (ma env S1).bind fun ds S2 => .ok (d :: ds) S2
def dArgs {α : Type} (f : List D → Cells → Out α) (ma : Ma) : Ev → Cells → Out α := fun env S => (ma env S).bind f
def asB (d : D) (S : Cells) : Out Bool := match d with
  | .bl b => .ok b S
  | _ => .no
def tB (m : Me) : Mt := fun env S => (m env S).bind asB
def mAnd (a b : Mt) : Mt := fun env S => (a env S).bind fun c S1 => if c = true then b env S1 else .ok false S1
def mOr (a b : Mt) : Mt := fun env S => (a env S).bind fun c S1 => if c = true then .ok true S1 else b env S1
def mNot (a : Mt) : Mt := fun env S => (a env S).bind fun c S1 => .ok (!c) S1
def dIf (c : Mt) (a b : Me) : Me := fun env S => (c env S).bind fun k S1 => if k = true then a env S1 else b env S1
def dAnd (a b : Me) : Me := fun env S => (a env S).bind fun d S1 => (asB d S1).bind fun c S1 => if c = true then b env S1 else .ok (.bl false) S1
def dOr (a b : Me) : Me := fun env S => (a env S).bind fun d S1 => (asB d S1).bind fun c S1 => if c = true then .ok (.bl true) S1 else b env S1
def dNot (a : Me) : Me := fun env S => (a env S).bind fun d S1 => (asB d S1).bind fun c S1 => .ok (.bl (!c)) S1
def pNone : Ev → Cells → Out (Option Int) := fun _ S => .ok none S
def pSome (m : Me) : Ev → Cells → Out (Option Int) := fun env S => (m env S).bind fun d S1 => match d with
  | .int i => .ok (some i) S1
  | _ => .no

section rules
variable {X : Cx} {cv : Cv} {W : WX} {e e1 e2 : Expr} {es : List Expr} {m m1 m2 : Me} {ma : Ma} {pos : Pos}

theorem de_var (i : Nat) {x : Str} (hN : X.N[i]? = some x := by rfl) (hv : Vis X.env.scope x := by first | exact Or.inl rfl | exact Or.inr (Or.inl rfl) | exact Or.inr (Or.inr rfl)) (hd : (x == ("__debug__" : Str)) = false := by decide)
    (hcd : (x == ("__classdict__" : Str)) = false := by decide) : DE X cv W (.Name x pos) (dVar i) := PE.weak (pe_var hN hv hd hcd) fun σ H Q ⟨s, env, S, F, r, o⟩ => by
  unfold dVar at o
  split at o
  · rename_i d h
    obtain ⟨v, h1, h2⟩ := r.val i d h
    exact ⟨v, h1, o v F H r (Same.refl F) h2⟩
  · exact o.elim
theorem de_c {te : TE} {v : V} {d : D} (h : PE X e te) (ht : te = tC v) (hr : ∀ K F io, Rep K F io d v) : DE X cv W e (dC d) := by
  subst ht
  exact PE.weak h fun σ H Q ⟨s, env, S, F, r, o⟩ => o v F H r (Same.refl F) (hr _ _ _)
theorem de_int {i j} : DE X cv W (.Constant (.int i) j pos) (dC (.int i)) := de_c pe_int rfl fun _ _ _ => rfl
theorem de_bl {b j} : DE X cv W (.Constant (.bool b) j pos) (dC (.bl b)) := de_c pe_bl rfl fun _ _ _ => rfl
theorem de_non {j} : DE X cv W (.Constant .none j pos) (dC .non) := de_c pe_non rfl fun _ _ _ => rfl
theorem de_str {t : String} {j} : DE X cv W (.Constant (.str (Str.ofString t)) j pos) (dC (.str t.toList)) := de_c pe_str rfl fun _ _ _ => by
  show V.str (Str.ofString t) = V.str (cps t.toList)
  rw [Str.ofString_eq_toList]
  rfl
theorem da_nil : DA X cv W [] aNil := PA.weak pa_nil fun σ H Q ⟨s, env, S, F, r, o⟩ => o [] F H r (Same.refl F) rfl
theorem da_cons (h : DE X cv W e m) (hr : DA X cv W es ma) (hs : starEach (e :: es) X.env = (false, eval e X.env) :: starEach es X.env := by rfl) : DA X cv W (e :: es) (aCons m ma) :=
  PA.weak (pa_cons h hr hs) fun σ H Q ⟨s, env, S, F, r, o⟩ => ⟨s, env, S, F, r, OutP.bind (rp := rpE _) o fun d S1 v F1 H1 r1 sm rv o1 => ⟨s, env, S1, F1, r1, OutP.bind (rp := rpA _) o1 fun ds S2 vs F2 H2 r2 sm2 rvs o2 =>
    o2 (v :: vs) F2 H2 r2 (Same.refl F2) ⟨v, vs, rfl, Rep.mono sm2 d v rv, rvs⟩⟩⟩

/-- what an operation's rule asks is got from its meaning -/
def Op2 (cv : Cv) (X : Cx) {α : Type} (rp : Rp α V) (r : R2) (f : D → D → Cells → Out α) : Prop := ∀ (W : WX) (s : Snap) (env : Ev) (S : Cells) (F : Hp) (σ : L2.St) (H : Hp) (a b : D) (x y : V) (Q : VK),
  R ⟨X.K, cv⟩ s env S F σ H → Rep X.K F s.io a x → Rep X.K F s.io b y → OutP ⟨X.K, cv⟩ W rp s env σ F (f a b S) Q → r x y H Q
def Op1 (cv : Cv) (X : Cx) {α : Type} (rp : Rp α V) (r : V → Hp → VK → Prop) (f : D → Cells → Out α) : Prop := ∀ (W : WX) (s : Snap) (env : Ev) (S : Cells) (F : Hp) (σ : L2.St) (H : Hp) (a : D) (x : V) (Q : VK),
  R ⟨X.K, cv⟩ s env S F σ H → Rep X.K F s.io a x → OutP ⟨X.K, cv⟩ W rp s env σ F (f a S) Q → r x H Q
def OpA (cv : Cv) (X : Cx) {α : Type} (rp : Rp α V) (r : List V → Hp → VK → Prop) (f : List D → Cells → Out α) : Prop := ∀ (W : WX) (s : Snap) (env : Ev) (S : Cells) (F : Hp) (σ : L2.St) (H : Hp) (ds : List D) (vs : List V) (Q : VK),
  R ⟨X.K, cv⟩ s env S F σ H → Reps X.K F s.io ds vs → OutP ⟨X.K, cv⟩ W rp s env σ F (f ds S) Q → r vs H Q
/-- a method: the object, the arguments -/
def OpM (cv : Cv) (X : Cx) {α : Type} (rp : Rp α V) (T : String) (r : V → List V → Hp → VK → Prop) (f : D → List D → Cells → Out α) : Prop := ∀ (W : WX) (s : Snap) (env : Ev) (S : Cells) (F : Hp) (σ : L2.St) (H : Hp) (d : D) (x : V) (ds : List D) (vs : List V) (Q : VK),
  R ⟨X.K, cv⟩ s env S F σ H → Rep X.K F s.io d x → Reps X.K F s.io ds vs → OutP ⟨X.K, cv⟩ W rp s env σ F (f d ds S) Q → r x vs H Q

theorem bin_w {α : Type} {rp : Rp α V} {r : R2} {f : D → D → Cells → Out α} {ta tb : TE} (hf : Op2 cv X rp r f) (ha : ta = tE ⟨X.K, cv⟩ W m1) (hb : tb = tE ⟨X.K, cv⟩ W m2) (σ : L2.St) (H : Hp) (Q : VK)
    (h : tG ⟨X.K, cv⟩ W rp (dBin f m1 m2) σ H Q) : tOp r ta tb σ H Q := by
  subst ha hb
  obtain ⟨s, env, S, F, r0, o⟩ := h
  exact ⟨s, env, S, F, r0, OutP.bind (rp := rpE _) o fun a S1 x F1 H1 r1 sm rv o1 => ⟨s, env, S1, F1, r1, OutP.bind (rp := rpE _) o1 fun b S2 y F2 H2 r2 sm2 rv2 o2 =>
    hf W s env S2 F2 σ H2 a b x y Q r2 (Rep.mono sm2 a x rv) rv2 o2⟩⟩
theorem de_bin {op : Operator} {r : R2} {f : D → D → Cells → Out D} (ho : OpR X (binaryOp op) r) (hf : Op2 cv X (rpE ⟨X.K, cv⟩) r f) (h1 : DE X cv W e1 m1) (h2 : DE X cv W e2 m2) : DE X cv W (.BinOp e1 op e2 pos) (dBin f m1 m2) :=
  PE.weak (pe_op ho h1 h2) (bin_w hf rfl rfl)
theorem do_bin {op : Operator} {r : R2} {f : D → D → Cells → Out (List D)} (ho : OpR X (binaryOp op) r) (hf : Op2 cv X (rpO ⟨X.K, cv⟩) r f) (h1 : DE X cv W e1 m1) (h2 : DE X cv W e2 m2) : DO X cv W (.BinOp e1 op e2 pos) (dBin f m1 m2) :=
  PE.weak (pe_op ho h1 h2) (bin_w hf rfl rfl)
theorem de_un {op : UnaryOp} {r : V → Hp → VK → Prop} {f : D → Cells → Out D} (ho : UnR X (unaryOp op) r) (hf : Op1 cv X (rpE ⟨X.K, cv⟩) r f) (h1 : DE X cv W e1 m1) : DE X cv W (.UnaryOp op e1 pos) (dUn f m1) :=
  PE.weak (pe_un ho h1) fun σ H Q ⟨s, env, S, F, r0, o⟩ => ⟨s, env, S, F, r0, OutP.bind (rp := rpE _) o fun a S1 x F1 H1 r1 sm rv o1 => hf W s env S1 F1 σ H1 a x Q r1 rv o1⟩
theorem de_cmp {op : CmpOp} {r : R2} {f : D → D → Cells → Out D} (ho : OpR X (compareOp op) r) (hf : Op2 cv X (rpE ⟨X.K, cv⟩) r f) (h1 : DE X cv W e1 m1) (h2 : DE X cv W e2 m2) (hm : behindInMarks op e2 = false) : DE X cv W (.Compare e1 [op] [e2] pos) (dBin f m1 m2) :=
  PE.weak (pe_cmpR ho h1 h2 hm) (bin_w hf rfl rfl)
/-- a value as a test -/
theorem tst_w {te : TE} (ht : te = tE ⟨X.K, cv⟩ W m) (σ : L2.St) (H : Hp) (Q : Bool → Hp → Prop) (h : tT ⟨X.K, cv⟩ W (tB m) σ H Q) : tTest te σ H Q := by
  subst ht
  obtain ⟨s, env, S, F, r0, o⟩ := h
  refine ⟨s, env, S, F, r0, OutP.bind (rp := rpE _) o fun a S1 x F1 H1 r1 sm rv o1 => ?_⟩
  cases a with
  | bl b =>
    cases rv
    exact ⟨b, rfl, o1 b F1 H1 r1 (Same.refl F1) rfl⟩
  | _ => exact False.elim o1
theorem dt_cmp {op : CmpOp} {r : R2} {f : D → D → Cells → Out D} (ho : OpR X (compareOp op) r) (hf : Op2 cv X (rpE ⟨X.K, cv⟩) r f) (h1 : DE X cv W e1 m1) (h2 : DE X cv W e2 m2) (hm : behindInMarks op e2 = false) : DT X cv W (.Compare e1 [op] [e2] pos) (tB (dBin f m1 m2)) :=
  PT.weak (pt_cmpR ho h1 h2 hm) fun σ H Q ⟨s, env, S, F, r0, o⟩ => by
    refine ⟨s, env, S, F, r0, ?_⟩
    have o' : OutP ⟨X.K, cv⟩ W rpT s env σ F (((m1 env S).bind fun a S1 => (m2 env S1).bind fun b S2 => f a b S2).bind asB) Q := o
    cases q : m1 env S with
    | ok a S1 =>
      rw [q] at o'
      intro x F1 H1 r1 sm rv
      refine ⟨s, env, S1, F1, r1, ?_⟩
      have o2 := OutP.weak o' sm
      cases q2 : m2 env S1 with
      | ok b S2 =>
        simp only [Out.bind, q2] at o2
        intro y F2 H2 r2 sm2 rv2
        refine hf W s env S2 F2 σ H2 a b x y _ r2 (Rep.mono sm2 a x rv) rv2 ?_
        have o3 := OutP.weak o2 sm2
        cases q3 : f a b S2 with
        | ok d S3 =>
          rw [q3] at o3
          intro z F3 H3 r3 sm3 rv3
          cases d with
          | bl k =>
            cases rv3
            exact ⟨k, rfl, o3 k F3 H3 r3 sm3 rfl⟩
          | _ => exact False.elim o3
        | ex x S' =>
          rw [q3] at o3
          exact o3
        | no =>
          rw [q3] at o3
          exact o3
      | ex x S' =>
        simp only [Out.bind, q2] at o2
        exact o2
      | no =>
        simp only [Out.bind, q2] at o2
        exact False.elim o2
    | ex x S' =>
      rw [q] at o'
      exact o'
    | no =>
      rw [q] at o'
      exact o'

/-! ### tests -/
variable {mt mt1 mt2 : Mt} {rest : List Expr}
theorem dt_val (h : DE X cv W e m) (he : ∀ whole, isTrue e X.env whole = (do let v ← whole; standAt e.pos; holding [v] (truthy v)) := by intro _; rfl) : DT X cv W e (tB m) :=
  PT.weak (pt_val h he) fun σ H Q q => by
    obtain ⟨s, env, S, F, r0, o⟩ := q
    refine ⟨s, env, S, F, r0, OutP.bind (rp := rpE _) o fun a S1 x F1 H1 r1 sm rv o1 => ?_⟩
    cases a with
    | bl b =>
      cases rv
      exact ⟨b, rfl, o1 b F1 H1 r1 (Same.refl F1) rfl⟩
    | _ => exact False.elim o1
theorem dw_and1 (h : DT X cv W e mt) : DW X cv W (.BoolOp .And [e] pos) mt := pw_and1 h
theorem dw_or1 (h : DT X cv W e mt) : DW X cv W (.BoolOp .Or [e] pos) mt := pw_or1 h
theorem PW.weak {t t' : TT} (h : PW X e t) (w : ∀ σ H Q, t' σ H Q → t σ H Q) : PW X e t' := ⟨fun wh pins s σ H Q I q => h.run wh pins s σ H Q I (w σ H Q q)⟩
theorem dw_and (ha : DT X cv W e1 mt1) (hb : DW X cv W (.BoolOp .And (e2 :: rest) pos) mt2) : DW X cv W (.BoolOp .And (e1 :: e2 :: rest) pos) (mAnd mt1 mt2) :=
  PW.weak (pw_and ha hb) fun σ H Q ⟨s, env, S, F, r0, o⟩ => ⟨s, env, S, F, r0, OutP.bind (rp := rpT) o fun a S1 b F1 H1 r1 sm rv o1 => by
    cases rv
    cases a with
    | true => exact ⟨s, env, S1, F1, r1, o1⟩
    | false => exact o1 false F1 H1 r1 (Same.refl F1) rfl⟩
theorem dw_or (ha : DT X cv W e1 mt1) (hb : DW X cv W (.BoolOp .Or (e2 :: rest) pos) mt2) : DW X cv W (.BoolOp .Or (e1 :: e2 :: rest) pos) (mOr mt1 mt2) :=
  PW.weak (pw_or ha hb) fun σ H Q ⟨s, env, S, F, r0, o⟩ => ⟨s, env, S, F, r0, OutP.bind (rp := rpT) o fun a S1 b F1 H1 r1 sm rv o1 => by
    cases rv
    cases a with
    | false => exact ⟨s, env, S1, F1, r1, o1⟩
    | true => exact o1 true F1 H1 r1 (Same.refl F1) rfl⟩
theorem dt_w (h : DW X cv W e mt) : DT X cv W e mt := PW.pt h
theorem dt_not (h : DT X cv W e mt) : DT X cv W (.UnaryOp .Not e pos) (mNot mt) :=
  PT.weak (pt_not h) fun σ H Q ⟨s, env, S, F, r0, o⟩ => ⟨s, env, S, F, r0, OutP.bind (rp := rpT) o fun a S1 b F1 H1 r1 sm rv o1 => by
    cases rv
    exact o1 (!a) F1 H1 r1 (Same.refl F1) rfl⟩
theorem asB_w {S : Cells} {s : Snap} {env : Ev} {F : Hp} {σ : L2.St} {a : D} {x : V} {γ δ : Type} {rp : Rp γ δ} {k : Bool → Cells → Out γ} {Q : δ → Hp → Prop} {R' : Bool → Prop} (rv : Rep X.K F s.io a x)
    (o : OutP ⟨X.K, cv⟩ W rp s env σ F ((asB a S).bind k) Q) (h : ∀ c, OutP ⟨X.K, cv⟩ W rp s env σ F (k c S) Q → R' c) : ∃ c, x = .bl c ∧ R' c := by
  cases a with
  | bl b =>
    cases rv
    exact ⟨b, rfl, h b o⟩
  | _ => exact False.elim o
theorem de_one {op : BoolOp} (h : DE X cv W e m) : DE X cv W (.BoolOp op [e] pos) m := pe_one h
theorem de_and (ha : DE X cv W e1 m1) (hb : DE X cv W (.BoolOp .And (e2 :: rest) pos) m2) : DE X cv W (.BoolOp .And (e1 :: e2 :: rest) pos) (dAnd m1 m2) :=
  PE.weak (pe_and ha hb) fun σ H Q ⟨s, env, S, F, r0, o⟩ => ⟨s, env, S, F, r0, OutP.bind (rp := rpE _) o fun a S1 x F1 H1 r1 sm rv o1 => asB_w rv o1 fun c o2 => by
    cases c with
    | true => exact ⟨s, env, S1, F1, r1, o2⟩
    | false => exact o2 _ F1 H1 r1 (Same.refl F1) rfl⟩
theorem de_or (ha : DE X cv W e1 m1) (hb : DE X cv W (.BoolOp .Or (e2 :: rest) pos) m2) : DE X cv W (.BoolOp .Or (e1 :: e2 :: rest) pos) (dOr m1 m2) :=
  PE.weak (pe_or ha hb) fun σ H Q ⟨s, env, S, F, r0, o⟩ => ⟨s, env, S, F, r0, OutP.bind (rp := rpE _) o fun a S1 x F1 H1 r1 sm rv o1 => asB_w rv o1 fun c o2 => by
    cases c with
    | false => exact ⟨s, env, S1, F1, r1, o2⟩
    | true => exact o2 _ F1 H1 r1 (Same.refl F1) rfl⟩
theorem de_not (h : DE X cv W e m) : DE X cv W (.UnaryOp .Not e pos) (dNot m) :=
  PE.weak (pe_not h) fun σ H Q ⟨s, env, S, F, r0, o⟩ => ⟨s, env, S, F, r0, OutP.bind (rp := rpE _) o fun a S1 x F1 H1 r1 sm rv o1 => asB_w rv o1 fun c o2 => o2 _ F1 H1 r1 (Same.refl F1) rfl⟩
theorem de_if {c : Expr} (hc : DT X cv W c mt) (ha : DE X cv W e1 m1) (hb : DE X cv W e2 m2) : DE X cv W (.IfExp c e1 e2 pos) (dIf mt m1 m2) :=
  PE.weak (pe_ifExp hc ha hb) fun σ H Q ⟨s, env, S, F, r0, o⟩ => ⟨s, env, S, F, r0, OutP.bind (rp := rpT) o fun a S1 b F1 H1 r1 sm rv o1 => by
    cases rv
    cases a with
    | true => exact ⟨s, env, S1, F1, r1, o1⟩
    | false => exact ⟨s, env, S1, F1, r1, o1⟩⟩

/-! ### parts of a slice -/
theorem PO.weak {e : Option Expr} {t t' : TO} (h : PO X e t) (w : ∀ σ H Q, t' σ H Q → t σ H Q) : PO X e t' := ⟨fun pins s σ H Q I q => h.run pins s σ H Q I (w σ H Q q)⟩
theorem dp_none : DPt X cv W none pNone := PO.weak po_none fun σ H Q ⟨s, env, S, F, r, o⟩ => o none F H r (Same.refl F) rfl
theorem dp_some (h : DE X cv W e m) : DPt X cv W (some e) (pSome m) := PO.weak (po_some h) fun σ H Q ⟨s, env, S, F, r, o⟩ => ⟨s, env, S, F, r, OutP.bind (rp := rpE _) o fun a S1 x F1 H1 r1 sm rv o1 => by
  cases a with
  | int i =>
    cases rv
    exact ⟨i, rfl, o1 _ F1 H1 r1 (Same.refl F1) rfl⟩
  | _ => exact False.elim o1⟩

/-! ### displays, new lists frozen -/
def dTup (ma : Ma) : Me := fun env S => (ma env S).bind fun ds S1 => if ds.length ≤ 16777216 then .ok (.tup ds) S1 else .no
def oLst (ma : Ma) : Ma := fun env S => (ma env S).bind fun ds S1 => if ds.length ≤ 16777216 then .ok ds S1 else .no
/-- a new list, frozen at once -/
def dFz (mo : Ma) : Me := fun env S => (mo env S).bind fun ds S1 => .ok (.lst ds) S1
theorem sz_ok {n : Nat} (h : n ≤ 16777216) : n ≤ sizeLine := by rw [sizeLine_eq]; exact h
theorem de_tup {x1} (h : DA X cv W es ma) : DE X cv W (.Tuple es x1 pos) (dTup ma) :=
  PE.weak (pe_tup h) fun σ H Q ⟨s, env, S, F, r0, o⟩ => ⟨s, env, S, F, r0, OutP.bind (rp := rpA _) o fun ds S1 vs F1 H1 r1 sm rv o1 => by
    by_cases hl : ds.length ≤ 16777216
    · rw [if_pos hl] at o1
      refine ⟨sz_ok (by rw [Reps.len rv]; exact hl), fun p hp => ?_⟩
      obtain ⟨r2, sm2⟩ := r1.new (o := .tup vs) hp
      exact o1 _ _ _ r2 sm2 ⟨p, vs, rfl, .inl (.inl upd_same), Reps.mono sm2 ds vs rv⟩
    · rw [if_neg hl] at o1
      exact False.elim o1⟩
theorem do_lst (h : DA X cv W es ma) : DO X cv W (.List es pos) (oLst ma) :=
  PE.weak (pe_lst h) fun σ H Q ⟨s, env, S, F, r0, o⟩ => ⟨s, env, S, F, r0, OutP.bind (rp := rpA _) o fun ds S1 vs F1 H1 r1 sm rv o1 => by
    by_cases hl : ds.length ≤ 16777216
    · rw [if_pos hl] at o1
      refine ⟨sz_ok (by rw [Reps.len rv]; exact hl), fun p hp => ?_⟩
      obtain ⟨r2, off⟩ := r1.lay (o := .lst vs) hp
      obtain ⟨h0, hni, hf⟩ := r1.h.h0 hp
      exact o1 _ _ _ r2 (Same.refl F1) ⟨p, rfl, ⟨hf, h0, hni, r1.h.pFree hp, vs, upd_same, rv⟩, off⟩
    · rw [if_neg hl] at o1
      exact False.elim o1⟩
theorem R.fz {G : Gm} {s : Snap} {env : Ev} {S : Cells} {F : Hp} {σ : L2.St} {H : Hp} {a : Addr} {ds : List D} (r : R G s env S F σ H) (w : OwnAt G.K s F H a ds) (off : Off env σ a) :
    ∃ F', R G s env S F' σ H ∧ Same F F' ∧ Rep G.K F' s.io (.lst ds) (.ref a) := by
  obtain ⟨hf, h0, hni, np, xs, h1, h2⟩ := w
  have sm : Same F (upd F a (.lst xs)) := same_upd hf
  exact ⟨_, r.freeze hf h0 hni np h1 off, sm, a, xs, rfl, upd_same, Reps.mono sm ds xs h2⟩
theorem de_fz {mo : Ma} (h : DO X cv W e mo) : DE X cv W e (dFz mo) :=
  PE.weak h fun σ H Q ⟨s, env, S, F, r0, o⟩ => ⟨s, env, S, F, r0, OutP.bind (rp := rpO _) o fun ds S1 v F1 H1 r1 sm rv o1 => by
    obtain ⟨a, rfl, w, off⟩ := rv
    obtain ⟨F2, r2, sm2, rp⟩ := r1.fz w off
    exact o1 _ F2 H1 r2 sm2 rp⟩

/-! ### subscripts, slices -/
theorem de_ix {r : R2} {f : D → D → Cells → Out D} (hr : IxR X r) (hf : Op2 cv X (rpE ⟨X.K, cv⟩) r f) (h1 : DE X cv W e1 m1) (h2 : DE X cv W e2 m2) (hs : PlainIx e2 := by exact fun _ _ => rfl) : DE X cv W (.Subscript e1 e2 pos) (dBin f m1 m2) :=
  PE.weak (pe_ix hr h1 h2 hs) (bin_w hf rfl rfl)
/-- x[e], x a list of its own in slot i -/
def dIxO (i : Nat) (m : Me) : Me := fun env S => match env[i]? with
  | some (.own ds) => (m env S).bind fun b S1 => match b with
    | .int j => (match atI ds j with | some d => .ok d S1 | none => .no)
    | _ => .no
  | _ => .no
theorem Reps.atI {K : PySem.W.Frag} {F : Hp} {io : List Addr} {ds : List D} {xs : List V} {j : Int} {d : D} (r : Reps K F io ds xs) (h : L2.atI ds j = some d) : ∃ v, L2.atI xs j = some v ∧ Rep K F io d v := by
  unfold L2.atI at h ⊢
  rw [r.len]
  cases q : ixN ds.length j with
  | none =>
    rw [q] at h
    cases h
  | some k =>
    rw [q] at h
    exact r.get h
theorem de_ixO (i : Nat) {x : Str} {xp : Pos} (h2 : DE X cv W e2 m2) (hN : X.N[i]? = some x := by rfl) (hv : Vis X.env.scope x := by first | exact Or.inl rfl | exact Or.inr (Or.inl rfl) | exact Or.inr (Or.inr rfl)) (hs : PlainIx e2 := by exact fun _ _ => rfl)
    (hd : (x == ("__debug__" : Str)) = false := by decide) (hcd : (x == ("__classdict__" : Str)) = false := by decide) : DE X cv W (.Subscript (.Name x xp) e2 pos) (dIxO i m2) :=
  PE.weak (pe_ix ix_list (pe_var hN hv hd hcd) h2 hs) fun σ H Q ⟨s, env, S, F, r0, o⟩ => by
    unfold dIxO at o
    split at o
    · rename_i ds q
      obtain ⟨a, h1, h3⟩ := r0.own i ds q
      refine ⟨.ref a, h1, s, env, S, F, r0, OutP.bind (rp := rpE _) o fun b S1 y F1 H1 r1 sm rv o1 => ?_⟩
      cases b with
      | int j =>
        cases rv
        simp only at o1
        split at o1
        · rename_i d hd
          obtain ⟨a', g1, _, _, _, _, xs, g2, g3⟩ := r1.own i ds q
          rw [h1] at g1
          cases g1
          obtain ⟨v, hv, rv⟩ := g3.atI hd
          exact ⟨a, xs, j, v, rfl, rfl, .inl (.inl g2), hv, o1 v F1 H1 r1 (Same.refl F1) rv⟩
        · exact o1.elim
      | _ => exact False.elim o1
    · exact o.elim
end rules
end TT
namespace TT
open PySem PySem.Spec PyProof.Rows L2

/-! ### texts -/
theorem cps_len (x : List Char) : (cps x).length = x.length := by simp [cps, Str.length]
theorem cps_list (x : List Char) : (cps x).cps.toList = x.map Char.toNat := by simp [cps]
theorem cps_app (x y : List Char) : cps x ++ cps y = cps (x ++ y) := by
  show Str.mk ((cps x).cps ++ (cps y).cps) = _
  simp [cps]
theorem cps_inj {x y : List Char} (h : cps x = cps y) : x = y := by
  have e : x.map Char.toNat = y.map Char.toNat := by
    have := congrArg (fun z : Str => z.cps.toList) h
    simpa [cps] using this
  exact List.map_inj_right (fun a b h => Char.ext (UInt32.toNat_inj.mp h)) |>.mp e

/-- a list that is read: its items -/
def lv (S : Cells) : D → Option (List D)
  | .lst ds => some ds
  | .cell n => S[n]?
  | _ => none
/-- .. also one that is known to the object (the script) -/
def lvr (S : Cells) : D → Option (List D)
  | .lst ds => some ds
  | .frl ds => some ds
  | .cell n => S[n]?
  | _ => none
section
variable {K : PySem.W.Frag} {s : Snap} {env : Ev} {S : Cells} {F : Hp} {σ : L2.St} {H : Hp} {d : D} {ds : List D} {v : V}
theorem lv_w (r : RelH K s S F H) (h : Rep K F s.io d v) (e : lv S d = some ds) : ∃ a xs, v = .ref a ∧ H a = some (.lst xs) ∧ Reps K F s.io ds xs := by
  cases d with
  | lst es =>
    cases e
    obtain ⟨a, xs, h1, h2, h3⟩ := h
    exact ⟨a, xs, h1, r.fh _ _ h2, h3⟩
  | cell n =>
    obtain ⟨a, h1, h2⟩ := h
    have e' : S[n]? = some ds := e
    have hn : n < s.wr.length := by
      rw [r.len]
      exact (List.getElem?_eq_some_iff.mp e').1
    have hw : s.wr[n]? = some a := by
      unfold Snap.wr at hn ⊢
      rw [List.length_take] at hn
      rw [List.getElem?_take_of_lt (by omega)]
      exact h2
    obtain ⟨_, xs, g1, g2⟩ := r.cell n a ds hw e'
    exact ⟨a, xs, h1, g1, g2⟩
  | _ => cases e
theorem lvr_w (r : RelH K s S F H) (h : Rep K F s.io d v) (e : lvr S d = some ds) : ∃ a xs, v = .ref a ∧ SqL K H a xs ∧ Reps K F s.io ds xs := by
  cases d with
  | lst es =>
    obtain ⟨a, xs, h1, h2, h3⟩ := lv_w (ds := ds) r h e
    exact ⟨a, xs, h1, .inl (.inl h2), h3⟩
  | cell n =>
    obtain ⟨a, xs, h1, h2, h3⟩ := lv_w (ds := ds) r h e
    exact ⟨a, xs, h1, .inl (.inl h2), h3⟩
  | frl es =>
    cases e
    obtain ⟨a, xs, h1, h2, h3⟩ := h
    exact ⟨a, xs, h1, r.fh.seq h2, h3⟩
  | _ => cases e
theorem tup_w (r : RelH K s S F H) (h : Rep K F s.io (.tup ds) v) : ∃ a xs, v = .ref a ∧ SqT K H a xs ∧ Reps K F s.io ds xs := by
  obtain ⟨a, xs, h1, h2, h3⟩ := h
  exact ⟨a, xs, h1, seqT r.fh h2, h3⟩
end

/-! ### arithmetic -/
def lim : Nat := 16777216
def mulOk (i j : Int) : Bool := decide (i.natAbs < 18446744073709551616) || decide (j.natAbs < 18446744073709551616) || decide (i.natAbs.log2 + j.natAbs.log2 < 1000000)
def divOk (j : Int) : Bool := decide (0 < j) && decide (j.natAbs.log2 < 9000)
def opAdd (a b : D) (S : Cells) : Out D := match a, b with
  | .int i, .int j => .ok (.int (i + j)) S
  | .str x, .str y => if x.length + y.length ≤ 16777216 then .ok (.str (x ++ y)) S else .no
  | .tup x, .tup y => if x.length + y.length ≤ 16777216 then .ok (.tup (x ++ y)) S else .no
  | a, b => match lv S a, lv S b with
    | some x, some y => if x.length + y.length ≤ 16777216 then .ok (.lst (x ++ y)) S else .no
    | _, _ => .no
/-- .. a new list that may grow -/
def opCat (a b : D) (S : Cells) : Out (List D) := match lv S a, lv S b with
  | some x, some y => if x.length + y.length ≤ 16777216 then .ok (x ++ y) S else .no
  | _, _ => .no
def opSub (a b : D) (S : Cells) : Out D := match a, b with
  | .int i, .int j => .ok (.int (i - j)) S
  | _, _ => .no
def opMul (a b : D) (S : Cells) : Out D := match a, b with
  | .int i, .int j => if mulOk i j = true then .ok (.int (i * j)) S else .no
  | .str x, .int n => if -9223372036854775808 ≤ n ∧ n < 9223372036854775808 ∧ x.length * n.toNat ≤ 16777216 then .ok (.str (List.replicate n.toNat x).flatten) S else .no
  | a, .int n => match lv S a with
    | some x => if -9223372036854775808 ≤ n ∧ n < 9223372036854775808 ∧ x.length * n.toNat ≤ 16777216 then .ok (.lst (List.replicate n.toNat x).flatten) S else .no
    | none => .no
  | _, _ => .no
def opRep (a b : D) (S : Cells) : Out (List D) := match lv S a, b with
  | some x, .int n => if -9223372036854775808 ≤ n ∧ n < 9223372036854775808 ∧ x.length * n.toNat ≤ 16777216 then .ok (List.replicate n.toNat x).flatten S else .no
  | _, _ => .no
def opMod (a b : D) (S : Cells) : Out D := match a, b with
  | .int i, .int j => if 0 < j then .ok (.int (i % j)) S else .no
  | _, _ => .no
def opFDiv (a b : D) (S : Cells) : Out D := match a, b with
  | .int i, .int j => if divOk j = true then .ok (.int (i / j)) S else .no
  | _, _ => .no
def opPow (a b : D) (S : Cells) : Out D := match a, b with
  | .int i, .int j => if 0 ≤ j ∧ j ≤ 1000000 ∧ i.natAbs < 18446744073709551616 then .ok (.int (i ^ j.toNat)) S else .no
  | _, _ => .no
def opNeg (a : D) (S : Cells) : Out D := match a with
  | .int i => .ok (.int (-i)) S
  | _ => .no

theorem foldl_app {α : Type} : ∀ (l : List (Array α)) (a : Array α), (l.foldl (· ++ ·) a).toList = a.toList ++ (l.map Array.toList).flatten
  | [], a => by simp
  | b :: l, a => by
    rw [List.foldl_cons, foldl_app l (a ++ b)]
    simp
theorem cps_rep (x : List Char) (n : Nat) : (⟨(List.replicate n (cps x).cps).foldl (· ++ ·) #[]⟩ : Str) = cps (List.replicate n x).flatten := by
  have e : (List.replicate n (cps x).cps).foldl (· ++ ·) #[] = ((List.replicate n x).flatten.map Char.toNat).toArray := by
    apply Array.toList_inj.mp
    rw [foldl_app]
    simp [cps, List.map_flatten]
  rw [e]
  rfl
section
variable {X : Cx} {cv : Cv}
def rMulS : R2 := fun x y H Q => ∃ z n, x = .str z ∧ y = .int n ∧ -(2 ^ 63) ≤ n ∧ n < 2 ^ 63 ∧ z.length * n.toNat ≤ sizeLine ∧ Q (.str ⟨(List.replicate n.toNat z.cps).foldl (· ++ ·) #[]⟩) H
theorem op_mulS : OpR X (binaryOp .Mult) rMulS := by
  intro pins s σ H x y v u Q I rx ry h
  obtain ⟨z, n, rfl, rfl, h1, h2, hz, q⟩ := h
  obtain ⟨t, rfl⟩ := rx
  obtain ⟨t', rfl⟩ := ry
  rw [sizeLine_eq] at hz
  refine PySem.P.mul_str (by rw [decide_eq_false (by omega), decide_eq_false (by omega)]; rfl) (fun hn he => ?_) (fun hn he => ?_) ?_
  · have hn' : 1 ≤ n := by omega
    have hk : (z.length : Int) * n ≤ 16777216 := by
      have : (n.toNat : Int) = n := Int.toNat_of_nonneg (by omega)
      have h3 : ((z.length * n.toNat : Nat) : Int) ≤ 16777216 := Int.ofNat_le.mpr hz
      rw [Int.natCast_mul, this] at h3
      exact h3
    have : (z.length : Int) ≤ (2 ^ 63 - 1) / n := by
      rw [Int.le_ediv_iff_mul_le (by omega)]
      omega
    omega
  · show decide (z.length * n.toNat > sizeLine) = false
    rw [sizeLine_eq]
    exact decide_eq_false (by omega)
  · by_cases hn : n < 1
    · rw [if_pos hn]
      have e : n.toNat = 0 := by omega
      rw [e] at q
      exact ⟨by decide, .str Str.empty, H, I.tok _, ⟨_, rfl⟩, q⟩
    · rw [if_neg hn]
      by_cases h1 : (n == 1 || z.length == 0) = true
      · rw [if_pos h1]
        have e : (⟨(List.replicate n.toNat z.cps).foldl (· ++ ·) #[]⟩ : Str) = z := by
          have hh : (List.replicate n.toNat z.cps).foldl (· ++ ·) #[] = z.cps := by
            apply Array.toList_inj.mp
            rw [foldl_app]
            simp only [Bool.or_eq_true, beq_iff_eq] at h1
            rcases h1 with h1 | h1
            · subst h1
              simp
            · have hz0 : z.cps = #[] := Array.size_eq_zero_iff.mp h1
              rw [hz0]
              simp
          rw [hh]
        rw [e] at q
        exact ⟨.str z, H, I, ⟨_, rfl⟩, q⟩
      · rw [if_neg h1]
        refine ⟨?_, .str _, H, I.tok _, ⟨_, rfl⟩, q⟩
        have hl : ((List.replicate n.toNat z.cps).foldl (· ++ ·) #[]).size = z.length * n.toNat := by
          rw [← Array.length_toList, foldl_app]
          simp [Str.length, Nat.mul_comm]
        show _ ≤ sizeLine
        rw [sizeLine_eq]
        show ((List.replicate n.toNat z.cps).foldl (· ++ ·) #[]).size ≤ 16777216
        omega

theorem o2_add : OpR X (binaryOp .Add) (fun x y H Q => rI0 (fun i j => .int (i + j)) x y H Q ∨ (∃ i j, x = .str i ∧ y = .str j ∧ i.length + j.length ≤ sizeLine ∧ Q (.str (i ++ j)) H) ∨ rCat x y H Q ∨ rCatA X.K x y H Q) :=
  OpR.or op_add (OpR.or op_add_str (OpR.or op_cat op_catA))
theorem cat_new {s : Snap} {env : Ev} {S : Cells} {F : Hp} {σ : L2.St} {H : Hp} {a b : D} {x y : V} {Q : VK} {xs ys : List D} (r : R ⟨X.K, cv⟩ s env S F σ H) (ra : Rep X.K F s.io a x) (rb : Rep X.K F s.io b y)
    (ea : lv S a = some xs) (eb : lv S b = some ys) (hl : xs.length + ys.length ≤ 16777216) (h : ∀ p us, H p = none → Reps X.K F s.io (xs ++ ys) us → Q (.ref p) (upd H p (.lst us))) : rCat x y H Q := by
  obtain ⟨l, us, rfl, h1, h2⟩ := lv_w r.h ra ea
  obtain ⟨l', us', rfl, h1', h2'⟩ := lv_w r.h rb eb
  exact ⟨l, l', us, us', rfl, rfl, h1, h1', sz_ok (by rw [h2.len, h2'.len]; exact hl), fun p hp => h p _ hp (h2.append h2')⟩
theorem f_add : Op2 cv X (rpE ⟨X.K, cv⟩) (fun x y H Q => rI0 (fun i j => .int (i + j)) x y H Q ∨ (∃ i j, x = .str i ∧ y = .str j ∧ i.length + j.length ≤ sizeLine ∧ Q (.str (i ++ j)) H) ∨ rCat x y H Q ∨ rCatA X.K x y H Q) opAdd := by
  intro W s env S F σ H a b x y Q r ra rb o
  unfold opAdd at o
  split at o
  · cases ra
    cases rb
    exact .inl ⟨_, _, rfl, rfl, o _ F H r (Same.refl F) rfl⟩
  · cases ra
    cases rb
    split at o
    · rename_i h
      refine .inr (.inl ⟨_, _, rfl, rfl, sz_ok (by rw [cps_len, cps_len]; exact h), ?_⟩)
      rw [cps_app]
      exact o _ F H r (Same.refl F) rfl
    · exact o.elim
  · rename_i xs ys
    split at o
    · rename_i h
      obtain ⟨p, us, rfl, h1, h2⟩ := tup_w r.h ra
      obtain ⟨q, ws, rfl, h3, h4⟩ := tup_w r.h rb
      refine .inr (.inr (.inr ⟨p, q, us, ws, rfl, rfl, h1, h3, sz_ok (by rw [h2.len, h4.len]; exact h), fun e => ?_, fun _ e => ?_, fun _ _ t ht => ?_⟩))
      · subst e
        have : xs = [] := List.length_eq_zero_iff.mp h2.len.symm
        subst this
        exact o _ F H r (Same.refl F) rb
      · subst e
        have : ys = [] := List.length_eq_zero_iff.mp h4.len.symm
        subst this
        rw [List.append_nil] at o
        exact o _ F H r (Same.refl F) ra
      · obtain ⟨r2, sm2⟩ := r.new (o := .tup (us ++ ws)) ht
        exact o _ _ _ r2 sm2 ⟨t, us ++ ws, rfl, .inl (.inl upd_same), Reps.mono sm2 _ _ (h2.append h4)⟩
    · exact o.elim
  · split at o
    · rename_i xs ys ea eb
      split at o
      · rename_i h
        refine .inr (.inr (.inl (cat_new r ra rb ea eb h fun p us hp rus => ?_)))
        obtain ⟨r2, sm2⟩ := r.new (o := .lst us) hp
        exact o _ _ _ r2 sm2 ⟨p, us, rfl, upd_same, Reps.mono sm2 _ _ rus⟩
      · exact o.elim
    · exact o.elim
theorem f_cat : Op2 cv X (rpO ⟨X.K, cv⟩) rCat opCat := by
  intro W s env S F σ H a b x y Q r ra rb o
  unfold opCat at o
  split at o
  · rename_i xs ys ea eb
    split at o
    · rename_i h
      refine cat_new r ra rb ea eb h fun p us hp rus => ?_
      obtain ⟨r2, off⟩ := r.lay (o := .lst us) hp
      obtain ⟨h0, hni, hf⟩ := r.h.h0 hp
      exact o _ _ _ r2 (Same.refl F) ⟨p, rfl, ⟨hf, h0, hni, r.h.pFree hp, us, upd_same, rus⟩, off⟩
    · exact o.elim
  · exact o.elim
theorem f_sub : Op2 cv X (rpE ⟨X.K, cv⟩) (rI0 fun i j => .int (i - j)) opSub := by
  intro W s env S F σ H a b x y Q r ra rb o
  unfold opSub at o
  split at o
  · cases ra
    cases rb
    exact ⟨_, _, rfl, rfl, o _ F H r (Same.refl F) rfl⟩
  · exact o.elim
theorem o2_mul : OpR X (binaryOp .Mult) (fun x y H Q => rI CMul (fun i j => .int (i * j)) x y H Q ∨ rI CMulW (fun i j => .int (i * j)) x y H Q ∨ rMulS x y H Q ∨ rRep x y H Q) :=
  OpR.or op_mul (OpR.or op_mulW (OpR.or op_mulS op_rep))
theorem Reps.rep {K : PySem.W.Frag} {F : Hp} {io : List Addr} {ds : List D} {xs : List V} (h : Reps K F io ds xs) : ∀ n : Nat, Reps K F io (List.replicate n ds).flatten (List.replicate n xs).flatten
  | 0 => rfl
  | n + 1 => by
    rw [List.replicate_succ, List.replicate_succ, List.flatten_cons, List.flatten_cons]
    exact h.append (Reps.rep h n)
theorem f_mul : Op2 cv X (rpE ⟨X.K, cv⟩) (fun x y H Q => rI CMul (fun i j => .int (i * j)) x y H Q ∨ rI CMulW (fun i j => .int (i * j)) x y H Q ∨ rMulS x y H Q ∨ rRep x y H Q) opMul := by
  intro W s env S F σ H a b x y Q r ra rb o
  unfold opMul at o
  split at o
  · cases ra
    cases rb
    split at o
    · rename_i i j h
      unfold mulOk at h
      simp only [Bool.or_eq_true, decide_eq_true_eq] at h
      rcases h with (h | h) | h
      · exact .inl ⟨_, _, rfl, rfl, .inl (by omega), o _ F H r (Same.refl F) rfl⟩
      · exact .inl ⟨_, _, rfl, rfl, .inr (by omega), o _ F H r (Same.refl F) rfl⟩
      · exact .inr (.inl ⟨_, _, rfl, rfl, h, o _ F H r (Same.refl F) rfl⟩)
    · exact o.elim
  · cases ra
    cases rb
    split at o
    · rename_i h
      refine .inr (.inr (.inl ⟨_, _, rfl, rfl, by omega, by omega, sz_ok (by rw [cps_len]; exact h.2.2), ?_⟩))
      rw [cps_rep]
      exact o _ F H r (Same.refl F) rfl
    · exact o.elim
  · cases rb
    split at o
    · rename_i xs ea
      split at o
      · rename_i h
        obtain ⟨l, us, rfl, h1, h2⟩ := lv_w r.h ra ea
        refine .inr (.inr (.inr ⟨l, _, us, rfl, rfl, h1, by omega, by omega, sz_ok (by rw [h2.len]; exact h.2.2), fun p hp => ?_⟩))
        obtain ⟨r2, sm2⟩ := r.new (o := .lst _) hp
        exact o _ _ _ r2 sm2 ⟨p, _, rfl, upd_same, Reps.mono sm2 _ _ (h2.rep _)⟩
      · exact o.elim
    · exact o.elim
  · exact o.elim
theorem f_rep : Op2 cv X (rpO ⟨X.K, cv⟩) rRep opRep := by
  intro W s env S F σ H a b x y Q r ra rb o
  unfold opRep at o
  split at o
  · rename_i xs n ea
    cases rb
    split at o
    · rename_i h
      obtain ⟨l, us, rfl, h1, h2⟩ := lv_w r.h ra ea
      refine ⟨l, _, us, rfl, rfl, h1, by omega, by omega, sz_ok (by rw [h2.len]; exact h.2.2), fun p hp => ?_⟩
      obtain ⟨r2, off⟩ := r.lay (o := .lst (List.replicate n.toNat us).flatten) hp
      obtain ⟨h0, hni, hf⟩ := r.h.h0 hp
      exact o _ _ _ r2 (Same.refl F) ⟨p, rfl, ⟨hf, h0, hni, r.h.pFree hp, _, upd_same, h2.rep _⟩, off⟩
    · exact o.elim
  · exact o.elim
theorem f_mod : Op2 cv X (rpE ⟨X.K, cv⟩) (rI (fun _ j => 0 < j) fun i j => .int (i % j)) opMod := by
  intro W s env S F σ H a b x y Q r ra rb o
  unfold opMod at o
  split at o
  · cases ra
    cases rb
    split at o
    · rename_i h
      exact ⟨_, _, rfl, rfl, h, o _ F H r (Same.refl F) rfl⟩
    · exact o.elim
  · exact o.elim
theorem f_fdiv : Op2 cv X (rpE ⟨X.K, cv⟩) (rI CDivW fun i j => .int (i / j)) opFDiv := by
  intro W s env S F σ H a b x y Q r ra rb o
  unfold opFDiv at o
  split at o
  · cases ra
    cases rb
    split at o
    · rename_i h
      unfold divOk at h
      simp only [Bool.and_eq_true, decide_eq_true_eq] at h
      exact ⟨_, _, rfl, rfl, h, o _ F H r (Same.refl F) rfl⟩
    · exact o.elim
  · exact o.elim
theorem f_pow : Op2 cv X (rpE ⟨X.K, cv⟩) (rI CPow fun i j => .int (i ^ j.toNat)) opPow := by
  intro W s env S F σ H a b x y Q r ra rb o
  unfold opPow at o
  split at o
  · cases ra
    cases rb
    split at o
    · rename_i h
      exact ⟨_, _, rfl, rfl, ⟨h.1, h.2.1, by omega⟩, o _ F H r (Same.refl F) rfl⟩
    · exact o.elim
  · exact o.elim
theorem f_neg : Op1 cv X (rpE ⟨X.K, cv⟩) (rU fun i => .int (-i)) opNeg := by
  intro W s env S F σ H a x Q r ra o
  unfold opNeg at o
  split at o
  · cases ra
    exact ⟨_, rfl, o _ F H r (Same.refl F) rfl⟩
  · exact o.elim
end
end TT
namespace TT
open PySem PySem.Spec PyProof.Rows L2

/-! ### comparisons -/
mutual
def toP : D → PyData
  | .non => .none
  | .bl b => .bool b
  | .int i => .int i
  | .str x => .str (cps x)
  | .lst ds => .list (toPs ds)
  | .frl ds => .list (toPs ds)
  | .tup ds => .tuple (toPs ds)
  | .cell _ => .none
  | .ty _ => .none
def toPs : List D → List PyData
  | [] => []
  | d :: ds => toP d :: toPs ds
end
mutual
/-- how deep a datum is; above 64 for what == does not serve -/
def dep : D → Nat
  | .lst ds => deps ds + 1
  | .frl ds => deps ds + 1
  | .tup ds => deps ds + 1
  | .cell _ => 100
  | .ty _ => 100
  | .non => 0
  | .bl _ => 0
  | .int _ => 0
  | .str _ => 0
def deps : List D → Nat
  | [] => 0
  | d :: ds => max (dep d) (deps ds)
end
mutual
theorem dp_w {K : PySem.W.Frag} {F H : Hp} {io : List Addr} (e : Same F H) : ∀ (d : D) (v : V), Rep K F io d v → dep d ≤ 64 → Dp K H v (toP d)
  | .non, _, h, _ => by cases h; exact .non
  | .bl b, _, h, _ => by cases h; exact .bl b
  | .int i, _, h, _ => by cases h; exact .int i
  | .str x, _, h, _ => by cases h; exact .str _
  | .lst ds, _, ⟨a, xs, h1, h2, h3⟩, hd => by
    subst h1
    exact .lst (.inl (.inl (e _ _ h2))) (dps_w e ds xs h3 (by simp only [dep] at hd; omega))
  | .frl ds, _, ⟨a, xs, h1, h2, h3⟩, hd => by
    subst h1
    exact .lst (e.seq h2) (dps_w e ds xs h3 (by simp only [dep] at hd; omega))
  | .tup ds, _, ⟨a, xs, h1, h2, h3⟩, hd => by
    subst h1
    exact .tup (seqT e h2) (dps_w e ds xs h3 (by simp only [dep] at hd; omega))
  | .cell _, _, _, hd => by simp only [dep] at hd; omega
  | .ty _, _, _, hd => by simp only [dep] at hd; omega
theorem dps_w {K : PySem.W.Frag} {F H : Hp} {io : List Addr} (e : Same F H) : ∀ (ds : List D) (vs : List V), Reps K F io ds vs → deps ds ≤ 64 → DpAll K H vs (toPs ds)
  | [], _, h, _ => by cases h; exact .nil
  | d :: ds, _, ⟨x, r, h1, h2, h3⟩, hd => by
    subst h1
    simp only [deps] at hd
    exact .cons (dp_w e d x h2 (by omega)) (dps_w e ds r h3 (by omega))
end
theorem cps_ok (x : List Char) : PyData.strOk (cps x) = true := by
  unfold PyData.strOk cps
  simp only [List.all_toArray, List.all_eq_true, List.mem_map, decide_eq_true_eq]
  rintro n ⟨c, _, rfl⟩
  have h := c.valid
  simp only [UInt32.isValidChar, Nat.isValidChar] at h
  show c.val.toNat < 1114112
  omega
mutual
theorem toP_can : ∀ d : D, (toP d).canLay0 = true
  | .non => by simp only [toP, PyData.canLay0]
  | .bl _ => by simp only [toP, PyData.canLay0]
  | .int _ => by simp only [toP, PyData.canLay0]
  | .str x => by simp only [toP, PyData.canLay0]; exact cps_ok x
  | .lst ds => by simp only [toP, PyData.canLay0]; exact toPs_can ds
  | .frl ds => by simp only [toP, PyData.canLay0]; exact toPs_can ds
  | .tup ds => by simp only [toP, PyData.canLay0]; exact toPs_can ds
  | .cell _ => by simp only [toP, PyData.canLay0]
  | .ty _ => by simp only [toP, PyData.canLay0]
theorem toPs_can : ∀ ds : List D, PyData.canLayAll0 (toPs ds) = true
  | [] => by simp only [toPs, PyData.canLayAll0]
  | d :: ds => by simp only [toPs, PyData.canLayAll0, toP_can d, toPs_can ds, Bool.and_self]
end
mutual
theorem toP_dep : ∀ d : D, (toP d).depth ≤ dep d
  | .non => by simp only [toP, PyData.depth, dep]; omega
  | .bl _ => by simp only [toP, PyData.depth, dep]; omega
  | .int _ => by simp only [toP, PyData.depth, dep]; omega
  | .str x => by simp only [toP, PyData.depth, dep]; omega
  | .lst ds => by simp only [toP, PyData.depth, dep]; have := toPs_dep ds; omega
  | .frl ds => by simp only [toP, PyData.depth, dep]; have := toPs_dep ds; omega
  | .tup ds => by simp only [toP, PyData.depth, dep]; have := toPs_dep ds; omega
  | .cell _ => by simp only [toP, PyData.depth, dep]; omega
  | .ty _ => by simp only [toP, PyData.depth, dep]; omega
theorem toPs_dep : ∀ ds : List D, PyData.depthAll (toPs ds) ≤ deps ds
  | [] => by simp only [toPs, PyData.depthAll, deps]; omega
  | d :: ds => by
    simp only [toPs, PyData.depthAll, deps]
    have h1 := toP_dep d
    have h2 := toPs_dep ds
    omega
end
theorem shaped_w {d : D} (h : dep d ≤ 64) : SeqAt.shaped (toP d) = true := by
  unfold SeqAt.shaped
  rw [toP_can, Bool.true_and]
  exact decide_eq_true (Nat.le_trans (toP_dep d) h)
/-- a cell's content now -/
def view (S : Cells) : D → D
  | .cell n => match S[n]? with
    | some ds => .lst ds
    | none => .cell n
  | d => d
def deq (a b : D) : Bool := PyData.eqv (toP a) (toP b)
def deqs (a b : List D) : Bool := PyData.eqvAll (toPs a) (toPs b)
def opEq (a b : D) (S : Cells) : Out D := if dep (view S a) ≤ 64 ∧ dep (view S b) ≤ 64 then .ok (.bl (deq (view S a) (view S b))) S else .no
def opNe (a b : D) (S : Cells) : Out D := if dep (view S a) ≤ 64 ∧ dep (view S b) ≤ 64 then .ok (.bl (!deq (view S a) (view S b))) S else .no
theorem view_w {K : PySem.W.Frag} {s : Snap} {S : Cells} {F H : Hp} {d : D} {v : V} (r : RelH K s S F H) (h : Rep K F s.io d v) (hd : dep (view S d) ≤ 64) : Dp K H v (toP (view S d)) := by
  cases d with
  | cell n =>
    cases e : S[n]? with
    | some ds =>
      have ev : view S (.cell n) = .lst ds := by simp [view, e]
      rw [ev] at hd ⊢
      obtain ⟨a, xs, h1, h2, h3⟩ := lv_w (d := .cell n) (ds := ds) r h e
      subst h1
      exact .lst (.inl (.inl h2)) (dps_w r.fh ds xs h3 (by simp only [dep] at hd; omega))
    | none =>
      have ev : view S (.cell n) = .cell n := by simp [view, e]
      rw [ev] at hd
      simp only [dep] at hd
      omega
  | _ => exact dp_w r.fh _ v h hd
section
variable {X : Cx} {cv : Cv}
theorem f_eq : Op2 cv X (rpE ⟨X.K, cv⟩) (rEqD X.K) opEq := by
  intro W s env S F σ H a b x y Q r ra rb o
  unfold opEq at o
  split at o
  · rename_i h
    exact ⟨_, _, view_w r.h ra h.1, view_w r.h rb h.2, shaped_w h.1, shaped_w h.2, o _ F H r (Same.refl F) rfl⟩
  · exact o.elim
theorem f_ne : Op2 cv X (rpE ⟨X.K, cv⟩) (rNeD X.K) opNe := by
  intro W s env S F σ H a b x y Q r ra rb o
  unfold opNe at o
  split at o
  · rename_i h
    exact ⟨_, _, view_w r.h ra h.1, view_w r.h rb h.2, shaped_w h.1, shaped_w h.2, o _ F H r (Same.refl F) rfl⟩
  · exact o.elim
/-- an order of ints, of texts -/
def opOrd (p : Int → Int → Bool) (q : List Nat → List Nat → Bool) (a b : D) (S : Cells) : Out D := match a, b with
  | .int i, .int j => .ok (.bl (p i j)) S
  | .str x, .str y => .ok (.bl (q (x.map Char.toNat) (y.map Char.toNat))) S
  | _, _ => .no
theorem f_ord {p : Int → Int → Bool} {q : List Nat → List Nat → Bool} : Op2 cv X (rpE ⟨X.K, cv⟩) (fun x y H Q => rI0 (fun i j => .bl (p i j)) x y H Q ∨ ∃ i j, x = .str i ∧ y = .str j ∧ Q (.bl (q i.cps.toList j.cps.toList)) H) (opOrd p q) := by
  intro W s env S F σ H a b x y Q r ra rb o
  unfold opOrd at o
  split at o
  · cases ra
    cases rb
    exact .inl ⟨_, _, rfl, rfl, o _ F H r (Same.refl F) rfl⟩
  · cases ra
    cases rb
    refine .inr ⟨_, _, rfl, rfl, ?_⟩
    rw [cps_list, cps_list]
    exact o _ F H r (Same.refl F) rfl
  · exact o.elim
abbrev opLt := opOrd (fun i j => decide (i < j)) fun x y => decide (x < y)
abbrev opLe := opOrd (fun i j => decide (i ≤ j)) fun x y => !decide (y < x)
abbrev opGt := opOrd (fun i j => decide (j < i)) fun x y => decide (y < x)
abbrev opGe := opOrd (fun i j => decide (j ≤ i)) fun x y => !decide (x < y)
theorem o2_lt : OpR X (compareOp .Lt) (fun x y H Q => rI0 (fun i j => .bl (decide (i < j))) x y H Q ∨ ∃ i j, x = .str i ∧ y = .str j ∧ Q (.bl (decide (i.cps.toList < j.cps.toList))) H) := OpR.or op_lt op_lt_str
theorem o2_le : OpR X (compareOp .LtE) (fun x y H Q => rI0 (fun i j => .bl (decide (i ≤ j))) x y H Q ∨ ∃ i j, x = .str i ∧ y = .str j ∧ Q (.bl (!decide (j.cps.toList < i.cps.toList))) H) := OpR.or op_le op_le_str
theorem o2_gt : OpR X (compareOp .Gt) (fun x y H Q => rI0 (fun i j => .bl (decide (j < i))) x y H Q ∨ ∃ i j, x = .str i ∧ y = .str j ∧ Q (.bl (decide (j.cps.toList < i.cps.toList))) H) := OpR.or op_gt op_gt_str
theorem o2_ge : OpR X (compareOp .GtE) (fun x y H Q => rI0 (fun i j => .bl (decide (j ≤ i))) x y H Q ∨ ∃ i j, x = .str i ∧ y = .str j ∧ Q (.bl (!decide (i.cps.toList < j.cps.toList))) H) := OpR.or op_ge op_ge_str
def isNon : D → Bool
  | .non => true
  | _ => false
def opIs (a b : D) (S : Cells) : Out D := match b with
  | .non => .ok (.bl (isNon a)) S
  | _ => .no
def opIsNot (a b : D) (S : Cells) : Out D := match b with
  | .non => .ok (.bl (!isNon a)) S
  | _ => .no
theorem isNon_w {K : PySem.W.Frag} {F : Hp} {io : List Addr} {d : D} {v : V} (h : Rep K F io d v) : decide (v = .non) = isNon d := by
  cases d with
  | non => cases h; rfl
  | bl b => cases h; rfl
  | int b => cases h; rfl
  | str b => cases h; rfl
  | ty b => cases h; rfl
  | lst b => obtain ⟨_, _, rfl, _⟩ := h; rfl
  | frl b => obtain ⟨_, _, rfl, _⟩ := h; rfl
  | tup b => obtain ⟨_, _, rfl, _⟩ := h; rfl
  | cell b => obtain ⟨_, rfl, _⟩ := h; rfl
theorem f_is : Op2 cv X (rpE ⟨X.K, cv⟩) (fun x y H Q => y = .non ∧ Q (.bl (decide (x = .non))) H) opIs := by
  intro W s env S F σ H a b x y Q r ra rb o
  unfold opIs at o
  split at o
  · cases rb
    refine ⟨rfl, ?_⟩
    rw [isNon_w ra]
    exact o _ F H r (Same.refl F) rfl
  · exact o.elim
theorem f_isnot : Op2 cv X (rpE ⟨X.K, cv⟩) (fun x y H Q => y = .non ∧ Q (.bl (!decide (x = .non))) H) opIsNot := by
  intro W s env S F σ H a b x y Q r ra rb o
  unfold opIsNot at o
  split at o
  · cases rb
    refine ⟨rfl, ?_⟩
    rw [isNon_w ra]
    exact o _ F H r (Same.refl F) rfl
  · exact o.elim

/-! ### in -/
def flatD : D → Bool
  | .non => true
  | .bl _ => true
  | .int _ => true
  | .str _ => true
  | _ => false
def toV : D → V
  | .bl b => .bl b
  | .int i => .int i
  | .str x => .str (cps x)
  | _ => .non
def inD (x : D) (xs : List D) : Bool := inV (toV x) (xs.map toV)
theorem flat_w {K : PySem.W.Frag} {F : Hp} {io : List Addr} {d : D} {v : V} (h : Rep K F io d v) (f : flatD d = true) : v = toV d ∧ flatV v = true := by
  cases d <;> first | (cases h; exact ⟨rfl, rfl⟩) | (simp [flatD] at f)
theorem flats_w {K : PySem.W.Frag} {F : Hp} {io : List Addr} : ∀ {ds : List D} {vs : List V}, Reps K F io ds vs → ds.all flatD = true → vs = ds.map toV ∧ vs.all flatV = true
  | [], _, h, _ => by cases h; exact ⟨rfl, rfl⟩
  | d :: ds, _, ⟨x, r, h1, h2, h3⟩, f => by
    subst h1
    simp only [List.all_cons, Bool.and_eq_true] at f
    obtain ⟨e1, e2⟩ := flat_w h2 f.1
    obtain ⟨e3, e4⟩ := flats_w h3 f.2
    exact ⟨by rw [e1, e3]; rfl, by simp [e2, e4]⟩
def inB (a b : D) (S : Cells) : Option Bool := match a, b with
  | .str [c], .str y => some (decide (c ∈ y))
  | a, .tup ys => if flatD a = true ∧ ys.all flatD = true then some (inD a ys) else none
  | a, b => match lvr S b with
    | some ys => if flatD a = true ∧ ys.all flatD = true then some (inD a ys) else none
    | none => none
def opIn (a b : D) (S : Cells) : Out D := match inB a b S with
  | some k => .ok (.bl k) S
  | none => .no
def opNotIn (a b : D) (S : Cells) : Out D := match inB a b S with
  | some k => .ok (.bl (!k)) S
  | none => .no
def rInA (K : PySem.W.Frag) (neg : Bool) : R2 := fun x y H Q => (∃ (c : Nat) (z : Str), x = .str ⟨#[c]⟩ ∧ y = .str z ∧ Q (.bl (if neg then !decide (c ∈ z.cps.toList) else decide (c ∈ z.cps.toList))) H) ∨ rIn K neg x y H Q
theorem inB_w {neg : Bool} {s : Snap} {env : Ev} {S : Cells} {F : Hp} {σ : L2.St} {H : Hp} {a b : D} {x y : V} {Q : VK} {k : Bool} (r : R ⟨X.K, cv⟩ s env S F σ H) (ra : Rep X.K F s.io a x) (rb : Rep X.K F s.io b y) (e : inB a b S = some k)
    (q : Q (.bl (if neg then !k else k)) H) : rInA X.K neg x y H Q := by
  unfold inB at e
  split at e
  · rename_i c z
    cases ra
    cases rb
    cases e
    refine .inl ⟨c.toNat, _, rfl, rfl, ?_⟩
    have : decide (c.toNat ∈ (cps z).cps.toList) = decide (c ∈ z) := by
      rw [cps_list, decide_eq_decide, List.mem_map]
      constructor
      · rintro ⟨d, h1, h2⟩
        have : d = c := Char.ext (UInt32.toNat_inj.mp h2)
        rw [← this]
        exact h1
      · intro h
        exact ⟨c, h, rfl⟩
    rw [this]
    exact q
  · rename_i ys
    split at e
    · rename_i h
      cases e
      obtain ⟨p, us, rfl, h1, h2⟩ := tup_w r.h rb
      obtain ⟨e1, e2⟩ := flat_w ra h.1
      obtain ⟨e3, e4⟩ := flats_w h2 h.2
      exact .inr ⟨p, us, rfl, .inr h1, e2, e4, by rw [e1, e3]; exact q⟩
    · cases e
  · split at e
    · rename_i ys eb
      split at e
      · rename_i h
        cases e
        obtain ⟨p, us, rfl, h1, h2⟩ := lvr_w r.h rb eb
        obtain ⟨e1, e2⟩ := flat_w ra h.1
        obtain ⟨e3, e4⟩ := flats_w h2 h.2
        exact .inr ⟨p, us, rfl, .inl h1, e2, e4, by rw [e1, e3]; exact q⟩
      · cases e
    · cases e
theorem o2_in : OpR X (compareOp .In) (rInA X.K false) := OpR.or op_in_sign op_in_seq
theorem o2_notIn : OpR X (compareOp .NotIn) (rInA X.K true) := OpR.or op_notIn_sign op_notIn_seq
theorem f_in : Op2 cv X (rpE ⟨X.K, cv⟩) (rInA X.K false) opIn := by
  intro W s env S F σ H a b x y Q r ra rb o
  unfold opIn at o
  split at o
  · rename_i k e
    exact inB_w r ra rb e (o _ F H r (Same.refl F) rfl)
  · exact o.elim
theorem f_notIn : Op2 cv X (rpE ⟨X.K, cv⟩) (rInA X.K true) opNotIn := by
  intro W s env S F σ H a b x y Q r ra rb o
  unfold opNotIn at o
  split at o
  · rename_i k e
    exact inB_w r ra rb e (o _ F H r (Same.refl F) rfl)
  · exact o.elim

/-! ### items, slices, len -/
def atO {α : Type} (o : Option α) (f : α → D) (S : Cells) : Out D := match o with
  | some a => .ok (f a) S
  | none => .no
def opIx (a b : D) (S : Cells) : Out D := match a, b with
  | .str x, .int i => if x.length ≤ 16777216 then atO (L2.atI x i) (fun c => .str [c]) S else .no
  | .tup ds, .int i => atO (L2.atI ds i) id S
  | a, .int i => match lvr S a with
    | some ds => atO (L2.atI ds i) id S
    | none => .no
  | _, _ => .no
theorem atI_map {α β : Type} (f : α → β) (x : List α) (i : Int) : L2.atI (x.map f) i = (L2.atI x i).map f := by
  unfold L2.atI
  rw [List.length_map]
  cases ixN x.length i with
  | none => rfl
  | some j => simp
theorem f_ix : Op2 cv X (rpE ⟨X.K, cv⟩) (rIx X.K) opIx := by
  intro W s env S F σ H a b x y Q r ra rb o
  unfold opIx at o
  split at o
  · rename_i z i
    cases ra
    cases rb
    split at o
    · rename_i h
      unfold atO at o
      split at o
      · rename_i c e
        refine .inr (.inr ⟨_, _, c.toNat, rfl, rfl, sz_ok (by rw [cps_len]; exact h), ?_, o _ F H r (Same.refl F) rfl⟩)
        rw [cps_list, atI_map, e]
        rfl
      · exact o.elim
    · exact o.elim
  · rename_i ds i
    cases rb
    unfold atO at o
    split at o
    · rename_i d e
      obtain ⟨p, us, rfl, h1, h2⟩ := tup_w r.h ra
      obtain ⟨v, hv, rv⟩ := h2.atI e
      exact .inr (.inl ⟨p, us, _, v, rfl, rfl, h1, hv, o v F H r (Same.refl F) rv⟩)
    · exact o.elim
  · cases rb
    split at o
    · rename_i ds ea
      unfold atO at o
      split at o
      · rename_i d e
        obtain ⟨p, us, rfl, h1, h2⟩ := lvr_w r.h ra ea
        obtain ⟨v, hv, rv⟩ := h2.atI e
        exact .inl ⟨p, us, _, v, rfl, rfl, h1, hv, o v F H r (Same.refl F) rv⟩
      · exact o.elim
    · exact o.elim
  · exact o.elim
/-- xs[lo:hi] -/
def cut {α : Type} (xs : List α) (lo hi : Option Int) : List α := (xs.drop (HT.sIx xs.length 0 lo)).take (HT.sIx xs.length xs.length hi - HT.sIx xs.length 0 lo)
theorem Reps.cut {K : PySem.W.Frag} {F : Hp} {io : List Addr} {ds : List D} {xs : List V} (r : Reps K F io ds xs) (lo hi : Option Int) : Reps K F io (TT.cut ds lo hi) (cutV xs lo hi) := by
  unfold TT.cut cutV
  rw [r.len]
  exact (r.drop _).take _
theorem cutS_cps (x : List Char) (lo hi : Option Int) : cutS (cps x) lo hi = cps (cut x lo hi) := by
  unfold cutS cut
  rw [cps_len, cps_list]
  simp [cps, List.map_drop, List.map_take]
def opSl (a : D) (lo hi : Option Int) (S : Cells) : Out D := match a with
  | .str x => if x.length ≤ 16777216 then .ok (.str (cut x lo hi)) S else .no
  | .tup ds => .ok (.tup (cut ds lo hi)) S
  | a => match lvr S a with
    | some ds => .ok (.lst (cut ds lo hi)) S
    | none => .no
def opSlO (a : D) (lo hi : Option Int) (S : Cells) : Out (List D) := match lvr S a with
  | some ds => .ok (cut ds lo hi) S
  | none => .no
theorem SlR.or {r r' : V → Option Int → Option Int → Hp → VK → Prop} (h : L2.SlR X r) (h' : L2.SlR X r') : L2.SlR X (fun x lo hi H Q => r x lo hi H Q ∨ r' x lo hi H Q) := by
  intro pins s σ H x v vl vu lo hi sl Q I rx hs pl pu q
  rcases q with q | q
  · exact h pins s σ H x v vl vu lo hi sl Q I rx hs pl pu q
  · exact h' pins s σ H x v vl vu lo hi sl Q I rx hs pl pu q
def OpS (cv : Cv) (X : Cx) {α : Type} (rp : Rp α V) (r : V → Option Int → Option Int → Hp → VK → Prop) (f : D → Option Int → Option Int → Cells → Out α) : Prop := ∀ (W : WX) (s : Snap) (env : Ev) (S : Cells) (F : Hp) (σ : L2.St) (H : Hp) (a : D) (x : V) (lo hi : Option Int) (Q : VK),
  R ⟨X.K, cv⟩ s env S F σ H → Rep X.K F s.io a x → OutP ⟨X.K, cv⟩ W rp s env σ F (f a lo hi S) Q → r x lo hi H Q
theorem f_sl : OpS cv X (rpE ⟨X.K, cv⟩) (fun x lo hi H Q => rSlS x lo hi H Q ∨ rSlA X.K x lo hi H Q ∨ rSlL X.K x lo hi H Q) opSl := by
  intro W s env S F σ H a x lo hi Q r ra o
  unfold opSl at o
  split at o
  · cases ra
    split at o
    · rename_i h
      refine .inl ⟨_, rfl, sz_ok (by rw [cps_len]; exact h), ?_⟩
      rw [cutS_cps]
      exact o _ F H r (Same.refl F) rfl
    · exact o.elim
  · rename_i ds
    obtain ⟨p, us, rfl, h1, h2⟩ := tup_w r.h ra
    refine .inr (.inl ⟨p, us, rfl, h1, fun e => ?_, fun _ t ht => ?_⟩)
    · have : TT.cut ds lo hi = ds := by
        unfold TT.cut
        rw [h2.len] at e
        rw [e.1, e.2]
        simp
      rw [this] at o
      exact o _ F H r (Same.refl F) ra
    · obtain ⟨r2, sm2⟩ := r.new (o := .tup (cutV us lo hi)) ht
      exact o _ _ _ r2 sm2 ⟨t, _, rfl, .inl (.inl upd_same), Reps.mono sm2 _ _ (h2.cut lo hi)⟩
  · split at o
    · rename_i ds ea
      obtain ⟨p, us, rfl, h1, h2⟩ := lvr_w r.h ra ea
      refine .inr (.inr ⟨p, us, rfl, h1, fun t ht => ?_⟩)
      obtain ⟨r2, sm2⟩ := r.new (o := .lst (cutV us lo hi)) ht
      exact o _ _ _ r2 sm2 ⟨t, _, rfl, upd_same, Reps.mono sm2 _ _ (h2.cut lo hi)⟩
    · exact o.elim
theorem f_slO : OpS cv X (rpO ⟨X.K, cv⟩) (fun x lo hi H Q => rSlS x lo hi H Q ∨ rSlA X.K x lo hi H Q ∨ rSlL X.K x lo hi H Q) opSlO := by
  intro W s env S F σ H a x lo hi Q r ra o
  unfold opSlO at o
  split at o
  · rename_i ds ea
    obtain ⟨p, us, rfl, h1, h2⟩ := lvr_w r.h ra ea
    refine .inr (.inr ⟨p, us, rfl, h1, fun t ht => ?_⟩)
    obtain ⟨r2, off⟩ := r.lay (o := .lst (cutV us lo hi)) ht
    obtain ⟨h0, hni, hf⟩ := r.h.h0 ht
    exact o _ _ _ r2 (Same.refl F) ⟨t, rfl, ⟨hf, h0, hni, r.h.pFree ht, _, upd_same, h2.cut lo hi⟩, off⟩
  · exact o.elim
theorem sl_any : L2.SlR X (fun x lo hi H Q => rSlS x lo hi H Q ∨ rSlA X.K x lo hi H Q ∨ rSlL X.K x lo hi H Q) := SlR.or sl_str (SlR.or sl_tupA sl_list)
def dSl {α : Type} (f : D → Option Int → Option Int → Cells → Out α) (m : Me) (lo hi : Ev → Cells → Out (Option Int)) : Ev → Cells → Out α := fun env S => (m env S).bind fun a S1 => (lo env S1).bind fun l S2 => (hi env S2).bind fun h S3 => f a l h S3
theorem sl_w {W : WX} {m : Me} {ml mh : Ev → Cells → Out (Option Int)} {α : Type} {rp : Rp α V} {r : V → Option Int → Option Int → Hp → VK → Prop} {f : D → Option Int → Option Int → Cells → Out α} (hf : OpS cv X rp r f) (σ : L2.St) (H : Hp) (Q : VK)
    (h : tG ⟨X.K, cv⟩ W rp (dSl f m ml mh) σ H Q) : tSl r (tE ⟨X.K, cv⟩ W m) (tPt ⟨X.K, cv⟩ W ml) (tPt ⟨X.K, cv⟩ W mh) σ H Q := by
  obtain ⟨s, env, S, F, r0, o⟩ := h
  exact ⟨s, env, S, F, r0, OutP.bind (rp := rpE _) o fun a S1 x F1 H1 r1 sm rv o1 => ⟨s, env, S1, F1, r1, OutP.bind (rp := rpP) o1 fun l S2 l' F2 H2 r2 sm2 el o2 => ⟨s, env, S2, F2, r2, OutP.bind (rp := rpP) o2 fun h S3 h' F3 H3 r3 sm3 eh o3 => by
    cases el
    cases eh
    exact hf W s env S3 F3 σ H3 a x l h Q r3 (Rep.mono (sm2.trans sm3) a x rv) o3⟩⟩⟩
variable {W : WX} {e : Expr} {m : Me} {ml mh : Ev → Cells → Out (Option Int)} {lo hi : Option Expr} {pos p2 : Pos}
theorem de_sl (he : DE X cv W e m) (hl : DPt X cv W lo ml) (hh : DPt X cv W hi mh) : DE X cv W (.Subscript e (.Slice lo hi none p2) pos) (dSl opSl m ml mh) := PE.weak (pe_slice sl_any he hl hh) (sl_w f_sl)
theorem do_sl (he : DE X cv W e m) (hl : DPt X cv W lo ml) (hh : DPt X cv W hi mh) : DO X cv W (.Subscript e (.Slice lo hi none p2) pos) (dSl opSlO m ml mh) := PE.weak (pe_slice sl_any he hl hh) (sl_w f_slO)
end
end TT
namespace TT
open PySem PySem.Spec PyProof.Rows L2

/-! ### statements -/
inductive Ret where
  | val (d : D)
  | own (ds : List D)
  | new (d : D)
def Ret.fz : Ret → D
  | .val d => d
  | .own ds => .lst ds
  | .new d => d
inductive SOut where
  | nx (env : Ev) (S : Cells)
  | bk (env : Ev) (S : Cells)
  | ct (env : Ev) (S : Cells)
  | ret (r : Ret) (S : Cells)
  | ex (x : Ex) (env : Ev) (S : Cells)
  | no
abbrev Ms := Ev → Cells → SOut
/-- an expression's outcome goes on in a statement -/
def Out.go {α : Type} (o : Out α) (env : Ev) (k : α → Cells → SOut) : SOut := match o with
  | .ok a S => k a S
  | .ex x S => .ex x env S
  | .no => .no
def RetP (G : Gm) (s : Snap) (r : Ret) (S : Cells) (Q : VK) : Prop := match r with
  | .val d => ∀ v F H, RelH G.K s S F H → Rep G.K F s.io d v → Q v H
  | .own ds => ∀ a F H, RelH G.K s S F H → OwnAt G.K s F H a ds → Q (.ref a) H
  | .new d => ∀ v F H, RelH G.K s S F H → RepN G.K s.F0 F s.io d v → Q v H
def OutS (G : Gm) (W : WX) (s : Snap) (F0 : Hp) (o : SOut) (E : Ends) : Prop := match o with
  | .nx env S => ∀ σ F H, R G s env S F σ H → Same F0 F → E.nx σ H
  | .bk env S => ∀ σ F H, R G s env S F σ H → Same F0 F → E.bk σ H
  | .ct env S => ∀ σ F H, R G s env S F σ H → Same F0 F → E.ct σ H
  | .ret r S => RetP G s r S E.rt
  | .ex x env S => ∀ c dx σ F H, R G s env S F σ H → Same F0 F → RepX G F H s.io x c dx → W c dx σ H
  | .no => False
def tS (G : Gm) (W : WX) (m : Ms) : TS := fun E σ H => ∃ s env S F, R G s env S F σ H ∧ OutS G W s F (m env S) E
def DS (X : Cx) (cv : Cv) (W : WX) (st : Stmt) (m : Ms) : Prop := PS X st (tS ⟨X.K, cv⟩ W m)
def DB (X : Cx) (cv : Cv) (W : WX) (sts : List Stmt) (m : Ms) : Prop := PSs X sts (tS ⟨X.K, cv⟩ W m)

def sNil : Ms := fun env S => .nx env S
def SOut.seq (o : SOut) (k : Ms) : SOut := match o with
  | .nx env S => k env S
  | o => o
def sSeq (a b : Ms) : Ms := fun env S => (a env S).seq b
def sBrk : Ms := fun env S => .bk env S
def sCnt : Ms := fun env S => .ct env S
def sExp (m : Me) : Ms := fun env S => (m env S).go env fun _ S1 => .nx env S1
def sRet (m : Me) : Ms := fun env S => (m env S).go env fun d S1 => .ret (.val d) S1
def sRetO (m : Ma) : Ms := fun env S => (m env S).go env fun ds S1 => .ret (.own ds) S1
def sRetN : Ms := fun _ S => .ret (.val .non) S
/-- return x, a list of its own -/
def sRetV (i : Nat) : Ms := fun env S => match env[i]? with
  | some (.own ds) => .ret (.own ds) S
  | some (.val d) => .ret (.val d) S
  | _ => .no
def sIf (c : Mt) (a b : Ms) : Ms := fun env S => (c env S).go env fun k S1 => if k = true then a env S1 else b env S1
def sSet (i : Nat) (m : Me) : Ms := fun env S => (m env S).go env fun d S1 => .nx (env.set i (.val d)) S1
def sSetO (i : Nat) (m : Ma) : Ms := fun env S => (m env S).go env fun ds S1 => .nx (env.set i (.own ds)) S1
/-- a list of its own is frozen from here on -/
def sFrz (i : Nat) (m : Ms) : Ms := fun env S => match env[i]? with
  | some (.own ds) => m (env.set i (.val (.lst ds))) S
  | _ => m env S
/-- x.append(e), x a list of its own -/
def sApp (i : Nat) (m : Me) : Ms := fun env S => match env[i]? with
  | some (.own ds) => (m env S).go env fun d S1 => if ds.length < 16777216 then .nx (env.set i (.own (ds ++ [d]))) S1 else .no
  | _ => .no
/-- x[j] = e, x a list of its own -/
def sPutO (i : Nat) (mj me : Me) : Ms := fun env S => (me env S).go env fun d S1 => match env[i]? with
  | some (.own ds) => (mj env S1).go env fun j S2 => (match j with
    | .int k => (match ixN ds.length k with
      | some n => .nx (env.set i (.own (ds.set n d))) S2
      | none => .no)
    | _ => .no)
  | _ => .no
/-- o[j] = e, o a given list -/
def sPutC (mo mj me : Me) : Ms := fun env S => (me env S).go env fun d S1 => (mo env S1).go env fun o S2 => (mj env S2).go env fun j S3 => match o, j with
  | .cell c, .int k => (match S3[c]? with
    | some ds => (match ixN ds.length k with
      | some n => .nx env (S3.set c (ds.set n d))
      | none => .no)
    | none => .no)
  | _, _ => .no

section
variable {G : Gm} {W : WX} {s : Snap} {env : Ev} {S : Cells} {F : Hp} {σ : L2.St} {H : Hp}
theorem set_key {α : Type} {l : List α} {i j : Nat} {x y : α} (q : (l.set i x)[j]? = some y) : (i = j ∧ y = x ∧ i < l.length) ∨ (i ≠ j ∧ l[j]? = some y) := by
  by_cases hj : i = j
  · subst hj
    have hl : i < l.length := by
      have := (List.getElem?_eq_some_iff.mp q).1
      simpa using this
    rw [List.getElem?_set_self hl] at q
    exact .inl ⟨rfl, (Option.some.inj q).symm, hl⟩
  · rw [List.getElem?_set_ne hj] at q
    exact .inr ⟨hj, q⟩
/-- slot i takes another value -/
theorem R.setSl {i : Nat} {sl : Sl} {v : Option V} (r : R G s env S F σ H) (h1 : ∀ d, sl = .val d → ∃ u, v = some u ∧ Rep G.K F s.io d u) (h2 : ∀ ds, sl = .own ds → ∃ a, v = some (.ref a) ∧ OwnAt G.K s F H a ds ∧ Off env σ a)
    (h3 : ∀ x, sl = .exn x → ∃ a d, G.cv.hx = some (a, G.cv.cl x.nm, d) ∧ v = some (.ref a) ∧ RepF G.K F s.io x d) (h4 : ∀ d, sl = .loo d → ∃ u Q, v = some u ∧ Same Q H ∧ (∀ a, Q a ≠ none → s.P a) ∧ RepN G.K F (ov F Q) s.io d u) : R G s (env.set i sl) S F (σ.set i v) H := by
  have self : ∀ {l : L2.St}, l.length = env.length → i < env.length → (l.set i v)[i]? = some v := fun e h => List.getElem?_set_self (by rw [e]; exact h)
  refine ⟨r.h, by simp [r.len], fun j d q => ?_, fun j ds q => ?_, fun j k a ds es hne q1 q2 e1 => ?_, fun j x q => ?_, fun j d q => ?_⟩
  · rcases set_key q with ⟨rfl, z, hl⟩ | ⟨hj, q'⟩
    · obtain ⟨u, e, hr⟩ := h1 d z.symm
      exact ⟨u, by rw [self r.len.symm hl, e], hr⟩
    · obtain ⟨u, e, hr⟩ := r.val j d q'
      exact ⟨u, by rw [List.getElem?_set_ne hj]; exact e, hr⟩
  · rcases set_key q with ⟨rfl, z, hl⟩ | ⟨hj, q'⟩
    · obtain ⟨a, e, hr, _⟩ := h2 ds z.symm
      exact ⟨a, by rw [self r.len.symm hl, e], hr⟩
    · obtain ⟨a, e, hr⟩ := r.own j ds q'
      exact ⟨a, by rw [List.getElem?_set_ne hj]; exact e, hr⟩
  · rcases set_key q1 with ⟨rfl, z1, hl1⟩ | ⟨hj, q1'⟩ <;> rcases set_key q2 with ⟨rfl, z2, hl2⟩ | ⟨hk, q2'⟩
    · exact absurd rfl hne
    · obtain ⟨b, e, _, off⟩ := h2 ds z1.symm
      rw [self r.len.symm hl1, e] at e1
      cases e1
      rw [List.getElem?_set_ne hk]
      exact off k es q2'
    · obtain ⟨b, e, _, off⟩ := h2 es z2.symm
      rw [List.getElem?_set_ne hj] at e1
      rw [self r.len.symm hl2, e]
      intro z
      cases z
      exact off j ds q1' e1
    · rw [List.getElem?_set_ne hj] at e1
      rw [List.getElem?_set_ne hk]
      exact r.dist j k a ds es hne q1' q2' e1
  · rcases set_key q with ⟨rfl, z, hl⟩ | ⟨hj, q'⟩
    · obtain ⟨a, d, e1, e, hr⟩ := h3 x z.symm
      exact ⟨a, d, e1, by rw [self r.len.symm hl, e], hr⟩
    · obtain ⟨a, d, e1, e, hr⟩ := r.exn j x q'
      exact ⟨a, d, e1, by rw [List.getElem?_set_ne hj]; exact e, hr⟩
  · rcases set_key q with ⟨rfl, z, hl⟩ | ⟨hj, q'⟩
    · obtain ⟨u, Q, e, hr⟩ := h4 d z.symm
      exact ⟨u, Q, by rw [self r.len.symm hl, e], hr⟩
    · obtain ⟨u, Q, e, hr⟩ := r.loo j d q'
      exact ⟨u, Q, by rw [List.getElem?_set_ne hj]; exact e, hr⟩
theorem R.setVal {i : Nat} {d : D} {v : V} (r : R G s env S F σ H) (h : Rep G.K F s.io d v) : R G s (env.set i (.val d)) S F (σ.set i (some v)) H :=
  r.setSl (fun d' e => by cases e; exact ⟨v, rfl, h⟩) (fun _ e => nomatch e) (fun _ e => nomatch e) (fun _ e => nomatch e)
theorem R.setOwn {i : Nat} {ds : List D} {a : Addr} (r : R G s env S F σ H) (h : OwnAt G.K s F H a ds) (off : Off env σ a) : R G s (env.set i (.own ds)) S F (σ.set i (some (.ref a))) H :=
  r.setSl (fun _ e => nomatch e) (fun d' e => by cases e; exact ⟨a, rfl, h, off⟩) (fun _ e => nomatch e) (fun _ e => nomatch e)
/-- slot i holds nothing known -/
theorem R.setNo {i : Nat} {v : Option V} (r : R G s env S F σ H) : R G s (env.set i .no) S F (σ.set i v) H :=
  r.setSl (fun _ e => nomatch e) (fun _ e => nomatch e) (fun _ e => nomatch e) (fun _ e => nomatch e)
/-- .. the value stays -/
theorem R.forget {i : Nat} (r : R G s env S F σ H) : R G s (env.set i .no) S F σ H := by
  by_cases hl : i < σ.length
  · have h := r.setNo (i := i) (v := σ[i])
    have e : σ.set i σ[i] = σ := List.set_getElem_self hl
    rw [e] at h
    exact h
  · rw [List.set_eq_of_length_le (by rw [r.len]; omega)]
    exact r
/-- a list of its own is written -/
theorem R.write {i : Nat} {ds es : List D} {a : Addr} {ys : List V} (r : R G s env S F σ H) (hi : env[i]? = some (.own ds)) (hs : σ[i]? = some (some (.ref a))) (h : Reps G.K F s.io es ys) : R G s (env.set i (.own es)) S F σ (upd H a (.lst ys)) := by
  obtain ⟨a', g1, w⟩ := r.own i ds hi
  rw [hs] at g1
  cases g1
  have ppw : ∀ b, s.P b → b ≠ a := fun b e z => w.np (by rw [← z]; exact e)
  refine ⟨⟨fun b e => ⟨by rw [upd_ne (ppw b e)]; exact (r.h.pp b e).1, (r.h.pp b e).2⟩, same_off r.h.fh w.fr, r.h.f0, r.h.new, fun b u e hn => ?_, r.h.len, r.h.nd, fun n b ds' h1 h2 => ?_⟩, by simp [r.len], fun j d q => ?_, fun j fs q => ?_, fun j k b fs gs hne q1 q2 e1 => ?_, fun j x q => ?_, fun j d q => ?_⟩
  · have : b ≠ a := fun z => by
      rw [z, w.h0] at e
      cases e
    rw [upd_ne this]
    exact r.h.frame b u e hn
  · obtain ⟨p1, xs, p2, p3⟩ := r.h.cell n b ds' h1 h2
    have : b ≠ a := fun z => w.ni (by rw [← z]; exact List.mem_of_getElem? h1)
    exact ⟨p1, xs, by rw [upd_ne this]; exact p2, p3⟩
  · rcases set_key q with ⟨_, z, _⟩ | ⟨_, q'⟩
    · cases z
    · exact r.val j d q'
  · rcases set_key q with ⟨z, z2, _⟩ | ⟨z, q'⟩
    · subst z
      cases z2
      exact ⟨a, hs, w.fr, w.h0, w.ni, w.np, ys, upd_same, h⟩
    · obtain ⟨b, h1, h2, h3, h4, h5, xs, h6, h7⟩ := r.own j fs q'
      have : b ≠ a := fun e => r.dist i j a ds fs z hi q' hs (by rw [h1, e])
      exact ⟨b, h1, h2, h3, h4, h5, xs, by rw [upd_ne this]; exact h6, h7⟩
  · have fix : ∀ {j : Nat} {fs : List D}, (env.set i (.own es))[j]? = some (.own fs) → ∃ fs', env[j]? = some (.own fs') := fun {j fs} q => by
      rcases set_key q with ⟨z, _, _⟩ | ⟨_, q'⟩
      · subst z
        exact ⟨ds, hi⟩
      · exact ⟨fs, q'⟩
    obtain ⟨fs', q1'⟩ := fix q1
    obtain ⟨gs', q2'⟩ := fix q2
    exact r.dist j k b fs' gs' hne q1' q2' e1
  · rcases set_key q with ⟨_, z, _⟩ | ⟨_, q'⟩
    · cases z
    · exact r.exn j x q'
  · rcases set_key q with ⟨_, z, _⟩ | ⟨_, q'⟩
    · cases z
    · obtain ⟨u, Q, e, h2, h3, h4⟩ := r.loo j d q'
      exact ⟨u, Q, e, fun b o z => by rw [upd_ne (ppw b (h3 b (by rw [z]; exact fun y => nomatch y)))]; exact h2 b o z, h3, h4⟩
/-- a given list is written -/
theorem R.writeC {c : Nat} {ds : List D} {a : Addr} {ys : List V} (r : R G s env S F σ H) (hw : s.wr[c]? = some a) (h : Reps G.K F s.io ds ys) : R G s env (S.set c ds) F σ (upd H a (.lst ys)) := by
  have hc : c < S.length := by
    rw [← r.h.len]
    exact (List.getElem?_eq_some_iff.mp hw).1
  obtain ⟨g1, xs0, g2, _⟩ := r.h.cell c a _ hw (List.getElem?_eq_getElem hc)
  have ma : a ∈ s.wr := List.mem_of_getElem? hw
  have ppw : ∀ b, s.P b → b ≠ a := fun b e z => (r.h.pp b e).2.2.2 (by rw [z]; exact ma)
  refine ⟨⟨fun b e => ⟨by rw [upd_ne (ppw b e)]; exact (r.h.pp b e).1, (r.h.pp b e).2⟩, same_off r.h.fh g1, r.h.f0, r.h.new, fun b u e hn => ?_, by simp [r.h.len], r.h.nd, fun n b ds' h1 h2 => ?_⟩, r.len, r.val, fun j fs q => ?_, r.dist, r.exn, fun j d q => ?_⟩
  · rw [upd_ne (fun z => hn (by rw [z]; exact ma))]
    exact r.h.frame b u e hn
  · by_cases hn : c = n
    · subst hn
      rw [hw] at h1
      cases h1
      rw [List.getElem?_set_self hc] at h2
      cases h2
      exact ⟨g1, ys, upd_same, h⟩
    · rw [List.getElem?_set_ne hn] at h2
      obtain ⟨p1, xs, p2, p3⟩ := r.h.cell n b ds' h1 h2
      have : b ≠ a := fun z => by
        subst z
        exact hn ((List.getElem?_inj (List.getElem?_eq_some_iff.mp hw).1 r.h.nd).mp (hw.trans h1.symm))
      exact ⟨p1, xs, by rw [upd_ne this]; exact p2, p3⟩
  · obtain ⟨b, h1, h2, h3, h4, h5, xs, h6, h7⟩ := r.own j fs q
    exact ⟨b, h1, h2, h3, h4, h5, xs, by rw [upd_ne (fun z => h4 (by rw [z]; exact ma))]; exact h6, h7⟩
  · obtain ⟨u, Q, e, h2, h3, h4⟩ := r.loo j d q
    exact ⟨u, Q, e, fun b o z => by rw [upd_ne (ppw b (h3 b (by rw [z]; exact fun y => nomatch y)))]; exact h2 b o z, h3, h4⟩

theorem OutS.weak {o : SOut} {E : Ends} {F' : Hp} (h : OutS G W s F o E) (e : Same F F') : OutS G W s F' o E := by
  cases o with
  | nx env S => exact fun σ F H r q => h σ F H r (e.trans q)
  | bk env S => exact fun σ F H r q => h σ F H r (e.trans q)
  | ct env S => exact fun σ F H r q => h σ F H r (e.trans q)
  | ret rt S => exact h
  | ex x env S => exact fun c dx σ F2 H' r sm q => h c dx σ F2 H' r (e.trans sm) q
  | no => exact h
theorem OutS.go {α β : Type} {rp : Rp α β} {o : Out α} {k : α → Cells → SOut} {E : Ends} {Q : β → Hp → Prop} (h : OutS G W s F (o.go env k) E)
    (hk : ∀ a S' b F' H', R G s env S' F' σ H' → Same F F' → rp s env F' σ H' a b → OutS G W s F' (k a S') E → Q b H') : OutP G W rp s env σ F o Q := by
  cases o with
  | ok a S' => exact fun b F' H' r sm q => hk a S' b F' H' r sm q (OutS.weak h sm)
  | ex x S' => exact fun c dx F' H' r sm q => h c dx σ F' H' r sm q
  | no => exact h
theorem OutS.nxE {o : SOut} {E E' : Ends} (h : OutS G W s F o E) (h1 : ∀ σ H, E.nx σ H → E'.nx σ H) (h2 : ∀ σ H, E.bk σ H → E'.bk σ H) (h3 : ∀ σ H, E.ct σ H → E'.ct σ H) (h4 : ∀ v H, E.rt v H → E'.rt v H) : OutS G W s F o E' := by
  cases o with
  | nx env S => exact fun σ F H r q => h1 σ H (h σ F H r q)
  | bk env S => exact fun σ F H r q => h2 σ H (h σ F H r q)
  | ct env S => exact fun σ F H r q => h3 σ H (h σ F H r q)
  | ret rt S =>
    cases rt with
    | val d => exact fun v F H r q => h4 v H (h v F H r q)
    | own ds => exact fun a F H r q => h4 _ H (h a F H r q)
    | new d => exact fun v F H r q => h4 v H (h v F H r q)
  | ex x env S => exact h
  | no => exact h
end

section
variable {X : Cx} {cv : Cv} {W : WX} {e e1 e2 : Expr} {m m1 m2 : Me} {ma mo : Ma} {mt : Mt} {st : Stmt} {sts sts2 : List Stmt} {ms ms1 ms2 : Ms} {pos pos' pos'' : Pos}
theorem db_nil : DB X cv W [] sNil := PSs.weak pss_nil fun E σ H ⟨s, env, S, F, r, o⟩ => o σ F H r (Same.refl F)
theorem db_cons (h1 : DS X cv W st ms1) (h2 : DB X cv W sts ms2) : DB X cv W (st :: sts) (sSeq ms1 ms2) := PSs.weak (pss_cons h1 h2) fun E σ H ⟨s, env, S, F, r, o⟩ => by
  refine ⟨s, env, S, F, r, ?_⟩
  unfold sSeq at o
  generalize ms1 env S = o1 at o
  cases o1 with
  | nx env' S' => exact fun σ' F' H' r' sm => ⟨s, env', S', F', r', OutS.weak o sm⟩
  | bk _ _ => exact o
  | ct _ _ => exact o
  | ret _ _ => exact o
  | ex _ _ _ => exact o
  | no => exact o
theorem db_one (h1 : DS X cv W st ms1) : DB X cv W [st] ms1 := PSs.weak (pss_one h1) fun E σ H h => h
theorem db_frz (i : Nat) (h : DB X cv W sts ms) : DB X cv W sts (sFrz i ms) := PSs.weak h fun E σ H ⟨s, env, S, F, r, o⟩ => by
  unfold sFrz at o
  split at o
  · rename_i ds q
    obtain ⟨a, h1, w⟩ := r.own i ds q
    -- the list leaves its slot, is frozen, comes back as data
    have r0 : R ⟨X.K, cv⟩ s (env.set i .no) S F σ H := r.forget
    have off : Off (env.set i .no) σ a := fun j fs qj hj => by
      by_cases hij : i = j
      · subst hij
        have hl : i < env.length := (List.getElem?_eq_some_iff.mp q).1
        rw [List.getElem?_set_self hl] at qj
        cases qj
      · rw [List.getElem?_set_ne hij] at qj
        exact r.dist i j a ds fs hij q qj h1 hj
    obtain ⟨F2, r2, sm2, rp⟩ := r0.fz w off
    have r3 := r2.setVal (i := i) rp
    rw [List.set_set] at r3
    have es : σ.set i (some (V.ref a)) = σ := by
      refine List.ext_getElem? fun j => ?_
      by_cases hj : i = j
      · subst hj
        rw [List.getElem?_set_self (List.getElem?_eq_some_iff.mp h1).1, h1]
      · rw [List.getElem?_set_ne hj]
    rw [es] at r3
    exact ⟨s, _, S, F2, r3, OutS.weak o sm2⟩
  · exact ⟨s, env, S, F, r, o⟩
theorem ds_pass : DS X cv W (.Pass pos) sNil := PS.weak ps_pass fun E σ H ⟨s, env, S, F, r, o⟩ => o σ F H r (Same.refl F)
theorem ds_break : DS X cv W (.Break pos) sBrk := PS.weak ps_break fun E σ H ⟨s, env, S, F, r, o⟩ => o σ F H r (Same.refl F)
theorem ds_continue : DS X cv W (.Continue pos) sCnt := PS.weak ps_continue fun E σ H ⟨s, env, S, F, r, o⟩ => o σ F H r (Same.refl F)
theorem ds_doc {x j} : DS X cv W (.Expr (.Constant (.str x) j pos) pos') sNil := PS.weak ps_doc fun E σ H ⟨s, env, S, F, r, o⟩ => o σ F H r (Same.refl F)
theorem ds_expr (he : DE X cv W e m) (hs : swapsWith e none pos.line X.env = pure false := by rfl) : DS X cv W (.Expr e pos) (sExp m) := PS.weak (ps_expr he hs) fun E σ H ⟨s, env, S, F, r, o⟩ => ⟨s, env, S, F, r, OutS.go (rp := rpE _) o fun a S1 v F1 H1 r1 sm rv o1 => o1 σ F1 H1 r1 (Same.refl F1)⟩
theorem ds_ret (he : DE X cv W e m) : DS X cv W (.Return (some e) pos) (sRet m) := PS.weak (ps_ret he) fun E σ H ⟨s, env, S, F, r, o⟩ => ⟨s, env, S, F, r, OutS.go (rp := rpE _) o fun a S1 v F1 H1 r1 sm rv o1 => o1 v F1 H1 r1.h rv⟩
theorem ds_retO (he : DO X cv W e mo) : DS X cv W (.Return (some e) pos) (sRetO mo) := PS.weak (ps_ret he) fun E σ H ⟨s, env, S, F, r, o⟩ => ⟨s, env, S, F, r, OutS.go (rp := rpO _) o fun a S1 v F1 H1 r1 sm rv o1 => by
  obtain ⟨p, rfl, w, off⟩ := rv
  exact o1 p F1 H1 r1.h w⟩
theorem ds_retN : DS X cv W (.Return none pos) sRetN := PS.weak ps_retN fun E σ H ⟨s, env, S, F, r, o⟩ => o .non F H r.h rfl
theorem ds_retV (i : Nat) {x : Str} (hN : X.N[i]? = some x := by rfl) (hv : Vis X.env.scope x := by first | exact Or.inl rfl | exact Or.inr (Or.inl rfl) | exact Or.inr (Or.inr rfl)) (hd : (x == ("__debug__" : Str)) = false := by decide)
    (hcd : (x == ("__classdict__" : Str)) = false := by decide) : DS X cv W (.Return (some (.Name x pos')) pos) (sRetV i) := PS.weak (ps_ret (pe_var hN hv hd hcd)) fun E σ H ⟨s, env, S, F, r, o⟩ => by
  unfold sRetV at o
  split at o
  · rename_i ds q
    obtain ⟨a, h1, w⟩ := r.own i ds q
    exact ⟨.ref a, h1, o a F H r.h w⟩
  · rename_i d q
    obtain ⟨v, h1, w⟩ := r.val i d q
    exact ⟨v, h1, o v F H r.h w⟩
  · exact o.elim
theorem ds_if {c : Expr} (hc : DT X cv W c mt) (ha : DB X cv W sts ms1) (hb : DB X cv W sts2 ms2) : DS X cv W (.If c sts sts2 pos) (sIf mt ms1 ms2) := PS.weak (ps_if hc ha hb) fun E σ H ⟨s, env, S, F, r, o⟩ => ⟨s, env, S, F, r, OutS.go (rp := rpT) o fun a S1 b F1 H1 r1 sm rv o1 => by
  cases rv
  cases a with
  | true => exact ⟨s, env, S1, F1, r1, o1⟩
  | false => exact ⟨s, env, S1, F1, r1, o1⟩⟩
theorem ds_set (i : Nat) {x : Str} (hN : X.N.Nodup) (he : DE X cv W e m) (hi : X.N[i]? = some x := by rfl) (hx : Loc X.env.scope x := by first | exact Or.inl rfl | exact Or.inr rfl) (hs : swapsWith e (some (.Name x pos')) pos.line X.env = pure false := by rfl)
    (hf : X.fn x = true ∨ X.env.scope.names.lookup x = some .local := by first | exact .inl rfl | exact .inr rfl | assumption) : DS X cv W (.Assign [.Name x pos'] e pos) (sSet i m) := PS.weak (ps_set hN hi hx he hs hf) fun E σ H ⟨s, env, S, F, r, o⟩ =>
  ⟨s, env, S, F, r, OutS.go (rp := rpE _) o fun a S1 v F1 H1 r1 sm rv o1 => o1 _ F1 H1 (r1.setVal rv) (Same.refl F1)⟩
theorem ds_setO (i : Nat) {x : Str} (hN : X.N.Nodup) (he : DO X cv W e mo) (hi : X.N[i]? = some x := by rfl) (hx : Loc X.env.scope x := by first | exact Or.inl rfl | exact Or.inr rfl) (hs : swapsWith e (some (.Name x pos')) pos.line X.env = pure false := by rfl)
    (hf : X.fn x = true ∨ X.env.scope.names.lookup x = some .local := by first | exact .inl rfl | exact .inr rfl | assumption) : DS X cv W (.Assign [.Name x pos'] e pos) (sSetO i mo) := PS.weak (ps_set hN hi hx he hs hf) fun E σ H ⟨s, env, S, F, r, o⟩ =>
  ⟨s, env, S, F, r, OutS.go (rp := rpO _) o fun a S1 v F1 H1 r1 sm rv o1 => by
    obtain ⟨p, rfl, w, off⟩ := rv
    exact o1 _ F1 H1 (r1.setOwn w off) (Same.refl F1)⟩
theorem sz_lt' {n : Nat} (h : n < 16777216) : n < sizeLine := by rw [sizeLine_eq]; exact h
/-- x.append(e) -/
theorem ds_app (i : Nat) {x : Str} {apos cpos : Pos} (he : DE X cv W e m) (hN : X.N[i]? = some x := by rfl) (hv : Vis X.env.scope x := by first | exact Or.inl rfl | exact Or.inr (Or.inl rfl) | exact Or.inr (Or.inr rfl)) (hd : (x == ("__debug__" : Str)) = false := by decide)
    (hcd : (x == ("__classdict__" : Str)) = false := by decide)
    (hbase : attributeBase (.Name x pos') "append" X.env (eval (.Name x pos') X.env) = eval (.Name x pos') X.env := by rfl)
    (hfew : ((backTo cpos (starEach [e] X.env)).all (fun x => !x.1) && (backToKw cpos (keywordEach [] X.env)).all (fun x => x.1.isSome)
      && decide (([e] : List Expr).length + ([] : List Keyword).length + (if ([] : List Keyword).isEmpty then 0 else 1) < 30)) = true := by rfl)
    (hline : (apos.endLine == cpos.line) = true := by rfl) (hs : starEach [e] X.env = (false, eval e X.env) :: starEach [] X.env := by rfl) (hplain : (backTo cpos (starEach [] X.env)).any (·.1) = false := by rfl)
    (hsw : swapsWith (.Call (.Attribute (.Name x pos') "append" apos) [e] [] cpos) none pos.line X.env = pure false := by rfl) :
    DS X cv W (.Expr (.Call (.Attribute (.Name x pos') "append" apos) [e] [] cpos) pos) (sApp i m) :=
  PS.weak (ps_expr (pe_bm PySem.F.plainAttrs_list PySem.F.slot_list_append PySem.F.type_list_append mt_append (pe_var hN hv hd hcd) (pa_cons he pa_nil hs) hbase hfew hline hs hplain) hsw) fun E σ H ⟨s, env, S, F, r, o⟩ => by
    unfold sApp at o
    split at o
    · rename_i ds0 q
      obtain ⟨a, h1, w⟩ := r.own i ds0 q
      obtain ⟨xs0, hx0, _⟩ := w.at_
      refine ⟨.ref a, h1, .inl ⟨rfl, xs0, .inl (.inl hx0)⟩, s, env, S, F, r, OutS.go (rp := rpE _) o fun d S1 v F1 H1 r1 sm rv o1 => ?_⟩
      split at o1
      · rename_i hl
        obtain ⟨a', g1, w1⟩ := r1.own i ds0 q
        rw [h1] at g1
        cases g1
        obtain ⟨xs, hx, hr⟩ := w1.at_
        exact ⟨a, xs, v, rfl, rfl, hx, sz_lt' (by rw [hr.len]; exact hl), o1 σ F1 _ (r1.write q h1 (hr.append (Reps.one rv))) (Same.refl F1)⟩
      · exact o1.elim
    · exact o.elim
/-- o[j] = e, o a given list -/
theorem ds_putC {ej : Expr} {mj me : Me} (hw : DE X cv W e me) (ho : DE X cv W e1 m1) (hj : DE X cv W ej mj)
    (ha : ∀ v, assign (.Subscript e1 ej pos') X.env v = (do
      let ov ← holding [v] (eval e1 X.env)
      let iv ← holding [v, ov] (eval ej X.env)
      standAt pos'
      holding [v, ov, iv] (setItem ov iv v)
      release [v, ov, iv] []) := by intro _; rfl)
    (hs : swapsWithSole [.Subscript e1 ej pos'] e pos.line X.env = pure false := by rfl) (hw' : swappedStores [.Subscript e1 ej pos'] e X.env = pure none := by rfl)
    (h1 : (assignEach [.Subscript e1 ej pos'] X.env).map (·.2) = [assign (.Subscript e1 ej pos') X.env] := by rfl) :
    DS X cv W (.Assign [.Subscript e1 ej pos'] e pos) (sPutC m1 mj me) :=
  PS.weak (ps_asg hw (pg_sub ho hj set_list ha) hs hw' h1) fun E σ H ⟨s, env, S, F, r, o⟩ =>
    ⟨s, env, S, F, r, OutS.go (rp := rpE _) o fun d S1 v F1 H1 r1 sm1 rv o1 => ⟨s, env, S1, F1, r1, OutS.go (rp := rpE _) o1 fun dc S2 c F2 H2 r2 sm2 rc o2 => ⟨s, env, S2, F2, r2, OutS.go (rp := rpE _) o2 fun dj S3 j F3 H3 r3 sm3 rj o3 => by
      split at o3
      · rename_i cn k
        split at o3
        · rename_i ds q
          split at o3
          · rename_i n hn
            cases rj
            obtain ⟨a, g1, g2⟩ := rc
            subst g1
            have hlt : cn < s.wr.length := by
              rw [r3.h.len]
              exact (List.getElem?_eq_some_iff.mp q).1
            have hwr : s.wr[cn]? = some a := by
              unfold Snap.wr at hlt ⊢
              rw [List.length_take] at hlt
              rw [List.getElem?_take_of_lt (by omega)]
              exact g2
            obtain ⟨p1, xs, p2, p3⟩ := r3.h.cell cn a ds hwr q
            refine ⟨a, xs, k, n, rfl, rfl, p2, by rw [p3.len]; exact hn, ?_⟩
            exact o3 σ F3 _ (r3.writeC hwr (p3.set n (Rep.mono (sm2.trans sm3) d v rv))) (Same.refl F3)
          · exact o3.elim
        · exact o3.elim
      · exact o3.elim⟩⟩⟩
/-- x[j] = e, x a list of its own -/
theorem ds_putO (i : Nat) {x : Str} {ej : Expr} {mj me : Me} {xp : Pos} (hw : DE X cv W e me) (hj : DE X cv W ej mj) (hN : X.N[i]? = some x := by rfl) (hv : Vis X.env.scope x := by first | exact Or.inl rfl | exact Or.inr (Or.inl rfl) | exact Or.inr (Or.inr rfl)) (hd : (x == ("__debug__" : Str)) = false := by decide)
    (hcd : (x == ("__classdict__" : Str)) = false := by decide)
    (ha : ∀ v, assign (.Subscript (.Name x xp) ej pos') X.env v = (do
      let ov ← holding [v] (eval (.Name x xp) X.env)
      let iv ← holding [v, ov] (eval ej X.env)
      standAt pos'
      holding [v, ov, iv] (setItem ov iv v)
      release [v, ov, iv] []) := by intro _; rfl)
    (hs : swapsWithSole [.Subscript (.Name x xp) ej pos'] e pos.line X.env = pure false := by rfl) (hw' : swappedStores [.Subscript (.Name x xp) ej pos'] e X.env = pure none := by rfl)
    (h1 : (assignEach [.Subscript (.Name x xp) ej pos'] X.env).map (·.2) = [assign (.Subscript (.Name x xp) ej pos') X.env] := by rfl) :
    DS X cv W (.Assign [.Subscript (.Name x xp) ej pos'] e pos) (sPutO i mj me) :=
  PS.weak (ps_asg hw (pg_sub (pe_var hN hv hd hcd) hj set_list ha) hs hw' h1) fun E σ H ⟨s, env, S, F, r, o⟩ =>
    ⟨s, env, S, F, r, OutS.go (rp := rpE _) o fun d S1 v F1 H1 r1 sm1 rv o1 => by
      split at o1
      · rename_i ds q
        obtain ⟨a, g1, w⟩ := r1.own i ds q
        refine ⟨.ref a, g1, s, env, S1, F1, r1, OutS.go (rp := rpE _) o1 fun dj S3 j F3 H3 r3 sm3 rj o3 => ?_⟩
        split at o3
        · rename_i k
          split at o3
          · rename_i n hn
            cases rj
            obtain ⟨a', g1', w1⟩ := r3.own i ds q
            rw [g1] at g1'
            cases g1'
            obtain ⟨xs, hx, hr⟩ := w1.at_
            exact ⟨a, xs, k, n, rfl, rfl, hx, by rw [hr.len]; exact hn, o3 σ F3 _ (r3.write q g1 (hr.set n (Rep.mono sm3 d v rv))) (Same.refl F3)⟩
          · exact o3.elim
        · exact o3.elim
      · exact o1.elim⟩
end
end TT
namespace TT
open PySem PySem.Spec PyProof.Rows L2

/-! ### defs -/
abbrev Mf := List D → Cells → Out Ret
def fnM (n N : Nat) (body : Ms) : Mf := fun ds S => if ds.length = n then (match body (ds.map .val ++ List.replicate (N - n) .no) S with
  | .nx _ S' => .ok (.val .non) S'
  | .ret r S' => .ok r S'
  | .ex x _ S' => .ex x S'
  | _ => .no) else .no
def OutC (G : Gm) (s : Snap) (o : Out Ret) (Q : VK) (E : XK) : Prop := match o with
  | .ok r S => RetP G s r S Q
  | .ex x S => ∀ c dx F H, RelH G.K s S F H → RepX G F H s.io x c dx → E c dx H
  | .no => False
/-- a def's promise by its meaning -/
def spT (G : Gm) (m : Mf) : Sp := fun vs H Q E => ∃ ds S F io nw, RelH G.K ⟨io, nw, H, F, nP⟩ S F H ∧ Reps G.K F io ds vs ∧ OutC G ⟨io, nw, H, F, nP⟩ (m ds S) Q E
theorem spT_len {G : Gm} {n N : Nat} {body : Ms} {vs : List V} {H : Hp} {Q : VK} {E : XK} (h : spT G (fnM n N body) vs H Q E) : vs.length = n := by
  obtain ⟨ds, S, F, io, nw, r, rv, o⟩ := h
  unfold fnM at o
  split at o
  · rename_i e
    rw [rv.len, e]
  · exact o.elim
theorem R.start {G : Gm} {s : Snap} {S : Cells} {F H : Hp} {ds : List D} {vs : List V} {N : List Str} {n : Nat} (r : RelH G.K s S F H) (rv : Reps G.K F s.io ds vs) (hn : ds.length = n) :
    R G s (ds.map .val ++ List.replicate (N.length - n) .no) S F (L2.start N vs) H := by
  have hl : vs.length = n := by rw [rv.len, hn]
  have key : ∀ {i : Nat} {sl : Sl}, (ds.map Sl.val ++ List.replicate (N.length - n) .no)[i]? = some sl → sl = .no ∨ ∃ d, sl = .val d ∧ ds[i]? = some d := fun {i sl} q => by
    by_cases hi : i < ds.length
    · rw [List.getElem?_append_left (by simpa using hi), List.getElem?_map, List.getElem?_eq_getElem hi] at q
      cases q
      exact .inr ⟨_, rfl, List.getElem?_eq_getElem hi⟩
    · rw [List.getElem?_append_right (by simpa using hi)] at q
      have := List.mem_of_getElem? q
      exact .inl (List.eq_of_mem_replicate this)
  refine ⟨r, ?_, fun i d q => ?_, fun i es q => ?_, fun i j a es fs _ q => ?_, fun i x q => ?_, fun i d q => ?_⟩
  · simp [L2.start, hl, hn]
  · rcases key q with z | ⟨d', z, hd⟩
    · cases z
    · cases z
      obtain ⟨v, hv, hr⟩ := rv.get hd
      refine ⟨v, ?_, hr⟩
      unfold L2.start
      have hi : i < vs.length := (List.getElem?_eq_some_iff.mp hv).1
      rw [List.getElem?_append_left (by simpa using hi), List.getElem?_map, hv]
      rfl
  · rcases key q with z | ⟨d', z, _⟩ <;> cases z
  · rcases key q with z | ⟨d', z, _⟩ <;> cases z
  · rcases key q with z | ⟨d', z, _⟩ <;> cases z
  · rcases key q with z | ⟨d', z, _⟩ <;> cases z
/-- THE RULE for a def -/
theorem fn_ok {P : Program} {w : World} {K : PySem.W.Frag} {mg : Str → Option Value} {base : Heap} {cv : Cv} {x qual : Str} {st : Stmt} {f : Addr} {fd : FuncData} {N ps : List Str} {k : Nat} {body : Ms} (F : Fun K x qual st f fd) (Sc : FnScope N ps (defScope st))
    (hbody : ∀ (cdv : Value) (A : Around) (outer : List Env) (s : Shared) (H : Hp) (E : XK), Room k (A.deeper (envOfC qual (defScope st) s.heap.objs.size f cdv)) →
      DB (cxOf (L2.CX P w) P w K mg base N qual (defScope st) f cdv A outer s H E) cv (fun c dx _ H' => E c dx H') (defBody st) body) :
    FnOk P w K mg base (L2.CX P w) (k + 1) f fd ps (spT ⟨K, cv⟩ (fnM ps.length N.length body)) := by
  refine F.okX Sc (fun vs H Q E h => spT_len h) fun cdv A outer s H vs Q E hr h => ⟨_, hbody cdv A outer s H E hr, ?_⟩
  obtain ⟨ds, S, F1, io, nw, r, rv, o⟩ := h
  unfold fnM at o
  split at o
  · rename_i e
    refine ⟨⟨io, nw, H, F1, nP⟩, _, S, F1, R.start r rv e, ?_⟩
    generalize body (ds.map .val ++ List.replicate (N.length - ps.length) .no) S = ob at o
    cases ob with
    | nx env' S' => exact fun σ F' H' r' _ => o .non F' H' r'.h rfl
    | bk _ _ => exact o.elim
    | ct _ _ => exact o.elim
    | ret rt S' => exact o
    | ex x env' S' => exact fun c dx σ F' H' r' _ q => o c dx F' H' r'.h q
    | no => exact o.elim
  · exact o.elim

/-! ### calls -/
/-- e is a call of the def at f; ma tells the parameters' values -/
def DC (X : Cx) (cv : Cv) (W : WX) (e : Expr) (f : Addr) (fd : FuncData) (ps : List Str) (ma : Ma) : Prop := ∀ (k : Nat) (sp : Sp) (E : L2.St → XK), FnOk X.prog X.w X.K X.mg X.base (L2.CX X.prog X.w) k f fd ps sp → Room k X.A →
  (∀ σ, PassesAt (L2.CX X.prog X.w) X σ (E σ)) → PE X e (fun σ H Q => tA ⟨X.K, cv⟩ W ma σ H fun vs H1 => sp vs H1 Q (E σ))
/-- the arguments, then the defaults -/
def aDef (ma : Ma) (dds : List D) : Ma := fun env S => (ma env S).bind fun ds S1 => .ok (ds ++ dds) S1
def sel {α : Type} (ix : List Nat) (l : List α) : List α := ix.filterMap fun i => l[i]?
/-- the positional ones, the keywords', put in the parameters' order -/
def aKw (n m : Nat) (ix : List Nat) (ma mk : Ma) : Ma := fun env S => (ma env S).bind fun ds S1 => (mk env S1).bind fun es S2 => if ds.length = n ∧ es.length = m then .ok (sel ix (ds ++ es)) S2 else .no
theorem Reps.sel {K : PySem.W.Frag} {F : Hp} {io : List Addr} {ds : List D} {vs : List V} (r : Reps K F io ds vs) : ∀ ix : List Nat, Reps K F io (TT.sel ix ds) (TT.sel ix vs)
  | [] => rfl
  | i :: ix => by
    unfold TT.sel
    rw [List.filterMap_cons, List.filterMap_cons]
    cases q : ds[i]? with
    | some d =>
      obtain ⟨v, hv, hr⟩ := r.get q
      rw [hv]
      exact ⟨v, _, rfl, hr, Reps.sel r ix⟩
    | none =>
      have : vs[i]? = none := by
        rw [List.getElem?_eq_none_iff] at q ⊢
        rw [r.len]
        exact q
      rw [this]
      exact Reps.sel r ix
theorem Vals.sel {xs : List V} {us : List Value} (r : Vals xs us) : ∀ ix : List Nat, Vals (TT.sel ix xs) (TT.sel ix us)
  | [] => .nil
  | i :: ix => by
    unfold TT.sel
    rw [List.filterMap_cons, List.filterMap_cons]
    cases q : xs[i]? with
    | some v =>
      obtain ⟨u, hu, hr⟩ := r.get q
      rw [hu]
      exact .cons hr (Vals.sel r ix)
    | none =>
      rw [Vals.none_of r q]
      exact Vals.sel r ix
def DK (X : Cx) (cv : Cv) (W : WX) (kws : List Keyword) (m : Ma) : Prop := PK X kws (tA ⟨X.K, cv⟩ W m)
theorem PK.weak {X : Cx} {e : List Keyword} {t t' : TA} (h : PK X e t) (w : ∀ σ H Q, t' σ H Q → t σ H Q) : PK X e t' := ⟨fun p pins s σ H Q I q => h.run p pins s σ H Q I (w σ H Q q)⟩
section
variable {X : Cx} {cv : Cv} {W : WX} {e e1 : Expr} {es : List Expr} {m : Me} {ma mk : Ma} {f : Addr} {fd : FuncData} {ps ks : List Str} {x : Str} {p pos kpos : Pos} {kws : List Keyword} {nm : Option Str} {dvs : List V} {us0 : List Value} {dds : List D}
theorem dk_nil : DK X cv W [] aNil := PK.weak pk_nil fun σ H Q ⟨s, env, S, F, r, o⟩ => o [] F H r (Same.refl F) rfl
theorem dk_cons (h : DE X cv W e m) (hr : DK X cv W kws mk) : DK X cv W (⟨nm, e, kpos⟩ :: kws) (aCons m mk) :=
  PK.weak (pk_cons h hr) fun σ H Q ⟨s, env, S, F, r, o⟩ => ⟨s, env, S, F, r, OutP.bind (rp := rpE _) o fun d S1 v F1 H1 r1 sm rv o1 => ⟨s, env, S1, F1, r1, OutP.bind (rp := rpA _) o1 fun ds S2 vs F2 H2 r2 sm2 rvs o2 =>
    o2 (v :: vs) F2 H2 r2 (Same.refl F2) ⟨v, vs, rfl, Rep.mono sm2 d v rv, rvs⟩⟩⟩
/-- f(e, ..) -/
theorem dc_pos (hg : Gl X x) (hm : X.mg x = some (.ref f)) (hk : PySem.W.keepIn X.K (.ref f) = true) (hb : Binds X.K fd ps us0) (hd : Vals dvs us0) (hdd : ∀ F io, Reps X.K F io dds dvs) (ha : DA X cv W (e :: es) ma) (hdb : (x == ("__debug__" : Str)) = false := by decide)
    (he : starEach (e :: es) X.env = (false, eval e X.env) :: starEach es X.env := by rfl) (hpl : (backTo pos (starEach es X.env)).any (·.1) = false := by rfl) : DC X cv W (.Call (.Name x p) (e :: es) [] pos) f fd ps (aDef ma dds) := fun k sp E F hr hx =>
  PE.weak (pe_callSD F hr hg hm hk hb hd hx ha hdb he hpl) fun σ H Q ⟨s, env, S, F, r, o⟩ => ⟨s, env, S, F, r, OutP.bind (rp := rpA _) o fun ds S1 vs F1 H1 r1 sm rv o1 => o1 _ F1 H1 r1 (Same.refl F1) (rv.append (hdd F1 s.io))⟩
theorem run_k {pins : List (Addr × Obj)} {σ : L2.St} {H : Hp} {s : Shared} {Q : VK} {k : Nat} {sp : Sp} {E : L2.St → XK} {us us' : List Value} {kw : List (Str × Value)} {vs : List V} (F : FnOk X.prog X.w X.K X.mg X.base (L2.CX X.prog X.w) k f fd ps sp) (hr : Room k X.A) (hx : PassesAt (L2.CX X.prog X.w) X σ (E σ))
    (I : Inv X pins σ H s) (hb : BindsTo s fd ⟨us, kw⟩ (ps.zip us')) (r : Vals vs us') (h : sp vs H Q (E σ)) : wpAny (model X.prog X.w) X.A (call (.ref f) us kw) (EP X pins σ Q) X.xe s := by
  refine wpAny_call (codeAny_mono (F.run X.A X.stack s H ⟨us, kw⟩ us' vs Q (E σ) hr I.env0 hb r h) fun r s' hq => ?_)
  cases r with
  | error e => exact hx pins H s e s' I hq
  | ok fl =>
    cases fl with
    | ret u => exact I.after hq
    | next => exact False.elim hq
    | brk => exact False.elim hq
    | cont => exact False.elim hq
/-- f() -/
theorem dc_no (hg : Gl X x) (hm : X.mg x = some (.ref f)) (hk : PySem.W.keepIn X.K (.ref f) = true) (hb : Binds X.K fd ps us0) (hd : Vals dvs us0) (hdd : ∀ F io, Reps X.K F io dds dvs) (hdb : (x == ("__debug__" : Str)) = false := by decide) :
    DC X cv W (.Call (.Name x p) [] [] pos) f fd ps (fun _ S => .ok dds S) := fun k sp E F hr hx => ⟨fun pins s σ H Q I h => by
  obtain ⟨sn, env, S, F1, r, o⟩ := h
  refine wpAny_Call_Name_kw (ld_glob I hg hm ?_ hdb)
  have h2 := o dvs F1 H r (Same.refl F1) (hdd F1 sn.io)
  have hl : ([] ++ us0).length = ps.length := by
    rw [List.nil_append, ← hd.length]
    exact F.len _ _ _ _ h2
  have hb' := hb s [] I.kIn hl
  rw [List.nil_append] at hb'
  exact PySem.W.callWith_K0 I.kIn hk (run_k F hr (hx σ) I hb' hd h2)⟩
/-- how keywords bind: the parameters by their places among the positional values and the keywords' -/
def KwB (K : PySem.W.Frag) (fd : FuncData) (ps : List Str) (n : Nat) (ks : List Str) (ix : List Nat) : Prop := ∀ (s : Shared) (us ws : List Value), K.In s.heap → us.length = n → ws.length = ks.length → BindsTo s fd ⟨us, ks.zip ws⟩ (ps.zip (sel ix (us ++ ws)))
/-- f(k = v, ..) -/
theorem dc_kw0 {ix : List Nat} (hg : Gl X x) (hm : X.mg x = some (.ref f)) (hk : PySem.W.keepIn X.K (.ref f) = true) (hb : KwB X.K fd ps 0 ks ix) (hkw : DK X cv W kws mk) (hall : (backToKw pos (keywordEach kws X.env)).all (·.1.isSome) = true := by rfl) (hks : (backToKw pos (keywordEach kws X.env)).filterMap (·.1) = ks := by rfl)
    (hdb : (x == ("__debug__" : Str)) = false := by decide) (hpl : ((backTo pos (starEach [] X.env)).any (·.1) || (backToKw pos (keywordEach kws X.env)).any (·.1.isNone)) = false := by rfl) :
    DC X cv W (.Call (.Name x p) [] kws pos) f fd ps (aKw 0 ks.length ix aNil mk) := fun k sp E F hr hx => ⟨fun pins s σ H Q I h => by
  obtain ⟨sn, env, S, F1, r, o⟩ := h
  refine wpAny_Call_Name_kw (ld_glob I hg hm ?_ hdb)
  refine PySem.W.callWith_KW0 (h₀ := X.base) I.ok.mod.kin hk hall ?_ hpl
  refine thn (hkw.run pos pins s σ H (fun ws H2 => ∃ es S2 F2, Reps X.K F2 sn.io es ws ∧ R ⟨X.K, cv⟩ sn env S2 F2 σ H2 ∧ OutP ⟨X.K, cv⟩ W (rpA _) sn env σ F2 (if ([] : List D).length = 0 ∧ es.length = ks.length then .ok (sel ix ([] ++ es)) S2 else .no) (fun vs H1 => sp vs H1 Q (E σ))) I ⟨sn, env, S, F1, r, OutP.bind (rp := rpA _) o fun es S2 ws F2 H2 r2 sm rv o2 => ⟨es, S2, F2, rv, r2, o2⟩⟩) fun us s2 h2 => ?_
  obtain ⟨ws, H2, I2, rz, es, S2, F2, rv, r2, o2⟩ := h2
  refine ⟨I2.kIn, ?_⟩
  rw [hks]
  split at o2
  · rename_i hl
    refine run_k F hr (hx σ) I2 (hb s2 [] us I2.kIn rfl (by rw [← rz.length, rv.len]; exact hl.2)) (Vals.sel (rz : Vals ([] ++ ws) ([] ++ us)) ix) ?_
    exact o2 _ F2 H2 r2 (Same.refl F2) (Reps.sel (rv : Reps X.K F2 sn.io ([] ++ es) ([] ++ ws)) ix)
  · exact o2.elim⟩
/-- f(e, .., k = v, ..) -/
theorem dc_kw {ix : List Nat} {n : Nat} (hg : Gl X x) (hm : X.mg x = some (.ref f)) (hk : PySem.W.keepIn X.K (.ref f) = true) (hb : KwB X.K fd ps n ks ix) (ha : DA X cv W (e :: es) ma) (hkw : DK X cv W kws mk) (hall : (backToKw pos (keywordEach kws X.env)).all (·.1.isSome) = true := by rfl)
    (hks : (backToKw pos (keywordEach kws X.env)).filterMap (·.1) = ks := by rfl) (hdb : (x == ("__debug__" : Str)) = false := by decide) (he : starEach (e :: es) X.env = (false, eval e X.env) :: starEach es X.env := by rfl)
    (hpl : ((backTo pos (starEach (e :: es) X.env)).any (·.1) || (backToKw pos (keywordEach kws X.env)).any (·.1.isNone)) = false := by rfl) :
    DC X cv W (.Call (.Name x p) (e :: es) kws pos) f fd ps (aKw n ks.length ix ma mk) := fun k sp E F hr hx => ⟨fun pins s σ H Q I h => by
  obtain ⟨sn, env, S, F1, r, o⟩ := h
  refine wpAny_Call_Name_kw (ld_glob I hg hm ?_ hdb)
  refine PySem.W.callWith_KW (h₀ := X.base) I.ok.mod.kin hk hall ?_ hpl he
  refine thn (ha.run pos pins s σ H _ I ⟨sn, env, S, F1, r, OutP.bind (rp := rpA _) o fun ds S1 vs F1 H1 r1 sm rv o1 => (⟨ds, S1, F1, rv, r1, o1⟩ : ∃ ds S1 F1, Reps X.K F1 sn.io ds vs ∧ R ⟨X.K, cv⟩ sn env S1 F1 σ H1 ∧
    OutP ⟨X.K, cv⟩ W (rpA _) sn env σ F1 ((mk env S1).bind fun es S2 => if ds.length = n ∧ es.length = ks.length then .ok (sel ix (ds ++ es)) S2 else .no) (fun vs H1 => sp vs H1 Q (E σ)))⟩) fun us s1 h1 => ?_
  obtain ⟨vs, H1, I1, rz1, ds, S1, F1, rv1, r1, o1⟩ := h1
  refine thn (hkw.run pos pins s1 σ H1 _ I1 ⟨sn, env, S1, F1, r1, OutP.bind (rp := rpA _) o1 fun es S2 ws F2 H2 r2 sm rv o2 => (⟨es, S2, F2, Reps.mono sm _ _ rv1, rv, r2, o2⟩ : ∃ es S2 F2, Reps X.K F2 sn.io ds vs ∧ Reps X.K F2 sn.io es ws ∧ R ⟨X.K, cv⟩ sn env S2 F2 σ H2 ∧
    OutP ⟨X.K, cv⟩ W (rpA _) sn env σ F2 (if ds.length = n ∧ es.length = ks.length then .ok (sel ix (ds ++ es)) S2 else .no) (fun vs H1 => sp vs H1 Q (E σ)))⟩) fun us2 s2 h2 => ?_
  obtain ⟨ws, H2, I2, rz, es, S2, F2, rv1', rv, r2, o2⟩ := h2
  refine ⟨I2.kIn, ?_⟩
  rw [hks]
  split at o2
  · rename_i hl
    refine run_k F hr (hx σ) I2 (hb s2 us us2 I2.kIn (by rw [← rz1.length, rv1.len]; exact hl.1) (by rw [← rz.length, rv.len]; exact hl.2)) (Vals.sel (rz1.append rz) ix) ?_
    exact o2 _ F2 H2 r2 (Same.refl F2) (Reps.sel (rv1'.append rv) ix)
  · exact o2.elim⟩

/-! ### what a call gives -/
/-- data -/
def dCall (mf : Mf) (ma : Ma) : Me := fun env S => (ma env S).bind fun ds S1 => (mf ds S1).bind fun r S2 => .ok r.fz S2
/-- a new list -/
def oCall (mf : Mf) (ma : Ma) : Ma := fun env S => (ma env S).bind fun ds S1 => (mf ds S1).bind fun r S2 => match r with
  | .own es => .ok es S2
  | _ => .no
/-- data, of a def that uses no given list -/
def dCallP (mf : Mf) (ma : Ma) : Me := fun env S => (ma env S).bind fun ds S1 => match mf ds [] with
  | .ok r _ => .ok r.fz S1
  | .ex x _ => .ex x S1
  | .no => .no
def oCallP (mf : Mf) (ma : Ma) : Ma := fun env S => (ma env S).bind fun ds S1 => match mf ds [] with
  | .ok (.own es) _ => .ok es S1
  | .ok _ _ => .no
  | .ex x _ => .ex x S1
  | .no => .no
theorem own_off {G : Gm} {s : Snap} {env : Ev} {S S' : Cells} {F F' H H' : Hp} {σ : L2.St} {a : Addr} {ds : List D} {nw : Nat} (r : R G s env S F σ H) (hni : a ∉ s.wr) (c : OwnAt G.K ⟨s.io, nw, H, F, nP⟩ F' H' a ds) : OwnAt G.K s F' H' a ds ∧ Off env σ a := by
  obtain ⟨h0, _, _⟩ := r.h.h0 c.h0
  refine ⟨⟨c.fr, h0, hni, r.h.pFree (show H a = none from c.h0), c.at_⟩, fun i es q hs => ?_⟩
  obtain ⟨b, g1, g2⟩ := r.own i es q
  rw [hs] at g1
  cases g1
  obtain ⟨xs, g3, _⟩ := g2.at_
  have z : H a = none := c.h0
  rw [z] at g3
  cases g3
theorem RelH.enterP {K : PySem.W.Frag} {s : Snap} {S : Cells} {F H : Hp} (r : RelH K s S F H) : RelH K ⟨s.io, 0, H, F, nP⟩ [] F H :=
  ⟨nP2, r.fh, Same.refl F, fun a e => .inl e, fun a o e _ => e, rfl, .nil, fun n a ds h => by cases h⟩
theorem R.afterP {G : Gm} {s : Snap} {env : Ev} {S S' : Cells} {F F' H H' : Hp} {σ : L2.St} (r : R G s env S F σ H) (c : RelH G.K ⟨s.io, 0, H, F, nP⟩ S' F' H') : R G s env S F' σ H' := by
  have fr : ∀ a o, H a = some o → H' a = some o := fun a o e => c.frame a o e (by simp [Snap.wr])
  have nf : ∀ a, F a = none → H a ≠ none → F' a = none := fun a h1 h2 => by
    cases q : F' a with
    | none => rfl
    | some u =>
      rcases c.new a (by rw [q]; exact fun z => nomatch z) with z | z
      · exact absurd h1 z
      · exact absurd z h2
  have q := r.h.aft (nw := 0) (fun a h => by simp at h) c
  refine ⟨⟨fun a e => (q a e).2, c.fh, r.h.f0.trans c.f0, fun a e => ?_, fun a o e hn => fr a o (r.h.frame a o e hn), r.h.len, r.h.nd, fun n a ds h1 h2 => ?_⟩, r.len, fun i d q => ?_, fun i ds q => ?_, r.dist, fun i x q => ?_, fun i d z => ?_⟩
  · rcases c.new a e with h | h
    · exact r.h.new a h
    · exact .inr (r.h.h0 h).1
  · obtain ⟨g1, xs, g2, g3⟩ := r.h.cell n a ds h1 h2
    exact ⟨nf a g1 (by rw [g2]; exact fun z => nomatch z), xs, fr a _ g2, Reps.mono c.f0 ds xs g3⟩
  · obtain ⟨v, h1, h2⟩ := r.val i d q
    exact ⟨v, h1, Rep.mono c.f0 d v h2⟩
  · obtain ⟨a, h1, h2, h3, h4, h5, xs, h6, h7⟩ := r.own i ds q
    exact ⟨a, h1, nf a h2 (by rw [h6]; exact fun z => nomatch z), h3, h4, h5, xs, fr a _ h6, Reps.mono c.f0 ds xs h7⟩
  · obtain ⟨a, d, h1, h2, h3⟩ := r.exn i x q
    exact ⟨a, d, h1, h2, h3.mono c.f0⟩
  · obtain ⟨v, Q, h1, h2, h3, h4⟩ := r.loo i d z
    obtain ⟨g1, g2, g3⟩ := loo_aft h2 h3 q c.f0
    exact ⟨v, Q, h1, g1, h3, RepN.mono g2 g3 d v h4⟩
theorem de_call {k : Nat} {mf : Mf} (tk : Takes X W) (F : FnOk X.prog X.w X.K X.mg X.base (L2.CX X.prog X.w) k f fd ps (spT ⟨X.K, cv⟩ mf)) (hr : Room k X.A) (h : DC X cv W e f fd ps ma) : DE X cv W e (dCall mf ma) :=
  PE.weak (h k _ _ F hr (fun σ => passAt tk σ)) fun σ H Q ⟨s, env, S, F, r, o⟩ => ⟨s, env, S, F, r, OutP.bind (rp := rpA _) o fun ds S1 vs F1 H1 r1 sm rv o1 => ⟨ds, S1, F1, s.io, s.nw, r1.h.enter, rv, by
    generalize mf ds S1 = om at o1
    cases om with
    | ok rt S2 =>
      cases rt with
      | val d => exact fun v F2 H2 c rv2 => o1 v F2 H2 (r1.after c) c.f0 rv2
      | new d => exact fun v F2 H2 c rv2 => o1 v F2 H2 (r1.after c) c.f0 (RepN.rep d v rv2)
      | own es =>
        intro a F2 H2 c w
        obtain ⟨w2, off⟩ := own_off (S' := S2) r1 w.ni w
        obtain ⟨F3, r3, sm3, rp3⟩ := (r1.after c).fz w2 off
        exact o1 _ F3 H2 r3 (c.f0.trans sm3) rp3
    | ex x S2 => exact fun c dx F2 H2 cr rx => o1 c dx F2 H2 (r1.after cr) cr.f0 rx
    | no => exact o1⟩⟩
theorem do_call {k : Nat} {mf : Mf} (tk : Takes X W) (F : FnOk X.prog X.w X.K X.mg X.base (L2.CX X.prog X.w) k f fd ps (spT ⟨X.K, cv⟩ mf)) (hr : Room k X.A) (h : DC X cv W e f fd ps ma) : DO X cv W e (oCall mf ma) :=
  PE.weak (h k _ _ F hr (fun σ => passAt tk σ)) fun σ H Q ⟨s, env, S, F, r, o⟩ => ⟨s, env, S, F, r, OutP.bind (rp := rpA _) o fun ds S1 vs F1 H1 r1 sm rv o1 => ⟨ds, S1, F1, s.io, s.nw, r1.h.enter, rv, by
    generalize mf ds S1 = om at o1
    cases om with
    | ok rt S2 =>
      cases rt with
      | val d => exact False.elim o1
      | new d => exact False.elim o1
      | own es =>
        intro a F2 H2 c w
        obtain ⟨w2, off⟩ := own_off (S' := S2) r1 w.ni w
        exact o1 _ F2 H2 (r1.after c) c.f0 ⟨a, rfl, w2, off⟩
    | ex x S2 => exact fun c dx F2 H2 cr rx => o1 c dx F2 H2 (r1.after cr) cr.f0 rx
    | no => exact o1⟩⟩
theorem wr0 {G : Gm} {s : Snap} {env : Ev} {S S' : Cells} {F F' H H' : Hp} {σ : L2.St} {a : Addr} {ds : List D} (r : R G s env S F σ H) (c : OwnAt G.K ⟨s.io, 0, H, F, nP⟩ F' H' a ds) : a ∉ s.wr := (r.h.h0 c.h0).2.1
theorem de_callP {k : Nat} {mf : Mf} (tk : Takes X W) (F : FnOk X.prog X.w X.K X.mg X.base (L2.CX X.prog X.w) k f fd ps (spT ⟨X.K, cv⟩ mf)) (hr : Room k X.A) (h : DC X cv W e f fd ps ma) : DE X cv W e (dCallP mf ma) :=
  PE.weak (h k _ _ F hr (fun σ => passAt tk σ)) fun σ H Q ⟨s, env, S, F, r, o⟩ => ⟨s, env, S, F, r, OutP.bind (rp := rpA _) o fun ds S1 vs F1 H1 r1 sm rv o1 => ⟨ds, [], F1, s.io, 0, r1.h.enterP, rv, by
    generalize mf ds [] = om at o1
    cases om with
    | ok rt S2 =>
      cases rt with
      | val d => exact fun v F2 H2 c rv2 => o1 v F2 H2 (r1.afterP c) c.f0 rv2
      | new d => exact fun v F2 H2 c rv2 => o1 v F2 H2 (r1.afterP c) c.f0 (RepN.rep d v rv2)
      | own es =>
        intro a F2 H2 c w
        obtain ⟨w2, off⟩ := own_off (S' := S2) r1 (wr0 (S' := S2) r1 w) w
        obtain ⟨F3, r3, sm3, rp3⟩ := (r1.afterP c).fz w2 off
        exact o1 _ F3 H2 r3 (c.f0.trans sm3) rp3
    | ex x S2 => exact fun c dx F2 H2 cr rx => o1 c dx F2 H2 (r1.afterP cr) cr.f0 rx
    | no => exact o1⟩⟩
theorem do_callP {k : Nat} {mf : Mf} (tk : Takes X W) (F : FnOk X.prog X.w X.K X.mg X.base (L2.CX X.prog X.w) k f fd ps (spT ⟨X.K, cv⟩ mf)) (hr : Room k X.A) (h : DC X cv W e f fd ps ma) : DO X cv W e (oCallP mf ma) :=
  PE.weak (h k _ _ F hr (fun σ => passAt tk σ)) fun σ H Q ⟨s, env, S, F, r, o⟩ => ⟨s, env, S, F, r, OutP.bind (rp := rpA _) o fun ds S1 vs F1 H1 r1 sm rv o1 => ⟨ds, [], F1, s.io, 0, r1.h.enterP, rv, by
    generalize mf ds [] = om at o1
    cases om with
    | ok rt S2 =>
      cases rt with
      | val d => exact False.elim o1
      | new d => exact False.elim o1
      | own es =>
        intro a F2 H2 c w
        obtain ⟨w2, off⟩ := own_off (S' := S2) r1 (wr0 (S' := S2) r1 w) w
        exact o1 _ F2 H2 (r1.afterP c) c.f0 ⟨a, rfl, w2, off⟩
    | ex x S2 => exact fun c dx F2 H2 cr rx => o1 c dx F2 H2 (r1.afterP cr) cr.f0 rx
    | no => exact o1⟩⟩
end
end TT
namespace TT
open PySem PySem.Spec PyProof.Rows L2

/-! ### what is walked -/
/-- the item d is x: as it stands, or a new object -/
def Yd (K : PySem.W.Frag) (io : List Addr) (F : Hp) (d : D) (H : Hp) (x : V) (H' : Hp) : Prop :=
  (H' = H ∧ Rep K F io d x) ∨ ∃ T o, H T = none ∧ H' = upd H T o ∧ ∀ F2, Same F F2 → F2 T = none → Rep K (upd F2 T o) io d x
def WalkD (K : PySem.W.Frag) (io : List Addr) (F : Hp) (J : It) (ds : List D) : Prop :=
  L2.Walk J ds.length (fun H => Same F H) fun i H x H' => ∃ d, ds[i]? = some d ∧ Yd K io F d H x H'
abbrev rpI (G : Gm) : Rp (List D) It := fun s _ F _ _ ds J => WalkD G.K s.io F J ds
def DI (X : Cx) (cv : Cv) (W : WX) (tg iter : Expr) (mi : Ma) : Prop := PI X tg iter (tG ⟨X.K, cv⟩ W (rpI ⟨X.K, cv⟩) mi)
theorem Reps.getV {K : PySem.W.Frag} {F : Hp} {io : List Addr} : ∀ {ds : List D} {xs : List V} {i : Nat} {v : V}, Reps K F io ds xs → xs[i]? = some v → ∃ d, ds[i]? = some d ∧ Rep K F io d v
  | [], _, _, _, h, e => by cases h; simp at e
  | d :: ds, _, 0, _, ⟨x, r, h1, h2, _⟩, e => by
    subst h1
    simp at e
    subst e
    exact ⟨d, rfl, h2⟩
  | d :: ds, _, i + 1, _, ⟨x, r, h1, _, h3⟩, e => by
    subst h1
    simpa using Reps.getV h3 (by simpa using e)
theorem PI.weak {X : Cx} {tg e : Expr} {t t' : TI} (h : PI X tg e t) (w : ∀ σ H Q, t' σ H Q → t σ H Q) : PI X tg e t' := ⟨fun pins s σ H Q I q => h.run pins s σ H Q I (w σ H Q q)⟩
theorem PI.or {X : Cx} {tg e : Expr} {t t' : TI} (h : PI X tg e t) (h' : PI X tg e t') : PI X tg e (fun σ H R => t σ H R ∨ t' σ H R) := ⟨fun pins s σ H Q I q => by
  rcases q with q | q
  · exact h.run pins s σ H Q I q
  · exact h'.run pins s σ H Q I q⟩
section
variable {K : PySem.W.Frag} {io : List Addr} {F : Hp} {ds : List D} {xs : List V} {a : Addr}
theorem walk_l (h : SqL K F a xs) (r : Reps K F io ds xs) : WalkD K io F (Itl K a) ds := by
  unfold WalkD
  rw [← r.len]
  exact walk_list.mono (fun H e => e.seq h) fun i H x H' _ _ y => by
    obtain ⟨d, h1, h2⟩ := r.getV y.2
    exact ⟨d, h1, .inl ⟨y.1, h2⟩⟩
theorem walk_t (h : SqT K F a xs) (r : Reps K F io ds xs) : WalkD K io F (Itt K a) ds := by
  unfold WalkD
  rw [← r.len]
  exact walk_tup.mono (fun H e => seqT e h) fun i H x H' _ _ y => by
    obtain ⟨d, h1, h2⟩ := r.getV y.2
    exact ⟨d, h1, .inl ⟨y.1, h2⟩⟩
theorem walk_s (x : List Char) : WalkD K io F (Its (cps x)) (x.map fun c => .str [c]) := by
  unfold WalkD
  have e : (x.map fun c => D.str [c]).length = (cps x).cps.size := by simp [cps]
  rw [e]
  exact walk_str.mono (fun _ _ => trivial) fun i H v H' hi _ y => by
    obtain ⟨y1, c, y2, y3⟩ := y
    have hx : i < x.length := by simpa [cps] using hi
    refine ⟨.str [x[i]], by simp [hx], .inl ⟨y1, ?_⟩⟩
    have : c = x[i].toNat := by
      have z : (cps x).cps[i]? = some x[i].toNat := by simp [cps, hx]
      rw [z] at y2
      exact (Option.some.inj y2).symm
    rw [y3, this]
    rfl
def rgD (lo : Int) (n : Nat) : List D := (List.range n).map fun (i : Nat) => .int (lo + (i : Int))
theorem walk_r (lo : Int) (n : Nat) : WalkD K io F (Itr lo n) (rgD lo n) := by
  unfold WalkD
  have e : (rgD lo n).length = n := by simp [rgD]
  rw [e]
  exact walk_range.mono (fun _ _ => trivial) fun i H v H' hi _ y => by
    refine ⟨.int (lo + i), by simp [rgD, hi], .inl ⟨y.1, ?_⟩⟩
    exact y.2
def enumD (ds : List D) : List D := (List.range ds.length).zipWith (fun (i : Nat) d => .tup [.int (i : Int), d]) ds
theorem walk_en (h : SqL K F a xs) (r : Reps K F io ds xs) : WalkD K io F (Ite K a) (enumD ds) := by
  unfold WalkD
  have e : (enumD ds).length = xs.length := by simp [enumD, r.len]
  rw [e]
  exact walk_enum.mono (fun H e => e.seq h) fun i H v H' hi _ y => by
    obtain ⟨T, x, z, e1, e2, e3, e4, e5⟩ := y
    obtain ⟨d, h1, h2⟩ := r.getV e5
    have hi' : i < ds.length := by rw [← r.len]; exact hi
    refine ⟨.tup [.int (i : Int), d], ?_, .inr ⟨T, .tup [x, z], e2, e3, fun F2 sm hT => ⟨T, [x, z], e1, .inl (.inl upd_same), ?_⟩⟩⟩
    · simp [enumD, List.getElem?_zipWith, hi', h1]
      exact Option.some.inj ((List.getElem?_eq_getElem hi').symm.trans h1)
    · cases e4
      exact ⟨_, _, rfl, rfl, _, _, rfl, Rep.mono (sm.trans (same_upd hT)) d z h2, rfl⟩
def zipD (ds es : List D) : List D := ds.zipWith (fun d e => .tup [d, e]) es
theorem walk_z {es : List D} {ys : List V} {b : Addr} (h : SqL K F a xs) (r : Reps K F io ds xs) (h' : SqL K F b ys) (r' : Reps K F io es ys) : WalkD K io F (Itz K a b) (zipD ds es) := by
  unfold WalkD
  have e : (zipD ds es).length = min xs.length ys.length := by simp [zipD, r.len, r'.len]
  refine Walk.mono (walk_zip (xs := xs) (ys := ys) e) (fun H e => ⟨e.seq h, e.seq h'⟩) fun i H v H' hi _ y => ?_
  obtain ⟨T, x, z, e1, e2, e3, e4, e5⟩ := y
  obtain ⟨d, h1, h2⟩ := r.getV e4
  obtain ⟨d', h3, h4⟩ := r'.getV e5
  refine ⟨.tup [d, d'], by simp [zipD, List.getElem?_zipWith, h1, h3], .inr ⟨T, .tup [x, z], e2, e3, fun F2 sm hT => ⟨T, [x, z], e1, .inl (.inl upd_same), ?_⟩⟩⟩
  exact ⟨_, _, rfl, Rep.mono (sm.trans (same_upd hT)) d x h2, _, _, rfl, Rep.mono (sm.trans (same_upd hT)) d' z h4, rfl⟩
end
def itemsOf (d : D) (S : Cells) : Out (List D) := match d with
  | .lst ds => .ok ds S
  | .frl ds => .ok ds S
  | .tup ds => .ok ds S
  | .str x => .ok (x.map fun c => .str [c]) S
  | _ => .no
/-- range(a) -/
def iRange1 (ds : List D) (S : Cells) : Out (List D) := match ds with
  | [.int j] => if -4611686018427387904 ≤ j ∧ j < 4611686018427387904 then .ok (rgD 0 j.toNat) S else .no
  | _ => .no
def iRange2 (ds : List D) (S : Cells) : Out (List D) := match ds with
  | [.int i, .int j] => if -4611686018427387904 ≤ i ∧ i < 4611686018427387904 ∧ -4611686018427387904 ≤ j ∧ j < 4611686018427387904 then .ok (rgD i (j - i).toNat) S else .no
  | _ => .no
def iEnumD (ds : List D) (S : Cells) : Out (List D) := match ds with
  | [.lst ds] => .ok (enumD ds) S
  | [.frl ds] => .ok (enumD ds) S
  | _ => .no
def iZipD (ds : List D) (S : Cells) : Out (List D) := match ds with
  | [.lst ds, .lst es] => .ok (zipD ds es) S
  | _ => .no
section
variable {X : Cx} {cv : Cv} {W : WX} {e e1 e2 tg : Expr} {m : Me} {ma : Ma} {p pos tpos : Pos} {elts : List Expr} {kk : Nat}
theorem di_any (h : DE X cv W e m) : DI X cv W tg e (dUn itemsOf m) :=
  PI.weak (PI.or (pi_list h) (PI.or (pi_tup h) (pi_str h))) fun σ H Q ⟨s, env, S, F, r, o⟩ => by
    have o' : OutP ⟨X.K, cv⟩ W (rpI _) s env σ F ((m env S).bind itemsOf) Q := o
    cases q : m env S with
    | ok d S1 =>
      cases d with
      | lst ds =>
        refine .inl ⟨s, env, S, F, r, ?_⟩
        rw [q] at o' ⊢
        intro v F1 H1 r1 sm rv
        obtain ⟨a, xs, rfl, h1, h2⟩ := rv
        exact ⟨a, rfl, ⟨xs, .inl (.inl (r1.h.fh _ _ h1))⟩, o' _ F1 H1 r1 sm (walk_l (.inl (.inl h1)) h2)⟩
      | frl ds =>
        refine .inl ⟨s, env, S, F, r, ?_⟩
        rw [q] at o' ⊢
        intro v F1 H1 r1 sm rv
        obtain ⟨a, xs, rfl, h1, h2⟩ := rv
        exact ⟨a, rfl, ⟨xs, r1.h.fh.seq h1⟩, o' _ F1 H1 r1 sm (walk_l h1 h2)⟩
      | tup ds =>
        refine .inr (.inl ⟨s, env, S, F, r, ?_⟩)
        rw [q] at o' ⊢
        intro v F1 H1 r1 sm rv
        obtain ⟨a, xs, rfl, h1, h2⟩ := rv
        exact ⟨a, rfl, ⟨xs, seqT r1.h.fh h1⟩, o' _ F1 H1 r1 sm (walk_t h1 h2)⟩
      | str x =>
        refine .inr (.inr ⟨s, env, S, F, r, ?_⟩)
        rw [q] at o' ⊢
        intro v F1 H1 r1 sm rv
        cases rv
        exact ⟨_, rfl, o' _ F1 H1 r1 sm (walk_s x)⟩
      | _ =>
        rw [q] at o'
        exact False.elim o'
    | ex x S1 =>
      refine .inl ⟨s, env, S, F, r, ?_⟩
      rw [q] at o' ⊢
      exact o'
    | no =>
      rw [q] at o'
      exact False.elim o'
theorem di_range1 (hg : Gl X "range") (hm : X.mg "range" = none) (ha : DA X cv W [e] ma) (hs : starEach [e] X.env = [(false, eval e X.env)] := by rfl) : DI X cv W tg (.Call (.Name "range" p) [e] [] pos) (dArgs iRange1 ma) :=
  PI.weak (pi_range1 hg hm ha hs) fun σ H Q ⟨s, env, S, F, r, o⟩ => ⟨s, env, S, F, r, OutP.bind (rp := rpA _) o fun ds S1 vs F1 H1 r1 sm rv o1 => by
    unfold iRange1 at o1
    split at o1
    · split at o1
      · rename_i j h
        obtain ⟨x, r', rfl, h1, h2⟩ := rv
        cases h1
        cases h2
        exact ⟨j, rfl, by omega, by omega, o1 _ F1 H1 r1 (Same.refl F1) (walk_r 0 _)⟩
      · exact o1.elim
    · exact o1.elim⟩
theorem di_range2 (hg : Gl X "range") (hm : X.mg "range" = none) (ha : DA X cv W [e1, e2] ma) (hs : starEach [e1, e2] X.env = [(false, eval e1 X.env), (false, eval e2 X.env)] := by rfl) (hs2 : starEach [e2] X.env = [(false, eval e2 X.env)] := by rfl) :
    DI X cv W tg (.Call (.Name "range" p) [e1, e2] [] pos) (dArgs iRange2 ma) :=
  PI.weak (pi_range2 hg hm ha hs hs2) fun σ H Q ⟨s, env, S, F, r, o⟩ => ⟨s, env, S, F, r, OutP.bind (rp := rpA _) o fun ds S1 vs F1 H1 r1 sm rv o1 => by
    unfold iRange2 at o1
    split at o1
    · split at o1
      · rename_i i j h
        obtain ⟨x, r', rfl, h1, x2, r2, rfl, h2, h3⟩ := rv
        cases h1
        cases h2
        cases h3
        exact ⟨i, j, rfl, ⟨by omega, by omega, by omega, by omega⟩, o1 _ F1 H1 r1 (Same.refl F1) (walk_r i _)⟩
      · exact o1.elim
    · exact o1.elim⟩
theorem di_enum (hg : Gl X "enumerate") (hm : X.mg "enumerate" = none) (ha : DA X cv W [e] ma) (hs : starEach [e] X.env = [(false, eval e X.env)] := by rfl) : DI X cv W (.Tuple elts kk tpos) (.Call (.Name "enumerate" p) [e] [] pos) (dArgs iEnumD ma) :=
  PI.weak (pi_enum hg hm ha hs) fun σ H Q ⟨s, env, S, F, r, o⟩ => ⟨s, env, S, F, r, OutP.bind (rp := rpA _) o fun ds S1 vs F1 H1 r1 sm rv o1 => by
    unfold iEnumD at o1
    split at o1
    · obtain ⟨x, r', rfl, h1, h2⟩ := rv
      cases h2
      obtain ⟨a, xs, rfl, h3, h4⟩ := h1
      exact ⟨a, xs, rfl, .inl (.inl (r1.h.fh _ _ h3)), o1 _ F1 H1 r1 (Same.refl F1) (walk_en (.inl (.inl h3)) h4)⟩
    · obtain ⟨x, r', rfl, h1, h2⟩ := rv
      cases h2
      obtain ⟨a, xs, rfl, h3, h4⟩ := h1
      exact ⟨a, xs, rfl, r1.h.fh.seq h3, o1 _ F1 H1 r1 (Same.refl F1) (walk_en h3 h4)⟩
    · exact o1.elim⟩
theorem di_zip (hg : Gl X "zip") (hm : X.mg "zip" = none) (ha : DA X cv W [e1, e2] ma) (hs : starEach [e1, e2] X.env = (false, eval e1 X.env) :: starEach [e2] X.env := by rfl) (hpl : (backTo pos (starEach [e2] X.env)).any (·.1) = false := by rfl) :
    DI X cv W (.Tuple elts kk tpos) (.Call (.Name "zip" p) [e1, e2] [] pos) (dArgs iZipD ma) :=
  PI.weak (pi_zip hg hm ha hs hpl) fun σ H Q ⟨s, env, S, F, r, o⟩ => ⟨s, env, S, F, r, OutP.bind (rp := rpA _) o fun ds S1 vs F1 H1 r1 sm rv o1 => by
    unfold iZipD at o1
    split at o1
    · obtain ⟨x, r', rfl, h1, x2, r2, rfl, h5, h6⟩ := rv
      cases h6
      obtain ⟨a, xs, rfl, h3, h4⟩ := h1
      obtain ⟨b, ys, rfl, h7, h8⟩ := h5
      exact ⟨a, b, xs, ys, rfl, .inl (.inl (r1.h.fh _ _ h3)), .inl (.inl (r1.h.fh _ _ h7)), o1 _ F1 H1 r1 (Same.refl F1) (walk_z (.inl (.inl h3)) h4 (.inl (.inl h7)) h8)⟩
    · exact o1.elim⟩

/-! ### targets -/
abbrev Mg := D → Ev → Option Ev
abbrev Mgs := List D → Ev → Option Ev
def tGt (K : PySem.W.Frag) (ts : List Nat) (mg : Mg) : TG := fun v σ H Q => ∃ cv s env S F d env', R ⟨K, cv⟩ s env S F σ H ∧ Rep K F s.io d v ∧ mg d env = some env' ∧ ∀ σ', R ⟨K, cv⟩ s env' S F σ' H → σ'.length = σ.length → (∀ j, j ∉ ts → σ'[j]? = σ[j]?) → Q σ' H
def tGs (K : PySem.W.Frag) (ts : List Nat) (mg : Mgs) : TGs := fun vs σ H Q => ∃ cv s env S F ds env', R ⟨K, cv⟩ s env S F σ H ∧ Reps K F s.io ds vs ∧ mg ds env = some env' ∧ ∀ σ', R ⟨K, cv⟩ s env' S F σ' H → σ'.length = σ.length → (∀ j, j ∉ ts → σ'[j]? = σ[j]?) → Q σ' H
def DG (X : Cx) (e : Expr) (ts : List Nat) (mg : Mg) : Prop := PG X e (tGt X.K ts mg)
def DGs (X : Cx) (es : List Expr) (ts : List Nat) (mg : Mgs) : Prop := PGs X es (tGs X.K ts mg)
def gtN (i : Nat) : Mg := fun d env => some (env.set i (.val d))
def gtNil : Mgs := fun ds env => match ds with
  | [] => some env
  | _ => none
def gtCons (g : Mg) (gs : Mgs) : Mgs := fun ds env => match ds with
  | d :: r => (g d env).bind fun env1 => gs r env1
  | [] => none
def gtT (n : Nat) (gs : Mgs) : Mg := fun d env => match d with
  | .tup ds => if ds.length = n then gs ds env else none
  | _ => none
theorem PG.weak {t t' : TG} (h : PG X e t) (w : ∀ v σ H Q, t' v σ H Q → t v σ H Q) : PG X e t' := ⟨fun pins s σ H v u Q I r q => h.run pins s σ H v u Q I r (w v σ H Q q)⟩
theorem PGs.weak {es : List Expr} {t t' : TGs} (h : PGs X es t) (w : ∀ v σ H Q, t' v σ H Q → t v σ H Q) : PGs X es t' := ⟨fun pins s σ H v u Q I r q => h.run pins s σ H v u Q I r (w v σ H Q q)⟩
theorem dg_name (i : Nat) {x : Str} (hN : X.N.Nodup) (hi : X.N[i]? = some x := by rfl) (hx : Loc X.env.scope x := by first | exact Or.inl rfl | exact Or.inr rfl) (hf : X.fn x = true ∨ X.env.scope.names.lookup x = some .local := by first | exact .inl rfl | exact .inr rfl | assumption) : DG X (.Name x pos) [i] (gtN i) :=
  PG.weak (pg_name hN hi hx hf) fun v σ H Q ⟨cv, s, env, S, F, d, env', r, rv, h1, h2⟩ => by
    cases h1
    exact h2 _ (r.setVal rv) (by simp) fun j hj => List.getElem?_set_ne fun z => hj (by simp [z])
theorem dgs_nil : DGs X [] [] gtNil := PGs.weak pgs_nil fun v σ H Q ⟨cv, s, env, S, F, d, env', r, rv, h1, h2⟩ => by
  unfold gtNil at h1
  split at h1
  · cases h1
    cases rv
    exact ⟨rfl, h2 σ r rfl fun _ _ => rfl⟩
  · cases h1
theorem dgs_cons {es : List Expr} {ts ts' : List Nat} {g : Mg} {gs : Mgs} (h1 : DG X e ts g) (h2 : DGs X es ts' gs) (hs : (assignEach (e :: es) X.env).map (·.2) = assign e X.env :: (assignEach es X.env).map (·.2) := by rfl) : DGs X (e :: es) (ts ++ ts') (gtCons g gs) :=
  PGs.weak (pgs_cons h1 h2 hs) fun v σ H Q ⟨cv, s, env, S, F, ds, env', r, rv, e1, q⟩ => by
    unfold gtCons at e1
    split at e1
    · rename_i d rest
      obtain ⟨x, r', rfl, h3, h4⟩ := rv
      cases e2 : g d env with
      | none =>
        rw [e2] at e1
        cases e1
      | some env1 =>
        rw [e2] at e1
        exact ⟨x, r', rfl, cv, s, env, S, F, d, env1, r, h3, e2, fun σ1 r1 l1 k1 => ⟨cv, s, env1, S, F, rest, env', r1, h4, e1, fun σ2 r2 l2 k2 => q σ2 r2 (l2.trans l1) fun j hj => (k2 j fun z => hj (List.mem_append_right _ z)).trans (k1 j fun z => hj (List.mem_append_left _ z))⟩⟩
    · cases e1
theorem dg_tup {es : List Expr} {k n : Nat} {ts : List Nat} {gs : Mgs} (hc : X.calm = true) (h : DGs X es ts gs) (hn : (assignEach es X.env).length = n := by rfl) (hst : (assignEach es X.env).findIdx? (·.1) = none := by rfl) : DG X (.Tuple es k pos) ts (gtT n gs) :=
  PG.weak (pg_tup hc h hn hst) fun v σ H Q ⟨cv, s, env, S, F, d, env', r, rv, e1, q⟩ => by
    unfold gtT at e1
    split at e1
    · rename_i ds
      split at e1
      · rename_i hl
        obtain ⟨a, xs, rfl, h2, h3⟩ := rv
        exact ⟨a, xs, rfl, seqT r.h.fh h2, by rw [h3.len, hl], cv, s, env, S, F, ds, env', r, h3, e1, q⟩
      · cases e1
    · cases e1

/-! ### for -/
def forL (mg : Mg) (mb : Ms) : List D → Ms
  | [], env, S => .nx env S
  | d :: ds, env, S => match mg d env with
    | none => .no
    | some env1 => match mb env1 S with
      | .nx e S' => forL mg mb ds e S'
      | .ct e S' => forL mg mb ds e S'
      | .bk e S' => .nx e S'
      | .ret r S' => .ret r S'
      | .ex x e S' => .ex x e S'
      | .no => .no
def sFor (mi : Ma) (mg : Mg) (mb : Ms) : Ms := fun env S => (mi env S).go env fun ds S1 => forL mg mb ds env S1
theorem R.yd {G : Gm} {s : Snap} {env : Ev} {S : Cells} {F0 F H H' : Hp} {σ : L2.St} {d : D} {x : V} (r : R G s env S F σ H) (sm : Same F0 F) (y : Yd G.K s.io F0 d H x H') : ∃ F', R G s env S F' σ H' ∧ Same F F' ∧ Rep G.K F' s.io d x := by
  rcases y with ⟨rfl, h⟩ | ⟨T, o, h1, h2, h3⟩
  · exact ⟨F, r, Same.refl F, Rep.mono sm d x h⟩
  · subst h2
    obtain ⟨r2, sm2⟩ := r.new (o := o) h1
    exact ⟨_, r2, sm2, h3 F sm (r.h.h0 h1).2.2⟩
theorem ds_for {body : List Stmt} {iter : Expr} {mi : Ma} {mg : Mg} {mb : Ms} {ts : List Nat} (hp : PassesOwn (model X.prog X.w) X.A X.env X.xe) (hc : X.calm = true) (hi : DI X cv W tg iter mi) (hg : DG X tg ts mg) (hb : DB X cv W body mb)
    (hs : ∀ x, foldedSetIterable iter X.env x = pure x := by intro _; rfl) : DS X cv W (.For tg iter body [] pos) (sFor mi mg mb) :=
  PS.weak (ps_for hp hc hi hg hb hs) fun E σ H ⟨s, env, S, F, r, o⟩ => ⟨s, env, S, F, r, OutS.go (rp := rpI _) o fun ds S1 J F1 H1 r1 sm w o1 => by
    refine for_it w (fun i σ' H' => ∃ env' S' F', Same F1 F' ∧ R ⟨X.K, cv⟩ s env' S' F' σ' H' ∧ OutS ⟨X.K, cv⟩ W s F' (forL mg mb (ds.drop i) env' S') E) ⟨env, S1, F1, Same.refl F1, r1, o1⟩ (fun i σ' H' _ ⟨_, _, F', sm', r', _⟩ => sm'.trans r'.h.fh) ?_ ?_
    · rintro i x σ' H' H'' hi ⟨env', S', F', sm', r', o'⟩ ⟨d, hd, y⟩
      obtain ⟨F2, r2, sm2, rd⟩ := r'.yd sm' y
      have ed : ds.drop i = d :: ds.drop (i + 1) := by
        rw [List.drop_eq_getElem_cons hi]
        congr 1
        exact Option.some.inj ((List.getElem?_eq_getElem hi).symm.trans hd)
      rw [ed] at o'
      unfold forL at o'
      cases e1 : mg d env' with
      | none =>
        rw [e1] at o'
        exact o'.elim
      | some env1 =>
        rw [e1] at o'
        simp only at o'
        refine ⟨cv, s, env', S', F2, d, env1, r2, rd, e1, fun σ2 r3 _ _ => ⟨s, env1, S', F2, r3, ?_⟩⟩
        have o2 := OutS.weak o' sm2
        generalize mb env1 S' = ob at o2
        have smF : Same F1 F2 := sm'.trans sm2
        cases ob with
        | nx e3 S3 => exact fun σ4 F4 H4 r4 sm4 => ⟨e3, S3, F4, smF.trans sm4, r4, OutS.weak o2 sm4⟩
        | ct e3 S3 => exact fun σ4 F4 H4 r4 sm4 => ⟨e3, S3, F4, smF.trans sm4, r4, OutS.weak o2 sm4⟩
        | bk e3 S3 => exact o2
        | ret rt S3 => exact o2
        | ex x e3 S3 => exact o2
        | no => exact o2
    · rintro σ' H' ⟨env', S', F', sm', r', o'⟩
      rw [List.drop_length] at o'
      exact o' σ' F' H' r' (Same.refl F')⟩

/-! ### while -/
def whileF (c : Mt) (mb : Ms) : Nat → Ms
  | 0, _, _ => .no
  | n + 1, env, S => (c env S).go env fun k S1 => if k = true then (match mb env S1 with
      | .nx e S' => whileF c mb n e S'
      | .ct e S' => whileF c mb n e S'
      | .bk e S' => .nx e S'
      | .ret r S' => .ret r S'
      | .ex x e S' => .ex x e S'
      | .no => .no) else .nx env S1
def sWhile (fuel : Ev → Cells → Nat) (c : Mt) (mb : Ms) : Ms := fun env S => whileF c mb (fuel env S) env S
theorem ds_while {body : List Stmt} {c : Expr} {mt : Mt} {mb : Ms} (fuel : Ev → Cells → Nat) (hp : PassesOwn (model X.prog X.w) X.A X.env X.xe) (hc : DT X cv W c mt) (hb : DB X cv W body mb) : DS X cv W (.While c body [] pos) (sWhile fuel mt mb) :=
  PS.weak (ps_while hp hc hb) fun E σ H ⟨s, env, S, F, r, o⟩ => by
    refine ⟨fun n σ' H' => ∃ env' S' F', Same F F' ∧ R ⟨X.K, cv⟩ s env' S' F' σ' H' ∧ OutS ⟨X.K, cv⟩ W s F' (whileF mt mb n env' S') E, ⟨fuel env S, env, S, F, Same.refl F, r, o⟩, ?_⟩
    rintro n σ' H' ⟨env', S', F', sm', r', o'⟩
    cases n with
    | zero => exact o'.elim
    | succ n =>
      refine ⟨s, env', S', F', r', OutS.go (rp := rpT) o' fun k S1 b F1 H1 r1 sm1 rv o1 => ?_⟩
      cases rv
      cases k with
      | true =>
        rw [if_pos rfl] at o1 ⊢
        refine ⟨fun σ2 H2 => ∃ env2 S2 F2, Same F F2 ∧ R ⟨X.K, cv⟩ s env2 S2 F2 σ2 H2 ∧ OutS ⟨X.K, cv⟩ W s F2 (whileF mt mb n env2 S2) E, fun σ2 H2 h => ⟨n, Nat.lt_succ_self n, h⟩, s, env', S1, F1, r1, ?_⟩
        generalize mb env' S1 = ob at o1
        have smF : Same F F1 := sm'.trans sm1
        cases ob with
        | nx e3 S3 => exact fun σ4 F4 H4 r4 sm4 => ⟨e3, S3, F4, smF.trans sm4, r4, OutS.weak o1 sm4⟩
        | ct e3 S3 => exact fun σ4 F4 H4 r4 sm4 => ⟨e3, S3, F4, smF.trans sm4, r4, OutS.weak o1 sm4⟩
        | bk e3 S3 => exact o1
        | ret rt S3 => exact o1
        | ex x e3 S3 => exact o1
        | no => exact o1
      | false =>
        rw [if_neg Bool.false_ne_true] at o1 ⊢
        exact o1 σ' F1 H1 r1 (Same.refl F1)
end
end TT
namespace TT
open PySem PySem.Spec PyProof.Rows L2

/-! ### list comprehensions -/
abbrev wF : WX := fun _ _ _ _ => False
theorem takesF {X : Cx} {s : Shared} {H : Hp} {scope : Scope} {ce : Env} {fp : List Addr} : Takes (X.blk s H scope ce fp) wF := fun u s' ⟨_, _, _, _, _, _, _, _, _, _, _, _, _, _, _, _, h⟩ => h
def DTs (X : Cx) (cv : Cv) (W : WX) (ifs : List Expr) (m : Mt) : Prop := PTs X ifs (tT ⟨X.K, cv⟩ W m)
def mYes : Mt := fun _ S => .ok true S
theorem PTs.weak {X : Cx} {e : List Expr} {t t' : TT} (h : PTs X e t) (w : ∀ σ H Q, t' σ H Q → t σ H Q) : PTs X e t' := ⟨fun pins s σ H Q I q => h.run pins s σ H Q I (w σ H Q q)⟩
theorem dts_nil {X : Cx} {cv : Cv} {W : WX} : DTs X cv W [] mYes := PTs.weak pts_nil fun σ H Q ⟨s, env, S, F, r, o⟩ => o true F H r (Same.refl F) rfl
theorem dts_one {X : Cx} {cv : Cv} {W : WX} {c : Expr} {m : Mt} (h : DT X cv W c m) : DTs X cv W [c] m := pts_one h
def unOwn : Sl → Sl
  | .val d => .val d
  | _ => .no
/-- the slots as a comprehension's block sees them -/
def inEnv (env : Ev) : List Nat → Ev
  | [] => env.map unOwn
  | v :: vs => (inEnv env vs).set v .no
def compL (vs : List Nat) (mg : Mg) (mt : Mt) (me : Me) (env : Ev) : List D → List D → Cells → Out (List D)
  | [], acc, S => .ok acc S
  | d :: ds, acc, S => match mg d (inEnv env vs) with
    | none => .no
    | some env1 => match mt env1 S with
      | .ok true S1 => (match me env1 S1 with
        | .ok y S2 => if acc.length < 16777216 then compL vs mg mt me env ds (acc ++ [y]) S2 else .no
        | _ => .no)
      | .ok false S1 => compL vs mg mt me env ds acc S1
      | _ => .no
def oComp (vs : List Nat) (mi : Ma) (mg : Mg) (mt : Mt) (me : Me) : Ma := fun env S => (mi env S).bind fun ds S1 => compL vs mg mt me env ds [] S1
theorem inEnv_len (env : Ev) : ∀ vs, (inEnv env vs).length = env.length
  | [] => by simp [inEnv]
  | v :: vs => by simp [inEnv, inEnv_len env vs]
theorem inEnv_get {env : Ev} {i : Nat} {sl : Sl} : ∀ {vs : List Nat}, (inEnv env vs)[i]? = some sl → sl = .no ∨ (i ∉ vs ∧ ∃ d, sl = .val d ∧ env[i]? = some (.val d))
  | [], h => by
    unfold inEnv at h
    rw [List.getElem?_map] at h
    cases q : env[i]? with
    | none => rw [q] at h; cases h
    | some s0 =>
      rw [q] at h
      cases s0 with
      | no => cases h; exact .inl rfl
      | own ds => cases h; exact .inl rfl
      | exn x => cases h; exact .inl rfl
      | loo d => cases h; exact .inl rfl
      | val d => cases h; exact .inr ⟨by simp, d, rfl, rfl⟩
  | v :: vs, h => by
    unfold inEnv at h
    by_cases hv : v = i
    · subst hv
      have hl : v < (inEnv env vs).length := by
        have := (List.getElem?_eq_some_iff.mp h).1
        simpa using this
      rw [List.getElem?_set_self hl] at h
      cases h
      exact .inl rfl
    · rw [List.getElem?_set_ne hv] at h
      rcases inEnv_get h with z | ⟨h1, h2⟩
      · exact .inl z
      · exact .inr ⟨by simp only [List.mem_cons, not_or]; exact ⟨fun e => hv e.symm, h1⟩, h2⟩
theorem R.block {G : Gm} {s : Snap} {env : Ev} {S : Cells} {F H : Hp} {σ : L2.St} (r : R G s env S F σ H) (vs : List Nat) : R G ⟨s.io, s.nw, H, F, nP⟩ (inEnv env vs) S F (wipe σ vs) H := by
  refine ⟨r.h.enter, by rw [inEnv_len, wipe_length, r.len], fun i d q => ?_, fun i ds q => ?_, fun i j a ds es _ q => ?_, fun i x q => ?_, fun i d q => ?_⟩
  · rcases inEnv_get q with z | ⟨h1, d', z, h2⟩
    · cases z
    · cases z
      obtain ⟨v, h3, h4⟩ := r.val i d h2
      exact ⟨v, by rw [wipe_out h1]; exact h3, h4⟩
  · rcases inEnv_get q with z | ⟨_, _, z, _⟩ <;> cases z
  · rcases inEnv_get q with z | ⟨_, _, z, _⟩ <;> cases z
  · rcases inEnv_get q with z | ⟨_, _, z, _⟩ <;> cases z
  · rcases inEnv_get q with z | ⟨_, _, z, _⟩ <;> cases z
theorem wipe_none {σ : L2.St} {i : Nat} : ∀ {vs : List Nat}, i ∈ vs → i < σ.length → (wipe σ vs)[i]? = some none
  | v :: vs, h, hl => by
    unfold wipe
    by_cases hv : v = i
    · subst hv
      rw [List.getElem?_set_self (by rw [wipe_length]; exact hl)]
    · rw [List.getElem?_set_ne hv]
      exact wipe_none ((List.mem_cons.mp h).resolve_left fun e => hv e.symm) hl
theorem wipe_eq {σ σ' : L2.St} {vs : List Nat} (hl : σ'.length = σ.length) (h : ∀ j, j ∉ vs → σ'[j]? = (wipe σ vs)[j]?) : wipe σ' vs = wipe σ vs := by
  refine List.ext_getElem? fun j => ?_
  by_cases hj : j ∈ vs
  · by_cases hl' : j < σ.length
    · rw [wipe_none hj hl', wipe_none hj (by rw [hl]; exact hl')]
    · rw [List.getElem?_eq_none (by rw [wipe_length]; omega), List.getElem?_eq_none (by rw [wipe_length]; omega)]
  · rw [wipe_out hj, h j hj]
theorem R.updOff {G : Gm} {s : Snap} {env : Ev} {S : Cells} {F H : Hp} {σ : L2.St} {a : Addr} {o : HO} (r : R G s env S F σ H) (hf : F a = none) (h0 : s.H0 a = none) (hn : a ∉ s.wr) (np : ¬ s.P a) (off : Off env σ a) : R G s env S F σ (upd H a o) := by
  have ppw : ∀ b, s.P b → b ≠ a := fun b e z => np (by rw [← z]; exact e)
  refine ⟨⟨fun b e => ⟨by rw [upd_ne (ppw b e)]; exact (r.h.pp b e).1, (r.h.pp b e).2⟩, same_off r.h.fh hf, r.h.f0, r.h.new, fun b u e hb => ?_, r.h.len, r.h.nd, fun n b ds h1 h2 => ?_⟩, r.len, r.val, fun i ds q => ?_, r.dist, r.exn, fun i d q => ?_⟩
  · rw [upd_ne (fun z => by rw [z, h0] at e; cases e)]
    exact r.h.frame b u e hb
  · obtain ⟨p1, xs, p2, p3⟩ := r.h.cell n b ds h1 h2
    have : b ≠ a := fun z => hn (by rw [← z]; exact List.mem_of_getElem? h1)
    exact ⟨p1, xs, by rw [upd_ne this]; exact p2, p3⟩
  · obtain ⟨b, h1, h2, h3, h4, h5, xs, h6, h7⟩ := r.own i ds q
    have : b ≠ a := fun z => off i ds q (by rw [← z]; exact h1)
    exact ⟨b, h1, h2, h3, h4, h5, xs, by rw [upd_ne this]; exact h6, h7⟩
  · obtain ⟨u, Q, e, h2, h3, h4⟩ := r.loo i d q
    exact ⟨u, Q, e, fun b o z => by rw [upd_ne (ppw b (h3 b (by rw [z]; exact fun y => nomatch y)))]; exact h2 b o z, h3, h4⟩

section
variable {X : Cx} {cv : Cv} {W : WX} {elt iter tg : Expr} {ifs : List Expr} {scope : Scope} {own : List (Str × Nat)} {pos : Pos} {mi : Ma} {mg : Mg} {mt : Mt} {me : Me} {ts : List Nat}
theorem comp_w {G : Gm} (hts : ∀ i ∈ ts, i ∈ own.map (·.2)) (σ : L2.St) (H : Hp) (Q : VK) (h : tO G W (oComp (own.map (·.2)) mi mg mt me) σ H Q) :
    tLc (tG G W (rpI G) mi) (tGt G.K ts mg) (tT G wF mt) (tE G wF me) (own.map (·.2)) σ H Q := by
  obtain ⟨s, env, S, F, r, o⟩ := h
  refine ⟨s, env, S, F, r, OutP.bind (rp := rpI _) o fun ds S1 J F1 H1 r1 sm w o1 => fun P hP => ?_⟩
  obtain ⟨p0, pni, pf⟩ := r1.h.h0 hP
  have pp0 := r1.h.pFree hP
  obtain ⟨rP, offP⟩ := r1.lay (o := .lst []) hP
  refine lc_it w (fun i H' => ∃ acc accV S' F', Same F1 F' ∧ R G s env S' F' σ H' ∧ F' P = none ∧ H' P = some (.lst accV) ∧ Reps G.K F' s.io acc accV ∧ OutP G W (rpO G) s env σ F1 (compL (own.map (·.2)) mg mt me env (ds.drop i) acc S') Q)
    ⟨[], [], S1, F1, Same.refl F1, rP, pf, upd_same, rfl, o1⟩ (fun i H' _ ⟨_, _, _, F', sm', r', _⟩ => sm'.trans r'.h.fh) ?_ ?_
  · rintro i x H' H'' hi ⟨acc, accV, S', F', sm', r', pf', hP', ra, o'⟩ ⟨d, hd, y⟩
    have ed : ds.drop i = d :: ds.drop (i + 1) := by
      rw [List.drop_eq_getElem_cons hi]
      congr 1
      exact Option.some.inj ((List.getElem?_eq_getElem hi).symm.trans hd)
    rw [ed] at o'
    unfold compL at o'
    -- the item is drawn
    have hPne : H' P ≠ none := by rw [hP']; exact fun z => nomatch z
    obtain ⟨F2, r2, sm2, rd, hP2, pf2⟩ : ∃ F2, R G s env S' F2 σ H'' ∧ Same F' F2 ∧ Rep G.K F2 s.io d x ∧ H'' P = some (.lst accV) ∧ F2 P = none := by
      rcases y with ⟨rfl, h⟩ | ⟨T, ob, h1, h2, h3⟩
      · exact ⟨F', r', Same.refl _, Rep.mono sm' d x h, hP', pf'⟩
      · subst h2
        obtain ⟨r2, sm2⟩ := r'.new (o := ob) h1
        have ne : P ≠ T := fun z => hPne (by rw [z]; exact h1)
        exact ⟨_, r2, sm2, h3 F' sm' (r'.h.h0 h1).2.2, by rw [upd_ne ne]; exact hP', by rw [upd_ne ne]; exact pf'⟩
    have rb := r2.block (own.map (·.2))
    cases e1 : mg d (inEnv env (own.map (·.2))) with
    | none =>
      rw [e1] at o'
      exact o'.elim
    | some env1 =>
      rw [e1] at o'
      simp only at o'
      refine ⟨G.cv, ⟨s.io, s.nw, H'', F2, nP⟩, _, S', F2, d, env1, rb, rd, e1, fun σ2 r3 l3 k3 => ⟨?_, ?_⟩⟩
      · refine wipe_eq ?_ fun j hj => k3 j fun z => hj (hts j z)
        rw [l3, wipe_length]
      · cases et : mt env1 S' with
        | ok b S3 =>
          rw [et] at o'
          refine ⟨⟨s.io, s.nw, H'', F2, nP⟩, env1, S', F2, r3, ?_⟩
          rw [et]
          intro b' F3 H3 r4 sm4 eb
          cases eb
          have hP3 : H3 P = some (.lst accV) := r4.h.frame P _ hP2 pni
          have pf3 : F3 P = none := by
            cases q : F3 P with
            | none => rfl
            | some u =>
              rcases r4.h.new P (by rw [q]; exact fun z => nomatch z) with z | z
              · exact absurd pf2 z
              · have z' : H'' P = none := z
                rw [z'] at hP2
                cases hP2
          cases b with
          | false =>
            simp only [Bool.false_eq_true, if_false]
            simp only at o'
            exact ⟨acc, accV, S3, F3, sm'.trans (sm2.trans sm4), r2.after r4.h, pf3, hP3, Reps.mono (sm2.trans sm4) _ _ ra, o'⟩
          | true =>
            simp only [if_true]
            simp only at o'
            cases ee : me env1 S3 with
            | ok y S4 =>
              rw [ee] at o'
              simp only at o'
              split at o'
              · rename_i hl
                refine ⟨⟨s.io, s.nw, H'', F2, nP⟩, env1, S3, F3, r4, ?_⟩
                rw [ee]
                intro v F4 H4 r5 sm5 rv
                have hP4 : H4 P = some (.lst accV) := r5.h.frame P _ hP2 pni
                have pf4 : F4 P = none := by
                  cases q : F4 P with
                  | none => rfl
                  | some u =>
                    rcases r5.h.new P (by rw [q]; exact fun z => nomatch z) with z | z
                    · exact absurd pf2 z
                    · have z' : H'' P = none := z
                      rw [z'] at hP2
                      cases hP2
                have ra4 := Reps.mono (sm2.trans (sm4.trans sm5)) _ _ ra
                refine ⟨accV, hP4, sz_lt' (by rw [ra4.len]; exact hl), acc ++ [y], accV ++ [v], S4, F4, sm'.trans (sm2.trans (sm4.trans sm5)), (r2.after r5.h).updOff pf4 p0 pni pp0 offP, pf4, upd_same, ra4.append (Reps.one rv), o'⟩
              · exact o'.elim
            | ex x S4 =>
              rw [ee] at o'
              exact o'.elim
            | no =>
              rw [ee] at o'
              exact o'.elim
        | ex x S3 =>
          rw [et] at o'
          exact o'.elim
        | no =>
          rw [et] at o'
          exact o'.elim
  · rintro H' ⟨acc, accV, S', F', sm', r', pf', hP', ra, o'⟩
    rw [List.drop_length] at o'
    exact o' _ F' H' r' sm' ⟨P, rfl, ⟨pf', p0, pni, pp0, accV, hP', ra⟩, offP⟩
/-- [elt for tg in iter if ..], a new list -/
theorem do_lc (hc : X.calm = true) (hN : X.N.Nodup) (hts : ∀ i ∈ ts, i ∈ own.map (·.2)) (hi : DI X cv W tg iter mi) (ok : BlkOk X.N X.env.scope scope own)
    (hg : ∀ (s : Shared) (H : Hp) (C : Addr) (cl : List (Str × Addr)) (fp : List Addr), DG (X.blk s H scope (compEnvC scope cl C X.env) fp) tg ts mg) (ht : ∀ (s : Shared) (H : Hp) (C : Addr) (cl : List (Str × Addr)) (fp : List Addr), DTs (X.blk s H scope (compEnvC scope cl C X.env) fp) cv wF ifs mt)
    (he : ∀ (s : Shared) (H : Hp) (C : Addr) (cl : List (Str × Addr)) (fp : List Addr), DE (X.blk s H scope (compEnvC scope cl C X.env) fp) cv wF elt me) (hs : ∀ x, foldedSetIterable iter X.env x = pure x := by intro _; rfl) :
    DO X cv W (.ListComp elt [⟨tg, iter, ifs, 0⟩] scope pos) (oComp (own.map (·.2)) mi mg mt me) := PE.weak (pe_lc (g := tGt X.K ts mg) (tt := tT ⟨X.K, cv⟩ wF mt) (te := tE ⟨X.K, cv⟩ wF me) hc hN hi ok hg ht he hs) (comp_w (G := ⟨X.K, cv⟩) hts)
/-- y = [elt for ..], the list y's own -/
theorem ds_setLc (i : Nat) {y : Str} {py spos : Pos} (hc : X.calm = true) (hN : X.N.Nodup) (hts : ∀ i ∈ ts, i ∈ own.map (·.2)) (hsw : swapsWith (.ListComp elt [⟨tg, iter, ifs, 0⟩] scope pos) (some (.Name y py)) spos.line X.env = pure true) (hi : DI X cv W tg iter mi) (ok : BlkOk X.N X.env.scope scope own)
    (hg : ∀ (s : Shared) (H : Hp) (C : Addr) (cl : List (Str × Addr)) (fp : List Addr), DG (X.blk s H scope (compEnvC scope cl C X.env) fp) tg ts mg) (ht : ∀ (s : Shared) (H : Hp) (C : Addr) (cl : List (Str × Addr)) (fp : List Addr), DTs (X.blk s H scope (compEnvC scope cl C X.env) fp) cv wF ifs mt)
    (he : ∀ (s : Shared) (H : Hp) (C : Addr) (cl : List (Str × Addr)) (fp : List Addr), DE (X.blk s H scope (compEnvC scope cl C X.env) fp) cv wF elt me) (hy : X.N[i]? = some y := by rfl) (hyl : X.env.scope.names.lookup y = some .local := by rfl) (hs : ∀ x, foldedSetIterable iter X.env x = pure x := by intro _; rfl) :
    DS X cv W (.Assign [.Name y py] (.ListComp elt [⟨tg, iter, ifs, 0⟩] scope pos) spos) (sSetO i (oComp (own.map (·.2)) mi mg mt me)) := PS.weak (ps_setLc (g := tGt X.K ts mg) (tt := tT ⟨X.K, cv⟩ wF mt) (te := tE ⟨X.K, cv⟩ wF me) hc hN hy hyl hsw hi ok hg ht he hs) fun E σ H ⟨s, env, S, F, r, o⟩ =>
  comp_w (W := W) (G := ⟨X.K, cv⟩) hts σ H (fun x H1 => gName i x σ H1 E.nx) ⟨s, env, S, F, r, OutS.go (rp := rpO _) o fun a S1 v F1 H1 r1 sm rv o1 => by
    obtain ⟨p, rfl, w, off⟩ := rv
    exact o1 _ F1 H1 (r1.setOwn w off) (Same.refl F1)⟩
end
end TT
namespace TT
open PySem PySem.Spec PyProof.Rows L2

/-! ### built-ins by name -/
section
variable {X : Cx} {cv : Cv} {W : WX} {e e1 e2 : Expr} {es : List Expr} {m m1 m2 : Me} {ma : Ma} {x : Str} {p pos : Pos} {id T : String} {r : List V → Hp → VK → Prop} {f : List D → Cells → Out D} {fo : List D → Cells → Out (List D)}
theorem de_callB (hc : CallR X (.builtin id) r) (hf : OpA cv X (rpE ⟨X.K, cv⟩) r f) (hg : Gl X x) (hm : X.mg x = none) (hv : bootBuiltins x = some (.builtin id)) (ha : DA X cv W (e :: es) ma) (hn : x ≠ "__name__" := by decide) (hdb : (x == ("__debug__" : Str)) = false := by decide)
    (he : starEach (e :: es) X.env = (false, eval e X.env) :: starEach es X.env := by rfl) (hpl : (backTo pos (starEach es X.env)).any (·.1) = false := by rfl) : DE X cv W (.Call (.Name x p) (e :: es) [] pos) (dArgs f ma) :=
  PE.weak (pe_callB hc hg hm hv ha hn hdb he hpl) fun σ H Q ⟨s, env, S, F, r0, o⟩ => ⟨s, env, S, F, r0, OutP.bind (rp := rpA _) o fun ds S1 vs F1 H1 r1 sm rv o1 => hf W s env S1 F1 σ H1 ds vs Q r1 rv o1⟩
theorem de_callTy (hc : CallR X (.type T) r) (hf : OpA cv X (rpE ⟨X.K, cv⟩) r f) (hg : Gl X x) (hm : X.mg x = none) (hv : bootBuiltins x = some (.type T)) (ha : DA X cv W (e :: es) ma) (hn : x ≠ "__name__" := by decide) (hdb : (x == ("__debug__" : Str)) = false := by decide)
    (he : starEach (e :: es) X.env = (false, eval e X.env) :: starEach es X.env := by rfl) (hpl : (backTo pos (starEach es X.env)).any (·.1) = false := by rfl) : DE X cv W (.Call (.Name x p) (e :: es) [] pos) (dArgs f ma) :=
  PE.weak (pe_callTy hc hg hm hv ha hn hdb he hpl) fun σ H Q ⟨s, env, S, F, r0, o⟩ => ⟨s, env, S, F, r0, OutP.bind (rp := rpA _) o fun ds S1 vs F1 H1 r1 sm rv o1 => hf W s env S1 F1 σ H1 ds vs Q r1 rv o1⟩
theorem do_callTy (hc : CallR X (.type T) r) (hf : OpA cv X (rpO ⟨X.K, cv⟩) r fo) (hg : Gl X x) (hm : X.mg x = none) (hv : bootBuiltins x = some (.type T)) (ha : DA X cv W (e :: es) ma) (hn : x ≠ "__name__" := by decide) (hdb : (x == ("__debug__" : Str)) = false := by decide)
    (he : starEach (e :: es) X.env = (false, eval e X.env) :: starEach es X.env := by rfl) (hpl : (backTo pos (starEach es X.env)).any (·.1) = false := by rfl) : DO X cv W (.Call (.Name x p) (e :: es) [] pos) (dArgs fo ma) :=
  PE.weak (pe_callTy hc hg hm hv ha hn hdb he hpl) fun σ H Q ⟨s, env, S, F, r0, o⟩ => ⟨s, env, S, F, r0, OutP.bind (rp := rpA _) o fun ds S1 vs F1 H1 r1 sm rv o1 => hf W s env S1 F1 σ H1 ds vs Q r1 rv o1⟩
/-- a built-in class as a value -/
theorem de_bty {t : String} (hg : Gl X x) (hm : X.mg x = none) (hv : bootBuiltins x = some (.type t)) (hn : x ≠ "__name__" := by decide) (hd : (x == ("__debug__" : Str)) = false := by decide) : DE X cv W (.Name x pos) (dC (.ty t)) :=
  de_c (pe_bltn (v := .ty t) hg hm hv rfl hn hd) rfl fun _ _ _ => rfl

def fLen (ds : List D) (S : Cells) : Out D := match ds with
  | [.str x] => if x.length ≤ 16777216 then .ok (.int (x.length : Int)) S else .no
  | [.tup xs] => .ok (.int (xs.length : Int)) S
  | [d] => match lvr S d with
    | some xs => .ok (.int (xs.length : Int)) S
    | none => .no
  | _ => .no
theorem f_len : OpA cv X (rpE ⟨X.K, cv⟩) (fun xs H Q => ∃ x n, xs = [x] ∧ LenV X.K x H n ∧ Q (.int n) H) fLen := by
  intro W s env S F σ H ds vs Q r rv o
  unfold fLen at o
  split at o
  · split at o
    · rename_i z h
      obtain ⟨v, r', rfl, h1, h2⟩ := rv
      cases h1
      cases h2
      refine ⟨_, (cps z).length, rfl, ⟨sz_ok (by rw [cps_len]; exact h), rfl⟩, ?_⟩
      rw [cps_len]
      exact o _ F H r (Same.refl F) rfl
    · exact o.elim
  · rename_i xs
    obtain ⟨v, r', rfl, h1, h2⟩ := rv
    cases h2
    obtain ⟨a, us, rfl, h3, h4⟩ := tup_w r.h h1
    refine ⟨_, us.length, rfl, .inr ⟨us, h3, rfl⟩, ?_⟩
    rw [h4.len]
    exact o _ F H r (Same.refl F) rfl
  · split at o
    · rename_i xs e
      obtain ⟨v, r', rfl, h1, h2⟩ := rv
      cases h2
      obtain ⟨a, us, rfl, h3, h4⟩ := lvr_w r.h h1 e
      refine ⟨_, us.length, rfl, .inl ⟨us, h3, rfl⟩, ?_⟩
      rw [h4.len]
      exact o _ F H r (Same.refl F) rfl
    · exact o.elim
  · exact o.elim
/-- len(x), x a list of its own -/
def dLenO (i : Nat) : Me := fun env S => match env[i]? with
  | some (.own ds) => .ok (.int (ds.length : Int)) S
  | _ => .no
theorem de_lenO (i : Nat) {y : Str} {yp : Pos} (hg : Gl X "len") (hm : X.mg "len" = none) (hN : X.N[i]? = some y := by rfl) (hv : Vis X.env.scope y := by first | exact Or.inl rfl | exact Or.inr (Or.inl rfl) | exact Or.inr (Or.inr rfl)) (hd : (y == ("__debug__" : Str)) = false := by decide)
    (hcd : (y == ("__classdict__" : Str)) = false := by decide)
    (he : starEach [.Name y yp] X.env = (false, eval (.Name y yp) X.env) :: starEach [] X.env := by rfl) (hpl : (backTo pos (starEach [] X.env)).any (·.1) = false := by rfl) : DE X cv W (.Call (.Name "len" p) [.Name y yp] [] pos) (dLenO i) :=
  PE.weak (pe_callB call_len hg hm PySem.boot_len (pa_cons (pe_var hN hv hd hcd) pa_nil he) (by decide) (by decide) he hpl) fun σ H Q ⟨s, env, S, F, r, o⟩ => by
    unfold dLenO at o
    split at o
    · rename_i ds q
      obtain ⟨a, h1, w⟩ := r.own i ds q
      obtain ⟨xs, hx, hr⟩ := w.at_
      refine ⟨.ref a, h1, _, xs.length, rfl, .inl ⟨xs, .inl (.inl hx), rfl⟩, ?_⟩
      rw [hr.len]
      exact o _ F H r (Same.refl F) rfl
    · exact o.elim
def fAbs (ds : List D) (S : Cells) : Out D := match ds with
  | [.int i] => .ok (.int (if i < 0 then -i else i)) S
  | _ => .no
theorem f_abs : OpA cv X (rpE ⟨X.K, cv⟩) (fun xs H Q => ∃ i, xs = [.int i] ∧ Q (.int (if i < 0 then -i else i)) H) fAbs := by
  intro W s env S F σ H ds vs Q r rv o
  unfold fAbs at o
  split at o
  · obtain ⟨v, r', rfl, h1, h2⟩ := rv
    cases h1
    cases h2
    exact ⟨_, rfl, o _ F H r (Same.refl F) rfl⟩
  · exact o.elim
def fInt (ds : List D) (S : Cells) : Out D := match ds with
  | [.int i] => .ok (.int i) S
  | [.bl k] => .ok (.int (if k then 1 else 0)) S
  | _ => .no
theorem f_int : OpA cv X (rpE ⟨X.K, cv⟩) (fun xs H Q => (∃ i, xs = [.int i] ∧ Q (.int i) H) ∨ ∃ k, xs = [.bl k] ∧ Q (.int (if k then 1 else 0)) H) fInt := by
  intro W s env S F σ H ds vs Q r rv o
  unfold fInt at o
  split at o
  · obtain ⟨v, r', rfl, h1, h2⟩ := rv
    cases h1
    cases h2
    exact .inl ⟨_, rfl, o _ F H r (Same.refl F) rfl⟩
  · obtain ⟨v, r', rfl, h1, h2⟩ := rv
    cases h1
    cases h2
    exact .inr ⟨_, rfl, o _ F H r (Same.refl F) rfl⟩
  · exact o.elim
def f2I (g : Int → Int → Int) (ds : List D) (S : Cells) : Out D := match ds with
  | [.int i, .int j] => .ok (.int (g i j)) S
  | _ => .no
theorem f_2i {g : Int → Int → Int} : OpA cv X (rpE ⟨X.K, cv⟩) (fun xs H Q => ∃ i j, xs = [.int i, .int j] ∧ Q (.int (g i j)) H) (f2I g) := by
  intro W s env S F σ H ds vs Q r rv o
  unfold f2I at o
  split at o
  · obtain ⟨v, r', rfl, h1, v2, r2, rfl, h2, h3⟩ := rv
    cases h1
    cases h2
    cases h3
    exact ⟨_, _, rfl, o _ F H r (Same.refl F) rfl⟩
  · exact o.elim
abbrev fMin2 := f2I fun i j => if j < i then j else i
abbrev fMax2 := f2I fun i j => if j > i then j else i
/-- list(x), a new list -/
def fList (ds : List D) (S : Cells) : Out (List D) := match ds with
  | [.tup xs] => .ok xs S
  | [d] => match lvr S d with
    | some xs => .ok xs S
    | none => .no
  | _ => .no
theorem f_list : OpA cv X (rpO ⟨X.K, cv⟩) (fun xs H Q => ∃ p ys, xs = [.ref p] ∧ (SqL X.K H p ys ∨ SqT X.K H p ys) ∧ ∀ l, H l = none → Q (.ref l) (upd H l (.lst ys))) fList := by
  intro W s env S F σ H ds vs Q r rv o
  have fin : ∀ {xs : List D} {us : List V} {l : Addr}, Reps X.K F s.io xs us → H l = none → OutP ⟨X.K, cv⟩ W (rpO ⟨X.K, cv⟩) s env σ F (.ok xs S) Q → Q (.ref l) (upd H l (.lst us)) := fun {xs us l} h hl o => by
    obtain ⟨r2, off⟩ := r.lay (o := .lst us) hl
    obtain ⟨h0, hni, hf⟩ := r.h.h0 hl
    exact o _ _ _ r2 (Same.refl F) ⟨l, rfl, (⟨hf, h0, hni, r.h.pFree hl, us, upd_same, h⟩ : OwnAt X.K s F _ l xs), off⟩
  unfold fList at o
  split at o
  · obtain ⟨v, r', rfl, h1, h2⟩ := rv
    cases h2
    obtain ⟨a, us, rfl, h3, h4⟩ := tup_w r.h h1
    exact ⟨a, us, rfl, .inr h3, fun l hl => fin h4 hl o⟩
  · split at o
    · rename_i xs e
      obtain ⟨v, r', rfl, h1, h2⟩ := rv
      cases h2
      obtain ⟨a, us, rfl, h3, h4⟩ := lvr_w r.h h1 e
      exact ⟨a, us, rfl, .inl h3, fun l hl => fin h4 hl o⟩
    · exact o.elim
  · exact o.elim

/-! ### isinstance -/
def tyN : D → String
  | .non => "NoneType"
  | .bl _ => "bool"
  | .int _ => "int"
  | .str _ => "str"
  | .lst _ => "list"
  | .frl _ => "list"
  | .tup _ => "tuple"
  | .cell _ => "list"
  | .ty _ => ""
def cellOk (d : D) (S : Cells) : Bool := match d with
  | .cell n => decide (n < S.length)
  | _ => true
def isiB (d : D) (t : String) : Option Bool := if tyN d = "" then none else kitB (tyN d) t
def fIsi (ds : List D) (S : Cells) : Out D := match ds with
  | [d, .ty t] => if cellOk d S = true then (match isiB d t with
    | some b => .ok (.bl b) S
    | none => .no) else .no
  | _ => .no
theorem tyX_w {s : Snap} {S : Cells} {F H : Hp} {d : D} {v : V} (r : RelH X.K s S F H) (h : Rep X.K F s.io d v) (hd : ∀ n, d = .cell n → n < S.length) (hn : tyN d ≠ "") : TyX X.K H v (.type (tyN d)) := by
  cases d with
  | non => cases h; exact .base .non
  | bl b => cases h; exact .base (.bl b)
  | int i => cases h; exact .base (.int i)
  | str x => cases h; exact .base (.str _)
  | lst ds =>
    obtain ⟨a, xs, rfl, h1, _⟩ := h
    exact .base (.lst (r.fh _ _ h1))
  | frl ds =>
    obtain ⟨a, xs, rfl, h1, _⟩ := h
    rcases h1 with (h1 | ⟨o, h1⟩) | ⟨o, its, n, hk, hc, _⟩
    · exact .base (.lst (r.fh _ _ h1))
    · exact .base (.frz (r.fh _ _ h1))
    · exact .kList hk hc
  | tup ds =>
    obtain ⟨a, xs, rfl, h1, _⟩ := h
    rcases h1 with (h1 | ⟨o, h1⟩) | ⟨o, its, n, hk, hc, _⟩
    · exact .base (.tup (r.fh _ _ h1))
    · exact .fTuple (r.fh _ _ h1)
    · exact .kTuple hk hc
  | cell n =>
    obtain ⟨a, xs, rfl, h2, _⟩ := lv_w (d := .cell n) (ds := S[n]'(hd n rfl)) r h (List.getElem?_eq_getElem (hd n rfl))
    exact .base (.lst h2)
  | ty n => exact absurd rfl hn
theorem f_isi : OpA cv X (rpE ⟨X.K, cv⟩) (rIsi X.K) fIsi := by
  intro W s env S F σ H ds vs Q r rv o
  unfold fIsi at o
  split at o
  · rename_i d t
    split at o
    · rename_i hc
      split at o
      · rename_i b e
        obtain ⟨v, r', rfl, h1, v2, r2, rfl, h2, h3⟩ := rv
        cases h2
        cases h3
        unfold isiB at e
        split at e
        · cases e
        · rename_i hne
          refine ⟨v, .ty t, _, _, b, rfl, .ty t, tyX_w r.h h1 (fun n e => ?_) hne, kit_ty e, o _ F H r (Same.refl F) rfl⟩
          subst e
          exact of_decide_eq_true hc
      · exact o.elim
    · exact o.elim
  · exact o.elim

/-! ### methods of texts -/
/-- s.name(e, ..) -/
def dMeS (f : List Char → List D → Cells → Out D) (m : Me) (ma : Ma) : Me := fun env S => (m env S).bind fun d S1 => match d with
  | .str x => (ma env S1).bind fun ds S2 => f x ds S2
  | _ => .no
def OpMS (cv : Cv) (X : Cx) (r : V → List V → Hp → VK → Prop) (f : List Char → List D → Cells → Out D) : Prop := ∀ (W : WX) (s : Snap) (env : Ev) (S : Cells) (F : Hp) (σ : L2.St) (H : Hp) (z : List Char) (ds : List D) (vs : List V) (Q : VK),
  R ⟨X.K, cv⟩ s env S F σ H → Reps X.K F s.io ds vs → OutP ⟨X.K, cv⟩ W (rpE ⟨X.K, cv⟩) s env σ F (f z ds S) Q → r (.str (cps z)) vs H Q
theorem de_meS {name : Str} {apos cpos : Pos} {rm : V → List V → Hp → VK → Prop} {fm : List Char → List D → Cells → Out D} (slot : Slot "str" name id) (hty : typeOf (.builtin id) = pure (.type "method_descriptor")) (hm : MtR X id rm) (hf : OpMS cv X rm fm) (ho : DE X cv W e1 m) (ha : DA X cv W (e :: es) ma)
    (hbase : attributeBase e1 name X.env (eval e1 X.env) = eval e1 X.env := by rfl)
    (hfew : ((backTo cpos (starEach (e :: es) X.env)).all (fun x => !x.1) && (backToKw cpos (keywordEach [] X.env)).all (fun x => x.1.isSome)
      && decide ((e :: es).length + ([] : List Keyword).length + (if ([] : List Keyword).isEmpty then 0 else 1) < 30)) = true := by rfl)
    (hline : (apos.endLine == cpos.line) = true := by rfl) (hs : starEach (e :: es) X.env = (false, eval e X.env) :: starEach es X.env := by rfl) (hplain : (backTo cpos (starEach es X.env)).any (·.1) = false := by rfl) :
    DE X cv W (.Call (.Attribute e1 name apos) (e :: es) [] cpos) (dMeS fm m ma) :=
  PE.weak (pe_bm PySem.F.plainAttrs_str slot hty hm ho ha hbase hfew hline hs hplain) fun σ H Q ⟨s, env, S, F, r0, o⟩ => ⟨s, env, S, F, r0, OutP.bind (rp := rpE _) o fun d S1 v F1 H1 r1 sm rv o1 => by
    cases d with
    | str z =>
      cases rv
      exact ⟨rfl, s, env, S1, F1, r1, OutP.bind (rp := rpA _) o1 fun ds S2 vs F2 H2 r2 sm2 rvs o2 => hf W s env S2 F2 σ H2 z ds vs Q r2 rvs o2⟩
    | _ => exact False.elim o1⟩
def fFind3 (x : List Char) (ds : List D) (S : Cells) : Out D := match ds with
  | [.str y, .int i] => .ok (.int (PySem.Txt.find3 (cps x) (cps y) i)) S
  | _ => .no
theorem f_find3 : OpMS cv X (fun x xs H Q => ∃ (a b : Str) (i : Int), x = .str a ∧ xs = [.str b, .int i] ∧ Q (.int (PySem.Txt.find3 a b i)) H) fFind3 := by
  intro W s env S F σ H z ds vs Q r rv o
  unfold fFind3 at o
  split at o
  · obtain ⟨v, r', rfl, h1, v2, r2, rfl, h2, h3⟩ := rv
    cases h1
    cases h2
    cases h3
    exact ⟨_, _, _, rfl, rfl, o _ F H r (Same.refl F) rfl⟩
  · exact o.elim
def fFind (x : List Char) (ds : List D) (S : Cells) : Out D := match ds with
  | [.str y] => .ok (.int (PySem.Txt.find (cps x) (cps y))) S
  | _ => .no
theorem f_find : OpMS cv X (fun x xs H Q => ∃ a b, x = .str a ∧ xs = [.str b] ∧ Q (.int (PySem.Txt.find a b)) H) fFind := by
  intro W s env S F σ H z ds vs Q r rv o
  unfold fFind at o
  split at o
  · obtain ⟨v, r', rfl, h1, h2⟩ := rv
    cases h1
    cases h2
    exact ⟨_, _, rfl, rfl, o _ F H r (Same.refl F) rfl⟩
  · exact o.elim
/-- the texts of a list -/
def strsD : List D → Option (List (List Char))
  | [] => some []
  | .str x :: ds => (strsD ds).map (x :: ·)
  | _ => none
def joinC (x : List Char) : List (List Char) → List Char
  | [] => []
  | [p] => p
  | p :: q :: r => p ++ (x ++ joinC x (q :: r))
theorem join_cps (x : List Char) : ∀ ys : List (List Char), Str.join (cps x) (ys.map cps) = cps (joinC x ys)
  | [] => rfl
  | [p] => rfl
  | p :: q :: r => by
    show cps p ++ cps x ++ Str.join (cps x) ((q :: r).map cps) = cps (p ++ (x ++ joinC x (q :: r)))
    rw [join_cps x (q :: r), cps_app, cps_app, List.append_assoc]
theorem strs_w {K : PySem.W.Frag} {F : Hp} {io : List Addr} : ∀ {ds : List D} {vs : List V} {ys : List (List Char)}, Reps K F io ds vs → strsD ds = some ys → vs = (ys.map cps).map V.str
  | [], _, _, h, e => by cases h; cases e; rfl
  | d :: ds, _, ys, ⟨v, r, h1, h2, h3⟩, e => by
    subst h1
    cases d with
    | str x =>
      unfold strsD at e
      cases q : strsD ds with
      | none => rw [q] at e; cases e
      | some zs =>
        rw [q] at e
        cases e
        cases h2
        rw [strs_w h3 q]
        rfl
    | _ => cases e
def fJoin (x : List Char) (ds : List D) (S : Cells) : Out D := match ds with
  | [d] => match lvr S d with
    | some es => (match strsD es with
      | some ys => if (ys.map List.length).sum + ys.length * x.length ≤ 16777216 then .ok (.str (joinC x ys)) S else .no
      | none => .no)
    | none => .no
  | _ => .no
theorem f_join : OpMS cv X (fun x xs H Q => ∃ a p, ∃ ys : List Str, x = .str a ∧ xs = [.ref p] ∧ (SqL X.K H p (ys.map V.str) ∨ SqT X.K H p (ys.map V.str)) ∧ (ys.map (·.length)).sum + ys.length * a.length ≤ 16777216 ∧ Q (.str (PySem.Txt.join a ys)) H) fJoin := by
  intro W s env S F σ H z ds vs Q r rv o
  unfold fJoin at o
  split at o
  · split at o
    · rename_i es e
      split at o
      · rename_i ys ey
        split at o
        · rename_i hl
          obtain ⟨v, r', rfl, h1, h2⟩ := rv
          cases h2
          obtain ⟨a, us, rfl, h3, h4⟩ := lvr_w r.h h1 e
          have := strs_w h4 ey
          subst this
          refine ⟨cps z, a, ys.map cps, rfl, rfl, .inl h3, ?_, ?_⟩
          · rw [List.map_map, List.length_map, cps_len]
            have : (fun x : Str => x.length) ∘ cps = List.length := by
              funext x
              exact cps_len x
            rw [this]
            exact hl
          · rw [TL.join_eq, join_cps]
            exact o _ F H r (Same.refl F) rfl
        · exact o.elim
      · exact o.elim
    · exact o.elim
  · exact o.elim
end

/-! ### a call whose arguments may be lists of one's own: they are lent -/
abbrev Mk := Ev → Cells → Out (List (D ⊕ Nat))
def RepM (K : PySem.W.Frag) (F : Hp) (io : List Addr) (σ : L2.St) : List (D ⊕ Nat) → List V → Prop
  | [], vs => vs = []
  | .inl d :: r, vs => ∃ v us, vs = v :: us ∧ Rep K F io d v ∧ RepM K F io σ r us
  | .inr i :: r, vs => ∃ v us, vs = v :: us ∧ σ[i]? = some (some v) ∧ RepM K F io σ r us
theorem RepM.mono {K : PySem.W.Frag} {F F' : Hp} {io : List Addr} {σ : L2.St} (e : Same F F') : ∀ {l : List (D ⊕ Nat)} {vs : List V}, RepM K F io σ l vs → RepM K F' io σ l vs
  | [], _, h => h
  | .inl d :: r, _, ⟨v, us, h1, h2, h3⟩ => ⟨v, us, h1, Rep.mono e d v h2, RepM.mono e h3⟩
  | .inr i :: r, _, ⟨v, us, h1, h2, h3⟩ => ⟨v, us, h1, h2, RepM.mono e h3⟩
abbrev rpM (G : Gm) : Rp (List (D ⊕ Nat)) (List V) := fun s _ F σ _ l vs => RepM G.K F s.io σ l vs
def lNil : Mk := fun _ S => .ok [] S
def lVal (m : Me) (mk : Mk) : Mk := fun env S => (m env S).bind fun d S1 => (mk env S1).bind fun l S2 => .ok (.inl d :: l) S2
def lOwn (i : Nat) (mk : Mk) : Mk := fun env S => match env[i]? with
  | some (.own _) => (mk env S).bind fun l S1 => .ok (.inr i :: l) S1
  | _ => .no
def lent (env : Ev) : List (D ⊕ Nat) → Option (List D)
  | [] => some []
  | .inl d :: r => (lent env r).map (d :: ·)
  | .inr i :: r => match env[i]? with
    | some (.own ds) => (lent env r).map (.lst ds :: ·)
    | _ => none
/-- a call that lends; its answer is flat -/
def dLend (mf : Mf) (mk : Mk) : Me := fun env S => (mk env S).bind fun l S1 => match lent env l with
  | some ds => (match mf ds [] with
    | .ok (.val d) _ => if flatD d = true then .ok d S1 else .no
    | _ => .no)
  | none => .no
section
variable {X : Cx} {cv : Cv} {W : WX} {e : Expr} {es : List Expr} {m : Me} {mk : Mk} {f : Addr} {fd : FuncData} {ps : List Str} {x : Str} {p pos : Pos}
def DL (X : Cx) (cv : Cv) (W : WX) (es : List Expr) (mk : Mk) : Prop := PA X es (tG ⟨X.K, cv⟩ W (rpM ⟨X.K, cv⟩) mk)
theorem dl_nil : DL X cv W [] lNil := PA.weak pa_nil fun σ H Q ⟨s, env, S, F, r, o⟩ => o [] F H r (Same.refl F) rfl
theorem dl_val (h : DE X cv W e m) (hr : DL X cv W es mk) (hs : starEach (e :: es) X.env = (false, eval e X.env) :: starEach es X.env := by rfl) : DL X cv W (e :: es) (lVal m mk) :=
  PA.weak (pa_cons h hr hs) fun σ H Q ⟨s, env, S, F, r, o⟩ => ⟨s, env, S, F, r, OutP.bind (rp := rpE _) o fun d S1 v F1 H1 r1 sm rv o1 => ⟨s, env, S1, F1, r1, OutP.bind (rp := rpM _) o1 fun ds S2 vs F2 H2 r2 sm2 rvs o2 =>
    o2 (v :: vs) F2 H2 r2 (Same.refl F2) ⟨v, vs, rfl, Rep.mono sm2 d v rv, rvs⟩⟩⟩
theorem dl_own (i : Nat) {y : Str} {yp : Pos} (hr : DL X cv W es mk) (hs : starEach (.Name y yp :: es) X.env = (false, eval (.Name y yp) X.env) :: starEach es X.env := by rfl) (hN : X.N[i]? = some y := by rfl) (hv : Vis X.env.scope y := by first | exact Or.inl rfl | exact Or.inr (Or.inl rfl) | exact Or.inr (Or.inr rfl))
    (hd : (y == ("__debug__" : Str)) = false := by decide) (hcd : (y == ("__classdict__" : Str)) = false := by decide) : DL X cv W (.Name y yp :: es) (lOwn i mk) :=
  PA.weak (pa_cons (pe_var hN hv hd hcd) hr hs) fun σ H Q ⟨s, env, S, F, r, o⟩ => by
    unfold lOwn at o
    split at o
    · rename_i ds q
      obtain ⟨a, h1, w⟩ := r.own i ds q
      exact ⟨.ref a, h1, s, env, S, F, r, OutP.bind (rp := rpM _) o fun l S1 vs F1 H1 r1 sm rv o1 => o1 _ F1 H1 r1 (Same.refl F1) ⟨.ref a, vs, rfl, h1, rv⟩⟩
    · exact o.elim
theorem ov_sub {F Q H : Hp} (h1 : Same F H) (h2 : Same Q H) : Same (ov F Q) H := fun a o e => by
  unfold ov at e
  cases q : F a with
  | some u =>
    rw [q] at e
    cases e
    exact h1 a _ q
  | none =>
    rw [q] at e
    exact h2 a o e
theorem lent_w {G : Gm} {s : Snap} {env : Ev} {S : Cells} {F H : Hp} {σ : L2.St} (r : R G s env S F σ H) : ∀ {l : List (D ⊕ Nat)} {vs : List V} {ds : List D}, RepM G.K F s.io σ l vs → lent env l = some ds → Reps G.K H s.io ds vs
  | [], _, _, h, e => by cases h; cases e; rfl
  | .inl d :: l, _, ds, ⟨v, us, h1, h2, h3⟩, e => by
    subst h1
    unfold lent at e
    cases q : lent env l with
    | none => rw [q] at e; cases e
    | some es =>
      rw [q] at e
      cases e
      exact ⟨v, us, rfl, Rep.mono r.h.fh d v h2, lent_w r h3 q⟩
  | .inr i :: l, _, ds, ⟨v, us, h1, h2, h3⟩, e => by
    subst h1
    unfold lent at e
    split at e
    · rename_i es qi
      cases q : lent env l with
      | none => rw [q] at e; cases e
      | some fs =>
        rw [q] at e
        cases e
        obtain ⟨a, g1, w⟩ := r.own i es qi
        rw [h2] at g1
        cases g1
        obtain ⟨xs, g2, g3⟩ := w.at_
        exact ⟨_, us, rfl, ⟨a, xs, rfl, g2, Reps.mono r.h.fh _ _ g3⟩, lent_w r h3 q⟩
    · cases e
theorem R.keep {G : Gm} {s : Snap} {env : Ev} {S : Cells} {F H H' : Hp} {σ : L2.St} (r : R G s env S F σ H) (fr : ∀ a o, H a = some o → H' a = some o) : R G s env S F σ H' := by
  refine ⟨⟨fun a e => ⟨fun z => ?_, (r.h.pp a e).2⟩, fun a o e => fr a o (r.h.fh a o e), r.h.f0, r.h.new, fun a o e hn => fr a o (r.h.frame a o e hn), r.h.len, r.h.nd, fun n a ds h1 h2 => ?_⟩, r.len, r.val, fun i ds q => ?_, r.dist, r.exn, fun i d q => ?_⟩
  · cases q : H a with
    | none => exact (r.h.pp a e).1 q
    | some o =>
      rw [fr a o q] at z
      cases z
  · obtain ⟨g1, xs, g2, g3⟩ := r.h.cell n a ds h1 h2
    exact ⟨g1, xs, fr a _ g2, g3⟩
  · obtain ⟨a, h1, h2, h3, h4, h5, xs, h6, h7⟩ := r.own i ds q
    exact ⟨a, h1, h2, h3, h4, h5, xs, fr a _ h6, h7⟩
  · obtain ⟨v, Q, h1, h2, h3, h4⟩ := r.loo i d q
    exact ⟨v, Q, h1, fun a o e => fr a o (h2 a o e), h3, h4⟩
theorem rep_flat {K : PySem.W.Frag} {F F' : Hp} {io io' : List Addr} {d : D} {v : V} (f : flatD d = true) (h : Rep K F io d v) : Rep K F' io' d v := by
  cases d <;> first | exact h | (simp [flatD] at f)
theorem de_lend {k : Nat} {mf : Mf} (F : FnOk X.prog X.w X.K X.mg X.base (L2.CX X.prog X.w) k f fd ps (spT ⟨X.K, cv⟩ mf)) (tk : Takes X W) (hr : Room k X.A) (hg : Gl X x) (hm : X.mg x = some (.ref f)) (hk : PySem.W.keepIn X.K (.ref f) = true) (hb : Binds X.K fd ps []) (ha : DL X cv W (e :: es) mk) (hdb : (x == ("__debug__" : Str)) = false := by decide)
    (he : starEach (e :: es) X.env = (false, eval e X.env) :: starEach es X.env := by rfl) (hpl : (backTo pos (starEach es X.env)).any (·.1) = false := by rfl) : DE X cv W (.Call (.Name x p) (e :: es) [] pos) (dLend mf mk) :=
  PE.weak (pe_callSD (E := WE W) F hr hg hm hk hb .nil (fun σ => passAt tk σ) ha hdb he hpl) fun σ H Q ⟨s, env, S, F0, r, o⟩ => ⟨s, env, S, F0, r, OutP.bind (rp := rpM _) o fun l S1 vs F1 H1 r1 sm rv o1 => by
    rw [List.append_nil]
    split at o1
    · rename_i ds e1
      refine ⟨ds, [], H1, s.io, 0, ⟨nP2, Same.refl _, Same.refl _, fun a e => .inl e, fun a o e _ => e, rfl, .nil, fun n a ds h => by cases h⟩, lent_w r1 rv e1, ?_⟩
      generalize mf ds [] = om at o1
      cases om with
      | ok rt S2 =>
        cases rt with
        | val d =>
          simp only at o1
          split at o1
          · rename_i hf
            exact fun v F2 H2 c rv2 => o1 v F1 H2 (r1.keep fun a o e => c.frame a o e (by simp [Snap.wr])) (Same.refl F1) (rep_flat hf rv2)
          · exact False.elim o1
        | own es => exact False.elim o1
        | new d => exact False.elim o1
      | ex x S2 => exact False.elim o1
      | no => exact False.elim o1
    · exact o1.elim⟩
end

/-! ### an expression with a flat answer, read off the heap as it stands: lists of one's own, and answers that nobody else holds, are data for the while -/
def thSl : Sl → Sl
  | .own ds => .val (.lst ds)
  | .loo d => .val d
  | s => s
def thaw (env : Ev) : Ev := env.map thSl
theorem thaw_get {env : Ev} {i : Nat} {sl : Sl} (h : (thaw env)[i]? = some sl) : ∃ s0, env[i]? = some s0 ∧ thSl s0 = sl := by
  unfold thaw at h
  rw [List.getElem?_map] at h
  cases q : env[i]? with
  | none => rw [q] at h; cases h
  | some s0 => rw [q] at h; exact ⟨s0, rfl, Option.some.inj h⟩
theorem R.thaw {G : Gm} {s : Snap} {env : Ev} {S : Cells} {F H : Hp} {σ : L2.St} (r : R G s env S F σ H) : R G ⟨s.io, 0, H, H, nP⟩ (TT.thaw env) [] H σ H := by
  refine ⟨⟨nP2, Same.refl _, Same.refl _, fun a e => .inl e, fun a o e _ => e, rfl, .nil, fun n a ds h => by cases h⟩, by simp [TT.thaw, r.len], fun i d q => ?_, fun i ds q => ?_, fun i j a ds es hne q1 => ?_, fun i x q => ?_, fun i d q => ?_⟩
  · obtain ⟨s0, q0, e⟩ := thaw_get q
    cases s0 with
    | no => cases e
    | exn x => cases e
    | val d' =>
      cases e
      obtain ⟨v, h1, h2⟩ := r.val i d q0
      exact ⟨v, h1, Rep.mono r.h.fh d v h2⟩
    | own ds =>
      cases e
      obtain ⟨a, h1, w⟩ := r.own i ds q0
      obtain ⟨xs, g1, g2⟩ := w.at_
      exact ⟨.ref a, h1, a, xs, rfl, g1, Reps.mono r.h.fh _ _ g2⟩
    | loo d' =>
      cases e
      obtain ⟨v, Q, h1, h2, h3, h4⟩ := r.loo i d q0
      exact ⟨v, h1, Rep.mono (ov_sub r.h.fh h2) d v (RepN.rep d v h4)⟩
  · obtain ⟨s0, q0, e⟩ := thaw_get q
    cases s0 <;> cases e
  · obtain ⟨s0, q0, e⟩ := thaw_get q1
    cases s0 <;> cases e
  · obtain ⟨s0, q0, e⟩ := thaw_get q
    cases s0 with
    | exn x' =>
      cases e
      obtain ⟨a, d, h1, h2, h3⟩ := r.exn i x q0
      exact ⟨a, d, h1, h2, h3.mono r.h.fh⟩
    | _ => cases e
  · obtain ⟨s0, q0, e⟩ := thaw_get q
    cases s0 <;> cases e
def dTmp (m : Me) : Me := fun env S => match m (TT.thaw env) [] with
  | .ok d _ => if flatD d = true then .ok d S else .no
  | _ => .no
def tTmp (m : Mt) : Mt := fun env S => match m (TT.thaw env) [] with
  | .ok b _ => .ok b S
  | _ => .no
section
variable {X : Cx} {cv : Cv} {W : WX} {e : Expr} {m : Me} {mt : Mt}
theorem de_tmp (h : DE X cv W e m) : DE X cv W e (dTmp m) := PE.weak h fun σ H Q ⟨s, env, S, F, r, o⟩ => by
  refine ⟨_, _, _, _, r.thaw, ?_⟩
  unfold dTmp at o
  generalize m (TT.thaw env) [] = om at o
  cases om with
  | ok d S1 =>
    simp only at o
    split at o
    · rename_i hf
      exact fun v F' H' r' sm rv => o v F H' (r.keep fun a u e => r'.h.frame a u e (by simp [Snap.wr])) (Same.refl F) (rep_flat hf rv)
    · exact o.elim
  | ex x S1 => exact o.elim
  | no => exact o.elim
theorem dt_tmp (h : DT X cv W e mt) : DT X cv W e (tTmp mt) := PT.weak h fun σ H Q ⟨s, env, S, F, r, o⟩ => by
  refine ⟨_, _, _, _, r.thaw, ?_⟩
  unfold tTmp at o
  generalize mt (TT.thaw env) [] = om at o
  cases om with
  | ok b S1 => exact fun b' F' H' r' sm rv => o b' F H' (r.keep fun a u e => r'.h.frame a u e (by simp [Snap.wr])) (Same.refl F) rv
  | ex x S1 => exact o.elim
  | no => exact o.elim
end

/-! ### the law's end -/
theorem law_sp {K : PySem.W.Frag} {cv : Cv} {m : Mf} {n : Nat} (h : ∀ ns : List Int, ns.length ≤ n → ∃ S, m [.frl (ns.map .int)] [] = .ok (.val (.bl true)) S) (H : Hp) (a : Addr) (ns : List Int) (hn : ns.length ≤ n) (hS : SqL K H a (ns.map V.int)) :
    spT ⟨K, cv⟩ m [.ref a] H (fun v _ => v = .bl true) fun _ _ _ => False := by
  have ri : ∀ ms : List Int, Reps K H [] (ms.map .int) (ms.map V.int) := fun ms => by
    induction ms with
    | nil => rfl
    | cons i r ih => exact ⟨_, _, rfl, rfl, ih⟩
  refine ⟨[.frl (ns.map .int)], [], H, [], 0, ⟨nP2, Same.refl H, Same.refl H, fun a e => .inl e, fun a o e _ => e, rfl, .nil, fun n a ds h => by cases h⟩, ⟨_, _, rfl, ⟨a, _, rfl, hS, ri ns⟩, rfl⟩, ?_⟩
  obtain ⟨S, e⟩ := h ns hn
  rw [e]
  exact fun v F H' _ hv => hv
theorem cx_end {P : Program} {w : World} (H : Hp) (s : Shared) (e : Value) (s' : Shared) (h : L2.CX P w [] H s (fun _ _ _ => False) e s') : False := by
  obtain ⟨_, _, _, _, _, _, _, _, _, _, _, _, z⟩ := h
  exact z
end TT
namespace TT
open PySem PySem.Spec PyProof.Rows L2

theorem fn_no {P : Program} {w : World} {K : PySem.W.Frag} {mg : Str → Option Value} {base : Heap} {cv : Cv} {f : Addr} {fd : FuncData} {ps : List Str} {k : Nat} : FnOk P w K mg base (L2.CX P w) k f fd ps (spT ⟨K, cv⟩ fun _ _ => .no) :=
  ⟨fun vs H Q E ⟨_, _, _, _, _, _, _, o⟩ => o.elim, fun _ _ _ _ _ _ _ _ _ _ _ _ _ ⟨_, _, _, _, _, _, _, o⟩ => o.elim⟩
theorem kwb {K : PySem.W.Frag} {x qual : Str} {st : Stmt} {f : Addr} {fd : FuncData} {ps ks : List Str} {n : Nat} {ix : List Nat} (F : Fun K x qual st f fd)
    (h : ∀ (kV doc pm : Value) (an : Option Addr) (cdv ct : Value) (us ws : List Value), us.length = n → ws.length = ks.length → bindArgs (PySem.W.fnOf x qual (defArgs st) (defBody st) (defScope st) .none kV doc pm an cdv ct) ⟨us, ks.zip ws⟩ = pure (ps.zip (sel ix (us ++ ws)))) : KwB K fd ps n ks ix := by
  obtain ⟨oc, od, kV, doc, pm, an, cdv, ct, osl, rfl, lk, hcd⟩ := F.ex
  exact fun s us ws _ h1 h2 => .of_eq (h kV doc pm an cdv ct us ws h1 h2)

/-! ### a constant of the module -/
theorem de_glob {X : Cx} {cv : Cv} {W : WX} {x : Str} {pos : Pos} {v : V} {d : D} (hg : Gl X x) (hm : ∃ u, X.mg x = some u ∧ RelV v u) (hr : ∀ K F io, Rep K F io d v) (hd : (x == ("__debug__" : Str)) = false := by decide) : DE X cv W (.Name x pos) (dC d) := by
  obtain ⟨u, h1, h2⟩ := hm
  exact de_c (pe_glob hg h1 h2 hd) rfl hr

/-! ### a op b op c -/
def dChain (f g : D → D → Cells → Out D) (a b c : Me) : Me := fun env S => (a env S).bind fun x S1 => (b env S1).bind fun y S2 => (f x y S2).bind fun z S3 => (asB z S3).bind fun k S4 => if k = true then (c env S4).bind fun w S5 => g y w S5 else .ok (.bl false) S4
section
variable {X : Cx} {cv : Cv} {W : WX} {a b c : Expr} {ma mb mc : Me} {pos : Pos} {op op' : CmpOp} {r r' : R2} {f g : D → D → Cells → Out D}
theorem chain_w (hf : Op2 cv X (rpE ⟨X.K, cv⟩) r f) (hg : Op2 cv X (rpE ⟨X.K, cv⟩) r' g) (σ : L2.St) (H : Hp) (Q : VK) (h : tE ⟨X.K, cv⟩ W (dChain f g ma mb mc) σ H Q) :
    tChain r r' (tE ⟨X.K, cv⟩ W ma) (tE ⟨X.K, cv⟩ W mb) (tE ⟨X.K, cv⟩ W mc) σ H Q := by
  obtain ⟨s, env, S, F, r0, o⟩ := h
  refine ⟨s, env, S, F, r0, OutP.bind (rp := rpE _) o fun d1 S1 x F1 H1 r1 sm1 rx o1 => ⟨s, env, S1, F1, r1, OutP.bind (rp := rpE _) o1 fun d2 S2 y F2 H2 r2 sm2 ry o2 => ?_⟩⟩
  refine hf W s env S2 F2 σ H2 d1 d2 x y _ r2 (Rep.mono sm2 d1 x rx) ry (OutP.bind (rp := rpE _) o2 fun d3 S3 z F3 H3 r3 sm3 rz o3 => ?_)
  refine asB_w rz o3 fun k o4 => ?_
  cases k with
  | true =>
    rw [if_pos rfl] at o4 ⊢
    exact ⟨s, env, S3, F3, r3, OutP.bind (rp := rpE _) o4 fun d4 S4 w F4 H4 r4 sm4 rw o5 => hg W s env S4 F4 σ H4 d2 d4 y w Q r4 (Rep.mono (sm3.trans sm4) d2 y ry) rw o5⟩
  | false =>
    rw [if_neg Bool.false_ne_true] at o4 ⊢
    exact o4 _ F3 H3 r3 (Same.refl F3) rfl
theorem de_chain (ho : OpR X (compareOp op) r) (ho' : OpR X (compareOp op') r') (hf : Op2 cv X (rpE ⟨X.K, cv⟩) r f) (hg : Op2 cv X (rpE ⟨X.K, cv⟩) r' g) (ha : DE X cv W a ma) (hb : DE X cv W b mb) (hc : DE X cv W c mc) (hm : lastMarks [op, op'] [b, c] = false := by with_unfolding_all rfl) :
    DE X cv W (.Compare a [op, op'] [b, c] pos) (dChain f g ma mb mc) := PE.weak (pe_chain ho ho' ha hb hc hm) (chain_w hf hg)
theorem tT_tE {G : Gm} {m : Me} {te : TE} (h : ∀ σ H (Q : VK), tE G W m σ H Q → te σ H Q) (σ : L2.St) (H : Hp) (Q : Bool → Hp → Prop) (q : tT G W (tB m) σ H Q) : tTest te σ H Q := by
  obtain ⟨s, env, S, F, r, o⟩ := q
  refine h σ H _ ⟨s, env, S, F, r, OutP.bind (rp := rpE _) o fun d S1 v F1 H1 r1 sm rv o1 => ?_⟩
  cases d with
  | bl k =>
    cases rv
    exact ⟨k, rfl, o1 k F1 H1 r1 (Same.refl F1) rfl⟩
  | _ => exact False.elim o1
theorem dt_chain (ho : OpR X (compareOp op) r) (ho' : OpR X (compareOp op') r') (hf : Op2 cv X (rpE ⟨X.K, cv⟩) r f) (hg : Op2 cv X (rpE ⟨X.K, cv⟩) r' g) (ha : DE X cv W a ma) (hb : DE X cv W b mb) (hc : DE X cv W c mc) (hm : lastMarks [op, op'] [b, c] = false := by with_unfolding_all rfl) :
    DT X cv W (.Compare a [op, op'] [b, c] pos) (tB (dChain f g ma mb mc)) := PT.weak (pt_chain ho ho' ha hb hc hm) (tT_tE (chain_w hf hg))
end

/-! ### a list becomes a given one (the law's store) -/
mutual
def noC : D → Bool
  | .lst ds => noCs ds
  | .frl ds => noCs ds
  | .tup ds => noCs ds
  | .cell _ => false
  | .non => true
  | .bl _ => true
  | .int _ => true
  | .str _ => true
  | .ty _ => true
def noCs : List D → Bool
  | [] => true
  | d :: ds => noC d && noCs ds
end
mutual
theorem Rep.io {K : PySem.W.Frag} {F : Hp} {io io' : List Addr} : ∀ (d : D) (v : V), noC d = true → Rep K F io d v → Rep K F io' d v
  | .non, _, _, h => h
  | .bl _, _, _, h => h
  | .int _, _, _, h => h
  | .str _, _, _, h => h
  | .ty _, _, _, h => h
  | .lst ds, _, n, ⟨a, xs, h1, h2, h3⟩ => ⟨a, xs, h1, h2, Reps.io ds xs (by simpa only [noC] using n) h3⟩
  | .frl ds, _, n, ⟨a, xs, h1, h2, h3⟩ => ⟨a, xs, h1, h2, Reps.io ds xs (by simpa only [noC] using n) h3⟩
  | .tup ds, _, n, ⟨a, xs, h1, h2, h3⟩ => ⟨a, xs, h1, h2, Reps.io ds xs (by simpa only [noC] using n) h3⟩
  | .cell _, _, n, _ => by simp only [noC] at n; cases n
theorem Reps.io {K : PySem.W.Frag} {F : Hp} {io io' : List Addr} : ∀ (ds : List D) (vs : List V), noCs ds = true → Reps K F io ds vs → Reps K F io' ds vs
  | [], _, _, h => h
  | d :: ds, _, n, ⟨x, r, h1, h2, h3⟩ => by
    simp only [noCs, Bool.and_eq_true] at n
    exact ⟨x, r, h1, Rep.io d x n.1 h2, Reps.io ds r n.2 h3⟩
end
def clf : Sl → Bool
  | .no => true
  | .val d => noC d
  | .own ds => noCs ds
  | .exn _ => false
  | .loo _ => false
/-- x = e, the new list a given one from here on; the rest of the block ends with a flat answer -/
def sProm (i : Nat) (mo : Ma) (mr : Ms) : Ms := fun env S => (mo env S).go env fun ds S1 => match S1 with
  | [] => if env.all clf = true ∧ noCs ds = true then (match mr (env.set i (.val (.cell 0))) [ds] with
    | .ret (.val d) _ => if flatD d = true then .ret (.val d) [] else .no
    | _ => .no) else .no
  | _ :: _ => .no
section
variable {X : Cx} {cv : Cv} {W : WX} {e : Expr} {mo : Ma} {rest : List Stmt} {mr : Ms} {pos pos' : Pos}
theorem db_prom (i : Nat) {x : Str} (hN : X.N.Nodup) (he : DO X cv W e mo) (hr : DB X cv W rest mr) (hi : X.N[i]? = some x := by rfl) (hx : Loc X.env.scope x := by first | exact Or.inl rfl | exact Or.inr rfl) (hs : swapsWith e (some (.Name x pos')) pos.line X.env = pure false := by rfl)
    (hf : X.fn x = true ∨ X.env.scope.names.lookup x = some .local := by first | exact .inl rfl | exact .inr rfl | assumption) : DB X cv W (.Assign [.Name x pos'] e pos :: rest) (sProm i mo mr) :=
  PSs.weak (pss_cons (ps_set hN hi hx he hs hf) hr) fun E σ H ⟨s, env, S, F, r, o⟩ => ⟨s, env, S, F, r, OutS.go (rp := rpO _) o fun ds S1 v F1 H1 r1 sm rv o1 => by
    obtain ⟨a, rfl, w, off⟩ := rv
    cases S1 with
    | cons _ _ => exact o1.elim
    | nil =>
      simp only at o1
      split at o1
      · rename_i hc
        have hw : s.wr = [] := List.length_eq_zero_iff.mp r1.h.len
        obtain ⟨xs, hx1, hx2⟩ := w.at_
        have cl : ∀ (j : Nat) (sl : Sl), env[j]? = some sl → clf sl = true := fun j sl q => List.all_eq_true.mp hc.1 sl (List.mem_of_getElem? q)
        -- the same state, with the list at a given
        have r2 : R ⟨X.K, cv⟩ ⟨[a], 1, s.H0, s.F0, s.P⟩ env [ds] F1 σ H1 := by
          have hpa : ∀ b, s.P b → b ∉ [a] := fun b e z => w.np (by rw [← List.mem_singleton.mp z]; exact e)
          refine ⟨⟨fun b e => ⟨(r1.h.pp b e).1, (r1.h.pp b e).2.1, (r1.h.pp b e).2.2.1, by simpa [Snap.wr] using hpa b e⟩, r1.h.fh, r1.h.f0, r1.h.new, fun b u q _ => r1.h.frame b u q (by rw [hw]; simp), rfl, by simp [Snap.wr], fun n b es h1 h2 => ?_⟩, r1.len, fun j d q => ?_, fun j es q => ?_, r1.dist, fun j x q => ?_, fun j d q => ?_⟩
          · cases n with
            | zero =>
              cases h1
              cases h2
              exact ⟨w.fr, xs, hx1, Reps.io ds xs hc.2 hx2⟩
            | succ n => simp at h2
          · obtain ⟨v, g1, g2⟩ := r1.val j d q
            exact ⟨v, g1, Rep.io d v (cl j _ q) g2⟩
          · obtain ⟨b, g1, g2, g3, g4, g5, ys, g6, g7⟩ := r1.own j es q
            refine ⟨b, g1, g2, g3, fun hm => ?_, g5, ys, g6, Reps.io es ys (cl j _ q) g7⟩
            have : b = a := by simpa [Snap.wr] using hm
            exact off j es q (by rw [← this]; exact g1)
          · exact absurd (cl j _ q) Bool.false_ne_true
          · exact absurd (cl j _ q) Bool.false_ne_true
        have r3 := r2.setVal (i := i) (d := .cell 0) (v := .ref a) ⟨a, rfl, rfl⟩
        refine ⟨⟨[a], 1, s.H0, s.F0, s.P⟩, env.set i (.val (.cell 0)), [ds], F1, r3, ?_⟩
        generalize mr (env.set i (.val (.cell 0))) [ds] = om at o1
        cases om with
        | ret rt S2 =>
          cases rt with
          | val d =>
            simp only at o1
            split at o1
            · rename_i hd
              intro v F2 H2 c rv
              refine o1 v F2 H2 ⟨fun b e => ⟨(c.pp b e).1, (c.pp b e).2.1, (c.pp b e).2.2.1, by rw [hw]; simp⟩, c.fh, c.f0, c.new, fun b u q hb => ?_, r1.h.len, r1.h.nd, fun n b es h1 h2 => by simp at h2⟩ (rep_flat hd rv)
              refine c.frame b u q fun hm => ?_
              have : b = a := by simpa [Snap.wr] using hm
              rw [this] at q
              have q' : s.H0 a = some u := q
              rw [w.h0] at q'
              cases q'
            · exact o1.elim
          | own es => exact o1.elim
          | new d => exact o1.elim
        | nx _ _ => exact o1.elim
        | bk _ _ => exact o1.elim
        | ct _ _ => exact o1.elim
        | ex _ _ _ => exact o1.elim
        | no => exact o1.elim
      · exact o1.elim⟩
end
end TT
namespace TT
open PySem PySem.Spec PyProof.Rows L2

/-! ### what a meaning reaches -/
@[irreducible] def RE {α : Type} (o : Out α) (P : α → Cells → Prop) (X : Ex → Cells → Prop) : Prop := match o with
  | .ok a S => P a S
  | .ex x S => X x S
  | .no => False
structure Kt where
  nx : Ev → Cells → Prop
  bk : Ev → Cells → Prop
  ct : Ev → Cells → Prop
  rt : Ret → Cells → Prop
  ex : Ex → Ev → Cells → Prop
@[irreducible] def RS (o : SOut) (κ : Kt) : Prop := match o with
  | .nx e S => κ.nx e S
  | .bk e S => κ.bk e S
  | .ct e S => κ.ct e S
  | .ret r S => κ.rt r S
  | .ex x e S => κ.ex x e S
  | .no => False
abbrev nf {α β : Type} : α → β → Prop := fun _ _ => False
section
variable {α β : Type} {P P' : α → Cells → Prop} {X X' : Ex → Cells → Prop} {o : Out α} {κ κ' : Kt} {env : Ev} {S : Cells}
theorem RE.mono (h : RE o P X) (h1 : ∀ a S, P a S → P' a S) (h2 : ∀ x S, X x S → X' x S) : RE o P' X' := by
  cases o with
  | ok a S => with_unfolding_all exact h1 a S h
  | ex x S => with_unfolding_all exact h2 x S h
  | no => with_unfolding_all exact h
theorem RE.imp (h : RE o P nf) (h1 : ∀ a S, P a S → P' a S) : RE o P' X' := h.mono h1 fun _ _ z => z.elim
theorem RS.mono {so : SOut} (h : RS so κ) (h1 : ∀ e S, κ.nx e S → κ'.nx e S) (h2 : ∀ e S, κ.bk e S → κ'.bk e S) (h3 : ∀ e S, κ.ct e S → κ'.ct e S) (h4 : ∀ r S, κ.rt r S → κ'.rt r S) (h5 : ∀ x e S, κ.ex x e S → κ'.ex x e S) : RS so κ' := by
  cases so with
  | nx e S => with_unfolding_all exact h1 e S h
  | bk e S => with_unfolding_all exact h2 e S h
  | ct e S => with_unfolding_all exact h3 e S h
  | ret r S => with_unfolding_all exact h4 r S h
  | ex x e S => with_unfolding_all exact h5 x e S h
  | no => with_unfolding_all exact h
@[simp] theorem re_ok {a : α} : RE (.ok a S) P X = P a S := by with_unfolding_all rfl
@[simp] theorem re_ex {x : Ex} : RE (.ex x S : Out α) P X = X x S := by with_unfolding_all rfl
@[simp] theorem re_no : RE (.no : Out α) P X = False := by with_unfolding_all rfl
@[simp] theorem re_bind {k : α → Cells → Out β} {P : β → Cells → Prop} : RE (o.bind k) P X = RE o (fun a S => RE (k a S) P X) X := by
  cases o <;> with_unfolding_all rfl
@[simp] theorem re_ite {c : Prop} [Decidable c] {o' : Out α} : RE (if c then o else o') P X = if c then RE o P X else RE o' P X := by
  split <;> with_unfolding_all rfl
@[simp] theorem rs_nx : RS (.nx env S) κ = κ.nx env S := by with_unfolding_all rfl
@[simp] theorem rs_bk : RS (.bk env S) κ = κ.bk env S := by with_unfolding_all rfl
@[simp] theorem rs_ct : RS (.ct env S) κ = κ.ct env S := by with_unfolding_all rfl
@[simp] theorem rs_ret {r : Ret} : RS (.ret r S) κ = κ.rt r S := by with_unfolding_all rfl
@[simp] theorem rs_ex {x : Ex} : RS (.ex x env S) κ = κ.ex x env S := by with_unfolding_all rfl
@[simp] theorem rs_no : RS .no κ = False := by with_unfolding_all rfl
@[simp] theorem rs_go {k : α → Cells → SOut} : RS (o.go env k) κ = RE o (fun a S => RS (k a S) κ) (fun x S => κ.ex x env S) := by
  cases o <;> with_unfolding_all rfl
@[simp] theorem rs_ite {c : Prop} [Decidable c] {a b : SOut} : RS (if c then a else b) κ = if c then RS a κ else RS b κ := by
  split <;> with_unfolding_all rfl
@[simp] theorem rs_seq {a b : Ms} : RS (sSeq a b env S) κ = RS (a env S) { κ with nx := fun e S => RS (b e S) κ } := by
  unfold sSeq SOut.seq
  cases a env S <;> with_unfolding_all rfl
@[simp] theorem rs_nil : RS (sNil env S) κ = κ.nx env S := by with_unfolding_all rfl
@[simp] theorem rs_brk : RS (sBrk env S) κ = κ.bk env S := by with_unfolding_all rfl
@[simp] theorem rs_cnt : RS (sCnt env S) κ = κ.ct env S := by with_unfolding_all rfl
@[simp] theorem rs_exp {m : Me} : RS (sExp m env S) κ = RE (m env S) (fun _ S => κ.nx env S) (fun x S => κ.ex x env S) := by
  unfold sExp; rw [rs_go]; with_unfolding_all rfl
@[simp] theorem rs_rt {m : Me} : RS (sRet m env S) κ = RE (m env S) (fun d S => κ.rt (.val d) S) (fun x S => κ.ex x env S) := by
  unfold sRet; rw [rs_go]; with_unfolding_all rfl
@[simp] theorem rs_rtO {m : Ma} : RS (sRetO m env S) κ = RE (m env S) (fun d S => κ.rt (.own d) S) (fun x S => κ.ex x env S) := by
  unfold sRetO; rw [rs_go]; with_unfolding_all rfl
@[simp] theorem rs_rtN : RS (sRetN env S) κ = κ.rt (.val .non) S := by with_unfolding_all rfl
@[simp] theorem rs_rtV {i : Nat} : RS (sRetV i env S) κ = (match env[i]? with
  | some (.own ds) => κ.rt (.own ds) S
  | some (.val d) => κ.rt (.val d) S
  | _ => False) := by
  unfold sRetV
  cases env[i]? with
  | none => with_unfolding_all rfl
  | some sl => cases sl <;> with_unfolding_all rfl
@[simp] theorem rs_if {c : Mt} {a b : Ms} : RS (sIf c a b env S) κ = RE (c env S) (fun k S => if k = true then RS (a env S) κ else RS (b env S) κ) (fun x S => κ.ex x env S) := by
  unfold sIf; rw [rs_go]
  congr 1
  funext k S
  rw [rs_ite]
@[simp] theorem rs_set {i : Nat} {m : Me} : RS (sSet i m env S) κ = RE (m env S) (fun d S => κ.nx (env.set i (.val d)) S) (fun x S => κ.ex x env S) := by
  unfold sSet; rw [rs_go]; with_unfolding_all rfl
@[simp] theorem rs_setO {i : Nat} {m : Ma} : RS (sSetO i m env S) κ = RE (m env S) (fun d S => κ.nx (env.set i (.own d)) S) (fun x S => κ.ex x env S) := by
  unfold sSetO; rw [rs_go]; with_unfolding_all rfl
@[simp] theorem rs_frz {i : Nat} {m : Ms} : RS (sFrz i m env S) κ = (match env[i]? with
  | some (.own ds) => RS (m (env.set i (.val (.lst ds))) S) κ
  | _ => RS (m env S) κ) := by
  unfold sFrz
  cases env[i]? with
  | none => with_unfolding_all rfl
  | some sl => cases sl <;> with_unfolding_all rfl
@[simp] theorem rs_app {i : Nat} {m : Me} : RS (sApp i m env S) κ = (match env[i]? with
  | some (.own ds) => RE (m env S) (fun d S1 => ds.length < 16777216 ∧ κ.nx (env.set i (.own (ds ++ [d]))) S1) (fun x S => κ.ex x env S)
  | _ => False) := by
  unfold sApp
  cases env[i]? with
  | none => with_unfolding_all rfl
  | some sl =>
    cases sl with
    | own ds =>
      simp only [rs_go]
      congr 1
      funext d S1
      split
      · rename_i h
        simp [h]
      · rename_i h
        simp [h]
    | _ => with_unfolding_all rfl
@[simp] theorem rs_putO {i : Nat} {mj me : Me} : RS (sPutO i mj me env S) κ = RE (me env S) (fun d S1 => match env[i]? with
  | some (.own ds) => RE (mj env S1) (fun j S2 => match j with
    | .int k => (match ixN ds.length k with
      | some n => κ.nx (env.set i (.own (ds.set n d))) S2
      | none => False)
    | _ => False) (fun x S => κ.ex x env S)
  | _ => False) (fun x S => κ.ex x env S) := by
  unfold sPutO
  rw [rs_go]
  congr 1
  funext d S1
  cases env[i]? with
  | none => with_unfolding_all rfl
  | some sl =>
    cases sl with
    | own ds =>
      simp only [rs_go]
      congr 1
      funext j S2
      cases j with
      | int k =>
        simp only
        cases ixN ds.length k <;> with_unfolding_all rfl
      | _ => with_unfolding_all rfl
    | _ => with_unfolding_all rfl
@[simp] theorem rs_putC {mo mj me : Me} : RS (sPutC mo mj me env S) κ = RE (me env S) (fun d S1 => RE (mo env S1) (fun o S2 => RE (mj env S2) (fun j S3 => match o, j with
  | .cell c, .int k => (match S3[c]? with
    | some ds => (match ixN ds.length k with
      | some n => κ.nx env (S3.set c (ds.set n d))
      | none => False)
    | none => False)
  | _, _ => False) (fun x S => κ.ex x env S)) (fun x S => κ.ex x env S)) (fun x S => κ.ex x env S) := by
  unfold sPutC
  simp only [rs_go]
  congr 1
  funext d S1
  congr 1
  funext o S2
  congr 1
  funext j S3
  cases o with
  | cell c =>
    cases j with
    | int k =>
      simp only
      cases S3[c]? with
      | none => with_unfolding_all rfl
      | some ds =>
        simp only
        cases ixN ds.length k <;> with_unfolding_all rfl
    | _ => with_unfolding_all rfl
  | _ => with_unfolding_all rfl
@[simp] theorem re_fn {n N : Nat} {body : Ms} {ds : List D} {P : Ret → Cells → Prop} : RE (fnM n N body ds S) P X = (ds.length = n ∧ RS (body (ds.map .val ++ List.replicate (N - n) .no) S) ⟨fun _ S => P (.val .non) S, nf, nf, P, fun x _ S => X x S⟩) := by
  unfold fnM
  split
  · rename_i h
    cases body (ds.map .val ++ List.replicate (N - n) .no) S <;> simp [h]
  · rename_i h
    simp [h]
end

/-! ### the meanings, one step each -/
section
variable {α β : Type} {env : Ev} {S : Cells}
@[simp] theorem x_var {i : Nat} : dVar i env S = (match env[i]? with | some (.val d) => .ok d S | _ => .no) := rfl
@[simp] theorem x_c {d : D} : dC d env S = .ok d S := rfl
@[simp] theorem x_un {f : D → Cells → Out α} {m : Me} : dUn f m env S = (m env S).bind f := rfl
@[simp] theorem x_bin {f : D → D → Cells → Out α} {m1 m2 : Me} : dBin f m1 m2 env S = (m1 env S).bind fun a S1 => (m2 env S1).bind fun b S2 => f a b S2 := rfl
@[simp] theorem x_nil : aNil env S = .ok [] S := rfl
@[simp] theorem x_cons {m : Me} {ma : Ma} : aCons m ma env S = (m env S).bind fun d S1 => (ma env S1).bind fun ds S2 => .ok (d :: ds) S2 := rfl
@[simp] theorem x_args {f : List D → Cells → Out α} {ma : Ma} : dArgs f ma env S = (ma env S).bind f := rfl
@[simp] theorem x_asB {b : Bool} : asB (.bl b) S = .ok b S := rfl
@[simp] theorem x_tB {m : Me} : tB m env S = (m env S).bind asB := rfl
@[simp] theorem x_mAnd {a b : Mt} : mAnd a b env S = (a env S).bind fun c S1 => if c = true then b env S1 else .ok false S1 := rfl
@[simp] theorem x_mOr {a b : Mt} : mOr a b env S = (a env S).bind fun c S1 => if c = true then .ok true S1 else b env S1 := rfl
@[simp] theorem x_mNot {a : Mt} : mNot a env S = (a env S).bind fun c S1 => .ok (!c) S1 := rfl
@[simp] theorem x_dIf {c : Mt} {a b : Me} : dIf c a b env S = (c env S).bind fun k S1 => if k = true then a env S1 else b env S1 := rfl
@[simp] theorem x_dAnd {a b : Me} : dAnd a b env S = (a env S).bind fun d S1 => (asB d S1).bind fun c S1 => if c = true then b env S1 else .ok (.bl false) S1 := rfl
@[simp] theorem x_dOr {a b : Me} : dOr a b env S = (a env S).bind fun d S1 => (asB d S1).bind fun c S1 => if c = true then .ok (.bl true) S1 else b env S1 := rfl
@[simp] theorem x_dNot {a : Me} : dNot a env S = (a env S).bind fun d S1 => (asB d S1).bind fun c S1 => .ok (.bl (!c)) S1 := rfl
@[simp] theorem x_pNone : pNone env S = .ok none S := rfl
@[simp] theorem x_pSome {m : Me} : pSome m env S = (m env S).bind fun d S1 => match d with | .int i => .ok (some i) S1 | _ => .no := rfl
@[simp] theorem x_tup {ma : Ma} : dTup ma env S = (ma env S).bind fun ds S1 => if ds.length ≤ 16777216 then .ok (.tup ds) S1 else .no := rfl
@[simp] theorem x_lst {ma : Ma} : oLst ma env S = (ma env S).bind fun ds S1 => if ds.length ≤ 16777216 then .ok ds S1 else .no := rfl
@[simp] theorem x_fz {mo : Ma} : dFz mo env S = (mo env S).bind fun ds S1 => .ok (.lst ds) S1 := rfl
@[simp] theorem x_sl {f : D → Option Int → Option Int → Cells → Out α} {m : Me} {lo hi : Ev → Cells → Out (Option Int)} : dSl f m lo hi env S = (m env S).bind fun a S1 => (lo env S1).bind fun l S2 => (hi env S2).bind fun h S3 => f a l h S3 := rfl
@[simp] theorem x_def {ma : Ma} {dds : List D} : aDef ma dds env S = (ma env S).bind fun ds S1 => .ok (ds ++ dds) S1 := rfl
@[simp] theorem x_kw {n m : Nat} {ix : List Nat} {ma mk : Ma} : aKw n m ix ma mk env S = (ma env S).bind fun ds S1 => (mk env S1).bind fun es S2 => if ds.length = n ∧ es.length = m then .ok (sel ix (ds ++ es)) S2 else .no := rfl
@[simp] theorem x_call {mf : Mf} {ma : Ma} : dCall mf ma env S = (ma env S).bind fun ds S1 => (mf ds S1).bind fun r S2 => .ok r.fz S2 := rfl
@[simp] theorem x_oCall {mf : Mf} {ma : Ma} : oCall mf ma env S = (ma env S).bind fun ds S1 => (mf ds S1).bind fun r S2 => match r with | .own es => .ok es S2 | _ => .no := rfl
/-- a call that uses no given list: its answer, the given lists as they are -/
def pureOf {α : Type} (o : Out α) (S : Cells) : Out α := match o with
  | .ok a _ => .ok a S
  | .ex x _ => .ex x S
  | .no => .no
@[simp] theorem x_callP {mf : Mf} {ma : Ma} : dCallP mf ma env S = (ma env S).bind fun ds S1 => (pureOf (mf ds []) S1).bind fun r S2 => .ok r.fz S2 := by
  unfold dCallP
  congr 1
  funext ds S1
  cases mf ds [] <;> with_unfolding_all rfl
@[simp] theorem x_oCallP {mf : Mf} {ma : Ma} : oCallP mf ma env S = (ma env S).bind fun ds S1 => (pureOf (mf ds []) S1).bind fun r S2 => match r with | .own es => .ok es S2 | _ => .no := by
  unfold oCallP
  congr 1
  funext ds S1
  cases mf ds [] with
  | ok r S => cases r <;> with_unfolding_all rfl
  | _ => with_unfolding_all rfl
@[simp] theorem pureOf_ok {a : α} {S' : Cells} : pureOf (.ok a S') S = .ok a S := rfl
@[simp] theorem pureOf_ex {x : Ex} {S' : Cells} : pureOf (.ex x S' : Out α) S = .ex x S := rfl
theorem re_pure {o : Out α} {P : α → Cells → Prop} {X : Ex → Cells → Prop} (h : RE o (fun a _ => P a S) (fun x _ => X x S)) : RE (pureOf o S) P X := by
  cases o <;> with_unfolding_all exact h
@[simp] theorem fz_val {d : D} : (Ret.val d).fz = d := rfl
@[simp] theorem fz_own {ds : List D} : (Ret.own ds).fz = .lst ds := rfl
@[simp] theorem x_ixO {i : Nat} {m : Me} : dIxO i m env S = (match env[i]? with
  | some (.own ds) => (m env S).bind fun b S1 => match b with
    | .int j => (match L2.atI ds j with | some d => .ok d S1 | none => .no)
    | _ => .no
  | _ => .no) := rfl
@[simp] theorem x_lenO {i : Nat} : dLenO i env S = (match env[i]? with
  | some (.own ds) => .ok (.int (ds.length : Int)) S
  | _ => .no) := rfl
@[simp] theorem x_meS {f : List Char → List D → Cells → Out D} {m : Me} {ma : Ma} : dMeS f m ma env S = (m env S).bind fun d S1 => match d with
  | .str x => (ma env S1).bind fun ds S2 => f x ds S2
  | _ => .no := rfl
@[simp] theorem x_lNil : lNil env S = .ok [] S := rfl
@[simp] theorem x_lVal {m : Me} {mk : Mk} : lVal m mk env S = (m env S).bind fun d S1 => (mk env S1).bind fun l S2 => .ok (.inl d :: l) S2 := rfl
@[simp] theorem x_lOwn {i : Nat} {mk : Mk} : lOwn i mk env S = (match env[i]? with
  | some (.own _) => (mk env S).bind fun l S1 => .ok (.inr i :: l) S1
  | _ => .no) := rfl
@[simp] theorem x_lend {mf : Mf} {mk : Mk} : dLend mf mk env S = (mk env S).bind fun l S1 => match lent env l with
  | some ds => (match mf ds [] with
    | .ok (.val d) _ => if flatD d = true then .ok d S1 else .no
    | _ => .no)
  | none => .no := rfl
@[simp] theorem x_comp {vs : List Nat} {mi : Ma} {mg : Mg} {mt : Mt} {me : Me} : oComp vs mi mg mt me env S = (mi env S).bind fun ds S1 => compL vs mg mt me env ds [] S1 := rfl
@[simp] theorem x_gtN {i : Nat} {d : D} : gtN i d env = some (env.set i (.val d)) := rfl
@[simp] theorem x_mYes : mYes env S = .ok true S := rfl
-- operations on what is known
@[simp] theorem v_add_i {i j : Int} : opAdd (.int i) (.int j) S = .ok (.int (i + j)) S := rfl
@[simp] theorem v_add_s {x y : List Char} : opAdd (.str x) (.str y) S = if x.length + y.length ≤ 16777216 then .ok (.str (x ++ y)) S else .no := rfl
@[simp] theorem v_add_l {x y : List D} : opAdd (.lst x) (.lst y) S = if x.length + y.length ≤ 16777216 then .ok (.lst (x ++ y)) S else .no := rfl
@[simp] theorem v_add_t {x y : List D} : opAdd (.tup x) (.tup y) S = if x.length + y.length ≤ 16777216 then .ok (.tup (x ++ y)) S else .no := rfl
@[simp] theorem v_cat_l {x y : List D} : opCat (.lst x) (.lst y) S = if x.length + y.length ≤ 16777216 then .ok (x ++ y) S else .no := rfl
@[simp] theorem v_sub {i j : Int} : opSub (.int i) (.int j) S = .ok (.int (i - j)) S := rfl
@[simp] theorem v_mul_i {i j : Int} : opMul (.int i) (.int j) S = if mulOk i j = true then .ok (.int (i * j)) S else .no := rfl
@[simp] theorem v_mul_s {x : List Char} {n : Int} : opMul (.str x) (.int n) S = if -9223372036854775808 ≤ n ∧ n < 9223372036854775808 ∧ x.length * n.toNat ≤ 16777216 then .ok (.str (List.replicate n.toNat x).flatten) S else .no := rfl
@[simp] theorem v_mul_l {x : List D} {n : Int} : opMul (.lst x) (.int n) S = if -9223372036854775808 ≤ n ∧ n < 9223372036854775808 ∧ x.length * n.toNat ≤ 16777216 then .ok (.lst (List.replicate n.toNat x).flatten) S else .no := rfl
@[simp] theorem v_mod {i j : Int} : opMod (.int i) (.int j) S = if 0 < j then .ok (.int (i % j)) S else .no := rfl
@[simp] theorem v_fdiv {i j : Int} : opFDiv (.int i) (.int j) S = if divOk j = true then .ok (.int (i / j)) S else .no := rfl
@[simp] theorem v_pow {i j : Int} : opPow (.int i) (.int j) S = if 0 ≤ j ∧ j ≤ 1000000 ∧ i.natAbs < 18446744073709551616 then .ok (.int (i ^ j.toNat)) S else .no := rfl
@[simp] theorem v_neg {i : Int} : opNeg (.int i) S = .ok (.int (-i)) S := rfl
@[simp] theorem v_ord_i {p : Int → Int → Bool} {q : List Nat → List Nat → Bool} {i j : Int} : opOrd p q (.int i) (.int j) S = .ok (.bl (p i j)) S := rfl
@[simp] theorem v_ord_s {p : Int → Int → Bool} {q : List Nat → List Nat → Bool} {x y : List Char} : opOrd p q (.str x) (.str y) S = .ok (.bl (q (x.map Char.toNat) (y.map Char.toNat))) S := rfl
@[simp] theorem v_is {a : D} : opIs a .non S = .ok (.bl (isNon a)) S := rfl
@[simp] theorem v_isnot {a : D} : opIsNot a .non S = .ok (.bl (!isNon a)) S := rfl
@[simp] theorem isNon_non : isNon .non = true := rfl
@[simp] theorem isNon_bl {b : Bool} : isNon (.bl b) = false := rfl
@[simp] theorem isNon_int {i : Int} : isNon (.int i) = false := rfl
@[simp] theorem isNon_str {x : List Char} : isNon (.str x) = false := rfl
@[simp] theorem isNon_lst {x : List D} : isNon (.lst x) = false := rfl
@[simp] theorem isNon_tup {x : List D} : isNon (.tup x) = false := rfl
-- equality of scalars
theorem deq_str {x y : List Char} : deq (.str x) (.str y) = decide (x = y) := by
  show (cps x == cps y) = decide (x = y)
  rw [Bool.eq_iff_iff]
  simp only [beq_iff_eq, decide_eq_true_eq]
  with_unfolding_all exact ⟨cps_inj, fun h => by rw [h]⟩
@[simp] theorem v_eq_i {i j : Int} : opEq (.int i) (.int j) S = .ok (.bl (decide (i = j))) S := by
  have h : dep (view S (.int i)) ≤ 64 ∧ dep (view S (.int j)) ≤ 64 := ⟨Nat.zero_le _, Nat.zero_le _⟩
  unfold opEq
  rw [if_pos h]
  rfl
@[simp] theorem v_eq_s {x y : List Char} : opEq (.str x) (.str y) S = .ok (.bl (decide (x = y))) S := by
  have h : dep (view S (.str x)) ≤ 64 ∧ dep (view S (.str y)) ≤ 64 := ⟨Nat.zero_le _, Nat.zero_le _⟩
  unfold opEq
  rw [if_pos h]
  show Out.ok (D.bl (deq (.str x) (.str y))) S = _
  rw [deq_str]
@[simp] theorem v_eq_b {x y : Bool} : opEq (.bl x) (.bl y) S = .ok (.bl (x == y)) S := by
  have h : dep (view S (.bl x)) ≤ 64 ∧ dep (view S (.bl y)) ≤ 64 := ⟨Nat.zero_le _, Nat.zero_le _⟩
  unfold opEq
  rw [if_pos h]
  rfl
@[simp] theorem v_ne_i {i j : Int} : opNe (.int i) (.int j) S = .ok (.bl (!decide (i = j))) S := by
  have h : dep (view S (.int i)) ≤ 64 ∧ dep (view S (.int j)) ≤ 64 := ⟨Nat.zero_le _, Nat.zero_le _⟩
  unfold opNe
  rw [if_pos h]
  rfl
@[simp] theorem v_ne_s {x y : List Char} : opNe (.str x) (.str y) S = .ok (.bl (!decide (x = y))) S := by
  have h : dep (view S (.str x)) ≤ 64 ∧ dep (view S (.str y)) ≤ 64 := ⟨Nat.zero_le _, Nat.zero_le _⟩
  unfold opNe
  rw [if_pos h]
  show Out.ok (D.bl (!deq (.str x) (.str y))) S = _
  rw [deq_str]
-- items, slices, lengths
@[simp] theorem v_ix_s {x : List Char} {i : Int} : opIx (.str x) (.int i) S = if x.length ≤ 16777216 then atO (L2.atI x i) (fun c => .str [c]) S else .no := rfl
@[simp] theorem v_ix_t {x : List D} {i : Int} : opIx (.tup x) (.int i) S = atO (L2.atI x i) id S := rfl
@[simp] theorem v_ix_l {x : List D} {i : Int} : opIx (.lst x) (.int i) S = atO (L2.atI x i) id S := rfl
@[simp] theorem v_ix_c {n : Nat} {i : Int} : opIx (.cell n) (.int i) S = match S[n]? with | some ds => atO (L2.atI ds i) id S | none => .no := rfl
@[simp] theorem v_sl_s {x : List Char} {l h : Option Int} : opSl (.str x) l h S = if x.length ≤ 16777216 then .ok (.str (cut x l h)) S else .no := rfl
@[simp] theorem v_sl_l {x : List D} {l h : Option Int} : opSl (.lst x) l h S = .ok (.lst (cut x l h)) S := rfl
@[simp] theorem v_sl_t {x : List D} {l h : Option Int} : opSl (.tup x) l h S = .ok (.tup (cut x l h)) S := rfl
@[simp] theorem v_slO_l {x : List D} {l h : Option Int} : opSlO (.lst x) l h S = .ok (cut x l h) S := rfl
@[simp] theorem v_len_s {x : List Char} : fLen [.str x] S = if x.length ≤ 16777216 then .ok (.int (x.length : Int)) S else .no := rfl
@[simp] theorem v_len_l {x : List D} : fLen [.lst x] S = .ok (.int (x.length : Int)) S := rfl
@[simp] theorem v_len_f {x : List D} : fLen [.frl x] S = .ok (.int (x.length : Int)) S := rfl
@[simp] theorem v_len_t {x : List D} : fLen [.tup x] S = .ok (.int (x.length : Int)) S := rfl
@[simp] theorem v_abs {i : Int} : fAbs [.int i] S = .ok (.int (if i < 0 then -i else i)) S := rfl
@[simp] theorem v_int {i : Int} : fInt [.int i] S = .ok (.int i) S := rfl
@[simp] theorem v_2i {g : Int → Int → Int} {i j : Int} : f2I g [.int i, .int j] S = .ok (.int (g i j)) S := rfl
@[simp] theorem v_list_l {x : List D} : fList [.lst x] S = .ok x S := rfl
@[simp] theorem v_list_t {x : List D} : fList [.tup x] S = .ok x S := rfl
@[simp] theorem v_it_l {x : List D} : itemsOf (.lst x) S = .ok x S := rfl
@[simp] theorem v_it_f {x : List D} : itemsOf (.frl x) S = .ok x S := rfl
@[simp] theorem v_it_t {x : List D} : itemsOf (.tup x) S = .ok x S := rfl
@[simp] theorem v_it_s {x : List Char} : itemsOf (.str x) S = .ok (x.map fun c => .str [c]) S := rfl
@[simp] theorem v_rg1 {j : Int} : iRange1 [.int j] S = if -4611686018427387904 ≤ j ∧ j < 4611686018427387904 then .ok (rgD 0 j.toNat) S else .no := rfl
@[simp] theorem v_rg2 {i j : Int} : iRange2 [.int i, .int j] S = if -4611686018427387904 ≤ i ∧ i < 4611686018427387904 ∧ -4611686018427387904 ≤ j ∧ j < 4611686018427387904 then .ok (rgD i (j - i).toNat) S else .no := rfl
@[simp] theorem v_find3 {x y : List Char} {i : Int} : fFind3 x [.str y, .int i] S = .ok (.int (PySem.Txt.find3 (cps x) (cps y) i)) S := rfl
@[simp] theorem v_isi {d : D} {t : String} : fIsi [d, .ty t] S = if cellOk d S = true then (match isiB d t with | some b => .ok (.bl b) S | none => .no) else .no := rfl
@[simp] theorem atI_nn {l : List α} {n : Nat} (h : n < l.length) : L2.atI l (n : Int) = some l[n] := by
  unfold L2.atI ixN
  rw [if_pos (by omega), if_pos (by omega)]
  simp [h]
theorem atI_of {l : List α} {i : Int} (h0 : 0 ≤ i) (h : i < l.length) : ∃ x, x ∈ l ∧ L2.atI l i = some x ∧ l[i.toNat]? = some x := by
  have hn : i.toNat < l.length := by omega
  refine ⟨l[i.toNat], List.getElem_mem hn, ?_, List.getElem?_eq_getElem hn⟩
  have e := atI_nn hn
  rw [Int.toNat_of_nonneg h0] at e
  with_unfolding_all exact e
end

/-! ### loops -/
/-- a for: I holds of the items that are left -/
theorem for_run {mg : Mg} {mb : Ms} {κ : Kt} (I : List D → Ev → Cells → Prop) (hs : ∀ d ds env S, I (d :: ds) env S → ∃ env1, mg d env = some env1 ∧ RS (mb env1 S) ⟨I ds, κ.nx, I ds, κ.rt, κ.ex⟩) (he : ∀ env S, I [] env S → κ.nx env S) :
    ∀ (ds : List D) (env : Ev) (S : Cells), I ds env S → RS (forL mg mb ds env S) κ
  | [], env, S, h => by with_unfolding_all exact he env S h
  | d :: ds, env, S, h => by
    obtain ⟨env1, e1, h1⟩ := hs d ds env S h
    unfold forL
    rw [e1]
    simp only
    generalize mb env1 S = o at h1
    cases o with
    | nx e S' => with_unfolding_all exact for_run I hs he ds e S' h1
    | ct e S' => with_unfolding_all exact for_run I hs he ds e S' h1
    | bk e S' => with_unfolding_all exact h1
    | ret r S' => with_unfolding_all exact h1
    | ex x e S' => with_unfolding_all exact h1
    | no => with_unfolding_all exact h1
@[simp] theorem rs_for {mi : Ma} {mg : Mg} {mb : Ms} {κ : Kt} {env : Ev} {S : Cells} : RS (sFor mi mg mb env S) κ = RE (mi env S) (fun ds S1 => RS (forL mg mb ds env S1) κ) (fun x S => κ.ex x env S) := by
  unfold sFor
  rw [rs_go]
/-- a comprehension without a test: I holds of the items that are left and of the list so far -/
theorem comp_run {vs : List Nat} {mg : Mg} {mt : Mt} {me : Me} {env : Ev} {P : List D → Cells → Prop} {X : Ex → Cells → Prop} (I : List D → List D → Cells → Prop)
    (hs : ∀ d ds acc S, I (d :: ds) acc S → ∃ env1, mg d (inEnv env vs) = some env1 ∧ RE (mt env1 S) (fun b S1 => if b = true then RE (me env1 S1) (fun y S2 => acc.length < 16777216 ∧ I ds (acc ++ [y]) S2) nf else I ds acc S1) nf) (he : ∀ acc S, I [] acc S → P acc S) :
    ∀ (ds acc : List D) (S : Cells), I ds acc S → RE (compL vs mg mt me env ds acc S) P X
  | [], acc, S, h => by with_unfolding_all exact he acc S h
  | d :: ds, acc, S, h => by
    obtain ⟨env1, e1, h1⟩ := hs d ds acc S h
    unfold compL
    rw [e1]
    simp only
    cases et : mt env1 S with
    | ok b S1 =>
      rw [et] at h1
      cases b with
      | true =>
        simp only [re_ok, if_true] at h1
        simp only
        cases ee : me env1 S1 with
        | ok y S2 =>
          rw [ee] at h1
          simp only [re_ok] at h1
          simp only
          rw [if_pos h1.1]
          with_unfolding_all exact comp_run I hs he ds _ S2 h1.2
        | ex x S2 =>
          rw [ee] at h1
          with_unfolding_all exact h1.elim
        | no =>
          rw [ee] at h1
          with_unfolding_all exact h1.elim
      | false =>
        simp only [re_ok, Bool.false_eq_true, if_false] at h1
        with_unfolding_all exact comp_run I hs he ds acc S1 h1
    | ex x S1 =>
      rw [et] at h1
      with_unfolding_all exact h1.elim
    | no =>
      rw [et] at h1
      with_unfolding_all exact h1.elim
end TT
namespace TT
open PySem PySem.Spec PyProof.Rows L2

/-! ### backward steps -/
def Br (k : Bool) (A B : Prop) : Prop := if k = true then A else B
section
variable {A B : Prop} {k : Bool}
theorem br_t (h : A) : Br true A B := h
theorem br_f (h : B) : Br false A B := h
theorem br_not (h : Br k B A) : Br (!k) A B := by cases k <;> with_unfolding_all exact h
theorem br_dec {p : Prop} [Decidable p] (h1 : p → A) (h2 : ¬p → B) : Br (decide p) A B := by
  unfold Br
  split
  · rename_i h
    with_unfolding_all exact h1 (by simpa using h)
  · rename_i h
    with_unfolding_all exact h2 (by simpa using h)
theorem br_any (h1 : k = true → A) (h2 : k = false → B) : Br k A B := by
  cases k
  · with_unfolding_all exact h2 rfl
  · with_unfolding_all exact h1 rfl
end
def isI (d : D) (p : Int → Prop) : Prop := match d with
  | .int i => p i
  | _ => False
def isS (d : D) (p : List Char → Prop) : Prop := match d with
  | .str i => p i
  | _ => False
def isO (r : Ret) (p : List D → Prop) : Prop := match r with
  | .own i => p i
  | _ => False
def rf (r : Ret) (p : D → Prop) : Prop := p r.fz
theorem isI_i {p : Int → Prop} {i : Int} (h : p i) : isI (.int i) p := h
theorem isS_s {p : List Char → Prop} {i : List Char} (h : p i) : isS (.str i) p := h
theorem isO_o {p : List D → Prop} {i : List D} (h : p i) : isO (.own i) p := h
theorem rf_v {p : D → Prop} {d : D} (h : p d) : rf (.val d) p := h
theorem rf_o {p : D → Prop} {ds : List D} (h : p (.lst ds)) : rf (.own ds) p := h
section
variable {α β : Type} {X : Ex → Cells → Prop} {env : Ev} {S : Cells}
theorem w_ok {P : α → Cells → Prop} {a : α} (h : P a S) : RE (.ok a S) P X := by with_unfolding_all exact h
theorem w_ex {P : α → Cells → Prop} {x : Ex} (h : X x S) : RE (.ex x S : Out α) P X := by with_unfolding_all exact h
theorem w_bind {P : β → Cells → Prop} {o : Out α} {k : α → Cells → Out β} (h : RE o (fun a S => RE (k a S) P X) X) : RE (o.bind k) P X := by
  rw [re_bind]; with_unfolding_all exact h
variable {P : D → Cells → Prop}
theorem w_var {i : Nat} {d : D} (e : env[i]? = some (.val d)) (h : P d S) : RE (dVar i env S) P X := by
  rw [x_var, e]; with_unfolding_all exact h
theorem w_c {d : D} (h : P d S) : RE (dC d env S) P X := by with_unfolding_all exact h
theorem w_un {P : α → Cells → Prop} {f : D → Cells → Out α} {m : Me} (h : RE (m env S) (fun a S => RE (f a S) P X) X) : RE (dUn f m env S) P X := by with_unfolding_all exact w_bind h
theorem w_bin {P : α → Cells → Prop} {f : D → D → Cells → Out α} {m1 m2 : Me} (h : RE (m1 env S) (fun a S => RE (m2 env S) (fun b S => RE (f a b S) P X) X) X) : RE (dBin f m1 m2 env S) P X := by
  rw [x_bin, re_bind]; simp only [re_bind]; with_unfolding_all exact h
theorem w_nil {P : List D → Cells → Prop} (h : P [] S) : RE (aNil env S) P X := by with_unfolding_all exact h
theorem w_cons {P : List D → Cells → Prop} {m : Me} {ma : Ma} (h : RE (m env S) (fun a S => RE (ma env S) (fun ds S => P (a :: ds) S) X) X) : RE (aCons m ma env S) P X := by
  rw [x_cons, re_bind]; simp only [re_bind]; with_unfolding_all exact h
theorem w_args {P : α → Cells → Prop} {f : List D → Cells → Out α} {ma : Ma} (h : RE (ma env S) (fun a S => RE (f a S) P X) X) : RE (dArgs f ma env S) P X := by with_unfolding_all exact w_bind h
theorem w_tB {P : Bool → Cells → Prop} {m : Me} (h : RE (m env S) (fun a S => RE (asB a S) P X) X) : RE (tB m env S) P X := by with_unfolding_all exact w_bind h
theorem w_asB {P : Bool → Cells → Prop} {b : Bool} (h : P b S) : RE (asB (.bl b) S) P X := by with_unfolding_all exact h
theorem re_br {P : α → Cells → Prop} {k : Bool} {o o' : Out α} (h : Br k (RE o P X) (RE o' P X)) : RE (if k = true then o else o') P X := by
  cases k <;> with_unfolding_all exact h
theorem rs_br {κ : Kt} {k : Bool} {o o' : SOut} (h : Br k (RS o κ) (RS o' κ)) : RS (if k = true then o else o') κ := by
  cases k <;> with_unfolding_all exact h
theorem w_and {P : Bool → Cells → Prop} {a b : Mt} (h : RE (a env S) (fun c S => Br c (RE (b env S) P X) (P false S)) X) : RE (mAnd a b env S) P X := by
  rw [x_mAnd, re_bind]; with_unfolding_all exact h.mono (fun c S h => re_br h) fun _ _ h => h
theorem w_or {P : Bool → Cells → Prop} {a b : Mt} (h : RE (a env S) (fun c S => Br c (P true S) (RE (b env S) P X)) X) : RE (mOr a b env S) P X := by
  rw [x_mOr, re_bind]; with_unfolding_all exact h.mono (fun c S h => re_br h) fun _ _ h => h
theorem w_mNot {P : Bool → Cells → Prop} {a : Mt} (h : RE (a env S) (fun c S => P (!c) S) X) : RE (mNot a env S) P X := by
  rw [x_mNot, re_bind]; with_unfolding_all exact h
theorem w_dif {c : Mt} {a b : Me} (h : RE (c env S) (fun k S => Br k (RE (a env S) P X) (RE (b env S) P X)) X) : RE (dIf c a b env S) P X := by
  rw [x_dIf, re_bind]; with_unfolding_all exact h.mono (fun c S h => re_br h) fun _ _ h => h
theorem w_dand {a b : Me} (h : RE (a env S) (fun d S => RE (asB d S) (fun c S => Br c (RE (b env S) P X) (P (.bl false) S)) X) X) : RE (dAnd a b env S) P X := by
  rw [x_dAnd, re_bind]; refine h.mono (fun c S h => ?_) fun _ _ h => h
  rw [re_bind]; with_unfolding_all exact h.mono (fun c S h => re_br h) fun _ _ h => h
theorem w_dor {a b : Me} (h : RE (a env S) (fun d S => RE (asB d S) (fun c S => Br c (P (.bl true) S) (RE (b env S) P X)) X) X) : RE (dOr a b env S) P X := by
  rw [x_dOr, re_bind]; refine h.mono (fun c S h => ?_) fun _ _ h => h
  rw [re_bind]; with_unfolding_all exact h.mono (fun c S h => re_br h) fun _ _ h => h
theorem w_dnot {a : Me} (h : RE (a env S) (fun d S => RE (asB d S) (fun c S => P (.bl (!c)) S) X) X) : RE (dNot a env S) P X := by
  rw [x_dNot, re_bind]; refine h.mono (fun c S h => ?_) fun _ _ h => h
  rw [re_bind]; with_unfolding_all exact h
theorem w_pno {P : Option Int → Cells → Prop} (h : P none S) : RE (pNone env S) P X := by with_unfolding_all exact h
theorem w_pso {P : Option Int → Cells → Prop} {m : Me} (h : RE (m env S) (fun d S => isI d fun i => P (some i) S) X) : RE (pSome m env S) P X := by
  rw [x_pSome, re_bind]; refine h.mono (fun d S h => ?_) fun _ _ h => h
  cases d <;> with_unfolding_all exact h
theorem w_tup {ma : Ma} (h : RE (ma env S) (fun ds S => ds.length ≤ 16777216 ∧ P (.tup ds) S) X) : RE (dTup ma env S) P X := by
  rw [x_tup, re_bind]; refine h.mono (fun d S h => ?_) fun _ _ h => h
  rw [if_pos h.1]; with_unfolding_all exact h.2
theorem w_lst {P : List D → Cells → Prop} {ma : Ma} (h : RE (ma env S) (fun ds S => ds.length ≤ 16777216 ∧ P ds S) X) : RE (oLst ma env S) P X := by
  rw [x_lst, re_bind]; refine h.mono (fun d S h => ?_) fun _ _ h => h
  rw [if_pos h.1]; with_unfolding_all exact h.2
theorem w_fz {mo : Ma} (h : RE (mo env S) (fun ds S => P (.lst ds) S) X) : RE (dFz mo env S) P X := by
  rw [x_fz, re_bind]; with_unfolding_all exact h
theorem w_sl {P : α → Cells → Prop} {f : D → Option Int → Option Int → Cells → Out α} {m : Me} {lo hi : Ev → Cells → Out (Option Int)} (h : RE (m env S) (fun a S => RE (lo env S) (fun l S => RE (hi env S) (fun h S => RE (f a l h S) P X) X) X) X) : RE (dSl f m lo hi env S) P X := by
  rw [x_sl]; simp only [re_bind]; with_unfolding_all exact h
theorem w_def0 {P : List D → Cells → Prop} {ma : Ma} (h : RE (ma env S) P X) : RE (aDef ma [] env S) P X := by
  rw [x_def, re_bind]; simpa using h
theorem w_def {P : List D → Cells → Prop} {ma : Ma} {dds : List D} (h : RE (ma env S) (fun ds S => P (ds ++ dds) S) X) : RE (aDef ma dds env S) P X := by
  rw [x_def, re_bind]; with_unfolding_all exact h
theorem w_kw {P : List D → Cells → Prop} {n m : Nat} {ix : List Nat} {ma mk : Ma} (h : RE (ma env S) (fun ds S => RE (mk env S) (fun es S => (ds.length = n ∧ es.length = m) ∧ P (sel ix (ds ++ es)) S) X) X) : RE (aKw n m ix ma mk env S) P X := by
  rw [x_kw]; simp only [re_bind]; refine h.mono (fun d S h => ?_) fun _ _ h => h
  refine h.mono (fun d S h => ?_) fun _ _ h => h
  rw [if_pos h.1]; with_unfolding_all exact h.2
theorem w_call {mf : Mf} {ma : Ma} (h : RE (ma env S) (fun ds S => RE (mf ds S) (fun r S => rf r fun d => P d S) X) X) : RE (dCall mf ma env S) P X := by
  rw [x_call]; simp only [re_bind]; with_unfolding_all exact h
theorem w_oCall {P : List D → Cells → Prop} {mf : Mf} {ma : Ma} (h : RE (ma env S) (fun ds S => RE (mf ds S) (fun r S => isO r fun d => P d S) X) X) : RE (oCall mf ma env S) P X := by
  rw [x_oCall]; simp only [re_bind]; refine h.mono (fun d S h => ?_) fun _ _ h => h
  refine h.mono (fun d S h => ?_) fun _ _ h => h
  cases d <;> with_unfolding_all exact h
theorem w_callP {mf : Mf} {ma : Ma} (h : RE (ma env S) (fun ds S => RE (pureOf (mf ds []) S) (fun r S => rf r fun d => P d S) X) X) : RE (dCallP mf ma env S) P X := by
  rw [x_callP]; simp only [re_bind]; with_unfolding_all exact h
theorem w_oCallP {P : List D → Cells → Prop} {mf : Mf} {ma : Ma} (h : RE (ma env S) (fun ds S => RE (pureOf (mf ds []) S) (fun r S => isO r fun d => P d S) X) X) : RE (oCallP mf ma env S) P X := by
  rw [x_oCallP]; simp only [re_bind]; refine h.mono (fun d S h => ?_) fun _ _ h => h
  refine h.mono (fun d S h => ?_) fun _ _ h => h
  cases d <;> with_unfolding_all exact h
theorem w_pure {P : α → Cells → Prop} {o : Out α} (h : RE o (fun a _ => P a S) (fun x _ => X x S)) : RE (pureOf o S) P X := by with_unfolding_all exact re_pure h
theorem w_ixO {i : Nat} {m : Me} {ds : List D} (e : env[i]? = some (.own ds)) (h : RE (m env S) (fun b S => isI b fun j => RE (atO (L2.atI ds j) id S) P X) X) : RE (dIxO i m env S) P X := by
  rw [x_ixO, e]; simp only [re_bind]; refine h.mono (fun d S h => ?_) fun _ _ h => h
  cases d with
  | int j =>
    replace h : RE (atO (L2.atI ds j) id S) P X := h
    simp only
    cases e : L2.atI ds j with
    | none => rw [e] at h; with_unfolding_all exact h
    | some x => rw [e] at h; with_unfolding_all exact h
  | _ => with_unfolding_all exact h
theorem w_lenO {i : Nat} {ds : List D} (e : env[i]? = some (.own ds)) (h : P (.int (ds.length : Int)) S) : RE (dLenO i env S) P X := by
  rw [x_lenO, e]; with_unfolding_all exact h
theorem w_meS {f : List Char → List D → Cells → Out D} {m : Me} {ma : Ma} (h : RE (m env S) (fun d S => isS d fun x => RE (ma env S) (fun ds S => RE (f x ds S) P X) X) X) : RE (dMeS f m ma env S) P X := by
  rw [x_meS]; simp only [re_bind]; refine h.mono (fun d S h => ?_) fun _ _ h => h
  cases d with
  | str x =>
    simp only [re_bind]; with_unfolding_all exact h
  | _ => with_unfolding_all exact h
theorem w_lNil {P : List (D ⊕ Nat) → Cells → Prop} (h : P [] S) : RE (lNil env S) P X := by with_unfolding_all exact h
theorem w_lVal {P : List (D ⊕ Nat) → Cells → Prop} {m : Me} {mk : Mk} (h : RE (m env S) (fun d S => RE (mk env S) (fun l S => P (.inl d :: l) S) X) X) : RE (lVal m mk env S) P X := by
  rw [x_lVal]; simp only [re_bind]; with_unfolding_all exact h
theorem w_lOwn {P : List (D ⊕ Nat) → Cells → Prop} {i : Nat} {ds : List D} {mk : Mk} (e : env[i]? = some (.own ds)) (h : RE (mk env S) (fun l S => P (.inr i :: l) S) X) : RE (lOwn i mk env S) P X := by
  rw [x_lOwn, e]; simp only [re_bind]; with_unfolding_all exact h
/-- a lent call: the answer is flat -/
def lendP (env : Ev) (S : Cells) (mf : Mf) (l : List (D ⊕ Nat)) (P : D → Cells → Prop) : Prop := ∃ ds, lent env l = some ds ∧ RE (mf ds []) (fun r _ => ∃ d, r = .val d ∧ flatD d = true ∧ P d S) nf
theorem w_lend {mf : Mf} {mk : Mk} (h : RE (mk env S) (fun l S => lendP env S mf l P) X) : RE (dLend mf mk env S) P X := by
  rw [x_lend]; simp only [re_bind]; refine h.mono (fun d S h => ?_) fun _ _ h => h
  obtain ⟨ds, e, h⟩ := h
  rw [e]
  simp only
  generalize mf ds [] = o at h
  cases o with
  | ok r S =>
    rw [re_ok] at h
    obtain ⟨d, rfl, hf, h⟩ := h
    simp only
    rw [if_pos hf]; with_unfolding_all exact h
  | _ => with_unfolding_all exact h
theorem w_lendP {mf : Mf} {l : List (D ⊕ Nat)} {ds : List D} (e : lent env l = some ds) (h : RE (mf ds []) (fun r _ => ∃ d, r = .val d ∧ flatD d = true ∧ P d S) nf) : lendP env S mf l P := ⟨ds, e, h⟩
theorem w_comp {P : List D → Cells → Prop} {vs : List Nat} {mi : Ma} {mg : Mg} {mt : Mt} {me : Me} (h : RE (mi env S) (fun ds S => RE (compL vs mg mt me env ds [] S) P X) X) : RE (oComp vs mi mg mt me env S) P X := by
  rw [x_comp]; simp only [re_bind]; with_unfolding_all exact h
theorem w_yes {P : Bool → Cells → Prop} (h : P true S) : RE (mYes env S) P X := by with_unfolding_all exact h
-- operations
theorem w_add_i {i j : Int} (h : P (.int (i + j)) S) : RE (opAdd (.int i) (.int j) S) P X := by with_unfolding_all exact h
theorem w_add_s {x y : List Char} (g : x.length + y.length ≤ 16777216) (h : P (.str (x ++ y)) S) : RE (opAdd (.str x) (.str y) S) P X := by rw [v_add_s, if_pos g]; with_unfolding_all exact h
theorem w_add_l {x y : List D} (g : x.length + y.length ≤ 16777216) (h : P (.lst (x ++ y)) S) : RE (opAdd (.lst x) (.lst y) S) P X := by rw [v_add_l, if_pos g]; with_unfolding_all exact h
theorem w_add_t {x y : List D} (g : x.length + y.length ≤ 16777216) (h : P (.tup (x ++ y)) S) : RE (opAdd (.tup x) (.tup y) S) P X := by rw [v_add_t, if_pos g]; with_unfolding_all exact h
theorem w_cat_l {P : List D → Cells → Prop} {x y : List D} (g : x.length + y.length ≤ 16777216) (h : P (x ++ y) S) : RE (opCat (.lst x) (.lst y) S) P X := by rw [v_cat_l, if_pos g]; with_unfolding_all exact h
theorem w_sub {i j : Int} (h : P (.int (i - j)) S) : RE (opSub (.int i) (.int j) S) P X := by with_unfolding_all exact h
theorem mulOk_l {i j : Int} (h : i.natAbs < 18446744073709551616) : mulOk i j = true := by simp [mulOk, h]
theorem mulOk_r {i j : Int} (h : j.natAbs < 18446744073709551616) : mulOk i j = true := by simp [mulOk, h]
theorem w_mul_i {i j : Int} (g : mulOk i j = true) (h : P (.int (i * j)) S) : RE (opMul (.int i) (.int j) S) P X := by rw [v_mul_i, if_pos g]; with_unfolding_all exact h
theorem w_mul_s {x : List Char} {n : Int} (g : -9223372036854775808 ≤ n ∧ n < 9223372036854775808 ∧ x.length * n.toNat ≤ 16777216) (h : P (.str (List.replicate n.toNat x).flatten) S) : RE (opMul (.str x) (.int n) S) P X := by rw [v_mul_s, if_pos g]; with_unfolding_all exact h
theorem w_mul_l {x : List D} {n : Int} (g : -9223372036854775808 ≤ n ∧ n < 9223372036854775808 ∧ x.length * n.toNat ≤ 16777216) (h : P (.lst (List.replicate n.toNat x).flatten) S) : RE (opMul (.lst x) (.int n) S) P X := by rw [v_mul_l, if_pos g]; with_unfolding_all exact h
theorem w_mod {i j : Int} (g : 0 < j) (h : P (.int (i % j)) S) : RE (opMod (.int i) (.int j) S) P X := by rw [v_mod, if_pos g]; with_unfolding_all exact h
theorem w_fdiv {i j : Int} (g : divOk j = true) (h : P (.int (i / j)) S) : RE (opFDiv (.int i) (.int j) S) P X := by rw [v_fdiv, if_pos g]; with_unfolding_all exact h
theorem divOk_s {j : Int} (h0 : 0 < j) (h : j < 9223372036854775808) : divOk j = true := by
  have h1 : j.natAbs < 2 ^ 63 := by omega
  have h2 : j.natAbs.log2 < 63 := by
    rw [Nat.log2_lt (by omega)]; with_unfolding_all exact h1
  simp [divOk, h0]; omega
theorem w_pow {i j : Int} (g : 0 ≤ j ∧ j ≤ 1000000 ∧ i.natAbs < 18446744073709551616) (h : P (.int (i ^ j.toNat)) S) : RE (opPow (.int i) (.int j) S) P X := by rw [v_pow, if_pos g]; with_unfolding_all exact h
theorem w_neg {i : Int} (h : P (.int (-i)) S) : RE (opNeg (.int i) S) P X := by with_unfolding_all exact h
theorem w_lt_i {i j : Int} (h : P (.bl (decide (i < j))) S) : RE (opLt (.int i) (.int j) S) P X := by with_unfolding_all exact h
theorem w_le_i {i j : Int} (h : P (.bl (decide (i ≤ j))) S) : RE (opLe (.int i) (.int j) S) P X := by with_unfolding_all exact h
theorem w_gt_i {i j : Int} (h : P (.bl (decide (j < i))) S) : RE (opGt (.int i) (.int j) S) P X := by with_unfolding_all exact h
theorem w_ge_i {i j : Int} (h : P (.bl (decide (j ≤ i))) S) : RE (opGe (.int i) (.int j) S) P X := by with_unfolding_all exact h
theorem w_is {a : D} (h : P (.bl (isNon a)) S) : RE (opIs a .non S) P X := by with_unfolding_all exact h
theorem w_isnot {a : D} (h : P (.bl (!isNon a)) S) : RE (opIsNot a .non S) P X := by with_unfolding_all exact h
theorem w_eq_i {i j : Int} (h : P (.bl (decide (i = j))) S) : RE (opEq (.int i) (.int j) S) P X := by rw [v_eq_i]; with_unfolding_all exact h
theorem w_eq_s {i j : List Char} (h : P (.bl (decide (i = j))) S) : RE (opEq (.str i) (.str j) S) P X := by rw [v_eq_s]; with_unfolding_all exact h
theorem w_eq_b {i j : Bool} (h : P (.bl (i == j)) S) : RE (opEq (.bl i) (.bl j) S) P X := by rw [v_eq_b]; with_unfolding_all exact h
theorem w_ne_i {i j : Int} (h : P (.bl (!decide (i = j))) S) : RE (opNe (.int i) (.int j) S) P X := by rw [v_ne_i]; with_unfolding_all exact h
theorem w_ne_s {i j : List Char} (h : P (.bl (!decide (i = j))) S) : RE (opNe (.str i) (.str j) S) P X := by rw [v_ne_s]; with_unfolding_all exact h
theorem w_ix_s {x : List Char} {i : Int} (g : x.length ≤ 16777216) (h : RE (atO (L2.atI x i) (fun c => .str [c]) S) P X) : RE (opIx (.str x) (.int i) S) P X := by rw [v_ix_s, if_pos g]; with_unfolding_all exact h
theorem w_ix_t {x : List D} {i : Int} (h : RE (atO (L2.atI x i) id S) P X) : RE (opIx (.tup x) (.int i) S) P X := by with_unfolding_all exact h
theorem w_ix_l {x : List D} {i : Int} (h : RE (atO (L2.atI x i) id S) P X) : RE (opIx (.lst x) (.int i) S) P X := by with_unfolding_all exact h
theorem w_ix_c {n : Nat} {ds : List D} {i : Int} (e : S[n]? = some ds) (h : RE (atO (L2.atI ds i) id S) P X) : RE (opIx (.cell n) (.int i) S) P X := by rw [v_ix_c, e]; with_unfolding_all exact h
theorem w_at_r {f : α → D} {o : Option α} {x : α} (e : o = some x) (h : P (f x) S) : RE (atO o f S) P X := by rw [e]; with_unfolding_all exact h
theorem w_at_rd {o : Option D} {x : D} (e : o = some x) (h : P x S) : RE (atO o id S) P X := by rw [e]; with_unfolding_all exact h
theorem w_at {f : α → D} {l : List α} {i : Int} (g : 0 ≤ i ∧ i < l.length) (h : ∀ x, x ∈ l → l[i.toNat]? = some x → P (f x) S) : RE (atO (L2.atI l i) f S) P X := by
  obtain ⟨x, h1, h2, h3⟩ := atI_of g.1 g.2
  rw [h2]; with_unfolding_all exact h x h1 h3
theorem w_at_d {l : List D} {i : Int} (g : 0 ≤ i ∧ i < l.length) (h : ∀ x, x ∈ l → l[i.toNat]? = some x → P x S) : RE (atO (L2.atI l i) id S) P X := by with_unfolding_all exact w_at g h
theorem w_sl_s {x : List Char} {l u : Option Int} (g : x.length ≤ 16777216) (h : P (.str (cut x l u)) S) : RE (opSl (.str x) l u S) P X := by rw [v_sl_s, if_pos g]; with_unfolding_all exact h
theorem w_sl_l {x : List D} {l u : Option Int} (h : P (.lst (cut x l u)) S) : RE (opSl (.lst x) l u S) P X := by with_unfolding_all exact h
theorem w_sl_t {x : List D} {l u : Option Int} (h : P (.tup (cut x l u)) S) : RE (opSl (.tup x) l u S) P X := by with_unfolding_all exact h
theorem w_slO_l {P : List D → Cells → Prop} {x : List D} {l u : Option Int} (h : P (cut x l u) S) : RE (opSlO (.lst x) l u S) P X := by with_unfolding_all exact h
theorem w_len_s {x : List Char} (g : x.length ≤ 16777216) (h : P (.int (x.length : Int)) S) : RE (fLen [.str x] S) P X := by rw [v_len_s, if_pos g]; with_unfolding_all exact h
theorem w_len_l {x : List D} (h : P (.int (x.length : Int)) S) : RE (fLen [.lst x] S) P X := by with_unfolding_all exact h
theorem w_len_f {x : List D} (h : P (.int (x.length : Int)) S) : RE (fLen [.frl x] S) P X := by with_unfolding_all exact h
theorem w_len_t {x : List D} (h : P (.int (x.length : Int)) S) : RE (fLen [.tup x] S) P X := by with_unfolding_all exact h
theorem w_abs {i : Int} (h : P (.int (if i < 0 then -i else i)) S) : RE (fAbs [.int i] S) P X := by with_unfolding_all exact h
theorem w_int {i : Int} (h : P (.int i) S) : RE (fInt [.int i] S) P X := by with_unfolding_all exact h
theorem w_2i {g : Int → Int → Int} {i j : Int} (h : P (.int (g i j)) S) : RE (f2I g [.int i, .int j] S) P X := by with_unfolding_all exact h
theorem w_list_l {P : List D → Cells → Prop} {x : List D} (h : P x S) : RE (fList [.lst x] S) P X := by with_unfolding_all exact h
theorem w_list_t {P : List D → Cells → Prop} {x : List D} (h : P x S) : RE (fList [.tup x] S) P X := by with_unfolding_all exact h
theorem w_it_l {P : List D → Cells → Prop} {x : List D} (h : P x S) : RE (itemsOf (.lst x) S) P X := by with_unfolding_all exact h
theorem w_it_f {P : List D → Cells → Prop} {x : List D} (h : P x S) : RE (itemsOf (.frl x) S) P X := by with_unfolding_all exact h
theorem w_it_t {P : List D → Cells → Prop} {x : List D} (h : P x S) : RE (itemsOf (.tup x) S) P X := by with_unfolding_all exact h
theorem w_it_s {P : List D → Cells → Prop} {x : List Char} (h : P (x.map fun c => .str [c]) S) : RE (itemsOf (.str x) S) P X := by with_unfolding_all exact h
theorem w_rg1 {P : List D → Cells → Prop} {j : Int} (g : -4611686018427387904 ≤ j ∧ j < 4611686018427387904) (h : P (rgD 0 j.toNat) S) : RE (iRange1 [.int j] S) P X := by rw [v_rg1, if_pos g]; with_unfolding_all exact h
theorem w_rg2 {P : List D → Cells → Prop} {i j : Int} (g : -4611686018427387904 ≤ i ∧ i < 4611686018427387904 ∧ -4611686018427387904 ≤ j ∧ j < 4611686018427387904) (h : P (rgD i (j - i).toNat) S) : RE (iRange2 [.int i, .int j] S) P X := by rw [v_rg2, if_pos g]; with_unfolding_all exact h
theorem w_find3 {x y : List Char} {i : Int} (h : P (.int (PySem.Txt.find3 (cps x) (cps y) i)) S) : RE (fFind3 x [.str y, .int i] S) P X := by with_unfolding_all exact h
theorem w_isi {d : D} {t : String} {b : Bool} (e : isiB d t = some b) (g : cellOk d S = true) (h : P (.bl b) S) : RE (fIsi [d, .ty t] S) P X := by rw [v_isi, if_pos g, e]; with_unfolding_all exact h
theorem w_join {x : List Char} {es : List D} {ys : List (List Char)} (e : strsD es = some ys) (g : (ys.map List.length).sum + ys.length * x.length ≤ 16777216) (h : P (.str (joinC x ys)) S) : RE (fJoin x [.lst es] S) P X := by
  show RE (match strsD es with
      | some ys => if (ys.map List.length).sum + ys.length * x.length ≤ 16777216 then Out.ok (D.str (joinC x ys)) S else .no
      | none => .no) P X
  rw [e]; simp only; rw [if_pos g]; with_unfolding_all exact h
end

/-! ### statements -/
section
variable {env : Ev} {S : Cells} {N B C : Ev → Cells → Prop} {T : Ret → Cells → Prop} {Z : Ex → Ev → Cells → Prop}
theorem s_seq {a b : Ms} (h : RS (a env S) ⟨fun e S => RS (b e S) ⟨N, B, C, T, Z⟩, B, C, T, Z⟩) : RS (sSeq a b env S) ⟨N, B, C, T, Z⟩ := by rw [rs_seq]; with_unfolding_all exact h
/-- a cut behind a statement -/
theorem s_cut {a b : Ms} (I : Ev → Cells → Prop) (h : RS (a env S) ⟨I, B, C, T, Z⟩) (h2 : ∀ e S, I e S → RS (b e S) ⟨N, B, C, T, Z⟩) : RS (sSeq a b env S) ⟨N, B, C, T, Z⟩ :=
  s_seq (h.mono h2 (fun _ _ h => h) (fun _ _ h => h) (fun _ _ h => h) fun _ _ _ h => h)
theorem s_nil (h : N env S) : RS (sNil env S) ⟨N, B, C, T, Z⟩ := by with_unfolding_all exact h
theorem s_brk (h : B env S) : RS (sBrk env S) ⟨N, B, C, T, Z⟩ := by with_unfolding_all exact h
theorem s_cnt (h : C env S) : RS (sCnt env S) ⟨N, B, C, T, Z⟩ := by with_unfolding_all exact h
theorem s_exp {m : Me} (h : RE (m env S) (fun _ S => N env S) (fun x S => Z x env S)) : RS (sExp m env S) ⟨N, B, C, T, Z⟩ := by rw [rs_exp]; with_unfolding_all exact h
theorem s_rt {m : Me} (h : RE (m env S) (fun d S => T (.val d) S) (fun x S => Z x env S)) : RS (sRet m env S) ⟨N, B, C, T, Z⟩ := by rw [rs_rt]; with_unfolding_all exact h
theorem s_rtO {m : Ma} (h : RE (m env S) (fun d S => T (.own d) S) (fun x S => Z x env S)) : RS (sRetO m env S) ⟨N, B, C, T, Z⟩ := by rw [rs_rtO]; with_unfolding_all exact h
theorem s_rtN (h : T (.val .non) S) : RS (sRetN env S) ⟨N, B, C, T, Z⟩ := by with_unfolding_all exact h
theorem s_rtVo {i : Nat} {ds : List D} (e : env[i]? = some (.own ds)) (h : T (.own ds) S) : RS (sRetV i env S) ⟨N, B, C, T, Z⟩ := by rw [rs_rtV, e]; with_unfolding_all exact h
theorem s_rtVv {i : Nat} {d : D} (e : env[i]? = some (.val d)) (h : T (.val d) S) : RS (sRetV i env S) ⟨N, B, C, T, Z⟩ := by rw [rs_rtV, e]; with_unfolding_all exact h
theorem s_if {c : Mt} {a b : Ms} (h : RE (c env S) (fun k S => Br k (RS (a env S) ⟨N, B, C, T, Z⟩) (RS (b env S) ⟨N, B, C, T, Z⟩)) (fun x S => Z x env S)) : RS (sIf c a b env S) ⟨N, B, C, T, Z⟩ := by rw [rs_if]; with_unfolding_all exact h
theorem s_set {i : Nat} {m : Me} (h : RE (m env S) (fun d S => N (env.set i (.val d)) S) (fun x S => Z x env S)) : RS (sSet i m env S) ⟨N, B, C, T, Z⟩ := by rw [rs_set]; with_unfolding_all exact h
theorem s_setO {i : Nat} {m : Ma} (h : RE (m env S) (fun d S => N (env.set i (.own d)) S) (fun x S => Z x env S)) : RS (sSetO i m env S) ⟨N, B, C, T, Z⟩ := by rw [rs_setO]; with_unfolding_all exact h
theorem s_frz {i : Nat} {m : Ms} {ds : List D} (e : env[i]? = some (.own ds)) (h : RS (m (env.set i (.val (.lst ds))) S) ⟨N, B, C, T, Z⟩) : RS (sFrz i m env S) ⟨N, B, C, T, Z⟩ := by rw [rs_frz, e]; with_unfolding_all exact h
theorem s_app {i : Nat} {m : Me} {ds : List D} (e : env[i]? = some (.own ds)) (h : RE (m env S) (fun d S => ds.length < 16777216 ∧ N (env.set i (.own (ds ++ [d]))) S) (fun x S => Z x env S)) : RS (sApp i m env S) ⟨N, B, C, T, Z⟩ := by rw [rs_app, e]; with_unfolding_all exact h
theorem s_putO {i : Nat} {mj me : Me} {ds : List D} (e : env[i]? = some (.own ds)) (h : RE (me env S) (fun d S => RE (mj env S) (fun j S => isI j fun k => ∃ n, ixN ds.length k = some n ∧ N (env.set i (.own (ds.set n d))) S) (fun x S => Z x env S)) (fun x S => Z x env S)) : RS (sPutO i mj me env S) ⟨N, B, C, T, Z⟩ := by
  rw [rs_putO]; refine h.mono (fun d S h => ?_) fun _ _ h => h
  rw [e]; simp only; refine h.mono (fun j S h => ?_) fun _ _ h => h
  cases j with
  | int k => obtain ⟨n, e1, h⟩ := h; simp only; rw [e1]; with_unfolding_all exact h
  | _ => with_unfolding_all exact h
def putP (o j d : D) (S : Cells) (N : Cells → Prop) : Prop := match o, j with
  | .cell c, .int k => ∃ ds n, S[c]? = some ds ∧ ixN ds.length k = some n ∧ N (S.set c (ds.set n d))
  | _, _ => False
theorem s_putC {mo mj me : Me} (h : RE (me env S) (fun d S => RE (mo env S) (fun o S => RE (mj env S) (fun j S => putP o j d S fun S => N env S) (fun x S => Z x env S)) (fun x S => Z x env S)) (fun x S => Z x env S)) : RS (sPutC mo mj me env S) ⟨N, B, C, T, Z⟩ := by
  rw [rs_putC]; refine h.mono (fun d S h => ?_) fun _ _ h => h
  refine h.mono (fun o S h => ?_) fun _ _ h => h
  refine h.mono (fun j S h => ?_) fun _ _ h => h
  cases o with
  | cell c =>
    cases j with
    | int k => obtain ⟨ds, n, e1, e2, h⟩ := h; simp only; rw [e1]; simp only; rw [e2]; with_unfolding_all exact h
    | _ => with_unfolding_all exact h
  | _ => with_unfolding_all exact h
theorem w_put {c n : Nat} {ds : List D} {k : Int} {d : D} {N : Cells → Prop} {S' : Cells} (e : S[c]? = some ds) (e2 : ixN ds.length k = some n) (e3 : S.set c (ds.set n d) = S') (h : N S') : putP (.cell c) (.int k) d S N := ⟨ds, n, e, e2, e3 ▸ h⟩
theorem s_for {mi : Ma} {mg : Mg} {mb : Ms} (h : RE (mi env S) (fun ds S => RS (forL mg mb ds env S) ⟨N, B, C, T, Z⟩) (fun x S => Z x env S)) : RS (sFor mi mg mb env S) ⟨N, B, C, T, Z⟩ := by rw [rs_for]; with_unfolding_all exact h
theorem s_prom {i : Nat} {mo : Ma} {mr : Ms} (h : RE (mo env S) (fun ds S => S = [] ∧ (env.all clf = true ∧ noCs ds = true) ∧ RS (mr (env.set i (.val (.cell 0))) [ds]) ⟨nf, nf, nf, fun r _ => ∃ d, r = .val d ∧ flatD d = true ∧ T (.val d) [], fun x e S => False⟩) (fun x S => Z x env S)) : RS (sProm i mo mr env S) ⟨N, B, C, T, Z⟩ := by
  unfold sProm
  rw [rs_go]
  refine h.mono (fun ds S h => ?_) fun _ _ h => h
  obtain ⟨rfl, g, h⟩ := h
  simp only
  rw [if_pos g]
  generalize mr (env.set i (.val (.cell 0))) [ds] = o at h
  cases o with
  | ret r S =>
    rw [rs_ret] at h
    obtain ⟨d, rfl, hf, h⟩ := h
    simp only
    rw [if_pos hf]; with_unfolding_all exact h
  | _ => with_unfolding_all exact h.elim
end
theorem w_fn {n N : Nat} {body : Ms} {ds : List D} {S : Cells} {P : Ret → Cells → Prop} {X : Ex → Cells → Prop} {env : Ev} (e : ds.length = n) (e2 : ds.map .val ++ List.replicate (N - n) .no = env) (h : RS (body env S) ⟨fun _ S => P (.val .non) S, nf, nf, P, fun x _ S => X x S⟩) : RE (fnM n N body ds S) P X := by
  rw [re_fn, e2]; with_unfolding_all exact ⟨e, h⟩
theorem re_out {o : Out Ret} {d : D} (h : RE o (fun r _ => r = .val d) nf) : ∃ S, o = .ok (.val d) S := by
  cases o with
  | ok r S => with_unfolding_all exact ⟨S, by rw [show r = .val d from h]⟩
  | _ => with_unfolding_all exact h.elim
end TT
namespace TT
open PySem PySem.Spec PyProof.Rows L2

/-! ### loops over a range -/
theorem rgD_len (lo : Int) (n : Nat) : (rgD lo n).length = n := by simp [rgD]
theorem rgD_cons (lo : Int) (k m : Nat) : (List.range' k (m + 1)).map (fun (i : Nat) => D.int (lo + (i : Int))) = .int (lo + (k : Int)) :: (List.range' (k + 1) m).map (fun (i : Nat) => D.int (lo + (i : Int))) := by
  rw [List.range'_succ]; with_unfolding_all rfl
theorem rgD_eq (lo : Int) (n : Nat) : rgD lo n = (List.range' 0 n).map (fun (i : Nat) => D.int (lo + (i : Int))) := by
  rw [← List.range_eq_range']; with_unfolding_all rfl
section
variable {env : Ev} {S : Cells} {N B C : Ev → Cells → Prop} {T : Ret → Cells → Prop} {Z : Ex → Ev → Cells → Prop} {mg : Mg} {mb : Ms}
theorem for_rg {lo : Int} {n : Nat} (I : Nat → Ev → Cells → Prop) (h0 : I 0 env S) (hs : ∀ k env S, k < n → I k env S → ∃ env1, mg (.int (lo + (k : Int))) env = some env1 ∧ RS (mb env1 S) ⟨I (k + 1), N, I (k + 1), T, Z⟩) (he : ∀ env S, I n env S → N env S) :
    RS (forL mg mb (rgD lo n) env S) ⟨N, B, C, T, Z⟩ := by
  refine for_run (fun ds env S => ∃ k, k ≤ n ∧ ds = (List.range' k (n - k)).map (fun (i : Nat) => D.int (lo + (i : Int))) ∧ I k env S) ?_ ?_ _ _ _ ⟨0, Nat.zero_le _, rgD_eq _ _, h0⟩
  · rintro d ds env S ⟨k, hk, e, hI⟩
    have hlt : k < n := by
      rcases Nat.lt_or_ge k n with h | h
      · with_unfolding_all exact h
      · have e0 : n - k = 0 := by omega
        rw [e0] at e; with_unfolding_all exact nomatch e
    obtain ⟨m, hm⟩ : ∃ m, n - k = m + 1 := ⟨n - k - 1, by omega⟩
    rw [hm, rgD_cons] at e
    injection e with e1 e2
    subst e1 e2
    obtain ⟨env1, e3, h⟩ := hs k env S hlt hI
    have em : m = n - (k + 1) := by omega
    refine ⟨env1, e3, h.mono (fun _ _ h => ⟨k + 1, hlt, by rw [em], h⟩) (fun _ _ h => h) (fun _ _ h => ⟨k + 1, hlt, by rw [em], h⟩) (fun _ _ h => h) (fun _ _ _ h => h)⟩
  · rintro env S ⟨k, hk, e, hI⟩
    have e1 := congrArg List.length e
    simp at e1
    have : k = n := by omega
    subst this
    with_unfolding_all exact he _ _ hI
theorem for_mem {ds : List D} (I : Ev → Cells → Prop) (h0 : I env S) (hs : ∀ d env S, d ∈ ds → I env S → ∃ env1, mg d env = some env1 ∧ RS (mb env1 S) ⟨I, N, I, T, Z⟩) (he : ∀ env S, I env S → N env S) :
    RS (forL mg mb ds env S) ⟨N, B, C, T, Z⟩ := by
  refine for_run (fun es env S => (∀ d, d ∈ es → d ∈ ds) ∧ I env S) ?_ ?_ _ _ _ ⟨fun _ h => h, h0⟩
  · rintro d es env S ⟨hm, hI⟩
    obtain ⟨env1, e3, h⟩ := hs d env S (hm d (List.mem_cons_self ..)) hI
    have hm' : ∀ e, e ∈ es → e ∈ ds := fun e he => hm e (List.mem_cons_of_mem _ he)
    with_unfolding_all exact ⟨env1, e3, h.mono (fun _ _ h => ⟨hm', h⟩) (fun _ _ h => h) (fun _ _ h => ⟨hm', h⟩) (fun _ _ h => h) (fun _ _ _ h => h)⟩
  · rintro env S ⟨_, hI⟩
    with_unfolding_all exact he _ _ hI
/-- with the items that are done and those that are left -/
theorem for_at {ds : List D} (I : List D → List D → Ev → Cells → Prop) (h0 : I [] ds env S) (hs : ∀ a d b env S, ds = a ++ d :: b → I a (d :: b) env S → ∃ env1, mg d env = some env1 ∧ RS (mb env1 S) ⟨I (a ++ [d]) b, N, I (a ++ [d]) b, T, Z⟩) (he : ∀ env S, I ds [] env S → N env S) :
    RS (forL mg mb ds env S) ⟨N, B, C, T, Z⟩ := by
  refine for_run (fun es env S => ∃ a, ds = a ++ es ∧ I a es env S) ?_ ?_ _ _ _ ⟨[], rfl, h0⟩
  · rintro d es env S ⟨a, e, hI⟩
    obtain ⟨env1, e3, h⟩ := hs a d es env S e hI
    have e' : ds = a ++ [d] ++ es := by rw [e]; simp
    with_unfolding_all exact ⟨env1, e3, h.mono (fun _ _ h => ⟨_, e', h⟩) (fun _ _ h => h) (fun _ _ h => ⟨_, e', h⟩) (fun _ _ h => h) (fun _ _ _ h => h)⟩
  · rintro env S ⟨a, e, hI⟩
    rw [List.append_nil] at e
    subst e
    with_unfolding_all exact he _ _ hI
end
section
variable {vs : List Nat} {mg : Mg} {mt : Mt} {me : Me} {env : Ev} {P : List D → Cells → Prop} {X : Ex → Cells → Prop} {S : Cells}
theorem comp_rg {lo : Int} {n : Nat} (I : Nat → List D → Cells → Prop) (h0 : I 0 [] S)
    (hs : ∀ k acc S, k < n → I k acc S → ∃ env1, mg (.int (lo + (k : Int))) (inEnv env vs) = some env1 ∧ RE (mt env1 S) (fun b S1 => Br b (RE (me env1 S1) (fun y S2 => acc.length < 16777216 ∧ I (k + 1) (acc ++ [y]) S2) nf) (I (k + 1) acc S1)) nf) (he : ∀ acc S, I n acc S → P acc S) :
    RE (compL vs mg mt me env (rgD lo n) [] S) P X := by
  refine comp_run (fun ds acc S => ∃ k, k ≤ n ∧ ds = (List.range' k (n - k)).map (fun (i : Nat) => D.int (lo + (i : Int))) ∧ I k acc S) ?_ ?_ _ _ _ ⟨0, Nat.zero_le _, rgD_eq _ _, h0⟩
  · rintro d ds acc S ⟨k, hk, e, hI⟩
    have hlt : k < n := by
      rcases Nat.lt_or_ge k n with h | h
      · with_unfolding_all exact h
      · have e0 : n - k = 0 := by omega
        rw [e0] at e; with_unfolding_all exact nomatch e
    obtain ⟨m, hm⟩ : ∃ m, n - k = m + 1 := ⟨n - k - 1, by omega⟩
    rw [hm, rgD_cons] at e
    injection e with e1 e2
    subst e1 e2
    obtain ⟨env1, e3, h⟩ := hs k acc S hlt hI
    have em : m = n - (k + 1) := by omega
    refine ⟨env1, e3, h.mono (fun b S1 h => ?_) (fun _ _ h => h)⟩
    cases b with
    | true =>
      rw [if_pos rfl]
      with_unfolding_all exact RE.mono h (fun y S2 h => ⟨h.1, k + 1, hlt, by rw [em], h.2⟩) (fun _ _ h => h)
    | false =>
      rw [if_neg (by decide)]
      with_unfolding_all exact ⟨k + 1, hlt, by rw [em], h⟩
  · rintro acc S ⟨k, hk, e, hI⟩
    have e1 := congrArg List.length e
    simp at e1
    have : k = n := by omega
    subst this
    with_unfolding_all exact he _ _ hI
/-- with the items that are done and those that are left -/
theorem comp_at {ds : List D} (I : List D → List D → List D → Cells → Prop) (h0 : I [] ds [] S)
    (hs : ∀ a d b acc S, ds = a ++ d :: b → I a (d :: b) acc S → ∃ env1, mg d (inEnv env vs) = some env1 ∧ RE (mt env1 S) (fun k S1 => Br k (RE (me env1 S1) (fun y S2 => acc.length < 16777216 ∧ I (a ++ [d]) b (acc ++ [y]) S2) nf) (I (a ++ [d]) b acc S1)) nf) (he : ∀ acc S, I ds [] acc S → P acc S) :
    RE (compL vs mg mt me env ds [] S) P X := by
  refine comp_run (fun es acc S => ∃ a, ds = a ++ es ∧ I a es acc S) ?_ ?_ _ _ _ ⟨[], rfl, h0⟩
  · rintro d es acc S ⟨a, e, hI⟩
    obtain ⟨env1, e3, h⟩ := hs a d es acc S e hI
    have e' : ds = a ++ [d] ++ es := by rw [e]; simp
    refine ⟨env1, e3, h.mono (fun b S1 h => ?_) (fun _ _ h => h)⟩
    cases b with
    | true =>
      rw [if_pos rfl]
      with_unfolding_all exact RE.mono h (fun y S2 h => ⟨h.1, _, e', h.2⟩) (fun _ _ h => h)
    | false =>
      rw [if_neg (by decide)]
      with_unfolding_all exact ⟨_, e', h⟩
  · rintro acc S ⟨a, e, hI⟩
    rw [List.append_nil] at e
    subst e
    with_unfolding_all exact he _ _ hI
end
section
variable {P : D → Cells → Prop} {X : Ex → Cells → Prop} {S : Cells}
theorem w_at_im {cs : List Int} {i : Int} (g : 0 ≤ i ∧ i < (cs.map D.int).length) (h : ∀ c, c ∈ cs → P (.int c) S) : RE (atO (L2.atI (cs.map D.int) i) id S) P X := by
  refine w_at_d g fun x hx _ => ?_
  obtain ⟨c, hc, rfl⟩ := List.mem_map.mp hx
  with_unfolding_all exact h c hc
theorem w_is_t {a : D} (e : isNon a = true) (h : P (.bl true) S) : RE (opIs a .non S) P X := by
  refine w_is ?_
  rw [e]; exact h
theorem w_is_f {a : D} (e : isNon a = false) (h : P (.bl false) S) : RE (opIs a .non S) P X := by
  refine w_is ?_
  rw [e]; exact h
theorem w_isn_t {a : D} (e : isNon a = true) (h : P (.bl false) S) : RE (opIsNot a .non S) P X := by
  refine w_isnot ?_
  rw [e]; exact h
theorem w_isn_f {a : D} (e : isNon a = false) (h : P (.bl true) S) : RE (opIsNot a .non S) P X := by
  refine w_isnot ?_
  rw [e]; exact h
theorem ixN_0 {n : Nat} (h : 0 < n) : ixN n 0 = some 0 := by
  unfold ixN
  rw [if_pos (by omega), if_pos (by omega)]
  rfl
def is_bool : D → Option Bool
  | .ty _ => none
  | .bl _ => some true
  | _ => some false
theorem isi_bool : ∀ d, isiB d "bool" = is_bool d
  | .non => rfl
  | .bl _ => rfl
  | .int _ => rfl
  | .str _ => rfl
  | .lst _ => rfl
  | .frl _ => rfl
  | .tup _ => rfl
  | .cell _ => rfl
  | .ty _ => rfl
theorem w_isi_bool {d : D} {b : Bool} (e : is_bool d = some b) (g : cellOk d S = true) (h : P (.bl b) S) : RE (fIsi [d, .ty "bool"] S) P X := w_isi (by rw [isi_bool]; exact e) g h
def is_int : D → Option Bool
  | .ty _ => none
  | .bl _ => some true
  | .int _ => some true
  | _ => some false
theorem isi_int : ∀ d, isiB d "int" = is_int d
  | .non => rfl
  | .bl _ => rfl
  | .int _ => rfl
  | .str _ => rfl
  | .lst _ => rfl
  | .frl _ => rfl
  | .tup _ => rfl
  | .cell _ => rfl
  | .ty _ => rfl
theorem w_isi_int {d : D} {b : Bool} (e : is_int d = some b) (g : cellOk d S = true) (h : P (.bl b) S) : RE (fIsi [d, .ty "int"] S) P X := w_isi (by rw [isi_int]; exact e) g h
def is_str : D → Option Bool
  | .ty _ => none
  | .str _ => some true
  | _ => some false
theorem isi_str : ∀ d, isiB d "str" = is_str d
  | .non => rfl
  | .bl _ => rfl
  | .int _ => rfl
  | .str _ => rfl
  | .lst _ => rfl
  | .frl _ => rfl
  | .tup _ => rfl
  | .cell _ => rfl
  | .ty _ => rfl
theorem w_isi_str {d : D} {b : Bool} (e : is_str d = some b) (g : cellOk d S = true) (h : P (.bl b) S) : RE (fIsi [d, .ty "str"] S) P X := w_isi (by rw [isi_str]; exact e) g h
def is_tuple : D → Option Bool
  | .ty _ => none
  | .tup _ => some true
  | _ => some false
theorem isi_tuple : ∀ d, isiB d "tuple" = is_tuple d
  | .non => rfl
  | .bl _ => rfl
  | .int _ => rfl
  | .str _ => rfl
  | .lst _ => rfl
  | .frl _ => rfl
  | .tup _ => rfl
  | .cell _ => rfl
  | .ty _ => rfl
theorem w_isi_tuple {d : D} {b : Bool} (e : is_tuple d = some b) (g : cellOk d S = true) (h : P (.bl b) S) : RE (fIsi [d, .ty "tuple"] S) P X := w_isi (by rw [isi_tuple]; exact e) g h
def is_list : D → Option Bool
  | .ty _ => none
  | .lst _ => some true
  | .frl _ => some true
  | .cell _ => some true
  | _ => some false
theorem isi_list : ∀ d, isiB d "list" = is_list d
  | .non => rfl
  | .bl _ => rfl
  | .int _ => rfl
  | .str _ => rfl
  | .lst _ => rfl
  | .frl _ => rfl
  | .tup _ => rfl
  | .cell _ => rfl
  | .ty _ => rfl
theorem w_isi_list {d : D} {b : Bool} (e : is_list d = some b) (g : cellOk d S = true) (h : P (.bl b) S) : RE (fIsi [d, .ty "list"] S) P X := w_isi (by rw [isi_list]; exact e) g h
theorem w_pow18 (h : P (.int 1000000000000000000) S) : RE (opPow (.int 10) (.int 18) S) P X := by
  refine w_pow ⟨by decide, by decide, by decide⟩ ?_
  have e : (10 : Int) ^ (18 : Int).toNat = 1000000000000000000 := by decide
  rw [e]; with_unfolding_all exact h
theorem w_fdiv_s {i j : Int} (g : 0 < j ∧ j < 9223372036854775808) (h : P (.int (i / j)) S) : RE (opFDiv (.int i) (.int j) S) P X := by with_unfolding_all exact w_fdiv (divOk_s g.1 g.2) h
end

/-! ### keywords -/
inductive Sel (l : List D) : List Nat → List D → Prop
  | z : Sel l [] []
  | s {i : Nat} {ix : List Nat} {d : D} {r : List D} (e : l[i]? = some d) (h : Sel l ix r) : Sel l (i :: ix) (d :: r)
theorem Sel.eq {l : List D} : ∀ {ix : List Nat} {r : List D}, Sel l ix r → sel ix l = r
  | _, _, .z => rfl
  | _, _, .s (i := i) (ix := ix) e h => by
    unfold sel
    rw [List.filterMap_cons_some e]
    exact congrArg _ h.eq
def kwP (n m : Nat) (ix : List Nat) (ds es : List D) (p : List D → Prop) : Prop := (ds.length = n ∧ es.length = m) ∧ p (sel ix (ds ++ es))
theorem w_kwp {P : List D → Cells → Prop} {X : Ex → Cells → Prop} {env : Ev} {S : Cells} {n m : Nat} {ix : List Nat} {ma mk : Ma} (h : RE (ma env S) (fun ds S => RE (mk env S) (fun es S => kwP n m ix ds es fun args => P args S) X) X) : RE (aKw n m ix ma mk env S) P X := w_kw h
theorem kwp_i {n m : Nat} {ix : List Nat} {ds es r : List D} {p : List D → Prop} (e1 : ds.length = n) (e2 : es.length = m) (s : Sel (ds ++ es) ix r) (h : p r) : kwP n m ix ds es p := by
  refine ⟨⟨e1, e2⟩, ?_⟩
  rw [s.eq]; exact h

/-! ### the store of six -/
section
variable {P : D → Cells → Prop} {X : Ex → Cells → Prop} {N : Cells → Prop} {x a b c d e f : D} {S : Cells}
theorem w_ix6_0 (h : P a ([a, b, c, d, e, f] :: S)) : RE (opIx (.cell 0) (.int 0) ([a, b, c, d, e, f] :: S)) P X := by with_unfolding_all exact h
theorem w_ix6_1 (h : P b ([a, b, c, d, e, f] :: S)) : RE (opIx (.cell 0) (.int 1) ([a, b, c, d, e, f] :: S)) P X := by with_unfolding_all exact h
theorem w_ix6_2 (h : P c ([a, b, c, d, e, f] :: S)) : RE (opIx (.cell 0) (.int 2) ([a, b, c, d, e, f] :: S)) P X := by with_unfolding_all exact h
theorem w_ix6_3 (h : P d ([a, b, c, d, e, f] :: S)) : RE (opIx (.cell 0) (.int 3) ([a, b, c, d, e, f] :: S)) P X := by with_unfolding_all exact h
theorem w_ix6_4 (h : P e ([a, b, c, d, e, f] :: S)) : RE (opIx (.cell 0) (.int 4) ([a, b, c, d, e, f] :: S)) P X := by with_unfolding_all exact h
theorem w_ix6_5 (h : P f ([a, b, c, d, e, f] :: S)) : RE (opIx (.cell 0) (.int 5) ([a, b, c, d, e, f] :: S)) P X := by with_unfolding_all exact h
theorem w_pt6_0 (h : N ([x, b, c, d, e, f] :: S)) : putP (.cell 0) (.int 0) x ([a, b, c, d, e, f] :: S) N := ⟨_, 0, rfl, rfl, h⟩
theorem w_pt6_1 (h : N ([a, x, c, d, e, f] :: S)) : putP (.cell 0) (.int 1) x ([a, b, c, d, e, f] :: S) N := ⟨_, 1, rfl, rfl, h⟩
theorem w_pt6_2 (h : N ([a, b, x, d, e, f] :: S)) : putP (.cell 0) (.int 2) x ([a, b, c, d, e, f] :: S) N := ⟨_, 2, rfl, rfl, h⟩
theorem w_pt6_3 (h : N ([a, b, c, x, e, f] :: S)) : putP (.cell 0) (.int 3) x ([a, b, c, d, e, f] :: S) N := ⟨_, 3, rfl, rfl, h⟩
theorem w_pt6_4 (h : N ([a, b, c, d, x, f] :: S)) : putP (.cell 0) (.int 4) x ([a, b, c, d, e, f] :: S) N := ⟨_, 4, rfl, rfl, h⟩
theorem w_pt6_5 (h : N ([a, b, c, d, e, x] :: S)) : putP (.cell 0) (.int 5) x ([a, b, c, d, e, f] :: S) N := ⟨_, 5, rfl, rfl, h⟩
end

/-! ### slices -/
theorem cut_len {α : Type} (x : List α) (l u : Option Int) : (cut x l u).length ≤ x.length := by
  unfold cut
  simp only [List.length_take, List.length_drop]
  omega
theorem cut_sub {α : Type} {x : List α} {l u : Option Int} {a : α} (h : a ∈ cut x l u) : a ∈ x := List.mem_of_mem_drop (List.mem_of_mem_take h)
theorem cut_nn {α : Type} (x : List α) (a b : Nat) : cut x (some (a : Int)) (some (b : Int)) = (x.drop (min a x.length)).take (min b x.length - min a x.length) := by
  unfold cut
  rw [HT.sIx_nat, HT.sIx_nat]
theorem cut_add {α : Type} (x : List α) (a n : Nat) (h : a + n ≤ x.length) : cut x (some (a : Int)) (some ((a : Int) + (n : Int))) = (x.drop a).take n := by
  have e : ((a : Int) + (n : Int)) = ((a + n : Nat) : Int) := by omega
  rw [e, cut_nn, Nat.min_eq_left h, Nat.min_eq_left (a := a) (by omega)]
  congr 1
  omega
theorem cut_pre {α : Type} (x : List α) (b : Nat) : cut x none (some (b : Int)) = x.take b := by
  unfold cut
  rw [HT.sIx_nat, HT.sIx_none]
  simp only [List.drop_zero, Nat.sub_zero]
  rw [← List.take_eq_take_min]
theorem cut_suf {α : Type} (x : List α) (b : Nat) : cut x (some (b : Int)) none = x.drop b := by
  unfold cut
  rw [HT.sIx_nat, HT.sIx_none]
  rw [List.take_of_length_le (by simp)]
  rcases Nat.le_total b x.length with h | h
  · rw [Nat.min_eq_left h]
  · rw [Nat.min_eq_right h, List.drop_length, List.drop_eq_nil_of_le h]

/-! ### where lengths alone are asked -/
section
variable {P : D → Cells → Prop} {X : Ex → Cells → Prop} {S : Cells}
theorem l_sl_pre {x : List Char} {b : Int} (g : x.length ≤ 16777216 ∧ 0 ≤ b) (h : ∀ y : List Char, y.length ≤ x.length → (y.length : Int) ≤ b → P (.str y) S) : RE (opSl (.str x) none (some b) S) P X := by
  refine w_sl_s g.1 (h _ (cut_len _ _ _) ?_)
  obtain ⟨n, rfl⟩ : ∃ n : Nat, b = (n : Int) := ⟨b.toNat, by omega⟩
  rw [cut_pre, List.length_take]
  omega
theorem l_sl {x : List Char} {a b : Option Int} (g : x.length ≤ 16777216) (h : ∀ y : List Char, y.length ≤ x.length → P (.str y) S) : RE (opSl (.str x) a b S) P X :=
  w_sl_s g (h _ (cut_len _ _ _))
theorem l_mul {x : List Char} {n : Int} (g : 0 ≤ n ∧ n ≤ 10000 ∧ x.length ≤ 1000) (h : ∀ y : List Char, y.length ≤ 10000000 → P (.str y) S) : RE (opMul (.str x) (.int n) S) P X := by
  have e : x.length * n.toNat ≤ 10000000 := Nat.le_trans (Nat.mul_le_mul g.2.2 (show n.toNat ≤ 10000 by omega)) (by decide)
  refine w_mul_s ⟨by omega, by omega, by omega⟩ (h _ ?_)
  simp only [List.length_flatten, List.map_replicate, List.sum_replicate_nat]
  rw [Nat.mul_comm]; exact e
theorem l_add1 {x : List Char} {c : Char} (g : x.length ≤ 16777215) (h : ∀ z : List Char, z.length = x.length + 1 → P (.str z) S) : RE (opAdd (.str x) (.str [c]) S) P X := w_add_s (by simp; omega) (h _ (by simp))
theorem l_add {x y : List Char} (g : x.length + y.length ≤ 16777216) (h : ∀ z : List Char, z.length = x.length + y.length → P (.str z) S) : RE (opAdd (.str x) (.str y) S) P X := w_add_s g (h _ (by simp))
end

/-! ### a text in a text -/
def occ (x y : List Char) (k : Nat) : Bool := decide (k + y.length ≤ x.length ∧ (x.drop k).take y.length = y)
theorem at_occ {x y : List Char} {k : Nat} : StrLaws.At (cps x) (cps y) (cps x).length k ↔ occ x y k = true := by
  have l1 : ∀ z : List Char, (cps z).length = z.length := fun z => by simp [cps, Str.length]
  unfold StrLaws.At occ
  rw [StrLaws.subAt_eq, l1, l1]
  simp only [decide_eq_true_eq]
  refine and_congr Iff.rfl ?_
  show (((x.map Char.toNat).drop k).take y.length == y.map Char.toNat) = true ↔ _
  rw [beq_iff_eq, ← List.map_drop, ← List.map_take]
  constructor
  · intro h
    with_unfolding_all exact cps_inj (by unfold cps; rw [h])
  · intro h
    rw [h]
theorem f3_occ (x y : List Char) (i : Nat) : (Txt.find3 (cps x) (cps y) i = -1 ∧ ∀ k, i ≤ k → occ x y k = false) ∨ ∃ k : Nat, Txt.find3 (cps x) (cps y) i = k ∧ i ≤ k ∧ occ x y k = true ∧ ∀ j, i ≤ j → j < k → occ x y j = false := by
  have l1 : ∀ z : List Char, (cps z).length = z.length := fun z => by simp [cps, Str.length]
  have ef : fromIndex (cps x).length (i : Int) = i := by
    unfold fromIndex
    rw [if_neg (by omega)]
    omega
  have hn : ∀ {k}, ¬ StrLaws.At (cps x) (cps y) (cps x).length k → occ x y k = false := fun h => by
    rw [at_occ] at h
    simpa using h
  unfold Txt.find3
  rw [ef, StrLaws.occ_eq]
  rcases StrLaws.occ_first (cps x) (cps y) (cps x).length 1 (by decide) (List.range' i ((cps x).length + 1 - i)) i (fun j hj => by rw [List.mem_range'_1] at hj; with_unfolding_all exact hj.1) with ⟨h0, h1⟩ | ⟨pre, a, post, e, h0, ha, h1⟩
  · left
    rw [h0]
    refine ⟨rfl, fun k hk => ?_⟩
    by_cases h : k < (cps x).length + 1
    · with_unfolding_all exact hn (h1 k (by rw [List.mem_range'_1]; omega))
    · rw [l1] at h
      unfold occ
      simp
      omega
  · right
    have ia : i ≤ a ∧ a ∈ List.range' i ((cps x).length + 1 - i) := by
      have : a ∈ List.range' i ((cps x).length + 1 - i) := by rw [e]; simp
      with_unfolding_all exact ⟨(List.mem_range'_1.mp this).1, this⟩
    refine ⟨a, ?_, ia.1, at_occ.mp ha, fun j h2 h3 => hn (h1 j ?_)⟩
    · rw [← Array.getElem?_toList] at h0
      generalize (forIn (List.range' i ((cps x).length + 1 - i)) ((#[] : Array Nat), i) (StrLaws.occBody (cps x) (cps y) (cps x).length 1)).run.fst.toList = l at h0 ⊢
      cases l with
      | nil => cases h0
      | cons b r =>
        injection h0 with h0
        rw [h0]
    · have hlen : pre.length = a - i := by
        have h1' : (List.range' i ((cps x).length + 1 - i))[pre.length]? = some a := by rw [e]; simp
        have hb : pre.length < (cps x).length + 1 - i := by
          have := congrArg List.length e
          simp at this
          omega
        rw [List.getElem?_range' hb] at h1'
        injection h1' with h1'
        omega
      have h2' : (List.range' i ((cps x).length + 1 - i))[j - i]? = pre[j - i]? := by rw [e, List.getElem?_append_left (by omega)]
      have hb : j - i < (cps x).length + 1 - i := by
        have := (List.mem_range'_1.mp ia.2).2
        omega
      rw [List.getElem?_range' hb] at h2'
      have e3 : i + 1 * (j - i) = j := by omega
      rw [e3] at h2'
      with_unfolding_all exact List.mem_of_getElem? h2'.symm
def occs (x y : List Char) (n : Nat) : List Nat := (List.range n).filter (occ x y)
theorem occs_len (x y : List Char) (n : Nat) : (occs x y n).length ≤ n := by
  have := List.length_filter_le (occ x y) (List.range n)
  simpa [occs] using this
theorem occs_gap {x y : List Char} {n : Nat} : ∀ {m : Nat}, n ≤ m → (∀ k, n ≤ k → k < m → occ x y k = false) → occs x y m = occs x y n
  | 0, h, _ => by
    have : n = 0 := by omega
    rw [this]
  | m + 1, h, hk => by
    rcases Nat.lt_or_ge n (m + 1) with h1 | h1
    · have e : occs x y (m + 1) = occs x y m := by
        unfold occs
        rw [List.range_succ, List.filter_append]
        simp [hk m (by omega) (by omega)]
      rw [e]
      with_unfolding_all exact occs_gap (by omega) fun k h2 h3 => hk k h2 (by omega)
    · have : n = m + 1 := by omega
      rw [this]
theorem occs_hit {x y : List Char} {m : Nat} (h : occ x y m = true) : occs x y (m + 1) = occs x y m ++ [m] := by
  unfold occs
  rw [List.range_succ, List.filter_append]
  simp [h]
theorem occs_miss {x y : List Char} {m : Nat} (h : occ x y m = false) : occs x y (m + 1) = occs x y m := occs_gap (by omega) fun k h1 h2 => by
  have : k = m := by omega
  rw [this]; with_unfolding_all exact h
theorem occ_le {x y : List Char} {k : Nat} (h : occ x y k = true) : k + y.length ≤ x.length := by
  unfold occ at h
  simp at h
  with_unfolding_all exact h.1
def occI (x y : List Char) : List D := (occs x y (x.length + 1)).map fun (n : Nat) => .int (n : Int)
theorem occI_len (x y : List Char) : (occI x y).length ≤ x.length + 1 := by
  unfold occI
  rw [List.length_map]
  exact occs_len _ _ _
/-! ### texts put together -/
def oneC (d : D) : Prop := ∃ c, d = .str [c]
theorem strs_one : ∀ {es : List D}, (∀ d, d ∈ es → oneC d) → ∃ ys, strsD es = some ys ∧ (ys.map List.length).sum = es.length ∧ ys.length = es.length
  | [], _ => ⟨[], rfl, rfl, rfl⟩
  | d :: es, h => by
    obtain ⟨ys, e1, e2, e3⟩ := strs_one fun d hd => h d (List.mem_cons_of_mem _ hd)
    obtain ⟨c, rfl⟩ := h d (List.mem_cons_self ..)
    refine ⟨[c] :: ys, by unfold strsD; rw [e1]; rfl, ?_, by simp [e3]⟩
    simp [e2]; omega
theorem joinC_nil : ∀ ys : List (List Char), joinC [] ys = ys.flatten
  | [] => rfl
  | [p] => by simp [joinC]
  | p :: q :: r => by
    show p ++ ([] ++ joinC [] (q :: r)) = _
    rw [joinC_nil (q :: r)]; with_unfolding_all rfl
theorem w_join_one {P : D → Cells → Prop} {X : Ex → Cells → Prop} {S : Cells} {es : List D} (h1 : ∀ d, d ∈ es → oneC d) (h2 : es.length ≤ 16777216) (h : ∀ x : List Char, x.length = es.length → P (.str x) S) : RE (fJoin [] [.lst es] S) P X := by
  obtain ⟨ys, e1, e2, e3⟩ := strs_one h1
  refine w_join e1 (by rw [e2]; simp; with_unfolding_all exact h2) (h _ ?_)
  rw [joinC_nil, List.length_flatten, e2]
/-! ### what is the same as itself -/
def Gd : Nat → D → Prop
  | 0, _ => False
  | n + 1, .lst ds => ds.length < 4611686018427387904 ∧ ∀ d, d ∈ ds → Gd n d
  | n + 1, .tup ds => ds.length < 4611686018427387904 ∧ ∀ d, d ∈ ds → Gd n d
  | _ + 1, .non => True
  | _ + 1, .bl _ => True
  | _ + 1, .int _ => True
  | _ + 1, .str _ => True
  | _ + 1, _ => False
theorem gd_ints {n : Nat} {is : List Nat} (h : is.length < 4611686018427387904) : Gd (n + 2) (.lst (is.map fun (n : Nat) => .int (n : Int))) := by
  refine ⟨by simpa using h, fun d hd => ?_⟩
  obtain ⟨k, _, rfl⟩ := List.mem_map.mp hd
  trivial
end TT
namespace TT
open PySem PySem.Spec PyProof.Rows L2

/-! ### an error class with its own __init__, which says super().__init__ -/
/-- the frame: __class__ is captured -/
def envI (qual : Str) (scope : Scope) (L f : Addr) (cd : Value) (cc : Addr) : Env := PySem.W.envX qual scope L f cd [("__class__", cc)]
def cxI (P : Program) (w : World) (K : PySem.W.Frag) (mg : Str → Option Value) (base : Heap) (N : List Str) (qual : Str) (scope : Scope) (f : Addr) (cd : Value) (cc : Addr) (A : Around) (outer : List Env) (s : Shared) (H : Hp) (E : XK) : Cx where
  prog := P
  w := w
  K := K
  mg := mg
  base := base
  A := A.deeper (envI qual scope s.heap.objs.size f cd cc)
  N := N
  s_0 := s
  H_0 := H
  env := envI qual scope s.heap.objs.size f cd cc
  outer := outer
  stack := envI qual scope s.heap.objs.size f cd cc :: outer
  ex := []
  calm := true
  fn := fun _ => false
  pn := []
  xe := fun e s' => wpAny (model P w) (A.deeper (envI qual scope s.heap.objs.size f cd cc)) (leaving (envI qual scope s.heap.objs.size f cd cc) e) (fun _ s'' => L2.CX P w outer H s E e s'') (fun e' s'' => L2.CX P w outer H s E e' s'') s'
/-- the scope of such an __init__ -/
structure ScI (N ps : List Str) (sc : Scope) : Prop where
  kind : sc.kind = .function
  co : sc.isCoroutine = false
  gen : sc.isGenerator = false
  nd : N.Nodup
  eqN : N = ps
  par : ∀ x ∈ ps, sc.names.lookup x = some .local
  nocell : ∀ x ∈ sc.names, x.2 ≠ .cell
  free : ∀ x ∈ sc.names, x.2 = .free → x.1 = "__class__"
  sup : sc.names.lookup ("super" : Str) = some .globalImplicit
  cls : sc.names.lookup ("__class__" : Str) = some .free
theorem zip_rev_get {x : Str} {u : Value} : ∀ {ps : List Str} {us : List Value} {i : Nat}, ps.Nodup → ps[i]? = some x → us[i]? = some u → (ps.zip us).reverse.lookup x = some u := by
  have key : ∀ (l : List (Str × Value)) (y : Str) (v : Value), (l ++ [(y, v)]).lookup x = match l.lookup x with | some z => some z | none => if x = y then some v else none := by
    intro l y v
    induction l with
    | nil =>
      by_cases h : x = y
      · subst h
        simp [List.lookup]
      · have e : (x == y) = false := by simpa using h
        simp [List.lookup, e, h]
    | cons p l ih =>
      obtain ⟨a, b⟩ := p
      by_cases h : x = a
      · subst h
        simp [List.lookup]
      · have e : (x == a) = false := by simpa using h
        simp only [List.cons_append, List.lookup, e]
        exact ih
  have out : ∀ (ps : List Str) (us : List Value), x ∉ ps → (ps.zip us).reverse.lookup x = none := by
    intro ps
    induction ps with
    | nil => intro us _; simp [List.lookup]
    | cons p ps ih =>
      intro us hx
      cases us with
      | nil => simp [List.lookup]
      | cons v us =>
        rw [List.zip_cons_cons, List.reverse_cons, key, ih us (fun h => hx (List.mem_cons_of_mem _ h))]
        have : x ≠ p := fun h => hx (by rw [h]; exact List.mem_cons_self ..)
        simp [this]
  intro ps
  induction ps with
  | nil => intro us i _ h; simp at h
  | cons p ps ih =>
    intro us i nd h1 h2
    cases us with
    | nil => simp at h2
    | cons v us =>
      rw [List.zip_cons_cons, List.reverse_cons, key]
      cases i with
      | zero =>
        simp at h1 h2
        subst h1
        subst h2
        rw [out ps us (List.nodup_cons.mp nd).1]
        simp
      | succ i =>
        rw [ih (i := i) (List.nodup_cons.mp nd).2 (by simpa using h1) (by simpa using h2)]
section
variable {P : Program} {w : World} {K : PySem.W.Frag} {mg : Str → Option Value} {base : Heap} {N ps : List Str} {qual : Str} {scope : Scope} {f : Addr} {cd : Value} {cc : Addr} {A : Around} {outer : List Env} {s : Shared} {H : Hp} {E : XK} {us : List Value} {vs : List V} {h₀ : Heap}
theorem lkp_one {x : Str} {c : Addr} (h : ([(("__class__" : Str), cc)] : List (Str × Addr)).lookup x = some c) : x = "__class__" ∧ c = cc := by
  by_cases e : x = ("__class__" : Str)
  · subst e
    simp [List.lookup] at h
    exact ⟨rfl, h.symm⟩
  · have q : (x == ("__class__" : Str)) = false := by simpa using e
    simp [List.lookup, q] at h
theorem inv_startI {oc : Value} {od : Option Addr} {o : Option Value} {sl : Array (Option Value)} {t : Nat} (S : ScI N ps scope) (hd : A.handled = none) (e0 : Env0 P w K mg base A outer s H) (hl : vs.length = ps.length) (r : Vals vs us)
    (lcc : K.lookup cc = some ⟨oc, od, .cell o, sl⟩)
    (hn : h₀.Ns s.heap.objs.size (fun x => (ps.zip us).reverse.lookup x)) (hk : ∀ b o, s.heap.get? b = some o → h₀.get? b = some o) :
    Inv (cxI P w K mg base N qual scope f cd cc A outer s H E) [] (vs.map some) H { s with heap := h₀, toks := t } := by
  have noA : ∀ b : Addr, b ∉ (cxI P w K mg base N qual scope f cd cc A outer s H E).ex := fun b z => absurd (show b ∈ ([] : List Addr) from z) (by simp)
  have bcc := e0.mod.kin _ _ lcc
  have hcc : ∀ {x : Str} {c : Addr}, (cxI P w K mg base N qual scope f cd cc A outer s H E).env.cells.lookup x = some c → x = "__class__" ∧ c = cc := fun h => lkp_one h
  refine ⟨⟨e0.mod, S.kind, rfl, rfl, Nat.le_refl _, fun y z c h1 h2 => ?_, fun y hy => ?_, fun y c h _ => ?_, fun _ => hd, Around.frames_deeper e0.frames, .inr ⟨rfl, rfl⟩, fun b z => absurd z (noA b), e0.bs, e0.bsz, fun b _ _ => noA b, fun b z => absurd z (noA b), e0.funs, e0.frf⟩,
    rfl, e0.bare, Un.kept hk, ⟨_, hn, fun i y v h1 h2 h3 => ?_⟩, fun y c h => ?_, e0.hok.fresh (Nat.le_refl _), fun y c h => ?_, fun p hp => absurd (show p ∈ ([] : List (Addr × Obj)) from hp) (by simp), e0.hok.kept hk, ?_⟩
  · rw [(hcc h1).1, (hcc h2).1]
  · have hy' : scope.names.lookup y = some .cell ∨ scope.names.lookup y = some .free := hy
    rcases hy' with hy' | hy'
    · exact absurd rfl (S.nocell _ (PySem.mem_of_lookup hy'))
    · have := S.free _ (PySem.mem_of_lookup hy') rfl
      have e : y = "__class__" := this
      subst e
      exact ⟨cc, by show ([(("__class__" : Str), cc)] : List (Str × Addr)).lookup _ = _; simp [List.lookup]⟩
  · cases h
  · have h1' : N[i]? = some y := h1
    rw [S.eqN] at h1'
    have hv : vs[i]? = some v := by
      rw [List.getElem?_map] at h2
      cases q : vs[i]? with
      | none => rw [q] at h2; cases h2
      | some a => rw [q] at h2; cases h2; rfl
    obtain ⟨u, hu, rv⟩ := r.get hv
    have nd : ps.Nodup := by rw [← S.eqN]; exact S.nd
    exact ⟨u, rv, .inl ⟨S.par y (List.mem_of_getElem? h1'), zip_rev_get nd h1' hu⟩⟩
  · obtain ⟨rfl, rfl⟩ := hcc h
    exact ⟨o, _, hk _ _ (e0.bs _ _ bcc).1, rfl⟩
  · obtain ⟨rfl, rfl⟩ := hcc h
    exact (e0.bs _ _ bcc).2
  · show (vs.map some).length = N.length
    rw [List.length_map, hl, S.eqN]
end
/-- what the written part says of such a class and its __init__ -/
structure ErrI (P : Program) (K : PySem.W.Frag) (mg : Str → Option Value) (C fI : Addr) (qual : Str) (params : Arguments) (body : List Stmt) (scope : Scope) (fd : FuncData) : Prop where
  ox : OexC K C
  iC : PySem.W.findIn K (.ref C) "__init__" = some (some (.ref fI))
  tI : PySem.W.typeIn K (.ref fI) = some (.type "function")
  gS : mg "super" = none
  opq : PySem.W.nsIn K cStatics "thirdparty.any" = some none
  supI : PySem.W.ks_superIn K C C "__init__" = some (some (.builtin "ValueError.__init__"))
  subV : PySem.W.subIn K (.ref C) (.type "ValueError") = some true
  subC : PySem.W.mroIn K C (.ref C) = some true
  top : (P.main.scope.names.lookup ("super" : Str)).isSome = false
  ex : ∃ (oc : Value) (od : Option Addr) (osl : Array (Option Value)) (kV doc pm : Value) (an : Option Addr) (cda : Addr) (ct : Value) (cc : Addr) (ccl : Value) (cdd : Option Addr) (vs : Array Value) (ccs : Array (Option Value)) (file : Str) (tf : Tok) (cl : Value) (cld : Option Addr) (csl : Array (Option Value)),
    fd = PySem.W.fnX "__init__" qual params body scope [("__class__", cc)] .none kV doc pm an (.ref cda) ct ∧ K.lookup fI = some ⟨oc, od, .func fd, osl⟩ ∧ PySem.W.codeIn K (.ref cda) qual = true ∧
    K.lookup cda = some ⟨ccl, cdd, .fields vs, ccs⟩ ∧ vs[2]? = some (.str file tf) ∧ ((P.main.file : Str) == file) = true ∧ K.lookup cc = some ⟨cl, cld, .cell (some (.ref C)), csl⟩
section
variable {P : Program} {w : World} {K : PySem.W.Frag} {mg : Str → Option Value} {base : Heap} {N ps : List Str} {qual : Str} {scope : Scope} {fI C a : Addr} {params : Arguments} {body body' : List Stmt} {fd : FuncData} {A : Around} {outer : List Env} {s s0 : Shared} {H H0 : Hp} {E : XK} {σ : L2.St}
/-- the exception's args are laid anew: nothing of it is told -/
theorem bound_init {X : Cx} {pins : List (Addr × Obj)} {u : Addr} {us : List Value} {Q : Value → Shared → Prop} {Er : Value → Shared → Prop} {A' : Around} (T : OexC X.K C) (I : Inv X pins σ H s) (e : H a = some (exo a C none)) (hu : s.heap.get? u = some (PySem.W.kxs_mw "ValueError.__init__" a))
    (hl : us.length ≤ sizeLine) (h : ∀ s', Inv X pins σ H s' → Q .none s') : wpAny (model X.prog X.w) A' (call (.ref u) us) Q Er s := by
  obtain ⟨nm, q, N', bs, bm, sn, sub, ab, col, dd, k0, k1, k2, k3, k5, hC, hbm⟩ := T.cls
  obtain ⟨t1, ho⟩ := exo_at I.hok e
  have hC' := I.kIn _ _ hC
  obtain ⟨hp, g, d, t, os⟩ := s
  refine wpAny_call (codeAny_of_tree ?_)
  show wpAny _ A'.in1 (callAny (.ref u) ⟨us, []⟩) _ _ _
  simp only [callAny]
  refine wpAny_bind (wpAny_load hu ?_)
  simp only [PySem.W.kxs_mw, show (Value.type "method-wrapper" == Value.type "method" || Value.type "method-wrapper" == Value.type "builtin_function_or_method" || Value.type "method-wrapper" == Value.type "method-wrapper") = true by decide, if_true]
  refine PySem.W.KFB.if_so (by decide) ?_
  refine wpAny_bind (PySem.W.check_bound_init F.excBase_ValueError.toExcCallFacts hC' ho rfl ?_)
  refine wpAny_bind (wpAny_pure (wpAny_pure ?_))
  refine ⟨plainId_quiet F.excBase_ValueError.init.plain _, codeAny_builtin F.excBase_ValueError.initEntry ?_⟩
  refine PySem.W.exc_init_tree (cls := .ref C) (t0 := t1) (dv := none) (c2 := .none) (c3 := .none) (b4 := .bool false) ho hl fun h' k hx _ => ?_
  have J := I.write (t' := t) (x := a) (e := a) (o := exo a C none) (by rw [e]; exact True.intro) (.inl rfl) k ⟨_, hx⟩ (exo_ok hx)
  have eu : upd H a (exo a C none) = H := by
    funext b
    by_cases hb : b = a
    · rw [hb, upd_same, e]
    · rw [upd_ne hb]
  rw [eu] at J
  exact h _ J
theorem super_st {arg : Expr} {t : TE} {D : Hp → Prop} {p0 p1 p2 p3 p4 : Pos} {ar : Arg} {cda cc : Addr} {ccl : Value} {cdd od : Option Addr} {vs : Array Value} {ccs osl csl : Array (Option Value)} {file : Str} {tf : Tok} {oc cl : Value} {cld : Option Addr} {plx : Sem Bool}
    (S : ScI N ps scope) (T : ErrI P K mg C fI qual params body scope fd)
    (lf : K.lookup fI = some ⟨oc, od, .func fd, osl⟩) (lcd : K.lookup cda = some ⟨ccl, cdd, .fields vs, ccs⟩) (hvs : vs[2]? = some (.str file tf)) (hfile : ((P.main.file : Str) == file) = true) (lcc : K.lookup cc = some ⟨cl, cld, .cell (some (.ref C)), csl⟩)
    (hp : (fd.params.posonlyargs ++ fd.params.args).head? = some ar) (har : ar.arg = ("self" : Str)) (h0 : N[0]? = some ("self" : Str)) (hσ : σ[0]? = some (some (.ref a)))
    (I : Inv (cxI P w K mg base N qual scope fI (.ref cda) cc A outer s0 H0 E) [] σ H s) (ha : H a = some (exo a C none))
    (harg : PE (cxI P w K mg base N qual scope fI (.ref cda) cc A outer s0 H0 E) arg t) (ht : t σ H fun _ H1 => H1 a = some (exo a C none) ∧ D H1)
    (he : eval (.Call (.Attribute (.Call (.Name "super" p0) [] [] p1) "__init__" p2) [arg] [] p3) (envI qual scope s0.heap.objs.size fI (.ref cda) cc) = (do
      let ov ← attributeBase (.Call (.Name "super" p0) [] [] p1) "__init__" (envI qual scope s0.heap.objs.size fI (.ref cda) cc) (eval (.Call (.Name "super" p0) [] [] p1) (envI qual scope s0.heap.objs.size fI (.ref cda) cc))
      standAt p2.atName
      let (f, first) ← holding [ov] (getMethod ov "__init__" plx)
      callWith p3 f first (backTo p3 (starEach [arg] (envI qual scope s0.heap.objs.size fI (.ref cda) cc))) []))
    (hs1 : starEach [arg] (envI qual scope s0.heap.objs.size fI (.ref cda) cc) = (false, eval arg (envI qual scope s0.heap.objs.size fI (.ref cda) cc)) :: starEach [] (envI qual scope s0.heap.objs.size fI (.ref cda) cc))
    (hi : interactive (envI qual scope s0.heap.objs.size fI (.ref cda) cc) = false) (hsw : swapsWith (.Call (.Attribute (.Call (.Name "super" p0) [] [] p1) "__init__" p2) [arg] [] p3) none p4.line (envI qual scope s0.heap.objs.size fI (.ref cda) cc) = pure false) :
    _root_.PySem.wpAt (model P w) (A.deeper (envI qual scope s0.heap.objs.size fI (.ref cda) cc)) (.func body' (envI qual scope s0.heap.objs.size fI (.ref cda) cc))
      (exec (.Expr (.Call (.Attribute (.Call (.Name "super" p0) [] [] p1) "__init__" p2) [arg] [] p3) p4) (envI qual scope s0.heap.objs.size fI (.ref cda) cc))
      (fun fl s' => fl = .next ∧ ∃ H', Inv (cxI P w K mg base N qual scope fI (.ref cda) cc A outer s0 H0 E) [] σ H' s' ∧ H' a = some (exo a C none) ∧ D H') (cxI P w K mg base N qual scope fI (.ref cda) cc A outer s0 H0 E).xe s := by
  refine ks_wpAt_Expr_any ?_ hi hsw
  refine ks_wpAt_MethodCall (pl := plx) ?_ he
  have X : K.In s.heap := I.kIn
  have hps : (PySem.Str.ofString "self") ∈ ps := by
    have q := h0
    rw [S.eqN] at q
    exact List.mem_of_getElem? q
  have lSf : scope.names.lookup ("self" : Str) = some .local := S.par _ hps
  obtain ⟨nm, q, N', bs, bm, sn, sub, ab, col, dd, k0, k1, k2, k3, k5, hC, hbm⟩ := T.ox.cls
  have hcd : PySem.W.clsIn K C = some { name := nm, bases := bs, mro := .ref C :: bm, ns := N', qualname := q, hasDict := true, slotNames := sn, subclasses := sub, abstract := ab, collection := col, hasDel := false } := by unfold PySem.W.clsIn; rw [hC] <;> rfl
  obtain ⟨t1, ho⟩ := exo_at I.hok ha
  have hne : a ≠ C := fun z => by
    have y := X _ _ hC
    rw [← z, ho] at y
    cases y
  obtain ⟨m, hm, hlk⟩ := id I.loc
  have hself : m "self" = some (.ref a) := by
    obtain ⟨u, ru, q⟩ := hlk 0 "self" (.ref a) h0 hσ (.inl lSf)
    rcases q with ⟨_, q⟩ | ⟨q, _⟩
    · rw [q]
      have : u = .ref a := ru
      rw [this]
    · have q' : scope.names.lookup ("self" : Str) = some .cell ∨ scope.names.lookup ("self" : Str) = some .free := q
      rw [lSf] at q'
      rcases q' with q' | q' <;> cases q'
  obtain ⟨mb, hb1, hb2⟩ := I.mod.blt
  have hsup : PySem.W.ks_superIn K C C "__init__" = some (some (.builtin "ValueError.__init__")) := T.supI
  refine ks_wpAt_super_base (env := envI qual scope s0.heap.objs.size fI (.ref cda) cc) (cc := cda) S.sup S.cls (by decide) rfl (X _ _ lf) rfl hp rfl (X _ _ lcd) rfl hvs hfile T.top ?_
  refine PySem.W.ks_loadName_global S.kind S.sup (Calls.loadGlobal_builtin (env := envI qual scope s0.heap.objs.size fI (.ref cda) cc) (I.mod.glob.keeps I.bk) T.gS (hb1.keeps I.bk) ((hb2 _ (by decide)).trans (by first | boot_by_name | rfl | kernel_rfl)) ⟨rfl, ?_⟩)
  refine wpAny_loadName_free S.kind S.cls (c := cc) (by show ([(("__class__" : Str), cc)] : List (Str × Addr)).lookup _ = _; simp [List.lookup]) ⟨_, X _ _ lcc, rfl⟩ ?_
  rw [har]
  refine wpAny_loadName_local S.kind lSf hm hself ?_
  refine ks_wpAny_isType_cls (X _ _ hC) rfl ⟨rfl, ?_⟩
  obtain ⟨hp0, g, d, tk, os⟩ := s
  refine ks_wpAny_call_super (X _ _ hC) rfl ho rfl (fun c z => by cases z) (PySem.W.looks_mroIn X T.subC) fun h1 hso k1' => ?_
  have I1 : Inv (cxI P w K mg base N qual scope fI (.ref cda) cc A outer s0 H0 E) [] σ H ⟨h1, g, d, tk, os⟩ := I.kept (t' := tk) k1'
  obtain ⟨t1', ho1⟩ := exo_at I1.hok ha
  have kin1 : K.In h1 := I1.kIn
  have hI : PySem.W.Looks (model P w) h1 (isInstance (.ref a) (.type "ValueError")) true :=
    PySem.W.Looks.andThen (a := .ref C) (fun A Q E s k q => wpAny_typeOf_ref (k _ _ ho1) q) (PySem.W.looks_subIn kin1 T.subV)
  unfold PySem.W.ks_superIn at hsup
  rw [hcd] at hsup
  refine PySem.W.kxs_getMethod PySem.W.kxs_ValueError hso (PySem.W.looks_opaque kin1 T.opq) (l₀ := .ref C :: bm) ?_ rfl kin1 hsup hI hne (by decide) ?_
  · exact fun A Q E s k q => wpAny_bind ((PySem.W.looks_clsIn kin1 hcd) A _ E s k (wpAny_pure q))
  have kp : ∀ b o, h1.get? b = some o → (h1.push (PySem.W.kxs_mw "ValueError.__init__" a)).get? b = some o := fun b o e => Heap.get?_push_of_some _ e
  have I2 : Inv (cxI P w K mg base N qual scope fI (.ref cda) cc A outer s0 H0 E) [] σ H ⟨h1.push (PySem.W.kxs_mw "ValueError.__init__" a), g, d, tk + 1, os⟩ := I1.kept (t' := tk + 1) kp
  have hu : (h1.push (PySem.W.kxs_mw "ValueError.__init__" a)).get? h1.objs.size = some (PySem.W.kxs_mw "ValueError.__init__" a) := Heap.get?_push_size _ rfl
  have hfree : H h1.objs.size = none := I1.hok.fresh (Nat.le_refl _)
  have nsz : ∀ {b : Addr} {o : Obj}, h1.get? b = some o → b ≠ h1.objs.size := fun z => Nat.ne_of_lt (Heap.lt_size z)
  have I3 : Inv (cxI P w K mg base N qual scope fI (.ref cda) cc A outer s0 H0 E) [(h1.objs.size, PySem.W.kxs_mw "ValueError.__init__" a)] σ H ⟨h1.push (PySem.W.kxs_mw "ValueError.__init__" a), g, d, tk + 1, os⟩ := I2.pins_of fun p hp' => by
    rw [List.mem_singleton] at hp'
    subst hp'
    refine ⟨hu, hfree, fun z => ?_, fun hm' => ?_, fun v z => by cases z⟩
    · obtain ⟨mm, ⟨oL, _, _, hoL, _⟩, _⟩ := I1.loc
      exact nsz hoL z.symm
    · obtain ⟨_, o', e', _⟩ := I1.stack.mem (List.mem_cons_of_mem _ hm')
      exact nsz e' rfl
  have PA1 := pa_cons harg pa_nil hs1
  show wpAny _ _ (callWith p3 (.ref h1.objs.size) [] (backTo p3 (starEach [arg] (envI qual scope s0.heap.objs.size fI (.ref cda) cc))) []) _ _ _
  rw [hs1]
  refine PySem.W.kxs_callWith (i := "ValueError.__init__") (x := a) (by rfl) ?_
  refine PySem.Calls.evalArgs_plain (x := eval arg (envI qual scope s0.heap.objs.size fI (.ref cda) cc)) (rest := backTo p3 (starEach [] (envI qual scope s0.heap.objs.size fI (.ref cda) cc))) ?_
  have hrun := PA1.run p3 [(h1.objs.size, PySem.W.kxs_mw "ValueError.__init__" a)] _ σ H (fun vs H1 => vs.length = 1 ∧ H1 a = some (exo a C none) ∧ D H1) I3 (show tCons t tNil σ H _ from ?_)
  · change wpAny _ _ (spliced (backTo p3 (starEach [arg] (envI qual scope s0.heap.objs.size fI (.ref cda) cc)))) _ _ _ at hrun
    rw [hs1] at hrun
    refine thn hrun fun us s4 h4 => ?_
    obtain ⟨vs4, H4, I4, r4, l4, a4, d4⟩ := h4
    have u4 := (I4.pin (h1.objs.size, PySem.W.kxs_mw "ValueError.__init__" a) (by show _ ∈ [] ++ [_]; simp)).1
    refine ⟨u4, ?_⟩
    have I5 : Inv (cxI P w K mg base N qual scope fI (.ref cda) cc A outer s0 H0 E) [] σ H4 s4 := ⟨I4.ok, I4.os, I4.bare, I4.base, I4.loc, I4.cell, I4.free, I4.freeC, fun p hp => absurd (show p ∈ ([] : List (Addr × Obj)) from hp) (by simp), I4.hok, I4.len⟩
    refine bound_init (X := cxI P w K mg base N qual scope fI (.ref cda) cc A outer s0 H0 E) T.ox I5 a4 u4 (by
      have : us.length = 1 := by rw [← r4.length, l4]
      show ([] ++ us).length ≤ _
      rw [List.nil_append, this, sizeLine_eq]; omega) fun s' I6 => ⟨rfl, H4, I6, a4, d4⟩
  · have e : tCons t tNil σ H (fun vs H1 => vs.length = 1 ∧ H1 a = some (exo a C none) ∧ D H1) = t σ H (fun _ H1 => H1 a = some (exo a C none) ∧ D H1) := by
      unfold tCons tNil
      simp only [List.length_singleton, true_and]
    rw [e]
    exact ht
end
section
variable {P : Program} {w : World} {K : PySem.W.Frag} {mg : Str → Option Value} {base : Heap} {N ps : List Str} {qual : Str} {scope : Scope} {fI C : Addr} {params : Arguments} {fd : FuncData}
/-- such an __init__ keeps its promise: arg is read, then the rest runs -/
theorem err_fn {sp : Sp} {k : Nat} {arg : Expr} {rest : List Stmt} {p0 p1 p2 p3 p4 : Pos} {ar : Arg}
    (S : ScI N ps scope) (T : ErrI P K mg C fI qual params (.Expr (.Call (.Attribute (.Call (.Name "super" p0) [] [] p1) "__init__" p2) [arg] [] p3) p4 :: rest) scope fd)
    (hp : (params.posonlyargs ++ params.args).head? = some ar) (har : ar.arg = ("self" : Str)) (h0 : N[0]? = some ("self" : Str)) (len : ∀ vs H Q E, sp vs H Q E → vs.length = ps.length)
    (hbody : ∀ (cd : Value) (cc : Addr) (A : Around) (outer : List Env) (s : Shared) (H : Hp) (vs : List V) (Q : VK) (E : XK), sp vs H Q E → Room k (A.deeper (envI qual scope s.heap.objs.size fI cd cc)) →
      ∃ (t : TE) (t2 : TS) (a : Addr), vs[0]? = some (.ref a) ∧ H a = some (exo a C none) ∧ PE (cxI P w K mg base N qual scope fI cd cc A outer s H E) arg t ∧ PSs (cxI P w K mg base N qual scope fI cd cc A outer s H E) rest t2 ∧
        t (vs.map some) H fun _ H1 => H1 a = some (exo a C none) ∧ t2 { nx := fun _ H' => Q .non H', rt := Q } (vs.map some) H1)
    (hev : ∀ env : Env, ∃ pl : Sem Bool, eval (.Call (.Attribute (.Call (.Name "super" p0) [] [] p1) "__init__" p2) [arg] [] p3) env = (do
      let ov ← attributeBase (.Call (.Name "super" p0) [] [] p1) "__init__" env (eval (.Call (.Name "super" p0) [] [] p1) env)
      standAt p2.atName
      let (f, first) ← holding [ov] (getMethod ov "__init__" pl)
      callWith p3 f first (backTo p3 (starEach [arg] env)) []))
    (hs1 : ∀ env, starEach [arg] env = (false, eval arg env) :: starEach [] env)
    (hsw : ∀ (env : Env), swapsWith (.Call (.Attribute (.Call (.Name "super" p0) [] [] p1) "__init__" p2) [arg] [] p3) none p4.line env = pure false) :
    FnOk P w K mg base (L2.CX P w) (k + 1) fI fd ps sp := by
  obtain ⟨oc, od, osl, kV, doc, pm, an, cda, ct, cc, ccl, cdd, vsO, ccs, file, tf, cl, cld, csl, efd, lf, hcd, lcd, hvs, hfile, lcc⟩ := T.ex
  refine ⟨len, fun A outer s H args us vs Q E hr e0 hb r hsp => ?_⟩
  have hl := len _ _ _ _ hsp
  have KX : K.In s.heap := e0.mod.kin.keeps fun b o e => (e0.bs b o e).1
  have lim : s.heap.NoLimit := e0.mod.nolimit.keeps fun b o e => (e0.bs b o e).1
  subst efd
  refine ks_codeAny_call_defAt (body := .Expr (.Call (.Attribute (.Call (.Name "super" p0) [] [] p1) "__init__" p2) [arg] [] p3) p4 :: rest) (binds := ps.zip us) hr.depth (KX _ _ lf) rfl lim (PySem.W.codeRec_of KX hcd) rfl hb S.nocell (fun x hx => S.par _ (List.of_mem_zip hx).1) (fun h₀ hn hk => ?_) S.co S.gen S.kind
  have I : Inv (cxI P w K mg base N qual scope fI (.ref cda) cc A outer s H E) [] (vs.map some) H { s with heap := h₀, toks := s.toks + (ps.zip us).length } := inv_startI S hr.hd e0 hl r lcc hn hk
  obtain ⟨t, t2, a, hv, ha, harg, hrest, hq⟩ := hbody (.ref cda) cc A outer s H vs Q E hsp (hr.deeper _)
  have fin : ∀ {σ' : L2.St} {H' : Hp} {v : V} {u : Value} {s' : Shared}, Inv (cxI P w K mg base N qual scope fI (.ref cda) cc A outer s H E) [] σ' H' s' → RelV v u → Q v H' → CE outer P w H s Q u s' :=
    fun {σ' H' v u s'} J rv q => ⟨v, H', J.os, J.bare, J.base, J.hok, rv, q⟩
  change _root_.PySem.wpAt (model P w) (A.deeper (envI qual scope s.heap.objs.size fI (.ref cda) cc)) (.func (.Expr (.Call (.Attribute (.Call (.Name "super" p0) [] [] p1) "__init__" p2) [arg] [] p3) p4 :: rest) (envI qual scope s.heap.objs.size fI (.ref cda) cc))
    (execs (.Expr (.Call (.Attribute (.Call (.Name "super" p0) [] [] p1) "__init__" p2) [arg] [] p3) p4 :: rest) (envI qual scope s.heap.objs.size fI (.ref cda) cc))
    (fun fl s' => CR (L2.CX P w) outer P w H s Q E (.ok (.ret (match fl with | .ret v => v | _ => .none))) s') (cxI P w K mg base N qual scope fI (.ref cda) cc A outer s H E).xe _
  refine ks_wpAt_execs_cons ?_
  obtain ⟨plx, hpl⟩ := hev (envI qual scope s.heap.objs.size fI (.ref cda) cc)
  refine _root_.PySem.wpAt_mono (super_st (plx := plx) (D := t2 { nx := fun _ H' => Q .non H', rt := Q } (vs.map some)) S T lf lcd hvs hfile lcc hp har h0 (by rw [List.getElem?_map, hv]; rfl) I ha harg hq hpl (hs1 _) (by unfold interactive envI; simp [S.kind]) (hsw _)) (fun fl s' hfl => ?_) fun _ _ x => x
  obtain ⟨rfl, H', J, _, hD⟩ := hfl
  refine _root_.PySem.wpAt_of_wpAny (wpAny_mono (hrest.run [] s' _ H' _ J hD) (fun fl s2 hs => ?_) fun e s2 hs => hs)
  cases fl with
  | ret u =>
    obtain ⟨v, σ', H2, J2, rv, q⟩ := hs
    exact fin J2 rv q
  | next =>
    obtain ⟨σ', H2, J2, q⟩ := hs
    exact fin (v := V.non) (u := Value.none) J2 rfl q
  | brk =>
    obtain ⟨_, _, _, q⟩ := hs
    exact False.elim q
  | cont =>
    obtain ⟨_, _, _, q⟩ := hs
    exact False.elim q
end
end TT
namespace TT
open PySem PySem.Spec PyProof.Rows L2

theorem len2 {α : Type} {l : List α} (h : l.length = 2) : ∃ a b, l = [a, b] := by
  match l, h with
  | [a, b], _ => exact ⟨a, b, rfl⟩
theorem len3 {α : Type} {l : List α} (h : l.length = 3) : ∃ a b c, l = [a, b, c] := by
  match l, h with
  | [a, b, c], _ => exact ⟨a, b, c, rfl⟩
/-! ### what such an __init__ does -/
def spI (C : Addr) (n : Nat) (ok : List V → Prop) (fl : List V → List (Str × V)) : Sp := fun vs H Q _ => ∃ (a : Addr) (us : List V), vs = .ref a :: us ∧ us.length = n ∧ H a = some (exo a C none) ∧ ok us ∧
  ∀ (d : Addr) (H' : Hp), H d = none → d ≠ a → H' a = some (exo a C (some d)) → H' d = some (exd d (fl us)) → (∀ b, b ≠ a → b ≠ d → H' b = H b) → Q .non H'
section
variable {P : Program} {w : World} {K : PySem.W.Frag} {mg : Str → Option Value} {base : Heap} {qual : Str} {scope : Scope} {fI C : Addr} {params : Arguments} {fd : FuncData} {arg : Expr} {p0 p1 p2 p3 p4 q1 q2 q3 q4 q5 q6 q7 q8 q9 qa qb qc : Pos} {ar : Arg} {f1 f2 f3 x1 x2 x3 : Str} {ok : List V → Prop}
/-- the argument of super().__init__ is read, nothing more -/
def ArgOk (n : Nat) (P : Program) (w : World) (K : PySem.W.Frag) (mg : Str → Option Value) (base : Heap) (N : List Str) (qual : Str) (scope : Scope) (fI : Addr) (arg : Expr) (ok : List V → Prop) : Prop :=
  ∀ (cd : Value) (cc : Addr) (A : Around) (outer : List Env) (s : Shared) (H : Hp) (E : XK), ∃ t : TE, PE (cxI P w K mg base N qual scope fI cd cc A outer s H E) arg t ∧
    ∀ (a : Addr) (us : List V) (H : Hp) (D : Hp → Prop), us.length = n → ok us → D H → t ((V.ref a :: us).map some) H fun _ H1 => D H1
def Evs (p0 p1 p2 p3 : Pos) (arg : Expr) : Prop := ∀ env : Env, ∃ pl : Sem Bool, eval (.Call (.Attribute (.Call (.Name "super" p0) [] [] p1) "__init__" p2) [arg] [] p3) env = (do
      let ov ← attributeBase (.Call (.Name "super" p0) [] [] p1) "__init__" env (eval (.Call (.Name "super" p0) [] [] p1) env)
      standAt p2.atName
      let (f, first) ← holding [ov] (getMethod ov "__init__" pl)
      callWith p3 f first (backTo p3 (starEach [arg] env)) [])
theorem ost1 {X : Cx} {i : Nat} {f x : Str} (hN : X.N[i]? = some x) (hv : X.env.scope.names.lookup x = some .local) (h0 : X.N[0]? = some ("self" : Str)) (hs : X.env.scope.names.lookup ("self" : Str) = some .local)
    (hd : (x == ("__debug__" : Str)) = false) (hcd : (x == ("__classdict__" : Str)) = false) :
    PS X (.Assign [.Attribute (.Name "self" q1) f q2] (.Name x q3) q4) (tOst X.K f (tVar 0) (tVar i)) :=
  ps_ost (pe_var h0 (.inl hs) (by decide) (by decide)) (pe_var hN (.inl hv) hd hcd) (by rfl)
theorem init1 (S : ScI ["self", x1] ["self", x1] scope)
    (T : ErrI P K mg C fI qual params (.Expr (.Call (.Attribute (.Call (.Name "super" p0) [] [] p1) "__init__" p2) [arg] [] p3) p4 :: [.Assign [.Attribute (.Name "self" q1) f1 q2] (.Name x1 q3) q4]) scope fd)
    (hA : ArgOk 1 P w K mg base ["self", x1] qual scope fI arg ok) (n1 : PySem.W.findIn K (.ref C) f1 = some none)
    (hp : (params.posonlyargs ++ params.args).head? = some ar) (har : ar.arg = ("self" : Str)) (hev : Evs p0 p1 p2 p3 arg) (hs1 : ∀ env, starEach [arg] env = (false, eval arg env) :: starEach [] env)
    (hsw : ∀ (env : Env), swapsWith (.Call (.Attribute (.Call (.Name "super" p0) [] [] p1) "__init__" p2) [arg] [] p3) none p4.line env = pure false)
    (d1 : (x1 == ("__debug__" : Str)) = false := by decide) (c1 : (x1 == ("__classdict__" : Str)) = false := by decide) :
    FnOk P w K mg base (L2.CX P w) 1 fI fd ["self", x1] (spI C 1 ok fun us => [(f1, us.getD 0 .non)]) := by
  refine err_fn S T hp har rfl (fun vs H Q E ⟨a, us, h1, h2, _⟩ => by rw [h1, List.length_cons, h2]; rfl) (fun cd cc A outer s H vs Q E hsp hr => ?_) hev hs1 hsw
  obtain ⟨t, hpe, hre⟩ := hA cd cc A outer s H E
  obtain ⟨a, us, rfl, hl, ha, ho, hq⟩ := hsp
  obtain ⟨u, rfl⟩ := List.length_eq_one_iff.mp hl
  refine ⟨t, _, a, rfl, ha, hpe, pss_one (ost1 (i := 1) rfl (S.par _ (by simp)) rfl (S.par _ (by simp)) d1 c1), hre a [u] H _ hl ho ⟨ha, ?_⟩⟩
  refine ⟨u, rfl, .ref a, rfl, a, C, rfl, T.ox, n1, .inl ⟨ha, fun d hd hne => ?_⟩⟩
  refine hq d _ hd hne upd_same (by rw [upd_ne hne]; exact upd_same) fun b h1 h2 => by rw [upd_ne h1, upd_ne h2]
theorem init2 (S : ScI ["self", x1, x2] ["self", x1, x2] scope)
    (T : ErrI P K mg C fI qual params (.Expr (.Call (.Attribute (.Call (.Name "super" p0) [] [] p1) "__init__" p2) [arg] [] p3) p4 :: [.Assign [.Attribute (.Name "self" q1) f1 q2] (.Name x1 q3) q4, .Assign [.Attribute (.Name "self" q5) f2 q6] (.Name x2 q7) q8]) scope fd)
    (hA : ArgOk 2 P w K mg base ["self", x1, x2] qual scope fI arg ok) (n1 : PySem.W.findIn K (.ref C) f1 = some none) (n2 : PySem.W.findIn K (.ref C) f2 = some none)
    (hp : (params.posonlyargs ++ params.args).head? = some ar) (har : ar.arg = ("self" : Str)) (hev : Evs p0 p1 p2 p3 arg) (hs1 : ∀ env, starEach [arg] env = (false, eval arg env) :: starEach [] env)
    (hsw : ∀ (env : Env), swapsWith (.Call (.Attribute (.Call (.Name "super" p0) [] [] p1) "__init__" p2) [arg] [] p3) none p4.line env = pure false)
    (d1 : (x1 == ("__debug__" : Str)) = false := by decide) (c1 : (x1 == ("__classdict__" : Str)) = false := by decide) (d2 : (x2 == ("__debug__" : Str)) = false := by decide) (c2 : (x2 == ("__classdict__" : Str)) = false := by decide) :
    FnOk P w K mg base (L2.CX P w) 1 fI fd ["self", x1, x2] (spI C 2 ok fun us => [(f2, us.getD 1 .non), (f1, us.getD 0 .non)]) := by
  refine err_fn S T hp har rfl (fun vs H Q E ⟨a, us, h1, h2, _⟩ => by rw [h1, List.length_cons, h2]; rfl) (fun cd cc A outer s H vs Q E hsp hr => ?_) hev hs1 hsw
  obtain ⟨t, hpe, hre⟩ := hA cd cc A outer s H E
  obtain ⟨a, us, rfl, hl, ha, ho, hq⟩ := hsp
  obtain ⟨u, v, rfl⟩ := len2 hl
  refine ⟨t, _, a, rfl, ha, hpe, pss_cons (ost1 (i := 1) rfl (S.par _ (by simp)) rfl (S.par _ (by simp)) d1 c1) (pss_one (ost1 (i := 2) rfl (S.par _ (by simp)) rfl (S.par _ (by simp)) d2 c2)), hre a [u, v] H _ hl ho ⟨ha, ?_⟩⟩
  refine ⟨u, rfl, .ref a, rfl, a, C, rfl, T.ox, n1, .inl ⟨ha, fun d hd hne => ?_⟩⟩
  refine ⟨v, rfl, .ref a, rfl, a, C, rfl, T.ox, n2, .inr ⟨d, _, upd_same, by rw [upd_ne hne]; exact upd_same, by simp, ?_⟩⟩
  refine hq d _ hd hne (by rw [upd_ne (Ne.symm hne)]; exact upd_same) upd_same fun b h1 h2 => by rw [upd_ne h2, upd_ne h1, upd_ne h2]
theorem init3 (S : ScI ["self", x1, x2, x3] ["self", x1, x2, x3] scope)
    (T : ErrI P K mg C fI qual params (.Expr (.Call (.Attribute (.Call (.Name "super" p0) [] [] p1) "__init__" p2) [arg] [] p3) p4 :: [.Assign [.Attribute (.Name "self" q1) f1 q2] (.Name x1 q3) q4, .Assign [.Attribute (.Name "self" q5) f2 q6] (.Name x2 q7) q8, .Assign [.Attribute (.Name "self" q9) f3 qa] (.Name x3 qb) qc]) scope fd)
    (hA : ArgOk 3 P w K mg base ["self", x1, x2, x3] qual scope fI arg ok) (n1 : PySem.W.findIn K (.ref C) f1 = some none) (n2 : PySem.W.findIn K (.ref C) f2 = some none) (n3 : PySem.W.findIn K (.ref C) f3 = some none)
    (hp : (params.posonlyargs ++ params.args).head? = some ar) (har : ar.arg = ("self" : Str)) (hev : Evs p0 p1 p2 p3 arg) (hs1 : ∀ env, starEach [arg] env = (false, eval arg env) :: starEach [] env)
    (hsw : ∀ (env : Env), swapsWith (.Call (.Attribute (.Call (.Name "super" p0) [] [] p1) "__init__" p2) [arg] [] p3) none p4.line env = pure false)
    (d1 : (x1 == ("__debug__" : Str)) = false := by decide) (c1 : (x1 == ("__classdict__" : Str)) = false := by decide) (d2 : (x2 == ("__debug__" : Str)) = false := by decide) (c2 : (x2 == ("__classdict__" : Str)) = false := by decide)
    (d3 : (x3 == ("__debug__" : Str)) = false := by decide) (c3 : (x3 == ("__classdict__" : Str)) = false := by decide) :
    FnOk P w K mg base (L2.CX P w) 1 fI fd ["self", x1, x2, x3] (spI C 3 ok fun us => [(f3, us.getD 2 .non), (f2, us.getD 1 .non), (f1, us.getD 0 .non)]) := by
  refine err_fn S T hp har rfl (fun vs H Q E ⟨a, us, h1, h2, _⟩ => by rw [h1, List.length_cons, h2]; rfl) (fun cd cc A outer s H vs Q E hsp hr => ?_) hev hs1 hsw
  obtain ⟨t, hpe, hre⟩ := hA cd cc A outer s H E
  obtain ⟨a, us, rfl, hl, ha, ho, hq⟩ := hsp
  obtain ⟨u, v, z, rfl⟩ := len3 hl
  refine ⟨t, _, a, rfl, ha, hpe, pss_cons (ost1 (i := 1) rfl (S.par _ (by simp)) rfl (S.par _ (by simp)) d1 c1) (pss_cons (ost1 (i := 2) rfl (S.par _ (by simp)) rfl (S.par _ (by simp)) d2 c2) (pss_one (ost1 (i := 3) rfl (S.par _ (by simp)) rfl (S.par _ (by simp)) d3 c3))), hre a [u, v, z] H _ hl ho ⟨ha, ?_⟩⟩
  refine ⟨u, rfl, .ref a, rfl, a, C, rfl, T.ox, n1, .inl ⟨ha, fun d hd hne => ?_⟩⟩
  refine ⟨v, rfl, .ref a, rfl, a, C, rfl, T.ox, n2, .inr ⟨d, _, upd_same, by rw [upd_ne hne]; exact upd_same, by simp, ?_⟩⟩
  refine ⟨z, rfl, .ref a, rfl, a, C, rfl, T.ox, n3, .inr ⟨d, _, by rw [upd_ne (Ne.symm hne)]; exact upd_same, upd_same, by simp, ?_⟩⟩
  refine hq d _ hd hne (by rw [upd_ne (Ne.symm hne), upd_ne (Ne.symm hne)]; exact upd_same) upd_same fun b h1 h2 => by rw [upd_ne h2, upd_ne h2, upd_ne h1, upd_ne h2]
end

/-! ### texts of errors -/
theorem char_lt (c : Char) : c.toNat < 16 ^ 8 := by
  have h : c.toNat < 2 ^ 32 := c.val.toNat_lt
  have e : (16 : Nat) ^ 8 = 2 ^ 32 := by decide
  omega
theorem repr_len (x : List Char) : (reprText (cps x)).length ≤ 10 * x.length + 2 := by
  have h := PySem.StrLaws.reprText_len (cps x) (fun c hc => by
    rw [cps_list] at hc
    obtain ⟨d, _, rfl⟩ := List.mem_map.mp hc
    exact char_lt d)
  rw [cps_len] at h
  exact h
/-- a text or an int that an error's text can tell -/
def fmtV (v : V) : Prop := (∃ y : List Char, v = .str (cps y) ∧ y.length ≤ 400000) ∨ ∃ i : Int, v = .int i ∧ i.natAbs.log2 < 1920
def Lim (y : Str) : Prop := y.length ≤ 4000002
theorem int_lim {i : Int} (h : i.natAbs.log2 < 1920) : Lim (toString i : String) := by
  have e := PySem.int_text_length_le (k := 1920) (by decide) h
  unfold Lim
  show (Str.ofString (toString i)).length ≤ _
  rw [PySem.ofString_length]
  omega
theorem app_len (x y : Str) : (x ++ y).length = x.length + y.length := by
  show (x.cps ++ y.cps).size = _
  rw [Array.size_append]
  rfl
/-- {x!r}, {x}: a text of bounded length -/
def Fm (t : TE) (i : Nat) : Prop := ∀ (σ : L2.St) (H : Hp) (Q : VK) (v : V), σ[i]? = some (some v) → fmtV v → (∀ y : Str, Lim y → Q (.str y) H) → t σ H Q
theorem fm_r {i : Nat} : Fm (tFmtR (tVar i)) i := fun σ H Q v hσ hv hq => by
  refine ⟨v, hσ, ?_⟩
  rcases hv with ⟨y, rfl, hy⟩ | ⟨k, rfl, hk⟩
  · have h := repr_len y
    refine .inl ⟨_, rfl, by rw [sizeLine_eq]; omega, hq _ (by unfold Lim; omega)⟩
  · exact .inr ⟨k, rfl, hk, hq _ (int_lim hk)⟩
theorem fm_p {i : Nat} : Fm (tFmt (tVar i)) i := fun σ H Q v hσ hv hq => by
  refine ⟨v, hσ, ?_⟩
  rcases hv with ⟨y, rfl, hy⟩ | ⟨k, rfl, hk⟩
  · refine .inl ⟨_, rfl, by rw [cps_len, sizeLine_eq]; omega, hq _ (by unfold Lim; rw [cps_len]; omega)⟩
  · exact .inr ⟨k, rfl, hk, hq _ (int_lim hk)⟩
section
variable {P : Program} {w : World} {K : PySem.W.Frag} {mg : Str → Option Value} {base : Heap} {N : List Str} {qual : Str} {scope : Scope} {fI : Addr} {x y m m1 m2 m3 : Str} {j j1 j2 j3 : Nat} {p p1 p2 p3 p4 p5 p6 p7 p8 : Pos} {n i k : Nat} {ok : List V → Prop} {f1 f2 : Expr}
theorem argC : ArgOk n P w K mg base N qual scope fI (.Constant (.str m) j p) ok := fun cd cc A outer s H E => ⟨_, pe_str, fun a us H D _ _ h => h⟩
/-- a field of the text, in slot i -/
def FOk (P : Program) (w : World) (K : PySem.W.Frag) (mg : Str → Option Value) (base : Heap) (N : List Str) (qual : Str) (scope : Scope) (fI : Addr) (e : Expr) (i : Nat) : Prop :=
  ∀ (cd : Value) (cc : Addr) (A : Around) (outer : List Env) (s : Shared) (H : Hp) (E : XK), ∃ t : TE, PE (cxI P w K mg base N qual scope fI cd cc A outer s H E) e t ∧ Fm t i
theorem fo_r (hN : N[i]? = some x) (hl : scope.names.lookup x = some .local) (hd : (x == ("__debug__" : Str)) = false := by decide) (hcd : (x == ("__classdict__" : Str)) = false := by decide) :
    FOk P w K mg base N qual scope fI (.FormattedValue (.Name x p) 114 none p1) i := fun cd cc A outer s H E => ⟨_, pe_fmtR (pe_var (i := i) hN (.inl hl) hd hcd), fm_r⟩
theorem fo_p (hN : N[i]? = some x) (hl : scope.names.lookup x = some .local) (hd : (x == ("__debug__" : Str)) = false := by decide) (hcd : (x == ("__classdict__" : Str)) = false := by decide) :
    FOk P w K mg base N qual scope fI (.FormattedValue (.Name x p) (-1) none p1) i := fun cd cc A outer s H E => ⟨_, pe_fmt (pe_var (i := i) hN (.inl hl) hd hcd), fm_p⟩
theorem us_get {a : Addr} {us : List V} {i : Nat} (h : i < us.length) : ((V.ref a :: us).map some)[i + 1]? = some (some (us.getD i .non)) := by
  simp [h]
theorem sz1 {a : Str} (h : a.length ≤ 200) : (Str.empty ++ a).length ≤ sizeLine := by
  rw [app_len, sizeLine_eq]
  show 0 + _ ≤ _
  omega
theorem argJ2 (l1 : m1.length ≤ 200) (hf : FOk P w K mg base N qual scope fI f1 (i + 1)) (hi : i < n) (hk : ∀ us, ok us → fmtV (us.getD i .non)) :
    ArgOk n P w K mg base N qual scope fI (.JoinedStr [.Constant (.str m1) j1 p1, f1] p) ok := fun cd cc A outer s H E => by
  obtain ⟨t, ht, hm⟩ := hf cd cc A outer s H E
  refine ⟨_, pe_joined (.cons pe_str (.cons ht .nil)), fun a us H D hl ho hD => ⟨m1, rfl, sz1 l1, ?_⟩⟩
  refine hm _ H _ _ (us_get (by omega)) (hk us ho) fun y hy => ⟨y, rfl, ?_, hD⟩
  unfold Lim at hy
  rw [app_len, app_len, sizeLine_eq]
  show 0 + _ + _ ≤ _
  omega
theorem argJ3 (l1 : m1.length ≤ 200) (l2 : m2.length ≤ 200) (hf : FOk P w K mg base N qual scope fI f1 (i + 1)) (hi : i < n) (hk : ∀ us, ok us → fmtV (us.getD i .non)) :
    ArgOk n P w K mg base N qual scope fI (.JoinedStr [.Constant (.str m1) j1 p1, f1, .Constant (.str m2) j2 p2] p) ok := fun cd cc A outer s H E => by
  obtain ⟨t, ht, hm⟩ := hf cd cc A outer s H E
  refine ⟨_, pe_joined (.cons pe_str (.cons ht (.cons pe_str .nil))), fun a us H D hl ho hD => ⟨m1, rfl, sz1 l1, ?_⟩⟩
  refine hm _ H _ _ (us_get (by omega)) (hk us ho) fun y hy => ⟨y, rfl, ?_, m2, rfl, ?_, hD⟩
  all_goals
    unfold Lim at hy
    simp only [app_len]
    rw [sizeLine_eq]
    have e0 : Str.empty.length = 0 := rfl
    omega
theorem argJ4 (l1 : m1.length ≤ 200) (l2 : m2.length ≤ 200) (hf : FOk P w K mg base N qual scope fI f1 (i + 1)) (hi : i < n) (hk : ∀ us, ok us → fmtV (us.getD i .non)) (hf2 : FOk P w K mg base N qual scope fI f2 (k + 1)) (hi2 : k < n) (hk2 : ∀ us, ok us → fmtV (us.getD k .non)) :
    ArgOk n P w K mg base N qual scope fI (.JoinedStr [.Constant (.str m1) j1 p1, f1, .Constant (.str m2) j2 p2, f2] p) ok := fun cd cc A outer s H E => by
  obtain ⟨t, ht, hm⟩ := hf cd cc A outer s H E
  obtain ⟨t2, ht2, hm2⟩ := hf2 cd cc A outer s H E
  refine ⟨_, pe_joined (.cons pe_str (.cons ht (.cons pe_str (.cons ht2 .nil)))), fun a us H D hl ho hD => ⟨m1, rfl, sz1 l1, ?_⟩⟩
  refine hm _ H _ _ (us_get (by omega)) (hk us ho) fun y hy => ⟨y, rfl, ?_, m2, rfl, ?_, ?_⟩
  rotate_left 2
  refine hm2 _ H _ _ (us_get (by omega)) (hk2 us ho) fun y2 hy2 => ⟨y2, rfl, ?_, hD⟩
  all_goals
    unfold Lim at *
    simp only [app_len]
    rw [sizeLine_eq]
    have e0 : Str.empty.length = 0 := rfl
    omega
theorem argJ5 (l1 : m1.length ≤ 200) (l2 : m2.length ≤ 200) (l3 : m3.length ≤ 200) (hf : FOk P w K mg base N qual scope fI f1 (i + 1)) (hi : i < n) (hk : ∀ us, ok us → fmtV (us.getD i .non)) (hf2 : FOk P w K mg base N qual scope fI f2 (k + 1)) (hi2 : k < n) (hk2 : ∀ us, ok us → fmtV (us.getD k .non)) :
    ArgOk n P w K mg base N qual scope fI (.JoinedStr [.Constant (.str m1) j1 p1, f1, .Constant (.str m2) j2 p2, f2, .Constant (.str m3) j3 p3] p) ok := fun cd cc A outer s H E => by
  obtain ⟨t, ht, hm⟩ := hf cd cc A outer s H E
  obtain ⟨t2, ht2, hm2⟩ := hf2 cd cc A outer s H E
  refine ⟨_, pe_joined (.cons pe_str (.cons ht (.cons pe_str (.cons ht2 (.cons pe_str .nil))))), fun a us H D hl ho hD => ⟨m1, rfl, sz1 l1, ?_⟩⟩
  refine hm _ H _ _ (us_get (by omega)) (hk us ho) fun y hy => ⟨y, rfl, ?_, m2, rfl, ?_, ?_⟩
  rotate_left 2
  refine hm2 _ H _ _ (us_get (by omega)) (hk2 us ho) fun y2 hy2 => ⟨y2, rfl, ?_, m3, rfl, ?_, hD⟩
  all_goals
    unfold Lim at *
    simp only [app_len]
    rw [sizeLine_eq]
    have e0 : Str.empty.length = 0 := rfl
    omega
end
end TT
namespace TT
open PySem PySem.Spec PyProof.Rows L2

/-! ### raise -/
def fmtD : D → Bool
  | .str x => decide (x.length ≤ 400000)
  | .int i => decide (i.natAbs.log2 < 1920)
  | _ => false
theorem fmtD_w {K : PySem.W.Frag} {F : Hp} {io : List Addr} {d : D} {v : V} (h : Rep K F io d v) (f : fmtD d = true) : fmtV v := by
  cases d with
  | str x => exact .inl ⟨x, h, of_decide_eq_true f⟩
  | int i => exact .inr ⟨i, h, of_decide_eq_true f⟩
  | _ => cases f
/-- an error's attributes by the arguments' places -/
def errF {α : Type} (z : α) (ns : List (String × Nat)) (ds : List α) : List (Str × α) := ns.map fun p => (Str.ofString p.1, ds.getD p.2 z)
def okF (fm : List Nat) (us : List V) : Prop := ∀ i ∈ fm, fmtV (us.getD i .non)
/-- raise C(e, ..) -/
def sRaise (nm : String) (n : Nat) (ns : List (String × Nat)) (fm : List Nat) (ma : Ma) : Ms := fun env S => (ma env S).go env fun ds S1 => if ds.length = n ∧ fm.all (fun i => fmtD (ds.getD i .non)) = true then .ex ⟨nm, errF .non ns ds⟩ env S1 else .no
/-- raise C() -/
def sRaise0 (nm : String) : Ms := fun env S => .ex ⟨nm, []⟩ env S
theorem Reps.getD {K : PySem.W.Frag} {F : Hp} {io : List Addr} {ds : List D} {vs : List V} (h : Reps K F io ds vs) (i : Nat) : Rep K F io (ds.getD i .non) (vs.getD i .non) := by
  by_cases hi : i < ds.length
  · obtain ⟨v, h1, h2⟩ := h.get (List.getElem?_eq_getElem hi)
    rw [List.getD_eq_getElem?_getD, List.getD_eq_getElem?_getD, h1, List.getElem?_eq_getElem hi]
    exact h2
  · rw [List.getD_eq_getElem?_getD, List.getD_eq_getElem?_getD, List.getElem?_eq_none (by omega), List.getElem?_eq_none (by rw [h.len]; omega)]
    rfl
theorem errF_w {K : PySem.W.Frag} {F : Hp} {io : List Addr} {ds : List D} {vs : List V} (h : Reps K F io ds vs) : ∀ ns : List (String × Nat), (errF .non ns vs).map (·.1) = (errF .non ns ds).map (·.1) ∧ Reps K F io ((errF .non ns ds).map (·.2)) ((errF .non ns vs).map (·.2))
  | [] => ⟨rfl, rfl⟩
  | p :: ns => by
    obtain ⟨h1, h2⟩ := errF_w h ns
    exact ⟨by simp only [errF, List.map_cons] at h1 ⊢; rw [h1], ⟨_, _, rfl, h.getD p.2, h2⟩⟩
section
variable {X : Cx} {cv : Cv} {W : WX} {x : Str} {e : Expr} {es : List Expr} {ma : Ma} {p pos pos2 : Pos}
theorem ds_raise {C fI : Addr} {fd : FuncData} {ps : List Str} {n k : Nat} (nm : String) (ns : List (String × Nat)) (fm : List Nat) (hcv : cv.cl nm = .ref C) (T : OexC X.K C) (iC : PySem.W.findIn X.K (.ref C) "__init__" = some (some (.ref fI))) (tI : PySem.W.typeIn X.K (.ref fI) = some (.type "function"))
    (F1 : FnOk X.prog X.w X.K X.mg X.base (L2.CX X.prog X.w) k fI fd ps (spI C n (okF fm) (errF .non ns))) (hn : n ≤ 1000) (hr : Room (k + 1) X.A) (hb : Binds X.K fd ps []) (hg : Gl X x) (hm : X.mg x = some (.ref C)) (hc : X.calm = true) (tk : Takes X W) (ha : DA X cv W (e :: es) ma)
    (hdb : (x == ("__debug__" : Str)) = false := by decide) (he : starEach (e :: es) X.env = (false, eval e X.env) :: starEach es X.env := by rfl) (hpl : (backTo pos (starEach es X.env)).any (·.1) = false := by rfl) :
    DS X cv W (.Raise (some (.Call (.Name x p) (e :: es) [] pos)) none pos2) (sRaise nm n ns fm ma) :=
  PS.weak (ps_raise hc tk (pmk_oex (dvs := []) T iC tI F1 hr hb .nil passL hg hm ha hdb he hpl)) fun E σ H ⟨s, env, S, F, r, o⟩ => ⟨s, env, S, F, r, OutS.go (rp := rpA _) o fun ds S1 vs F1 H1 r1 sm rv o1 => by
    split at o1
    · rename_i hl
      have hlv : vs.length = n := by rw [rv.len]; exact hl.1
      refine ⟨by omega, fun a ha => ⟨a, vs, by rw [List.append_nil], hlv, upd_same, fun i hi => ?_, fun d H' hd hne h1 h2 h3 => ⟨rfl, d, _, h1, h2, by rw [upd_ne hne] at hd; exact hd, ?_⟩⟩⟩
      · exact fmtD_w (rv.getD i) (List.all_eq_true.mp hl.2 i hi)
      · have hd1 : H1 d = none := by rw [upd_ne hne] at hd; exact hd
        have eh : upd (del H' a) d (.xd (errF .non ns vs)) = upd H1 d (.xd (errF .non ns vs)) := by
          funext b
          by_cases hb : b = d
          · rw [hb, upd_same, upd_same]
          · rw [upd_ne hb, upd_ne hb]
            by_cases hba : b = a
            · rw [hba, del_same, ha]
            · rw [del_ne hba, h3 b hba hb, upd_ne hba]
        rw [eh]
        obtain ⟨r2, sm2⟩ := r1.new (o := .xd (errF .non ns vs)) hd1
        obtain ⟨g1, g2⟩ := errF_w rv ns
        exact o1 (.ref C) (some d) σ _ _ r2 sm2 ⟨hcv.symm, .inr ⟨d, _, rfl, upd_same, g1, Reps.mono sm2 _ _ g2⟩⟩
    · exact o1.elim⟩
/-- X(), X an own error class without own __init__ -/
theorem pmk_own0 {C : Addr} {bmB : List Value} {B newId initId : String} (F : ExcBaseFacts B newId initId bmB) (q : PySem.W.excIn X.K C bmB newId = true) (gC : X.mg x = some (.ref C)) (kC : PySem.W.keepIn X.K (.ref C) = true) (r : Raises X (.ref C)) (hg : Gl X x)
    (hdb : (x == ("__debug__" : Str)) = false := by decide) : PMk X (.Call (.Name x p) [] [] pos) (fun _ H Q => Q (.ref C) none H) := by
  intro pins s σ H Q I h
  refine wpAny_Call_Name_kw (ld_glob I hg gC ?_ hdb)
  refine PySem.W.callWith_K0 I.kIn kC ?_
  show wpAny _ _ (call (.ref C) []) _ _ _
  obtain ⟨bm, N, nm, qn, bs, hdct, sn, sub, ab, col, dd, k0, k1, k2, k3, k5, mN, hC, hN, hni, T⟩ := exc_obj I.kIn q
  exact wpAny_call_exc_subT F T hC hN hni (fun h' e hm => mk_of I hm r h (I.hok.gone hm.new)) (by rw [sizeLine_eq]; exact Nat.zero_le _)
theorem ds_raise0 {C : Addr} (nm : String) (hcv : cv.cl nm = .ref C) (q : PySem.W.excIn X.K C [.type "ValueError", .type "Exception", .type "BaseException", .type "object"] "ValueError.__new__" = true) (kC : PySem.W.keepIn X.K (.ref C) = true) (bC : PySem.W.subIn X.K (.ref C) (.type "BaseException") = some true)
    (tC : PySem.W.typeIn X.K (.ref C) = some (.type "type")) (hg : Gl X x) (hm : X.mg x = some (.ref C)) (hc : X.calm = true) (tk : Takes X W) (hdb : (x == ("__debug__" : Str)) = false := by decide) :
    DS X cv W (.Raise (some (.Call (.Name x p) [] [] pos)) none pos2) (sRaise0 nm) :=
  PS.weak (ps_raise hc tk (pmk_own0 F.excBase_ValueError q hm kC (raises_own bC tC) hg hdb)) fun E σ H ⟨s, env, S, F, r, o⟩ => o (.ref C) none σ F H r (Same.refl F) ⟨hcv.symm, .inl ⟨rfl, rfl⟩⟩
end

/-! ### try -/
def noExn : Sl → Sl
  | .exn _ => .no
  | s => s
/-- what goes on behind the handler: slot i is empty -/
def clrO (i : Nat) : SOut → SOut
  | .nx e S => .nx ((e.map noExn).set i .no) S
  | .bk e S => .bk ((e.map noExn).set i .no) S
  | .ct e S => .ct ((e.map noExn).set i .no) S
  | .ret r S => .ret r S
  | _ => .no
/-- try: mb / except c as the i-th name: ms -/
def sTry (i : Nat) (hd : String → Option Bool) (mb ms : Ms) : Ms := fun env S => match mb env S with
  | .ex x e S' => (match hd x.nm with
    | some true => clrO i (ms ((e.map noExn).set i (.exn x)) S')
    | some false => .ex x e S'
    | none => .no)
  | o => o
theorem noExn_get {env : Ev} {i : Nat} {sl : Sl} (h : (env.map noExn)[i]? = some sl) : sl = .no ∨ (env[i]? = some sl ∧ ∀ x, sl ≠ .exn x) := by
  rw [List.getElem?_map] at h
  cases q : env[i]? with
  | none => rw [q] at h; cases h
  | some s0 =>
    rw [q] at h
    cases s0 with
    | exn x => cases h; exact .inl rfl
    | no => cases h; exact .inl rfl
    | val d => cases h; exact .inr ⟨rfl, fun x z => nomatch z⟩
    | own ds => cases h; exact .inr ⟨rfl, fun x z => nomatch z⟩
    | loo d => cases h; exact .inr ⟨rfl, fun x z => nomatch z⟩
/-- another error is handled from here on -/
theorem R.recv {G : Gm} {s : Snap} {env : Ev} {S : Cells} {F H : Hp} {σ : L2.St} {hx : Option (Addr × Value × Option Addr)} (r : R G s env S F σ H) : R ⟨G.K, ⟨G.cv.cl, hx⟩⟩ s (env.map noExn) S F σ H := by
  refine ⟨r.h, by simp [r.len], fun i d q => ?_, fun i ds q => ?_, fun i j a ds es hne q1 q2 => ?_, fun i x q => ?_, fun i d q => ?_⟩
  · rcases noExn_get q with z | ⟨z, _⟩
    · cases z
    · exact r.val i d z
  · rcases noExn_get q with z | ⟨z, _⟩
    · cases z
    · exact r.own i ds z
  · rcases noExn_get q1 with z | ⟨z, _⟩
    · cases z
    · rcases noExn_get q2 with z2 | ⟨z2, _⟩
      · cases z2
      · exact r.dist i j a ds es hne z z2
  · rcases noExn_get q with z | ⟨_, z⟩
    · cases z
    · exact absurd rfl (z x)
  · rcases noExn_get q with z | ⟨z, _⟩
    · cases z
    · exact r.loo i d z
theorem R.setExn {G : Gm} {s : Snap} {env : Ev} {S : Cells} {F H : Hp} {σ : L2.St} {i : Nat} {x : Ex} {a : Addr} {d : Option Addr} (r : R G s env S F σ H) (hx : G.cv.hx = some (a, G.cv.cl x.nm, d)) (hf : RepF G.K F s.io x d) : R G s (env.set i (.exn x)) S F (σ.set i (some (.ref a))) H :=
  r.setSl (fun _ e => nomatch e) (fun _ e => nomatch e) (fun x' e => by cases e; exact ⟨a, d, hx, rfl, hf⟩) (fun _ e => nomatch e)
section
variable {X : Cx} {cv : Cv} {W : WX} {x n : Str} {c : Value} {i : Nat} {body suite : List Stmt} {b₀ : Stmt} {np pos pos' : Pos} {mb ms : Ms} {hd : String → Option Bool}
abbrev cvx (cv : Cv) (a : Addr) (cls : Value) (d : Option Addr) : Cv := ⟨cv.cl, some (a, cls, d)⟩
theorem ds_try (i : Nat) (hd : String → Option Bool) (hs : X.stack = X.env :: X.outer) (hf : X.env.frame = some X.env.locals) (hN : X.N.Nodup) (hi : X.N[i]? = some n) (hln : X.env.kindOf n = some .local) (hc : Names X x c) (tk : Takes X W)
    (hhd : ∀ nm b, hd nm = some b → PySem.W.exmOne X.K (cv.cl nm) c = some b)
    (hb : ∀ (W' : WX) (pn : List (Addr × Obj)) (xe : Value → Shared → Prop), Takes (X.tr pn xe) W' → PassesOwn (model X.prog X.w) X.A X.env xe → DB (X.tr pn xe) cv W' body mb)
    (hsu : ∀ (a : Addr) (oe : Obj) (cls : Value) (d : Option Addr) (pn : List (Addr × Obj)), Zc cls d oe → (∃ vs, oe.data = .fields vs) → DB (X.suite a ((a, oe) :: pn)) (cvx cv a cls d) wF (b₀ :: suite) ms) :
    DS X cv W (.Try body [.ExceptHandler (some (.Name x np)) (some n) (b₀ :: suite) pos'] [] [] pos) (sTry i hd mb ms) :=
  PS.weak (ps_try_as (ts := fun a cls d => tS ⟨X.K, cvx cv a cls d⟩ wF ms) (tb := fun W' => tS ⟨X.K, cv⟩ W' mb) hs hf hN hi hln hc tk hb hsu) fun E σ H ⟨s, env, S, F, r, o⟩ => by
    refine ⟨s, env, S, F, r, ?_⟩
    unfold sTry at o
    generalize mb env S = ob at o
    cases ob with
    | nx e S' => exact o
    | bk e S' => exact o
    | ct e S' => exact o
    | ret rt S' => exact o
    | no => exact o
    | ex x0 e S' =>
      simp only at o
      intro c0 dx σ' F' H' r' sm rx
      cases hq : hd x0.nm with
      | none => rw [hq] at o; exact o.elim
      | some b =>
        rw [hq] at o
        refine ⟨b, by rw [rx.1]; exact hhd _ _ hq, fun hb1 a ha => ?_, fun hb1 => ?_⟩
        · subst hb1
          simp only at o
          have r2 : R ⟨X.K, cvx cv a c0 dx⟩ s ((e.map noExn).set i (.exn x0)) S' F' (σ'.set i (some (.ref a))) H' := (r'.recv (hx := some (a, c0, dx))).setExn (by show some (a, c0, dx) = some (a, cv.cl x0.nm, dx); rw [rx.1]) rx.2
          refine ⟨s, _, S', F', r2, ?_⟩
          have o2 := OutS.weak o sm
          generalize ms ((e.map noExn).set i (.exn x0)) S' = oc at o2
          have back : ∀ {e3 : Ev} {S3 : Cells} {F3 H3 : Hp} {σ3 : L2.St}, R ⟨X.K, cvx cv a c0 dx⟩ s e3 S3 F3 σ3 H3 → R ⟨X.K, cv⟩ s ((e3.map noExn).set i .no) S3 F3 (σ3.set i none) H3 := fun r3 => (r3.recv (hx := cv.hx)).setNo
          cases oc with
          | nx e3 S3 => exact fun σ3 F3 H3 r3 sm3 => o2 _ F3 H3 (back r3) sm3
          | bk e3 S3 => exact fun σ3 F3 H3 r3 sm3 => o2 _ F3 H3 (back r3) sm3
          | ct e3 S3 => exact fun σ3 F3 H3 r3 sm3 => o2 _ F3 H3 (back r3) sm3
          | ret rt S3 => cases rt <;> exact o2
          | ex x3 e3 S3 => exact o2.elim
          | no => exact o2.elim
        · subst hb1
          exact o c0 dx σ' F' H' r' sm rx
/-- try: mb / except c: ms, the error has no name -/
def sTryN (hd : String → Option Bool) (mb ms : Ms) : Ms := fun env S => match mb env S with
  | .ex x e S' => (match hd x.nm with
    | some true => (match ms (e.map noExn) S' with
      | .ex _ _ _ => .no
      | .nx e3 S3 => .nx (e3.map noExn) S3
      | .bk e3 S3 => .bk (e3.map noExn) S3
      | .ct e3 S3 => .ct (e3.map noExn) S3
      | o => o)
    | some false => .ex x e S'
    | none => .no)
  | o => o
theorem ds_tryN (hd : String → Option Bool) (hs : X.stack = X.env :: X.outer) (hf : X.env.frame = some X.env.locals) (hc : Names X x c) (tk : Takes X W)
    (hhd : ∀ nm b, hd nm = some b → PySem.W.exmOne X.K (cv.cl nm) c = some b)
    (hb : ∀ (W' : WX) (pn : List (Addr × Obj)) (xe : Value → Shared → Prop), Takes (X.tr pn xe) W' → PassesOwn (model X.prog X.w) X.A X.env xe → DB (X.tr pn xe) cv W' body mb)
    (hsu : ∀ (a : Addr) (oe : Obj) (cls : Value) (d : Option Addr) (pn : List (Addr × Obj)), Zc cls d oe → (∃ vs, oe.data = .fields vs) → DB (X.suite a ((a, oe) :: pn)) (cvx cv a cls d) wF (b₀ :: suite) ms) :
    DS X cv W (.Try body [.ExceptHandler (some (.Name x np)) none (b₀ :: suite) pos'] [] [] pos) (sTryN hd mb ms) :=
  PS.weak (ps_try_only (ts := fun a cls d => tS ⟨X.K, cvx cv a cls d⟩ wF ms) (tb := fun W' => tS ⟨X.K, cv⟩ W' mb) hs hf hc tk hb hsu) fun E σ H ⟨s, env, S, F, r, o⟩ => by
    refine ⟨s, env, S, F, r, ?_⟩
    unfold sTryN at o
    generalize mb env S = ob at o
    cases ob with
    | nx e S' => exact o
    | bk e S' => exact o
    | ct e S' => exact o
    | ret rt S' => exact o
    | no => exact o
    | ex x0 e S' =>
      simp only at o
      intro c0 dx σ' F' H' r' sm rx
      cases hq : hd x0.nm with
      | none => rw [hq] at o; exact o.elim
      | some b =>
        rw [hq] at o
        refine ⟨b, by rw [rx.1]; exact hhd _ _ hq, fun hb1 a ha => ?_, fun hb1 => ?_⟩
        · subst hb1
          simp only at o
          have r2 : R ⟨X.K, cvx cv a c0 dx⟩ s (e.map noExn) S' F' σ' H' := r'.recv (hx := some (a, c0, dx))
          refine ⟨s, _, S', F', r2, ?_⟩
          have o2 := OutS.weak o sm
          generalize ms (e.map noExn) S' = oc at o2
          cases oc with
          | nx e3 S3 => exact fun σ3 F3 H3 r3 sm3 => o2 _ F3 H3 (r3.recv (hx := cv.hx)) sm3
          | bk e3 S3 => exact fun σ3 F3 H3 r3 sm3 => o2 _ F3 H3 (r3.recv (hx := cv.hx)) sm3
          | ct e3 S3 => exact fun σ3 F3 H3 r3 sm3 => o2 _ F3 H3 (r3.recv (hx := cv.hx)) sm3
          | ret rt S3 => cases rt <;> exact o2
          | ex x3 e3 S3 => exact o2.elim
          | no => exact o2.elim
        · subst hb1
          exact o c0 dx σ' F' H' r' sm rx
end
end TT
namespace TT
open PySem PySem.Spec PyProof.Rows L2

/-! ### the error in an except suite -/
/-- isinstance(e, ..) by the error's class -/
def dIsE (i : Nat) (sub : String → Option Bool) : Me := fun env S => match env[i]? with
  | some (.exn x) => (match sub x.nm with
    | some b => .ok (.bl b) S
    | none => .no)
  | _ => .no
/-- e.f -/
def dFld (i : Nat) (f : String) (nms : String → Bool) : Me := fun env S => match env[i]? with
  | some (.exn x) => if nms x.nm = true then (match x.fs.lookup (Str.ofString f) with
    | some d => .ok d S
    | none => .no) else .no
  | _ => .no
section
variable {X : Cx} {a : Addr} {oe : Obj} {cls : Value} {d : Option Addr} {pn : List (Addr × Obj)} {pins : List (Addr × Obj)} {σ : L2.St} {H : Hp} {s : Shared}
/-- the caught error as an instance of its class -/
theorem exn_inst {K : PySem.W.Frag} {F : Hp} {io : List Addr} {C : Addr} {x : Ex} (hz : Zc cls d oe) (hf : ∃ vs, oe.data = .fields vs) (I : Inv (X.suite a ((a, oe) :: pn)) pins σ H s) (hcl : cls = .ref C) (sm : Same F H) (rf : RepF K F io x d) : ∃ od, PySem.W.InstAt s.heap a oe C od := by
  obtain ⟨hget, _⟩ := I.pin (a, oe) (List.mem_append.mpr (.inl List.mem_cons_self))
  obtain ⟨vs, hv⟩ := hf
  subst hcl
  rcases rf with ⟨_, rfl⟩ | ⟨dd, fs, rfl, h2, _, _⟩
  · exact ⟨none, hget, hz.1, by unfold PySem.W.notCls; rw [hv] <;> rfl, by rw [hz.2]; trivial⟩
  · have hx : ObjOk X.prog X.w H s.heap dd (.xd fs) := I.hok dd _ (sm _ _ h2)
    obtain ⟨mA, hns, hr⟩ := hx
    obtain ⟨od, ho, hl⟩ := lookIn_ns hns
    exact ⟨some od, hget, hz.1, by unfold PySem.W.notCls; rw [hv] <;> rfl, by rw [hz.2]; exact ho⟩
/-- what a class of errors must say for isinstance -/
structure ErrK (K : PySem.W.Frag) (D : Addr) : Prop where
  hc : (PySem.W.clsIn K D).isSome = true
  hg : PySem.W.findIn K (.ref D) "__getattribute__" = some (some (.builtin "BaseException.__getattribute__"))
  hk : PySem.W.findIn K (.ref D) "__getattr__" = some none
  hs : PySem.W.subIn K (.ref D) (.type "BaseException") = some true
  ha : PySem.W.findIn K (.ref D) "__class__" = some (some (.builtin "object.__class__"))
  hn : PySem.W.specialIn K (.builtin "object.__class__") "__get__" = some (some (.builtin "getset_descriptor.__get__"))
  ht : PySem.W.takesIn K (.builtin "object.__class__") = some true
  hm : PySem.W.mroIn K D (.type "object") = some true
/-- isinstance asked of the error -/
theorem call_isX (hz : Zc cls d oe) (hf : ∃ vs, oe.data = .fields vs) : CallR (X.suite a ((a, oe) :: pn)) (.builtin "isinstance") (fun xs H Q => ∃ (c : V) (F : Hp) (io : List Addr) (x : Ex) (D : Addr) (b : Bool), xs = [.ref a, c] ∧ Same F H ∧ RepF X.K F io x d ∧ cls = .ref D ∧ ErrK X.K D ∧ Q (.bl b) H ∧
  ((∃ u, (∀ v, RelV c v → v = u) ∧ PySem.W.kitOne X.K (.ref D) u = some b) ∨ ∃ (t : Addr) (cs : List V) (us : List Value), c = .ref t ∧ H t = some (.tup cs) ∧ (∀ vs, Vals cs vs → vs = us) ∧ PySem.W.kitAny X.K (.ref D) us = some b)) := by
  intro pins s σ H xs us Q I r h
  obtain ⟨c, F, io, x, D, b, rfl, sm, rf, hcl, E, q, hk⟩ := h
  cases r with
  | cons rx rr =>
    cases rr with
    | cons rt rr =>
      cases rr
      cases rx
      obtain ⟨od, J⟩ := exn_inst hz hf I hcl sm rf
      have Z := PySem.W.kitx_exc (x := a) (ox := oe) (od := od) E.hc E.hg E.hk E.hs E.ha E.hn E.ht E.hm
      rcases hk with ⟨u, hu, e⟩ | ⟨t, cs, us, rfl, ht, hv, e⟩
      · have ec := hu _ rt
        subst ec
        exact PySem.W.kia_one Z I.kIn J e (fun z => nomatch z) fun tk => ⟨.bl b, H, I.kept (t' := tk) fun _ _ z => z, rfl, q⟩
      · cases rt
        obtain ⟨_, its, rv, o, h1, h2, n, h3⟩ := (show ObjOk X.prog X.w H s.heap t (.tup cs) from I.hok t _ ht)
        have ei := hv _ rv
        subst ei
        obtain ⟨oc, od', dt, sl⟩ := o
        simp only at h2 h3
        subst h2 h3
        exact PySem.W.kia_tup Z I.kIn J h1 e (fun z => nomatch z) fun tk => ⟨.bl b, H, I.kept (t' := tk) fun _ _ z => z, rfl, q⟩
end
section
variable {X : Cx} {cv : Cv} {W : WX} {a : Addr} {oe : Obj} {cls : Value} {d : Option Addr} {pn : List (Addr × Obj)} {en : Str} {ce : Expr} {ep p pos tpos : Pos}
/-- isinstance(e, C) -/
theorem de_isE (i : Nat) (sub : String → Option Bool) {c : V} {u : Value} (hz : Zc cls d oe) (hf : ∃ vs, oe.data = .fields vs) (hcx : cv.hx = some (a, cls, d)) (hce : PE (X.suite a ((a, oe) :: pn)) ce (tC c)) (hu : ∀ v, RelV c v → v = u)
    (hsub : ∀ nm b, sub nm = some b → ∃ D, cv.cl nm = .ref D ∧ ErrK X.K D ∧ PySem.W.kitOne X.K (.ref D) u = some b) (hg : Gl X "isinstance") (hm : X.mg "isinstance" = none)
    (hN : X.N[i]? = some en := by rfl) (hv : Vis X.env.scope en := by first | exact Or.inl rfl | exact Or.inr (Or.inl rfl) | exact Or.inr (Or.inr rfl)) (hdn : (en == ("__debug__" : Str)) = false := by decide) (hcd : (en == ("__classdict__" : Str)) = false := by decide)
    (he : starEach [.Name en ep, ce] X.env = (false, eval (.Name en ep) X.env) :: starEach [ce] X.env := by rfl) (he2 : starEach [ce] X.env = (false, eval ce X.env) :: starEach [] X.env := by rfl) (hpl : (backTo pos (starEach [ce] X.env)).any (·.1) = false := by rfl) :
    DE (X.suite a ((a, oe) :: pn)) cv W (.Call (.Name "isinstance" p) [.Name en ep, ce] [] pos) (dIsE i sub) :=
  PE.weak (pe_callB (X := X.suite a ((a, oe) :: pn)) (call_isX hz hf) hg hm (by first | boot_by_name | decide +kernel) (pa_cons (pe_var (i := i) hN hv hdn hcd) (pa_cons hce pa_nil he2) he) (by decide) (by decide) he hpl) fun σ H Q ⟨s, env, S, F, r, o⟩ => by
    unfold dIsE at o
    split at o
    · rename_i x q
      split at o
      · rename_i b hb
        obtain ⟨a', d', h1, h2, h3⟩ := r.exn i x q
        have h1' : cv.hx = some (a', cv.cl x.nm, d') := h1
        rw [hcx] at h1'
        cases h1'
        obtain ⟨D, e1, E, e2⟩ := hsub _ _ hb
        exact ⟨.ref a, h2, c, F, s.io, x, D, b, rfl, r.h.fh, h3, e1, E, o _ F H r (Same.refl F) rfl, .inl ⟨u, hu, e2⟩⟩
      · exact o.elim
    · exact o.elim
/-- isinstance(e, (C, ..)) -/
theorem de_isET (i : Nat) (sub : String → Option Bool) {ces : List Expr} {cs : List V} {us : List Value} {tk : Nat} (hz : Zc cls d oe) (hf : ∃ vs, oe.data = .fields vs) (hcx : cv.hx = some (a, cls, d)) (hce : PA (X.suite a ((a, oe) :: pn)) ces (fun _ H Q => Q cs H)) (hl : cs.length ≤ 100) (hu : ∀ vs, Vals cs vs → vs = us)
    (hsub : ∀ nm b, sub nm = some b → ∃ D, cv.cl nm = .ref D ∧ ErrK X.K D ∧ PySem.W.kitAny X.K (.ref D) us = some b) (hg : Gl X "isinstance") (hm : X.mg "isinstance" = none)
    (hN : X.N[i]? = some en := by rfl) (hv : Vis X.env.scope en := by first | exact Or.inl rfl | exact Or.inr (Or.inl rfl) | exact Or.inr (Or.inr rfl)) (hdn : (en == ("__debug__" : Str)) = false := by decide) (hcd : (en == ("__classdict__" : Str)) = false := by decide)
    (he : starEach [.Name en ep, .Tuple ces tk tpos] X.env = (false, eval (.Name en ep) X.env) :: starEach [.Tuple ces tk tpos] X.env := by rfl) (he2 : starEach [.Tuple ces tk tpos] X.env = (false, eval (.Tuple ces tk tpos) X.env) :: starEach [] X.env := by rfl) (hpl : (backTo pos (starEach [.Tuple ces tk tpos] X.env)).any (·.1) = false := by rfl) :
    DE (X.suite a ((a, oe) :: pn)) cv W (.Call (.Name "isinstance" p) [.Name en ep, .Tuple ces tk tpos] [] pos) (dIsE i sub) :=
  PE.weak (pe_callB (X := X.suite a ((a, oe) :: pn)) (call_isX hz hf) hg hm (by first | boot_by_name | decide +kernel) (pa_cons (pe_var (i := i) hN hv hdn hcd) (pa_cons (pe_tup hce) pa_nil he2) he) (by decide) (by decide) he hpl) fun σ H Q ⟨s, env, S, F, r, o⟩ => by
    unfold dIsE at o
    split at o
    · rename_i x q
      split at o
      · rename_i b hb
        obtain ⟨a', d', h1, h2, h3⟩ := r.exn i x q
        have h1' : cv.hx = some (a', cv.cl x.nm, d') := h1
        rw [hcx] at h1'
        cases h1'
        obtain ⟨D, e1, E, e2⟩ := hsub _ _ hb
        refine ⟨.ref a, h2, by rw [sizeLine_eq]; omega, fun t ht => ?_⟩
        obtain ⟨r2, _⟩ := r.lay (o := .tup cs) ht
        exact ⟨.ref t, F, s.io, x, D, b, rfl, r2.h.fh, h3, e1, E, o _ F _ r2 (Same.refl F) rfl, .inr ⟨t, cs, us, rfl, upd_same, hu, e2⟩⟩
      · exact o.elim
    · exact o.elim
/-- what a class must say for its errors' fields -/
structure ErrA (K : PySem.W.Frag) (C : Addr) (f : Str) : Prop where
  x : XfC K C
  no : PySem.W.findIn K (.ref C) f = some none
theorem lookup_w {K : PySem.W.Frag} {F : Hp} {io : List Addr} {f : Str} {dv : D} : ∀ {fs : List (Str × D)} {vs : List (Str × V)}, vs.map (·.1) = fs.map (·.1) → Reps K F io (fs.map (·.2)) (vs.map (·.2)) → fs.lookup f = some dv → ∃ v, vs.lookup f = some v ∧ Rep K F io dv v
  | [], _, _, _, h => by cases h
  | (g, y) :: fs, vs, h1, h2, h => by
    cases vs with
    | nil => cases h1
    | cons z vs =>
      obtain ⟨g', y'⟩ := z
      simp only [List.map_cons, List.cons.injEq] at h1
      obtain ⟨rfl, h1⟩ := h1
      obtain ⟨v, r, e, h3, h4⟩ := h2
      simp only [List.map_cons, List.cons.injEq] at e
      obtain ⟨rfl, rfl⟩ := e
      by_cases hg : f = g'
      · subst hg
        simp only [List.lookup, beq_self_eq_true] at h ⊢
        cases h
        exact ⟨y', rfl, h3⟩
      · have e : (f == g') = false := by simpa using hg
        simp only [List.lookup, e] at h ⊢
        exact lookup_w h1 h4 h
/-- e.f -/
theorem de_fld (i : Nat) (f : String) {C : Addr} (hz : Zc cls d oe) (hf : ∃ vs, oe.data = .fields vs) (hcx : cv.hx = some (a, cls, d)) (nms : String → Bool) (T : ErrA X.K C (Str.ofString f)) (hC : ∀ nm, nms nm = true → cv.cl nm = .ref C)
    (hN : X.N[i]? = some en := by rfl) (hv : Vis X.env.scope en := by first | exact Or.inl rfl | exact Or.inr (Or.inl rfl) | exact Or.inr (Or.inr rfl)) (hdn : (en == ("__debug__" : Str)) = false := by decide) (hcd : (en == ("__classdict__" : Str)) = false := by decide)
    (hb : attributeBase (.Name en ep) (Str.ofString f) X.env (eval (.Name en ep) X.env) = eval (.Name en ep) X.env := by rfl) :
    DE (X.suite a ((a, oe) :: pn)) cv W (.Attribute (.Name en ep) (Str.ofString f) pos) (dFld i f nms) :=
  PE.weak (pe_xf T.x T.no hz hf (pe_var (X := X.suite a ((a, oe) :: pn)) (i := i) hN hv hdn hcd) hb) fun σ H Q ⟨s, env, S, F, r, o⟩ => by
    unfold dFld at o
    split at o
    · rename_i x q
      split at o
      · rename_i hn
        split at o
        · rename_i dv hl
          obtain ⟨a', d', h1, h2, h3⟩ := r.exn i x q
          have h1' : cv.hx = some (a', cv.cl x.nm, d') := h1
          rw [hcx] at h1'
          cases h1'
          rcases h3 with ⟨h3, _⟩ | ⟨dd, vs, rfl, h4, h5, h6⟩
          · rw [h3] at hl
            cases hl
          · obtain ⟨v, hv', rv⟩ := lookup_w h5 h6 hl
            exact ⟨.ref a, h2, rfl, hC _ hn, dd, vs, v, rfl, r.h.fh _ _ h4, hv', o v F H r (Same.refl F) rv⟩
        · exact o.elim
      · exact o.elim
    · exact o.elim
end
end TT
namespace TT
open PySem PySem.Spec PyProof.Rows L2

/-! ### new answers -/
abbrev rpN (G : Gm) : Rp D V := fun s _ F _ _ d v => RepN G.K s.F0 F s.io d v
abbrev rpNs (G : Gm) : Rp (List D) (List V) := fun s _ F _ _ d v => RepsN G.K s.F0 F s.io d v
def DN (X : Cx) (cv : Cv) (W : WX) (e : Expr) (m : Me) : Prop := PE X e (tG ⟨X.K, cv⟩ W (rpN ⟨X.K, cv⟩) m)
def DNs (X : Cx) (cv : Cv) (W : WX) (es : List Expr) (m : Ma) : Prop := PA X es (tG ⟨X.K, cv⟩ W (rpNs ⟨X.K, cv⟩) m)
theorem repN_flat {K : PySem.W.Frag} {F0 F : Hp} {io : List Addr} {d : D} {v : V} (f : flatD d = true) (h : Rep K F io d v) : RepN K F0 F io d v := by
  cases d <;> first | exact h | (simp [flatD] at f)
def dFlat (m : Me) : Me := fun env S => (m env S).bind fun d S1 => if flatD d = true then .ok d S1 else .no
def sRetW (m : Me) : Ms := fun env S => (m env S).go env fun d S1 => .ret (.new d) S1
/-- a call whose answer is new -/
def dNew (mf : Mf) (ma : Ma) : Me := fun env S => (ma env S).bind fun ds S1 => match mf ds [] with
  | .ok (.own es) _ => .ok (.lst es) S1
  | .ok (.new d) _ => .ok d S1
  | .ok (.val d) _ => if flatD d = true then .ok d S1 else .no
  | .ex x _ => .ex x S1
  | .no => .no
section
variable {X : Cx} {cv : Cv} {W : WX} {e : Expr} {es : List Expr} {m : Me} {mo ma : Ma} {pos : Pos}
theorem dn_flat (h : DE X cv W e m) : DN X cv W e (dFlat m) := PE.weak h fun σ H Q ⟨s, env, S, F, r, o⟩ => ⟨s, env, S, F, r, OutP.bind (rp := rpE _) o fun d S1 v F1 H1 r1 sm rv o1 => by
  split at o1
  · rename_i hf
    exact o1 v F1 H1 r1 (Same.refl F1) (repN_flat hf rv)
  · exact o1.elim⟩
theorem dn_own (h : DO X cv W e mo) : DN X cv W e (dFz mo) := PE.weak h fun σ H Q ⟨s, env, S, F, r0, o⟩ => ⟨s, env, S, F, r0, OutP.bind (rp := rpO _) o fun ds S1 v F1 H1 r1 sm rv o1 => by
  obtain ⟨a, rfl, w, off⟩ := rv
  have hn : s.F0 a = none := by
    cases q : s.F0 a with
    | none => rfl
    | some u =>
      have := r1.h.f0 a u q
      rw [w.fr] at this
      cases this
  obtain ⟨F2, r2, sm2, a2, xs, e2, g1, g2⟩ := r1.fz w off
  cases e2
  exact o1 _ F2 H1 r2 sm2 ⟨a, xs, rfl, g1, hn, g2⟩⟩
theorem dns_nil : DNs X cv W [] aNil := PA.weak pa_nil fun σ H Q ⟨s, env, S, F, r, o⟩ => o [] F H r (Same.refl F) rfl
theorem dns_cons (h : DN X cv W e m) (hr : DNs X cv W es ma) (hs : starEach (e :: es) X.env = (false, eval e X.env) :: starEach es X.env := by rfl) : DNs X cv W (e :: es) (aCons m ma) :=
  PA.weak (pa_cons h hr hs) fun σ H Q ⟨s, env, S, F, r, o⟩ => ⟨s, env, S, F, r, OutP.bind (rp := rpN _) o fun d S1 v F1 H1 r1 sm rv o1 => ⟨s, env, S1, F1, r1, OutP.bind (rp := rpNs _) o1 fun ds S2 vs F2 H2 r2 sm2 rvs o2 =>
    o2 (v :: vs) F2 H2 r2 (Same.refl F2) ⟨v, vs, rfl, RepN.mono sm2 (fun _ _ h => h) d v rv, rvs⟩⟩⟩
theorem dn_tup {k : Nat} (h : DNs X cv W es ma) : DN X cv W (.Tuple es k pos) (dTup ma) :=
  PE.weak (pe_tup h) fun σ H Q ⟨s, env, S, F, r0, o⟩ => ⟨s, env, S, F, r0, OutP.bind (rp := rpNs _) o fun ds S1 vs F1 H1 r1 sm rv o1 => by
    by_cases hl : ds.length ≤ 16777216
    · rw [if_pos hl] at o1
      refine ⟨sz_ok (by rw [Reps.len (RepsN.rep ds vs rv)]; exact hl), fun p hp => ?_⟩
      obtain ⟨r2, sm2⟩ := r1.new (o := .tup vs) hp
      exact o1 _ _ _ r2 sm2 ⟨p, vs, rfl, .inl (.inl upd_same), RepsN.mono sm2 (fun _ _ h => h) ds vs rv⟩
    · rw [if_neg hl] at o1
      exact False.elim o1⟩
theorem ds_retW (h : DN X cv W e m) : DS X cv W (.Return (some e) pos) (sRetW m) := PS.weak (ps_ret h) fun E σ H ⟨s, env, S, F, r, o⟩ => ⟨s, env, S, F, r, OutS.go (rp := rpN _) o fun d S1 v F1 H1 r1 sm rv o1 => o1 v F1 H1 r1.h rv⟩
theorem dn_call {k : Nat} {mf : Mf} {f : Addr} {fd : FuncData} {ps : List Str} (tk : Takes X W) (F : FnOk X.prog X.w X.K X.mg X.base (L2.CX X.prog X.w) k f fd ps (spT ⟨X.K, cv⟩ mf)) (hr : Room k X.A) (h : DC X cv W e f fd ps ma) : DN X cv W e (dNew mf ma) :=
  PE.weak (h k _ _ F hr (fun σ => passAt tk σ)) fun σ H Q ⟨s, env, S, F, r, o⟩ => ⟨s, env, S, F, r, OutP.bind (rp := rpA _) o fun ds S1 vs F1 H1 r1 sm rv o1 => ⟨ds, [], F1, s.io, 0, r1.h.enterP, rv, by
    have new0 : ∀ a, F1 a = none → s.F0 a = none := fun a h => by
      cases q : s.F0 a with
      | none => rfl
      | some u =>
        have := r1.h.f0 a u q
        rw [h] at this
        cases this
    generalize mf ds [] = om at o1
    cases om with
    | ok rt S2 =>
      cases rt with
      | val d =>
        simp only at o1
        split at o1
        · rename_i hf
          exact fun v F2 H2 c rv2 => o1 v F2 H2 (r1.afterP c) c.f0 (repN_flat hf rv2)
        · exact False.elim o1
      | new d => exact fun v F2 H2 c rv2 => o1 v F2 H2 (r1.afterP c) c.f0 (RepN.mono (Same.refl F2) (fun a _ h => new0 a h) d v rv2)
      | own es =>
        intro a F2 H2 c w
        obtain ⟨w2, off⟩ := own_off (S' := S2) r1 (wr0 (S' := S2) r1 w) w
        have hn : s.F0 a = none := new0 a (by
          cases q : F1 a with
          | none => rfl
          | some u =>
            have z : F2 a = some u := c.f0 a u q
            rw [w.fr] at z
            cases z)
        obtain ⟨F3, r3, sm3, a3, xs, e3, g1, g2⟩ := (r1.afterP c).fz w2 off
        cases e3
        exact o1 _ F3 H2 r3 (c.f0.trans sm3) ⟨a, xs, rfl, g1, hn, g2⟩
    | ex x S2 => exact fun c dx F2 H2 cr rx => o1 c dx F2 H2 (r1.afterP cr) cr.f0 rx
    | no => exact o1⟩⟩
end

/-! ### x = f(..), an answer that nobody else holds; the rest of the block with it -/
def unLoo : Sl → Sl
  | .loo _ => .no
  | s => s
def killO : SOut → SOut
  | .nx e S => .nx (e.map unLoo) S
  | .bk e S => .bk (e.map unLoo) S
  | .ct e S => .ct (e.map unLoo) S
  | .ex x e S => .ex x (e.map unLoo) S
  | o => o
def retN : Ret → Option D
  | .own es => some (.lst es)
  | .new d => some d
  | .val d => if flatD d = true then some d else none
def sLoo (i : Nat) (mf : Mf) (ma : Ma) (mr : Ms) : Ms := fun env S => (ma env S).go env fun ds S1 => match mf ds [] with
  | .ok r _ => (match retN r with
    | some d => killO (mr (env.set i (.loo d)) S1)
    | none => .no)
  | .ex x _ => .ex x env S1
  | .no => .no
theorem unLoo_get {env : Ev} {i : Nat} {sl : Sl} (h : (env.map unLoo)[i]? = some sl) : sl = .no ∨ (env[i]? = some sl ∧ ∀ d, sl ≠ .loo d) := by
  rw [List.getElem?_map] at h
  cases q : env[i]? with
  | none => rw [q] at h; cases h
  | some s0 =>
    rw [q] at h
    cases s0 with
    | loo x => cases h; exact .inl rfl
    | no => cases h; exact .inl rfl
    | val d => cases h; exact .inr ⟨rfl, fun x z => nomatch z⟩
    | own ds => cases h; exact .inr ⟨rfl, fun x z => nomatch z⟩
    | exn d => cases h; exact .inr ⟨rfl, fun x z => nomatch z⟩
def Snap.more (s : Snap) (P : Addr → Prop) : Snap := { s with P := fun a => s.P a ∨ P a }
theorem RelH.less {K : PySem.W.Frag} {s : Snap} {P : Addr → Prop} {S : Cells} {F H : Hp} (r : RelH K (s.more P) S F H) : RelH K s S F H :=
  ⟨fun a e => r.pp a (.inl e), r.fh, r.f0, r.new, r.frame, r.len, r.nd, r.cell⟩
theorem R.less {G : Gm} {s : Snap} {P : Addr → Prop} {env : Ev} {S : Cells} {F H : Hp} {σ : L2.St} (r : R G (s.more P) env S F σ H) : R G s (env.map unLoo) S F σ H := by
  refine ⟨r.h.less, by simp [r.len], fun i d q => ?_, fun i ds q => ?_, fun i j a ds es hne q1 q2 => ?_, fun i x q => ?_, fun i d q => ?_⟩
  · rcases unLoo_get q with z | ⟨z, _⟩
    · cases z
    · exact r.val i d z
  · rcases unLoo_get q with z | ⟨z, _⟩
    · cases z
    · obtain ⟨a, h1, h2, h3, h4, h5, h6⟩ := r.own i ds z
      exact ⟨a, h1, h2, h3, h4, fun e => h5 (.inl e), h6⟩
  · rcases unLoo_get q1 with z | ⟨z, _⟩
    · cases z
    · rcases unLoo_get q2 with z2 | ⟨z2, _⟩
      · cases z2
      · exact r.dist i j a ds es hne z z2
  · rcases unLoo_get q with z | ⟨z, _⟩
    · cases z
    · exact r.exn i x z
  · rcases unLoo_get q with z | ⟨_, z⟩
    · cases z
    · exact absurd rfl (z d)
/-- behind a call: what it has made is nobody's -/
theorem R.loose {G : Gm} {s : Snap} {env : Ev} {S S' : Cells} {F F' H H' : Hp} {σ : L2.St} {i : Nat} {d : D} {v : V} (r : R G s env S F σ H) (c : RelH G.K ⟨s.io, 0, H, F, nP⟩ S' F' H') (h : RepN G.K F F' s.io d v) :
    R G (s.more fun a => F a = none ∧ F' a ≠ none) (env.set i (.loo d)) S F (σ.set i (some v)) H' := by
  have fr : ∀ a o, H a = some o → H' a = some o := fun a o e => c.frame a o e (by simp [Snap.wr])
  have newH : ∀ a, F a = none → F' a ≠ none → H a = none := fun a h1 h2 => by
    rcases c.new a h2 with z | z
    · exact absurd h1 z
    · exact z
  have q := r.h.aft (nw := 0) (fun a h => by simp at h) c
  have rk : R G s env S F σ H' := r.keep fr
  have r2 : R G (s.more fun a => F a = none ∧ F' a ≠ none) env S F σ H' := by
    refine ⟨⟨fun a e => ?_, rk.h.fh, rk.h.f0, rk.h.new, rk.h.frame, rk.h.len, rk.h.nd, rk.h.cell⟩, rk.len, rk.val, fun j ds e => ?_, rk.dist, rk.exn, fun j d e => ?_⟩
    · rcases e with e | ⟨e1, e2⟩
      · exact rk.h.pp a e
      · obtain ⟨h0, hni, _⟩ := r.h.h0 (newH a e1 e2)
        refine ⟨fun z => ?_, e1, h0, hni⟩
        cases q2 : F' a with
        | none => exact e2 q2
        | some o =>
          have := c.fh a o q2
          rw [z] at this
          cases this
    · obtain ⟨a, h1, h2, h3, h4, h5, xs, h6, h7⟩ := r.own j ds e
      refine ⟨a, h1, h2, h3, h4, fun z => ?_, xs, fr a _ h6, h7⟩
      rcases z with z | ⟨z1, z2⟩
      · exact h5 z
      · have := newH a z1 z2
        rw [h6] at this
        cases this
    · obtain ⟨v, Q, h1, h2, h3, h4⟩ := rk.loo j d e
      exact ⟨v, Q, h1, h2, fun a ha => .inl (h3 a ha), h4⟩
  refine r2.setSl (fun _ e => nomatch e) (fun _ e => nomatch e) (fun _ e => nomatch e) (fun d' e => ?_)
  cases e
  refine ⟨v, fun a => if F a = none then F' a else none, rfl, fun a o e => ?_, fun a ha => ?_, ?_⟩
  · have e' : (if F a = none then F' a else none) = some o := e
    split at e'
    · exact c.fh a o e'
    · cases e'
  · have ha' : (if F a = none then F' a else none) ≠ none := ha
    split at ha'
    · rename_i h1
      exact .inr ⟨h1, ha'⟩
    · exact absurd rfl ha'
  · refine RepN.mono (fun a o e => ?_) (fun a h1 h2 => ?_) d v h
    · unfold ov
      cases q1 : F a with
      | some u =>
        have z := c.f0 a u q1
        have z' : F' a = some u := z
        rw [z'] at e
        exact e
      | none =>
        simp only
        rw [if_pos q1]
        exact e
    · exact h2
theorem RetP.less {G : Gm} {s : Snap} {P : Addr → Prop} {r : Ret} {S : Cells} {Q : VK} (h : RetP G s r S Q) : RetP G (s.more P) r S Q := by
  cases r with
  | val d => exact fun v F H q rv => h v F H q.less rv
  | own ds => exact fun a F H q w => h a F H q.less ⟨w.fr, w.h0, w.ni, fun e => w.np (.inl e), w.at_⟩
  | new d => exact fun v F H q rv => h v F H q.less rv
section
variable {X : Cx} {cv : Cv} {W : WX} {e : Expr} {ma : Ma} {rest : List Stmt} {mr : Ms} {pos pos' : Pos}
theorem db_loo (i : Nat) {x : Str} {k : Nat} {mf : Mf} {f : Addr} {fd : FuncData} {ps : List Str} (tk : Takes X W) (F : FnOk X.prog X.w X.K X.mg X.base (L2.CX X.prog X.w) k f fd ps (spT ⟨X.K, cv⟩ mf)) (hr : Room k X.A) (hN : X.N.Nodup) (h : DC X cv W e f fd ps ma) (hrest : DB X cv W rest mr)
    (hi : X.N[i]? = some x := by rfl) (hx : Loc X.env.scope x := by first | exact Or.inl rfl | exact Or.inr rfl) (hs : swapsWith e (some (.Name x pos')) pos.line X.env = pure false := by rfl)
    (hf : X.fn x = true ∨ X.env.scope.names.lookup x = some .local := by first | exact .inl rfl | exact .inr rfl | assumption) : DB X cv W (.Assign [.Name x pos'] e pos :: rest) (sLoo i mf ma mr) :=
  PSs.weak (pss_cons (ps_set hN hi hx (h k _ _ F hr (fun σ => passAt tk σ)) hs hf) hrest) fun E σ H ⟨s, env, S, F0, r, o⟩ => ⟨s, env, S, F0, r, OutS.go (rp := rpA _) o fun ds S1 vs F1 H1 r1 sm rv o1 => ⟨ds, [], F1, s.io, 0, r1.h.enterP, rv, by
    have fin : ∀ {d : D} {v : V} {S2 : Cells} {F2 H2 : Hp}, OutS ⟨X.K, cv⟩ W s F1 (killO (mr (env.set i (.loo d)) S1)) E → RelH X.K ⟨s.io, 0, H1, F1, nP⟩ S2 F2 H2 → RepN X.K F1 F2 s.io d v → tS ⟨X.K, cv⟩ W mr E (σ.set i (some v)) H2 := fun {d v S2 F2 H2} o2 c rn => by
      have r3 := r1.loose (i := i) c rn
      refine ⟨_, _, S1, F1, r3, ?_⟩
      generalize mr (env.set i (.loo d)) S1 = ob at o2
      cases ob with
      | nx e S' => exact fun σ' F' H' r' sm => o2 σ' F' H' r'.less sm
      | bk e S' => exact fun σ' F' H' r' sm => o2 σ' F' H' r'.less sm
      | ct e S' => exact fun σ' F' H' r' sm => o2 σ' F' H' r'.less sm
      | ret rt S' => exact RetP.less o2
      | ex x e S' => exact fun c dx σ' F' H' r' sm rx => o2 c dx σ' F' H' r'.less sm rx
      | no => exact o2
    generalize mf ds [] = om at o1
    cases om with
    | ok rt S2 =>
      simp only at o1
      cases hq : retN rt with
      | none => rw [hq] at o1; exact o1.elim
      | some d =>
        rw [hq] at o1
        cases rt with
        | val d0 =>
          have hq' : (if flatD d0 = true then some d0 else none) = some d := hq
          split at hq'
          · rename_i hfl
            cases hq'
            exact fun v F2 H2 c rv2 => fin o1 c (repN_flat hfl rv2)
          · cases hq'
        | new d0 =>
          cases hq
          exact fun v F2 H2 c rv2 => fin o1 c rv2
        | own es =>
          cases hq
          intro a F2 H2 c w
          obtain ⟨w1, w2, w3, w4, xs, w5, w6⟩ := w
          have c2 := c.freeze w1 w2 w3 w4 w5
          have hn : F1 a = none := by
            cases q : F1 a with
            | none => rfl
            | some u =>
              have z : F2 a = some u := c.f0 a u q
              rw [w1] at z
              cases z
          exact fin o1 c2 ⟨a, xs, rfl, upd_same, hn, Reps.mono (same_upd w1) _ _ w6⟩
    | ex x S2 => exact fun c dx F2 H2 cr rx => o1 c dx σ F2 H2 (r1.afterP cr) cr.f0 rx
    | no => exact o1⟩⟩
end
end TT
namespace TT
open PySem PySem.Spec PyProof.Rows L2

/-! ### a list within an answer that nobody else holds is written -/
/-- what is known behind it -/
def mutSl (ds : List D) (j : Nat) (es : List D) : Sl := if (ds.set j .non).all flatD = true ∧ es.all flatD = true then .loo (.tup (ds.set j (.lst es))) else .no
def mutEnv (i : Nat) (ds : List D) (j : Nat) (es : List D) (env : Ev) : Ev := (env.map unLoo).set i (mutSl ds j es)
/-- x[j].append(e), e written out -/
def sMutA (i j : Nat) (d : D) : Ms := fun env S => match env[i]? with
  | some (.loo (.tup ds)) => (match ds[j]? with
    | some (.lst es) => if es.length < 16777216 then .nx (mutEnv i ds j (es ++ [d]) env) S else .no
    | _ => .no)
  | _ => .no
/-- x[j][k] = e, e written out -/
def sMutS (i j : Nat) (k : Int) (d : D) : Ms := fun env S => match env[i]? with
  | some (.loo (.tup ds)) => (match ds[j]? with
    | some (.lst es) => (match ixN es.length k with
      | some n => .nx (mutEnv i ds j (es.set n d) env) S
      | none => .no)
    | _ => .no)
  | _ => .no
/-- new objects are laid and frozen -/
inductive Grow (F H : Hp) : Hp → Hp → Prop where
  | nil : Grow F H F H
  | more {F1 H1 : Hp} {p : Addr} {o : HO} : Grow F H F1 H1 → H1 p = none → Grow F H (upd F1 p o) (upd H1 p o)
theorem Grow.trans {F H F1 H1 F2 H2 : Hp} (a : Grow F H F1 H1) (b : Grow F1 H1 F2 H2) : Grow F H F2 H2 := by
  induction b with
  | nil => exact a
  | more _ h ih => exact .more ih h
theorem Grow.sameH {F H F1 H1 : Hp} (a : Grow F H F1 H1) : Same H H1 := by
  induction a with
  | nil => exact Same.refl _
  | more _ h ih => exact ih.trans (same_upd h)
theorem Grow.same {F H F1 H1 : Hp} (a : Grow F H F1 H1) (e : Same F H) : Same F F1 ∧ Same F1 H1 := by
  induction a with
  | nil => exact ⟨Same.refl _, e⟩
  | more _ h ih => exact ⟨ih.1.trans (same_upd (ih.2.free h)), same_upd2 ih.2⟩
theorem R.grow {G : Gm} {s : Snap} {env : Ev} {S : Cells} {F H F' H' : Hp} {σ : L2.St} (r : R G s env S F σ H) (g : Grow F H F' H') : R G s env S F' σ H' := by
  induction g with
  | nil => exact r
  | more _ h ih => exact (ih.new h).1
/-- an expression written out of constants -/
def tLit (K : PySem.W.Frag) (d : D) : TE := fun _ H Q => ∃ F, Same F H ∧ ∀ v F' H', Grow F H F' H' → (∀ io, Rep K F' io d v) → Q v H'
def tLits (K : PySem.W.Frag) (ds : List D) : TA := fun _ H Q => ∃ F, Same F H ∧ ∀ vs F' H', Grow F H F' H' → (∀ io, Reps K F' io ds vs) → Q vs H'
def LIT (X : Cx) (e : Expr) (d : D) : Prop := PE X e (tLit X.K d)
def LITs (X : Cx) (es : List Expr) (ds : List D) : Prop := PA X es (tLits X.K ds)
section
variable {X : Cx} {e : Expr} {es : List Expr} {d : D} {ds : List D} {pos : Pos} {jk : Nat}
theorem lit_c {v : V} (h : PE X e (tC v)) (hr : ∀ K F io, Rep K F io d v) : LIT X e d := PE.weak h fun σ H Q ⟨F, sm, q⟩ => q v F H .nil fun io => hr _ _ io
theorem lit_non : LIT X (.Constant .none jk pos) .non := lit_c pe_non fun _ _ _ => rfl
theorem lit_bl {b : Bool} : LIT X (.Constant (.bool b) jk pos) (.bl b) := lit_c pe_bl fun _ _ _ => rfl
theorem lit_int {i : Int} : LIT X (.Constant (.int i) jk pos) (.int i) := lit_c pe_int fun _ _ _ => rfl
theorem lit_str {x : List Char} {y : Str} (hy : y = cps x := by rfl) : LIT X (.Constant (.str y) jk pos) (.str x) := lit_c pe_str fun _ _ _ => by rw [hy]; rfl
theorem lits_nil : LITs X [] [] := PA.weak pa_nil fun σ H Q ⟨F, sm, q⟩ => q [] F H .nil fun _ => rfl
theorem lits_cons (h : LIT X e d) (hr : LITs X es ds) (hs : starEach (e :: es) X.env = (false, eval e X.env) :: starEach es X.env := by rfl) : LITs X (e :: es) (d :: ds) :=
  PA.weak (pa_cons h hr hs) fun σ H Q ⟨F, sm, q⟩ => ⟨F, sm, fun v F1 H1 g1 r1 => ⟨F1, (g1.same sm).2, fun vs F2 H2 g2 r2 => q (v :: vs) F2 H2 (g1.trans g2) fun io => ⟨v, vs, rfl, Rep.mono (g2.same (g1.same sm).2).1 d v (r1 io), r2 io⟩⟩⟩
theorem lit_tup (h : LITs X es ds) (hl : ds.length ≤ 1000 := by decide) : LIT X (.Tuple es jk pos) (.tup ds) :=
  PE.weak (pe_tup h) fun σ H Q ⟨F, sm, q⟩ => ⟨F, sm, fun vs F1 H1 g1 r1 => ⟨by rw [(r1 []).len, sizeLine_eq]; omega, fun p hp => q _ _ _ (.more g1 hp) fun io => ⟨p, vs, rfl, .inl (.inl upd_same), Reps.mono (same_upd ((g1.same sm).2.free hp)) _ _ (r1 io)⟩⟩⟩
theorem lit_lst (h : LITs X es ds) (hl : ds.length ≤ 1000 := by decide) : LIT X (.List es pos) (.lst ds) :=
  PE.weak (pe_lst h) fun σ H Q ⟨F, sm, q⟩ => ⟨F, sm, fun vs F1 H1 g1 r1 => ⟨by rw [(r1 []).len, sizeLine_eq]; omega, fun p hp => q _ _ _ (.more g1 hp) fun io => ⟨p, vs, rfl, upd_same, Reps.mono (same_upd ((g1.same sm).2.free hp)) _ _ (r1 io)⟩⟩⟩
end
theorem R.mut {G : Gm} {s : Snap} {env : Ev} {S : Cells} {F H : Hp} {σ : L2.St} {l : Addr} {o : HO} (r : R G s env S F σ H) (hl : s.P l) : R G s (env.map unLoo) S F σ (upd H l o) := by
  obtain ⟨q0, q1, q2, q3⟩ := r.h.pp l hl
  refine ⟨⟨fun a e => ⟨fun z => ?_, (r.h.pp a e).2⟩, same_off r.h.fh q1, r.h.f0, r.h.new, fun a u e hn => ?_, r.h.len, r.h.nd, fun n a ds h1 h2 => ?_⟩, by simp [r.len], fun i d q => ?_, fun i ds q => ?_, fun i j a ds es hne q1 q2 => ?_, fun i x q => ?_, fun i d q => ?_⟩
  · unfold upd at z
    split at z
    · cases z
    · exact (r.h.pp a e).1 z
  · rw [upd_ne (fun z => by rw [z, q2] at e; cases e)]
    exact r.h.frame a u e hn
  · obtain ⟨g1, xs, g2, g3⟩ := r.h.cell n a ds h1 h2
    have : a ≠ l := fun z => q3 (by rw [← z]; exact List.mem_of_getElem? h1)
    exact ⟨g1, xs, by rw [upd_ne this]; exact g2, g3⟩
  · rcases unLoo_get q with z | ⟨z, _⟩
    · cases z
    · exact r.val i d z
  · rcases unLoo_get q with z | ⟨z, _⟩
    · cases z
    · obtain ⟨a, h1, h2, h3, h4, h5, xs, h6, h7⟩ := r.own i ds z
      have : a ≠ l := fun z => h5 (by rw [z]; exact hl)
      exact ⟨a, h1, h2, h3, h4, h5, xs, by rw [upd_ne this]; exact h6, h7⟩
  · rcases unLoo_get q1 with z | ⟨z, _⟩
    · cases z
    · rcases unLoo_get q2 with z2 | ⟨z2, _⟩
      · cases z2
      · exact r.dist i j a ds es hne z z2
  · rcases unLoo_get q with z | ⟨z, _⟩
    · cases z
    · exact r.exn i x z
  · rcases unLoo_get q with z | ⟨_, z⟩
    · cases z
    · exact absurd rfl (z d)
theorem RepsN.getN {K : PySem.W.Frag} {F0 F : Hp} {io : List Addr} : ∀ {ds : List D} {xs : List V} {i : Nat} {d : D}, RepsN K F0 F io ds xs → ds[i]? = some d → ∃ v, xs[i]? = some v ∧ RepN K F0 F io d v
  | [], _, _, _, _, h => by simp at h
  | d :: ds, _, 0, _, ⟨x, r, h1, h2, _⟩, h => by
    subst h1
    simp at h
    subst h
    exact ⟨x, rfl, h2⟩
  | d :: ds, _, i + 1, _, ⟨x, r, h1, _, h3⟩, h => by
    subst h1
    simpa using RepsN.getN h3 (by simpa using h)
theorem reps_flat {K : PySem.W.Frag} {F F' : Hp} {io io' : List Addr} : ∀ {ds : List D} {vs : List V}, ds.all flatD = true → Reps K F io ds vs → Reps K F' io' ds vs
  | [], _, _, h => h
  | d :: ds, _, f, ⟨x, r, h1, h2, h3⟩ => by
    simp only [List.all_cons, Bool.and_eq_true] at f
    exact ⟨x, r, h1, rep_flat f.1 h2, reps_flat f.2 h3⟩
theorem repsN_setF {K : PySem.W.Frag} {F0 F F0' F' : Hp} {io : List Addr} {d : D} : ∀ {ds : List D} {xs : List V} {j : Nat} {v : V}, RepsN K F0 F io ds xs → (ds.set j .non).all flatD = true → xs[j]? = some v → RepN K F0' F' io d v → RepsN K F0' F' io (ds.set j d) xs
  | [], _, _, _, h, _, _, _ => h
  | d0 :: ds, _, 0, v, ⟨x, r, h1, h2, h3⟩, f, hx, hv => by
    subst h1
    simp at hx
    subst hx
    simp only [List.set_cons_zero, List.all_cons, Bool.and_eq_true] at f
    refine ⟨x, r, rfl, hv, ?_⟩
    have key : ∀ {ds : List D} {xs : List V}, ds.all flatD = true → RepsN K F0 F io ds xs → RepsN K F0' F' io ds xs := by
      intro ds
      induction ds with
      | nil => intro xs _ h; exact h
      | cons d ds ih =>
        intro xs f h
        obtain ⟨x, r, h1, h2, h3⟩ := h
        simp only [List.all_cons, Bool.and_eq_true] at f
        exact ⟨x, r, h1, repN_flat f.1 (rep_flat (F := F) f.1 (RepN.rep d x h2)), ih f.2 h3⟩
    exact key f.2 h3
  | d0 :: ds, _, j + 1, v, ⟨x, r, h1, h2, h3⟩, f, hx, hv => by
    subst h1
    simp only [List.set_cons_succ, List.all_cons, Bool.and_eq_true] at f
    exact ⟨x, r, rfl, repN_flat f.1 (rep_flat (F := F) f.1 (RepN.rep d0 x h2)), repsN_setF h3 f.2 (by simpa using hx) hv⟩
/-- the list within the tuple -/
theorem R.looAt {G : Gm} {s : Snap} {env : Ev} {S : Cells} {F H : Hp} {σ : L2.St} {i j : Nat} {ds es : List D} (r : R G s env S F σ H) (hi : env[i]? = some (.loo (.tup ds))) (hj : ds[j]? = some (.lst es)) :
    ∃ t us l xs, σ[i]? = some (some (.ref t)) ∧ SqT G.K H t us ∧ us[j]? = some (.ref l) ∧ H l = some (.lst xs) ∧ Reps G.K F s.io [] [] ∧ xs.length = es.length ∧ s.P l ∧
      ∀ (F' H' : Hp), Grow F H F' H' → H' l = some (.lst xs) ∧ (∀ (es' : List D) (ys : List V), ((∃ G0, Reps G.K G0 s.io es xs) → es'.all flatD = true → Reps G.K F' s.io es' ys) → R G s (mutEnv i ds j es' env) S F' σ (upd H' l (.lst ys))) := by
  obtain ⟨v, Q, h1, h2, h3, h4⟩ := r.loo i _ hi
  obtain ⟨t, us, rfl, g1, g2⟩ := h4
  obtain ⟨u, hu, l, xs, rfl, k1, k2, k3⟩ := RepsN.getN g2 hj
  have hQ : Q l = some (.lst xs) := by
    unfold ov at k1
    rw [k2] at k1
    exact k1
  have hP : s.P l := h3 l (by rw [hQ]; exact fun z => nomatch z)
  have sub := ov_sub r.h.fh h2
  refine ⟨t, us, l, xs, h1, seqT sub g1, hu, h2 _ _ hQ, rfl, k3.len, hP, fun F' H' g => ⟨g.sameH _ _ (h2 _ _ hQ), fun es' ys hy => ?_⟩⟩
  have rg := r.grow g
  have r2 := rg.mut (o := .lst ys) hP
  have hl : i < σ.length := (List.getElem?_eq_some_iff.mp h1).1
  have e : σ.set i σ[i] = σ := List.set_getElem_self hl
  have hσ : σ[i] = some (.ref t) := Option.some.inj ((List.getElem?_eq_getElem hl).symm.trans h1)
  have sF := (g.same r.h.fh).1
  have dis : ∀ a, Q a ≠ none → F' a = none := fun a ha => (rg.h.pp a (h3 a ha)).2.1
  have g1' : SqT G.K (ov F' Q) t us := seqT (ov_mono sF dis) g1
  have kl : F' l = none := dis l (by rw [hQ]; exact fun z => nomatch z)
  have k1' : ov F' Q l = some (.lst xs) := ov_mono sF dis _ _ k1
  have r3 : R G s ((env.map unLoo).set i (mutSl ds j es')) S F' (σ.set i σ[i]) (upd H' l (.lst ys)) := by
    refine r2.setSl (fun d e => ?_) (fun d e => ?_) (fun d e => ?_) (fun d e => ?_)
    · unfold mutSl at e
      split at e <;> cases e
    · unfold mutSl at e
      split at e <;> cases e
    · unfold mutSl at e
      split at e <;> cases e
    · unfold mutSl at e
      split at e
      · rename_i hc
        cases e
        have tl : ∀ {o : HO}, ov F' Q t = some o → o ≠ .lst xs → t ≠ l := fun {o} h hne z => by
          rw [z, k1'] at h
          exact hne (Option.some.inj h).symm
        have same : t ≠ l → ov F' (upd Q l (.lst ys)) t = ov F' Q t := fun h => by
          unfold ov
          rw [upd_ne h]
        refine ⟨.ref t, upd Q l (.lst ys), hσ, same_upd2 (h2.trans g.sameH), fun a ha => ?_, t, us, rfl, ?_, repsN_setF g2 hc.1 hu ⟨l, ys, rfl, ?_, kl, reps_flat (F := F') (io := s.io) hc.2 (hy ⟨_, k3⟩ hc.2)⟩⟩
        · by_cases hal : a = l
          · rw [hal]; exact hP
          · rw [upd_ne hal] at ha
            exact h3 a ha
        · rcases g1' with (g1 | ⟨o, g1⟩) | g1
          · have hne := tl g1 (fun z => nomatch z)
            exact .inl (.inl ((same hne).trans g1))
          · have hne := tl g1 (fun z => nomatch z)
            exact .inl (.inr ⟨o, (same hne).trans g1⟩)
          · exact .inr g1
        · unfold ov
          rw [kl]
          exact upd_same
      · cases e
  rw [e] at r3
  exact r3
theorem all_set_of {es : List D} {n : Nat} {d : D} (hn : n < es.length) (h : (es.set n d).all flatD = true) : flatD d = true := by
  rw [List.all_eq_true] at h
  exact h d (List.mem_iff_getElem?.mpr ⟨n, by rw [List.getElem?_set_self hn]⟩)
section
variable {X : Cx} {cv : Cv} {W : WX} {e ek : Expr} {me mk : Me} {x : Str} {jk : Nat} {p0 p1 p2 apos cpos pos pos' : Pos}
theorem ix_loo (i j : Nat) {ds es : List D} {env : Ev} {s : Snap} {S : Cells} {F H : Hp} {σ : L2.St} {t l : Addr} {us : List V} {K : PySem.W.Frag} {Q : VK} (h1 : σ[i]? = some (some (.ref t))) (g1 : SqT K H t us) (hu : us[j]? = some (.ref l)) (q : Q (.ref l) H) :
    tOp (rIx K) (tVar i) (tC (.int (j : Int))) σ H Q := by
  exact ⟨.ref t, h1, .inr (.inl ⟨t, us, (j : Int), .ref l, rfl, rfl, g1, atI_nat hu, q⟩)⟩
/-- x[j].append(e) -/
theorem ds_mutA (i j : Nat) {ji : Int} {d : D} (he : LIT X e d) (hji : ji = (j : Int) := by rfl) (hN : X.N[i]? = some x := by rfl) (hv : Vis X.env.scope x := by first | exact Or.inl rfl | exact Or.inr (Or.inl rfl) | exact Or.inr (Or.inr rfl)) (hd : (x == ("__debug__" : Str)) = false := by decide)
    (hcd : (x == ("__classdict__" : Str)) = false := by decide)
    (hbase : attributeBase (.Subscript (.Name x p0) (.Constant (.int ji) jk p1) p2) "append" X.env (eval (.Subscript (.Name x p0) (.Constant (.int ji) jk p1) p2) X.env) = eval (.Subscript (.Name x p0) (.Constant (.int ji) jk p1) p2) X.env := by rfl)
    (hfew : ((backTo cpos (starEach [e] X.env)).all (fun x => !x.1) && (backToKw cpos (keywordEach [] X.env)).all (fun x => x.1.isSome)
      && decide (([e] : List Expr).length + ([] : List Keyword).length + (if ([] : List Keyword).isEmpty then 0 else 1) < 30)) = true := by rfl)
    (hline : (apos.endLine == cpos.line) = true := by rfl) (hs : starEach [e] X.env = (false, eval e X.env) :: starEach [] X.env := by rfl) (hplain : (backTo cpos (starEach [] X.env)).any (·.1) = false := by rfl)
    (hsw : swapsWith (.Call (.Attribute (.Subscript (.Name x p0) (.Constant (.int ji) jk p1) p2) "append" apos) [e] [] cpos) none pos.line X.env = pure false := by rfl) :
    DS X cv W (.Expr (.Call (.Attribute (.Subscript (.Name x p0) (.Constant (.int ji) jk p1) p2) "append" apos) [e] [] cpos) pos) (sMutA i j d) := by
  subst hji
  exact PS.weak (ps_expr (pe_bm PySem.F.plainAttrs_list PySem.F.slot_list_append PySem.F.type_list_append mt_append (pe_ix ix_seq (pe_var hN hv hd hcd) pe_int (fun _ _ => rfl)) (pa_cons he pa_nil hs) hbase hfew hline hs hplain) hsw) fun E σ H ⟨s, env, S, F, r, o⟩ => by
    unfold sMutA at o
    split at o
    · rename_i ds hi
      split at o
      · rename_i es hj
        split at o
        · rename_i hl
          obtain ⟨t, us, l, xs, h1, g1, hu, hx, _, le, hP, fin⟩ := r.looAt hi hj
          refine ix_loo (env := env) (s := s) (S := S) (F := F) (ds := ds) (es := es) i j h1 g1 hu ⟨.inl ⟨rfl, xs, .inl (.inl hx)⟩, F, r.h.fh, fun v F' H' g rv => ?_⟩
          obtain ⟨hx', fin⟩ := fin F' H' g
          refine ⟨l, xs, v, rfl, rfl, hx', sz_lt' (by rw [le]; exact hl), o σ F' _ (fin _ _ fun f1 f2 => ?_) (g.same r.h.fh).1⟩
          obtain ⟨G0, f1⟩ := f1
          have f3 : es.all flatD = true := by
            rw [List.all_append, Bool.and_eq_true] at f2
            exact f2.1
          exact (reps_flat f3 f1).append (Reps.one (rv s.io))
        · exact o.elim
      · exact o.elim
    · exact o.elim
/-- x[j][k] = e -/
theorem ds_mutS (i j : Nat) {ji k : Int} {d : D} {j2 : Nat} {p3 : Pos} (he : LIT X e d) (hji : ji = (j : Int) := by rfl) (hN : X.N[i]? = some x := by rfl) (hv : Vis X.env.scope x := by first | exact Or.inl rfl | exact Or.inr (Or.inl rfl) | exact Or.inr (Or.inr rfl)) (hd : (x == ("__debug__" : Str)) = false := by decide)
    (hcd : (x == ("__classdict__" : Str)) = false := by decide)
    (ha : ∀ v, assign (.Subscript (.Subscript (.Name x p0) (.Constant (.int ji) jk p1) p2) (.Constant (.int k) j2 p3) pos') X.env v = (do
      let ov ← holding [v] (eval (.Subscript (.Name x p0) (.Constant (.int ji) jk p1) p2) X.env)
      let iv ← holding [v, ov] (eval (.Constant (.int k) j2 p3) X.env)
      standAt pos'
      holding [v, ov, iv] (setItem ov iv v)
      release [v, ov, iv] []) := by intro _; rfl)
    (hs : swapsWithSole [.Subscript (.Subscript (.Name x p0) (.Constant (.int ji) jk p1) p2) (.Constant (.int k) j2 p3) pos'] e pos.line X.env = pure false := by rfl) (hw' : swappedStores [.Subscript (.Subscript (.Name x p0) (.Constant (.int ji) jk p1) p2) (.Constant (.int k) j2 p3) pos'] e X.env = pure none := by rfl)
    (h1 : (assignEach [.Subscript (.Subscript (.Name x p0) (.Constant (.int ji) jk p1) p2) (.Constant (.int k) j2 p3) pos'] X.env).map (·.2) = [assign (.Subscript (.Subscript (.Name x p0) (.Constant (.int ji) jk p1) p2) (.Constant (.int k) j2 p3) pos') X.env] := by rfl) :
    DS X cv W (.Assign [.Subscript (.Subscript (.Name x p0) (.Constant (.int ji) jk p1) p2) (.Constant (.int k) j2 p3) pos'] e pos) (sMutS i j k d) := by
  subst hji
  exact PS.weak (ps_asg he (pg_sub (pe_ix ix_seq (pe_var hN hv hd hcd) pe_int (fun _ _ => rfl)) pe_int set_list ha) hs hw' h1) fun E σ H ⟨s, env, S, F, r, o⟩ => by
    unfold sMutS at o
    split at o
    · rename_i ds hi
      split at o
      · rename_i es hj
        split at o
        · rename_i n hn
          obtain ⟨t, us, l, xs, h1, g1, hu, hx, _, le, hP, fin⟩ := r.looAt hi hj
          refine ⟨F, r.h.fh, fun v F' H' g rv => ?_⟩
          obtain ⟨hx', fin⟩ := fin F' H' g
          refine ix_loo (env := env) (s := s) (S := S) (F := F) (ds := ds) (es := es) i j h1 (seqT g.sameH g1) hu ⟨l, xs, k, n, rfl, rfl, hx', by rw [le]; exact hn, o σ F' _ (fin _ _ fun f1 f2 => ?_) (g.same r.h.fh).1⟩
          obtain ⟨G0, f1⟩ := f1
          have hnl : n < es.length := (ixN_seq hn).2.1
          exact reps_flat f2 (f1.set n (rep_flat (all_set_of hnl f2) (rv s.io)))
        · exact o.elim
      · exact o.elim
    · exact o.elim
end
end TT
namespace TT
open PySem PySem.Spec PyProof.Rows L2

/-! ### set(a text) -/
/-- the signs met so far, each once -/
def met (f : Nat → Str) : Nat → List Str
  | 0 => []
  | i + 1 => if (met f i).any (· == f i) = true then met f i else met f i ++ [f i]
theorem met_any (f : Nat → Str) (i : Nat) (z : Str) : (met f (i + 1)).any (· == z) = ((met f i).any (· == z) || decide (z = f i)) := by
  rw [met]
  by_cases h : z = f i
  · subst h
    by_cases q : (met f i).any (· == f i) = true
    · rw [if_pos q, q]; rfl
    · rw [if_neg q]
      simp
  · have hd : decide (z = f i) = false := decide_eq_false h
    have hb : (f i == z) = false := beq_eq_false_iff_ne.mpr fun e => h e.symm
    rw [hd, Bool.or_false]
    split
    · rfl
    · simp [hb]
theorem met_len (f : Nat → Str) (i : Nat) : (met f (i + 1)).length = if (met f i).any (· == f i) = true then (met f i).length else (met f i).length + 1 := by
  rw [met]
  split <;> simp
theorem met_le (f : Nat → Str) : ∀ i, (met f i).length ≤ i
  | 0 => Nat.le_refl _
  | i + 1 => by
    have h := met_le f i
    rw [met_len]
    split <;> omega
section
variable {pr : Program} {w : World} {A : Around} {Rz : Result → Shared → Prop} {it : Addr} {fp wr : List Addr} {Gg : Array GenState → Array GenState → Prop} {n : Nat} {Pv : Nat → Value → Prop} {Sv : Nat → Shared → Prop}
theorem setIn (e0 : Addr) {s s' : Shared} {S : Str → Bool} {m : Nat} (hne : e0 ∉ wr) (hm : Moved wr Gg s s') (hS : s.heap.SetOf (PySem.strKind pr w) e0 S m) : s'.heap.SetOf (PySem.strKind pr w) e0 S m := by
  obtain ⟨o, es, ep, tb, ho, rest⟩ := hS
  exact ⟨o, es, ep, tb, hm.heap _ _ hne ho, rest⟩
theorem loopT (Wk : WalksS pr w A.in1 it fp wr Gg n Pv Sv) (e0 : Addr) (hout : e0 ∉ fp) (f : Nat → Str) (hv : ∀ i v, Pv i v → ∃ t, v = .str (f i) t) (hb : n + 1 < scanBound) (k : Nat) :
    ∀ (i : Nat) (s : Shared), n - i = k → i ≤ n → Sv i s → s.heap.SetOf (PySem.strKind pr w) e0 (fun z => (met f i).any (· == z)) (met f i).length →
      (∀ s', Moved (e0 :: wr) Gg s s' → s'.heap.SetOf (PySem.strKind pr w) e0 (fun z => (met f n).any (· == z)) (met f n).length → Rz (.ok (.ret .none)) s') →
      codeAny (model pr w) A (.builtin "set.update.loop" ⟨[.ref e0, .ref it], []⟩) Rz s := by
  have hw : e0 ∉ wr := fun h => hout (Wk.sub _ h)
  have grow : ∀ b ∈ wr, b ∈ e0 :: wr := fun b h => List.mem_cons_of_mem _ h
  induction k with
  | zero =>
    intro i s hk hi st hS hR
    obtain rfl : i = n := by omega
    refine codeAny_builtin PyProof.Rows.F.entry_set_update_loop ?_
    rw [Around.under_plainId PyProof.Rows.F.plain_set_update_loop _]
    change wpAny _ A.in1 (pyNext (.ref it) >>= _) _ _ s
    refine wpAny_bind (Wk.done s _ _ st fun s' hm => ?_)
    change wpAny _ A.in1 (ret Value.none) _ _ s'
    exact wpAny_pure (hR s' (hm.mono grow) (setIn e0 hw hm hS))
  | succ k ih =>
    intro i s hk hi st hS hR
    have lt : i < n := by omega
    refine codeAny_builtin PyProof.Rows.F.entry_set_update_loop ?_
    rw [Around.under_plainId PyProof.Rows.F.plain_set_update_loop _]
    change wpAny _ A.in1 (pyNext (.ref it) >>= _) _ _ s
    refine wpAny_bind (Wk.item i s _ _ lt st fun v s' hP st' hm => ?_)
    obtain ⟨t, rfl⟩ := hv i v hP
    have hS1 := setIn e0 hw hm hS
    change wpAny _ A.in1 (holding [Value.str (f i) t] (setAdd e0 (.str (f i) t)) >>= _) _ _ s'
    refine wpAny_bind (wpAny_holding ?_)
    unfold setAdd
    refine wpAny_holding ?_
    refine wpAny_bind ((PySem.strKind pr w).pyHash (k := f i) (strKind_is _ _ _ _) ?_)
    have room : (met f i).length + 1 < scanBound := by have := met_le f i; omega
    refine wpAny_setAddHashed_of (knd := PySem.strKind pr w) (s := { s' with toks := s'.toks + 1 }) (strKind_is _ _ _ _) rfl hS1 room fun h' sb hS2 => ?_
    have hS3 : h'.SetOf (PySem.strKind pr w) e0 (fun z => (met f (i + 1)).any (· == z)) (met f (i + 1)).length := SetOf_congr hS2 (fun z => (met_any f i z).symm) (met_len f i).symm
    refine wpAny_pure ⟨plainId_quiet PyProof.Rows.F.plain_set_update_loop _, ih (i + 1) _ (by omega) lt (Wk.frame _ s' _ _ st' (Nat.le_succ _) fun b hbf o e => ?_) hS3 fun s2 hm2 hSn => ?_⟩
    · rw [sb.2 b (fun z : b = e0 => hout (by rw [← z]; exact hbf))]
      exact e
    · refine hR s2 (Moved.trans Wk.gtrans ((hm.mono grow).then_heap (Nat.le_succ _) fun b o hbn e => ?_) hm2) hSn
      rw [sb.2 b (fun z : b = e0 => hbn (by rw [z]; exact List.mem_cons_self))]
      exact e
end
theorem strNotSet : isSubtype (.type "str") (.type "set") = pure false := by rw [isSubtype_type]; kernel_rfl
theorem strNotFrozen : isSubtype (.type "str") (.type "frozenset") = pure false := by rw [isSubtype_type]; kernel_rfl
/-- the i-th sign as a text -/
def signT (x : Str) (i : Nat) : Str := ⟨#[x.cps.getD i 0]⟩
section
variable {pr : Program} {w : World} {A : Around} {E : Value → Shared → Prop} {s : Shared}
theorem call_set_text {x : Str} {t : Tok} {Q : Value → Shared → Prop} (hh : A.handled = none) (hb : x.cps.size + 1 < scanBound)
    (h : ∀ (h' : Heap) (tk : Nat), h'.SetOf (PySem.strKind pr w) s.heap.objs.size (fun z => (met (signT x) x.cps.size).any (· == z)) (met (signT x) x.cps.size).length →
      (∀ b o, b < s.heap.objs.size → s.heap.get? b = some o → h'.get? b = some o) → Q (.ref s.heap.objs.size) { s with heap := h', toks := tk }) : wpAny (model pr w) A (call (.type "set") [.str x t]) Q E s := by
  obtain ⟨mc, mt, hmro⟩ := PySem.F.called_set.mro
  have hmade := PySem.F.called_set.made
  have hsub := PySem.F.called_set.sub
  refine wpAny_call (codeAny_of_tree ?_)
  change wpAny _ _ (callAny (.type "set") _) _ _ _
  refine wpAny_pure ⟨Code.quiet_builtin _ (by decide +kernel), codeAny_builtin F.entry_type_call ?_⟩
  rw [Around.under_plain (weight_type_call_type "set" [.str x t] []) rfl]
  have f1 := PySem.F.called_set.notType
  have f2 := PySem.F.called_set.canCreate
  have f3 := PySem.F.typeCall_set_1 (.str x t)
  repeat (any_goals (first | assumption | wp_step))
  refine codeAny_mono (code_set_new_1 (.str x t) (E := E) (Q₁ := fun ob s1 => ∃ l : Bool, ob = .ref s.heap.objs.size ∧ s1 = { s with heap := s.heap.push { cls := .type "set", dict := none, data := .set #[] 0 (.fresh 0 0 l) } }) fun l => ⟨l, rfl, rfl⟩) fun r s1 hr => ?_
  cases r with
  | error e => exact hr
  | ok fl =>
    cases fl with
    | ret ob =>
      obtain ⟨l, rfl, rfl⟩ := hr
      have hN : (s.heap.push { cls := .type "set", dict := none, data := .set #[] 0 (.fresh 0 0 l) }).get? s.heap.objs.size = some { cls := .type "set", dict := none, data := .set #[] 0 (.fresh 0 0 l) } := Heap.get?_push_size _ rfl
      have hT : Shared.TypeIs { s with heap := s.heap.push { cls := .type "set", dict := none, data := .set #[] 0 (.fresh 0 0 l) } } (.ref s.heap.objs.size) "set" := ⟨_, hN, rfl⟩
      have f4 := PySem.F.called_set.init.lookup
      have f5 := PySem.F.called_set.init.bind (.ref s.heap.objs.size)
      repeat (any_goals (first | assumption | wp_step))
      refine codeAny_mono (codeAny_call_builtin (R := wants (fun r s2 => r = .none ∧ ∃ h' tk, s2 = { s with heap := h', toks := tk } ∧
          h'.SetOf (PySem.strKind pr w) s.heap.objs.size (fun z => (met (signT x) x.cps.size).any (· == z)) (met (signT x) x.cps.size).length ∧ (∀ b o, b < s.heap.objs.size → s.heap.get? b = some o → h'.get? b = some o)) E) PySem.F.called_set.init.plain PySem.F.entry_set_init (check_set_init_1 hT ?_)) fun r2 s2 hr2 => ?_
      · have g1 := strNotSet
        have g2 := strNotFrozen
        have g3 : (Value.type "str" == Value.type "dict") = false := by decide
        unfold Builtin.«set.__init__» noKeywords Builtin.Frozenset.updateFrom
        generalize hPI : pyIter = PI
        wp_walk
        subst hPI
        refine wpAny_pyIter_str fun o Sv Wk st0 => ?_
        refine wpAny_bind (wpAny_runValue ?_)
        have h3 : A.in1.in1.in1.handled = none := by simp [hh]
        have hout : s.heap.objs.size ∉ [(s.heap.push { cls := .type "set", dict := none, data := .set #[] 0 (.fresh 0 0 l) }).objs.size] := by
          rw [Heap.size_push, List.mem_singleton]
          exact Nat.ne_of_lt (Nat.lt_succ_self _)
        have hv : ∀ i v, SignAt x i v → ∃ t, v = .str (signT x i) t := fun i v ⟨c, u, h1, h2⟩ => ⟨u, by
          rw [h2]
          unfold signT
          rw [Array.getD_eq_getD_getElem?, h1]
          rfl⟩
        refine loopT ((Wk _ h3).toS) s.heap.objs.size hout (signT x) hv hb (x.cps.size - 0) 0 _ (by omega) (Nat.zero_le _) st0 ?hS0 ?hR
        case hS0 =>
          have hg : ((s.heap.push { cls := .type "set", dict := none, data := .set #[] 0 (.fresh 0 0 l) }).push o).get? s.heap.objs.size = some { cls := .type "set", dict := none, data := .set #[] 0 (.fresh 0 0 l) } := Heap.get?_push_of_some _ hN
          exact SetOf_congr ((setObjOf_fresh (knd := PySem.strKind pr w) l).setOf hg (by unfold scanBound; omega)) (fun _ => rfl) rfl
        case hR =>
          intro s3 hm hS
          obtain ⟨h3', g3', d3, tk3, os3⟩ := s3
          obtain rfl : g3' = s.gens := hm.gens
          obtain rfl : d3 = s.drawn := hm.drawn
          obtain rfl : os3 = s.os := hm.os
          change wpAny _ _ _ _ _ _
          refine wpAny_pure ?_
          change wpAny _ _ (ret Value.none) _ _ _
          refine wpAny_pure ⟨rfl, h3', tk3, rfl, hS, fun b o1 hlt e => ?_⟩
          have n1 : b ≠ s.heap.objs.size := Nat.ne_of_lt hlt
          have n2 : b ≠ (s.heap.push { cls := .type "set", dict := none, data := .set #[] 0 (.fresh 0 0 l) }).objs.size := by
            rw [Heap.size_push]
            exact Nat.ne_of_lt (Nat.lt_succ_of_lt hlt)
          exact hm.heap b o1 (by simp only [List.mem_cons, List.not_mem_nil, or_false, not_or]; exact ⟨n1, n2⟩) (Heap.get?_push_of_some _ (Heap.get?_push_of_some _ e))
      · cases r2 with
        | error e => exact hr2
        | ok f2 =>
          cases f2 with
          | ret r =>
            obtain ⟨rfl, h', tk, rfl, hS', hk'⟩ := hr2
            repeat (any_goals (first | assumption | wp_step))
            exact h _ _ hS' hk'
          | _ => exact hr2.elim
    | _ => exact hr.elim
end
/-- the signs of a text, each once -/
def dst (x : List Char) : List Char := x.foldl (fun acc c => if c ∈ acc then acc else acc ++ [c]) []
def sgn (c : Char) : Str := ⟨#[c.toNat]⟩
theorem sgn_inj {a b : Char} (h : sgn a = sgn b) : a = b := by
  have e : (#[a.toNat] : Array Nat) = #[b.toNat] := congrArg (fun z : Str => z.cps) h
  have e2 : a.toNat = b.toNat := by simpa using e
  exact Char.ext (UInt32.toNat_inj.mp e2)
theorem any_sgn (l : List Char) (c : Char) : ((l.map sgn).any (· == sgn c)) = decide (c ∈ l) := by
  rw [Bool.eq_iff_iff]
  simp only [List.any_map, List.any_eq_true, Function.comp, beq_iff_eq, decide_eq_true_eq]
  constructor
  · rintro ⟨d, h1, h2⟩
    rw [← sgn_inj h2]
    exact h1
  · intro h
    exact ⟨c, h, rfl⟩
theorem met_dst (x : List Char) : ∀ i, i ≤ x.length → met (signT (cps x)) i = (dst (x.take i)).map sgn
  | 0, _ => by simp [met, dst]
  | i + 1, h => by
    have ih := met_dst x i (by omega)
    have hi : i < x.length := by omega
    have e1 : signT (cps x) i = sgn x[i] := by
      unfold signT sgn cps
      simp [Array.getD_eq_getD_getElem?, hi]
    have e2 : x.take (i + 1) = x.take i ++ [x[i]] := by rw [List.take_succ_eq_append_getElem hi]
    rw [met, ih, e1, any_sgn, e2]
    unfold dst
    rw [List.foldl_append]
    simp only [List.foldl_cons, List.foldl_nil]
    by_cases q : x[i] ∈ (x.take i).foldl (fun acc c => if c ∈ acc then acc else acc ++ [c]) []
    · rw [if_pos q, decide_eq_true q, if_pos rfl]
    · rw [if_neg q, decide_eq_false q, if_neg Bool.false_ne_true, List.map_append]
      rfl
def fLenSet (d : D) (S : Cells) : Out D := match d with
  | .str x => if x.length ≤ 1000 then .ok (.int ((dst x).length : Int)) S else .no
  | _ => .no
section
variable {X : Cx} {cv : Cv} {W : WX} {a : Expr} {m : Me} {p p2 q pos : Pos}
/-- len(set(a text)) -/
theorem de_lenSet (hc : X.calm = true) (hg : Gl X "len") (hm : X.mg "len" = none) (hg2 : Gl X "set") (hm2 : X.mg "set" = none) (ha : DE X cv W a m)
    (na : starEach [a] X.env = (false, eval a X.env) :: starEach [] X.env := by rfl) : DE X cv W (.Call (.Name "len" p) [.Call (.Name "set" p2) [a] [] q] [] pos) (dUn fLenSet m) := by
  refine ⟨fun pins s σ H Q I ⟨sn, env, S, F, r, o⟩ => ?_⟩
  refine Call_ (ld_blt I hg hm boot_len ?_)
  refine PyProof.Rows.callWith_builtin1 (PyProof.Rows.args_cons ?_ rfl) rfl rfl
  refine Call_ (ld_blt I hg2 hm2 boot_set ?_)
  refine PyProof.Rows.callWith_type1 (PyProof.Rows.args_cons (thn (ha.run pins s σ H (fun v H1 => ∃ d S1 F1, Rep X.K F1 sn.io d v ∧ R ⟨X.K, cv⟩ sn env S1 F1 σ H1 ∧ OutP ⟨X.K, cv⟩ W (rpE ⟨X.K, cv⟩) sn env σ F1 (fLenSet d S1) Q) I ⟨sn, env, S, F, r, OutP.bind (rp := rpE _) o fun d S1 v F1 H1 r1 sm rv o1 => ⟨d, S1, F1, rv, r1, o1⟩⟩) fun v s1 hv => PyProof.Rows.args_nil ?_) na) na rfl
  obtain ⟨x, H1, I1, rx, d, S1, F1, rv, r1, o1⟩ := hv
  unfold fLenSet at o1
  split at o1
  · rename_i y
    split at o1
    · rename_i hl
      cases rv
      obtain ⟨t, rfl⟩ := rx
      have hsz : (cps y).cps.size = y.length := by simp [cps]
      refine call_set_text (I1.ok.hd hc) (by rw [hsz]; unfold scanBound; omega) fun h' tk hS hk => ?_
      refine PyProof.Rows.args_nil ?_
      have I2 : Inv X pins σ H1 { s1 with heap := h', toks := tk } := I1.kept fun b o e => hk b o (Heap.lt_size e) e
      rw [hsz] at hS
      have em := met_dst y y.length (Nat.le_refl _)
      rw [List.take_length] at em
      rw [em, List.length_map] at hS
      obtain ⟨os, es, ep, t', ho, hex, hd, _, _, _, hf, hn⟩ := hS
      have hle : (dst y).length ≤ y.length := by
        have := met_le (signT (cps y)) y.length
        rw [em, List.length_map] at this
        exact this
      exact call_len_set ho hex hd hf (by rw [hn]; omega) ⟨.int ((dst y).length : Int), H1, I2.tok _, ⟨_, by rw [hn]⟩, o1 _ F1 H1 r1 (Same.refl F1) rfl⟩
    · exact o1.elim
  · exact o1.elim
end
end TT
namespace TT
open PySem PySem.Spec PyProof.Rows L2

/-! ### a < b of nested data -/
def alD (a b : D) : Bool := PySem.W.alike (toP a) (toP b)
def ltD (a b : D) : Bool := PySem.W.dataLt (toP a) (toP b)
def opLtN (a b : D) (S : Cells) : Out D := if alD a b = true ∧ isNon a = false ∧ dep a ≤ 64 ∧ dep b ≤ 64 then .ok (.bl (ltD a b)) S else .no
def rLtD (K : PySem.W.Frag) : R2 := fun x y H Q => ∃ d e, Dp K H x d ∧ Dp K H y e ∧ PySem.W.alike d e = true ∧ d ≠ .none ∧ d.depth ≤ 64 ∧ Q (.bl (PySem.W.dataLt d e)) H
theorem toP_non {d : D} (h : isNon d = false) (hd : dep d ≤ 64) : toP d ≠ .none := by
  cases d with
  | non => cases h
  | cell n => simp only [dep] at hd; omega
  | ty n => simp only [dep] at hd; omega
  | _ => intro z; simp only [toP] at z; cases z
section
variable {X : Cx} {cv : Cv}
theorem op_ltD (hu : X.A.units + 64 < cLine) : OpR X (compareOp .Lt) (rLtD X.K) := by
  intro pins s σ H x y v u Q I rx ry h
  obtain ⟨d, e, hd, he, al, nn, dp, q⟩ := h
  obtain ⟨as, r1⟩ := Dp.reads I d x v hd rx
  obtain ⟨bs, r2⟩ := Dp.reads I e y u he ry
  have z : wpAny (model X.prog X.w) X.A (compareOp .Lt v u) (EP X pins σ Q) X.xe s := PySem.W.rcLt_alike d e X.A s v u as bs r1 r2 al nn (by omega) X.prog X.w X.xe (EP X pins σ Q) ⟨.bl _, H, I, rfl, q⟩
  exact z
theorem f_ltD : Op2 cv X (rpE ⟨X.K, cv⟩) (rLtD X.K) opLtN := by
  intro W s env S F σ H a b x y Q r ra rb o
  unfold opLtN at o
  split at o
  · rename_i h
    exact ⟨_, _, dp_w r.h.fh _ _ ra h.2.2.1, dp_w r.h.fh _ _ rb h.2.2.2, h.1, toP_non h.2.1 h.2.2.1, Nat.le_trans (toP_dep a) h.2.2.1, o _ F H r (Same.refl F) rfl⟩
  · exact o.elim
end

/-! ### sorted -/
def leD (a b : D) : Bool := PySem.W.dataLe false toP a b
/-- all alike, and of a kind that sorts -/
def sortOk (ds : List D) : Bool := ds.all (fun a => ds.all fun b => alD a b) && ds.all (fun d => decide (dep d ≤ 64)) && (ds.all (fun d => match d with
  | .tup (_ :: _) => true
  | _ => false) || ds.all fun d => match d with
  | .bl _ => true
  | .int _ => true
  | .str _ => true
  | .lst _ => true
  | .frl _ => true
  | _ => false)
def fSorted (ds : List D) (S : Cells) : Out (List D) := match ds with
  | [d] => (match lvr S d with
    | some es => if sortOk es = true ∧ es.length ≤ 16777216 then .ok (es.mergeSort leD) S else .no
    | none => .no)
  | _ => .no
theorem each_of {K : PySem.W.Frag} {F : Hp} {io : List Addr} : ∀ {ds : List D} {vs : List V} {us : List Value}, Reps K F io ds vs → Vals vs us → PySem.W.EachIs (fun u d => ∃ v, RelV v u ∧ Rep K F io d v) us ds
  | [], _, _, h, r => by
    cases h
    cases r
    exact .nil
  | d :: ds, _, _, ⟨v, vs, e, h1, h2⟩, r => by
    subst e
    cases r with
    | cons r1 r2 => exact .cons ⟨v, r1, h1⟩ (each_of h2 r2)
theorem of_each {K : PySem.W.Frag} {F : Hp} {io : List Addr} : ∀ {ds : List D} {us : List Value}, PySem.W.EachIs (fun u d => ∃ v, RelV v u ∧ Rep K F io d v) us ds → ∃ vs, Reps K F io ds vs ∧ Vals vs us
  | [], _, h => by
    cases h
    exact ⟨[], rfl, .nil⟩
  | d :: ds, _, h => by
    cases h with
    | cons h1 h2 =>
      obtain ⟨v, r1, r2⟩ := h1
      obtain ⟨vs, r3, r4⟩ := of_each h2
      exact ⟨v :: vs, ⟨v, vs, rfl, r2, r3⟩, .cons r1 r4⟩
theorem each_imp {α β : Type} {R R' : α → β → Prop} : ∀ {as : List α} {bs : List β}, PySem.W.EachIs R as bs → (∀ a b, b ∈ bs → R a b → R' a b) → PySem.W.EachIs R' as bs
  | _, _, .nil, _ => .nil
  | _, _, .cons h1 h2, f => .cons (f _ _ (List.mem_cons_self ..) h1) (each_imp h2 fun a b hb h => f a b (List.mem_cons_of_mem _ hb) h)
section
variable {X : Cx} {cv : Cv}
def rSortD (K : PySem.W.Frag) : List V → Hp → VK → Prop := fun xs H Q => ∃ (a : Addr) (F : Hp) (io : List Addr) (ds : List D) (vs : List V), xs = [.ref a] ∧ SqL K H a vs ∧ Same F H ∧ Reps K F io ds vs ∧ sortOk ds = true ∧ ds.length ≤ 16777216 ∧
  ∀ (ys : List V) (p : Addr), H p = none → Reps K F io (ds.mergeSort leD) ys → Q (.ref p) (upd H p (.lst ys))
theorem sortOk_w {ds : List D} (h : sortOk ds = true) : PySem.W.AllAlike (ds.map toP) ∧ PySem.W.Sortable (ds.map toP) ∧ ∀ d ∈ ds, dep d ≤ 64 := by
  unfold sortOk at h
  simp only [Bool.and_eq_true, Bool.or_eq_true] at h
  obtain ⟨⟨h1, h2⟩, h3⟩ := h
  refine ⟨fun d hd e he => ?_, ?_, fun d hd => ?_⟩
  · obtain ⟨a, ha, rfl⟩ := List.mem_map.mp hd
    obtain ⟨b, hb, rfl⟩ := List.mem_map.mp he
    exact List.all_eq_true.mp (List.all_eq_true.mp h1 a ha) b hb
  · rcases h3 with h3 | h3
    · refine .inl fun d hd => ?_
      obtain ⟨a, ha, rfl⟩ := List.mem_map.mp hd
      have q := List.all_eq_true.mp h3 a ha
      split at q
      · rename_i a as
        exact ⟨toP a, toPs as, by simp only [toP, toPs]⟩
      · cases q
    · refine .inr fun d hd => ?_
      obtain ⟨a, ha, rfl⟩ := List.mem_map.mp hd
      have q := List.all_eq_true.mp h3 a ha
      have q2 : (toP a ≠ .none) ∧ ∀ xs, toP a ≠ .tuple xs := by
        cases a with
        | bl b => exact ⟨fun z => (by simp only [toP, reduceCtorEq] at z), fun xs z => (by simp only [toP, reduceCtorEq] at z)⟩
        | int b => exact ⟨fun z => (by simp only [toP, reduceCtorEq] at z), fun xs z => (by simp only [toP, reduceCtorEq] at z)⟩
        | str b => exact ⟨fun z => (by simp only [toP, reduceCtorEq] at z), fun xs z => (by simp only [toP, reduceCtorEq] at z)⟩
        | lst b => exact ⟨fun z => (by simp only [toP, reduceCtorEq] at z), fun xs z => (by simp only [toP, reduceCtorEq] at z)⟩
        | frl b => exact ⟨fun z => (by simp only [toP, reduceCtorEq] at z), fun xs z => (by simp only [toP, reduceCtorEq] at z)⟩
        | _ => cases q
      exact q2
  · exact of_decide_eq_true (List.all_eq_true.mp h2 d hd)
theorem cr_sortD (hu : X.A.units + 200 < cLine) : CallR X (.builtin "sorted") (rSortD X.K) := by
  intro pins s σ H xs us Q I r h
  obtain ⟨a, F, io, ds, vs, rfl, hs, sm, rv, ok, hl, q⟩ := h
  obtain ⟨its, rz, pl, hz⟩ := I.list hs
  rw [Vals.ref1 r]
  obtain ⟨al, so, dp⟩ := sortOk_w ok
  have E := each_of rv rz
  refine PySem.W.sorted_data (enc := toP) pl.isList E (each_imp E fun u d hd ⟨v, h1, h2⟩ => Dp.reads I _ v u (dp_w sm d v h2 (dp d hd)) h1) al so (by rw [sizeLine_eq]; exact hl) (fun d hd => ?_) fun out ho eo => ?_
  · have := Nat.le_trans (toP_dep d) (dp d hd)
    omega
  · obtain ⟨ys, g1, g2⟩ := of_each eo
    obtain ⟨ep, he'⟩ := sortedAll_at s.heap its out.toArray
    have hfr : H (s.heap.objs.size + 1) = none := I.hok.fresh (Nat.le_succ _)
    have hlen : ys.length ≤ sizeLine := by
      rw [g1.len, List.length_mergeSort, sizeLine_eq]
      exact hl
    exact ⟨.ref (s.heap.objs.size + 1), upd H (s.heap.objs.size + 1) (.lst ys), I.laid (o := .lst ys) (t' := s.toks) (fun _ _ => sortedAll_old) (Nat.le_succ _) ⟨hlen, out, ep, g2, he'⟩, rfl, q ys _ hfr g1⟩
theorem f_sorted : OpA cv X (rpO ⟨X.K, cv⟩) (rSortD X.K) fSorted := by
  intro W s env S F σ H ds vs Q r rv o
  unfold fSorted at o
  split at o
  · split at o
    · rename_i es e
      split at o
      · rename_i h
        obtain ⟨v, r', rfl, h1, h2⟩ := rv
        cases h2
        obtain ⟨a, us, rfl, h3, h4⟩ := lvr_w r.h h1 e
        refine ⟨a, F, s.io, es, us, rfl, h3, r.h.fh, h4, h.1, h.2, fun ys p hp hy => ?_⟩
        obtain ⟨r2, off⟩ := r.lay (o := .lst ys) hp
        obtain ⟨h0, hni, hf⟩ := r.h.h0 hp
        exact o _ _ _ r2 (Same.refl F) ⟨p, rfl, (⟨hf, h0, hni, r.h.pFree hp, ys, upd_same, hy⟩ : OwnAt X.K s F _ p _), off⟩
      · exact o.elim
    · exact o.elim
  · exact o.elim
end

/-! ### sum, all, any -/
def intsD : List D → Option (List Int)
  | [] => some []
  | .int i :: r => (intsD r).map (i :: ·)
  | _ => none
def blsD : List D → Option (List Bool)
  | [] => some []
  | .bl b :: r => (blsD r).map (b :: ·)
  | _ => none
theorem ints_w {K : PySem.W.Frag} {F : Hp} {io : List Addr} : ∀ {ds : List D} {vs : List V} {ns : List Int}, Reps K F io ds vs → intsD ds = some ns → vs = ns.map V.int
  | [], _, _, h, e => by cases h; cases e; rfl
  | d :: ds, _, ns, ⟨v, r, h1, h2, h3⟩, e => by
    subst h1
    cases d with
    | int i =>
      unfold intsD at e
      cases q : intsD ds with
      | none => rw [q] at e; cases e
      | some zs =>
        rw [q] at e
        cases e
        cases h2
        rw [ints_w h3 q]
        rfl
    | _ => cases e
theorem bls_w {K : PySem.W.Frag} {F : Hp} {io : List Addr} : ∀ {ds : List D} {vs : List V} {ns : List Bool}, Reps K F io ds vs → blsD ds = some ns → vs = ns.map V.bl
  | [], _, _, h, e => by cases h; cases e; rfl
  | d :: ds, _, ns, ⟨v, r, h1, h2, h3⟩, e => by
    subst h1
    cases d with
    | bl i =>
      unfold blsD at e
      cases q : blsD ds with
      | none => rw [q] at e; cases e
      | some zs =>
        rw [q] at e
        cases e
        cases h2
        rw [bls_w h3 q]
        rfl
    | _ => cases e
def fSum (ds : List D) (S : Cells) : Out D := match ds with
  | [d] => (match lvr S d with
    | some es => (match intsD es with
      | some ns => .ok (.int ns.sum) S
      | none => .no)
    | none => .no)
  | _ => .no
def fBls (g : List Bool → Bool) (ds : List D) (S : Cells) : Out D := match ds with
  | [d] => (match lvr S d with
    | some es => (match blsD es with
      | some bs => .ok (.bl (g bs)) S
      | none => .no)
    | none => .no)
  | _ => .no
abbrev fAll := fBls fun bs => bs.all id
abbrev fAny := fBls fun bs => bs.any id
section
variable {X : Cx} {cv : Cv}
theorem f_sum : OpA cv X (rpE ⟨X.K, cv⟩) (rSum X.K) fSum := by
  intro W s env S F σ H ds vs Q r rv o
  unfold fSum at o
  split at o
  · split at o
    · rename_i es e
      split at o
      · rename_i ns en
        obtain ⟨v, r', rfl, h1, h2⟩ := rv
        cases h2
        obtain ⟨a, us, rfl, h3, h4⟩ := lvr_w r.h h1 e
        rw [ints_w h4 en] at h3
        exact ⟨a, ns, rfl, h3, o _ F H r (Same.refl F) rfl⟩
      · exact o.elim
    · exact o.elim
  · exact o.elim
theorem f_bls {g : List Bool → Bool} : OpA cv X (rpE ⟨X.K, cv⟩) (fun vs H Q => ∃ (a : Addr) (bs : List Bool), vs = [V.ref a] ∧ SqL X.K H a (bs.map V.bl) ∧ Q (.bl (g bs)) H) (fBls g) := by
  intro W s env S F σ H ds vs Q r rv o
  unfold fBls at o
  split at o
  · split at o
    · rename_i es e
      split at o
      · rename_i ns en
        obtain ⟨v, r', rfl, h1, h2⟩ := rv
        cases h2
        obtain ⟨a, us, rfl, h3, h4⟩ := lvr_w r.h h1 e
        rw [bls_w h4 en] at h3
        exact ⟨a, ns, rfl, h3, o _ F H r (Same.refl F) rfl⟩
      · exact o.elim
    · exact o.elim
  · exact o.elim
end
end TT
namespace TT
open PySem PySem.Spec PyProof.Rows L2

/-! ### x.index(y) where y stands in x -/
def fIndex (x : List Char) (ds : List D) (S : Cells) : Out D := match ds with
  | [.str y] => if 0 ≤ PySem.Txt.find (cps x) (cps y) then .ok (.int (PySem.Txt.find (cps x) (cps y))) S else .no
  | _ => .no
theorem f_index {X : Cx} {cv : Cv} : OpMS cv X (fun x xs H Q => ∃ a b i rest, x = .str a ∧ xs = [.str b] ∧ Builtin.Str.occurrences a b 0 a.length 1 = i :: rest ∧ Q (.int (i : Nat)) H) fIndex := by
  intro W s env S F σ H z ds vs Q r rv o
  unfold fIndex at o
  split at o
  · obtain ⟨v, r', rfl, h1, h2⟩ := rv
    cases h1
    cases h2
    split at o
    · rename_i y h
      unfold PySem.Txt.find at h o
      generalize e : Builtin.Str.occurrences (cps z) (cps y) 0 (cps z).length 1 = l at h o
      cases l with
      | nil => exact absurd h (by decide)
      | cons i rest => exact ⟨_, _, i, rest, rfl, rfl, e, o _ F H r (Same.refl F) rfl⟩
    · exact o.elim
  · exact o.elim

/-! ### x[::-1] -/
def opRev (a : D) (S : Cells) : Out D := match a with
  | .str x => if x.length ≤ 16777216 then .ok (.str x.reverse) S else .no
  | a => match lvr S a with
    | some ds => .ok (.lst ds.reverse) S
    | none => .no
def tRev (K : PySem.W.Frag) (te : TE) : TE := fun σ H Q => te σ H fun x H1 => (∃ a xs, x = .ref a ∧ SqL K H1 a xs ∧ ∀ p, H1 p = none → Q (.ref p) (upd H1 p (.lst xs.reverse))) ∨ ∃ y : List Char, x = .str (cps y) ∧ y.length ≤ sizeLine ∧ Q (.str (cps y.reverse)) H1
theorem back_text (y : List Char) (hl : Str) (h : hl = ⟨((Builtin.Str.strSliceIndices none none (-1) (cps y).length).filterMap ((cps y).cps[·]?)).toArray⟩) : hl = cps y.reverse := by
  subst h
  have e : Builtin.Str.strSliceIndices none none (-1) (cps y).length = (List.range (cps y).length).reverse := by
    show sliceRange (((cps y).length : Int) - 1) (-1) (-1) = _
    rw [PySem.W.krv_sliceRange, PySem.W.krv_range]
  rw [e, List.filterMap_reverse]
  have e2 : (cps y).length = (cps y).cps.size := rfl
  rw [e2, PySem.W.krv_all]
  simp [cps]
theorem Reps.reverse {K : PySem.W.Frag} {F : Hp} {io : List Addr} : ∀ {ds : List D} {xs : List V}, Reps K F io ds xs → Reps K F io ds.reverse xs.reverse
  | [], _, h => by
    cases h
    rfl
  | d :: ds, _, ⟨v, vs, e, h1, h2⟩ => by
    subst e
    rw [List.reverse_cons, List.reverse_cons]
    exact h2.reverse.append (Reps.one h1)
section
variable {X : Cx} {cv : Cv} {W : WX} {e : Expr} {te : TE} {k : Nat} {p1 p2 p3 pos : Pos}
theorem pe_rev (he : PE X e te) : PE X (.Subscript e (.Slice none none (some (.UnaryOp .USub (.Constant (.int 1) k p1) p2)) p3) pos) (tRev X.K te) := by
  refine ⟨fun pins s σ H Q I h => ?_⟩
  refine Subscript_ (thn (he.run pins s σ H _ I h) fun v s1 ⟨x, H1, I1, r1, q1⟩ => ?_)
  have hone : PO X (some (.UnaryOp .USub (.Constant (.int 1) k p1) p2)) (tPart (tUn (rU fun i => .int (-i)) (tC (.int 1)))) := po_some (pe_un un_neg pe_int)
  refine wpAny_Slice (thn (po_none.run pins s1 σ H1 (fun o H2 => o = none ∧ H2 = H1) I1 ⟨rfl, rfl⟩) fun vl s2 ⟨lo, H2, I2, pl, el, e2⟩ => ?_)
  subst el e2
  refine thn (po_none.run pins s2 σ H2 (fun o H3 => o = none ∧ H3 = H2) I2 ⟨rfl, rfl⟩) fun vu s3 ⟨up, H3, I3, pu, eu, e3⟩ => ?_
  subst eu e3
  refine thn (hone.run pins s3 σ H3 (fun o H4 => o = some (-1) ∧ H4 = H3) I3 ⟨1, rfl, -1, rfl, rfl, rfl⟩) fun vs s4 ⟨o, H4, I4, ps, eo, e4⟩ => ?_
  subst eo e4
  have I5 : Inv X pins σ H4 { s4 with heap := s4.heap.push { cls := .type "slice", data := .fields #[vl, vu, vs] } } := I4.kept (t' := s4.toks) fun b ob z => Heap.get?_push_of_some _ z
  rcases q1 with ⟨a, xs, ex, hx, q⟩ | ⟨y, ex, hy, q⟩
  · subst ex
    cases r1
    obtain ⟨its, r, ht, hz⟩ := I5.list hx
    have hlen := r.length
    change wpAny (model X.prog X.w) X.A (subscriptTail e (.Slice none none (some (.UnaryOp .USub (.Constant (.int 1) k p1) p2)) p3) (.ref a) (.ref s4.heap.objs.size)) (EP X pins σ Q) X.xe { s4 with heap := s4.heap.push { cls := .type "slice", data := .fields #[vl, vu, vs] } }
    refine tail_any (ops := [.ref a, .ref s4.heap.objs.size]) ht.isList.typeIs (PySem.slot_list_getitem.lookup) ?_ (by with_unfolding_all rfl)
    refine wpAny_getItem_list_slice ht.isList (Heap.IsSliceOf.new _ vl vu vs) pl pu ps (by decide) ?_ (by rw [List.size_toArray]; omega)
    rw [PySem.W.krv_pick]
    refine ⟨.ref _, _, I5.laid (t' := s4.toks) (o := .lst xs.reverse) (fun b ob z => Heap.get?_push_of_some _ z) (Nat.le_refl _) ?_, rfl, q _ (I5.hok.fresh (Nat.le_refl _))⟩
    exact ⟨by rw [List.length_reverse]; exact hz, _, 0, r.reverse, Heap.get?_push_size _ rfl⟩
  · subst ex
    obtain ⟨t, rfl⟩ := r1
    obtain ⟨l0, rfl, hl0⟩ := IsPart.raw pl
    obtain ⟨u0, rfl, hu0⟩ := IsPart.raw pu
    cases ps with
    | int i tk =>
    change wpAny (model X.prog X.w) X.A (subscriptTail e (.Slice none none (some (.UnaryOp .USub (.Constant (.int 1) k p1) p2)) p3) (.str (cps y) t) (.ref s4.heap.objs.size)) (EP X pins σ Q) X.xe { s4 with heap := s4.heap.push { cls := .type "slice", data := .fields #[partValue l0, partValue u0, .int (-1) tk] } }
    refine tail_any (ops := [.ref s4.heap.objs.size, .str (cps y) t]) (typeIs_str _ _ _) PySem.F.slot_str_getitem.lookup ?_ (by with_unfolding_all rfl)
    refine wpAny_getItem_str_slice (l := l0) (u := u0) (st := some (-1, tk)) ⟨_, Heap.get?_push_size _ rfl, rfl, rfl⟩ rfl ?_
    unfold sliceMade
    rw [if_neg (by simp)]
    have ee : (⟨((slicePicked (cps y) l0 u0 (some (-1, tk))).filterMap ((cps y).cps[·]?)).toArray⟩ : Str) = cps y.reverse := back_text y _ (by unfold slicePicked; rw [hl0, hu0]; rfl)
    rw [ee]
    exact ⟨by show (cps y.reverse).cps.size ≤ sizeLine; simpa [cps] using hy, .str (cps y.reverse), H4, I5.tok _, ⟨_, rfl⟩, q⟩
theorem de_rev {m : Me} (he : DE X cv W e m) : DE X cv W (.Subscript e (.Slice none none (some (.UnaryOp .USub (.Constant (.int 1) k p1) p2)) p3) pos) (dUn opRev m) :=
  PE.weak (pe_rev he) fun σ H Q ⟨s, env, S, F, r, o⟩ => ⟨s, env, S, F, r, OutP.bind (rp := rpE _) o fun d S1 v F1 H1 r1 sm rv o1 => by
    unfold opRev at o1
    split at o1
    · split at o1
      · rename_i x h
        cases rv
        exact .inr ⟨x, rfl, by rw [sizeLine_eq]; exact h, o1 _ F1 H1 r1 (Same.refl F1) rfl⟩
      · exact o1.elim
    · split at o1
      · rename_i es h
        obtain ⟨a, us, rfl, h3, h4⟩ := lvr_w r1.h rv h
        refine .inl ⟨a, us, rfl, h3, fun p hp => ?_⟩
        obtain ⟨r2, sm2⟩ := r1.new (o := .lst us.reverse) hp
        exact o1 _ _ _ r2 sm2 ⟨p, _, rfl, upd_same, (Reps.mono sm2 _ _ h4).reverse⟩
      · exact o1.elim⟩
end
end TT
namespace TT
open PySem PySem.Spec PyProof.Rows L2

/-! ### a call that lends one of one's own lists beside given lists -/
def tameD : D → Bool
  | .lst ds => ds.all flatD
  | .frl ds => ds.all flatD
  | d => flatD d
def tames (ds : List D) : Bool := ds.all tameD
theorem rep_tame {K : PySem.W.Frag} {F : Hp} {io io' : List Addr} {d : D} {v : V} (f : tameD d = true) (h : Rep K F io d v) : Rep K F io' d v := by
  cases d with
  | lst ds =>
    obtain ⟨a, xs, h1, h2, h3⟩ := h
    exact ⟨a, xs, h1, h2, reps_flat f h3⟩
  | frl ds =>
    obtain ⟨a, xs, h1, h2, h3⟩ := h
    exact ⟨a, xs, h1, h2, reps_flat f h3⟩
  | tup ds => simp [tameD, flatD] at f
  | cell n => simp [tameD, flatD] at f
  | _ => exact h
theorem reps_tame {K : PySem.W.Frag} {F : Hp} {io io' : List Addr} : ∀ {ds : List D} {vs : List V}, tames ds = true → Reps K F io ds vs → Reps K F io' ds vs
  | [], _, _, h => h
  | d :: ds, _, f, ⟨v, us, h1, h2, h3⟩ => by
    unfold tames at f
    rw [List.all_cons, Bool.and_eq_true] at f
    exact ⟨v, us, h1, rep_tame f.1 h2, reps_tame (by exact f.2) h3⟩
def lentC (i k : Nat) : List (D ⊕ Nat) → Option (List D)
  | [] => some []
  | .inl (.cell n) :: r => if n < k then (lentC i k r).map (.cell n :: ·) else none
  | .inl d :: r => if tameD d = true then (lentC i k r).map (d :: ·) else none
  | .inr j :: r => if j = i then (lentC i k r).map (.cell k :: ·) else none
open Classical in
noncomputable def lendC (k : Nat) (es : List D) : Out Ret → Out D
  | .ok (.val d) S2 => if flatD d = true ∧ S2.length = k + 1 ∧ S2[k]? = some es ∧ (S2.take k).all tames = true then .ok d (S2.take k) else .no
  | _ => .no
noncomputable def dLendC (i : Nat) (mf : Mf) (mk : Mk) : Me := fun env S => (mk env S).bind fun l S1 => match env[i]? with
  | some (.own es) => (match lentC i S1.length l with
    | some ds => if S1.all tames = true ∧ tames es = true then lendC S1.length es (mf ds (S1 ++ [es])) else .no
    | none => .no)
  | _ => .no
theorem all_get {S : Cells} {n : Nat} {ds : List D} (h : S.all tames = true) (e : S[n]? = some ds) : tames ds = true := List.all_eq_true.mp h ds (List.mem_of_getElem? e)
theorem wr_io {s : Snap} {n : Nat} {b : Addr} (h : s.io[n]? = some b) (hn : n < s.wr.length) : s.wr[n]? = some b := by
  unfold Snap.wr at hn ⊢
  rw [List.length_take] at hn
  rw [List.getElem?_take_of_lt (by omega)]
  exact h
section
variable {G : Gm} {s : Snap} {env : Ev} {S S2 : Cells} {F H F2 H2 : Hp} {σ : L2.St} {i : Nat} {es : List D} {a : Addr}
theorem take_all (l : List Addr) (n : Nat) (h : n = l.length) : l.take n = l := by subst h; exact List.take_length
theorem lentC_w (r : R G s env S F σ H) (ha : σ[i]? = some (some (.ref a))) : ∀ {l : List (D ⊕ Nat)} {vs : List V} {ds : List D}, RepM G.K F s.io σ l vs → lentC i S.length l = some ds → Reps G.K F (s.wr ++ [a]) ds vs
  | [], _, _, h, e => by cases h; cases e; rfl
  | .inl d :: l, _, ds, ⟨v, us, h1, h2, h3⟩, e => by
    subst h1
    have ih := fun fs (q : lentC i S.length l = some fs) => lentC_w r ha h3 q
    cases d with
    | cell n =>
      unfold lentC at e
      split at e
      · rename_i hn
        cases hd : lentC i S.length l with
        | none => rw [hd] at e; cases e
        | some fs =>
          rw [hd] at e
          cases e
          obtain ⟨b, g1, g2⟩ := h2
          refine ⟨v, us, rfl, ⟨b, g1, ?_⟩, ih fs hd⟩
          have hl : n < s.wr.length := by rw [r.h.len]; exact hn
          rw [List.getElem?_append_left hl]
          exact wr_io g2 hl
      · cases e
    | _ =>
      unfold lentC at e
      split at e
      · rename_i hn
        cases hd : lentC i S.length l with
        | none => rw [hd] at e; cases e
        | some fs =>
          rw [hd] at e
          cases e
          exact ⟨v, us, rfl, rep_tame hn h2, ih fs hd⟩
      · cases e
  | .inr j :: l, _, ds, ⟨v, us, h1, h2, h3⟩, e => by
    subst h1
    unfold lentC at e
    split at e
    · rename_i hj
      rw [hj] at h2
      cases hd : lentC i S.length l with
      | none => rw [hd] at e; cases e
      | some fs =>
        rw [hd] at e
        cases e
        rw [ha] at h2
        cases h2
        refine ⟨_, us, rfl, ⟨a, rfl, ?_⟩, lentC_w r ha h3 hd⟩
        rw [← r.h.len, List.getElem?_append_right (Nat.le_refl _), Nat.sub_self]
        rfl
    · cases e
theorem RelH.enterC (r : RelH G.K s S F H) (w : OwnAt G.K s F H a es) (h1 : S.all tames = true) (h2 : tames es = true) : RelH G.K ⟨s.wr ++ [a], s.wr.length + 1, H, F, nP⟩ (S ++ [es]) F H := by
  have e : (⟨s.wr ++ [a], s.wr.length + 1, H, F, nP⟩ : Snap).wr = s.wr ++ [a] := take_all _ _ (by simp)
  refine ⟨nP2, r.fh, Same.refl F, fun a e => .inl e, fun a o e _ => e, by rw [e]; simp [r.len], ?_, fun n b ds g1 g2 => ?_⟩
  · rw [e, List.nodup_append]
    refine ⟨r.nd, by simp, fun x hx y hy z => ?_⟩
    simp at hy
    subst hy
    subst z
    exact w.ni hx
  · rw [e] at g1
    by_cases hn : n < s.wr.length
    · rw [List.getElem?_append_left hn] at g1
      rw [List.getElem?_append_left (by rw [← r.len]; exact hn)] at g2
      obtain ⟨g3, xs, g4, g5⟩ := r.cell n b ds g1 g2
      exact ⟨g3, xs, g4, reps_tame (all_get h1 g2) g5⟩
    · have hn' : n < (s.wr ++ [a]).length := (List.getElem?_eq_some_iff.mp g1).1
      simp at hn'
      have en : n = s.wr.length := by omega
      subst en
      rw [List.getElem?_append_right (Nat.le_refl _), Nat.sub_self] at g1
      cases g1
      rw [r.len, List.getElem?_append_right (Nat.le_refl _), Nat.sub_self] at g2
      cases g2
      obtain ⟨xs, g4, g5⟩ := w.at_
      exact ⟨w.fr, xs, g4, reps_tame h2 g5⟩
theorem R.afterC (r : R G s env S F σ H) (hi : env[i]? = some (.own es)) (ha : σ[i]? = some (some (.ref a))) (w : OwnAt G.K s F H a es) (c : RelH G.K ⟨s.wr ++ [a], s.wr.length + 1, H, F, nP⟩ S2 F2 H2)
    (h1 : S2.length = S.length + 1) (h2 : S2[S.length]? = some es) (h3 : (S2.take S.length).all tames = true) (h4 : tames es = true) : R G s env (S2.take S.length) F2 σ H2 := by
  have ew : (⟨s.wr ++ [a], s.wr.length + 1, H, F, nP⟩ : Snap).wr = s.wr ++ [a] := take_all _ _ (by simp)
  have fr : ∀ b o, H b = some o → b ∉ s.wr → b ≠ a → H2 b = some o := fun b o e h5 h6 => c.frame b o e (by rw [ew]; simp [h5, h6])
  have nf : ∀ b, F b = none → H b ≠ none → F2 b = none := fun b h1 h2 => by
    cases q : F2 b with
    | none => rfl
    | some u =>
      rcases c.new b (by rw [q]; exact fun z => nomatch z) with z | z
      · exact absurd h1 z
      · exact absurd (show H b = none from z) h2
  have q : ∀ b, s.P b → (∀ o, H b = some o → H2 b = some o) ∧ H2 b ≠ none ∧ F2 b = none ∧ s.H0 b = none ∧ b ∉ s.wr := fun b e => by
    obtain ⟨q0, q1, q2, q3⟩ := r.h.pp b e
    have hk : ∀ o, H b = some o → H2 b = some o := fun o h => fr b o h q3 fun z => w.np (by rw [← z]; exact e)
    refine ⟨hk, fun z => ?_, nf b q1 q0, q2, q3⟩
    cases h : H b with
    | none => exact q0 h
    | some o =>
      rw [hk o h] at z
      cases z
  refine ⟨⟨fun b e => (q b e).2, c.fh, r.h.f0.trans c.f0, fun b e => ?_, fun b o e hn => ?_, ?_, r.h.nd, fun n b ds g1 g2 => ?_⟩, r.len, fun j d z => ?_, fun j ds z => ?_, r.dist, fun j x z => ?_, fun j d z => ?_⟩
  · rcases c.new b e with h | h
    · exact r.h.new b h
    · exact .inr (r.h.h0 h).1
  · exact fr b o (r.h.frame b o e hn) hn fun z => by
      rw [z, w.h0] at e
      cases e
  · rw [List.length_take, h1, r.h.len]
    omega
  · have hn : n < s.wr.length := (List.getElem?_eq_some_iff.mp g1).1
    have hn2 : n < S.length := by rw [← r.h.len]; exact hn
    have g3 := g2
    rw [List.getElem?_take_of_lt hn2] at g3
    obtain ⟨g4, xs, g5, g6⟩ := c.cell n b ds (by rw [ew, List.getElem?_append_left hn]; exact g1) g3
    exact ⟨g4, xs, g5, reps_tame (all_get h3 g2) g6⟩
  · obtain ⟨v, g1, g2⟩ := r.val j d z
    exact ⟨v, g1, Rep.mono c.f0 d v g2⟩
  · by_cases hj : j = i
    · subst hj
      rw [hi] at z
      cases z
      obtain ⟨g4, xs, g5, g6⟩ := c.cell S.length a es (by rw [ew, ← r.h.len, List.getElem?_append_right (Nat.le_refl _), Nat.sub_self]; rfl) h2
      exact ⟨a, ha, g4, w.h0, w.ni, w.np, xs, g5, reps_tame h4 g6⟩
    · obtain ⟨b, k1, k2, k3, k4, k5, xs, k6, k7⟩ := r.own j ds z
      have ne : b ≠ a := fun e => r.dist j i b ds es hj z hi k1 (by rw [e]; exact ha)
      exact ⟨b, k1, nf b k2 (by rw [k6]; exact fun z => nomatch z), k3, k4, k5, xs, fr b _ k6 k4 ne, Reps.mono c.f0 ds xs k7⟩
  · obtain ⟨b, d, k1, k2, k3⟩ := r.exn j x z
    exact ⟨b, d, k1, k2, k3.mono c.f0⟩
  · obtain ⟨v, Q, k1, k2, k3, k4⟩ := r.loo j d z
    obtain ⟨g1, g2, g3⟩ := loo_aft k2 k3 q c.f0
    exact ⟨v, Q, k1, g1, k3, RepN.mono g2 g3 d v k4⟩
end
section
variable {X : Cx} {cv : Cv} {W : WX} {e : Expr} {es : List Expr} {mk : Mk} {f : Addr} {fd : FuncData} {ps : List Str} {x : Str} {p pos : Pos}
theorem de_lendC (i : Nat) {k : Nat} {mf : Mf} (F : FnOk X.prog X.w X.K X.mg X.base (L2.CX X.prog X.w) k f fd ps (spT ⟨X.K, cv⟩ mf)) (tk : Takes X W) (hr : Room k X.A) (hg : Gl X x) (hm : X.mg x = some (.ref f)) (hk : PySem.W.keepIn X.K (.ref f) = true) (hb : Binds X.K fd ps []) (ha : DL X cv W (e :: es) mk) (hdb : (x == ("__debug__" : Str)) = false := by decide)
    (he : starEach (e :: es) X.env = (false, eval e X.env) :: starEach es X.env := by rfl) (hpl : (backTo pos (starEach es X.env)).any (·.1) = false := by rfl) : DE X cv W (.Call (.Name x p) (e :: es) [] pos) (dLendC i mf mk) :=
  PE.weak (pe_callSD (E := WE W) F hr hg hm hk hb .nil (fun σ => passAt tk σ) ha hdb he hpl) fun σ H Q ⟨s, env, S, F0, r, o⟩ => ⟨s, env, S, F0, r, OutP.bind (rp := rpM _) o fun l S1 vs F1 H1 r1 sm rv o1 => by
    rw [List.append_nil]
    split at o1
    · rename_i ls hi
      obtain ⟨a, g1, w⟩ := r1.own i ls hi
      split at o1
      · rename_i ds e1
        split at o1
        · rename_i ht
          refine ⟨ds, S1 ++ [ls], F1, s.wr ++ [a], s.wr.length + 1, r1.h.enterC w ht.1 ht.2, lentC_w r1 g1 rv e1, ?_⟩
          generalize mf ds (S1 ++ [ls]) = om at o1
          cases om with
          | ok rt S2 =>
            cases rt with
            | val d =>
              unfold lendC at o1
              simp only at o1
              split at o1
              · rename_i hf
                exact fun v F2 H2 c rv2 => o1 v F2 H2 (r1.afterC hi g1 w c hf.2.1 hf.2.2.1 hf.2.2.2 ht.2) c.f0 (rep_flat hf.1 rv2)
              · exact False.elim o1
            | own es => exact False.elim o1
            | new d => exact False.elim o1
          | ex x S2 => exact False.elim o1
          | no => exact False.elim o1
        · exact o1.elim
      · exact o1.elim
    · exact o1.elim⟩
end
end TT
namespace TT
open PySem PySem.Spec PyProof.Rows L2

/-! ### what a law's text says of its error classes -/
def clOf (cs : List (String × Addr)) : String → Value := fun nm => match cs.lookup nm with
  | some C => .ref C
  | none => .none
def lkB (bs : List (String × Bool)) : String → Option Bool := fun nm => bs.lookup nm
theorem look_mem {α : Type} {x : String} {v : α} : ∀ {l : List (String × α)}, l.lookup x = some v → (x, v) ∈ l
  | [], h => by cases h
  | (y, u) :: l, h => by
    by_cases e : x = y
    · subst e
      simp only [List.lookup, beq_self_eq_true] at h
      cases h
      exact List.mem_cons_self ..
    · have e' : (x == y) = false := by simpa using e
      simp only [List.lookup, e'] at h
      exact List.mem_cons_of_mem _ (look_mem h)
structure ErF (K : PySem.W.Frag) (C : Addr) : Prop where
  ox : OexC K C
  k : ErrK K C
  x : XfC K C
/-- .. without own __init__ -/
def ExQ (K : PySem.W.Frag) (C : Addr) : Prop := PySem.W.excIn K C [.type "ValueError", .type "Exception", .type "BaseException", .type "object"] "ValueError.__new__" = true
theorem erF_mk {K : PySem.W.Frag} {C : Addr} {nm q : Str} {N : Addr} {bs bm : List Value} {sn : List Str} {sub : List Value} {ab : Bool} {col : Option Bool} {dd : Option Addr} {m0 m1 m2 m3 m5 : Option Value}
    (l : K.lookup C = some (excClassObj nm q C N bs bm true sn sub ab col dd m0 m1 m2 m3 m5 "ValueError.__new__")) (v : PySem.HandSPX.refsVE bm = true)
    (sa : PySem.W.findIn K (.ref C) "__setattr__" = some (some (.builtin "object.__setattr__"))) (ga : PySem.W.findIn K (.ref C) "__getattribute__" = some (some (.builtin "BaseException.__getattribute__"))) (gg : PySem.W.findIn K (.ref C) "__getattr__" = some none)
    (kC : PySem.W.keepIn K (.ref C) = true) (eC : PySem.W.subIn K (.ref C) (.type "BaseException") = some true) (tC : PySem.W.typeIn K (.ref C) = some (.type "type")) (hC : PySem.W.hasDictIn K C = true) (iC : PySem.W.isClsIn K C = true)
    (ca : PySem.W.findIn K (.ref C) "__class__" = some (some (.builtin "object.__class__"))) (hn : PySem.W.specialIn K (.builtin "object.__class__") "__get__" = some (some (.builtin "getset_descriptor.__get__"))) (ht : PySem.W.takesIn K (.builtin "object.__class__") = some true) (hm : PySem.W.mroIn K C (.type "object") = some true) : ErF K C :=
  ⟨⟨⟨nm, q, N, bs, bm, sn, sub, ab, col, dd, m0, m1, m2, m3, m5, l, v⟩, sa, eC, tC, kC⟩, ⟨iC, ga, gg, eC, ca, hn, ht, hm⟩, ⟨ga, gg, eC, hC⟩⟩
def tabOk (f : Value → Value → Option Bool) (cs : List (String × Addr)) (u : Value) (bs : List (String × Bool)) : Bool := bs.all fun p => match cs.lookup p.1 with
  | some C => decide (f (.ref C) u = some p.2)
  | none => false
theorem tab_get {f : Value → Value → Option Bool} {cs : List (String × Addr)} {u : Value} {bs : List (String × Bool)} (h : tabOk f cs u bs = true) {nm : String} {b : Bool} (e : lkB bs nm = some b) : ∃ C, cs.lookup nm = some C ∧ clOf cs nm = .ref C ∧ f (.ref C) u = some b := by
  have z := List.all_eq_true.mp h _ (look_mem e)
  unfold clOf
  split at z
  · rename_i C hC
    rw [hC]
    exact ⟨C, rfl, rfl, of_decide_eq_true z⟩
  · cases z
theorem tab_kit {K : PySem.W.Frag} {cs : List (String × Addr)} {u : Value} {bs : List (String × Bool)} (h : tabOk (PySem.W.kitOne K) cs u bs = true) (hk : ∀ p ∈ cs, ErF K p.2) : ∀ nm b, lkB bs nm = some b → ∃ D, clOf cs nm = .ref D ∧ ErrK K D ∧ PySem.W.kitOne K (.ref D) u = some b := fun nm b e => by
  obtain ⟨C, h1, h2, h3⟩ := tab_get h e
  exact ⟨C, h2, (hk _ (look_mem h1)).k, h3⟩
theorem tab_exm {K : PySem.W.Frag} {cs : List (String × Addr)} {u : Value} {bs : List (String × Bool)} (h : tabOk (PySem.W.exmOne K) cs u bs = true) : ∀ nm b, lkB bs nm = some b → PySem.W.exmOne K (clOf cs nm) u = some b := fun nm b e => by
  obtain ⟨C, h1, h2, h3⟩ := tab_get h e
  rw [h2]
  exact h3
theorem errI_mk {P : Program} {K : PySem.W.Frag} {mg : Str → Option Value} {C fI : Addr} {qual : Str} {params : Arguments} {body : List Stmt} {scope : Scope}
    {oc : Value} {od : Option Addr} {osl : Array (Option Value)} {kV doc pm : Value} {an : Option Addr} {cda : Addr} {ct : Value} {cc : Addr} {ccl : Value} {cdd : Option Addr} {vs : Array Value} {ccs : Array (Option Value)} {file : Str} {tf : Tok} {cl : Value} {cld : Option Addr} {csl : Array (Option Value)}
    (e : ErF K C) (iC : PySem.W.findIn K (.ref C) "__init__" = some (some (.ref fI))) (tI : PySem.W.typeIn K (.ref fI) = some (.type "function"))
    (lI : K.lookup fI = some ⟨oc, od, .func (PySem.W.fnX "__init__" qual params body scope [("__class__", cc)] .none kV doc pm an (.ref cda) ct), osl⟩) (cI : PySem.W.codeIn K (.ref cda) qual = true)
    (lD : K.lookup cda = some ⟨ccl, cdd, .fields vs, ccs⟩) (vD : vs[2]? = some (.str file tf)) (fD : ((P.main.file : Str) == file) = true) (lC : K.lookup cc = some ⟨cl, cld, .cell (some (.ref C)), csl⟩)
    (gS : mg "super" = none) (opq : PySem.W.nsIn K cStatics "thirdparty.any" = some none) (supI : PySem.W.ks_superIn K C C "__init__" = some (some (.builtin "ValueError.__init__"))) (subV : PySem.W.subIn K (.ref C) (.type "ValueError") = some true) (subC : PySem.W.mroIn K C (.ref C) = some true)
    (top : (P.main.scope.names.lookup ("super" : Str)).isSome = false) : ErrI P K mg C fI qual params body scope (PySem.W.fnX "__init__" qual params body scope [("__class__", cc)] .none kV doc pm an (.ref cda) ct) :=
  ⟨e.ox, iC, tI, gS, opq, supI, subV, subC, top, oc, od, osl, kV, doc, pm, an, cda, ct, cc, ccl, cdd, vs, ccs, file, tf, cl, cld, csl, rfl, lI, cI, lD, vD, fD, lC⟩
theorem errI_binds {P : Program} {K : PySem.W.Frag} {mg : Str → Option Value} {C fI : Addr} {qual : Str} {params : Arguments} {body : List Stmt} {scope : Scope} {fd : FuncData} {ps : List Str} (T : ErrI P K mg C fI qual params body scope fd)
    (h : ∀ (kV doc pm : Value) (an : Option Addr) (cdv ct : Value) (cc : Addr) (us : List Value), us.length = ps.length → bindArgs (PySem.W.fnX "__init__" qual params body scope [("__class__", cc)] .none kV doc pm an cdv ct) ⟨us, []⟩ = pure (ps.zip us)) : Binds K fd ps [] := by
  obtain ⟨oc, od, osl, kV, doc, pm, an, cda, ct, cc, ccl, cdd, vs, ccs, file, tf, cl, cld, csl, rfl, _⟩ := T.ex
  exact Binds.all fun us hl => h _ _ _ _ _ _ _ us hl
/-- the i-th def of a class -/
def clsFn (st : Stmt) (i : Nat) : Stmt := match st with
  | .ClassDef _ _ _ body _ _ _ _ _ _ _ => body.getD i (.Pass ⟨0, 0, 0, 0⟩)
  | _ => .Pass ⟨0, 0, 0, 0⟩
/-- a promise that does not speak of the classes' places -/
def spA (K : PySem.W.Frag) (m : Mf) : Sp := fun vs H Q E => ∀ cv, spT ⟨K, cv⟩ m vs H Q E
theorem fnOk_A {P : Program} {w : World} {K : PySem.W.Frag} {mg : Str → Option Value} {base : Heap} {CX : CXT} {k : Nat} {f : Addr} {fd : FuncData} {ps : List Str} {m : Mf} {cv : Cv} (F : FnOk P w K mg base CX k f fd ps (spT ⟨K, cv⟩ m)) : FnOk P w K mg base CX k f fd ps (spA K m) := F.imp fun vs H Q E h => h cv
theorem room_s {k : Nat} {A : Around} (r : Room k A) : A.units + 200 < cLine := by
  have := r.un
  omega
theorem room_l {k : Nat} {A : Around} (r : Room k A) : A.units + 64 < cLine := by
  have := r.un
  omega
theorem do_callB {X : Cx} {cv : Cv} {W : WX} {id : String} {x : Str} {p pos : Pos} {e : Expr} {es : List Expr} {ma : Ma} {r : List V → Hp → VK → Prop} {fo : List D → Cells → Out (List D)} (hc : CallR X (.builtin id) r) (hf : OpA cv X (rpO ⟨X.K, cv⟩) r fo) (hg : Gl X x) (hm : X.mg x = none) (hv : bootBuiltins x = some (.builtin id)) (ha : DA X cv W (e :: es) ma) (hn : x ≠ "__name__" := by decide) (hdb : (x == ("__debug__" : Str)) = false := by decide)
    (he : starEach (e :: es) X.env = (false, eval e X.env) :: starEach es X.env := by rfl) (hpl : (backTo pos (starEach es X.env)).any (·.1) = false := by rfl) : DO X cv W (.Call (.Name x p) (e :: es) [] pos) (dArgs fo ma) :=
  PE.weak (pe_callB hc hg hm hv ha hn hdb he hpl) fun σ H Q ⟨s, env, S, F, r0, o⟩ => ⟨s, env, S, F, r0, OutP.bind (rp := rpA _) o fun ds S1 vs F1 H1 r1 sm rv o1 => hf W s env S1 F1 σ H1 ds vs Q r1 rv o1⟩
end TT
namespace TT
open PySem PySem.Spec PyProof.Rows L2

/-! ### the calculus for what came later -/
section
variable {α : Type} {P : α → Cells → Prop} {Q : D → Cells → Prop} {X : Ex → Cells → Prop} {env : Ev} {S : Cells}
theorem w_chain {f g : D → D → Cells → Out D} {a b c : Me} (h : RE (a env S) (fun x S => RE (b env S) (fun y S => RE (f x y S) (fun z S => RE (asB z S) (fun k S => Br k (RE (c env S) (fun w S => RE (g y w S) Q X) X) (Q (.bl false) S)) X) X) X) X) : RE (dChain f g a b c env S) Q X := by
  unfold dChain
  refine w_bind (h.mono (fun x S h => w_bind (RE.mono h (fun y S h => w_bind (RE.mono h (fun z S h => w_bind (RE.mono h (fun k S h => ?_) (fun _ _ h => h))) (fun _ _ h => h))) (fun _ _ h => h))) (fun _ _ h => h))
  cases k with
  | true =>
    rw [if_pos rfl]
    refine w_bind ?_
    with_unfolding_all exact h
  | false =>
    rw [if_neg Bool.false_ne_true]
    refine w_ok ?_
    with_unfolding_all exact h
theorem w_index {x y : List Char} (g : 0 ≤ PySem.Txt.find (cps x) (cps y)) (h : Q (.int (PySem.Txt.find (cps x) (cps y))) S) : RE (fIndex x [.str y] S) Q X := by
  unfold fIndex
  simp only
  rw [if_pos g]
  exact w_ok h
theorem w_find {x y : List Char} (h : Q (.int (PySem.Txt.find (cps x) (cps y))) S) : RE (fFind x [.str y] S) Q X := by with_unfolding_all exact h
theorem w_rev_s {x : List Char} (g : x.length ≤ 16777216) (h : Q (.str x.reverse) S) : RE (opRev (.str x) S) Q X := by
  unfold opRev
  simp only
  rw [if_pos g]
  exact w_ok h
theorem w_rev_l {x : List D} (h : Q (.lst x.reverse) S) : RE (opRev (.lst x) S) Q X := by with_unfolding_all exact h
theorem intsD_map : ∀ ns : List Int, intsD (ns.map .int) = some ns
  | [] => rfl
  | n :: r => by
    show (intsD (r.map .int)).map (n :: ·) = some (n :: r)
    rw [intsD_map r]
    rfl
theorem blsD_map : ∀ ns : List Bool, blsD (ns.map .bl) = some ns
  | [] => rfl
  | n :: r => by
    show (blsD (r.map .bl)).map (n :: ·) = some (n :: r)
    rw [blsD_map r]
    rfl
theorem w_sum {ds : List D} {ns : List Int} (e : ds = ns.map .int) (h : Q (.int ns.sum) S) : RE (fSum [.lst ds] S) Q X := by
  subst e
  unfold fSum
  simp only [lvr, intsD_map]
  exact w_ok h
theorem w_bls {g : List Bool → Bool} {ds : List D} {ns : List Bool} (e : ds = ns.map .bl) (h : Q (.bl (g ns)) S) : RE (fBls g [.lst ds] S) Q X := by
  subst e
  unfold fBls
  simp only [lvr, blsD_map]
  exact w_ok h
theorem w_lenSet {x : List Char} (g : x.length ≤ 1000) (h : Q (.int ((dst x).length : Int)) S) : RE (fLenSet (.str x) S) Q X := by
  unfold fLenSet
  simp only
  rw [if_pos g]
  exact w_ok h
theorem w_ltN {a b : D} (g : alD a b = true ∧ isNon a = false ∧ dep a ≤ 64 ∧ dep b ≤ 64) (h : Q (.bl (ltD a b)) S) : RE (opLtN a b S) Q X := by
  unfold opLtN
  rw [if_pos g]
  exact w_ok h
theorem w_sorted {P : List D → Cells → Prop} {ds : List D} (g : sortOk ds = true ∧ ds.length ≤ 16777216) (h : P (ds.mergeSort leD) S) : RE (fSorted [.lst ds] S) P X := by
  unfold fSorted
  simp only [lvr]
  rw [if_pos g]
  exact w_ok h
theorem w_inC {c : Char} {y : List Char} (h : Q (.bl (decide (c ∈ y))) S) : RE (opIn (.str [c]) (.str y) S) Q X := by with_unfolding_all exact h
theorem w_ninC {c : Char} {y : List Char} (h : Q (.bl (!decide (c ∈ y))) S) : RE (opNotIn (.str [c]) (.str y) S) Q X := by with_unfolding_all exact h
theorem w_ord_s {p : Int → Int → Bool} {q : List Nat → List Nat → Bool} {x y : List Char} (h : Q (.bl (q (x.map Char.toNat) (y.map Char.toNat))) S) : RE (opOrd p q (.str x) (.str y) S) Q X := by with_unfolding_all exact h
theorem w_eq {a b : D} (g : dep (view S a) ≤ 64 ∧ dep (view S b) ≤ 64) (h : Q (.bl (deq (view S a) (view S b))) S) : RE (opEq a b S) Q X := by
  unfold opEq
  rw [if_pos g]
  exact w_ok h
theorem w_ne {a b : D} (g : dep (view S a) ≤ 64 ∧ dep (view S b) ≤ 64) (h : Q (.bl (!deq (view S a) (view S b))) S) : RE (opNe a b S) Q X := by
  unfold opNe
  rw [if_pos g]
  exact w_ok h
theorem w_tmp {m : Me} (h : RE (m (TT.thaw env) []) (fun d _ => flatD d = true ∧ Q d S) nf) : RE (dTmp m env S) Q X := by
  unfold dTmp
  cases q : m (TT.thaw env) [] with
  | ok d S1 =>
    rw [q, re_ok] at h
    simp only
    rw [if_pos h.1]
    exact w_ok h.2
  | ex x S1 => rw [q, re_ex] at h; exact h.elim
  | no => rw [q, re_no] at h; exact h.elim
theorem w_tTmp {P : Bool → Cells → Prop} {m : Mt} (h : RE (m (TT.thaw env) []) (fun b _ => P b S) nf) : RE (tTmp m env S) P X := by
  unfold tTmp
  cases q : m (TT.thaw env) [] with
  | ok d S1 =>
    rw [q, re_ok] at h
    exact w_ok h
  | ex x S1 => rw [q, re_ex] at h; exact h.elim
  | no => rw [q, re_no] at h; exact h.elim
theorem w_flat {m : Me} (h : RE (m env S) (fun d S1 => flatD d = true ∧ Q d S1) X) : RE (dFlat m env S) Q X := by
  unfold dFlat
  refine w_bind (h.mono (fun d S1 h => ?_) (fun _ _ h => h))
  rw [if_pos h.1]
  exact w_ok h.2
/-- an answer that nobody else holds -/
def nwP (r : Ret) (p : D → Prop) : Prop := match r with
  | .own es => p (.lst es)
  | .new d => p d
  | .val d => flatD d = true ∧ p d
theorem nw_o {p : D → Prop} {es : List D} (h : p (.lst es)) : nwP (.own es) p := h
theorem nw_n {p : D → Prop} {d : D} (h : p d) : nwP (.new d) p := h
theorem nw_v {p : D → Prop} {d : D} (g : flatD d = true) (h : p d) : nwP (.val d) p := ⟨g, h⟩
theorem rf_n {d : D} {p : D → Prop} (h : p d) : rf (.new d) p := h
theorem w_new {mf : Mf} {ma : Ma} (h : RE (ma env S) (fun ds S1 => RE (pureOf (mf ds []) S1) (fun r S => nwP r fun d => Q d S) X) X) : RE (dNew mf ma env S) Q X := by
  unfold dNew
  refine w_bind (h.mono (fun ds S1 h => ?_) (fun _ _ h => h))
  generalize mf ds [] = om at h
  cases om with
  | ok r S2 =>
    cases r with
    | own es => with_unfolding_all exact w_ok h
    | new d => with_unfolding_all exact w_ok h
    | val d =>
      have h' : flatD d = true ∧ Q d S1 := by with_unfolding_all exact h
      simp only
      rw [if_pos h'.1]
      exact w_ok h'.2
  | ex x S2 => with_unfolding_all exact h
  | no => with_unfolding_all exact h
theorem w_isE {i : Nat} {sub : String → Option Bool} {x : Ex} {b : Bool} (e : env[i]? = some (.exn x)) (e2 : sub x.nm = some b) (h : Q (.bl b) S) : RE (dIsE i sub env S) Q X := by
  unfold dIsE
  rw [e]
  simp only
  rw [e2]
  exact w_ok h
theorem w_fld {i : Nat} {f : String} {nms : String → Bool} {x : Ex} {d : D} (e : env[i]? = some (.exn x)) (e1 : nms x.nm = true) (e2 : x.fs.lookup (Str.ofString f) = some d) (h : Q d S) : RE (dFld i f nms env S) Q X := by
  unfold dFld
  rw [e]
  simp only
  rw [if_pos e1, e2]
  exact w_ok h
/-- lending beside given lists -/
theorem w_lendC {i : Nat} {mf : Mf} {mk : Mk} {es : List D} (e : env[i]? = some (.own es)) (h : RE (mk env S) (fun l S1 => ∃ ds, lentC i S1.length l = some ds ∧ (S1.all tames = true ∧ tames es = true) ∧
    RE (mf ds (S1 ++ [es])) (fun r S2 => ∃ d S3, r = .val d ∧ S2 = S3 ++ [es] ∧ S3.length = S1.length ∧ flatD d = true ∧ S3.all tames = true ∧ Q d S3) nf) X) : RE (dLendC i mf mk env S) Q X := by
  unfold dLendC
  refine w_bind (h.mono (fun l S1 h => ?_) (fun _ _ h => h))
  obtain ⟨ds, h1, h2, h3⟩ := h
  rw [e]
  simp only
  rw [h1]
  simp only
  rw [if_pos h2]
  cases q : mf ds (S1 ++ [es]) with
  | ok r S2 =>
    rw [q, re_ok] at h3
    obtain ⟨d, S3, rfl, rfl, h4, h5, h6, h7⟩ := h3
    unfold lendC
    simp only
    have et : (S3 ++ [es]).take S1.length = S3 := by rw [← h4, List.take_left' rfl]
    rw [if_pos ⟨h5, by rw [List.length_append, h4]; rfl, by rw [← h4, List.getElem?_append_right (Nat.le_refl _), Nat.sub_self]; rfl, by rw [et]; exact h6⟩, et]
    exact w_ok h7
  | ex x S2 => rw [q, re_ex] at h3; exact h3.elim
  | no => rw [q, re_no] at h3; exact h3.elim
end
section
variable {env : Ev} {S : Cells} {N B C : Ev → Cells → Prop} {T : Ret → Cells → Prop} {Z : Ex → Ev → Cells → Prop}
theorem s_raise {nm : String} {n : Nat} {ns : List (String × Nat)} {fm : List Nat} {ma : Ma} (h : RE (ma env S) (fun ds S1 => (ds.length = n ∧ fm.all (fun i => fmtD (ds.getD i .non)) = true) ∧ Z ⟨nm, errF .non ns ds⟩ env S1) (fun x S => Z x env S)) : RS (sRaise nm n ns fm ma env S) ⟨N, B, C, T, Z⟩ := by
  unfold sRaise
  rw [rs_go]
  refine h.mono (fun ds S1 h => ?_) (fun _ _ h => h)
  rw [if_pos h.1, rs_ex]
  exact h.2
theorem s_raise0 {nm : String} (h : Z ⟨nm, []⟩ env S) : RS (sRaise0 nm env S) ⟨N, B, C, T, Z⟩ := by with_unfolding_all exact h
theorem s_try {i : Nat} {hd : String → Option Bool} {mb ms : Ms} (h : RS (mb env S) ⟨N, B, C, T, fun x e S1 => (hd x.nm = some true ∧ RS (ms ((e.map noExn).set i (.exn x)) S1) ⟨fun e S => N ((e.map noExn).set i .no) S, fun e S => B ((e.map noExn).set i .no) S, fun e S => C ((e.map noExn).set i .no) S, T, fun _ _ _ => False⟩) ∨ (hd x.nm = some false ∧ Z x e S1)⟩) : RS (sTry i hd mb ms env S) ⟨N, B, C, T, Z⟩ := by
  unfold sTry
  cases q : mb env S with
  | ex x e S1 =>
    rw [q, rs_ex] at h
    simp only at h ⊢
    rcases h with ⟨h1, h2⟩ | ⟨h1, h2⟩
    · rw [h1]
      simp only
      cases q2 : ms ((e.map noExn).set i (.exn x)) S1 with
      | ex x2 e2 S2 => rw [q2, rs_ex] at h2; exact h2.elim
      | no => rw [q2, rs_no] at h2; exact h2.elim
      | nx e2 S2 => rw [q2] at h2; with_unfolding_all exact h2
      | bk e2 S2 => rw [q2] at h2; with_unfolding_all exact h2
      | ct e2 S2 => rw [q2] at h2; with_unfolding_all exact h2
      | ret r S2 => rw [q2] at h2; with_unfolding_all exact h2
    · rw [h1]
      simp only
      rw [rs_ex]
      exact h2
  | nx e S1 => rw [q] at h; with_unfolding_all exact h
  | bk e S1 => rw [q] at h; with_unfolding_all exact h
  | ct e S1 => rw [q] at h; with_unfolding_all exact h
  | ret r S1 => rw [q] at h; with_unfolding_all exact h
  | no => rw [q] at h; with_unfolding_all exact h
theorem s_rtW {m : Me} (h : RE (m env S) (fun d S => T (.new d) S) (fun x S => Z x env S)) : RS (sRetW m env S) ⟨N, B, C, T, Z⟩ := by
  unfold sRetW
  rw [rs_go]
  refine h.mono (fun d S1 h => ?_) (fun _ _ h => h)
  rw [rs_ret]
  exact h
def looP (r : Ret) (p : D → Prop) : Prop := ∃ d, retN r = some d ∧ p d
theorem lo_n {p : D → Prop} {d : D} (h : p d) : looP (.new d) p := ⟨d, rfl, h⟩
theorem lo_o {p : D → Prop} {es : List D} (h : p (.lst es)) : looP (.own es) p := ⟨_, rfl, h⟩
theorem s_loo {i : Nat} {mf : Mf} {ma : Ma} {mr : Ms} (h : RE (ma env S) (fun ds S1 => RE (mf ds []) (fun r _ => looP r fun d => RS (mr (env.set i (.loo d)) S1) ⟨fun e S => N (e.map unLoo) S, fun e S => B (e.map unLoo) S, fun e S => C (e.map unLoo) S, T, fun x e S => Z x (e.map unLoo) S⟩) (fun x _ => Z x env S1)) (fun x S => Z x env S)) : RS (sLoo i mf ma mr env S) ⟨N, B, C, T, Z⟩ := by
  unfold sLoo
  rw [rs_go]
  refine h.mono (fun ds S1 h => ?_) (fun _ _ h => h)
  cases q : mf ds [] with
  | ok r S2 =>
    rw [q, re_ok] at h
    obtain ⟨d, h1, h2⟩ := h
    simp only
    rw [h1]
    simp only
    cases q2 : mr (env.set i (.loo d)) S1 <;> rw [q2] at h2 <;> with_unfolding_all exact h2
  | ex x S2 =>
    rw [q, re_ex] at h
    simp only
    rw [rs_ex]
    exact h
  | no => rw [q, re_no] at h; exact h.elim
theorem s_mutA {i j : Nat} {d : D} {ds es : List D} (e : env[i]? = some (.loo (.tup ds))) (e2 : ds[j]? = some (.lst es)) (h : es.length < 16777216 ∧ N (mutEnv i ds j (es ++ [d]) env) S) : RS (sMutA i j d env S) ⟨N, B, C, T, Z⟩ := by
  unfold sMutA
  rw [e]
  simp only
  rw [e2]
  simp only
  rw [if_pos h.1, rs_nx]
  exact h.2
theorem s_mutS {i j : Nat} {k : Int} {d : D} {ds es : List D} {n : Nat} (e : env[i]? = some (.loo (.tup ds))) (e2 : ds[j]? = some (.lst es)) (e3 : ixN es.length k = some n) (h : N (mutEnv i ds j (es.set n d) env) S) : RS (sMutS i j k d env S) ⟨N, B, C, T, Z⟩ := by
  unfold sMutS
  rw [e]
  simp only
  rw [e2]
  simp only
  rw [e3]
  simp only
  rw [rs_nx]
  exact h
theorem s_while {fuel : Ev → Cells → Nat} {c : Mt} {mb : Ms} (I : Nat → Ev → Cells → Prop) (h0 : ∃ n, n < fuel env S ∧ I n env S)
    (hs : ∀ n env S, I n env S → RE (c env S) (fun k S1 => Br k (RS (mb env S1) ⟨fun e S => ∃ m, m < n ∧ I m e S, N, fun e S => ∃ m, m < n ∧ I m e S, T, Z⟩) (N env S1)) (fun x S1 => Z x env S1)) : RS (sWhile fuel c mb env S) ⟨N, B, C, T, Z⟩ := by
  unfold sWhile
  obtain ⟨n, hn, hi⟩ := h0
  generalize fuel env S = f at hn
  clear fuel
  induction f generalizing n env S with
  | zero => omega
  | succ f ih =>
    unfold whileF
    rw [rs_go]
    refine (hs n env S hi).mono (fun k S1 h => ?_) (fun _ _ h => h)
    cases k with
    | true =>
      rw [if_pos rfl]
      have h' : RS (mb env S1) ⟨fun e S => ∃ m, m < n ∧ I m e S, N, fun e S => ∃ m, m < n ∧ I m e S, T, Z⟩ := by with_unfolding_all exact h
      cases q : mb env S1 with
      | nx e S2 =>
        rw [q, rs_nx] at h'
        obtain ⟨m, h1, h2⟩ := h'
        exact ih m h2 (by omega)
      | ct e S2 =>
        rw [q, rs_ct] at h'
        obtain ⟨m, h1, h2⟩ := h'
        exact ih m h2 (by omega)
      | bk e S2 => rw [q] at h'; with_unfolding_all exact h'
      | ret r S2 => rw [q] at h'; with_unfolding_all exact h'
      | ex x e S2 => rw [q] at h'; with_unfolding_all exact h'
      | no => rw [q] at h'; with_unfolding_all exact h'
    | false =>
      rw [if_neg Bool.false_ne_true, rs_nx]
      with_unfolding_all exact h
end
/-! ### comprehensions that only compute -/
theorem comp_map {vs : List Nat} {mg : Mg} {mt : Mt} {me : Me} {env : Ev} {P : List D → Cells → Prop} {X : Ex → Cells → Prop} {S : Cells} {α : Type} {xs : List α} {g : α → D} (t : α → Bool) (f : α → D) (hl : xs.length ≤ 16777216)
    (hs : ∀ x, x ∈ xs → ∃ env1, mg (g x) (inEnv env vs) = some env1 ∧ RE (mt env1 S) (fun b S1 => b = t x ∧ S1 = S) nf ∧ (t x = true → RE (me env1 S) (fun y S2 => y = f x ∧ S2 = S) nf)) (he : P ((xs.filter t).map f) S) : RE (compL vs mg mt me env (xs.map g) [] S) P X := by
  refine comp_at (fun a b acc S' => S' = S ∧ ∃ ys zs, xs = ys ++ zs ∧ a = ys.map g ∧ b = zs.map g ∧ acc = (ys.filter t).map f) ⟨rfl, [], xs, rfl, rfl, rfl, rfl⟩ ?_ ?_
  · rintro a d b acc _ e ⟨rfl, ys, zs, rfl, rfl, h2, rfl⟩
    cases zs with
    | nil => cases h2
    | cons z zs =>
      rw [List.map_cons] at h2
      injection h2 with h3 h4
      subst h3 h4
      obtain ⟨env1, h5, h6, h7⟩ := hs z (by simp)
      refine ⟨env1, h5, h6.mono (fun k S1 h => ?_) (fun _ _ h => h)⟩
      obtain ⟨rfl, rfl⟩ := h
      refine br_any (fun h8 => (h7 h8).mono (fun y S2 h => ?_) (fun _ _ h => h)) (fun h8 => ⟨rfl, ys ++ [z], zs, by simp, by simp, rfl, by simp [h8]⟩)
      obtain ⟨rfl, rfl⟩ := h
      refine ⟨?_, rfl, ys ++ [z], zs, by simp, by simp, rfl, by simp [h8]⟩
      rw [List.length_map]
      have h9 := List.length_filter_le t ys
      rw [List.length_append, List.length_cons] at hl
      omega
  · rintro acc _ ⟨rfl, ys, zs, rfl, h1, h2, rfl⟩
    have h3 : zs = [] := by simpa using h2.symm
    subst h3
    simpa using he
theorem all_true {α : Type} (l : List α) : l.filter (fun _ => true) = l := by simp
end TT
namespace TT
open PySem PySem.Spec PyProof.Rows L2
/-! ### words: alphabets, weights, the order of words -/
def lowC (c : Char) : Bool := decide (97 ≤ c.toNat) && decide (c.toNat ≤ 122)
def isAl (cs : List Char) : Bool := decide (1 ≤ cs.length) && decide (cs.length ≤ 6) && decide cs.Nodup && cs.all lowC
def wtsOk (n : Nat) (ws : List Int) : Bool := decide (ws.length = n) && ws.all fun w => decide (1 ≤ w) && decide (w ≤ 99)
def onlyIn (cs x : List Char) : Bool := x.all fun c => decide (c ∈ cs)
def wOk (cs x : List Char) : Bool := onlyIn cs x && decide (x.length ≤ 32)
def wtC (cs : List Char) (ws : List Int) (c : Char) : Int := ws.getD (cs.idxOf c) 0
def wtW (cs : List Char) (ws : List Int) (x : List Char) : Int := (x.map (wtC cs ws)).sum
def ixC (cs : List Char) (c : Char) : Int := ((cs.idxOf c : Nat) : Int)
def ixW (cs x : List Char) : List Int := x.map (ixC cs)
def wlt (cs : List Char) (ws : List Int) (x y : List Char) : Prop := wtW cs ws x < wtW cs ws y ∨ (wtW cs ws x = wtW cs ws y ∧ ixW cs x < ixW cs y)
instance {cs ws x y} : Decidable (wlt cs ws x y) := by unfold wlt; infer_instance
def wle (cs : List Char) (ws : List Int) (x y : List Char) : Bool := !decide (wlt cs ws y x)
def cmpW (cs : List Char) (ws : List Int) (x y : List Char) : Int := if x = y then 0 else if wlt cs ws x y then -1 else 1
def sortW (cs : List Char) (ws : List Int) (xs : List (List Char)) : List (List Char) := xs.mergeSort (wle cs ws)
section
variable {cs : List Char} {ws : List Int} {x y z : List Char}
theorem al_bnd (h : isAl cs = true) : 1 ≤ cs.length ∧ cs.length ≤ 6 ∧ cs.Nodup ∧ ∀ c ∈ cs, lowC c = true := by
  unfold isAl at h
  simp only [Bool.and_eq_true, decide_eq_true_eq, List.all_eq_true] at h
  exact ⟨h.1.1.1, h.1.1.2, h.1.2, h.2⟩
theorem wts_bnd {n : Nat} (h : wtsOk n ws = true) : ws.length = n ∧ ∀ w ∈ ws, 1 ≤ w ∧ w ≤ 99 := by
  unfold wtsOk at h
  simp only [Bool.and_eq_true, decide_eq_true_eq, List.all_eq_true] at h
  exact h
theorem only_mem (h : onlyIn cs x = true) : ∀ c ∈ x, c ∈ cs := by
  unfold onlyIn at h
  simpa using h
theorem wtC_bnd (h : wtsOk cs.length ws = true) {c : Char} (hc : c ∈ cs) : 1 ≤ wtC cs ws c ∧ wtC cs ws c ≤ 99 := by
  obtain ⟨h1, h2⟩ := wts_bnd h
  have hi : cs.idxOf c < ws.length := by rw [h1]; exact List.idxOf_lt_length_of_mem hc
  unfold wtC
  rw [List.getD_eq_getElem?_getD, List.getElem?_eq_getElem hi]
  exact h2 _ (List.getElem_mem hi)
theorem wtW_app : wtW cs ws (x ++ y) = wtW cs ws x + wtW cs ws y := by
  unfold wtW
  rw [List.map_append, List.sum_append]
theorem wtW_nn (h : wtsOk cs.length ws = true) : ∀ {x : List Char}, onlyIn cs x = true → (x.length : Int) ≤ wtW cs ws x ∧ wtW cs ws x ≤ 99 * x.length
  | [], _ => by simp [wtW]
  | c :: x, g => by
    have g' : c ∈ cs ∧ onlyIn cs x = true := by simpa [onlyIn] using g
    have := wtW_nn h g'.2
    have h3 := wtC_bnd h g'.1
    have e : wtW cs ws (c :: x) = wtC cs ws c + wtW cs ws x := by simp [wtW]
    rw [e, List.length_cons]
    omega
theorem only_app (h : onlyIn cs (x ++ y) = true) : onlyIn cs x = true ∧ onlyIn cs y = true := by
  unfold onlyIn at h ⊢
  simpa [List.all_append] using h
theorem idx_inj {a b : Char} (ha : a ∈ cs) (hb : b ∈ cs) (e : cs.idxOf a = cs.idxOf b) : a = b := by
  have h1 := List.getElem_idxOf (List.idxOf_lt_length_of_mem ha)
  have h2 := List.getElem_idxOf (List.idxOf_lt_length_of_mem hb)
  rw [← h1, ← h2]
  congr 1
theorem ixW_inj : ∀ {x y : List Char}, onlyIn cs x = true → onlyIn cs y = true → ixW cs x = ixW cs y → x = y
  | [], [], _, _, _ => rfl
  | [], _ :: _, _, _, e => by simp [ixW] at e
  | _ :: _, [], _, _, e => by simp [ixW] at e
  | a :: x, b :: y, hx, hy, e => by
    have g1 : a ∈ cs ∧ onlyIn cs x = true := by simpa [onlyIn] using hx
    have g2 : b ∈ cs ∧ onlyIn cs y = true := by simpa [onlyIn] using hy
    have e0 : ixC cs a = ixC cs b ∧ ixW cs x = ixW cs y := by simpa [ixW] using e
    have e' : cs.idxOf a = cs.idxOf b ∧ ixW cs x = ixW cs y := ⟨Int.ofNat.inj e0.1, e0.2⟩
    rw [idx_inj g1.1 g2.1 e'.1, ixW_inj g1.2 g2.2 e'.2]
theorem wlt_irr : ¬ wlt cs ws x x := by
  unfold wlt
  rintro (h | ⟨_, h⟩)
  · omega
  · exact List.lt_irrefl _ h
theorem wle_iff : wle cs ws x y = true ↔ wtW cs ws x ≤ wtW cs ws y ∧ (wtW cs ws y = wtW cs ws x → ¬ ixW cs y < ixW cs x) := by
  have e : wle cs ws x y = true ↔ ¬ wlt cs ws y x := by unfold wle; rw [Bool.not_eq_true', decide_eq_false_iff_not]
  rw [e]
  unfold wlt
  rw [not_or, not_and, Int.not_lt]
theorem wle_total (x y : List Char) : (wle cs ws x y || wle cs ws y x) = true := by
  rw [Bool.or_eq_true, wle_iff, wle_iff]
  have := List.le_total (ixW cs x) (ixW cs y)
  simp only [← List.not_lt] at this
  rcases this with h | h
  · by_cases q : wtW cs ws y < wtW cs ws x
    · right; constructor
      · omega
      · omega
    · left; constructor
      · omega
      · intro; exact h
  · by_cases q : wtW cs ws x < wtW cs ws y
    · left; constructor
      · omega
      · omega
    · right; constructor
      · omega
      · intro; exact h
theorem wle_trans (x y z : List Char) (h1 : wle cs ws x y = true) (h2 : wle cs ws y z = true) : wle cs ws x z = true := by
  rw [wle_iff] at *
  simp only [List.not_lt] at *
  refine ⟨by omega, fun e => ?_⟩
  exact List.le_trans (h1.2 (by omega)) (h2.2 (by omega))
theorem wle_anti (hx : onlyIn cs x = true) (hy : onlyIn cs y = true) (h1 : wle cs ws x y = true) (h2 : wle cs ws y x = true) : x = y := by
  rw [wle_iff] at *
  simp only [List.not_lt] at *
  have e : wtW cs ws x = wtW cs ws y := by omega
  exact ixW_inj hx hy (List.le_antisymm (h1.2 e.symm) (h2.2 e))
theorem wlt_le (h : wlt cs ws x y) : wle cs ws x y = true := by
  have := wle_total (cs := cs) (ws := ws) x y
  unfold wle at this ⊢
  simp [h] at this ⊢
  exact this
/-- what is sorted is what mergeSort makes -/
theorem sort_uniq {xs ys : List (List Char)} (hx : ∀ x ∈ xs, onlyIn cs x = true) (p : ys.Perm xs) (s : ys.Pairwise fun a b => wle cs ws a b = true) : sortW cs ws xs = ys := by
  unfold sortW
  refine List.Perm.eq_of_pairwise (le := fun a b => wle cs ws a b = true) (fun a b ha hb h1 h2 => ?_) (List.pairwise_mergeSort wle_trans wle_total xs) s ((List.mergeSort_perm xs _).trans p.symm)
  exact wle_anti (hx a (by simpa using ha)) (hx b (p.mem_iff.mp hb)) h1 h2
theorem sort_srt {xs : List (List Char)} : (sortW cs ws xs).Pairwise fun a b => wle cs ws a b = true := List.pairwise_mergeSort wle_trans wle_total xs
theorem sort_mem {xs : List (List Char)} {a : List Char} : a ∈ sortW cs ws xs ↔ a ∈ xs := List.mem_mergeSort
theorem sort_len {xs : List (List Char)} : (sortW cs ws xs).length = xs.length := (List.mergeSort_perm xs _).length_eq
/-- one more word, at its place -/
theorem sort_ins {xs : List (List Char)} {w : List Char} {s : Nat} (hw : onlyIn cs w = true) (hx : ∀ x ∈ xs, onlyIn cs x = true) (h1 : ∀ y ∈ (sortW cs ws xs).drop s, wlt cs ws w y)
    (h2 : s = 0 ∨ ∃ y, (sortW cs ws xs)[s - 1]? = some y ∧ ¬ wlt cs ws w y) : (sortW cs ws xs).take s ++ [w] ++ (sortW cs ws xs).drop s = sortW cs ws (xs ++ [w]) := by
  have ps := sort_srt (cs := cs) (ws := ws) (xs := xs)
  have pm : (sortW cs ws xs).Perm xs := List.mergeSort_perm _ _
  generalize sortW cs ws xs = out at *
  symm
  refine sort_uniq ?_ ?_ ?_
  · intro x h
    rcases List.mem_append.mp h with h | h
    · exact hx x h
    · simp at h; rw [h]; exact hw
  · have : (out.take s ++ [w] ++ out.drop s).Perm (w :: (out.take s ++ out.drop s)) := by
      rw [List.append_assoc]
      exact List.perm_middle
    rw [List.take_append_drop] at this
    exact this.trans ((pm.cons w).trans (List.perm_append_comm (l₁ := [w])))
  · have pt : (out.take s).Pairwise fun a b => wle cs ws a b = true := ps.sublist (List.take_sublist _ _)
    have pd : (out.drop s).Pairwise fun a b => wle cs ws a b = true := ps.sublist (List.drop_sublist _ _)
    have pa : ∀ a ∈ out.take s, ∀ b ∈ out.drop s, wle cs ws a b = true := by
      have := ps
      rw [← List.take_append_drop s out, List.pairwise_append] at this
      exact this.2.2
    have hb : ∀ b ∈ out.drop s, wle cs ws w b = true := fun b h => wlt_le (h1 b h)
    have ha : ∀ a ∈ out.take s, wle cs ws a w = true := by
      intro a h
      rcases h2 with h2 | ⟨y, e, h2⟩
      · rw [h2] at h; simp at h
      · obtain ⟨i, hi, e2⟩ := List.mem_iff_getElem.mp h
        have hl : s - 1 < out.length := (List.getElem?_eq_some_iff.mp e).1
        have ey : out[s - 1] = y := (List.getElem?_eq_some_iff.mp e).2
        have hyw : wle cs ws y w = true := by unfold wle; simp [h2]
        rw [List.length_take] at hi
        rw [List.getElem_take] at e2
        by_cases q : i = s - 1
        · subst q
          rw [← e2, ey]; exact hyw
        · have := List.pairwise_iff_getElem.mp ps i (s - 1) (by omega) hl (by omega)
          rw [e2, ey] at this
          exact wle_trans a y w this hyw
    rw [List.append_assoc, List.pairwise_append]
    refine ⟨pt, ?_, ?_⟩
    · rw [List.singleton_append, List.pairwise_cons]
      exact ⟨hb, pd⟩
    · intro a h b hb'
      rw [List.singleton_append, List.mem_cons] at hb'
      rcases hb' with rfl | hb'
      · exact ha a h
      · exact pa a h b hb'
/-- at the first different letter -/
theorem ix_diff {k : Nat} (hk : k < x.length) (hk2 : k < y.length) (e : x.take k = y.take k) (hx : onlyIn cs x = true) (hy : onlyIn cs y = true) (d : x[k] ≠ y[k]) : ixW cs x < ixW cs y ↔ ixC cs x[k] < ixC cs y[k] := by
  have e1 : x = x.take k ++ x[k] :: x.drop (k + 1) := by rw [List.getElem_cons_drop, List.take_append_drop]
  have e2 : y = y.take k ++ y[k] :: y.drop (k + 1) := by rw [List.getElem_cons_drop, List.take_append_drop]
  have ne : ixC cs x[k] ≠ ixC cs y[k] := fun z => d (idx_inj (only_mem hx _ (List.getElem_mem hk)) (only_mem hy _ (List.getElem_mem hk2)) (Int.ofNat.inj z))
  have f1 : ixW cs x = ixW cs (x.take k) ++ ixC cs x[k] :: ixW cs (x.drop (k + 1)) := by
    conv => lhs; rw [e1]
    unfold ixW
    rw [List.map_append, List.map_cons]
  have f2 : ixW cs y = ixW cs (x.take k) ++ ixC cs y[k] :: ixW cs (y.drop (k + 1)) := by
    conv => lhs; rw [e2]
    rw [← e]
    unfold ixW
    rw [List.map_append, List.map_cons]
  rw [f1, f2]
  generalize ixW cs (x.take k) = p
  clear f1 f2 e1 e2
  induction p with
  | nil =>
    rw [List.nil_append, List.nil_append, List.cons_lt_cons_iff]
    constructor
    · rintro (h | ⟨h, _⟩)
      · exact h
      · exact absurd h ne
    · exact .inl
  | cons a p ih =>
    rw [List.cons_append, List.cons_append, List.cons_lt_cons_iff]
    constructor
    · rintro (h | ⟨_, h⟩)
      · omega
      · exact ih.mp h
    · intro h
      exact .inr ⟨rfl, ih.mpr h⟩
/-- words of one weight: neither goes on where the other one ends -/
theorem pre_lt {k : Nat} (hw : wtsOk cs.length ws = true) (hx : onlyIn cs x = true) (hy : onlyIn cs y = true) (e : wtW cs ws x = wtW cs ws y) (hk : k < x.length) (ek : x.take k = y.take k) : k < y.length := by
  rcases Nat.lt_or_ge k y.length with h | h
  · exact h
  · rw [List.take_of_length_le h] at ek
    have h1 : wtW cs ws x = wtW cs ws (x.take k) + wtW cs ws (x.drop k) := by rw [← wtW_app, List.take_append_drop]
    have h2 := only_app (cs := cs) (x := x.take k) (y := x.drop k) (by rw [List.take_append_drop]; exact hx)
    have h3 := (wtW_nn hw h2.2).1
    rw [List.length_drop] at h3
    rw [ek] at h1
    omega
theorem pre_eq (hw : wtsOk cs.length ws = true) (hx : onlyIn cs x = true) (hy : onlyIn cs y = true) (e : wtW cs ws x = wtW cs ws y) (ek : x = y.take x.length) : x = y := by
  rcases Nat.lt_or_ge x.length y.length with h | h
  · have := pre_lt hw hy hx e.symm h (by rw [← ek, List.take_length])
    omega
  · rw [List.take_of_length_le h] at ek
    exact ek
end
section
variable {x y : List Char} {cs : List Char} {ws : List Int}
theorem find_3 (x y : List Char) : PySem.Txt.find (cps x) (cps y) = PySem.Txt.find3 (cps x) (cps y) (0 : Nat) := by
  have e : fromIndex (cps x).length ((0 : Nat) : Int) = 0 := by
    unfold fromIndex
    rw [if_neg (by omega)]
    rfl
  unfold PySem.Txt.find PySem.Txt.find3
  rw [e]
  generalize Builtin.Str.occurrences (cps x) (cps y) 0 (cps x).length 1 = l
  cases l <;> rfl
theorem occ_one {c : Char} {k : Nat} : occ cs [c] k = true ↔ cs[k]? = some c := by
  unfold occ
  rw [decide_eq_true_eq, List.length_singleton]
  constructor
  · rintro ⟨h1, h2⟩
    have hk : k < cs.length := by omega
    have h0 : cs.drop k = cs[k] :: cs.drop (k + 1) := (List.getElem_cons_drop hk).symm
    rw [h0] at h2
    have h3 : cs[k] = c := (List.cons.inj h2).1
    rw [List.getElem?_eq_getElem hk, h3]
  · intro h
    obtain ⟨hk, e⟩ := List.getElem?_eq_some_iff.mp h
    refine ⟨by omega, ?_⟩
    have h0 : cs.drop k = cs[k] :: cs.drop (k + 1) := (List.getElem_cons_drop hk).symm
    rw [h0, e]
    rfl
theorem find_idx {c : Char} (h : c ∈ cs) : PySem.Txt.find (cps cs) (cps [c]) = ((cs.idxOf c : Nat) : Int) := by
  have hi := List.idxOf_lt_length_of_mem h
  have hg : cs[cs.idxOf c]? = some c := by rw [List.getElem?_eq_getElem hi, List.getElem_idxOf hi]
  rw [find_3]
  rcases f3_occ cs [c] 0 with ⟨_, h2⟩ | ⟨k, h1, _, h3, h4⟩
  · have := h2 (cs.idxOf c) (Nat.zero_le _)
    rw [occ_one.mpr hg] at this
    cases this
  · rw [h1]
    have h5 := occ_one.mp h3
    obtain ⟨hk, e⟩ := List.getElem?_eq_some_iff.mp h5
    congr 1
    rcases Nat.lt_trichotomy k (cs.idxOf c) with q | q | q
    · have := List.not_of_lt_findIdx (p := (· == c)) (xs := cs) (i := k) (by simpa [List.idxOf] using q)
      simp [e] at this
    · exact q
    · have := h4 (cs.idxOf c) (Nat.zero_le _) q
      rw [occ_one.mpr hg] at this
      cases this
theorem find_none {c : Char} (h : c ∉ cs) : PySem.Txt.find (cps cs) (cps [c]) = -1 := by
  rw [find_3]
  rcases f3_occ cs [c] 0 with ⟨h1, _⟩ | ⟨k, h1, _, h3, h4⟩
  · exact h1
  · exact absurd (List.mem_of_getElem? (occ_one.mp h3)) h
theorem dst_aux : ∀ (x acc : List Char), (x.foldl (fun acc c => if c ∈ acc then acc else acc ++ [c]) acc).length ≤ acc.length + x.length ∧
    ((x.foldl (fun acc c => if c ∈ acc then acc else acc ++ [c]) acc).length = acc.length + x.length ↔ x.Nodup ∧ ∀ c ∈ x, c ∉ acc)
  | [], acc => by simp
  | c :: x, acc => by
    rw [List.foldl_cons]
    by_cases q : c ∈ acc
    · rw [if_pos q]
      have ih := dst_aux x acc
      rw [List.length_cons]
      refine ⟨by omega, ?_⟩
      constructor
      · intro h; omega
      · rintro ⟨_, h⟩
        exact absurd q (h c (by simp))
    · rw [if_neg q]
      have ih := dst_aux x (acc ++ [c])
      rw [List.length_append, List.length_singleton] at ih
      rw [List.length_cons]
      refine ⟨by omega, ?_⟩
      have e : acc.length + (x.length + 1) = acc.length + 1 + x.length := by omega
      rw [e, ih.2, List.nodup_cons]
      constructor
      · rintro ⟨h1, h2⟩
        refine ⟨⟨fun hc => ?_, h1⟩, ?_⟩
        · exact h2 c hc (by simp)
        · intro d hd
          rcases List.mem_cons.mp hd with rfl | hd
          · exact q
          · exact fun z => h2 d hd (by simp [z])
      · rintro ⟨⟨h1, h2⟩, h3⟩
        refine ⟨h2, fun d hd z => ?_⟩
        rcases List.mem_append.mp z with z | z
        · exact h3 d (List.mem_cons_of_mem _ hd) z
        · simp at z
          rw [z] at hd
          exact h1 hd
theorem dst_len (x : List Char) : ((dst x).length : Int) = x.length ↔ x.Nodup := by
  have h := (dst_aux x []).2
  unfold dst
  simp at h
  constructor
  · intro e; exact h.mp (by omega)
  · intro e; have := h.mpr e; omega
theorem le_a {c : Char} : (!decide (([c].map Char.toNat) < ("a".toList.map Char.toNat))) = decide (97 ≤ c.toNat) := by
  have e : "a".toList.map Char.toNat = [97] := by decide
  rw [e]
  rw [Bool.eq_iff_iff]
  simp [List.cons_lt_cons_iff]
theorem le_z {c : Char} : (!decide (("z".toList.map Char.toNat) < ([c].map Char.toNat))) = decide (c.toNat ≤ 122) := by
  have e : "z".toList.map Char.toNat = [122] := by decide
  rw [e]
  rw [Bool.eq_iff_iff]
  simp [List.cons_lt_cons_iff]
theorem fm1 {x : List Char} (h : x.length ≤ 400000) : ([0].all fun i => fmtD ([D.str x].getD i .non)) = true := by simp [fmtD, h]
section
variable {S : Cells} {Q : D → Cells → Prop} {X : Ex → Cells → Prop}
theorem w_le_ac {c : Char} (h : Q (.bl (decide (97 ≤ c.toNat))) S) : RE (opLe (.str "a".toList) (.str [c]) S) Q X := by
  refine w_ord_s ?_
  rw [le_a]
  exact h
theorem w_le_cz {c : Char} (h : Q (.bl (decide (c.toNat ≤ 122))) S) : RE (opLe (.str [c]) (.str "z".toList) S) Q X := by
  refine w_ord_s ?_
  rw [le_z]
  exact h
end
/-! ### the order of keys -/
open PyProof.Rows in
theorem toks_ints : ∀ (a b : List Int) (r s : List (Int ⊕ List Nat)), lexLt PyProof.Rows.itemOrd (PySem.W.keyToksAll (a.map .int) ++ r) (PySem.W.keyToksAll (b.map .int) ++ s) = if a = b then lexLt PyProof.Rows.itemOrd r s else decide (a < b)
  | [], [], r, s => by simp [PySem.W.keyToksAll, lex_self (O := PyProof.Rows.itemOrd)]
  | [], b :: bs, r, s => by
    simp only [List.map_nil, List.map_cons, PySem.W.keyToksAll, List.cons_append, List.nil_append]
    rw [PySem.W.lex_atom (by simp), PySem.W.lex_one]
    simp [PyProof.Rows.itemLt]
  | a :: as, [], r, s => by
    simp only [List.map_nil, List.map_cons, PySem.W.keyToksAll, List.cons_append, List.nil_append]
    rw [PySem.W.lex_atom (by simp), PySem.W.lex_one]
    simp [PyProof.Rows.itemLt]
  | a :: as, b :: bs, r, s => by
    simp only [List.map_cons, PySem.W.keyToksAll, List.cons_append, PySem.W.keyToks, List.nil_append]
    rw [lex_self (O := PyProof.Rows.itemOrd)]
    by_cases q : a = b
    · subst q
      rw [lex_self (O := PyProof.Rows.itemOrd), toks_ints as bs r s]
      simp [List.cons_lt_cons_iff]
    · rw [PySem.W.lex_atom (by simpa using q), PySem.W.lex_one]
      rw [if_neg (by simpa using fun h => absurd h q)]
      simp [PyProof.Rows.itemLt, List.cons_lt_cons_iff, q]
end
section
variable {cs : List Char} {ws : List Int} {x y : List Char}
/-- a word's key as data -/
def keyD (cs : List Char) (ws : List Int) (x : List Char) : D := .tup [.int (wtW cs ws x), .lst ((ixW cs x).map .int)]
def rowD (cs : List Char) (ws : List Int) (x : List Char) : D := .tup [keyD cs ws x, .str x]
theorem toPs_ints : ∀ ns : List Int, toPs (ns.map .int) = ns.map PyData.int
  | [] => rfl
  | n :: r => by
    show PyData.int n :: toPs (r.map .int) = _
    rw [toPs_ints r]
    rfl
theorem toks_key (r : List (Int ⊕ List Nat)) : PySem.W.keyToks (toP (keyD cs ws x)) ++ r = .inl 1 :: .inl (wtW cs ws x) :: .inl 1 :: (PySem.W.keyToksAll ((ixW cs x).map .int) ++ .inl 0 :: r) := by
  show PySem.W.keyToksAll [.int (wtW cs ws x), .list (toPs ((ixW cs x).map .int))] ++ r = _
  rw [toPs_ints]
  simp [PySem.W.keyToksAll, PySem.W.keyToks]
theorem lt_key (r s : List (Int ⊕ List Nat)) : PyProof.Rows.lexLt PyProof.Rows.itemOrd (PySem.W.keyToks (toP (keyD cs ws x)) ++ r) (PySem.W.keyToks (toP (keyD cs ws y)) ++ s) =
    if wtW cs ws x = wtW cs ws y ∧ ixW cs x = ixW cs y then PyProof.Rows.lexLt PyProof.Rows.itemOrd r s else decide (wlt cs ws x y) := by
  rw [toks_key, toks_key, PyProof.Rows.lex_self (O := PyProof.Rows.itemOrd)]
  by_cases q : wtW cs ws x = wtW cs ws y
  · rw [q, PyProof.Rows.lex_self (O := PyProof.Rows.itemOrd), PyProof.Rows.lex_self (O := PyProof.Rows.itemOrd), toks_ints, PyProof.Rows.lex_self (O := PyProof.Rows.itemOrd)]
    unfold wlt
    simp [q]
  · rw [PySem.W.lex_atom (by simpa using q), PySem.W.lex_one]
    unfold wlt
    simp [q, PyProof.Rows.itemLt]
theorem ltD_key : ltD (keyD cs ws x) (keyD cs ws y) = decide (wlt cs ws x y) := by
  have h := lt_key (cs := cs) (ws := ws) (x := x) (y := y) [] []
  rw [List.append_nil, List.append_nil] at h
  show PyProof.Rows.lexLt PyProof.Rows.itemOrd _ _ = _
  rw [h]
  split
  · rename_i q
    have e : ¬ wlt cs ws x y := by
      unfold wlt
      rw [q.1, q.2]
      rintro (h | ⟨_, h⟩)
      · omega
      · exact List.lt_irrefl _ h
    rw [decide_eq_false e]
    rfl
  · rfl
theorem leD_row (hx : onlyIn cs x = true) (hy : onlyIn cs y = true) : leD (rowD cs ws x) (rowD cs ws y) = wle cs ws x y := by
  show (!PyProof.Rows.lexLt PyProof.Rows.itemOrd (PySem.W.keyToksAll [toP (keyD cs ws y), .str (cps y)]) (PySem.W.keyToksAll [toP (keyD cs ws x), .str (cps x)])) = _
  unfold wle
  congr 1
  simp only [PySem.W.keyToksAll]
  rw [PyProof.Rows.lex_self (O := PyProof.Rows.itemOrd), lt_key]
  split
  · rename_i q
    have e := ixW_inj hy hx q.2
    subst e
    rw [decide_eq_false wlt_irr]
    rw [PyProof.Rows.lex_self (O := PyProof.Rows.itemOrd), PySem.W.lex_pre]
    rfl
  · rfl
theorem al_ints : ∀ a b : List Int, PySem.W.alikeAll (a.map PyData.int) (b.map PyData.int) = true
  | [], _ => by simp [PySem.W.alikeAll]
  | a :: as, [] => by simp [PySem.W.alikeAll]
  | a :: as, b :: bs => by simp [PySem.W.alikeAll, PySem.W.alike, al_ints as bs]
theorem al_key : alD (keyD cs ws x) (keyD cs ws y) = true := by
  show PySem.W.alikeAll [.int (wtW cs ws x), .list (toPs ((ixW cs x).map .int))] [.int (wtW cs ws y), .list (toPs ((ixW cs y).map .int))] = true
  rw [toPs_ints, toPs_ints]
  simp [PySem.W.alikeAll, PySem.W.alike, al_ints]
theorem al_row : alD (rowD cs ws x) (rowD cs ws y) = true := by
  show PySem.W.alikeAll [toP (keyD cs ws x), .str _] [toP (keyD cs ws y), .str _] = true
  have := al_key (cs := cs) (ws := ws) (x := x) (y := y)
  unfold alD at this
  simp [PySem.W.alikeAll, PySem.W.alike, this]
theorem deps_flat : ∀ {ds : List D}, (∀ d ∈ ds, dep d = 0) → deps ds = 0
  | [], _ => rfl
  | d :: ds, h => by
    show max (dep d) (deps ds) = 0
    rw [h d (by simp), deps_flat fun e he => h e (List.mem_cons_of_mem _ he)]
    rfl
theorem dep_ints (ns : List Int) : deps (ns.map .int) = 0 := deps_flat fun d hd => by
  obtain ⟨n, _, rfl⟩ := List.mem_map.mp hd
  rfl
theorem dep_strs (xs : List (List Char)) : deps (xs.map .str) = 0 := deps_flat fun d hd => by
  obtain ⟨n, _, rfl⟩ := List.mem_map.mp hd
  rfl
theorem dep_key : dep (keyD cs ws x) = 2 := by
  show max 0 (max (deps ((ixW cs x).map .int) + 1) 0) + 1 = 2
  rw [dep_ints]
  rfl
theorem dep_row : dep (rowD cs ws x) = 3 := by
  show max (dep (keyD cs ws x)) (max 0 0) + 1 = 3
  rw [dep_key]
  rfl
theorem sort_rows {xs : List (List Char)} (h : ∀ x ∈ xs, onlyIn cs x = true) : (xs.map (rowD cs ws)).mergeSort leD = (sortW cs ws xs).map (rowD cs ws) := by
  unfold sortW
  rw [List.map_mergeSort]
  intro a ha b hb
  rw [leD_row (h a ha) (h b hb)]
theorem sortOk_rows {xs : List (List Char)} : sortOk (xs.map (rowD cs ws)) = true := by
  unfold sortOk
  simp only [Bool.and_eq_true, Bool.or_eq_true, List.all_eq_true, decide_eq_true_eq]
  refine ⟨⟨?_, ?_⟩, .inl ?_⟩
  · intro a ha b hb
    obtain ⟨x, _, rfl⟩ := List.mem_map.mp ha
    obtain ⟨y, _, rfl⟩ := List.mem_map.mp hb
    exact al_row
  · intro a ha
    obtain ⟨x, _, rfl⟩ := List.mem_map.mp ha
    rw [dep_row]; decide
  · intro a ha
    obtain ⟨x, _, rfl⟩ := List.mem_map.mp ha
    rfl
/-! ### comparing lists of what is flat -/
theorem deqs_ints : ∀ a b : List Int, deqs (a.map .int) (b.map .int) = decide (a = b)
  | [], [] => by simp [deqs, toPs, PyData.eqvAll]
  | [], _ :: _ => by simp [deqs, toPs, PyData.eqvAll]
  | _ :: _, [] => by simp [deqs, toPs, PyData.eqvAll]
  | a :: as, b :: bs => by
    have ih := deqs_ints as bs
    have e : deqs ((a :: as).map .int) ((b :: bs).map .int) = (PyData.eqv (.int a) (.int b) && deqs (as.map .int) (bs.map .int)) := by
      unfold deqs
      simp only [List.map_cons, toPs, PyData.eqvAll]
      rfl
    rw [e, ih]
    have e2 : PyData.eqv (.int a) (.int b) = decide (a = b) := rfl
    rw [e2, Bool.eq_iff_iff]
    simp
theorem deqs_strs : ∀ a b : List (List Char), deqs (a.map .str) (b.map .str) = decide (a = b)
  | [], [] => by simp [deqs, toPs, PyData.eqvAll]
  | [], _ :: _ => by simp [deqs, toPs, PyData.eqvAll]
  | _ :: _, [] => by simp [deqs, toPs, PyData.eqvAll]
  | a :: as, b :: bs => by
    have ih := deqs_strs as bs
    have e : deqs ((a :: as).map .str) ((b :: bs).map .str) = (deq (.str a) (.str b) && deqs (as.map .str) (bs.map .str)) := by
      unfold deqs deq
      simp only [List.map_cons, toPs, PyData.eqvAll]
    rw [e, ih, deq_str, Bool.eq_iff_iff]
    simp
section
variable {S : Cells} {Q : D → Cells → Prop} {X : Ex → Cells → Prop}
theorem w_eq_ints {a b : List Int} (h : Q (.bl (decide (a = b))) S) : RE (opEq (.lst (a.map .int)) (.lst (b.map .int)) S) Q X := by
  refine w_eq ⟨?_, ?_⟩ ?_
  · show deps _ + 1 ≤ 64
    rw [dep_ints]; decide
  · show deps _ + 1 ≤ 64
    rw [dep_ints]; decide
  · show Q (.bl (deqs _ _)) S
    rw [deqs_ints]; exact h
theorem w_ne_ints {a b : List Int} (h : Q (.bl (!decide (a = b))) S) : RE (opNe (.lst (a.map .int)) (.lst (b.map .int)) S) Q X := by
  refine w_ne ⟨?_, ?_⟩ ?_
  · show deps _ + 1 ≤ 64
    rw [dep_ints]; decide
  · show deps _ + 1 ≤ 64
    rw [dep_ints]; decide
  · show Q (.bl (!deqs _ _)) S
    rw [deqs_ints]; exact h
theorem w_eq_strs {a b : List (List Char)} (h : Q (.bl (decide (a = b))) S) : RE (opEq (.lst (a.map .str)) (.lst (b.map .str)) S) Q X := by
  refine w_eq ⟨?_, ?_⟩ ?_
  · show deps _ + 1 ≤ 64
    rw [dep_strs]; decide
  · show deps _ + 1 ≤ 64
    rw [dep_strs]; decide
  · show Q (.bl (deqs _ _)) S
    rw [deqs_strs]; exact h
theorem w_ne_strs {a b : List (List Char)} (h : Q (.bl (!decide (a = b))) S) : RE (opNe (.lst (a.map .str)) (.lst (b.map .str)) S) Q X := by
  refine w_ne ⟨?_, ?_⟩ ?_
  · show deps _ + 1 ≤ 64
    rw [dep_strs]; decide
  · show deps _ + 1 ≤ 64
    rw [dep_strs]; decide
  · show Q (.bl (!deqs _ _)) S
    rw [deqs_strs]; exact h
end
end
end TT
namespace TT
open PySem PySem.Spec PyProof.Rows L2
section
variable {cs x y : List Char} {ws : List Int}
theorem only_iff : onlyIn cs x = true ↔ ∀ c ∈ x, c ∈ cs := by unfold onlyIn; simp
theorem only_nil : onlyIn cs [] = true := rfl
theorem only_add (h1 : onlyIn cs x = true) (h2 : onlyIn cs y = true) : onlyIn cs (x ++ y) = true := by
  rw [only_iff] at *
  intro c hc
  rcases List.mem_append.mp hc with h | h
  · exact h1 c h
  · exact h2 c h
theorem only_cut {l u : Option Int} (h : onlyIn cs x = true) : onlyIn cs (cut x l u) = true := by
  rw [only_iff] at *
  exact fun c hc => h c (cut_sub hc)
theorem only_one {c : Char} (h : c ∈ cs) : onlyIn cs [c] = true := by
  rw [only_iff]
  intro d hd
  simp at hd
  rw [hd]; exact h
theorem only_rev (h : onlyIn cs x = true) : onlyIn cs x.reverse = true := by
  rw [only_iff] at *
  intro c hc
  exact h c (by simpa using hc)
theorem only_rep {n : Nat} (h : onlyIn cs x = true) : onlyIn cs (List.replicate n x).flatten = true := by
  rw [only_iff] at *
  intro c hc
  obtain ⟨l, h1, h2⟩ := List.mem_flatten.mp hc
  rw [(List.mem_replicate.mp h1).2] at h2
  exact h c h2
theorem rep_len {α : Type} {n : Nat} {l : List α} : (List.replicate n l).flatten.length = n * l.length := by simp [List.length_flatten]
theorem w_ok_iff : wOk cs x = true ↔ onlyIn cs x = true ∧ x.length ≤ 32 := by unfold wOk; simp
theorem cut_len_pre {α : Type} {l : List α} {k : Int} (h : 0 ≤ k) : ((cut l none (some k)).length : Int) ≤ k := by
  obtain ⟨n, rfl⟩ : ∃ n : Nat, k = (n : Int) := ⟨k.toNat, by omega⟩
  rw [cut_pre, List.length_take]
  omega
theorem cut_rot {α : Type} (l : List α) {k : Int} (h : 0 ≤ k) : (cut l (some k) none).length + (cut l none (some k)).length = l.length := by
  obtain ⟨n, rfl⟩ : ∃ n : Nat, k = (n : Int) := ⟨k.toNat, by omega⟩
  rw [cut_pre, cut_suf, List.length_take, List.length_drop]
  omega
section
variable {S : Cells} {P : D → Cells → Prop} {X : Ex → Cells → Prop}
/-- a slice: known by its length and its signs -/
theorem m_sl {x : List Char} {a b : Option Int} (g : x.length ≤ 16777216) (h : ∀ y : List Char, y.length ≤ x.length → (∀ cs, onlyIn cs x = true → onlyIn cs y = true) → P (.str y) S) : RE (opSl (.str x) a b S) P X :=
  w_sl_s g (h _ (cut_len x a b) fun cs hc => only_cut hc)
theorem m_sl_pre {x : List Char} {b : Int} (g : x.length ≤ 16777216 ∧ 0 ≤ b) (h : ∀ y : List Char, y.length ≤ x.length → (y.length : Int) ≤ b → (∀ cs, onlyIn cs x = true → onlyIn cs y = true) → P (.str y) S) : RE (opSl (.str x) none (some b) S) P X :=
  w_sl_s g.1 (h _ (cut_len x _ _) (cut_len_pre g.2) fun cs hc => only_cut hc)
theorem n_sl {x : List Char} {a b : Option Int} (g : x.length ≤ 16777216) (h : ∀ y : List Char, y = cut x a b → y.length ≤ x.length → (∀ cs, onlyIn cs x = true → onlyIn cs y = true) → P (.str y) S) : RE (opSl (.str x) a b S) P X :=
  w_sl_s g (h _ rfl (cut_len x a b) fun cs hc => only_cut hc)
theorem n_sl_pre {x : List Char} {b : Int} (g : x.length ≤ 16777216 ∧ 0 ≤ b) (h : ∀ y : List Char, y = cut x none (some b) → y.length ≤ x.length → (y.length : Int) ≤ b → (∀ cs, onlyIn cs x = true → onlyIn cs y = true) → P (.str y) S) : RE (opSl (.str x) none (some b) S) P X :=
  w_sl_s g.1 (h _ rfl (cut_len x _ _) (cut_len_pre g.2) fun cs hc => only_cut hc)
theorem m_mul {x : List Char} {n : Int} (g : x.length ≤ 2) (g2 : 0 ≤ n ∧ n ≤ 100000) (h : ∀ y : List Char, (y.length : Int) ≤ 2 * n → (x.length ≤ 1 → (y.length : Int) ≤ n) → (∀ cs, onlyIn cs x = true → onlyIn cs y = true) → P (.str y) S) : RE (opMul (.str x) (.int n) S) P X := by
  have e : x.length * n.toNat ≤ 2 * n.toNat := Nat.mul_le_mul_right _ g
  refine w_mul_s ⟨by omega, by omega, by omega⟩ (h _ ?_ ?_ fun cs hc => only_rep hc)
  · rw [rep_len, Nat.mul_comm]; omega
  · intro h1
    have e : x.length * n.toNat ≤ 1 * n.toNat := Nat.mul_le_mul_right _ h1
    rw [rep_len, Nat.mul_comm]; omega
end
end
theorem atI_last {α : Type} {l : List α} (h : 0 < l.length) : L2.atI l (-1) = some (l[l.length - 1]'(by omega)) := by
  unfold L2.atI ixN
  rw [if_neg (by omega), if_pos (by omega)]
  have e : (-1 + (l.length : Int)).toNat = l.length - 1 := by omega
  rw [e]
  exact List.getElem?_eq_getElem _
theorem w_at_last {D' : Type} {f : D' → D} {l : List D'} {S : Cells} {P : D → Cells → Prop} {X : Ex → Cells → Prop} (g : 0 < l.length) (h : ∀ x, x ∈ l → P (f x) S) : RE (atO (L2.atI l (-1)) f S) P X := by
  rw [atI_last g]
  exact w_ok (h _ (List.getElem_mem _))
/-- lists of texts, of numbers: an item is one -/
theorem w_at_strs {xs : List (List Char)} {i : Int} {S : Cells} {P : D → Cells → Prop} {X : Ex → Cells → Prop} (g : 0 ≤ i ∧ i < xs.length) (h : ∀ x : List Char, x ∈ xs → xs[i.toNat]? = some x → P (.str x) S) : RE (atO (L2.atI (xs.map D.str) i) id S) P X := by
  refine w_at_d (by rw [List.length_map]; exact g) fun d hd e => ?_
  rw [List.getElem?_map] at e
  cases q : xs[i.toNat]? with
  | none => rw [q] at e; cases e
  | some x =>
    rw [q] at e
    cases e
    exact h x (List.mem_of_getElem? q) q
theorem cut_map {α β : Type} (f : α → β) (l : List α) (a b : Option Int) : cut (l.map f) a b = (cut l a b).map f := by
  unfold cut
  simp [List.map_take, List.map_drop]
theorem int_snoc {ws : List Int} {k : Int} : ws.map D.int ++ [D.int k] = (ws ++ [k]).map D.int := by simp
theorem str_snoc {ws : List (List Char)} {k : List Char} : ws.map D.str ++ [D.str k] = (ws ++ [k]).map D.str := by simp
theorem w_len_c {n : Nat} {ds : List D} {S : Cells} {Q : D → Cells → Prop} {X : Ex → Cells → Prop} (e : S[n]? = some ds) (h : Q (.int (ds.length : Int)) S) : RE (fLen [.cell n] S) Q X := by
  unfold fLen
  simp only [lvr, e]
  exact w_ok h
theorem tames_strs (xs : List (List Char)) : tames (xs.map D.str) = true := by
  unfold tames
  rw [List.all_eq_true]
  intro d hd
  obtain ⟨n, _, rfl⟩ := List.mem_map.mp hd
  rfl
theorem tames_ints (xs : List Int) : tames (xs.map D.int) = true := by
  unfold tames
  rw [List.all_eq_true]
  intro d hd
  obtain ⟨n, _, rfl⟩ := List.mem_map.mp hd
  rfl
theorem cut_pre0 {α : Type} (x : List α) (k : Nat) : cut x none (some (0 + (k : Int))) = x.take k := by rw [Int.zero_add, cut_pre]
theorem atI_k0 {α : Type} {l : List α} {k : Nat} (h : k < l.length) : L2.atI l (0 + (k : Int)) = some l[k] := by rw [Int.zero_add, atI_nn h]
theorem w_ix_sk {x : List Char} {k : Nat} {S : Cells} {Q : D → Cells → Prop} {X : Ex → Cells → Prop} (h : k < x.length) (g : x.length ≤ 16777216) (hq : Q (.str [x[k]]) S) : RE (opIx (.str x) (.int (0 + (k : Int))) S) Q X := by
  refine w_ix_s g ?_
  rw [atI_k0 h]
  exact w_ok hq
theorem w_at_k {l : List D} {k : Nat} {S : Cells} {Q : D → Cells → Prop} {X : Ex → Cells → Prop} (h : k < l.length) (hq : Q l[k] S) : RE (atO (L2.atI l (0 + (k : Int))) id S) Q X := by
  rw [atI_k0 h]
  exact w_ok hq
theorem cut_two {x y : List Char} {r : List (List Char)} : cut ((x :: y :: r).map D.str) none (some (2 - 0)) = [x, y].map D.str := by
  rw [cut_map, show (2 - 0 : Int) = ((2 : Nat) : Int) from rfl, cut_pre]
  rfl
theorem cut_one {x y : List Char} {r : List (List Char)} : cut ((x :: y :: r).map D.str) none (some (2 - 1)) = [x].map D.str := by
  rw [cut_map, show (2 - 1 : Int) = ((1 : Nat) : Int) from rfl, cut_pre]
  rfl
def wtBad (w : Int) : Bool := decide (w < 1) || decide (99 < w)
theorem wtBad_iff {n : Nat} {ws : List Int} (h : ws.length = n) : wtsOk n ws = true ↔ ¬ 0 < (ws.filter wtBad).length := by
  unfold wtsOk
  rw [Nat.not_lt, Nat.le_zero, List.length_eq_zero_iff, List.filter_eq_nil_iff]
  simp only [h, decide_true, Bool.true_and, List.all_eq_true]
  constructor
  · intro h1 w hw
    have := h1 w hw
    unfold wtBad
    simp at this ⊢
    omega
  · intro h1 w hw
    have := h1 w hw
    unfold wtBad at this
    simp at this ⊢
    omega
theorem w_len_t0 {S : Cells} {Q : D → Cells → Prop} {X : Ex → Cells → Prop} (h : Q (.int 0) S) : RE (fLen [.tup []] S) Q X := w_len_t h
theorem w_len_t1 {a : D} {S : Cells} {Q : D → Cells → Prop} {X : Ex → Cells → Prop} (h : Q (.int 1) S) : RE (fLen [.tup [a]] S) Q X := w_len_t h
theorem w_len_t2 {a b : D} {S : Cells} {Q : D → Cells → Prop} {X : Ex → Cells → Prop} (h : Q (.int 2) S) : RE (fLen [.tup [a, b]] S) Q X := w_len_t h
theorem w_at_c0 {α : Type} {f : α → D} {x : α} {r : List α} {S : Cells} {Q : D → Cells → Prop} {X : Ex → Cells → Prop} (h : Q (f x) S) : RE (atO (L2.atI (x :: r) 0) f S) Q X := by
  have e : L2.atI (x :: r) 0 = some x := by
    have := atI_nn (l := x :: r) (n := 0) (by simp)
    exact this
  rw [e]
  exact w_ok h
theorem w_at_c1 {α : Type} {f : α → D} {x y : α} {r : List α} {S : Cells} {Q : D → Cells → Prop} {X : Ex → Cells → Prop} (h : Q (f y) S) : RE (atO (L2.atI (x :: y :: r) 1) f S) Q X := by
  have e : L2.atI (x :: y :: r) 1 = some y := by
    have := atI_nn (l := x :: y :: r) (n := 1) (by simp)
    exact this
  rw [e]
  exact w_ok h
theorem w_at_d0 {x : D} {r : List D} {S : Cells} {Q : D → Cells → Prop} {X : Ex → Cells → Prop} (h : Q x S) : RE (atO (L2.atI (x :: r) 0) id S) Q X := w_at_c0 (f := id) h
theorem w_at_d1 {x y : D} {r : List D} {S : Cells} {Q : D → Cells → Prop} {X : Ex → Cells → Prop} (h : Q y S) : RE (atO (L2.atI (x :: y :: r) 1) id S) Q X := w_at_c1 (f := id) h
theorem w_at_d2 {x y z : D} {r : List D} {S : Cells} {Q : D → Cells → Prop} {X : Ex → Cells → Prop} (h : Q z S) : RE (atO (L2.atI (x :: y :: z :: r) 2) id S) Q X := by
  have e : L2.atI (x :: y :: z :: r) 2 = some z := by
    have := atI_nn (l := x :: y :: z :: r) (n := 2) (by simp)
    exact this
  rw [e]
  exact w_ok h
theorem w_at_m0 {α : Type} {f : α → D} {x : α} {r : List α} {S : Cells} {Q : D → Cells → Prop} {X : Ex → Cells → Prop} (h : Q (f x) S) : RE (atO (L2.atI ((x :: r).map f) 0) id S) Q X := w_at_c0 (f := id) h
theorem w_at_m1 {α : Type} {f : α → D} {x y : α} {r : List α} {S : Cells} {Q : D → Cells → Prop} {X : Ex → Cells → Prop} (h : Q (f y) S) : RE (atO (L2.atI ((x :: y :: r).map f) 1) id S) Q X := w_at_c1 (f := id) h
theorem w_eqc_t {a b : List D} {S : Cells} {Q : D → Cells → Prop} {X : Ex → Cells → Prop} (g : dep (.lst a) ≤ 64 ∧ dep (.lst b) ≤ 64) (e : deq (.lst a) (.lst b) = true) (h : Q (.bl true) S) : RE (opEq (.lst a) (.lst b) S) Q X := by
  refine w_eq g ?_
  show Q (.bl (deq (.lst a) (.lst b))) S
  rw [e]; exact h
theorem w_eqc_f {a b : List D} {S : Cells} {Q : D → Cells → Prop} {X : Ex → Cells → Prop} (g : dep (.lst a) ≤ 64 ∧ dep (.lst b) ≤ 64) (e : deq (.lst a) (.lst b) = false) (h : Q (.bl false) S) : RE (opEq (.lst a) (.lst b) S) Q X := by
  refine w_eq g ?_
  show Q (.bl (deq (.lst a) (.lst b))) S
  rw [e]; exact h
theorem br_drfl {α : Type} {a : α} {A B : Prop} [Decidable (a = a)] (h : A) : Br (decide (a = a)) A B := by
  rw [decide_eq_true rfl]
  exact br_t h
theorem ixN_of {n : Nat} {k : Int} (h0 : 0 ≤ k) (h : k < n) : ixN n k = some k.toNat := by
  unfold ixN
  rw [if_pos h0, if_pos h]
theorem for_map {α : Type} {xs : List α} {g : α → D} {env : Ev} {S : Cells} {N B C : Ev → Cells → Prop} {T : Ret → Cells → Prop} {Z : Ex → Ev → Cells → Prop} {mg : Mg} {mb : Ms} (I : List α → Ev → Cells → Prop) (h0 : I [] env S)
    (hs : ∀ a x b env S, xs = a ++ x :: b → I a env S → ∃ env1, mg (g x) env = some env1 ∧ RS (mb env1 S) ⟨I (a ++ [x]), N, I (a ++ [x]), T, Z⟩) (he : ∀ env S, I xs env S → N env S) :
    RS (forL mg mb (xs.map g) env S) ⟨N, B, C, T, Z⟩ := by
  refine for_run (fun ds env S => ∃ a b, xs = a ++ b ∧ ds = b.map g ∧ I a env S) ?_ ?_ _ _ _ ⟨[], xs, rfl, rfl, h0⟩
  · rintro d ds env S ⟨a, b, e, e2, hI⟩
    cases b with
    | nil => cases e2
    | cons x b =>
      rw [List.map_cons] at e2
      injection e2 with e3 e4
      subst e3 e4
      obtain ⟨env1, e3, h⟩ := hs a x b env S e hI
      have e' : xs = a ++ [x] ++ b := by rw [e]; simp
      exact ⟨env1, e3, h.mono (fun _ _ h => ⟨_, b, e', rfl, h⟩) (fun _ _ h => h) (fun _ _ h => ⟨_, b, e', rfl, h⟩) (fun _ _ h => h) (fun _ _ _ h => h)⟩
  · rintro env S ⟨a, b, e, e2, hI⟩
    have h3 : b = [] := by simpa using e2.symm
    subst h3
    rw [List.append_nil] at e
    subst e
    exact he _ _ hI
theorem w_find_c {cs : List Char} {c : Char} {S : Cells} {Q : D → Cells → Prop} {X : Ex → Cells → Prop} (h1 : c ∈ cs → Q (.int (ixC cs c)) S) (h2 : c ∉ cs → Q (.int (-1)) S) : RE (fFind cs [.str [c]] S) Q X := by
  refine w_find ?_
  by_cases h : c ∈ cs
  · rw [find_idx h]; exact h1 h
  · rw [find_none h]; exact h2 h
theorem wlt_of_eq {cs x y : List Char} {ws : List Int} (e : wtW cs ws x = wtW cs ws y) : wlt cs ws x y ↔ ixW cs x < ixW cs y := by
  unfold wlt
  constructor
  · rintro (h | ⟨_, h⟩)
    · omega
    · exact h
  · exact fun h => .inr ⟨e, h⟩
theorem wlt_of_ne {cs x y : List Char} {ws : List Int} (e : wtW cs ws x ≠ wtW cs ws y) : wlt cs ws x y ↔ wtW cs ws x < wtW cs ws y := by
  unfold wlt
  constructor
  · rintro (h | ⟨h, _⟩)
    · exact h
    · exact absurd h e
  · exact fun h => .inl h
/-! ### what the law asks of words -/
def faultW (cs x : List Char) : Option D := if onlyIn cs x = false then some (.tup [.str "BadWord".toList, .str x]) else if 32 < x.length then some (.tup [.str "TooLong".toList]) else none
def tellW (cs : List Char) (ws : List Int) (xs : List (List Char)) (v : D) : D :=
  if isAl cs = false then .tup [.str "BadLetters".toList, .str cs] else if wtsOk cs.length ws = false then .tup [.str "BadWeights".toList] else
    match xs.findSome? (faultW cs) with
    | some d => d
    | none => .tup [.str "told".toList, v]
section
variable {cs x : List Char} {ws : List Int} {xs a b : List (List Char)} {v : D}
theorem fault_none (h1 : onlyIn cs x = true) (h2 : x.length ≤ 32) : faultW cs x = none := by
  unfold faultW
  rw [if_neg (by simp [h1]), if_neg (by omega)]
theorem fault_bad (h1 : onlyIn cs x = false) : faultW cs x = some (.tup [.str "BadWord".toList, .str x]) := by
  unfold faultW
  rw [if_pos h1]
theorem fault_long (h1 : onlyIn cs x = true) (h2 : 32 < x.length) : faultW cs x = some (.tup [.str "TooLong".toList]) := by
  unfold faultW
  rw [if_neg (by simp [h1]), if_pos h2]
theorem fault_none_iff : faultW cs x = none ↔ onlyIn cs x = true ∧ x.length ≤ 32 := by
  constructor
  · intro h
    unfold faultW at h
    split at h
    · cases h
    · split at h
      · cases h
      · rename_i h1 h2
        exact ⟨by simpa using h1, by omega⟩
  · exact fun h => fault_none h.1 h.2
theorem findSome_pre (h : ∀ z ∈ a, faultW cs z = none) : (a ++ b).findSome? (faultW cs) = b.findSome? (faultW cs) := by
  rw [List.findSome?_append, List.findSome?_eq_none_iff.mpr h]
  rfl
theorem tell_al (h : isAl cs = false) : tellW cs ws xs v = .tup [.str "BadLetters".toList, .str cs] := by
  unfold tellW
  rw [if_pos h]
theorem tell_wt (h : isAl cs = true) (h1 : wtsOk cs.length ws = false) : tellW cs ws xs v = .tup [.str "BadWeights".toList] := by
  unfold tellW
  rw [if_neg (by simp [h]), if_pos h1]
theorem tell_some {d : D} (h : isAl cs = true) (h1 : wtsOk cs.length ws = true) (h2 : xs.findSome? (faultW cs) = some d) : tellW cs ws xs v = d := by
  unfold tellW
  rw [if_neg (by simp [h]), if_neg (by simp [h1]), h2]
theorem tell_ok (h : isAl cs = true) (h1 : wtsOk cs.length ws = true) (h2 : ∀ z ∈ xs, faultW cs z = none) : tellW cs ws xs v = .tup [.str "told".toList, v] := by
  unfold tellW
  rw [if_neg (by simp [h]), if_neg (by simp [h1]), List.findSome?_eq_none_iff.mpr h2]
theorem tell_bad (h : isAl cs = true) (h1 : wtsOk cs.length ws = true) (e : xs = a ++ x :: b) (h2 : ∀ z ∈ a, faultW cs z = none) (h3 : onlyIn cs x = false) : tellW cs ws xs v = .tup [.str "BadWord".toList, .str x] := by
  refine tell_some h h1 ?_
  rw [e, findSome_pre h2, List.findSome?_cons, fault_bad h3]
theorem tell_long (h : isAl cs = true) (h1 : wtsOk cs.length ws = true) (e : xs = a ++ x :: b) (h2 : ∀ z ∈ a, faultW cs z = none) (h3 : onlyIn cs x = true) (h4 : 32 < x.length) : tellW cs ws xs v = .tup [.str "TooLong".toList] := by
  refine tell_some h h1 ?_
  rw [e, findSome_pre h2, List.findSome?_cons, fault_long h3 h4]
end
theorem s_mutA2 {i j : Nat} {d : D} {ds es : List D} {env : Ev} {S : Cells} {N B C : Ev → Cells → Prop} {T : Ret → Cells → Prop} {Z : Ex → Ev → Cells → Prop} (e : env[i]? = some (.loo (.tup ds))) (e2 : ds[j]? = some (.lst es)) (f1 : (ds.set j .non).all flatD = true) (f2 : (es ++ [d]).all flatD = true) (hl : es.length < 16777216) (h : N ((env.map unLoo).set i (.loo (.tup (ds.set j (.lst (es ++ [d])))))) S) : RS (sMutA i j d env S) ⟨N, B, C, T, Z⟩ := by
  refine s_mutA e e2 ⟨hl, ?_⟩
  unfold mutEnv mutSl
  rw [if_pos ⟨f1, f2⟩]
  exact h
theorem s_mutS2 {i j : Nat} {k : Int} {d : D} {ds es : List D} {n : Nat} {env : Ev} {S : Cells} {N B C : Ev → Cells → Prop} {T : Ret → Cells → Prop} {Z : Ex → Ev → Cells → Prop} (e : env[i]? = some (.loo (.tup ds))) (e2 : ds[j]? = some (.lst es)) (e3 : ixN es.length k = some n) (f1 : (ds.set j .non).all flatD = true) (f2 : (es.set n d).all flatD = true) (h : N ((env.map unLoo).set i (.loo (.tup (ds.set j (.lst (es.set n d)))))) S) : RS (sMutS i j k d env S) ⟨N, B, C, T, Z⟩ := by
  refine s_mutS e e2 e3 ?_
  unfold mutEnv mutSl
  rw [if_pos ⟨f1, f2⟩]
  exact h
theorem gd_strs {n : Nat} {xs : List (List Char)} (h : xs.length < 4611686018427387904) : Gd (n + 2) (.lst (xs.map .str)) := by
  refine ⟨by simpa using h, fun d hd => ?_⟩
  obtain ⟨k, _, rfl⟩ := List.mem_map.mp hd
  trivial
theorem flat_strs (xs : List (List Char)) : (xs.map D.str).all flatD = true := by
  rw [List.all_eq_true]
  intro d hd
  obtain ⟨k, _, rfl⟩ := List.mem_map.mp hd
  rfl
/-- what the law tells: an answer, or an error by its name -/
theorem tell_form (cs : List Char) (ws : List Int) (xs : List (List Char)) (v : D) : tellW cs ws xs v = .tup [.str "told".toList, v] ∨ ∃ t : List Char, t ≠ "told".toList ∧ (tellW cs ws xs v = .tup [.str t] ∨ ∃ u : List Char, tellW cs ws xs v = .tup [.str t, .str u]) := by
  cases h1 : isAl cs with
  | false => exact .inr ⟨_, by decide, .inr ⟨_, tell_al h1⟩⟩
  | true =>
    cases h2 : wtsOk cs.length ws with
    | false => exact .inr ⟨_, by decide, .inl (tell_wt h1 h2)⟩
    | true =>
      cases h3 : xs.findSome? (faultW cs) with
      | none =>
        left
        unfold tellW
        rw [if_neg (by simp [h1]), if_neg (by simp [h2]), h3]
      | some d =>
        right
        rw [tell_some h1 h2 h3]
        obtain ⟨x, _, h4⟩ := List.exists_of_findSome?_eq_some h3
        unfold faultW at h4
        split at h4
        · cases h4
          exact ⟨"BadWord".toList, by decide, .inr ⟨_, rfl⟩⟩
        · split at h4
          · cases h4
            exact ⟨"TooLong".toList, by decide, .inl rfl⟩
          · cases h4
theorem tell_gd {n : Nat} {cs : List Char} {ws : List Int} {xs : List (List Char)} {v : D} (h : Gd (n + 1) v) : Gd (n + 2) (tellW cs ws xs v) := by
  rcases tell_form cs ws xs v with e | ⟨t, _, e | ⟨u, e⟩⟩ <;> rw [e]
  · refine ⟨by simp, fun d hd => ?_⟩
    simp only [List.mem_cons, List.not_mem_nil, or_false] at hd
    rcases hd with rfl | rfl
    · trivial
    · exact h
  · refine ⟨by simp, fun d hd => ?_⟩
    simp only [List.mem_cons, List.not_mem_nil, or_false] at hd
    rw [hd]; trivial
  · refine ⟨by simp, fun d hd => ?_⟩
    simp only [List.mem_cons, List.not_mem_nil, or_false] at hd
    rcases hd with rfl | rfl <;> trivial
end TT
namespace TT
open PySem PySem.Spec PyProof.Rows L2
/-! ### lists of one kind -/
section
variable {α : Type} {f : α → D} {a b xs : List α} {S : Cells} {Q : D → Cells → Prop} {X : Ex → Cells → Prop}
theorem y_add (g : a.length + b.length ≤ 16777216) (h : Q (.lst ((a ++ b).map f)) S) : RE (opAdd (.lst (a.map f)) (.lst (b.map f)) S) Q X := by
  refine w_add_l (by rw [List.length_map, List.length_map]; exact g) ?_
  rw [← List.map_append]; exact h
theorem y_sl {l u : Option Int} (h : Q (.lst ((cut xs l u).map f)) S) : RE (opSl (.lst (xs.map f)) l u S) Q X := by
  refine w_sl_l ?_
  rw [cut_map]; exact h
theorem y_mul {n : Int} (g : -9223372036854775808 ≤ n ∧ n < 9223372036854775808 ∧ xs.length * n.toNat ≤ 16777216) (h : Q (.lst (((List.replicate n.toNat xs).flatten).map f)) S) : RE (opMul (.lst (xs.map f)) (.int n) S) Q X := by
  refine w_mul_l (by rw [List.length_map]; exact g) ?_
  rw [List.map_flatten, List.map_replicate] at h
  exact h
theorem rep_one {α : Type} (w : α) : ∀ n, (List.replicate n [w]).flatten = List.replicate n w
  | 0 => rfl
  | n + 1 => by rw [List.replicate_succ, List.flatten_cons, rep_one w n]; rfl
theorem y_mul1 {w : List Char} {n : Int} (g : -9223372036854775808 ≤ n ∧ n ≤ 16777216) (h : Q (.lst ((List.replicate n.toNat w).map .str)) S) : RE (opMul (.lst [.str w]) (.int n) S) Q X := by
  refine w_mul_l ⟨g.1, by omega, by simp; omega⟩ ?_
  rw [rep_one, ← List.map_replicate]
  exact h
theorem y_len (h : Q (.int (xs.length : Int)) S) : RE (fLen [.lst (xs.map f)] S) Q X := by
  refine w_len_l ?_
  rw [List.length_map]
  exact h
theorem y_rev (h : Q (.lst (xs.reverse.map f)) S) : RE (opRev (.lst (xs.map f)) S) Q X := by
  refine w_rev_l ?_
  rw [← List.map_reverse]
  exact h
theorem y_last (g : 0 < xs.length) (h : ∀ x, x ∈ xs → Q (f x) S) : RE (atO (L2.atI (xs.map f) (-1)) id S) Q X :=
  w_at_last (by rw [List.length_map]; exact g) fun d hd => by
    obtain ⟨x, hx, rfl⟩ := List.mem_map.mp hd
    exact h x hx
end
theorem flat_snoc {α : Type} {a : List α} {w : α} {n : Nat} : ((a ++ [w]).map (List.replicate n)).flatten = (a.map (List.replicate n)).flatten ++ List.replicate n w := by simp
theorem gd_told {n : Nat} {t : List Char} {v : D} (h : Gd (n + 1) v) : Gd (n + 2) (.tup [.str t, v]) := by
  refine ⟨by simp, fun d hd => ?_⟩
  simp only [List.mem_cons, List.not_mem_nil, or_false] at hd
  rcases hd with rfl | rfl
  · trivial
  · exact h
theorem m_mul30 {S : Cells} {P : D → Cells → Prop} {X : Ex → Cells → Prop} {x : List Char} {n : Int} (g : x.length ≤ 30) (g2 : 0 ≤ n ∧ n ≤ 100000) (h : ∀ y : List Char, (y.length : Int) ≤ 30 * n → (∀ cs, onlyIn cs x = true → onlyIn cs y = true) → P (.str y) S) : RE (opMul (.str x) (.int n) S) P X := by
  have e : x.length * n.toNat ≤ 30 * n.toNat := Nat.mul_le_mul_right _ g
  refine w_mul_s ⟨by omega, by omega, by omega⟩ (h _ ?_ fun cs hc => only_rep hc)
  rw [rep_len, Nat.mul_comm]; omega
/-- a loop whose body changes the loop's own slot alone; R holds of the given lists -/
theorem for_memE {ds : List D} {i : Nat} {mb : Ms} {env : Ev} {S : Cells} {N B C : Ev → Cells → Prop} {T : Ret → Cells → Prop} {Z : Ex → Ev → Cells → Prop} (R : Cells → Prop) (h0 : R S) (hi : ∃ v0, env[i]? = some v0)
    (hs : ∀ d S, d ∈ ds → R S → RS (mb (env.set i (.val d)) S) ⟨fun e S' => R S' ∧ ∃ v, e = env.set i v, N, fun e S' => R S' ∧ ∃ v, e = env.set i v, T, Z⟩) (he : ∀ v S, R S → N (env.set i v) S) : RS (forL (gtN i) mb ds env S) ⟨N, B, C, T, Z⟩ := by
  refine for_mem (fun e S' => R S' ∧ ∃ v, e = env.set i v) ⟨h0, ?_⟩ ?_ ?_
  · obtain ⟨v0, h⟩ := hi
    obtain ⟨h1, h2⟩ := List.getElem?_eq_some_iff.mp h
    exact ⟨v0, by rw [← h2, List.set_getElem_self]⟩
  · rintro d e S' hd ⟨hr, v, rfl⟩
    refine ⟨_, rfl, ?_⟩
    rw [List.set_set]
    exact hs d S' hd hr
  · rintro e S' ⟨hr, v, rfl⟩
    exact he v S' hr
/-- .. the loop's own slot i, a slot j of which R speaks, a further one k -/
theorem for_memE3 {ds : List D} {i j k : Nat} {mb : Ms} {env : Ev} {S : Cells} {N B C : Ev → Cells → Prop} {T : Ret → Cells → Prop} {Z : Ex → Ev → Cells → Prop} (R : Sl → Cells → Prop) (hij : i ≠ j) (hik : i ≠ k) (h0 : ∃ v0, env[j]? = some v0 ∧ R v0 S) (hi : ∃ v0, env[i]? = some v0) (hk : ∃ v0, env[k]? = some v0)
    (hs : ∀ d vj vk S, d ∈ ds → R vj S → RS (mb (((env.set i (.val d)).set j vj).set k vk) S) ⟨fun e S' => ∃ vi vj vk, R vj S' ∧ e = ((env.set i vi).set j vj).set k vk, N, fun e S' => ∃ vi vj vk, R vj S' ∧ e = ((env.set i vi).set j vj).set k vk, T, Z⟩) (he : ∀ vi vj vk S, R vj S → N (((env.set i vi).set j vj).set k vk) S) : RS (forL (gtN i) mb ds env S) ⟨N, B, C, T, Z⟩ := by
  refine for_mem (fun e S' => ∃ vi vj vk, R vj S' ∧ e = ((env.set i vi).set j vj).set k vk) ?_ ?_ ?_
  · obtain ⟨vi, h1⟩ := hi
    obtain ⟨vj, h2, h3⟩ := h0
    obtain ⟨vk, h4⟩ := hk
    refine ⟨vi, vj, vk, h3, ?_⟩
    obtain ⟨a1, a2⟩ := List.getElem?_eq_some_iff.mp h1
    obtain ⟨b1, b2⟩ := List.getElem?_eq_some_iff.mp h2
    obtain ⟨c1, c2⟩ := List.getElem?_eq_some_iff.mp h4
    subst a2 b2 c2
    simp only [List.set_getElem_self]
  · rintro d e S' hd ⟨vi, vj, vk, hr, rfl⟩
    refine ⟨_, rfl, ?_⟩
    have e : (((env.set i vi).set j vj).set k vk).set i (.val d) = ((env.set i (.val d)).set j vj).set k vk := by
      rw [List.set_comm (i := k) (j := i) _ _ (Ne.symm hik), List.set_comm (i := j) (j := i) _ _ (Ne.symm hij), List.set_set]
    rw [e]
    exact hs d vj vk S' hd hr
  · rintro e S' ⟨vi, vj, vk, hr, rfl⟩
    exact he vi vj vk S' hr
/-! ### sorting what is repeated -/
section
variable {cs : List Char} {ws : List Int}
theorem count_rep {α : Type} [BEq α] [LawfulBEq α] (a : α) (l : List α) : ∀ t, (List.replicate t l).flatten.count a = t * l.count a
  | 0 => by simp
  | t + 1 => by rw [List.replicate_succ, List.flatten_cons, List.count_append, count_rep a l t, Nat.succ_mul, Nat.add_comm]
theorem count_each {α : Type} [BEq α] [LawfulBEq α] (a : α) (t : Nat) : ∀ l : List α, (l.map (List.replicate t)).flatten.count a = t * l.count a
  | [] => by simp
  | b :: l => by
    rw [List.map_cons, List.flatten_cons, List.count_append, count_each a t l, List.count_replicate, List.count_cons]
    split
    · rw [Nat.mul_add, Nat.mul_one, Nat.add_comm]
    · rw [Nat.add_zero, Nat.zero_add]
theorem sort_rep {xs : List (List Char)} (h : ∀ x ∈ xs, onlyIn cs x = true) (t : Nat) : sortW cs ws (List.replicate t xs).flatten = ((sortW cs ws xs).map (List.replicate t)).flatten := by
  refine sort_uniq ?_ ?_ ?_
  · intro x hx
    obtain ⟨l, h1, h2⟩ := List.mem_flatten.mp hx
    rw [(List.mem_replicate.mp h1).2] at h2
    exact h x h2
  · rw [List.perm_iff_count]
    intro a
    rw [count_each, count_rep]
    congr 1
    exact (List.mergeSort_perm xs _).count_eq a
  · rw [List.pairwise_flatten]
    constructor
    · intro l hl
      obtain ⟨w, hw, rfl⟩ := List.mem_map.mp hl
      rw [List.pairwise_replicate]
      right
      unfold wle
      rw [decide_eq_false wlt_irr]
      rfl
    · rw [List.pairwise_map]
      refine sort_srt.imp ?_
      intro a b hab x hx y hy
      rw [(List.mem_replicate.mp hx).2, (List.mem_replicate.mp hy).2]
      exact hab
end
end TT
namespace Lawk00
open PySem PySem.Spec PyProof.Rows L2 TT
noncomputable section
def b_is_alphabet' : Ms :=
  (sSeq (sIf (mNot (tB (dChain opLe opLe (dC (.int 1)) (dArgs fLen (aCons (dVar 0) aNil)) (dC (.int 6))))) (sRet (dC (.bl false))) sNil) (sSeq (sIf (tB (dBin opNe (dUn fLenSet (dVar 0)) (dArgs fLen (aCons (dVar 0) aNil)))) (sRet (dC (.bl false))) sNil) (sRet (dArgs fAll (aCons (dFz (oComp [1] (dUn itemsOf (dVar 0)) (gtN 1) mYes (dChain opLe opLe (dC (.str "a".toList)) (dVar 1) (dC (.str "z".toList))))) aNil)))))
def m_is_alphabet : Mf := fnM 1 2 b_is_alphabet'

def b_has_only' : Ms :=
  (sRet (dArgs fAll (aCons (dFz (oComp [2] (dUn itemsOf (dVar 1)) (gtN 2) mYes (dBin opIn (dVar 2) (dVar 0)))) aNil)))
def m_has_only : Mf := fnM 2 3 b_has_only'

def b_check_letters' : Ms :=
  (sIf (mNot (tB (dCallP m_is_alphabet (aDef (aCons (dVar 0) aNil) [])))) (sRaise "BadLetters" 1 [("text", 0)] [0] (aCons (dVar 0) aNil)) sNil)
def m_check_letters : Mf := fnM 1 1 b_check_letters'

def b_check_weights' : Ms :=
  (sSeq (sIf (tB (dBin opNe (dArgs fLen (aCons (dVar 1) aNil)) (dArgs fLen (aCons (dVar 0) aNil)))) (sRaise0 "BadWeights") sNil) (sIf (mNot (tB (dArgs fAll (aCons (dFz (oComp [2] (dUn itemsOf (dVar 1)) (gtN 2) mYes (dChain opLe opLe (dC (.int 1)) (dVar 2) (dC (.int 99))))) aNil)))) (sRaise0 "BadWeights") sNil))
def m_check_weights : Mf := fnM 2 3 b_check_weights'

def b_check_word' : Ms :=
  (sSeq (sIf (mNot (tB (dCallP m_has_only (aDef (aCons (dVar 0) (aCons (dVar 1) aNil)) [])))) (sRaise "BadWord" 1 [("text", 0)] [0] (aCons (dVar 1) aNil)) sNil) (sIf (tB (dBin opGt (dArgs fLen (aCons (dVar 1) aNil)) (dC (.int 32)))) (sRaise0 "TooLong") sNil))
def m_check_word : Mf := fnM 2 2 b_check_word'

def b_sum_weights' : Ms :=
  (sRet (dArgs fSum (aCons (dFz (oComp [3] (dUn itemsOf (dVar 2)) (gtN 3) mYes (dBin opIx (dVar 1) (dMeS fIndex (dVar 0) (aCons (dVar 3) aNil))))) aNil)))
def m_sum_weights : Mf := fnM 3 4 b_sum_weights'

def b_order_key' : Ms :=
  (sRet (dTup (aCons (dCallP m_sum_weights (aDef (aCons (dVar 0) (aCons (dVar 1) (aCons (dVar 2) aNil))) [])) (aCons (dFz (oComp [3] (dUn itemsOf (dVar 2)) (gtN 3) mYes (dMeS fIndex (dVar 0) (aCons (dVar 3) aNil)))) aNil))))
def m_order_key : Mf := fnM 3 4 b_order_key'

def b_word_weight' : Ms :=
  (sSeq (sExp (dCallP m_check_letters (aDef (aCons (dVar 0) aNil) []))) (sSeq (sExp (dCallP m_check_weights (aDef (aCons (dVar 0) (aCons (dVar 1) aNil)) []))) (sSeq (sExp (dCallP m_check_word (aDef (aCons (dVar 0) (aCons (dVar 2) aNil)) []))) (sRet (dCallP m_sum_weights (aDef (aCons (dVar 0) (aCons (dVar 1) (aCons (dVar 2) aNil))) []))))))
def m_word_weight : Mf := fnM 3 3 b_word_weight'

def b_compare_words' : Ms :=
  (sSeq (sExp (dCallP m_check_letters (aDef (aCons (dVar 0) aNil) []))) (sSeq (sExp (dCallP m_check_weights (aDef (aCons (dVar 0) (aCons (dVar 1) aNil)) []))) (sSeq (sExp (dCallP m_check_word (aDef (aCons (dVar 0) (aCons (dVar 2) aNil)) []))) (sSeq (sExp (dCallP m_check_word (aDef (aCons (dVar 0) (aCons (dVar 3) aNil)) []))) (sSeq (sIf (tB (dBin opEq (dVar 2) (dVar 3))) (sRet (dC (.int 0))) sNil) (sSeq (sIf (tB (dBin opLtN (dCallP m_order_key (aDef (aCons (dVar 0) (aCons (dVar 1) (aCons (dVar 2) aNil))) [])) (dCallP m_order_key (aDef (aCons (dVar 0) (aCons (dVar 1) (aCons (dVar 3) aNil))) [])))) (sRet (dUn opNeg (dC (.int 1)))) sNil) (sRet (dC (.int 1)))))))))
def m_compare_words : Mf := fnM 4 4 b_compare_words'

def b_sort_words' : Ms :=
  (sSeq (sExp (dCallP m_check_letters (aDef (aCons (dVar 0) aNil) []))) (sSeq (sExp (dCallP m_check_weights (aDef (aCons (dVar 0) (aCons (dVar 1) aNil)) []))) (sSeq (sFor (dUn itemsOf (dVar 2)) (gtN 3) (sExp (dCallP m_check_word (aDef (aCons (dVar 0) (aCons (dVar 3) aNil)) [])))) (sSeq (sSet 4 (dFz (dArgs fSorted (aCons (dFz (oComp [3] (dUn itemsOf (dVar 2)) (gtN 3) mYes (dTup (aCons (dCallP m_order_key (aDef (aCons (dVar 0) (aCons (dVar 1) (aCons (dVar 3) aNil))) [])) (aCons (dVar 3) aNil))))) aNil)))) (sRetO (oComp [5, 3] (dUn itemsOf (dVar 4)) (gtT 2 (gtCons (gtN 5) (gtCons (gtN 3) gtNil))) mYes (dVar 3)))))))
def m_sort_words : Mf := fnM 3 6 b_sort_words'

def b__law_draws' : Ms :=
  (sRetO (oLst (aCons (dFz (oComp [1] (dUn itemsOf (dVar 0)) (gtN 1) mYes (dArgs fInt (aCons (dVar 1) aNil)))) (aCons (dC (.int 0)) (aCons (dC (.int 0)) (aCons (dC (.int 0)) (aCons (dC (.int 1)) (aCons (dC (.int 0)) aNil))))))))
def m__law_draws : Mf := fnM 1 2 b__law_draws'

def b__law_mixed' : Ms :=
  (sSeq (sSet 2 (dBin opMod (dArgs fInt (aCons (dBin opAdd (dBin opAdd (dBin opMul (dVar 0) (dC (.int 48271))) (dBin opMul (dVar 1) (dC (.int 69621)))) (dC (.int 11))) aNil)) (dC (.int 2147483647)))) (sSeq (sSet 3 (dBin opMod (dArgs fInt (aCons (dBin opAdd (dBin opAdd (dBin opMul (dVar 2) (dVar 2)) (dBin opMul (dVar 1) (dC (.int 40014)))) (dC (.int 7))) aNil)) (dC (.int 2147483399)))) (sRet (dBin opMod (dArgs fInt (aCons (dBin opAdd (dBin opMul (dVar 3) (dVar 3)) (dVar 2)) aNil)) (dC (.int 2147483629))))))
def m__law_mixed : Mf := fnM 2 4 b__law_mixed'

def b__law_take' : Ms :=
  (sSeq (sIf (tB (dBin opLt (dVar 1) (dC (.int 2)))) (sRet (dC (.int 0))) sNil) (sSeq (sIf (mAnd (tB (dBin opEq (dBin opIx (dVar 0) (dC (.int 2))) (dC (.int 0)))) (mAnd (tB (dBin opEq (dBin opIx (dVar 0) (dC (.int 3))) (dC (.int 0)))) (tB (dBin opLt (dBin opIx (dVar 0) (dC (.int 1))) (dArgs fLen (aCons (dBin opIx (dVar 0) (dC (.int 0))) aNil)))))) (sSeq (sSet 2 (dBin opIx (dBin opIx (dVar 0) (dC (.int 0))) (dBin opIx (dVar 0) (dC (.int 1))))) (sSeq (sPutC (dVar 0) (dC (.int 1)) (dBin opAdd (dBin opIx (dVar 0) (dC (.int 1))) (dC (.int 1)))) (sSeq (sPutC (dVar 0) (dC (.int 4)) (dBin opMod (dArgs fInt (aCons (dBin opAdd (dBin opMul (dBin opIx (dVar 0) (dC (.int 4))) (dC (.int 16807))) (dVar 2)) aNil)) (dC (.int 2147483647)))) (sIf (mOr (tB (dBin opGe (dVar 2) (dBin opPow (dC (.int 10)) (dC (.int 18))))) (tB (dBin opGe (dUn opNeg (dVar 2)) (dBin opPow (dC (.int 10)) (dC (.int 18)))))) (sPutC (dVar 0) (dC (.int 2)) (dArgs fAbs (aCons (dVar 2) aNil))) (sPutC (dVar 0) (dC (.int 3)) (dC (.int 3))))))) sNil) (sSeq (sIf (tB (dBin opGt (dBin opIx (dVar 0) (dC (.int 2))) (dC (.int 0)))) (sSeq (sSet 3 (dBin opMod (dArgs fInt (aCons (dBin opIx (dVar 0) (dC (.int 2))) aNil)) (dVar 1))) (sSeq (sPutC (dVar 0) (dC (.int 2)) (dBin opFDiv (dBin opIx (dVar 0) (dC (.int 2))) (dVar 1))) (sRet (dVar 3)))) sNil) (sSeq (sIf (tB (dBin opGt (dBin opIx (dVar 0) (dC (.int 3))) (dC (.int 0)))) (sPutC (dVar 0) (dC (.int 3)) (dBin opSub (dBin opIx (dVar 0) (dC (.int 3))) (dC (.int 1)))) sNil) (sSeq (sPutC (dVar 0) (dC (.int 5)) (dBin opAdd (dBin opIx (dVar 0) (dC (.int 5))) (dC (.int 1)))) (sRet (dBin opMod (dArgs fInt (aCons (dCallP m__law_mixed (aDef (aCons (dBin opIx (dVar 0) (dC (.int 4))) (aCons (dBin opIx (dVar 0) (dC (.int 5))) aNil)) [])) aNil)) (dVar 1))))))))
def m__law_take : Mf := fnM 2 4 b__law_take'

def b__law_span' : Ms :=
  (sRet (dBin opAdd (dVar 1) (dCall m__law_take (aDef (aCons (dVar 0) (aCons (dBin opAdd (dBin opSub (dVar 2) (dVar 1)) (dC (.int 1))) aNil)) []))))
def m__law_span : Mf := fnM 3 3 b__law_span'

def b__law_rare' : Ms :=
  (sRet (dBin opEq (dCall m__law_take (aDef (aCons (dVar 0) (aCons (dVar 1) aNil)) [])) (dBin opSub (dVar 1) (dC (.int 1)))))
def m__law_rare : Mf := fnM 2 2 b__law_rare'

def b__law_pick' : Ms :=
  (sRet (dBin opIx (dVar 1) (dCall m__law_take (aDef (aCons (dVar 0) (aCons (dArgs fLen (aCons (dVar 1) aNil)) aNil)) []))))
def m__law_pick : Mf := fnM 2 2 b__law_pick'

def b__law_in_range' : Ms :=
  (sSeq (sIf (tB (dBin opEq (dCall m__law_take (aDef (aCons (dVar 0) (aCons (dC (.int 3)) aNil)) [])) (dC (.int 2)))) (sRet (dCall m__law_pick (aDef (aCons (dVar 0) (aCons (dFz (oLst (aCons (dVar 1) (aCons (dVar 2) aNil)))) aNil)) []))) sNil) (sRet (dCall m__law_span (aDef (aCons (dVar 0) (aCons (dVar 1) (aCons (dVar 2) aNil))) []))))
def m__law_in_range : Mf := fnM 3 3 b__law_in_range'

def b__law_out_of_range' : Ms :=
  (sSeq (sSet 3 (dFz (oLst (aCons (dBin opSub (dVar 1) (dC (.int 1))) (aCons (dBin opAdd (dVar 2) (dC (.int 1))) (aCons (dBin opSub (dBin opSub (dVar 1) (dC (.int 2))) (dCall m__law_take (aDef (aCons (dVar 0) (aCons (dC (.int 9)) aNil)) []))) (aCons (dBin opAdd (dBin opAdd (dVar 2) (dC (.int 2))) (dCall m__law_take (aDef (aCons (dVar 0) (aCons (dC (.int 999)) aNil)) []))) aNil))))))) (sRet (dCall m__law_pick (aDef (aCons (dVar 0) (aCons (dBin opAdd (dVar 3) (dFz (oLst (aCons (dBin opSub (dBin opPow (dC (.int 10)) (dC (.int 18))) (dC (.int 1))) (aCons (dBin opSub (dC (.int 1)) (dBin opPow (dC (.int 10)) (dC (.int 18)))) aNil))))) aNil)) []))))
def m__law_out_of_range : Mf := fnM 3 4 b__law_out_of_range'

def b__law_letters' : Ms :=
  (sSeq (sSet 3 (dCall m__law_span (aDef (aCons (dVar 0) (aCons (dVar 1) (aCons (dVar 2) aNil))) []))) (sSeq (sSet 4 (dC (.str "abcdefghijklmnopqrstuvwxyz".toList))) (sSeq (sIf (tB (dBin opEq (dCall m__law_take (aDef (aCons (dVar 0) (aCons (dC (.int 3)) aNil)) [])) (dC (.int 0)))) (sRet (dSl opSl (dVar 4) pNone (pSome (dVar 3)))) sNil) (sSeq (sSet 5 (dC (.str "".toList))) (sSeq (sFor (dArgs iRange1 (aCons (dVar 3) aNil)) (gtN 6) (sSeq (sSet 7 (dCall m__law_take (aDef (aCons (dVar 0) (aCons (dArgs fLen (aCons (dVar 4) aNil)) aNil)) []))) (sSeq (sSet 5 (dBin opAdd (dVar 5) (dBin opIx (dVar 4) (dVar 7)))) (sSet 4 (dBin opAdd (dSl opSl (dVar 4) pNone (pSome (dVar 7))) (dSl opSl (dVar 4) (pSome (dBin opAdd (dVar 7) (dC (.int 1)))) pNone)))))) (sRet (dVar 5)))))))
def m__law_letters : Mf := fnM 3 8 b__law_letters'

def b__law_stranger' : Ms :=
  (sRet (dCall m__law_pick (aDef (aCons (dVar 0) (aCons (dFz (oComp [2] (dUn itemsOf (dC (.str "abcdefghijklmnopqrstuvwxyz".toList))) (gtN 2) (tB (dBin opNotIn (dVar 2) (dVar 1))) (dVar 2))) aNil)) [])))
def m__law_stranger : Mf := fnM 2 3 b__law_stranger'

def b__law_bad_letters' : Ms :=
  (sSeq (sSet 1 (dCall m__law_take (aDef (aCons (dVar 0) (aCons (dC (.int 5)) aNil)) []))) (sSeq (sIf (tB (dBin opEq (dVar 1) (dC (.int 0)))) (sRet (dC (.str "".toList))) sNil) (sSeq (sIf (tB (dBin opEq (dVar 1) (dC (.int 1)))) (sRet (dCall m__law_letters (aDef (aCons (dVar 0) (aCons (dC (.int 7)) (aCons (dC (.int 8)) aNil))) []))) sNil) (sSeq (sSet 2 (dCall m__law_letters (aDef (aCons (dVar 0) (aCons (dC (.int 1)) (aCons (dC (.int 6)) aNil))) []))) (sSeq (sSet 3 (dCall m__law_take (aDef (aCons (dVar 0) (aCons (dBin opAdd (dArgs fLen (aCons (dVar 2) aNil)) (dC (.int 1))) aNil)) []))) (sSeq (sIf (tB (dBin opEq (dVar 1) (dC (.int 2)))) (sRet (dBin opAdd (dBin opAdd (dSl opSl (dVar 2) pNone (pSome (dVar 3))) (dCall m__law_pick (aDef (aCons (dVar 0) (aCons (dVar 2) aNil)) []))) (dSl opSl (dVar 2) (pSome (dVar 3)) pNone))) sNil) (sSeq (sIf (tB (dBin opEq (dVar 1) (dC (.int 3)))) (sRet (dBin opAdd (dBin opAdd (dSl opSl (dVar 2) pNone (pSome (dVar 3))) (dCall m__law_pick (aDef (aCons (dVar 0) (aCons (dC (.str "AZ059 -_:~".toList)) aNil)) []))) (dSl opSl (dVar 2) (pSome (dVar 3)) pNone))) sNil) (sSeq (sSet 3 (dCall m__law_take (aDef (aCons (dVar 0) (aCons (dArgs fLen (aCons (dVar 2) aNil)) aNil)) []))) (sRet (dBin opAdd (dBin opAdd (dSl opSl (dVar 2) pNone (pSome (dVar 3))) (dCall m__law_pick (aDef (aCons (dVar 0) (aCons (dC (.str "AQZ1 .".toList)) aNil)) []))) (dSl opSl (dVar 2) (pSome (dBin opAdd (dVar 3) (dC (.int 1)))) pNone)))))))))))
def m__law_bad_letters : Mf := fnM 1 4 b__law_bad_letters'

def b__law_heavy' : Ms :=
  (sSeq (sSet 2 (dCall m__law_take (aDef (aCons (dVar 0) (aCons (dC (.int 4)) aNil)) []))) (sSeq (sIf (tB (dBin opLt (dVar 2) (dC (.int 2)))) (sRetO (oComp [3] (dArgs iRange1 (aCons (dVar 1) aNil)) (gtN 3) mYes (dC (.int 1)))) sNil) (sSeq (sIf (tB (dBin opEq (dVar 2) (dC (.int 2)))) (sRetO (oComp [3] (dArgs iRange1 (aCons (dVar 1) aNil)) (gtN 3) mYes (dCall m__law_span (aDef (aCons (dVar 0) (aCons (dC (.int 1)) (aCons (dC (.int 3)) aNil))) [])))) sNil) (sRetO (oComp [3] (dArgs iRange1 (aCons (dVar 1) aNil)) (gtN 3) mYes (dCall m__law_in_range (aDef (aCons (dVar 0) (aCons (dC (.int 1)) (aCons (dC (.int 99)) aNil))) [])))))))
def m__law_heavy : Mf := fnM 2 4 b__law_heavy'

def b__law_bad_heavy' : Ms :=
  (sSeq (sSetO 2 (oCall m__law_heavy (aDef (aCons (dVar 0) (aCons (dVar 1) aNil)) []))) (sSeq (sSet 3 (dCall m__law_take (aDef (aCons (dVar 0) (aCons (dC (.int 5)) aNil)) []))) (sSeq (sIf (tB (dBin opEq (dVar 3) (dC (.int 0)))) (sFrz 2 (sRet (dSl opSl (dVar 2) pNone (pSome (dBin opSub (dVar 1) (dC (.int 1))))))) sNil) (sSeq (sIf (tB (dBin opEq (dVar 3) (dC (.int 1)))) (sFrz 2 (sRet (dBin opAdd (dVar 2) (dFz (oLst (aCons (dCall m__law_in_range (aDef (aCons (dVar 0) (aCons (dC (.int 1)) (aCons (dC (.int 99)) aNil))) [])) aNil)))))) sNil) (sSeq (sIf (tB (dBin opEq (dVar 3) (dC (.int 2)))) (sRetO (oLst aNil)) sNil) (sSeq (sPutO 2 (dCall m__law_take (aDef (aCons (dVar 0) (aCons (dVar 1) aNil)) [])) (dCall m__law_out_of_range (aDef (aCons (dVar 0) (aCons (dC (.int 1)) (aCons (dC (.int 99)) aNil))) []))) (sRetV 2)))))))
def m__law_bad_heavy : Mf := fnM 2 4 b__law_bad_heavy'

def b__law_word' : Ms :=
  (sSeq (sSet 4 (dCall m__law_in_range (aDef (aCons (dVar 0) (aCons (dVar 2) (aCons (dVar 3) aNil))) []))) (sSeq (sSet 5 (dCall m__law_take (aDef (aCons (dVar 0) (aCons (dC (.int 4)) aNil)) []))) (sSeq (sIf (tB (dBin opEq (dVar 5) (dC (.int 0)))) (sRet (dBin opMul (dCall m__law_pick (aDef (aCons (dVar 0) (aCons (dVar 1) aNil)) [])) (dVar 4))) sNil) (sSeq (sIf (tB (dBin opEq (dVar 5) (dC (.int 1)))) (sSeq (sSet 6 (dBin opAdd (dCall m__law_pick (aDef (aCons (dVar 0) (aCons (dVar 1) aNil)) [])) (dCall m__law_pick (aDef (aCons (dVar 0) (aCons (dVar 1) aNil)) [])))) (sRet (dSl opSl (dBin opMul (dVar 6) (dVar 4)) pNone (pSome (dVar 4))))) sNil) (sRet (dMeS fJoin (dC (.str "".toList)) (aCons (dFz (oComp [7] (dArgs iRange1 (aCons (dVar 4) aNil)) (gtN 7) mYes (dCall m__law_pick (aDef (aCons (dVar 0) (aCons (dVar 1) aNil)) [])))) aNil)))))))
def m__law_word : Mf := fnM 4 8 b__law_word'

def b__law_bad_word' : Ms :=
  (sSeq (sSet 2 (dCall m__law_take (aDef (aCons (dVar 0) (aCons (dC (.int 4)) aNil)) []))) (sSeq (sSet 3 (dCall m__law_take (aDef (aCons (dVar 0) (aCons (dC (.int 7)) aNil)) []))) (sSeq (sIf (tB (dBin opGt (dVar 2) (dC (.int 1)))) (sSet 3 (dBin opAdd (dC (.int 33)) (dCall m__law_take (aDef (aCons (dVar 0) (aCons (dC (.int 8)) aNil)) [])))) sNil) (sSeq (sSet 4 (dMeS fJoin (dC (.str "".toList)) (aCons (dFz (oComp [7] (dArgs iRange1 (aCons (dVar 3) aNil)) (gtN 7) mYes (dCall m__law_pick (aDef (aCons (dVar 0) (aCons (dVar 1) aNil)) [])))) aNil))) (sSeq (sIf (tB (dBin opEq (dVar 2) (dC (.int 2)))) (sRet (dTup (aCons (dVar 4) (aCons (dTup (aCons (dC (.str "TooLong".toList)) aNil)) aNil)))) sNil) (sSeq (sSet 5 (dCall m__law_take (aDef (aCons (dVar 0) (aCons (dBin opAdd (dVar 3) (dC (.int 1))) aNil)) []))) (sSeq (sSet 6 (dCall m__law_pick (aDef (aCons (dVar 0) (aCons (dC (.str " !\"#$&'()*+,-./0123456789:;<=>?@AMZ[\\]^_`{|}~".toList)) aNil)) []))) (sSeq (sSet 4 (dBin opAdd (dBin opAdd (dSl opSl (dVar 4) pNone (pSome (dVar 5))) (dCall m__law_pick (aDef (aCons (dVar 0) (aCons (dFz (oLst (aCons (dCall m__law_stranger (aDef (aCons (dVar 0) (aCons (dVar 1) aNil)) [])) (aCons (dVar 6) aNil)))) aNil)) []))) (dSl opSl (dVar 4) (pSome (dVar 5)) pNone))) (sRet (dTup (aCons (dVar 4) (aCons (dTup (aCons (dC (.str "BadWord".toList)) (aCons (dVar 4) aNil))) aNil))))))))))))
def m__law_bad_word : Mf := fnM 2 8 b__law_bad_word'

def b__law_same' (rec : Mf) : Ms :=
  (sSeq (sIf (tB (dBin opIs (dVar 1) (dC .non))) (sRet (dBin opIs (dVar 0) (dC .non))) sNil) (sSeq (sIf (tB (dArgs fIsi (aCons (dVar 1) (aCons (dC (.ty "bool")) aNil)))) (sRet (dAnd (dArgs fIsi (aCons (dVar 0) (aCons (dC (.ty "bool")) aNil))) (dBin opEq (dVar 0) (dVar 1)))) sNil) (sSeq (sIf (tB (dArgs fIsi (aCons (dVar 1) (aCons (dC (.ty "int")) aNil)))) (sRet (dAnd (dArgs fIsi (aCons (dVar 0) (aCons (dC (.ty "int")) aNil))) (dAnd (dNot (dArgs fIsi (aCons (dVar 0) (aCons (dC (.ty "bool")) aNil)))) (dBin opEq (dVar 0) (dVar 1))))) sNil) (sSeq (sIf (tB (dArgs fIsi (aCons (dVar 1) (aCons (dC (.ty "str")) aNil)))) (sRet (dAnd (dArgs fIsi (aCons (dVar 0) (aCons (dC (.ty "str")) aNil))) (dBin opEq (dVar 0) (dVar 1)))) sNil) (sSeq (sIf (mAnd (tB (dArgs fIsi (aCons (dVar 1) (aCons (dC (.ty "tuple")) aNil)))) (mNot (tB (dArgs fIsi (aCons (dVar 0) (aCons (dC (.ty "tuple")) aNil)))))) (sRet (dC (.bl false))) sNil) (sSeq (sIf (mAnd (tB (dArgs fIsi (aCons (dVar 1) (aCons (dC (.ty "list")) aNil)))) (mNot (tB (dArgs fIsi (aCons (dVar 0) (aCons (dC (.ty "list")) aNil)))))) (sRet (dC (.bl false))) sNil) (sSeq (sIf (tB (dBin opNe (dArgs fLen (aCons (dVar 0) aNil)) (dArgs fLen (aCons (dVar 1) aNil)))) (sRet (dC (.bl false))) sNil) (sSeq (sFor (dArgs iRange1 (aCons (dArgs fLen (aCons (dVar 1) aNil)) aNil)) (gtN 2) (sIf (mNot (tB (dCallP (rec) (aDef (aCons (dBin opIx (dVar 0) (dVar 2)) (aCons (dBin opIx (dVar 1) (dVar 2)) aNil)) [])))) (sRet (dC (.bl false))) sNil)) (sRet (dC (.bl true)))))))))))
def m__law_same : Nat → Mf
  | 0 => fun _ _ => .no
  | n + 1 => fnM 2 3 (b__law_same' (m__law_same n))

def b__law_word_fault' : Ms :=
  (sSeq (sFor (dUn itemsOf (dVar 1)) (gtN 3) (sIf (tB (dBin opNotIn (dVar 3) (dVar 0))) (sRet (dTup (aCons (dC (.str "BadWord".toList)) (aCons (dVar 1) aNil)))) sNil)) (sSeq (sIf (tB (dBin opGt (dArgs fLen (aCons (dVar 1) aNil)) (dVar 2))) (sRet (dTup (aCons (dC (.str "TooLong".toList)) aNil))) sNil) (sRet (dTup aNil))))
def m__law_word_fault : Mf := fnM 3 4 b__law_word_fault'

def b__law_weigh' : Ms :=
  (sRet (dArgs fSum (aCons (dFz (oComp [3] (dUn itemsOf (dVar 2)) (gtN 3) mYes (dBin opIx (dVar 1) (dMeS fFind (dVar 0) (aCons (dVar 3) aNil))))) aNil)))
def m__law_weigh : Mf := fnM 3 4 b__law_weigh'

def b__law_order' : Ms :=
  (sSeq (sIf (tB (dBin opEq (dVar 2) (dVar 3))) (sRet (dC (.int 0))) sNil) (sSeq (sSet 4 (dBin opSub (dCallP m__law_weigh (aDef (aCons (dVar 0) (aCons (dVar 1) (aCons (dVar 2) aNil))) [])) (dCallP m__law_weigh (aDef (aCons (dVar 0) (aCons (dVar 1) (aCons (dVar 3) aNil))) [])))) (sSeq (sIf (tB (dBin opEq (dVar 4) (dC (.int 0)))) (sFor (dArgs iRange1 (aCons (dArgs fLen (aCons (dVar 2) aNil)) aNil)) (gtN 5) (sIf (tB (dBin opNe (dBin opIx (dVar 2) (dVar 5)) (dBin opIx (dVar 3) (dVar 5)))) (sSeq (sSet 4 (dBin opSub (dMeS fFind (dVar 0) (aCons (dBin opIx (dVar 2) (dVar 5)) aNil)) (dMeS fFind (dVar 0) (aCons (dBin opIx (dVar 3) (dVar 5)) aNil)))) sBrk) sNil)) sNil) (sSeq (sIf (tB (dBin opLt (dVar 4) (dC (.int 0)))) (sRet (dUn opNeg (dC (.int 1)))) sNil) (sRet (dC (.int 1)))))))
def m__law_order : Mf := fnM 4 6 b__law_order'

def b__law_sorted' : Ms :=
  (sSeq (sSet 3 (dFz (oLst aNil))) (sSeq (sFor (dUn itemsOf (dVar 2)) (gtN 4) (sSeq (sSet 5 (dArgs fLen (aCons (dVar 3) aNil))) (sSeq (sWhile (fun _ _ => 100000) (mAnd (tB (dBin opGt (dVar 5) (dC (.int 0)))) (tB (dBin opLt (dCallP m__law_order (aDef (aCons (dVar 0) (aCons (dVar 1) (aCons (dVar 4) (aCons (dBin opIx (dVar 3) (dBin opSub (dVar 5) (dC (.int 1)))) aNil)))) [])) (dC (.int 0))))) (sSet 5 (dBin opSub (dVar 5) (dC (.int 1))))) (sSet 3 (dBin opAdd (dBin opAdd (dSl opSl (dVar 3) pNone (pSome (dVar 5))) (dFz (oLst (aCons (dVar 4) aNil)))) (dSl opSl (dVar 3) (pSome (dVar 5)) pNone)))))) (sRet (dVar 3))))
def m__law_sorted : Mf := fnM 3 6 b__law_sorted'

def b__law_is_alphabet' : Ms :=
  (sSeq (sIf (mOr (tB (dBin opLt (dArgs fLen (aCons (dVar 0) aNil)) (dC (.int 1)))) (tB (dBin opGt (dArgs fLen (aCons (dVar 0) aNil)) (dC (.int 6))))) (sRet (dC (.bl false))) sNil) (sSeq (sFor (dArgs iRange1 (aCons (dArgs fLen (aCons (dVar 0) aNil)) aNil)) (gtN 1) (sIf (mOr (tB (dBin opNotIn (dBin opIx (dVar 0) (dVar 1)) (dC (.str "abcdefghijklmnopqrstuvwxyz".toList)))) (tB (dBin opIn (dBin opIx (dVar 0) (dVar 1)) (dSl opSl (dVar 0) pNone (pSome (dVar 1)))))) (sRet (dC (.bl false))) sNil)) (sRet (dC (.bl true)))))
def m__law_is_alphabet : Mf := fnM 1 2 b__law_is_alphabet'

def b__law_ask' : Ms :=
  (sSeq (sTry 4 (lkB [("WayfillError", true), ("BoundError", true), ("TooLong", true), ("TooMany", true), ("BadWeights", true), ("BadLetters", true), ("BadWord", true)]) (sSeq (sIf (tB (dBin opEq (dVar 0) (dC (.int 0)))) (sRetW (dTup (aCons (dFlat (dC (.str "told".toList))) (aCons (dNew m_compare_words (aDef (aCons (dVar 1) (aCons (dVar 2) (aCons (dBin opIx (dVar 3) (dC (.int 0))) (aCons (dBin opIx (dVar 3) (dC (.int 1))) aNil)))) [])) aNil)))) sNil) (sSeq (sIf (tB (dBin opEq (dVar 0) (dC (.int 1)))) (sRetW (dTup (aCons (dFlat (dC (.str "told".toList))) (aCons (dNew m_word_weight (aDef (aCons (dVar 1) (aCons (dVar 2) (aCons (dBin opIx (dVar 3) (dC (.int 0))) aNil))) [])) aNil)))) sNil) (sSeq (sIf (tB (dBin opEq (dVar 0) (dC (.int 2)))) (sRetW (dTup (aCons (dFlat (dC (.str "told".toList))) (aCons (dNew m_sort_words (aDef (aCons (dVar 1) (aCons (dVar 2) (aCons (dVar 3) aNil))) [])) aNil)))) sNil) (sSeq (sIf (tB (dBin opEq (dVar 0) (dC (.int 3)))) (sRetW (dTup (aCons (dFlat (dC (.str "told".toList))) (aCons (dNew m_compare_words (aKw 0 4 [3, 2, 1, 0] aNil (aCons (dBin opIx (dVar 3) (dC (.int 1))) (aCons (dBin opIx (dVar 3) (dC (.int 0))) (aCons (dVar 2) (aCons (dVar 1) aNil)))))) aNil)))) sNil) (sSeq (sIf (tB (dBin opEq (dVar 0) (dC (.int 4)))) (sRetW (dTup (aCons (dFlat (dC (.str "told".toList))) (aCons (dNew m_word_weight (aKw 0 3 [2, 1, 0] aNil (aCons (dBin opIx (dVar 3) (dC (.int 0))) (aCons (dVar 2) (aCons (dVar 1) aNil))))) aNil)))) sNil) (sRetW (dTup (aCons (dFlat (dC (.str "told".toList))) (aCons (dNew m_sort_words (aKw 0 3 [2, 1, 0] aNil (aCons (dVar 3) (aCons (dVar 2) (aCons (dVar 1) aNil))))) aNil))))))))) (sSeq (sSet 5 (dAnd (dIsE 4 (lkB [("WayfillError", true), ("BoundError", true), ("TooLong", true), ("TooMany", true), ("BadWeights", true), ("BadLetters", true), ("BadWord", true)])) (dNot (dIsE 4 (lkB [("WayfillError", false), ("BoundError", false), ("TooLong", false), ("TooMany", true), ("BadWeights", false), ("BadLetters", false), ("BadWord", false)]))))) (sSeq (sSetO 6 (oLst (aCons (dIsE 4 (lkB [("WayfillError", false), ("BoundError", false), ("TooLong", false), ("TooMany", false), ("BadWeights", false), ("BadLetters", true), ("BadWord", false)])) (aCons (dIsE 4 (lkB [("WayfillError", false), ("BoundError", false), ("TooLong", false), ("TooMany", false), ("BadWeights", true), ("BadLetters", false), ("BadWord", false)])) (aCons (dIsE 4 (lkB [("WayfillError", false), ("BoundError", false), ("TooLong", false), ("TooMany", false), ("BadWeights", false), ("BadLetters", false), ("BadWord", true)])) (aCons (dIsE 4 (lkB [("WayfillError", false), ("BoundError", false), ("TooLong", true), ("TooMany", false), ("BadWeights", false), ("BadLetters", false), ("BadWord", false)])) aNil)))))) (sSeq (sApp 6 (dIsE 4 (lkB [("WayfillError", false), ("BoundError", true), ("TooLong", true), ("TooMany", true), ("BadWeights", false), ("BadLetters", false), ("BadWord", false)]))) (sFrz 6 (sSeq (sIf (mAnd (tB (dVar 5)) (tB (dBin opEq (dVar 6) (dFz (oLst (aCons (dC (.bl true)) (aCons (dC (.bl false)) (aCons (dC (.bl false)) (aCons (dC (.bl false)) (aCons (dC (.bl false)) aNil)))))))))) (sRetW (dTup (aCons (dFlat (dC (.str "BadLetters".toList))) (aCons (dFlat (dFld 4 "text" (fun nm => nm == "BadLetters"))) aNil)))) sNil) (sSeq (sIf (mAnd (tB (dVar 5)) (tB (dBin opEq (dVar 6) (dFz (oLst (aCons (dC (.bl false)) (aCons (dC (.bl true)) (aCons (dC (.bl false)) (aCons (dC (.bl false)) (aCons (dC (.bl false)) aNil)))))))))) (sRetW (dTup (aCons (dFlat (dC (.str "BadWeights".toList))) aNil))) sNil) (sSeq (sIf (mAnd (tB (dVar 5)) (tB (dBin opEq (dVar 6) (dFz (oLst (aCons (dC (.bl false)) (aCons (dC (.bl false)) (aCons (dC (.bl true)) (aCons (dC (.bl false)) (aCons (dC (.bl false)) aNil)))))))))) (sRetW (dTup (aCons (dFlat (dC (.str "BadWord".toList))) (aCons (dFlat (dFld 4 "text" (fun nm => nm == "BadWord"))) aNil)))) sNil) (sIf (mAnd (tB (dVar 5)) (tB (dBin opEq (dVar 6) (dFz (oLst (aCons (dC (.bl false)) (aCons (dC (.bl false)) (aCons (dC (.bl false)) (aCons (dC (.bl true)) (aCons (dC (.bl true)) aNil)))))))))) (sRetW (dTup (aCons (dFlat (dC (.str "TooLong".toList))) aNil))) sNil))))))))) (sRetW (dTup (aCons (dFlat (dC (.str "other".toList))) aNil))))
def m__law_ask : Mf := fnM 4 7 b__law_ask'

def b__law_due' : Ms :=
  (sSeq (sIf (mNot (tB (dCallP m__law_is_alphabet (aDef (aCons (dVar 1) aNil) [])))) (sRet (dTup (aCons (dC (.str "BadLetters".toList)) (aCons (dVar 1) aNil)))) sNil) (sSeq (sIf (mOr (tB (dBin opNe (dArgs fLen (aCons (dVar 2) aNil)) (dArgs fLen (aCons (dVar 1) aNil)))) (tB (dBin opGt (dArgs fLen (aCons (dFz (oComp [7] (dUn itemsOf (dVar 2)) (gtN 7) (mOr (tB (dBin opLt (dVar 7) (dC (.int 1)))) (tB (dBin opGt (dVar 7) (dC (.int 99))))) (dVar 7))) aNil)) (dC (.int 0))))) (sRet (dTup (aCons (dC (.str "BadWeights".toList)) aNil))) sNil) (sSeq (sSet 4 (dVar 3)) (sSeq (sIf (tB (dBin opLt (dVar 0) (dC (.int 2)))) (sSet 4 (dSl opSl (dVar 3) pNone (pSome (dBin opSub (dC (.int 2)) (dVar 0))))) sNil) (sSeq (sFor (dUn itemsOf (dVar 4)) (gtN 5) (sSeq (sSet 6 (dCallP m__law_word_fault (aDef (aCons (dVar 1) (aCons (dVar 5) (aCons (dC (.int 32)) aNil))) []))) (sIf (tB (dBin opGt (dArgs fLen (aCons (dVar 6) aNil)) (dC (.int 0)))) (sRet (dVar 6)) sNil))) (sSeq (sIf (tB (dBin opEq (dVar 0) (dC (.int 0)))) (sRet (dTup (aCons (dC (.str "told".toList)) (aCons (dCallP m__law_order (aDef (aCons (dVar 1) (aCons (dVar 2) (aCons (dBin opIx (dVar 3) (dC (.int 0))) (aCons (dBin opIx (dVar 3) (dC (.int 1))) aNil)))) [])) aNil)))) sNil) (sSeq (sIf (tB (dBin opEq (dVar 0) (dC (.int 1)))) (sRet (dTup (aCons (dC (.str "told".toList)) (aCons (dCallP m__law_weigh (aDef (aCons (dVar 1) (aCons (dVar 2) (aCons (dBin opIx (dVar 3) (dC (.int 0))) aNil))) [])) aNil)))) sNil) (sRet (dTup (aCons (dC (.str "told".toList)) (aCons (dCallP m__law_sorted (aDef (aCons (dVar 1) (aCons (dVar 2) (aCons (dVar 3) aNil))) [])) aNil)))))))))))
def m__law_due : Mf := fnM 4 8 b__law_due'

def b__law_near' : Ms :=
  (sSeq (sSet 3 (dCall m__law_take (aDef (aCons (dVar 0) (aCons (dC (.int 7)) aNil)) []))) (sSeq (sSet 4 (dCall m__law_take (aDef (aCons (dVar 0) (aCons (dBin opAdd (dArgs fLen (aCons (dVar 2) aNil)) (dC (.int 1))) aNil)) []))) (sSeq (sIf (tB (dBin opEq (dVar 3) (dC (.int 0)))) (sRet (dVar 2)) sNil) (sSeq (sIf (tB (dBin opEq (dVar 3) (dC (.int 1)))) (sRet (dSl opSl (dVar 2) pNone (pSome (dVar 4)))) sNil) (sSeq (sIf (tB (dBin opEq (dVar 3) (dC (.int 2)))) (sRet (dBin opAdd (dSl opSl (dVar 2) (pSome (dVar 4)) pNone) (dSl opSl (dVar 2) pNone (pSome (dVar 4))))) sNil) (sSeq (sIf (tB (dBin opEq (dVar 3) (dC (.int 3)))) (sRet (dUn opRev (dVar 2))) sNil) (sSeq (sIf (tB (dBin opLt (dVar 3) (dC (.int 6)))) (sRet (dSl opSl (dBin opAdd (dBin opAdd (dSl opSl (dVar 2) pNone (pSome (dVar 4))) (dCall m__law_pick (aDef (aCons (dVar 0) (aCons (dVar 1) aNil)) []))) (dSl opSl (dVar 2) (pSome (dBin opAdd (dVar 4) (dC (.int 1)))) pNone)) pNone (pSome (dC (.int 32))))) sNil) (sRet (dCall m__law_word (aDef (aCons (dVar 0) (aCons (dVar 1) (aCons (dC (.int 0)) (aCons (dC (.int 32)) aNil)))) []))))))))))
def m__law_near : Mf := fnM 3 5 b__law_near'

def b__law_words' : Ms :=
  (sSeq (sSet 2 (dBin opAdd (dC (.int 2)) (dCall m__law_take (aDef (aCons (dVar 0) (aCons (dC (.int 7)) aNil)) [])))) (sSeq (sIf (tB (dCall m__law_rare (aDef (aCons (dVar 0) (aCons (dC (.int 10)) aNil)) []))) (sSet 2 (dBin opAdd (dC (.int 20)) (dCall m__law_take (aDef (aCons (dVar 0) (aCons (dC (.int 21)) aNil)) [])))) sNil) (sSeq (sSetO 3 (oLst (aCons (dCall m__law_word (aDef (aCons (dVar 0) (aCons (dVar 1) (aCons (dC (.int 0)) (aCons (dCall m__law_pick (aDef (aCons (dVar 0) (aCons (dFz (oLst (aCons (dC (.int 6)) (aCons (dC (.int 6)) (aCons (dC (.int 32)) aNil))))) aNil)) [])) aNil)))) [])) aNil))) (sSeq (sFor (dArgs iRange1 (aCons (dBin opSub (dVar 2) (dC (.int 1))) aNil)) (gtN 4) (sSeq (sSet 5 (dLendC 3 m__law_pick (lVal (dVar 0) (lOwn 3 lNil)))) (sApp 3 (dCall m__law_near (aDef (aCons (dVar 0) (aCons (dVar 1) (aCons (dVar 5) aNil))) []))))) (sRetV 3)))))
def m__law_words : Mf := fnM 2 6 b__law_words'

def b__law_all_right' : Ms :=
  (sSeq (sFor (dUn itemsOf (dFz (oLst (aCons (dC (.int 0)) (aCons (dC (.int 1)) (aCons (dC (.int 2)) aNil)))))) (gtN 3) (sSeq (sSet 4 (dFz (dArgs fList (aCons (dVar 1) aNil)))) (sSeq (sSet 5 (dFz (dArgs fList (aCons (dVar 2) aNil)))) (sSeq (sSet 6 (dCallP m__law_due (aDef (aCons (dVar 3) (aCons (dVar 0) (aCons (dVar 1) (aCons (dVar 2) aNil)))) []))) (sLoo 7 m__law_ask (aDef (aCons (dVar 3) (aCons (dVar 0) (aCons (dVar 4) (aCons (dVar 5) aNil)))) []) (sSeq (sIf (mOr (tTmp (mNot (tB (dCallP (m__law_same 8) (aDef (aCons (dVar 7) (aCons (dVar 6) aNil)) []))))) (mOr (tB (dBin opNe (dVar 4) (dVar 1))) (tB (dBin opNe (dVar 5) (dVar 2))))) (sRet (dC (.bl false))) sNil) (sSeq (sIf (mAnd (tB (dBin opEq (dVar 3) (dC (.int 2)))) (tTmp (tB (dBin opEq (dBin opIx (dVar 7) (dC (.int 0))) (dC (.str "told".toList)))))) (sSeq (sMutA 7 1 (.str "spoilt".toList)) (sMutS 7 1 0 (.str "spoilt".toList))) sNil) (sSeq (sIf (mOr (tB (dBin opNe (dVar 5) (dVar 2))) (mNot (tB (dCallP (m__law_same 8) (aDef (aCons (dCallP m__law_ask (aDef (aCons (dVar 3) (aCons (dVar 0) (aCons (dVar 4) (aCons (dVar 5) aNil)))) [])) (aCons (dVar 6) aNil)) []))))) (sRet (dC (.bl false))) sNil) (sIf (mOr (mNot (tB (dCallP (m__law_same 8) (aDef (aCons (dCallP m__law_ask (aDef (aCons (dBin opAdd (dVar 3) (dC (.int 3))) (aCons (dVar 0) (aCons (dVar 4) (aCons (dVar 5) aNil)))) [])) (aCons (dVar 6) aNil)) [])))) (mOr (tB (dBin opNe (dVar 4) (dVar 1))) (tB (dBin opNe (dVar 5) (dVar 2))))) (sRet (dC (.bl false))) sNil))))))))) (sRet (dC (.bl true))))
def m__law_all_right : Mf := fnM 3 8 b__law_all_right'

def b__law_large_right' : Ms :=
  (sSeq (sSet 4 (dSl opSl (dVar 3) pNone (pSome (dC (.int 5))))) (sSeq (sSet 5 (dCall m__law_in_range (aDef (aCons (dVar 0) (aCons (dBin opAdd (dBin opFDiv (dC (.int 401)) (dArgs fLen (aCons (dVar 4) aNil))) (dC (.int 1))) (aCons (dBin opFDiv (dC (.int 1000)) (dArgs fLen (aCons (dVar 4) aNil))) aNil))) []))) (sSeq (sSet 6 (dFz (oLst aNil))) (sSeq (sFor (dUn itemsOf (dCallP m__law_sorted (aDef (aCons (dVar 1) (aCons (dVar 2) (aCons (dVar 4) aNil))) []))) (gtN 7) (sSet 6 (dBin opAdd (dVar 6) (dBin opMul (dFz (oLst (aCons (dVar 7) aNil))) (dVar 5))))) (sSeq (sSet 8 (dBin opMul (dVar 4) (dVar 5))) (sSeq (sIf (mOr (mNot (tB (dCallP (m__law_same 8) (aDef (aCons (dCallP m__law_ask (aDef (aCons (dC (.int 2)) (aCons (dVar 1) (aCons (dFz (dArgs fList (aCons (dVar 2) aNil))) (aCons (dVar 8) aNil)))) [])) (aCons (dTup (aCons (dC (.str "told".toList)) (aCons (dVar 6) aNil))) aNil)) [])))) (tB (dBin opNe (dVar 8) (dBin opMul (dVar 4) (dVar 5))))) (sRet (dC (.bl false))) sNil) (sSeq (sSet 9 (dCall m__law_in_range (aDef (aCons (dVar 0) (aCons (dC (.int 33)) (aCons (dC (.int 4990)) aNil))) []))) (sSeq (sSet 10 (dBin opMul (dSl opSl (dVar 1) pNone (pSome (dC (.int 1)))) (dVar 9))) (sSeq (sSet 11 (dCall m__law_take (aDef (aCons (dVar 0) (aCons (dBin opAdd (dVar 9) (dC (.int 1))) aNil)) []))) (sSeq (sSet 12 (dBin opAdd (dBin opAdd (dSl opSl (dVar 10) pNone (pSome (dVar 11))) (dCall m__law_pick (aDef (aCons (dVar 0) (aCons (dC (.str "?A 1-".toList)) aNil)) []))) (dSl opSl (dVar 10) (pSome (dVar 11)) pNone))) (sSeq (sFor (dUn itemsOf (dFz (oLst (aCons (dFz (oLst (aCons (dVar 10) (aCons (dBin opIx (dVar 3) (dC (.int 0))) aNil)))) (aCons (dFz (oLst (aCons (dBin opIx (dVar 3) (dC (.int 0))) (aCons (dVar 12) aNil)))) (aCons (dFz (oLst (aCons (dVar 12) (aCons (dVar 10) aNil)))) aNil)))))) (gtN 13) (sIf (mNot (tB (dCallP m__law_all_right (aDef (aCons (dVar 1) (aCons (dVar 2) (aCons (dVar 13) aNil))) [])))) (sRet (dC (.bl false))) sNil)) (sRet (dCallP m__law_all_right (aDef (aCons (dBin opMul (dVar 1) (dC (.int 800))) (aCons (dVar 2) (aCons (dFz (oLst (aCons (dBin opIx (dVar 3) (dC (.int 0))) (aCons (dVar 12) aNil)))) aNil))) []))))))))))))))
def m__law_large_right : Mf := fnM 4 14 b__law_large_right'

def b_law' : Ms :=
  (sProm 1 (oCallP m__law_draws (aDef (aCons (dVar 0) aNil) [])) (sSeq (sSet 2 (dCall m__law_letters (aDef (aCons (dVar 1) (aCons (dC (.int 1)) (aCons (dC (.int 6)) aNil))) []))) (sSeq (sSet 3 (dCall m__law_heavy (aDef (aCons (dVar 1) (aCons (dArgs fLen (aCons (dVar 2) aNil)) aNil)) []))) (sSeq (sSet 4 (dCall m__law_words (aDef (aCons (dVar 1) (aCons (dVar 2) aNil)) []))) (sSeq (sIf (mNot (tB (dCallP m__law_all_right (aDef (aCons (dVar 2) (aCons (dVar 3) (aCons (dVar 4) aNil))) [])))) (sRet (dC (.bl false))) sNil) (sSeq (sFor (dUn itemsOf (dFz (oLst (aCons (dFz (oLst (aCons (dBin opIx (dVar 4) (dC (.int 1))) (aCons (dBin opIx (dVar 4) (dC (.int 0))) aNil)))) (aCons (dFz (oLst (aCons (dBin opIx (dVar 4) (dC (.int 0))) (aCons (dBin opIx (dVar 4) (dC (.int 0))) aNil)))) (aCons (dFz (oLst (aCons (dBin opIx (dVar 4) (dUn opNeg (dC (.int 1)))) (aCons (dBin opIx (dVar 4) (dC (.int 0))) aNil)))) aNil)))))) (gtN 5) (sIf (mNot (tB (dCallP m__law_all_right (aDef (aCons (dVar 2) (aCons (dVar 3) (aCons (dVar 5) aNil))) [])))) (sRet (dC (.bl false))) sNil)) (sSeq (sIf (mNot (tB (dCallP (m__law_same 8) (aDef (aCons (dCallP m__law_ask (aDef (aCons (dC (.int 2)) (aCons (dVar 2) (aCons (dFz (dArgs fList (aCons (dVar 3) aNil))) (aCons (dFz (oLst aNil)) aNil)))) [])) (aCons (dTup (aCons (dC (.str "told".toList)) (aCons (dFz (oLst aNil)) aNil))) aNil)) [])))) (sRet (dC (.bl false))) sNil) (sSeq (sIf (mNot (tB (dCallP m__law_all_right (aDef (aCons (dUn opRev (dVar 2)) (aCons (dUn opRev (dVar 3)) (aCons (dVar 4) aNil))) [])))) (sRet (dC (.bl false))) sNil) (sSeq (sSet 6 (dVar 2)) (sSeq (sSet 7 (dVar 3)) (sSeq (sSetO 8 (dArgs fList (aCons (dVar 4) aNil))) (sSeq (sIf (tB (dBin opEq (dCall m__law_take (aDef (aCons (dVar 1) (aCons (dC (.int 3)) aNil)) [])) (dC (.int 0)))) (sSet 6 (dCall m__law_bad_letters (aDef (aCons (dVar 1) aNil) []))) sNil) (sSeq (sIf (tB (dBin opEq (dCall m__law_take (aDef (aCons (dVar 1) (aCons (dC (.int 3)) aNil)) [])) (dC (.int 0)))) (sSet 7 (dCall m__law_bad_heavy (aDef (aCons (dVar 1) (aCons (dArgs fLen (aCons (dVar 2) aNil)) aNil)) []))) sNil) (sSeq (sFor (dArgs iRange1 (aCons (dBin opAdd (dC (.int 1)) (dCall m__law_take (aDef (aCons (dVar 1) (aCons (dC (.int 2)) aNil)) []))) aNil)) (gtN 9) (sSeq (sSet 11 (dCall m__law_pick (aDef (aCons (dVar 1) (aCons (dFz (oLst (aCons (dC (.int 0)) (aCons (dC (.int 1)) (aCons (dCall m__law_take (aDef (aCons (dVar 1) (aCons (dArgs fLen (aCons (dVar 4) aNil)) aNil)) [])) aNil))))) aNil)) []))) (sPutO 8 (dVar 11) (dBin opIx (dCall m__law_bad_word (aDef (aCons (dVar 1) (aCons (dVar 2) aNil)) [])) (dC (.int 0)))))) (sFrz 8 (sSeq (sFor (dUn itemsOf (dFz (oLst (aCons (dTup (aCons (dVar 6) (aCons (dVar 3) (aCons (dVar 4) aNil)))) (aCons (dTup (aCons (dVar 2) (aCons (dVar 7) (aCons (dVar 4) aNil)))) (aCons (dTup (aCons (dVar 2) (aCons (dVar 3) (aCons (dVar 8) aNil)))) aNil)))))) (gtN 10) (sIf (mNot (tB (dCallP m__law_all_right (aDef (aCons (dBin opIx (dVar 10) (dC (.int 0))) (aCons (dBin opIx (dVar 10) (dC (.int 1))) (aCons (dBin opIx (dVar 10) (dC (.int 2))) aNil))) [])))) (sRet (dC (.bl false))) sNil)) (sSeq (sIf (mNot (tB (dCallP m__law_all_right (aDef (aCons (dVar 6) (aCons (dVar 7) (aCons (dVar 8) aNil))) [])))) (sRet (dC (.bl false))) sNil) (sSeq (sIf (mAnd (tB (dCall m__law_rare (aDef (aCons (dVar 1) (aCons (dC (.int 4)) aNil)) []))) (mNot (tB (dCall m__law_large_right (aDef (aCons (dVar 1) (aCons (dVar 2) (aCons (dVar 3) (aCons (dVar 4) aNil)))) []))))) (sRet (dC (.bl false))) sNil) (sRet (dCallP m__law_all_right (aDef (aCons (dVar 2) (aCons (dVar 3) (aCons (dVar 4) aNil))) [])))))))))))))))))))))
def m_law : Mf := fnM 1 12 b_law'
end
end Lawk00
section
open PySem PySem.Spec PyProof.Rows L2 TT
local macro_rules | `(tactic| walk_at "sd") => `(tactic| first
  | omega
  | assumption
  | (simp only [List.length_append, List.length_cons, List.length_nil, List.length_map, List.length_singleton, List.length_replicate]; omega)
  | (refine And.intro ?_ ?_ <;> ((try simp only [List.length_append, List.length_cons, List.length_nil, List.length_map, List.length_singleton, List.length_replicate]); omega)))
local macro_rules | `(tactic| walk_at "op") => `(tactic| first
  | with_reducible refine w_eq_i ?_
  | with_reducible refine w_lt_i ?_
  | with_reducible refine w_le_i ?_
  | with_reducible refine w_gt_i ?_
  | with_reducible refine w_ge_i ?_
  | with_reducible refine w_add_i ?_
  | with_reducible refine w_sub_i ?_
  | with_reducible refine w_sub ?_
  | with_reducible refine w_neg ?_
  | with_reducible refine w_ix_l ?_
  | with_reducible refine w_ix_t ?_
  | with_reducible refine w_ix6_0 ?_
  | with_reducible refine w_ix6_1 ?_
  | with_reducible refine w_ix6_2 ?_
  | with_reducible refine w_ix6_3 ?_
  | with_reducible refine w_ix6_4 ?_
  | with_reducible refine w_ix6_5 ?_
  | with_reducible refine w_pow18 ?_
  | with_reducible refine w_ix_c (by with_unfolding_all rfl) ?_
  | with_reducible refine w_len_l ?_
  | with_reducible refine w_len_t ?_
  | with_reducible refine w_len_f ?_
  | (with_reducible refine w_len_s ?_ ?_; try (next => walk_at "sd"))
  | (with_reducible refine w_add_s ?_ ?_; try (next => walk_at "sd"))
  | (with_reducible refine w_add_l ?_ ?_; try (next => walk_at "sd"))
  | (with_reducible refine w_add_t ?_ ?_; try (next => walk_at "sd"))
  | (with_reducible refine w_cat_l ?_ ?_; try (next => walk_at "sd"))
  | (with_reducible refine w_mul_i (mulOk_r ?_) ?_; next => omega)
  | (with_reducible refine w_mul_i (mulOk_l ?_) ?_; next => omega)
  | (with_reducible refine w_mul_i ?_ ?_)
  | (with_reducible refine w_mul_s ?_ ?_; try (next => walk_at "sd"))
  | (with_reducible refine w_mul_l ?_ ?_; try (next => walk_at "sd"))
  | (with_reducible refine w_mod (by decide) ?_)
  | (with_reducible refine w_mod ?_ ?_; try (next => walk_at "sd"))
  | (with_reducible refine w_fdiv_s ?_ ?_; try (next => walk_at "sd"))
  | with_reducible refine w_pow ⟨by decide, by decide, by decide⟩ ?_
  | with_reducible refine w_is_t (by with_unfolding_all rfl) ?_
  | with_reducible refine w_is_f (by with_unfolding_all rfl) ?_
  | with_reducible refine w_isn_t (by with_unfolding_all rfl) ?_
  | with_reducible refine w_isn_f (by with_unfolding_all rfl) ?_
  | with_reducible refine w_is ?_
  | with_reducible refine w_isnot ?_
  | with_reducible refine w_eq_s ?_
  | with_reducible refine w_ne_i ?_
  | with_reducible refine w_ne_s ?_
  | with_reducible refine w_eq_b ?_
  | (with_reducible refine w_ix_s ?_ ?_; try (next => walk_at "sd"))
  | with_reducible refine w_at_rd (by with_unfolding_all rfl) ?_
  | with_reducible refine w_at_r (by with_unfolding_all rfl) ?_
  | (with_reducible refine w_at_im ?_ (fun _ _ => ?_); try (next => walk_at "sd"))
  | (with_reducible refine w_at_d ?_ (fun _ _ _ => ?_); try (next => walk_at "sd"))
  | (with_reducible refine w_at ?_ (fun _ _ _ => ?_); try (next => walk_at "sd"))
  | (with_reducible refine w_sl_s ?_ ?_; try (next => walk_at "sd"))
  | with_reducible refine w_sl_l ?_
  | with_reducible refine w_sl_t ?_
  | with_reducible refine w_slO_l ?_
  | with_reducible refine w_abs ?_
  | with_reducible refine w_int ?_
  | with_reducible refine w_2i ?_
  | with_reducible refine w_list_l ?_
  | with_reducible refine w_list_t ?_
  | with_reducible refine w_it_l ?_
  | with_reducible refine w_it_f ?_
  | with_reducible refine w_it_t ?_
  | with_reducible refine w_it_s ?_
  | (with_reducible refine w_rg1 ?_ ?_; try (next => walk_at "sd"))
  | (with_reducible refine w_rg2 ?_ ?_; try (next => walk_at "sd"))
  | with_reducible refine w_find3 ?_
  | ((with_reducible show RE (fJoin _ [.lst _] _) _ _); refine w_join_one (by assumption) ?_ (fun _ _ => ?_); try (next => walk_at "sd"))
  | with_reducible refine w_isi_bool (by with_unfolding_all rfl) (by with_unfolding_all rfl) ?_
  | with_reducible refine w_isi_int (by with_unfolding_all rfl) (by with_unfolding_all rfl) ?_
  | with_reducible refine w_isi_str (by with_unfolding_all rfl) (by with_unfolding_all rfl) ?_
  | with_reducible refine w_isi_tuple (by with_unfolding_all rfl) (by with_unfolding_all rfl) ?_
  | with_reducible refine w_isi_list (by with_unfolding_all rfl) (by with_unfolding_all rfl) ?_
  | with_reducible refine w_isi (by with_unfolding_all rfl) (by with_unfolding_all rfl) ?_
  | with_reducible refine w_asB ?_)
local macro_rules | `(tactic| walk_at "me") => `(tactic| first
  | with_reducible refine w_bin ?_
  | with_reducible refine w_var (by with_unfolding_all rfl) ?_
  | with_reducible refine w_c ?_
  | with_reducible refine w_args ?_
  | with_reducible refine w_cons ?_
  | with_reducible refine w_nil ?_
  | with_reducible refine w_tB ?_
  | with_reducible refine w_un ?_
  | with_reducible refine w_def0 ?_
  | with_reducible refine w_def ?_
  | with_reducible refine w_call ?_
  | with_reducible refine w_callP ?_
  | with_reducible refine w_oCallP ?_
  | with_reducible refine w_oCall ?_
  | with_reducible refine w_pure ?_
  | with_reducible refine w_and ?_
  | with_reducible refine w_or ?_
  | with_reducible refine w_mNot ?_
  | with_reducible refine w_dand ?_
  | with_reducible refine w_dor ?_
  | with_reducible refine w_dnot ?_
  | with_reducible refine w_dif ?_
  | with_reducible refine w_sl ?_
  | with_reducible refine w_pso ?_
  | with_reducible refine w_pno ?_
  | with_reducible refine w_tup ?_
  | with_reducible refine w_lst ?_
  | with_reducible refine w_fz ?_
  | with_reducible refine w_kwp ?_
  | with_reducible refine w_ixO (by with_unfolding_all rfl) ?_
  | with_reducible refine w_lenO (by with_unfolding_all rfl) ?_
  | with_reducible refine w_meS ?_
  | with_reducible refine w_lOwn (by with_unfolding_all rfl) ?_
  | with_reducible refine w_lVal ?_
  | with_reducible refine w_lNil ?_
  | with_reducible refine w_lend ?_
  | with_reducible refine w_comp ?_
  | with_reducible refine w_yes ?_
  | with_reducible refine w_ok ?_
  | with_reducible refine w_ex ?_
  | with_reducible refine w_bind ?_)
local macro_rules | `(tactic| walk_at "st") => `(tactic| first
  | with_reducible refine s_seq ?_
  | with_reducible refine s_set ?_
  | with_reducible refine s_if ?_
  | with_reducible refine s_nil ?_
  | with_reducible refine s_rt ?_
  | with_reducible refine s_putC ?_
  | with_reducible refine s_setO ?_
  | with_reducible refine s_app (by with_unfolding_all rfl) ?_
  | with_reducible refine s_rtO ?_
  | with_reducible refine s_rtVo (by with_unfolding_all rfl) ?_
  | with_reducible refine s_rtVv (by with_unfolding_all rfl) ?_
  | with_reducible refine s_frz (by with_unfolding_all rfl) ?_
  | with_reducible refine s_exp ?_
  | with_reducible refine s_brk ?_
  | with_reducible refine s_cnt ?_
  | with_reducible refine s_rtN ?_
  | with_reducible refine s_putO (by with_unfolding_all rfl) ?_
  | with_reducible refine s_for ?_
  | with_reducible refine s_prom ?_)
local macro_rules | `(tactic| walk_at "br") => `(tactic| first
  | with_reducible refine isI_i ?_
  | with_reducible refine isS_s ?_
  | with_reducible refine isO_o ?_
  | with_reducible refine rf_v ?_
  | with_reducible refine rf_o ?_
  | with_reducible refine br_t ?_
  | with_reducible refine br_f ?_
  | with_reducible refine br_not ?_
  | (with_reducible refine br_dec (fun _ => ?_) (fun _ => ?_) <;> try (exfalso; omega))
  | with_reducible refine br_any (fun _ => ?_) (fun _ => ?_)
  | with_reducible refine w_lendP (by with_unfolding_all rfl) ?_
  | (with_reducible refine kwp_i (by with_unfolding_all rfl) (by with_unfolding_all rfl) (by repeat (first | exact Sel.z | (apply Sel.s; (next => with_unfolding_all rfl)))) ?_)
  | with_reducible refine w_pt6_0 ?_
  | with_reducible refine w_pt6_1 ?_
  | with_reducible refine w_pt6_2 ?_
  | with_reducible refine w_pt6_3 ?_
  | with_reducible refine w_pt6_4 ?_
  | with_reducible refine w_pt6_5 ?_
  | with_reducible refine w_put (by with_unfolding_all rfl) (by with_unfolding_all rfl) (by with_unfolding_all rfl) ?_)
local macro_rules | `(tactic| walk_at "an") => `(tactic| first
  | ((with_reducible show _ ≤ 16777216 ∧ _); refine And.intro ?_ ?_; try (next => walk_at "sd"))
  | ((with_reducible show _ < 16777216 ∧ _); refine And.intro ?_ ?_; try (next => walk_at "sd"))
  | ((with_reducible show ∃ d, Ret.val _ = Ret.val d ∧ _); refine ⟨_, rfl, rfl, ?_⟩))
local macro_rules | `(tactic| walk_at "cl") => `(tactic| fail)
local macro_rules | `(tactic| walk_at "wp1") => `(tactic| first
  | ((with_reducible show RE _ _ _); first | walk_at "me" | walk_at "op" | walk_at "cl")
  | ((with_reducible show RS _ _); walk_at "st")
  | walk_at "br"
  | walk_at "an")
local macro_rules | `(tactic| walk_at "wp") => `(tactic| repeat' walk_at "wp1")
local macro_rules | `(tactic| walk_at "op") => `(tactic| first
  | (with_reducible refine w_ix_sk (by assumption) ?_ ?_; try (next => walk_at "sd"))
  | with_reducible refine w_at_m0 ?_
  | with_reducible refine w_at_m1 ?_
  | with_reducible refine w_at_d0 ?_
  | with_reducible refine w_at_d1 ?_
  | with_reducible refine w_at_d2 ?_
  | with_reducible refine w_at_c0 ?_
  | with_reducible refine w_at_c1 ?_
  | with_reducible refine w_at_k (by assumption) ?_
  | (with_reducible refine w_at_strs ?_ (fun _ _ _ => ?_); try (next => walk_at "sd"))
  | (with_reducible refine w_find_c (fun _ => ?_) (fun _ => ?_); all_goals (try (exfalso; (next => contradiction))))
  | with_reducible refine w_len_t0 ?_
  | with_reducible refine w_len_t1 ?_
  | with_reducible refine w_len_t2 ?_
  | with_reducible refine w_len_c (by with_unfolding_all rfl) ?_
  | with_reducible refine w_le_ac ?_
  | with_reducible refine w_le_cz ?_
  | with_reducible refine w_inC ?_
  | with_reducible refine w_ninC ?_
  | (with_reducible refine w_rev_s ?_ ?_; try (next => walk_at "sd"))
  | with_reducible refine w_rev_l ?_
  | with_reducible refine w_eq_ints ?_
  | with_reducible refine w_ne_ints ?_
  | with_reducible refine w_eq_strs ?_
  | with_reducible refine w_ne_strs ?_)
local macro_rules | `(tactic| walk_at "me") => `(tactic| first
  | with_reducible refine w_chain ?_
  | with_reducible refine w_lendC (by with_unfolding_all rfl) ?_
  | with_reducible refine w_flat ?_
  | with_reducible refine w_new ?_
  | with_reducible refine w_tmp ?_
  | with_reducible refine w_tTmp ?_
  | with_reducible refine w_isE (by with_unfolding_all rfl) (by with_unfolding_all rfl) ?_
  | with_reducible refine w_fld (by with_unfolding_all rfl) (by with_unfolding_all rfl) (by with_unfolding_all rfl) ?_)
local macro_rules | `(tactic| walk_at "st") => `(tactic| first
  | with_reducible refine s_raise ?_
  | with_reducible refine s_raise0 ?_
  | with_reducible refine s_try ?_
  | with_reducible refine s_rtW ?_
  | with_reducible refine s_loo ?_)
local macro_rules | `(tactic| walk_at "br") => `(tactic| first
  | with_reducible refine br_drfl ?_
  | with_reducible refine nw_o ?_
  | with_reducible refine nw_n ?_
  | with_reducible refine nw_v (by with_unfolding_all rfl) ?_
  | with_reducible refine rf_n ?_
  | with_reducible refine lo_n ?_
  | with_reducible refine lo_o ?_)
local macro_rules | `(tactic| walk_at "an") => `(tactic| first
  | ((with_reducible show flatD _ = true ∧ _); refine And.intro (by with_unfolding_all rfl) ?_)
  | ((with_reducible show (_ = _ ∧ List.all _ _ = true) ∧ _); refine And.intro (And.intro (by with_unfolding_all rfl) ?_) ?_; try (next => refine fm1 ?_; walk_at "sd"))
  | ((with_reducible show (_ = some true ∧ _) ∨ _); refine Or.inl (And.intro (by with_unfolding_all rfl) ?_)))
namespace Lawk00
def TapeD (ds : List D) : Prop := ∃ (cs : List Int) (pos big sm seed turn : Int), 0 ≤ pos ∧ ds = [D.lst (cs.map .int), .int pos, .int big, .int sm, .int seed, .int turn]
theorem tape_mk {cs : List Int} {pos big sm seed turn : Int} (h : 0 ≤ pos) : TapeD [D.lst (cs.map .int), .int pos, .int big, .int sm, .int seed, .int turn] := ⟨cs, pos, big, sm, seed, turn, h, rfl⟩

theorem tape_tame {ds : List D} (h : TapeD ds) : tames ds = true := by
  obtain ⟨cs, pos, big, sm, seed, turn, hp, rfl⟩ := h
  have e : (cs.map D.int).all flatD = true := by
    rw [List.all_eq_true]
    intro d hd
    obtain ⟨n, _, rfl⟩ := List.mem_map.mp hd
    rfl
  simp [tames, tameD, e, flatD]
theorem mixed_w {a b : Int} {S : Cells} {P : Ret → Cells → Prop} {X : Ex → Cells → Prop} (h : ∀ k, P (.val (.int k)) S) : RE (m__law_mixed [.int a, .int b] S) P X := by
  refine w_fn rfl rfl ?_
  unfold b__law_mixed'
  walk_at "wp"
  exact h _
local macro_rules | `(tactic| walk_at "cl") => `(tactic| with_reducible refine mixed_w (fun _ => ?_))

theorem take_w {R : Cells} {n : Int} {ds : List D} {P : Ret → Cells → Prop} {X : Ex → Cells → Prop} (hn : n < 9223372036854775808) (ht : TapeD ds) (h : ∀ k ds', TapeD ds' → 0 ≤ k → (k < n ∨ k = 0) → P (.val (.int k)) (ds' :: R)) : RE (m__law_take [.cell 0, .int n] (ds :: R)) P X := by
  obtain ⟨cs, pos, big, sm, seed, turn, hp, rfl⟩ := ht
  have fin : ∀ x ds', ¬ n < 2 → TapeD ds' → P (.val (.int (x % n))) (ds' :: R) := fun x ds' h2 h3 => h _ _ h3 (Int.emod_nonneg _ (by omega)) (.inl (Int.emod_lt_of_pos _ (by omega)))
  refine w_fn rfl rfl ?_
  unfold b__law_take'
  walk_at "wp"
  all_goals first | exact fin _ _ (by assumption) (tape_mk (by omega)) | exact h _ _ (tape_mk hp) (Int.le_refl _) (.inr rfl)
local macro_rules | `(tactic| walk_at "cl") => `(tactic| with_reducible refine take_w (by omega) (by assumption) (fun _ _ _ _ _ => ?_))

theorem span_w {a b : Int} {ds : List D} {P : Ret → Cells → Prop} {X : Ex → Cells → Prop} (hn : b - a + 1 < 9223372036854775808) (ht : TapeD ds) (h : ∀ k ds', TapeD ds' → a ≤ k → (k ≤ b ∨ k = a) → P (.val (.int k)) [ds']) : RE (m__law_span [.cell 0, .int a, .int b] [ds]) P X := by
  refine w_fn rfl rfl ?_
  unfold b__law_span'
  walk_at "wp"
  exact h _ _ (by assumption) (by omega) (by omega)
local macro_rules | `(tactic| walk_at "cl") => `(tactic| with_reducible refine span_w (by omega) (by assumption) (fun _ _ _ _ _ => ?_))

theorem rare_w {n : Int} {ds : List D} {P : Ret → Cells → Prop} {X : Ex → Cells → Prop} (hn : n < 9223372036854775808) (ht : TapeD ds) (h : ∀ k ds', TapeD ds' → P (.val (.bl k)) [ds']) : RE (m__law_rare [.cell 0, .int n] [ds]) P X := by
  refine w_fn rfl rfl ?_
  unfold b__law_rare'
  walk_at "wp"
  exact h _ _ (by assumption)
local macro_rules | `(tactic| walk_at "cl") => `(tactic| with_reducible refine rare_w (by omega) (by assumption) (fun _ _ _ => ?_))

theorem pick_l {row : List D} {ds : List D} {P : Ret → Cells → Prop} {X : Ex → Cells → Prop} (ht : TapeD ds) (hn : 0 < row.length ∧ row.length < 9223372036854775808) (h : ∀ x ds', TapeD ds' → x ∈ row → P (.val x) [ds']) : RE (m__law_pick [.cell 0, .lst row] [ds]) P X := by
  refine w_fn rfl rfl ?_
  unfold b__law_pick'
  walk_at "wp"
  exact h _ _ (by assumption) (by assumption)
theorem pick_s {row : List Char} {ds : List D} {P : Ret → Cells → Prop} {X : Ex → Cells → Prop} (ht : TapeD ds) (hn : 0 < row.length ∧ row.length ≤ 16777216) (h : ∀ x ds', TapeD ds' → x ∈ row → P (.val (.str [x])) [ds']) : RE (m__law_pick [.cell 0, .str row] [ds]) P X := by
  refine w_fn rfl rfl ?_
  unfold b__law_pick'
  walk_at "wp"
  exact h _ _ (by assumption) (by assumption)
theorem pick_c {row : List D} {ds : List D} {P : Ret → Cells → Prop} {X : Ex → Cells → Prop} (ht : TapeD ds) (hn : 0 < row.length ∧ row.length < 9223372036854775808) (h : ∀ x ds', TapeD ds' → x ∈ row → P (.val x) [ds', row]) : RE (m__law_pick [.cell 0, .cell 1] [ds, row]) P X := by
  refine w_fn rfl rfl ?_
  unfold b__law_pick'
  walk_at "wp"
  exact h _ _ (by assumption) (by assumption)
local macro_rules | `(tactic| walk_at "cl") => `(tactic| (with_reducible refine pick_s (by assumption) ?_ (fun _ _ _ _ => ?_); try (next => walk_at "sd")))
local macro_rules | `(tactic| walk_at "cl") => `(tactic| (with_reducible refine pick_l (by assumption) ?_ (fun _ _ _ _ => ?_); try (next => walk_at "sd")))

theorem in_range_w {a b : Int} {ds : List D} {P : Ret → Cells → Prop} {X : Ex → Cells → Prop} (hn : a ≤ b ∧ b - a + 1 < 9223372036854775808) (ht : TapeD ds) (h : ∀ k ds', TapeD ds' → a ≤ k → k ≤ b → P (.val (.int k)) [ds']) : RE (m__law_in_range [.cell 0, .int a, .int b] [ds]) P X := by
  refine w_fn rfl rfl ?_
  unfold b__law_in_range'
  walk_at "wp"
  · rename_i h1
    simp only [List.mem_cons, List.not_mem_nil, or_false] at h1
    rcases h1 with rfl | rfl
    · exact h _ _ (by assumption) (by omega) (by omega)
    · exact h _ _ (by assumption) (by omega) (by omega)
  · exact h _ _ (by assumption) (by omega) (by omega)
local macro_rules | `(tactic| walk_at "cl") => `(tactic| with_reducible refine in_range_w (by omega) (by assumption) (fun _ _ _ _ _ => ?_))

theorem same_w : ∀ (n : Nat) (d : D) (S : Cells) (P : Ret → Cells → Prop) (X : Ex → Cells → Prop), Gd n d → P (.val (.bl true)) S → RE (m__law_same n [d, d] S) P X
  | 0, d, S, P, X, g, h => g.elim
  | n + 1, d, S, P, X, g, h => by
    show RE (fnM 2 3 (b__law_same' (m__law_same n)) [d, d] S) P X
    refine w_fn rfl rfl ?_
    unfold b__law_same'
    have ih := same_w n
    cases d with
    | lst ds =>
      have g1 : ds.length < 4611686018427387904 := g.1
      walk_at "wp"
      refine for_rg (fun k env S' => S' = S ∧ ∃ x, env = [.val (.lst ds), .val (.lst ds), x]) ⟨rfl, _, rfl⟩ ?_ ?_
      · rintro k env _ hk ⟨rfl, x, rfl⟩
        refine ⟨_, rfl, ?_⟩
        walk_at "wp"
        rename_i y h1 h2 z h3 h4
        have e : y = z := by
          rw [h2] at h4; exact Option.some.inj h4
        subst e
        refine ih _ _ _ _ (g.2 y h1) ?_
        walk_at "wp"
        exact ⟨rfl, _, rfl⟩
      · rintro env _ ⟨rfl, x, rfl⟩
        walk_at "wp"
        exact h
    | tup ds =>
      have g1 : ds.length < 4611686018427387904 := g.1
      walk_at "wp"
      refine for_rg (fun k env S' => S' = S ∧ ∃ x, env = [.val (.tup ds), .val (.tup ds), x]) ⟨rfl, _, rfl⟩ ?_ ?_
      · rintro k env _ hk ⟨rfl, x, rfl⟩
        refine ⟨_, rfl, ?_⟩
        walk_at "wp"
        rename_i y h1 h2 z h3 h4
        have e : y = z := by
          rw [h2] at h4; exact Option.some.inj h4
        subst e
        refine ih _ _ _ _ (g.2 y h1) ?_
        walk_at "wp"
        exact ⟨rfl, _, rfl⟩
      · rintro env _ ⟨rfl, x, rfl⟩
        walk_at "wp"
        exact h
    | bl b =>
      walk_at "wp"
      simpa using h
    | int b =>
      walk_at "wp"
      simpa using h
    | str b =>
      walk_at "wp"
      simpa using h
    | non =>
      walk_at "wp"
      simpa using h
    | _ => exact g.elim

theorem draws_w {ns : List Int} {S : Cells} {P : Ret → Cells → Prop} {X : Ex → Cells → Prop} (hn : ns.length ≤ 63) (h : P (.own [.lst (ns.map .int), .int 0, .int 0, .int 0, .int 1, .int 0]) S) : RE (m__law_draws [.frl (ns.map .int)] S) P X := by
  refine w_fn rfl rfl ?_
  unfold b__law_draws'
  walk_at "wp"
  refine comp_at (fun a b acc S' => S' = S ∧ acc = a) ⟨rfl, rfl⟩ ?_ ?_
  · rintro a d b acc _ e ⟨rfl, rfl⟩
    refine ⟨_, rfl, ?_⟩
    have hm : d ∈ ns.map D.int := by rw [e]; simp
    obtain ⟨c, _, rfl⟩ := List.mem_map.mp hm
    have hl := congrArg List.length e
    simp at hl
    walk_at "wp"
    exact ⟨rfl, rfl⟩
  · rintro acc _ ⟨rfl, rfl⟩
    walk_at "wp"
    exact h
local macro_rules | `(tactic| walk_at "cl") => `(tactic| (with_reducible refine draws_w (by assumption) ?_))

theorem noCs_int : ∀ ns : List Int, noCs (ns.map .int) = true
  | [] => rfl
  | n :: r => by
    show (noC (.int n) && noCs (r.map .int)) = true
    rw [noCs_int r]; rfl
theorem is_alphabet_w {cs : List Char} {S : Cells} {P : Ret → Cells → Prop} {X : Ex → Cells → Prop} (g : cs.length ≤ 16777216) (h : P (.val (.bl (isAl cs))) S) : RE (m_is_alphabet [.str cs] S) P X := by
  refine w_fn rfl rfl ?_
  unfold b_is_alphabet'
  walk_at "wp"
  · rename_i h1 h2
    refine w_lenSet (by omega) ?_
    walk_at "wp"
    · rename_i h3
      refine TT.comp_map (fun _ => true) (fun c => .bl (lowC c)) (by omega) (fun c _ => ⟨_, rfl, w_yes ⟨rfl, rfl⟩, fun _ => ?_⟩) ?_
      · walk_at "wp"
        · rename_i h4
          exact ⟨by simp [lowC, h4], rfl⟩
        · rename_i h4
          exact ⟨by simp [lowC, h4], rfl⟩
      · rw [all_true]
        walk_at "wp"
        refine w_bls (ns := cs.map lowC) (by simp) ?_
        walk_at "wp"
        have e : (cs.map lowC).all id = isAl cs := by
          have h5 := (dst_len cs).mp (by omega)
          have h6 : 1 ≤ cs.length := by omega
          have h7 : cs.length ≤ 6 := by omega
          simp [isAl, h5, h6, h7]
        rw [e]; exact h
    · rename_i h3
      have e : isAl cs = false := by
        rw [dst_len] at h3
        simp [isAl, h3]
      rw [e] at h; exact h
  · rename_i h1 h2
    have e : isAl cs = false := by
      have h7 : ¬ cs.length ≤ 6 := by omega
      simp [isAl, h7]
    rw [e] at h; exact h
  · rename_i h1
    have e : isAl cs = false := by
      have h7 : ¬ 1 ≤ cs.length := by omega
      simp [isAl, h7]
    rw [e] at h; exact h
local macro_rules | `(tactic| walk_at "cl") => `(tactic| (with_reducible refine is_alphabet_w ?_ ?_; try (next => walk_at "sd")))

theorem has_only_w {cs x : List Char} {S : Cells} {P : Ret → Cells → Prop} {X : Ex → Cells → Prop} (g : x.length ≤ 16777216) (h : P (.val (.bl (onlyIn cs x))) S) : RE (m_has_only [.str cs, .str x] S) P X := by
  refine w_fn rfl rfl ?_
  unfold b_has_only'
  walk_at "wp"
  refine TT.comp_map (fun _ => true) (fun c => .bl (decide (c ∈ cs))) (by omega) (fun c _ => ⟨_, rfl, w_yes ⟨rfl, rfl⟩, fun _ => ?_⟩) ?_
  · walk_at "wp"
    exact ⟨rfl, rfl⟩
  · rw [all_true]
    walk_at "wp"
    refine w_bls (ns := x.map fun c => decide (c ∈ cs)) (by simp) ?_
    walk_at "wp"
    have e : (x.map fun c => decide (c ∈ cs)).all id = onlyIn cs x := by simp [onlyIn, List.all_map]
    rw [e]; exact h
local macro_rules | `(tactic| walk_at "cl") => `(tactic| (with_reducible refine has_only_w ?_ ?_; try (next => walk_at "sd")))

theorem check_letters_w {cs : List Char} {S : Cells} {P : Ret → Cells → Prop} {X : Ex → Cells → Prop} (g : cs.length ≤ 400000) (h : isAl cs = true → P (.val .non) S) (h2 : isAl cs = false → X ⟨"BadLetters", [(Str.ofString "text", .str cs)]⟩ S) : RE (m_check_letters [.str cs] S) P X := by
  refine w_fn rfl rfl ?_
  unfold b_check_letters'
  walk_at "wp"
  · exact h (by assumption)
  · exact h2 (by assumption)
local macro_rules | `(tactic| walk_at "cl") => `(tactic| (with_reducible refine check_letters_w ?_ (fun _ => ?_) (fun _ => ?_); try (next => walk_at "sd")))

theorem check_weights_w {cs : List Char} {ws : List Int} {S : Cells} {P : Ret → Cells → Prop} {X : Ex → Cells → Prop} (g : cs.length ≤ 400000) (g2 : ws.length ≤ 400000) (h : wtsOk cs.length ws = true → P (.val .non) S) (h2 : wtsOk cs.length ws = false → X ⟨"BadWeights", []⟩ S) : RE (m_check_weights [.str cs, .lst (ws.map .int)] S) P X := by
  refine w_fn rfl rfl ?_
  unfold b_check_weights'
  walk_at "wp"
  · rename_i h1
    rw [List.length_map] at h1
    have e1 : ws.length = cs.length := by omega
    refine TT.comp_map (fun _ => true) (fun w => .bl (decide (1 ≤ w) && decide (w ≤ 99))) (by omega) (fun c _ => ⟨_, rfl, w_yes ⟨rfl, rfl⟩, fun _ => ?_⟩) ?_
    · walk_at "wp"
      · rename_i h4
        exact ⟨by simp [h4], rfl⟩
      · rename_i h4
        exact ⟨by simp [h4], rfl⟩
    · rw [all_true]
      walk_at "wp"
      refine w_bls (ns := ws.map fun w => decide (1 ≤ w) && decide (w ≤ 99)) (by simp) ?_
      have e : (ws.map fun w => decide (1 ≤ w) && decide (w ≤ 99)).all id = wtsOk cs.length ws := by simp [wtsOk, e1, List.all_map]
      rw [e]
      walk_at "wp"
      all_goals first | exact h2 (by assumption) | exact h (by assumption)
  · rename_i h1
    refine h2 ?_
    rw [List.length_map] at h1
    have : ¬ ws.length = cs.length := by omega
    simp [wtsOk, this]
local macro_rules | `(tactic| walk_at "cl") => `(tactic| (with_reducible refine check_weights_w ?_ ?_ (fun _ => ?_) (fun _ => ?_); try (next => walk_at "sd"); try (next => walk_at "sd")))

theorem check_word_w {cs x : List Char} {S : Cells} {P : Ret → Cells → Prop} {X : Ex → Cells → Prop} (g : x.length ≤ 400000) (h : onlyIn cs x = true → x.length ≤ 32 → P (.val .non) S) (h2 : onlyIn cs x = false → X ⟨"BadWord", [(Str.ofString "text", .str x)]⟩ S) (h3 : onlyIn cs x = true → 32 < x.length → X ⟨"TooLong", []⟩ S) : RE (m_check_word [.str cs, .str x] S) P X := by
  refine w_fn rfl rfl ?_
  unfold b_check_word'
  walk_at "wp"
  all_goals first | exact h2 (by assumption) | exact h3 (by assumption) (by omega) | exact h (by assumption) (by omega)
local macro_rules | `(tactic| walk_at "cl") => `(tactic| (with_reducible refine check_word_w ?_ (fun _ _ => ?_) (fun _ => ?_) (fun _ _ => ?_); try (next => walk_at "sd")))

theorem sum_weights_w {cs x : List Char} {ws : List Int} {S : Cells} {P : Ret → Cells → Prop} {X : Ex → Cells → Prop} (hw : wtsOk cs.length ws = true) (hx : onlyIn cs x = true) (g : x.length ≤ 400000) (h : P (.val (.int (wtW cs ws x))) S) : RE (m_sum_weights [.str cs, .lst (ws.map .int), .str x] S) P X := by
  refine w_fn rfl rfl ?_
  unfold b_sum_weights'
  walk_at "wp"
  refine TT.comp_map (fun _ => true) (fun c => .int (wtC cs ws c)) (by omega) (fun c hc => ⟨_, rfl, w_yes ⟨rfl, rfl⟩, fun _ => ?_⟩) ?_
  · have hm := only_mem hx c hc
    have hi := List.idxOf_lt_length_of_mem hm
    have hl := (wts_bnd hw).1
    walk_at "wp"
    refine w_index (by rw [find_idx hm]; omega) ?_
    rw [find_idx hm]
    refine w_ix_l (w_at_rd (x := .int (wtC cs ws c)) ?_ ⟨rfl, rfl⟩)
    rw [atI_nn (by rw [List.length_map]; omega), List.getElem_map]
    unfold wtC
    rw [List.getD_eq_getElem?_getD, List.getElem?_eq_getElem (by omega)]
    rfl
  · rw [all_true]
    walk_at "wp"
    refine w_sum (ns := x.map (wtC cs ws)) (by simp) ?_
    exact h
local macro_rules | `(tactic| walk_at "cl") => `(tactic| (with_reducible refine sum_weights_w (by assumption) (by assumption) ?_ ?_; try (next => walk_at "sd")))

theorem order_key_w {cs x : List Char} {ws : List Int} {S : Cells} {P : Ret → Cells → Prop} {X : Ex → Cells → Prop} (hw : wtsOk cs.length ws = true) (hx : onlyIn cs x = true) (g : x.length ≤ 400000) (h : P (.val (keyD cs ws x)) S) : RE (m_order_key [.str cs, .lst (ws.map .int), .str x] S) P X := by
  refine w_fn rfl rfl ?_
  unfold b_order_key'
  walk_at "wp"
  refine TT.comp_map (fun _ => true) (fun c => .int (ixC cs c)) (by omega) (fun c hc => ⟨_, rfl, w_yes ⟨rfl, rfl⟩, fun _ => ?_⟩) ?_
  · have hm := only_mem hx c hc
    walk_at "wp"
    refine w_index (by rw [find_idx hm]; omega) ?_
    rw [find_idx hm]
    exact ⟨rfl, rfl⟩
  · rw [all_true]
    walk_at "wp"
    have e : keyD cs ws x = .tup [.int (wtW cs ws x), .lst (x.map fun c => .int (ixC cs c))] := by simp [keyD, ixW]
    rw [e] at h
    exact h
local macro_rules | `(tactic| walk_at "cl") => `(tactic| (with_reducible refine order_key_w (by assumption) (by assumption) ?_ ?_; try (next => walk_at "sd")))

theorem word_weight_w {cs x : List Char} {ws : List Int} {S : Cells} {P : Ret → Cells → Prop} {X : Ex → Cells → Prop} (g : cs.length ≤ 400000) (g2 : ws.length ≤ 400000) (g3 : x.length ≤ 400000) (h : isAl cs = true → wtsOk cs.length ws = true → onlyIn cs x = true → x.length ≤ 32 → P (.val (.int (wtW cs ws x))) S)
    (h1 : isAl cs = false → X ⟨"BadLetters", [(Str.ofString "text", .str cs)]⟩ S) (h2 : isAl cs = true → wtsOk cs.length ws = false → X ⟨"BadWeights", []⟩ S) (h3 : isAl cs = true → wtsOk cs.length ws = true → onlyIn cs x = false → X ⟨"BadWord", [(Str.ofString "text", .str x)]⟩ S) (h4 : isAl cs = true → wtsOk cs.length ws = true → onlyIn cs x = true → 32 < x.length → X ⟨"TooLong", []⟩ S) : RE (m_word_weight [.str cs, .lst (ws.map .int), .str x] S) P X := by
  refine w_fn rfl rfl ?_
  unfold b_word_weight'
  walk_at "wp"
  all_goals first | exact h (by assumption) (by assumption) (by assumption) (by assumption) | exact h3 (by assumption) (by assumption) (by assumption) | exact h4 (by assumption) (by assumption) (by assumption) (by assumption) | exact h2 (by assumption) (by assumption) | exact h1 (by assumption)

theorem compare_words_w {cs x y : List Char} {ws : List Int} {S : Cells} {P : Ret → Cells → Prop} {X : Ex → Cells → Prop} (g : cs.length ≤ 400000) (g2 : ws.length ≤ 400000) (g3 : x.length ≤ 400000) (g4 : y.length ≤ 400000) (h : isAl cs = true → wtsOk cs.length ws = true → onlyIn cs x = true → x.length ≤ 32 → onlyIn cs y = true → y.length ≤ 32 → P (.val (.int (cmpW cs ws x y))) S)
    (h1 : isAl cs = false → X ⟨"BadLetters", [(Str.ofString "text", .str cs)]⟩ S) (h2 : isAl cs = true → wtsOk cs.length ws = false → X ⟨"BadWeights", []⟩ S) (h3 : isAl cs = true → wtsOk cs.length ws = true → onlyIn cs x = false → X ⟨"BadWord", [(Str.ofString "text", .str x)]⟩ S) (h4 : isAl cs = true → wtsOk cs.length ws = true → onlyIn cs x = true → 32 < x.length → X ⟨"TooLong", []⟩ S)
    (h5 : isAl cs = true → wtsOk cs.length ws = true → onlyIn cs x = true → x.length ≤ 32 → onlyIn cs y = false → X ⟨"BadWord", [(Str.ofString "text", .str y)]⟩ S) (h6 : isAl cs = true → wtsOk cs.length ws = true → onlyIn cs x = true → x.length ≤ 32 → onlyIn cs y = true → 32 < y.length → X ⟨"TooLong", []⟩ S) : RE (m_compare_words [.str cs, .lst (ws.map .int), .str x, .str y] S) P X := by
  refine w_fn rfl rfl ?_
  unfold b_compare_words'
  walk_at "wp"
  · rename_i e
    have := h (by assumption) (by assumption) (by assumption) (by assumption) (by assumption) (by assumption)
    rw [cmpW, if_pos e] at this
    exact this
  · rename_i e
    have := h (by assumption) (by assumption) (by assumption) (by assumption) (by assumption) (by assumption)
    rw [cmpW, if_neg e] at this
    refine w_ltN ⟨al_key, rfl, by rw [dep_key]; decide, by rw [dep_key]; decide⟩ ?_
    rw [ltD_key]
    walk_at "wp"
    · rename_i e2
      rw [if_pos e2] at this
      exact this
    · rename_i e2
      rw [if_neg e2] at this
      exact this
  all_goals first | exact h5 (by assumption) (by assumption) (by assumption) (by assumption) (by assumption) | exact h6 (by assumption) (by assumption) (by assumption) (by assumption) (by assumption) (by assumption) | exact h3 (by assumption) (by assumption) (by assumption) | exact h4 (by assumption) (by assumption) (by assumption) (by assumption) | exact h2 (by assumption) (by assumption) | exact h1 (by assumption)
theorem letters_w {a b : Int} {ds : List D} {P : Ret → Cells → Prop} {X : Ex → Cells → Prop} (hn : 0 ≤ a ∧ a ≤ b ∧ b ≤ 26) (ht : TapeD ds) (h : ∀ x ds', TapeD ds' → x.Nodup → (∀ c ∈ x, c ∈ "abcdefghijklmnopqrstuvwxyz".toList) → a ≤ (x.length : Int) → (x.length : Int) ≤ b → P (.val (.str x)) [ds']) : RE (m__law_letters [.cell 0, .int a, .int b] [ds]) P X := by
  refine w_fn rfl rfl ?_
  unfold b__law_letters'
  generalize eal : "abcdefghijklmnopqrstuvwxyz".toList = al at *
  have al1 : al.length = 26 := by subst eal; decide
  have al2 : al.Nodup := by subst eal; decide
  walk_at "wp"
  · rename_i s _ _ _ _ _ _ _ _ _ _
    obtain ⟨n, rfl⟩ : ∃ n : Nat, s = (n : Int) := ⟨s.toNat, by omega⟩
    rw [cut_pre]
    refine h _ _ (by assumption) (al2.sublist (List.take_sublist _ _)) (fun c hc => List.mem_of_mem_take hc) ?_ ?_
    · rw [List.length_take]; omega
    · rw [List.length_take]; omega
  · rename_i s _ _ _ _ _ _ _ _ _ _
    obtain ⟨n, rfl⟩ : ∃ n : Nat, s = (n : Int) := ⟨s.toNat, by omega⟩
    refine for_rg (fun k env S => ∃ (left out : List Char) (x6 x7 : Sl) (ds' : List D), env = [.val (.cell 0), .val (.int a), .val (.int b), .val (.int n), .val (.str left), .val (.str out), x6, x7] ∧ S = [ds'] ∧ TapeD ds' ∧ (out ++ left).Perm al ∧ out.length = k) ?_ ?_ ?_
    · exact ⟨al, [], _, _, _, rfl, rfl, by assumption, by simp, rfl⟩
    · rintro k env S hk ⟨left, out, x6, x7, ds', rfl, rfl, ht', hp, hl⟩
      have hll := hp.length_eq
      rw [List.length_append, hl, al1] at hll
      refine ⟨_, rfl, ?_⟩
      walk_at "wp"
      · rename_i s2 dz h8 h5 h6 y h7 h9
        have := cut_len left none (some s2)
        have := cut_len left (some (s2 + 1)) none
        omega
      · rename_i s2 dz h8 h5 h6 y h7 h9
        obtain ⟨m, rfl⟩ : ∃ m : Nat, s2 = (m : Int) := ⟨s2.toNat, by omega⟩
        rw [Int.toNat_natCast] at h9
        obtain ⟨hm, ey⟩ := List.getElem?_eq_some_iff.mp h9
        refine ⟨left.take m ++ left.drop (m + 1), out ++ [y], .val (.int (0 + (k : Int))), .val (.int (m : Int)), dz, ?_, rfl, h8, ?_, by simp [hl]⟩
        · have e : ((m : Int) + 1) = ((m + 1 : Nat) : Int) := by omega
          rw [cut_pre, e, cut_suf]
          rfl
        · have e1 : left = left.take m ++ y :: left.drop (m + 1) := by rw [← ey, List.getElem_cons_drop, List.take_append_drop]
          refine List.Perm.trans ?_ hp
          conv => rhs; rw [e1]
          rw [List.append_assoc]
          exact List.Perm.append_left _ (show (y :: (left.take m ++ left.drop (m + 1))).Perm _ from List.perm_middle.symm)
    · rintro env S ⟨left, out, x6, x7, ds', rfl, rfl, ht', hp, hl⟩
      walk_at "wp"
      have hnd := (hp.nodup_iff.mpr al2)
      rw [List.nodup_append] at hnd
      refine h _ _ ht' hnd.1 (fun c hc => hp.mem_iff.mp (List.mem_append_left _ hc)) ?_ ?_
      · rw [hl]; omega
      · rw [hl]; omega
theorem az_low : ∀ c ∈ "abcdefghijklmnopqrstuvwxyz".toList, lowC c = true := by decide
theorem low_az {c : Char} (h : lowC c = true) : c ∈ "abcdefghijklmnopqrstuvwxyz".toList := by
  unfold lowC at h
  simp only [Bool.and_eq_true, decide_eq_true_eq] at h
  have e : c = Char.ofNat c.toNat := (Char.ofNat_toNat c).symm
  have hk : ∀ k, 97 ≤ k → k ≤ 122 → Char.ofNat k ∈ "abcdefghijklmnopqrstuvwxyz".toList := by
    intro k h1 h2
    have : ∀ j : Fin 26, Char.ofNat (97 + j.val) ∈ "abcdefghijklmnopqrstuvwxyz".toList := by decide
    have := this ⟨k - 97, by omega⟩
    have e2 : 97 + (k - 97) = k := by omega
    rw [e2] at this
    exact this
  rw [e]
  exact hk _ h.1 h.2
theorem al_of {x : List Char} (h1 : x.Nodup) (h2 : ∀ c ∈ x, c ∈ "abcdefghijklmnopqrstuvwxyz".toList) (h3 : 1 ≤ (x.length : Int)) (h4 : (x.length : Int) ≤ 6) : isAl x = true := by
  unfold isAl
  simp only [Bool.and_eq_true, decide_eq_true_eq, List.all_eq_true]
  exact ⟨⟨⟨by omega, by omega⟩, h1⟩, fun c hc => az_low c (h2 c hc)⟩
local macro_rules | `(tactic| walk_at "cl") => `(tactic| with_reducible refine letters_w (by omega) (by assumption) (fun _ _ _ _ _ _ _ => ?_))
theorem az26 : "abcdefghijklmnopqrstuvwxyz".toList.Nodup ∧ "abcdefghijklmnopqrstuvwxyz".toList.length = 26 := by decide
theorem stranger_w {cs : List Char} {ds : List D} {P : Ret → Cells → Prop} {X : Ex → Cells → Prop} (hc : cs.length < 26) (ht : TapeD ds) (h : ∀ c ds', TapeD ds' → c ∈ "abcdefghijklmnopqrstuvwxyz".toList → c ∉ cs → P (.val (.str [c])) [ds']) : RE (m__law_stranger [.cell 0, .str cs] [ds]) P X := by
  refine w_fn rfl rfl ?_
  unfold b__law_stranger'
  have a1 := az26.2
  have a2 : ∃ c, c ∈ "abcdefghijklmnopqrstuvwxyz".toList ∧ c ∉ cs := by
    apply Classical.byContradiction
    intro hn
    have h3 : ∀ c ∈ "abcdefghijklmnopqrstuvwxyz".toList, c ∈ cs := fun c hc => Classical.byContradiction fun h4 => hn ⟨c, hc, h4⟩
    have := az26.1.length_le_of_subset h3
    omega
  generalize "abcdefghijklmnopqrstuvwxyz".toList = al at *
  walk_at "wp"
  refine TT.comp_map (fun c => !decide (c ∈ cs)) (fun c => .str [c]) (by omega) (fun c _ => ⟨_, rfl, ?_, fun _ => ?_⟩) ?_
  · walk_at "wp"
    exact ⟨rfl, rfl⟩
  · walk_at "wp"
    exact ⟨rfl, rfl⟩
  · walk_at "wp"
    · obtain ⟨c, h3, h4⟩ := a2
      have h5 : c ∈ al.filter fun c => !decide (c ∈ cs) := by simp [h3, h4]
      have := List.length_pos_of_mem h5
      have := List.length_filter_le (fun c => !decide (c ∈ cs)) al
      rw [List.length_map]
      omega
    · rename_i x ds' h1 h2
      obtain ⟨c, h3, rfl⟩ := List.mem_map.mp h2
      simp at h3
      walk_at "wp"
      exact h c ds' h1 h3.1 h3.2
local macro_rules | `(tactic| walk_at "cl") => `(tactic| (with_reducible refine stranger_w ?_ (by assumption) (fun _ _ _ _ _ => ?_); try (next => walk_at "sd")))

def Ints (p : Int → Prop) (es : List D) : Prop := ∃ ws : List Int, es = ws.map .int ∧ ∀ w ∈ ws, p w
theorem heavy_w {n : Nat} {ds : List D} {P : Ret → Cells → Prop} {X : Ex → Cells → Prop} (hn : n ≤ 100000) (ht : TapeD ds) (h : ∀ (ws : List Int) (ds' : List D), TapeD ds' → wtsOk n ws = true → P (.own (ws.map .int)) [ds']) : RE (m__law_heavy [.cell 0, .int (n : Int)] [ds]) P X := by
  have key : ∀ (ws : List Int) (ds' : List D), TapeD ds' → ws.length = n → (∀ w ∈ ws, 1 ≤ w ∧ w ≤ 99) → P (.own (ws.map .int)) [ds'] := fun ws ds' h1 h2 h3 => h ws ds' h1 (by
    unfold wtsOk
    simp only [Bool.and_eq_true, decide_eq_true_eq, List.all_eq_true]
    exact ⟨h2, h3⟩)
  refine w_fn rfl rfl ?_
  unfold b__law_heavy'
  walk_at "wp"
  all_goals
    refine comp_rg (fun k acc S => ∃ (ws : List Int) (ds' : List D), S = [ds'] ∧ TapeD ds' ∧ acc = ws.map .int ∧ ws.length = k ∧ ∀ w ∈ ws, 1 ≤ w ∧ w ≤ 99) ⟨[], _, rfl, by assumption, rfl, rfl, fun _ h => nomatch h⟩ ?_ ?_
    · rintro k acc S hk ⟨ws, ds', rfl, ht', rfl, hl, hw⟩
      refine ⟨_, rfl, ?_⟩
      have hk' : k < n := by omega
      walk_at "wp"
      refine ⟨ws ++ [_], _, rfl, by assumption, (List.map_append (l₁ := ws) (l₂ := [_])).symm, by simp [hl], fun w hw' => ?_⟩
      rcases List.mem_append.mp hw' with h5 | h5
      · exact hw w h5
      · simp at h5
        rw [h5]
        omega
    · rintro acc S ⟨ws, ds', rfl, ht', rfl, hl, hw⟩
      walk_at "wp"
      exact key ws ds' ht' (by omega) hw
local macro_rules | `(tactic| walk_at "cl") => `(tactic| (with_reducible refine heavy_w ?_ (by assumption) (fun _ _ _ _ => ?_); try (next => walk_at "sd")))

theorem pts_w {n : Nat} {env : Ev} {vs : List Nat} {v : Nat} {cs : List Char} {ds : List D} {P : List D → Cells → Prop} {X : Ex → Cells → Prop} (h0 : ∀ d, ((inEnv env vs).set v (.val d))[0]? = some (.val (.cell 0))) (h1 : ∀ d, ((inEnv env vs).set v (.val d))[1]? = some (.val (.str cs))) (hc : 0 < cs.length ∧ cs.length ≤ 16777216) (hn : n ≤ 100000) (ht : TapeD ds)
    (h : ∀ (x : List Char) ds', TapeD ds' → x.length = n → onlyIn cs x = true → P (x.map fun c => .str [c]) [ds']) : RE (compL vs (gtN v) mYes (dCall m__law_pick (aDef (aCons (dVar 0) (aCons (dVar 1) aNil)) [])) env (rgD 0 n) [] [ds]) P X := by
  refine comp_rg (fun k acc S => ∃ (x : List Char) (ds' : List D), S = [ds'] ∧ TapeD ds' ∧ acc = (x.map fun c => .str [c]) ∧ x.length = k ∧ onlyIn cs x = true) ⟨[], ds, rfl, ht, rfl, rfl, rfl⟩ ?_ ?_
  · rintro k acc S hk ⟨x, ds', rfl, h2, rfl, h3, h4⟩
    refine ⟨_, rfl, w_yes (br_t ?_)⟩
    refine w_call (w_def0 (w_cons (w_var (h0 _) (w_cons (w_var (h1 _) (w_nil ?_))))))
    refine pick_s (by assumption) hc (fun c ds2 h5 h6 => rf_v ⟨by rw [List.length_map]; omega, x ++ [c], ds2, rfl, h5, by simp, by simp [h3], only_add h4 (only_one h6)⟩)
  · rintro acc S ⟨x, ds', rfl, h2, rfl, h3, h4⟩
    exact h _ _ h2 h3 h4
theorem strsD_one : ∀ x : List Char, strsD (x.map fun c => D.str [c]) = some (x.map fun c => [c])
  | [] => rfl
  | c :: x => by
    show (strsD (x.map fun c => D.str [c])).map _ = _
    rw [strsD_one x]
    rfl
theorem join_one {x : List Char} {S : Cells} {Q : D → Cells → Prop} {X : Ex → Cells → Prop} (g : x.length ≤ 16777216) (h : Q (.str x) S) : RE (fJoin "".toList [.lst (x.map fun c => .str [c])] S) Q X := by
  have e1 : ((x.map fun c => [c]).map List.length).sum = x.length := by
    clear h g
    induction x with
    | nil => rfl
    | cons c x ih => simp at ih ⊢; omega
  have e2 : joinC [] (x.map fun c => [c]) = x := by
    rw [joinC_nil]
    clear h g e1
    induction x with
    | nil => rfl
    | cons c x ih => simp at ih ⊢; exact ih
  refine w_join (strsD_one x) (by rw [e1]; simp; omega) ?_
  show Q (.str (joinC [] _)) S
  rw [e2]
  exact h
local macro_rules | `(tactic| walk_at "cl") => `(tactic| (with_reducible refine pts_w (by with_unfolding_all exact fun _ => rfl) (by with_unfolding_all exact fun _ => rfl) ?_ ?_ (by assumption) (fun _ _ _ _ _ => ?_); try (next => walk_at "sd"); try (next => walk_at "sd")))
local macro_rules | `(tactic| walk_at "cl") => `(tactic| (with_reducible refine join_one ?_ ?_; try (next => walk_at "sd")))
section
local macro_rules | `(tactic| walk_at "op") => `(tactic| first
  | (with_reducible refine m_sl_pre ?_ (fun _ _ _ _ => ?_); next => walk_at "sd")
  | (with_reducible refine m_sl ?_ (fun _ _ _ => ?_); try (next => walk_at "sd"))
  | (with_reducible refine m_mul ?_ ?_ (fun _ _ _ _ => ?_); (next => simp); try (next => walk_at "sd")))
theorem word_w {cs : List Char} {a b : Int} {ds : List D} {P : Ret → Cells → Prop} {X : Ex → Cells → Prop} (hc : 0 < cs.length ∧ cs.length ≤ 1000) (hn : 0 ≤ a ∧ a ≤ b ∧ b ≤ 1000) (ht : TapeD ds) (h : ∀ x ds', TapeD ds' → onlyIn cs x = true → (x.length : Int) ≤ b → P (.val (.str x)) [ds']) : RE (m__law_word [.cell 0, .str cs, .int a, .int b] [ds]) P X := by
  refine w_fn rfl rfl ?_
  unfold b__law_word'
  walk_at "wp"
  · rename_i c _ _ hm y h1 h2 h3
    refine h _ _ (by assumption) (h3 cs (only_one hm)) ?_
    have := h2 (by simp)
    omega
  · rename_i c1 _ _ hm1 c2 _ _ hm2 y h1 h2 h3 z h4 h5 h6
    refine h _ _ (by assumption) (h6 cs (h3 cs (only_add (only_one hm1) (only_one hm2)))) ?_
    omega
  · rename_i y _ _ hl ho
    refine h _ _ (by assumption) ho ?_
    omega
end
local macro_rules | `(tactic| walk_at "cl") => `(tactic| (with_reducible refine word_w ?_ ?_ (by assumption) (fun _ _ _ _ _ => ?_); try (next => walk_at "sd"); try (next => walk_at "sd")))
theorem out_of_range_w {a b : Int} {ds : List D} {P : Ret → Cells → Prop} {X : Ex → Cells → Prop} (ht : TapeD ds) (h : ∀ k ds', TapeD ds' → P (.val (.int k)) [ds']) : RE (m__law_out_of_range [.cell 0, .int a, .int b] [ds]) P X := by
  refine w_fn rfl rfl ?_
  unfold b__law_out_of_range'
  walk_at "wp"
  rename_i hx
  simp only [List.mem_append, List.mem_cons, List.not_mem_nil, or_false] at hx
  rcases hx with (rfl | rfl | rfl | rfl) | rfl | rfl <;> exact h _ _ (by assumption)
local macro_rules | `(tactic| walk_at "cl") => `(tactic| with_reducible refine out_of_range_w (by assumption) (fun _ _ _ => ?_))
section
local macro_rules | `(tactic| walk_at "op") => `(tactic| first
  | (with_reducible refine m_sl_pre ?_ (fun _ _ _ _ => ?_); next => walk_at "sd")
  | (with_reducible refine m_sl ?_ (fun _ _ _ => ?_); try (next => walk_at "sd"))
  | (with_reducible refine m_mul ?_ ?_ (fun _ _ _ _ => ?_); (next => simp); try (next => walk_at "sd")))
theorem bad_letters_w {ds : List D} {P : Ret → Cells → Prop} {X : Ex → Cells → Prop} (ht : TapeD ds) (h : ∀ (x : List Char) ds', TapeD ds' → x.length ≤ 20 → P (.val (.str x)) [ds']) : RE (m__law_bad_letters [.cell 0] [ds]) P X := by
  refine w_fn rfl rfl ?_
  unfold b__law_bad_letters'
  walk_at "wp"
  all_goals first | (refine h _ _ (by assumption) ?_; (next => walk_at "sd")) | (refine h _ _ (by assumption) ?_; simp; done) | (simp; done)
end
local macro_rules | `(tactic| walk_at "cl") => `(tactic| with_reducible refine bad_letters_w (by assumption) (fun _ _ _ _ => ?_))
theorem bad_heavy_w {n : Nat} {ds : List D} {Q : D → Cells → Prop} {X : Ex → Cells → Prop} (hn : 1 ≤ n ∧ n ≤ 100000) (ht : TapeD ds) (h : ∀ (ws : List Int) ds', TapeD ds' → ws.length ≤ n + 1 → Q (.lst (ws.map .int)) [ds']) : RE (m__law_bad_heavy [.cell 0, .int (n : Int)] [ds]) (fun r S => rf r fun d => Q d S) X := by
  refine w_fn rfl rfl ?_
  unfold b__law_bad_heavy'
  walk_at "wp"
  · have hl := (wts_bnd (n := n) (by assumption)).1
    rw [cut_map]
    refine h _ _ (by assumption) (Nat.le_trans (cut_len _ _ _) ?_)
    omega
  · have hl := (wts_bnd (n := n) (by assumption)).1
    rw [List.length_map, List.length_singleton]; omega
  · have hl := (wts_bnd (n := n) (by assumption)).1
    rw [int_snoc]
    exact h _ _ (by assumption) (by rw [List.length_append, List.length_singleton]; omega)
  · exact h [] _ (by assumption) (by simp)
  · have hl := (wts_bnd (n := n) (by assumption)).1
    refine ⟨_, ixN_of (by assumption) (by rw [List.length_map]; omega), ?_⟩
    walk_at "wp"
    rw [← List.map_set]
    exact h _ _ (by assumption) (by rw [List.length_set]; omega)
section
local macro_rules | `(tactic| walk_at "op") => `(tactic| first
  | (with_reducible refine m_sl_pre ?_ (fun _ _ _ _ => ?_); next => walk_at "sd")
  | (with_reducible refine m_sl ?_ (fun _ _ _ => ?_); try (next => walk_at "sd"))
  | (with_reducible refine m_mul ?_ ?_ (fun _ _ _ _ => ?_); (next => simp); try (next => walk_at "sd")))
theorem bad_word_w {cs : List Char} {ds : List D} {P : Ret → Cells → Prop} {X : Ex → Cells → Prop} (hc : 0 < cs.length ∧ cs.length < 26) (ht : TapeD ds) (h : ∀ (x : List Char) (e : D) (ds' : List D), TapeD ds' → x.length ≤ 100 → P (.val (.tup [.str x, e])) [ds']) : RE (m__law_bad_word [.cell 0, .str cs] [ds]) P X := by
  refine w_fn rfl rfl ?_
  unfold b__law_bad_word'
  walk_at "wp"
  all_goals first | (refine h _ _ _ (by assumption) ?_; (next => walk_at "sd")) | (simp; done) | skip
  all_goals
    rename_i hm
    simp only [List.mem_cons, List.not_mem_nil, or_false] at hm
    rcases hm with rfl | rfl <;> walk_at "wp" <;> (refine h _ _ _ (by assumption) ?_; (next => walk_at "sd"))
end
section
local macro_rules | `(tactic| walk_at "op") => `(tactic| first
  | (with_reducible refine n_sl_pre ?_ (fun _ _ _ _ _ => ?_); next => walk_at "sd")
  | (with_reducible refine n_sl ?_ (fun _ _ _ _ => ?_); try (next => walk_at "sd"))
  | (with_reducible refine m_mul ?_ ?_ (fun _ _ _ _ => ?_); (next => simp); try (next => walk_at "sd")))
theorem near_w {cs w : List Char} {ds : List D} {P : Ret → Cells → Prop} {X : Ex → Cells → Prop} (hc : 0 < cs.length ∧ cs.length ≤ 1000) (hw : wOk cs w = true) (ht : TapeD ds) (h : ∀ (x : List Char) ds', TapeD ds' → wOk cs x = true → P (.val (.str x)) [ds']) : RE (m__law_near [.cell 0, .str cs, .str w] [ds]) P X := by
  obtain ⟨h1, h2⟩ := w_ok_iff.mp hw
  refine w_fn rfl rfl ?_
  unfold b__law_near'
  walk_at "wp"
  · exact h _ _ (by assumption) hw
  · rename_i f
    exact h _ _ (by assumption) (w_ok_iff.mpr ⟨f cs h1, by omega⟩)
  · rename_i k _ _ _ _ _ _ _ y e1 _ f1 z e2 _ _ f2
    refine h _ _ (by assumption) (w_ok_iff.mpr ⟨only_add (f1 cs h1) (f2 cs h1), ?_⟩)
    have e3 := cut_rot w (k := k) (by assumption)
    rw [List.length_append, e1, e2]
    omega
  · exact h _ _ (by assumption) (w_ok_iff.mpr ⟨only_rev h1, by rw [List.length_reverse]; omega⟩)
  · rename_i f1 c _ _ hm y e2 _ f2 z e3 _ _ f3
    refine h _ _ (by assumption) (w_ok_iff.mpr ⟨f3 cs (only_add (only_add (f1 cs h1) (only_one hm)) (f2 cs h1)), by omega⟩)
  · exact h _ _ (by assumption) (w_ok_iff.mpr ⟨by assumption, by omega⟩)
end
local macro_rules | `(tactic| walk_at "cl") => `(tactic| (with_reducible refine near_w ?_ ?_ (by assumption) (fun _ _ _ _ => ?_); try (next => walk_at "sd"); try (next => walk_at "sd")))
theorem mem6 {d : D} (hm : d ∈ [D.int 6, D.int 6, D.int 32]) : ∃ b : Int, (b = 6 ∨ b = 32) ∧ d = .int b := by
  simp only [List.mem_cons, List.not_mem_nil, or_false] at hm
  rcases hm with e | e | e
  · exact ⟨6, .inl rfl, e⟩
  · exact ⟨6, .inl rfl, e⟩
  · exact ⟨32, .inr rfl, e⟩
theorem words_w {cs : List Char} {ds : List D} {P : Ret → Cells → Prop} {X : Ex → Cells → Prop} (hc : 0 < cs.length ∧ cs.length ≤ 1000) (ht : TapeD ds) (h : ∀ (xs : List (List Char)) ds', TapeD ds' → 2 ≤ xs.length → xs.length ≤ 100 → (∀ x ∈ xs, wOk cs x = true) → P (.own (xs.map .str)) [ds']) : RE (m__law_words [.cell 0, .str cs] [ds]) P X := by
  refine w_fn rfl rfl ?_
  unfold b__law_words'
  walk_at "wp"
  all_goals
    rename_i hm
    obtain ⟨b, hb, rfl⟩ := mem6 hm
    clear hm
    walk_at "wp"
    refine for_rg (fun k env S => ∃ (xs : List (List Char)) (sz : Int) (x4 x5 : Sl) (ds' : List D), env = [.val (.cell 0), .val (.str cs), .val (.int sz), .own (xs.map .str), x4, x5] ∧ S = [ds'] ∧ TapeD ds' ∧ xs.length = k + 1 ∧ ∀ x ∈ xs, wOk cs x = true) ?_ ?_ ?_
    · refine ⟨[_], _, _, _, _, rfl, rfl, by assumption, rfl, fun x hx => ?_⟩
      simp at hx
      rw [hx]
      exact w_ok_iff.mpr ⟨by assumption, by omega⟩
    · rintro k env S hk ⟨xs, sz, x4, x5, ds', rfl, rfl, ht', hl, hw⟩
      refine ⟨_, rfl, ?_⟩
      have hk' : k < 1000 := by omega
      walk_at "wp"
      refine ⟨_, rfl, ⟨?_, tames_strs xs⟩, ?_⟩
      · simp [tape_tame ht']
      refine pick_c ht' (by rw [List.length_map]; omega) (fun x ds2 h5 h6 => ?_)
      obtain ⟨w, hw2, rfl⟩ := List.mem_map.mp h6
      have hww := hw w hw2
      refine ⟨_, [ds2], rfl, rfl, rfl, rfl, ?_, ?_⟩
      · simp [tape_tame h5]
      walk_at "wp"
      rename_i y ds3 h7 h8
      refine ⟨xs ++ [y], sz, .val (.int (0 + (k : Int))), .val (.str w), ds3, ?_, rfl, h7, by simp [hl], fun x hx => ?_⟩
      · rw [← str_snoc]; rfl
      · rcases List.mem_append.mp hx with h9 | h9
        · exact hw x h9
        · simp at h9
          rw [h9]; exact h8
    · rintro env S ⟨xs, sz, x4, x5, ds', rfl, rfl, ht', hl, hw⟩
      walk_at "wp"
      exact h xs ds' ht' (by omega) (by omega) hw
theorem law_al_w {cs : List Char} {S : Cells} {P : Ret → Cells → Prop} {X : Ex → Cells → Prop} (g : cs.length ≤ 16777216) (h : P (.val (.bl (isAl cs))) S) : RE (m__law_is_alphabet [.str cs] S) P X := by
  refine w_fn rfl rfl ?_
  unfold b__law_is_alphabet'
  walk_at "wp"
  · have e : isAl cs = false := by
      have h7 : ¬ 1 ≤ cs.length := by omega
      simp [isAl, h7]
    rw [e] at h; exact h
  · have e : isAl cs = false := by
      have h7 : ¬ cs.length ≤ 6 := by omega
      simp [isAl, h7]
    rw [e] at h; exact h
  · refine for_rg (fun k env S' => S' = S ∧ ∃ x1, env = [.val (.str cs), x1] ∧ (cs.take k).Nodup ∧ ∀ c ∈ cs.take k, lowC c = true) ⟨rfl, _, rfl, by simp, by simp⟩ ?_ ?_
    · rintro k env _ hk ⟨rfl, x1, rfl, h1, h2⟩
      refine ⟨_, rfl, ?_⟩
      have hk' : k < cs.length := by omega
      have et : cs.take (k + 1) = cs.take k ++ [cs[k]] := by rw [List.take_succ_eq_append_getElem hk']
      walk_at "wp"
      · rename_i h3 h4
        rw [cut_pre0] at h4
        have e : isAl cs = false := by
          have h5 : ¬ cs.Nodup := fun h6 => by
            have h7 := h6.sublist (List.take_sublist (k + 1) cs)
            rw [et, List.nodup_append] at h7
            exact h7.2.2 _ h4 _ (by simp) rfl
          simp [isAl, h5]
        rw [e] at h; exact h
      · rename_i h3 h4
        rw [cut_pre0] at h4
        refine ⟨rfl, _, rfl, ?_, ?_⟩
        · rw [et, List.nodup_append]
          refine ⟨h1, by simp, fun a ha b hb e => ?_⟩
          simp at hb
          rw [e, hb] at ha
          exact h4 ha
        · rw [et]
          intro c hc
          rcases List.mem_append.mp hc with hc | hc
          · exact h2 c hc
          · simp at hc
            rw [hc]
            exact az_low _ h3
      · rename_i h3
        have e : isAl cs = false := by
          have h5 : ¬ ∀ c ∈ cs, lowC c = true := fun h6 => h3 (low_az (h6 _ (List.getElem_mem hk')))
          cases q : isAl cs with
          | false => rfl
          | true => exact absurd (al_bnd q).2.2.2 h5
        rw [e] at h; exact h
    · rintro env _ ⟨rfl, x1, rfl, h1, h2⟩
      walk_at "wp"
      have e0 : ((cs.length : Int)).toNat = cs.length := by omega
      rw [e0, List.take_length] at h1 h2
      have e : isAl cs = true := by
        unfold isAl
        simp only [Bool.and_eq_true, decide_eq_true_eq, List.all_eq_true]
        exact ⟨⟨⟨by omega, by omega⟩, h1⟩, h2⟩
      rw [e] at h; exact h
local macro_rules | `(tactic| walk_at "cl") => `(tactic| (with_reducible refine law_al_w ?_ ?_; try (next => walk_at "sd")))

theorem word_fault_w {cs x : List Char} {n : Int} {S : Cells} {P : Ret → Cells → Prop} {X : Ex → Cells → Prop} (g : x.length ≤ 400000) (h1 : onlyIn cs x = false → P (.val (.tup [.str "BadWord".toList, .str x])) S) (h2 : onlyIn cs x = true → n < x.length → P (.val (.tup [.str "TooLong".toList])) S) (h3 : onlyIn cs x = true → x.length ≤ n → P (.val (.tup [])) S) : RE (m__law_word_fault [.str cs, .str x, .int n] S) P X := by
  refine w_fn rfl rfl ?_
  unfold b__law_word_fault'
  walk_at "wp"
  refine for_map (fun a env S' => S' = S ∧ ∃ x1, env = [.val (.str cs), .val (.str x), .val (.int n), x1] ∧ onlyIn cs a = true) ⟨rfl, _, rfl, rfl⟩ ?_ ?_
  · rintro a c b env _ e ⟨rfl, x1, rfl, ha⟩
    refine ⟨_, rfl, ?_⟩
    walk_at "wp"
    · exact ⟨rfl, _, rfl, only_add ha (only_one (by assumption))⟩
    · rename_i hc
      refine h1 ?_
      cases q : onlyIn cs x with
      | false => rfl
      | true => exact absurd (only_mem q c (by rw [e]; simp)) hc
  · rintro env _ ⟨rfl, x1, rfl, ha⟩
    walk_at "wp"
    all_goals first | exact h2 ha (by omega) | exact h3 ha (by omega)
local macro_rules | `(tactic| walk_at "cl") => `(tactic| (with_reducible refine word_fault_w ?_ (fun _ => ?_) (fun _ _ => ?_) (fun _ _ => ?_); try (next => walk_at "sd")))

theorem weigh_w {cs x : List Char} {ws : List Int} {S : Cells} {P : Ret → Cells → Prop} {X : Ex → Cells → Prop} (hw : wtsOk cs.length ws = true) (hx : onlyIn cs x = true) (g : x.length ≤ 400000) (h : P (.val (.int (wtW cs ws x))) S) : RE (m__law_weigh [.str cs, .lst (ws.map .int), .str x] S) P X := by
  refine w_fn rfl rfl ?_
  unfold b__law_weigh'
  walk_at "wp"
  refine TT.comp_map (fun _ => true) (fun c => .int (wtC cs ws c)) (by omega) (fun c hc => ⟨_, rfl, w_yes ⟨rfl, rfl⟩, fun _ => ?_⟩) ?_
  · have hm := only_mem hx c hc
    have hi := List.idxOf_lt_length_of_mem hm
    have hl := (wts_bnd hw).1
    refine w_bin (w_var rfl (w_meS (w_var rfl (isS_s (w_cons (w_var rfl (w_nil (w_find_c (fun _ => ?_) (fun h => absurd hm h)))))))))
    refine w_ix_l (w_at_rd (x := .int (wtC cs ws c)) ?_ ⟨rfl, rfl⟩)
    unfold ixC
    rw [atI_nn (by rw [List.length_map]; omega), List.getElem_map]
    unfold wtC
    rw [List.getD_eq_getElem?_getD, List.getElem?_eq_getElem (by omega)]
    rfl
  · rw [all_true]
    walk_at "wp"
    refine w_sum (ns := x.map (wtC cs ws)) (by simp) ?_
    exact h
local macro_rules | `(tactic| walk_at "cl") => `(tactic| (with_reducible refine weigh_w (by assumption) (by assumption) ?_ ?_; try (next => walk_at "sd")))

theorem order_w {cs x y : List Char} {ws : List Int} {S : Cells} {P : Ret → Cells → Prop} {X : Ex → Cells → Prop} (hw : wtsOk cs.length ws = true) (hx : onlyIn cs x = true) (hy : onlyIn cs y = true) (g : x.length ≤ 400000) (g2 : y.length ≤ 400000) (h : P (.val (.int (cmpW cs ws x y))) S) : RE (m__law_order [.str cs, .lst (ws.map .int), .str x, .str y] S) P X := by
  refine w_fn rfl rfl ?_
  unfold b__law_order'
  walk_at "wp"
  · rename_i e
    rw [cmpW, if_pos e] at h
    exact h
  · rename_i hne e0
    have e : wtW cs ws x = wtW cs ws y := by omega
    rw [cmpW, if_neg hne] at h
    refine for_rg (fun k env S' => S' = S ∧ ∃ x1, env = [.val (.str cs), .val (.lst (ws.map .int)), .val (.str x), .val (.str y), .val (.int (wtW cs ws x - wtW cs ws y)), x1] ∧ x.take k = y.take k) ⟨rfl, _, rfl, rfl⟩ ?_ ?_
    · rintro k env _ hk ⟨rfl, x1, rfl, h1⟩
      refine ⟨_, rfl, ?_⟩
      have hk1 : k < x.length := by omega
      have hk2 : k < y.length := pre_lt hw hx hy e hk1 h1
      have hm1 := only_mem hx _ (List.getElem_mem hk1)
      have hm2 := only_mem hy _ (List.getElem_mem hk2)
      walk_at "wp"
      · rename_i e1
        refine ⟨rfl, _, rfl, ?_⟩
        rw [List.take_succ_eq_append_getElem hk1, List.take_succ_eq_append_getElem hk2, h1]
        rw [e1]
      all_goals
        rename_i h2 _ _ h3
        have hd : x[k] ≠ y[k] := fun z => h2 (by rw [z])
        have hi := (wlt_of_eq (ws := ws) e).trans (ix_diff hk1 hk2 h1 hx hy hd)
        first
          | (rw [if_pos (hi.mpr (by omega))] at h; exact h)
          | (rw [if_neg (fun z => absurd (hi.mp z) (by omega))] at h; exact h)
    · rintro env _ ⟨rfl, x1, rfl, h1⟩
      have e1 : ((x.length : Int)).toNat = x.length := by omega
      rw [e1, List.take_length] at h1
      exact absurd (pre_eq hw hx hy e h1) hne
  all_goals
    rename_i h1 h2 h3
    rw [cmpW, if_neg h1] at h
    have hi := wlt_of_ne (cs := cs) (ws := ws) (x := x) (y := y) (by omega)
    first
      | (rw [if_pos (hi.mpr (by omega))] at h; exact h)
      | (rw [if_neg (fun z => absurd (hi.mp z) (by omega))] at h; exact h)

theorem cmp_neg {cs x y : List Char} {ws : List Int} : cmpW cs ws x y < 0 ↔ wlt cs ws x y := by
  unfold cmpW
  split
  · rename_i e
    subst e
    exact ⟨fun h => by omega, fun h => absurd h wlt_irr⟩
  · split
    · rename_i h
      exact ⟨fun _ => h, fun _ => by decide⟩
    · rename_i h
      exact ⟨fun h => by omega, fun z => absurd z h⟩
theorem sorted_w {cs : List Char} {ws : List Int} {xs : List (List Char)} {S : Cells} {P : Ret → Cells → Prop} {X : Ex → Cells → Prop} (hw : wtsOk cs.length ws = true) (hx : ∀ x ∈ xs, wOk cs x = true) (g : xs.length ≤ 90000) (h : P (.val (.lst ((sortW cs ws xs).map .str))) S) : RE (m__law_sorted [.str cs, .lst (ws.map .int), .lst (xs.map .str)] S) P X := by
  refine w_fn rfl rfl ?_
  unfold b__law_sorted'
  walk_at "wp"
  refine for_map (fun a env S' => S' = S ∧ ∃ x4 x5, env = [.val (.str cs), .val (.lst (ws.map .int)), .val (.lst (xs.map .str)), .val (.lst ((sortW cs ws a).map .str)), x4, x5]) ⟨rfl, .no, .no, by rw [show sortW cs ws [] = [] by simp [sortW]]; rfl⟩ ?_ ?_
  · rintro a w b env S2 e ⟨rfl, x4, x5, rfl⟩
    refine ⟨_, rfl, ?_⟩
    have hwo := (w_ok_iff.mp (hx w (by rw [e]; simp)))
    have ha : ∀ x ∈ a, onlyIn cs x = true ∧ x.length ≤ 32 := fun x h => w_ok_iff.mp (hx x (by rw [e]; simp [h]))
    have hal : a.length < 90000 := by
      have := congrArg List.length e
      rw [List.length_append, List.length_cons] at this
      omega
    have hsl := sort_len (cs := cs) (ws := ws) (xs := a)
    have hsm : ∀ x ∈ sortW cs ws a, onlyIn cs x = true ∧ x.length ≤ 32 := fun x h => ha x (sort_mem.mp h)
    walk_at "wp"
    refine s_while (fun n env S' => S' = S2 ∧ n ≤ a.length ∧ env = [.val (.str cs), .val (.lst (ws.map .int)), .val (.lst (xs.map .str)), .val (.lst ((sortW cs ws a).map .str)), .val (.str w), .val (.int (n : Int))] ∧ ∀ y ∈ (sortW cs ws a).drop n, wlt cs ws w y) ⟨a.length, by omega, rfl, Nat.le_refl _, ?_, ?_⟩ ?_
    · rw [List.length_map, hsl]; rfl
    · rw [List.drop_of_length_le (by omega)]
      exact fun _ h => nomatch h
    rintro n env _ ⟨rfl, hn, rfl, hd⟩
    have fin : (n = 0 ∨ ∃ y, (sortW cs ws a)[n - 1]? = some y ∧ ¬ wlt cs ws w y) → (sortW cs ws a).take n ++ [w] ++ (sortW cs ws a).drop n = sortW cs ws (a ++ [w]) := fun hq => sort_ins hwo.1 (fun x h => (ha x h).1) hd hq
    walk_at "wp"
    · rename_i hn0 y hy e2
      have hy' := hsm y hy
      refine order_w hw hwo.1 hy'.1 (by omega) (by omega) ?_
      have e3 : ((n : Int) - 1).toNat = n - 1 := by omega
      rw [e3] at e2
      walk_at "wp"
      · rename_i hc
        refine ⟨n - 1, by omega, rfl, by omega, ?_, ?_⟩
        · have e4 : ((n - 1 : Nat) : Int) = (n : Int) - 1 := by omega
          rw [e4]
          rfl
        · intro z hz
          have hlt : n - 1 < (sortW cs ws a).length := by omega
          rw [← List.getElem_cons_drop hlt] at hz
          rcases List.mem_cons.mp hz with hz | hz
          · have e5 := (List.getElem?_eq_some_iff.mp e2).2
            rw [hz, e5]
            exact cmp_neg.mp hc
          · have e6 : n - 1 + 1 = n := by omega
            rw [e6] at hz
            exact hd z hz
      · rename_i hc
        simp only [cut_map, cut_pre, cut_suf, List.length_append, List.length_map, List.length_take, List.length_drop, List.length_cons, List.length_nil]
        omega
      · simp only [cut_map, cut_pre, cut_suf, List.length_append, List.length_map, List.length_take, List.length_drop, List.length_cons, List.length_nil]
        omega
      · rename_i hc
        have e7 := fin (.inr ⟨y, e2, fun z => hc (cmp_neg.mpr z)⟩)
        refine ⟨rfl, .val (.str w), .val (.int (n : Int)), ?_⟩
        rw [cut_map, cut_map, cut_pre, cut_suf, ← e7, List.map_append, List.map_append]
        rfl
    · simp only [cut_map, cut_pre, cut_suf, List.length_append, List.length_map, List.length_take, List.length_drop, List.length_cons, List.length_nil]
      omega
    · simp only [cut_map, cut_pre, cut_suf, List.length_append, List.length_map, List.length_take, List.length_drop, List.length_cons, List.length_nil]
      omega
    · rename_i hc
      have e7 := fin (.inl (by omega))
      refine ⟨rfl, .val (.str w), .val (.int (n : Int)), ?_⟩
      rw [cut_map, cut_map, cut_pre, cut_suf, ← e7, List.map_append, List.map_append]
      rfl
  · rintro env _ ⟨rfl, x4, x5, rfl⟩
    walk_at "wp"
    exact h
local macro_rules | `(tactic| walk_at "cl") => `(tactic| (with_reducible refine sorted_w (by assumption) ?_ ?_ ?_; try (next => assumption); try (next => walk_at "sd")))

theorem sort_words_w {cs : List Char} {ws : List Int} {xs : List (List Char)} {S : Cells} {P : Ret → Cells → Prop} {X : Ex → Cells → Prop} (g : cs.length ≤ 400000) (g2 : ws.length ≤ 400000) (g3 : xs.length ≤ 90000) (g4 : ∀ x ∈ xs, x.length ≤ 400000) (h : isAl cs = true → wtsOk cs.length ws = true → (∀ x ∈ xs, faultW cs x = none) → P (.own ((sortW cs ws xs).map .str)) S)
    (h1 : isAl cs = false → X ⟨"BadLetters", [(Str.ofString "text", .str cs)]⟩ S) (h2 : isAl cs = true → wtsOk cs.length ws = false → X ⟨"BadWeights", []⟩ S) (h3 : isAl cs = true → wtsOk cs.length ws = true → ∀ a x b, xs = a ++ x :: b → (∀ z ∈ a, faultW cs z = none) → onlyIn cs x = false → X ⟨"BadWord", [(Str.ofString "text", .str x)]⟩ S)
    (h4 : isAl cs = true → wtsOk cs.length ws = true → ∀ a x b, xs = a ++ x :: b → (∀ z ∈ a, faultW cs z = none) → onlyIn cs x = true → 32 < x.length → X ⟨"TooLong", []⟩ S) : RE (m_sort_words [.str cs, .lst (ws.map .int), .lst (xs.map .str)] S) P X := by
  refine w_fn rfl rfl ?_
  unfold b_sort_words'
  walk_at "wp"
  · rename_i hl hw
    refine for_map (fun a env S' => S' = S ∧ ∃ x3, env = [.val (.str cs), .val (.lst (ws.map .int)), .val (.lst (xs.map .str)), x3, .no, .no] ∧ ∀ z ∈ a, faultW cs z = none) ⟨rfl, _, rfl, fun _ h => nomatch h⟩ ?_ ?_
    · rintro a x b env S2 e ⟨rfl, x3, rfl, ha⟩
      refine ⟨_, rfl, ?_⟩
      have hxl := g4 x (by rw [e]; simp)
      walk_at "wp"
      · refine ⟨rfl, _, rfl, fun z hz => ?_⟩
        rcases List.mem_append.mp hz with hz | hz
        · exact ha z hz
        · simp at hz
          rw [hz]
          exact fault_none (by assumption) (by assumption)
      · exact h3 hl hw a x b e ha (by assumption)
      · exact h4 hl hw a x b e ha (by assumption) (by assumption)
    · rintro env S2 ⟨rfl, x3, rfl, ha⟩
      have hx : ∀ x ∈ xs, onlyIn cs x = true ∧ x.length ≤ 32 := fun x hx => fault_none_iff.mp (ha x hx)
      walk_at "wp"
      refine TT.comp_map (fun _ => true) (fun x => rowD cs ws x) (by omega) (fun x hm => ⟨_, rfl, w_yes ⟨rfl, rfl⟩, fun _ => ?_⟩) ?_
      · have hxo := (hx x hm).1
        have hxl := (hx x hm).2
        walk_at "wp"
        exact ⟨rfl, rfl⟩
      · rw [all_true]
        walk_at "wp"
        refine w_sorted ⟨sortOk_rows, by rw [List.length_map]; omega⟩ ?_
        rw [sort_rows fun x h => (hx x h).1]
        walk_at "wp"
        refine TT.comp_map (fun _ => true) (fun x => .str x) (by rw [sort_len]; omega) (fun x hm => ⟨_, rfl, w_yes ⟨rfl, rfl⟩, fun _ => ?_⟩) ?_
        · walk_at "wp"
          exact ⟨rfl, rfl⟩
        · rw [all_true]
          exact h hl hw ha
  · exact h2 (by assumption) (by assumption)
  · exact h1 (by assumption)
def valW (k : Int) (cs : List Char) (ws : List Int) (x y : List Char) (r : List (List Char)) : D := if k = 0 then .int (cmpW cs ws x y) else if k = 1 then .int (wtW cs ws x) else .lst ((sortW cs ws (x :: y :: r)).map .str)
def askW (k : Int) (x y : List Char) (r : List (List Char)) : List (List Char) := if k = 0 then [x, y] else if k = 1 then [x] else x :: y :: r
def dueW (k : Int) (cs : List Char) (ws : List Int) (x y : List Char) (r : List (List Char)) : D := tellW cs ws (askW k x y r) (valW k cs ws x y r)
theorem asked_w {k : Int} {cs x y : List Char} {ws : List Int} {r as : List (List Char)} {S : Cells} {N B C : Ev → Cells → Prop} {T : Ret → Cells → Prop} {Z : Ex → Ev → Cells → Prop} {v : D} {sl5 sl6 : Sl} (hl : isAl cs = true) (hw : wtsOk cs.length ws = true) (g : ∀ z ∈ as, z.length ≤ 400000) (h : ∀ sl5 sl6, (∀ z ∈ as, faultW cs z = none) → N [.val (.int k), .val (.str cs), .val (.lst (ws.map .int)), .val (.lst ((x :: y :: r).map .str)), .val (.lst (as.map .str)), sl5, sl6, .no] S) (h2 : T (.val (tellW cs ws as v)) S) :
    RS (forL (gtN 5) (sSeq (sSet 6 (dCallP m__law_word_fault (aDef (aCons (dVar 1) (aCons (dVar 5) (aCons (dC (.int 32)) aNil))) []))) (sIf (tB (dBin opGt (dArgs fLen (aCons (dVar 6) aNil)) (dC (.int 0)))) (sRet (dVar 6)) sNil)) (as.map D.str) [.val (.int k), .val (.str cs), .val (.lst (ws.map .int)), .val (.lst ((x :: y :: r).map .str)), .val (.lst (as.map .str)), sl5, sl6, .no] S) ⟨N, B, C, T, Z⟩ := by
  refine for_map (fun a env S' => S' = S ∧ ∃ x5 x6, env = [.val (.int k), .val (.str cs), .val (.lst (ws.map .int)), .val (.lst ((x :: y :: r).map .str)), .val (.lst (as.map .str)), x5, x6, .no] ∧ ∀ z ∈ a, faultW cs z = none) ⟨rfl, _, _, rfl, fun _ h => nomatch h⟩ ?_ ?_
  · rintro a z b env S2 e ⟨rfl, x5, x6, rfl, ha⟩
    refine ⟨_, rfl, ?_⟩
    have hzl := g z (by rw [e]; simp)
    walk_at "wp"
    · rw [tell_bad hl hw e ha (by assumption)] at h2
      exact h2
    · rw [tell_long hl hw e ha (by assumption) (by omega)] at h2
      exact h2
    · refine ⟨rfl, _, _, rfl, fun q hq => ?_⟩
      rcases List.mem_append.mp hq with hq | hq
      · exact ha q hq
      · simp at hq
        rw [hq]
        exact fault_none (by assumption) (by omega)
  · rintro env S2 ⟨rfl, x5, x6, rfl, ha⟩
    exact h _ _ ha
theorem due_w {k : Int} {cs x y : List Char} {ws : List Int} {r : List (List Char)} {S : Cells} {P : Ret → Cells → Prop} {X : Ex → Cells → Prop} (hk : k = 0 ∨ k = 1 ∨ k = 2) (g : cs.length ≤ 400000) (g2 : ws.length ≤ 400000) (g3 : ∀ z ∈ x :: y :: r, z.length ≤ 400000) (g4 : r.length ≤ 80000) (h : P (.val (dueW k cs ws x y r)) S) : RE (m__law_due [.int k, .str cs, .lst (ws.map .int), .lst ((x :: y :: r).map .str)] S) P X := by
  have gx := g3 x (by simp)
  have gy := g3 y (by simp)
  refine w_fn rfl rfl ?_
  unfold b__law_due'
  unfold dueW at h
  walk_at "wp"
  · rename_i hl e1
    rw [List.length_map] at e1
    have e2 : ws.length = cs.length := by omega
    have hb := wtBad_iff e2
    refine TT.comp_map wtBad (fun w => .int w) (by omega) (fun w _ => ⟨_, rfl, ?_, fun _ => ?_⟩) ?_
    · walk_at "wp"
      · rename_i h3
        exact ⟨by simp [wtBad, h3], rfl⟩
      · rename_i h3
        exact ⟨by simp [wtBad, h3], rfl⟩
    · walk_at "wp"
      exact ⟨rfl, rfl⟩
    · walk_at "wp"
      · rename_i h3
        rw [List.length_map] at h3
        have hw : wtsOk cs.length ws = false := by
          cases q : wtsOk cs.length ws with
          | false => rfl
          | true => exact absurd (by omega) (hb.mp q)
        rw [tell_wt hl hw] at h
        exact h
      all_goals
        rename_i h3 h4
        rw [List.length_map] at h3
        have hw := hb.mpr (by omega)
      · rcases hk with rfl | rfl | rfl
        · rw [TT.cut_two]
          refine asked_w hl hw (v := .int (cmpW cs ws x y)) ?_ (fun sl5 sl6 hf => ?_) h
          · intro z hz
            simp at hz
            rcases hz with rfl | rfl <;> assumption
          · have hx := fault_none_iff.mp (hf x (by simp))
            have hy := fault_none_iff.mp (hf y (by simp))
            walk_at "wp"
            refine order_w hw hx.1 hy.1 gx gy ?_
            walk_at "wp"
            replace h : P (.val (tellW cs ws [x, y] (.int (cmpW cs ws x y)))) S := h
            rw [tell_ok hl hw hf] at h
            exact h
        · rw [TT.cut_one]
          refine asked_w hl hw (v := .int (wtW cs ws x)) ?_ (fun sl5 sl6 hf => ?_) h
          · intro z hz
            simp at hz
            rw [hz]; assumption
          · have hx := fault_none_iff.mp (hf x (by simp))
            walk_at "wp"
            refine weigh_w hw hx.1 gx ?_
            walk_at "wp"
            replace h : P (.val (tellW cs ws [x] (.int (wtW cs ws x)))) S := h
            rw [tell_ok hl hw hf] at h
            exact h
        · omega
      · rcases hk with rfl | rfl | rfl
        · omega
        · omega
        · refine asked_w hl hw (v := .lst ((sortW cs ws (x :: y :: r)).map .str)) g3 (fun sl5 sl6 hf => ?_) h
          walk_at "wp"
          · exact fun z hz => w_ok_iff.mpr (fault_none_iff.mp (hf z hz))
          · rw [List.length_cons, List.length_cons]; omega
          replace h : P (.val (tellW cs ws (x :: y :: r) (.lst ((sortW cs ws (x :: y :: r)).map .str)))) S := h
          rw [tell_ok hl hw hf] at h
          exact h
  · rename_i hl e1
    rw [List.length_map] at e1
    have hw : wtsOk cs.length ws = false := by
      have : ¬ ws.length = cs.length := by omega
      simp [wtsOk, this]
    rw [tell_wt hl hw] at h
    exact h
  · rw [tell_al (by assumption)] at h
    exact h
section
local macro_rules | `(tactic| walk_at "op") => `(tactic| first
  | with_reducible refine w_eqc_t (by with_unfolding_all decide) (by with_unfolding_all rfl) ?_
  | with_reducible refine w_eqc_f (by with_unfolding_all decide) (by with_unfolding_all rfl) ?_)
theorem ask0_w {j : Int} {cs x y : List Char} {ws : List Int} {r : List (List Char)} {S : Cells} {P : Ret → Cells → Prop} {X : Ex → Cells → Prop} (hj : j = 0 ∨ j = 0 + 3) (g : cs.length ≤ 400000) (g2 : ws.length ≤ 400000) (gx : x.length ≤ 400000) (gy : y.length ≤ 400000) (h : P (.new (tellW cs ws [x, y] (.int (cmpW cs ws x y)))) S) : RE (m__law_ask [.int j, .str cs, .lst (ws.map .int), .lst ((x :: y :: r).map .str)] S) P X := by
  refine w_fn rfl rfl ?_
  unfold b__law_ask'
  rcases hj with rfl | rfl
  all_goals
    walk_at "wp"
    refine compare_words_w g g2 gx gy (fun hl hw hx hx2 hy hy2 => ?_) (fun hl => ?_) (fun hl hw => ?_) (fun hl hw hx => ?_) (fun hl hw hx hx2 => ?_) (fun hl hw hx hx2 hy => ?_) (fun hl hw hx hx2 hy hy2 => ?_)
    · rw [tell_ok hl hw (fun z hz => by
        simp at hz
        rcases hz with rfl | rfl
        · exact fault_none hx hx2
        · exact fault_none hy hy2)] at h
      walk_at "wp"
      exact h
    · rw [tell_al hl] at h
      walk_at "wp"
      exact h
    · rw [tell_wt hl hw] at h
      walk_at "wp"
      exact h
    · rw [tell_bad (xs := [x, y]) (a := []) (b := [y]) hl hw rfl (fun _ h => nomatch h) hx] at h
      walk_at "wp"
      exact h
    · rw [tell_long (xs := [x, y]) (a := []) (b := [y]) hl hw rfl (fun _ h => nomatch h) hx hx2] at h
      walk_at "wp"
      exact h
    · rw [tell_bad (xs := [x, y]) (a := [x]) (b := []) hl hw rfl (fun z hz => by simp at hz; rw [hz]; exact fault_none hx hx2) hy] at h
      walk_at "wp"
      exact h
    · rw [tell_long (xs := [x, y]) (a := [x]) (b := []) hl hw rfl (fun z hz => by simp at hz; rw [hz]; exact fault_none hx hx2) hy hy2] at h
      walk_at "wp"
      exact h
theorem ask1_w {j : Int} {cs x y : List Char} {ws : List Int} {r : List (List Char)} {S : Cells} {P : Ret → Cells → Prop} {X : Ex → Cells → Prop} (hj : j = 1 ∨ j = 1 + 3) (g : cs.length ≤ 400000) (g2 : ws.length ≤ 400000) (gx : x.length ≤ 400000) (h : P (.new (tellW cs ws [x] (.int (wtW cs ws x)))) S) : RE (m__law_ask [.int j, .str cs, .lst (ws.map .int), .lst ((x :: y :: r).map .str)] S) P X := by
  refine w_fn rfl rfl ?_
  unfold b__law_ask'
  rcases hj with rfl | rfl
  all_goals
    walk_at "wp"
    refine word_weight_w g g2 gx (fun hl hw hx hx2 => ?_) (fun hl => ?_) (fun hl hw => ?_) (fun hl hw hx => ?_) (fun hl hw hx hx2 => ?_)
    · rw [tell_ok hl hw (fun z hz => by
        simp at hz
        rw [hz]
        exact fault_none hx hx2)] at h
      walk_at "wp"
      exact h
    · rw [tell_al hl] at h
      walk_at "wp"
      exact h
    · rw [tell_wt hl hw] at h
      walk_at "wp"
      exact h
    · rw [tell_bad (xs := [x]) (a := []) (b := []) hl hw rfl (fun _ h => nomatch h) hx] at h
      walk_at "wp"
      exact h
    · rw [tell_long (xs := [x]) (a := []) (b := []) hl hw rfl (fun _ h => nomatch h) hx hx2] at h
      walk_at "wp"
      exact h
theorem ask2_w {j : Int} {cs : List Char} {ws : List Int} {xs : List (List Char)} {S : Cells} {P : Ret → Cells → Prop} {X : Ex → Cells → Prop} (hj : j = 2 ∨ j = 2 + 3) (g : cs.length ≤ 400000) (g2 : ws.length ≤ 400000) (g3 : ∀ x ∈ xs, x.length ≤ 400000) (g4 : xs.length ≤ 90000) (h : P (.new (tellW cs ws xs (.lst ((sortW cs ws xs).map .str)))) S) : RE (m__law_ask [.int j, .str cs, .lst (ws.map .int), .lst (xs.map .str)] S) P X := by
  refine w_fn rfl rfl ?_
  unfold b__law_ask'
  rcases hj with rfl | rfl
  all_goals
    walk_at "wp"
    refine sort_words_w g g2 g4 g3 (fun hl hw hx => ?_) (fun hl => ?_) (fun hl hw => ?_) (fun hl hw a x b e ha hx => ?_) (fun hl hw a x b e ha hx hx2 => ?_)
    · rw [tell_ok hl hw hx] at h
      walk_at "wp"
      exact h
    · rw [tell_al hl] at h
      walk_at "wp"
      exact h
    · rw [tell_wt hl hw] at h
      walk_at "wp"
      exact h
    · have hxl := g3 x (by rw [e]; simp)
      rw [tell_bad hl hw e ha hx] at h
      walk_at "wp"
      exact h
    · rw [tell_long hl hw e ha hx hx2] at h
      walk_at "wp"
      exact h
theorem ask_w {k j : Int} {cs x y : List Char} {ws : List Int} {r : List (List Char)} {S : Cells} {P : Ret → Cells → Prop} {X : Ex → Cells → Prop} (hk : k = 0 ∨ k = 1 ∨ k = 2) (hj : j = k ∨ j = k + 3) (g : cs.length ≤ 400000) (g2 : ws.length ≤ 400000) (g3 : ∀ z ∈ x :: y :: r, z.length ≤ 400000) (g4 : r.length ≤ 80000) (h : P (.new (dueW k cs ws x y r)) S) : RE (m__law_ask [.int j, .str cs, .lst (ws.map .int), .lst ((x :: y :: r).map .str)] S) P X := by
  rcases hk with rfl | rfl | rfl
  · exact ask0_w hj g g2 (g3 x (by simp)) (g3 y (by simp)) h
  · exact ask1_w hj g g2 (g3 x (by simp)) h
  · exact ask2_w hj g g2 g3 (by rw [List.length_cons, List.length_cons]; omega) h
end
local macro_rules | `(tactic| walk_at "cl") => `(tactic| (with_reducible refine same_w _ _ _ _ _ ?_ ?_; next => assumption))
theorem all_right_w {cs x y : List Char} {ws : List Int} {r : List (List Char)} {S : Cells} {P : Ret → Cells → Prop} {X : Ex → Cells → Prop} (g : cs.length ≤ 400000) (g2 : ws.length ≤ 400000) (g3 : ∀ z ∈ x :: y :: r, z.length ≤ 400000) (g4 : r.length ≤ 80000) (h : P (.val (.bl true)) S) : RE (m__law_all_right [.str cs, .lst (ws.map .int), .lst ((x :: y :: r).map .str)] S) P X := by
  refine w_fn rfl rfl ?_
  unfold b__law_all_right'
  walk_at "wp"
  refine for_mem (fun env S' => S' = S ∧ ∃ x3 x4 x5 x6, env = [.val (.str cs), .val (.lst (ws.map .int)), .val (.lst ((x :: y :: r).map .str)), x3, x4, x5, x6, .no]) ⟨rfl, _, _, _, _, rfl⟩ ?_ ?_
  · rintro d env S2 hd ⟨rfl, x3, x4, x5, x6, rfl⟩
    have hk : ∃ k : Int, d = .int k ∧ (k = 0 ∨ k = 1 ∨ k = 2) := by
      simp only [List.mem_cons, List.not_mem_nil, or_false] at hd
      rcases hd with rfl | rfl | rfl
      · exact ⟨0, rfl, .inl rfl⟩
      · exact ⟨1, rfl, .inr (.inl rfl)⟩
      · exact ⟨2, rfl, .inr (.inr rfl)⟩
    obtain ⟨k, rfl, hk⟩ := hk
    clear hd
    refine ⟨_, rfl, ?_⟩
    have hdue := fun (S : Cells) (P : Ret → Cells → Prop) (X : Ex → Cells → Prop) (h : P (.val (dueW k cs ws x y r)) S) => due_w (X := X) hk g g2 g3 g4 h
    have hask := fun (j : Int) (S : Cells) (P : Ret → Cells → Prop) (X : Ex → Cells → Prop) (hj : j = k ∨ j = k + 3) (h : P (.new (dueW k cs ws x y r)) S) => ask_w (X := X) hk hj g g2 g3 g4 h
    have hgd : Gd 8 (dueW k cs ws x y r) := by
      refine tell_gd ?_
      unfold valW
      split
      · trivial
      · split
        · trivial
        · exact gd_strs (by rw [sort_len, List.length_cons, List.length_cons]; omega)
    have hform : (dueW k cs ws x y r = .tup [.str "told".toList, valW k cs ws x y r]) ∨ ∃ t : List Char, t ≠ "told".toList ∧ (dueW k cs ws x y r = .tup [.str t] ∨ ∃ u : List Char, dueW k cs ws x y r = .tup [.str t, .str u]) := tell_form _ _ _ _
    have hval : k = 2 → valW k cs ws x y r = .lst ((sortW cs ws (x :: y :: r)).map .str) := fun e => by rw [e]; rfl
    generalize dueW k cs ws x y r = dd at hdue hask hgd hform
    generalize valW k cs ws x y r = vv at hform hval
    walk_at "wp"
    refine hdue _ _ _ ?_
    walk_at "wp"
    refine hask _ _ _ _ (.inl rfl) ?_
    walk_at "wp"
    · rename_i hk2
      have hv := hval hk2
      subst hv
      subst hk2
      rcases hform with rfl | ⟨t, ht, hf⟩
      · walk_at "wp"
        have hsl : (sortW cs ws (x :: y :: r)).length = r.length + 2 := sort_len
        refine s_mutA2 rfl rfl ?_ ?_ ?_ ?_
        · rfl
        · rw [List.all_append, TT.flat_strs]; rfl
        · rw [List.length_map]; omega
        walk_at "wp"
        refine s_mutS2 (n := 0) rfl rfl (ixN_of (by omega) (by rw [List.length_append, List.length_map, List.length_singleton]; omega)) rfl ?_ ?_
        · rw [List.all_eq_true]
          intro d hd
          rcases List.mem_or_eq_of_mem_set hd with hd | hd
          · have : ((sortW cs ws (x :: y :: r)).map D.str ++ [D.str "spoilt".toList]).all flatD = true := by rw [List.all_append, TT.flat_strs]; rfl
            exact List.all_eq_true.mp this d hd
          · rw [hd]; rfl
        walk_at "wp"
        refine hask _ _ _ _ (.inl rfl) ?_
        walk_at "wp"
        refine hask _ _ _ _ (.inr rfl) ?_
        walk_at "wp"
        exact ⟨rfl, _, _, _, _, rfl⟩
      · have hix : ∀ (Q : D → Cells → Prop) (X : Ex → Cells → Prop), Q (.str t) [] → RE (opIx dd (.int 0) []) Q X := by
          intro Q X hq
          rcases hf with rfl | ⟨u, rfl⟩
          · exact w_ix_t (w_at_c0 hq)
          · exact w_ix_t (w_at_c0 hq)
        refine hix _ _ ?_
        walk_at "wp"
        · rename_i z
          exact absurd z ht
        · refine hask _ _ _ _ (.inl rfl) ?_
          walk_at "wp"
          refine hask _ _ _ _ (.inr rfl) ?_
          walk_at "wp"
          exact ⟨rfl, _, _, _, _, rfl⟩
    · refine hask _ _ _ _ (.inl rfl) ?_
      walk_at "wp"
      refine hask _ _ _ _ (.inr rfl) ?_
      walk_at "wp"
      exact ⟨rfl, _, _, _, _, rfl⟩
  · rintro env S2 ⟨rfl, x3, x4, x5, x6, rfl⟩
    walk_at "wp"
    exact h
local macro_rules | `(tactic| walk_at "op") => `(tactic| first
  | (with_reducible refine y_add ?_ ?_; try (next => walk_at "sd"))
  | with_reducible refine y_sl ?_
  | with_reducible refine y_len ?_
  | (with_reducible refine y_mul1 ?_ ?_; try (next => walk_at "sd"))
  | with_reducible refine y_mul ?_ ?_
  | with_reducible refine y_rev ?_
  | (with_reducible refine y_last ?_ (fun _ _ => ?_); try (next => walk_at "sd")))
theorem all_right2_w {cs x y : List Char} {ws : List Int} {S : Cells} {P : Ret → Cells → Prop} {X : Ex → Cells → Prop} (g : cs.length ≤ 400000) (g2 : ws.length ≤ 400000) (gx : x.length ≤ 400000) (gy : y.length ≤ 400000) (h : P (.val (.bl true)) S) : RE (m__law_all_right [.str cs, .lst (ws.map .int), .lst [.str x, .str y]] S) P X :=
  all_right_w (r := []) g g2 (fun z hz => by
    simp at hz
    rcases hz with rfl | rfl <;> assumption) (by simp) h
local macro_rules | `(tactic| walk_at "cl") => `(tactic| (with_reducible refine all_right2_w ?_ ?_ ?_ ?_ ?_; iterate 4 (try (next => walk_at "sd"))))
local macro_rules | `(tactic| walk_at "op") => `(tactic| first
  | (with_reducible refine n_sl_pre ?_ (fun _ _ _ _ _ => ?_); next => walk_at "sd")
  | (with_reducible refine n_sl ?_ (fun _ _ _ _ => ?_); try (next => walk_at "sd"))
  | (with_reducible refine m_mul ?_ ?_ (fun _ _ _ _ => ?_); (next => first | omega | (simp; done)); try (next => walk_at "sd"))
  | (with_reducible refine m_mul30 ?_ ?_ (fun _ _ _ => ?_); (next => first | omega | (simp; done)); try (next => walk_at "sd")))
theorem large_w {cs x y : List Char} {ws : List Int} {r : List (List Char)} {ds : List D} {P : Ret → Cells → Prop} {X : Ex → Cells → Prop} (hl : isAl cs = true) (hw : wtsOk cs.length ws = true) (hx : ∀ z ∈ x :: y :: r, wOk cs z = true) (ht : TapeD ds) (h : ∀ ds', TapeD ds' → P (.val (.bl true)) [ds']) : RE (m__law_large_right [.cell 0, .str cs, .lst (ws.map .int), .lst ((x :: y :: r).map .str)] [ds]) P X := by
  refine w_fn rfl rfl ?_
  unfold b__law_large_right'
  have hcl := al_bnd hl
  have hwl := (wts_bnd hw).1
  have hx0 := (w_ok_iff.mp (hx x (by simp))).2
  have hf : 2 ≤ (cut (x :: y :: r) none (some 5)).length ∧ (cut (x :: y :: r) none (some 5)).length ≤ 5 := by
    rw [show (5 : Int) = ((5 : Nat) : Int) from rfl, cut_pre, List.length_take, List.length_cons, List.length_cons]
    omega
  have hfm : ∀ z ∈ cut (x :: y :: r) none (some 5), wOk cs z = true := fun z hz => hx z (cut_sub hz)
  walk_at "wp"
  generalize cut (x :: y :: r) none (some 5) = few at *
  have hr : (401 / (few.length : Int) + 1 ≤ 1000 / (few.length : Int)) ∧ 1000 / (few.length : Int) ≤ 500 ∧ 1000 / (few.length : Int) * few.length ≤ 1000 ∧ 0 ≤ 401 / (few.length : Int) := by
    have : few.length = 2 ∨ few.length = 3 ∨ few.length = 4 ∨ few.length = 5 := by omega
    rcases this with e | e | e | e <;> rw [e] <;> decide
  refine in_range_w ⟨hr.1, by omega⟩ ht (fun t ds1 ht1 h1 h2 => ?_)
  obtain ⟨n, rfl⟩ : ∃ n : Nat, t = (n : Int) := ⟨t.toNat, by omega⟩
  have hn : n * few.length ≤ 1000 := by
    have := Int.mul_le_mul_of_nonneg_right h2 (show (0 : Int) ≤ few.length by omega)
    have e : (((n * few.length : Nat)) : Int) = (n : Int) * (few.length : Int) := Int.natCast_mul _ _
    omega
  walk_at "wp"
  refine for_map (fun a env S' => S' = [ds1] ∧ ∃ x7, env = [.val (.cell 0), .val (.str cs), .val (.lst (ws.map .int)), .val (.lst ((x :: y :: r).map .str)), .val (.lst (few.map .str)), .val (.int (n : Int)), .val (.lst (((a.map (List.replicate n)).flatten).map .str)), x7, .no, .no, .no, .no, .no, .no] ∧ (a.map (List.replicate n)).flatten.length ≤ n * a.length) ⟨rfl, _, rfl, by simp⟩ ?_ ?_
  · rintro a w b env S2 e ⟨rfl, x7, rfl, hal⟩
    refine ⟨_, rfl, ?_⟩
    have hle : a.length + 1 ≤ few.length := by
      have := congrArg List.length e
      rw [sort_len, List.length_append, List.length_cons] at this
      omega
    have hm : n * a.length + n ≤ 1000 := by
      have := Nat.mul_le_mul_left n hle
      rw [Nat.mul_add, Nat.mul_one] at this
      omega
    walk_at "wp"
    refine ⟨rfl, .val (.str w), ?_, ?_⟩
    · rw [flat_snoc, Int.toNat_natCast, List.map_append]
      rfl
    · rw [flat_snoc, List.length_append, List.length_replicate, List.length_append, List.length_singleton, Nat.mul_add, Nat.mul_one]
      omega
  · rintro env S2 ⟨rfl, x7, rfl, hal⟩
    rw [sort_len] at hal
    rw [← sort_rep (fun z hz => (w_ok_iff.mp (hfm z hz)).1)]
    have hrl : (List.replicate n few).flatten.length ≤ 1000 := by rw [rep_len]; exact hn
    have hfr : ∀ z ∈ (List.replicate n few).flatten, wOk cs z = true := fun z hz => by
      obtain ⟨l, q1, q2⟩ := List.mem_flatten.mp hz
      rw [(List.mem_replicate.mp q1).2] at q2
      exact hfm z q2
    walk_at "wp"
    · rw [Int.toNat_natCast, Nat.mul_comm]
      omega
    rw [Int.toNat_natCast]
    generalize hrs : (List.replicate n few).flatten = rs at *
    refine ask2_w (.inl rfl) (by omega) (by omega) (fun z hz => Nat.le_trans (w_ok_iff.mp (hfr z hz)).2 (by decide)) (by omega) ?_
    rw [tell_ok hl hw (fun z hz => fault_none_iff.mpr (w_ok_iff.mp (hfr z hz)))]
    walk_at "wp"
    refine same_w _ _ _ _ _ (gd_told (gd_strs (by rw [sort_len]; omega))) ?_
    walk_at "wp"
    · rw [Int.toNat_natCast, Nat.mul_comm]
      omega
    · decide
    · refine for_memE (fun S' => ∃ ds', S' = [ds'] ∧ TapeD ds') ⟨_, rfl, by assumption⟩ ⟨_, rfl⟩ ?_ ?_
      · rintro d _ hd ⟨ds', rfl, htt⟩
        simp only [List.mem_cons, List.not_mem_nil, or_false] at hd
        rcases hd with rfl | rfl | rfl <;> walk_at "wp" <;> exact ⟨⟨_, rfl, htt⟩, _, rfl⟩
      · rintro v _ ⟨ds', rfl, htt⟩
        walk_at "wp"
        exact h _ htt
    · rename_i z
      exact absurd (by rw [Int.toNat_natCast]; exact hrs.symm) z
local macro_rules | `(tactic| walk_at "op") => `(tactic| first
  | (with_reducible refine y_add ?_ ?_; try (next => walk_at "sd"))
  | with_reducible refine y_sl ?_
  | with_reducible refine y_len ?_
  | (with_reducible refine y_mul1 ?_ ?_; try (next => walk_at "sd"))
  | with_reducible refine y_mul ?_ ?_
  | with_reducible refine y_rev ?_
  | (with_reducible refine y_last ?_ (fun _ _ => ?_); try (next => walk_at "sd")))
local macro_rules | `(tactic| walk_at "op") => `(tactic| first
  | (with_reducible refine n_sl_pre ?_ (fun _ _ _ _ _ => ?_); next => walk_at "sd")
  | (with_reducible refine n_sl ?_ (fun _ _ _ _ => ?_); try (next => walk_at "sd"))
  | (with_reducible refine m_mul ?_ ?_ (fun _ _ _ _ => ?_); (next => first | omega | (simp; done)); try (next => walk_at "sd"))
  | (with_reducible refine m_mul30 ?_ ?_ (fun _ _ _ => ?_); (next => first | omega | (simp; done)); try (next => walk_at "sd")))
theorem words_g {cs : List Char} {ds : List D} {P : Ret → Cells → Prop} {X : Ex → Cells → Prop} (hc : 0 < cs.length ∧ cs.length ≤ 1000) (ht : TapeD ds) (h : ∀ (xs : List (List Char)) ds', TapeD ds' → (2 ≤ xs.length ∧ xs.length ≤ 80000) → 2 ≤ xs.length → xs.length ≤ 100 → (∀ x ∈ xs, wOk cs x = true) → (∀ z ∈ xs, z.length ≤ 400000) → P (.own (xs.map .str)) [ds']) : RE (m__law_words [.cell 0, .str cs] [ds]) P X :=
  words_w hc ht fun xs ds' h1 h2 h3 h4 => h xs ds' h1 ⟨h2, by omega⟩ h2 h3 h4 fun z hz => Nat.le_trans (w_ok_iff.mp (h4 z hz)).2 (by decide)
theorem heavy_g {n : Nat} {ds : List D} {P : Ret → Cells → Prop} {X : Ex → Cells → Prop} (hn : n ≤ 100000) (ht : TapeD ds) (h : ∀ (ws : List Int) (ds' : List D), TapeD ds' → wtsOk n ws = true → ws.length = n → P (.own (ws.map .int)) [ds']) : RE (m__law_heavy [.cell 0, .int (n : Int)] [ds]) P X :=
  heavy_w hn ht fun ws ds' h1 h2 => h ws ds' h1 h2 (wts_bnd h2).1
local macro_rules | `(tactic| walk_at "cl") => `(tactic| (with_reducible refine words_g ?_ (by assumption) (fun _ _ _ _ _ _ _ _ => ?_); try (next => walk_at "sd")))
local macro_rules | `(tactic| walk_at "cl") => `(tactic| (with_reducible refine heavy_g ?_ (by assumption) (fun _ _ _ _ _ => ?_); try (next => walk_at "sd")))
local macro_rules | `(tactic| walk_at "cl") => `(tactic| (with_reducible refine bad_word_w ?_ (by assumption) (fun _ _ _ _ _ => ?_); try (next => walk_at "sd")))
local macro_rules | `(tactic| walk_at "cl") => `(tactic| (with_reducible refine bad_heavy_w ?_ (by assumption) (fun _ _ _ _ => ?_); try (next => walk_at "sd")))
theorem large_g {cs : List Char} {ws : List Int} {xs : List (List Char)} {ds : List D} {P : Ret → Cells → Prop} {X : Ex → Cells → Prop} (hl : isAl cs = true) (hw : wtsOk cs.length ws = true) (hx2 : 2 ≤ xs.length) (hx : ∀ z ∈ xs, wOk cs z = true) (ht : TapeD ds) (h : ∀ ds', TapeD ds' → P (.val (.bl true)) [ds']) : RE (m__law_large_right [.cell 0, .str cs, .lst (ws.map .int), .lst (xs.map .str)] [ds]) P X := by
  match xs, hx2, hx with
  | x :: y :: r, _, hx => exact large_w hl hw hx ht h
local macro_rules | `(tactic| walk_at "cl") => `(tactic| (with_reducible refine large_g (by assumption) (by assumption) (by assumption) (by assumption) (by assumption) (fun _ _ => ?_)))
theorem all_right_g {cs : List Char} {ws : List Int} {xs : List (List Char)} {S : Cells} {P : Ret → Cells → Prop} {X : Ex → Cells → Prop} (g : cs.length ≤ 400000) (g2 : ws.length ≤ 400000) (g4 : 2 ≤ xs.length ∧ xs.length ≤ 80000) (g3 : ∀ z ∈ xs, z.length ≤ 400000) (h : P (.val (.bl true)) S) : RE (m__law_all_right [.str cs, .lst (ws.map .int), .lst (xs.map .str)] S) P X := by
  match xs, g3, g4 with
  | x :: y :: r, g3, g4 => exact all_right_w g g2 g3 (by have := g4.2; rw [List.length_cons, List.length_cons] at this; omega) h
local macro_rules | `(tactic| walk_at "cl") => `(tactic| (with_reducible refine all_right_g ?_ ?_ ?_ ?_ ?_; iterate 3 (try (next => first | omega | walk_at "sd" | (rw [List.length_reverse]; omega))); try (next => assumption)))
def GoodW (d : D) : Prop := ∃ xs : List (List Char), d = .lst (xs.map .str) ∧ (2 ≤ xs.length ∧ xs.length ≤ 80000) ∧ ∀ z ∈ xs, z.length ≤ 400000
theorem good2 {x y : List Char} (hx : x.length ≤ 400000) (hy : y.length ≤ 400000) : GoodW (.lst [.str x, .str y]) := ⟨[x, y], rfl, by simp, fun z hz => by
  simp at hz
  rcases hz with rfl | rfl <;> assumption⟩
theorem loopW_w {i a b : Nat} {cs : List Char} {ws : List Int} {ds : List D} {env : Ev} {S : Cells} {N B C : Ev → Cells → Prop} {T : Ret → Cells → Prop} {Z : Ex → Ev → Cells → Prop} (ea : env[a]? = some (.val (.str cs))) (eb : env[b]? = some (.val (.lst (ws.map .int)))) (hia : i ≠ a) (hib : i ≠ b) (hi : ∃ v0, env[i]? = some v0) (g : cs.length ≤ 400000) (g2 : ws.length ≤ 400000) (hd : ∀ d ∈ ds, GoodW d) (h : ∀ v, N (env.set i v) S) :
    RS (forL (gtN i) (sIf (mNot (tB (dCallP m__law_all_right (aDef (aCons (dVar a) (aCons (dVar b) (aCons (dVar i) aNil))) [])))) (sRet (dC (.bl false))) sNil) ds env S) ⟨N, B, C, T, Z⟩ := by
  refine for_memE (fun S' => S' = S) rfl hi ?_ ?_
  · rintro d _ hm rfl
    obtain ⟨xs, rfl, h1, h2⟩ := hd d hm
    have hlt : i < env.length := by
      obtain ⟨v0, e⟩ := hi
      exact (List.getElem?_eq_some_iff.mp e).1
    walk_at "wp"
    refine w_var (by rw [List.getElem?_set_ne hia]; exact ea) ?_
    walk_at "wp"
    refine w_var (by rw [List.getElem?_set_ne hib]; exact eb) ?_
    walk_at "wp"
    refine w_var (List.getElem?_set_self hlt) ?_
    walk_at "wp"
    exact ⟨rfl, _, rfl⟩
  · rintro v _ rfl
    exact h v
theorem loopT_w {i : Nat} {ds : List D} {env : Ev} {S : Cells} {N B C : Ev → Cells → Prop} {T : Ret → Cells → Prop} {Z : Ex → Ev → Cells → Prop} (hi : ∃ v0, env[i]? = some v0) (hd : ∀ d ∈ ds, ∃ (cs : List Char) (ws : List Int) (e : D), d = .tup [.str cs, .lst (ws.map .int), e] ∧ cs.length ≤ 400000 ∧ ws.length ≤ 400000 ∧ GoodW e) (h : ∀ v, N (env.set i v) S) :
    RS (forL (gtN i) (sIf (mNot (tB (dCallP m__law_all_right (aDef (aCons (dBin opIx (dVar i) (dC (.int 0))) (aCons (dBin opIx (dVar i) (dC (.int 1))) (aCons (dBin opIx (dVar i) (dC (.int 2))) aNil))) [])))) (sRet (dC (.bl false))) sNil) ds env S) ⟨N, B, C, T, Z⟩ := by
  refine for_memE (fun S' => S' = S) rfl hi ?_ ?_
  · rintro d _ hm rfl
    obtain ⟨cs, ws, e, rfl, g, g2, xs, rfl, h1, h2⟩ := hd d hm
    have hlt : i < env.length := by
      obtain ⟨v0, e⟩ := hi
      exact (List.getElem?_eq_some_iff.mp e).1
    have hv : (env.set i (.val (.tup [.str cs, .lst (ws.map .int), .lst (xs.map .str)])))[i]? = some (.val (.tup [.str cs, .lst (ws.map .int), .lst (xs.map .str)])) := List.getElem?_set_self hlt
    walk_at "wp"
    refine w_var hv ?_
    walk_at "wp"
    refine w_var hv ?_
    walk_at "wp"
    refine w_var hv ?_
    walk_at "wp"
    exact ⟨rfl, _, rfl⟩
  · rintro v _ rfl
    exact h v
theorem set_same {env : Ev} {i : Nat} {v : Sl} (e : env[i]? = some v) : env.set i v = env := by
  obtain ⟨h1, h2⟩ := List.getElem?_eq_some_iff.mp e
  rw [← h2, List.set_getElem_self]
theorem opt_letters {env : Ev} {ds : List D} {cs : List Char} {N B C : Ev → Cells → Prop} {T : Ret → Cells → Prop} {Z : Ex → Ev → Cells → Prop} (e1 : env[1]? = some (.val (.cell 0))) (e6 : env[6]? = some (.val (.str cs))) (hc : cs.length ≤ 400000) (ht : TapeD ds) (h : ∀ (bl : List Char) (ds' : List D), TapeD ds' → bl.length ≤ 400000 → N (env.set 6 (.val (.str bl))) [ds']) :
    RS (sIf (tB (dBin opEq (dCall m__law_take (aDef (aCons (dVar 1) (aCons (dC (.int 3)) aNil)) [])) (dC (.int 0)))) (sSet 6 (dCall m__law_bad_letters (aDef (aCons (dVar 1) aNil) []))) sNil env [ds]) ⟨N, B, C, T, Z⟩ := by
  refine s_if (w_tB (w_bin (w_call (w_def0 (w_cons (w_var e1 (w_cons (w_c (w_nil ?_)))))))))
  refine take_w (by omega) ht (fun k ds1 h1 _ _ => rf_v (w_c ?_))
  walk_at "wp"
  · refine w_var e1 ?_
    walk_at "wp"
    exact h _ _ (by assumption) (by omega)
  · have := h cs ds1 h1 hc
    rw [set_same e6] at this
    exact this
theorem opt_heavy {env : Ev} {ds : List D} {cs : List Char} {ws : List Int} {N B C : Ev → Cells → Prop} {T : Ret → Cells → Prop} {Z : Ex → Ev → Cells → Prop} (e1 : env[1]? = some (.val (.cell 0))) (e2 : env[2]? = some (.val (.str cs))) (e6 : env[7]? = some (.val (.lst (ws.map .int)))) (hc : 1 ≤ cs.length ∧ cs.length ≤ 100000) (hw : ws.length ≤ 400000) (ht : TapeD ds) (h : ∀ (bl : List Int) (ds' : List D), TapeD ds' → bl.length ≤ 400000 → N (env.set 7 (.val (.lst (bl.map .int)))) [ds']) :
    RS (sIf (tB (dBin opEq (dCall m__law_take (aDef (aCons (dVar 1) (aCons (dC (.int 3)) aNil)) [])) (dC (.int 0)))) (sSet 7 (dCall m__law_bad_heavy (aDef (aCons (dVar 1) (aCons (dArgs fLen (aCons (dVar 2) aNil)) aNil)) []))) sNil env [ds]) ⟨N, B, C, T, Z⟩ := by
  refine s_if (w_tB (w_bin (w_call (w_def0 (w_cons (w_var e1 (w_cons (w_c (w_nil ?_)))))))))
  refine take_w (by omega) ht (fun k ds1 h1 _ _ => rf_v (w_c ?_))
  walk_at "wp"
  · refine w_var e1 ?_
    walk_at "wp"
    refine w_var e2 ?_
    walk_at "wp"
    exact h _ _ (by assumption) (by omega)
  · have := h ws ds1 h1 hw
    rw [set_same e6] at this
    exact this
local macro_rules | `(tactic| walk_at "st") => `(tactic| first
  | (with_reducible refine opt_letters (by with_unfolding_all rfl) (by with_unfolding_all rfl) ?_ (by assumption) (fun _ _ _ _ => ?_); next => omega)
  | (with_reducible refine opt_heavy (by with_unfolding_all rfl) (by with_unfolding_all rfl) (by with_unfolding_all rfl) ?_ ?_ (by assumption) (fun _ _ _ _ => ?_); (next => omega); next => omega))
theorem mem01 {d : D} {n : Nat} {k : Int} (h2 : 2 ≤ n) (h0 : 0 ≤ k) (h1 : k < n) (hm : d ∈ [D.int 0, D.int 1, D.int k]) : ∃ j : Int, (0 ≤ j ∧ j < n) ∧ d = .int j := by
  simp only [List.mem_cons, List.not_mem_nil, or_false] at hm
  rcases hm with e | e | e
  · exact ⟨0, by omega, e⟩
  · exact ⟨1, by omega, e⟩
  · exact ⟨k, by omega, e⟩
theorem law_true (ns : List Int) (hn : ns.length ≤ 63) : ∃ S, m_law [.frl (ns.map .int)] [] = .ok (.val (.bl true)) S := by
  refine re_out ?_
  refine w_fn rfl rfl ?_
  unfold b_law'
  walk_at "wp"
  refine ⟨rfl, ⟨?_, ?_⟩, ?_⟩
  · simp [clf, noC, noCs_int]
  · simp [noC, noCs, noCs_int]
  have ht := tape_mk (cs := ns) (pos := 0) (big := 0) (sm := 0) (seed := 1) (turn := 0) (by omega)
  refine s_seq (s_set (w_call (w_def0 (w_cons (w_var rfl (w_cons (w_c (w_cons (w_c (w_nil ?_)))))))))) 
  refine letters_w (by omega) ht (fun cs d1 t1 hnd haz hl1 hl6 => rf_v ?_)
  have hal := al_of hnd haz hl1 hl6
  refine s_seq (s_set ?_)
  walk_at "wp"
  rename_i ws d2 t2 hws hwl xs d3 t3 hx280 hx2 hx100 hxs hx4 a1 ha1 _ a2 ha2 _ a3 ha3 _ a4 ha4 _ a5 ha5 a6 ha6 _
  have q1 := hx4 _ ha1
  have q2 := hx4 _ ha2
  have q3 := hx4 _ ha3
  have q4 := hx4 _ ha4
  have q5 := hx4 _ ha5
  have q6 := hx4 _ ha6
  refine loopW_w rfl rfl (by decide) (by decide) ⟨_, rfl⟩ (by omega) (by omega) ?_ (fun v => ?_)
  · intro d hd
    simp only [List.mem_cons, List.not_mem_nil, or_false] at hd
    rcases hd with rfl | rfl | rfl
    · exact good2 q1 q2
    · exact good2 q3 q4
    · exact good2 q5 q6
  walk_at "wp"
  refine ask2_w (xs := []) (.inl rfl) (by omega) (by omega) (fun z hz => by simp at hz) (by simp) ?_
  rw [tell_ok hal hws (fun z hz => by simp at hz), show sortW cs ws [] = [] by simp [sortW]]
  walk_at "wp"
  refine same_w _ _ _ _ _ (gd_told (v := .lst []) (gd_strs (xs := []) (by simp))) ?_
  walk_at "wp"
  refine for_memE3 (j := 8) (k := 11) (fun v S' => ∃ (zs : List (List Char)) (dz : List D), v = .own (zs.map .str) ∧ S' = [dz] ∧ TapeD dz ∧ zs.length = xs.length ∧ ∀ z ∈ zs, z.length ≤ 400000) (by decide) (by decide) ⟨_, rfl, xs, _, rfl, rfl, by assumption, rfl, hx4⟩ ⟨_, rfl⟩ ⟨_, rfl⟩ ?_ ?_
  · rintro d vj vk S3 hd ⟨zs, dz, rfl, rfl, htz, hzl, hzs⟩
    walk_at "wp"
    rename_i k3 ds3 t3' hk0 hk1 d5 ds5 t5 hm5 x6 e6 ds6 t6 h6
    obtain ⟨j, ⟨hj0, hj1⟩, rfl⟩ := mem01 (n := zs.length) (by omega) (by omega) (by omega) hm5
    refine isI_i ⟨_, ixN_of hj0 (by rw [List.length_map]; exact hj1), ?_⟩
    rw [← List.map_set]
    refine ⟨.val d, .own ((zs.set j.toNat x6).map .str), .val (.int j), ⟨zs.set j.toNat x6, ds6, rfl, rfl, t6, ?_, fun z hz => ?_⟩, by with_unfolding_all rfl⟩
    · rw [List.length_set]; exact hzl
    rcases List.mem_or_eq_of_mem_set hz with hz | hz
    · exact hzs z hz
    · rw [hz]; omega
  · rintro vi vj vk S3 ⟨zs, dz, rfl, rfl, htz, hzl, hzs⟩
    have hz2 : 2 ≤ zs.length ∧ zs.length ≤ 80000 := by omega
    walk_at "wp"
    refine loopT_w ⟨_, rfl⟩ ?_ (fun v => ?_)
    · intro d hd
      simp only [List.mem_cons, List.not_mem_nil, or_false] at hd
      rcases hd with rfl | rfl | rfl
      · exact ⟨_, _, _, rfl, by assumption, by omega, xs, rfl, hx280, hx4⟩
      · exact ⟨_, _, _, rfl, by omega, by assumption, xs, rfl, hx280, hx4⟩
      · exact ⟨_, _, _, rfl, by omega, by omega, zs, rfl, hz2, hzs⟩
    walk_at "wp"
    all_goals rfl
end Lawk00
end
namespace Lawk00
open PySem PySem.Spec PyProof.Rows L2 TT
def topS (i : Nat) : Stmt := PySem.Challenge.pw_wayfill_k00_word_order.main.body.getD i (.Pass ⟨0, 0, 0, 0⟩)
abbrev s_is_alphabet : Stmt := topS 12
abbrev N_is_alphabet : List Str := ["letters", "sign"]
theorem sc_is_alphabet : FnScope N_is_alphabet ["letters"] (defScope s_is_alphabet) := ⟨rfl, rfl, rfl, by decide +kernel, rfl, by decide +kernel, by decide +kernel⟩
abbrev s_has_only : Stmt := topS 13
abbrev N_has_only : List Str := ["letters", "word", "sign"]
theorem sc_has_only : FnScope N_has_only ["letters", "word"] (defScope s_has_only) := ⟨rfl, rfl, rfl, by decide +kernel, rfl, by decide +kernel, by decide +kernel⟩
abbrev s_check_letters : Stmt := topS 14
abbrev N_check_letters : List Str := ["letters"]
theorem sc_check_letters : FnScope N_check_letters ["letters"] (defScope s_check_letters) := ⟨rfl, rfl, rfl, by decide +kernel, rfl, by decide +kernel, by decide +kernel⟩
abbrev s_check_weights : Stmt := topS 15
abbrev N_check_weights : List Str := ["letters", "weights", "weight"]
theorem sc_check_weights : FnScope N_check_weights ["letters", "weights"] (defScope s_check_weights) := ⟨rfl, rfl, rfl, by decide +kernel, rfl, by decide +kernel, by decide +kernel⟩
abbrev s_check_word : Stmt := topS 16
abbrev N_check_word : List Str := ["letters", "word"]
theorem sc_check_word : FnScope N_check_word ["letters", "word"] (defScope s_check_word) := ⟨rfl, rfl, rfl, by decide +kernel, rfl, by decide +kernel, by decide +kernel⟩
abbrev s_sum_weights : Stmt := topS 17
abbrev N_sum_weights : List Str := ["letters", "weights", "word", "sign"]
theorem sc_sum_weights : FnScope N_sum_weights ["letters", "weights", "word"] (defScope s_sum_weights) := ⟨rfl, rfl, rfl, by decide +kernel, rfl, by decide +kernel, by decide +kernel⟩
abbrev s_order_key : Stmt := topS 18
abbrev N_order_key : List Str := ["letters", "weights", "word", "sign"]
theorem sc_order_key : FnScope N_order_key ["letters", "weights", "word"] (defScope s_order_key) := ⟨rfl, rfl, rfl, by decide +kernel, rfl, by decide +kernel, by decide +kernel⟩
abbrev s_word_weight : Stmt := topS 19
abbrev N_word_weight : List Str := ["letters", "weights", "word"]
theorem sc_word_weight : FnScope N_word_weight ["letters", "weights", "word"] (defScope s_word_weight) := ⟨rfl, rfl, rfl, by decide +kernel, rfl, by decide +kernel, by decide +kernel⟩
abbrev s_compare_words : Stmt := topS 20
abbrev N_compare_words : List Str := ["letters", "weights", "one", "other"]
theorem sc_compare_words : FnScope N_compare_words ["letters", "weights", "one", "other"] (defScope s_compare_words) := ⟨rfl, rfl, rfl, by decide +kernel, rfl, by decide +kernel, by decide +kernel⟩
abbrev s_sort_words : Stmt := topS 21
abbrev N_sort_words : List Str := ["letters", "weights", "words", "word", "rows", "key"]
theorem sc_sort_words : FnScope N_sort_words ["letters", "weights", "words"] (defScope s_sort_words) := ⟨rfl, rfl, rfl, by decide +kernel, rfl, by decide +kernel, by decide +kernel⟩
abbrev s__law_draws : Stmt := topS 23
abbrev N__law_draws : List Str := ["_law_script", "_law_cell"]
theorem sc__law_draws : FnScope N__law_draws ["_law_script"] (defScope s__law_draws) := ⟨rfl, rfl, rfl, by decide +kernel, rfl, by decide +kernel, by decide +kernel⟩
abbrev s__law_mixed : Stmt := topS 24
abbrev N__law_mixed : List Str := ["_law_seed", "_law_turn", "_law_first", "_law_second"]
theorem sc__law_mixed : FnScope N__law_mixed ["_law_seed", "_law_turn"] (defScope s__law_mixed) := ⟨rfl, rfl, rfl, by decide +kernel, rfl, by decide +kernel, by decide +kernel⟩
abbrev s__law_take : Stmt := topS 25
abbrev N__law_take : List Str := ["_law_store", "_law_size", "_law_cell", "_law_drawn"]
theorem sc__law_take : FnScope N__law_take ["_law_store", "_law_size"] (defScope s__law_take) := ⟨rfl, rfl, rfl, by decide +kernel, rfl, by decide +kernel, by decide +kernel⟩
abbrev s__law_span : Stmt := topS 26
abbrev N__law_span : List Str := ["_law_store", "_law_low", "_law_high"]
theorem sc__law_span : FnScope N__law_span ["_law_store", "_law_low", "_law_high"] (defScope s__law_span) := ⟨rfl, rfl, rfl, by decide +kernel, rfl, by decide +kernel, by decide +kernel⟩
abbrev s__law_rare : Stmt := topS 27
abbrev N__law_rare : List Str := ["_law_store", "_law_size"]
theorem sc__law_rare : FnScope N__law_rare ["_law_store", "_law_size"] (defScope s__law_rare) := ⟨rfl, rfl, rfl, by decide +kernel, rfl, by decide +kernel, by decide +kernel⟩
abbrev s__law_pick : Stmt := topS 28
abbrev N__law_pick : List Str := ["_law_store", "_law_row"]
theorem sc__law_pick : FnScope N__law_pick ["_law_store", "_law_row"] (defScope s__law_pick) := ⟨rfl, rfl, rfl, by decide +kernel, rfl, by decide +kernel, by decide +kernel⟩
abbrev s__law_in_range : Stmt := topS 29
abbrev N__law_in_range : List Str := ["_law_store", "_law_low", "_law_high"]
theorem sc__law_in_range : FnScope N__law_in_range ["_law_store", "_law_low", "_law_high"] (defScope s__law_in_range) := ⟨rfl, rfl, rfl, by decide +kernel, rfl, by decide +kernel, by decide +kernel⟩
abbrev s__law_out_of_range : Stmt := topS 30
abbrev N__law_out_of_range : List Str := ["_law_store", "_law_low", "_law_high", "_law_far"]
theorem sc__law_out_of_range : FnScope N__law_out_of_range ["_law_store", "_law_low", "_law_high"] (defScope s__law_out_of_range) := ⟨rfl, rfl, rfl, by decide +kernel, rfl, by decide +kernel, by decide +kernel⟩
abbrev s__law_letters : Stmt := topS 31
abbrev N__law_letters : List Str := ["_law_store", "_law_low", "_law_high", "_law_size", "_law_left", "_law_out", "_law_k", "_law_spot"]
theorem sc__law_letters : FnScope N__law_letters ["_law_store", "_law_low", "_law_high"] (defScope s__law_letters) := ⟨rfl, rfl, rfl, by decide +kernel, rfl, by decide +kernel, by decide +kernel⟩
abbrev s__law_stranger : Stmt := topS 32
abbrev N__law_stranger : List Str := ["_law_store", "_law_letters_here", "_law_letter"]
theorem sc__law_stranger : FnScope N__law_stranger ["_law_store", "_law_letters_here"] (defScope s__law_stranger) := ⟨rfl, rfl, rfl, by decide +kernel, rfl, by decide +kernel, by decide +kernel⟩
abbrev s__law_bad_letters : Stmt := topS 33
abbrev N__law_bad_letters : List Str := ["_law_store", "_law_kind", "_law_good", "_law_spot"]
theorem sc__law_bad_letters : FnScope N__law_bad_letters ["_law_store"] (defScope s__law_bad_letters) := ⟨rfl, rfl, rfl, by decide +kernel, rfl, by decide +kernel, by decide +kernel⟩
abbrev s__law_heavy : Stmt := topS 34
abbrev N__law_heavy : List Str := ["_law_store", "_law_size", "_law_kind", "_law_k"]
theorem sc__law_heavy : FnScope N__law_heavy ["_law_store", "_law_size"] (defScope s__law_heavy) := ⟨rfl, rfl, rfl, by decide +kernel, rfl, by decide +kernel, by decide +kernel⟩
abbrev s__law_bad_heavy : Stmt := topS 35
abbrev N__law_bad_heavy : List Str := ["_law_store", "_law_size", "_law_out", "_law_kind"]
theorem sc__law_bad_heavy : FnScope N__law_bad_heavy ["_law_store", "_law_size"] (defScope s__law_bad_heavy) := ⟨rfl, rfl, rfl, by decide +kernel, rfl, by decide +kernel, by decide +kernel⟩
abbrev s__law_word : Stmt := topS 36
abbrev N__law_word : List Str := ["_law_store", "_law_letters_here", "_law_low", "_law_high", "_law_size", "_law_kind", "_law_piece", "_law_k"]
theorem sc__law_word : FnScope N__law_word ["_law_store", "_law_letters_here", "_law_low", "_law_high"] (defScope s__law_word) := ⟨rfl, rfl, rfl, by decide +kernel, rfl, by decide +kernel, by decide +kernel⟩
abbrev s__law_bad_word : Stmt := topS 37
abbrev N__law_bad_word : List Str := ["_law_store", "_law_letters_here", "_law_kind", "_law_size", "_law_word_here", "_law_spot", "_law_odd", "_law_k"]
theorem sc__law_bad_word : FnScope N__law_bad_word ["_law_store", "_law_letters_here"] (defScope s__law_bad_word) := ⟨rfl, rfl, rfl, by decide +kernel, rfl, by decide +kernel, by decide +kernel⟩
abbrev s__law_same : Stmt := topS 38
abbrev N__law_same : List Str := ["_law_told", "_law_due_here", "_law_k"]
theorem sc__law_same : FnScope N__law_same ["_law_told", "_law_due_here"] (defScope s__law_same) := ⟨rfl, rfl, rfl, by decide +kernel, rfl, by decide +kernel, by decide +kernel⟩
abbrev s__law_word_fault : Stmt := topS 39
abbrev N__law_word_fault : List Str := ["_law_letters_here", "_law_word_here", "_law_size", "_law_char"]
theorem sc__law_word_fault : FnScope N__law_word_fault ["_law_letters_here", "_law_word_here", "_law_size"] (defScope s__law_word_fault) := ⟨rfl, rfl, rfl, by decide +kernel, rfl, by decide +kernel, by decide +kernel⟩
abbrev s__law_weigh : Stmt := topS 40
abbrev N__law_weigh : List Str := ["_law_letters_here", "_law_heavy_here", "_law_word_here", "_law_char"]
theorem sc__law_weigh : FnScope N__law_weigh ["_law_letters_here", "_law_heavy_here", "_law_word_here"] (defScope s__law_weigh) := ⟨rfl, rfl, rfl, by decide +kernel, rfl, by decide +kernel, by decide +kernel⟩
abbrev s__law_order : Stmt := topS 41
abbrev N__law_order : List Str := ["_law_letters_here", "_law_heavy_here", "_law_first", "_law_second", "_law_lead", "_law_k"]
theorem sc__law_order : FnScope N__law_order ["_law_letters_here", "_law_heavy_here", "_law_first", "_law_second"] (defScope s__law_order) := ⟨rfl, rfl, rfl, by decide +kernel, rfl, by decide +kernel, by decide +kernel⟩
abbrev s__law_sorted : Stmt := topS 42
abbrev N__law_sorted : List Str := ["_law_letters_here", "_law_heavy_here", "_law_words_here", "_law_out", "_law_word_here", "_law_spot"]
theorem sc__law_sorted : FnScope N__law_sorted ["_law_letters_here", "_law_heavy_here", "_law_words_here"] (defScope s__law_sorted) := ⟨rfl, rfl, rfl, by decide +kernel, rfl, by decide +kernel, by decide +kernel⟩
abbrev s__law_is_alphabet : Stmt := topS 43
abbrev N__law_is_alphabet : List Str := ["_law_letters_here", "_law_k"]
theorem sc__law_is_alphabet : FnScope N__law_is_alphabet ["_law_letters_here"] (defScope s__law_is_alphabet) := ⟨rfl, rfl, rfl, by decide +kernel, rfl, by decide +kernel, by decide +kernel⟩
abbrev s__law_ask : Stmt := topS 44
abbrev N__law_ask : List Str := ["_law_kind", "_law_letters_here", "_law_heavy_here", "_law_words_here", "e", "_law_plain", "_law_marks"]
theorem sc__law_ask : FnScope N__law_ask ["_law_kind", "_law_letters_here", "_law_heavy_here", "_law_words_here"] (defScope s__law_ask) := ⟨rfl, rfl, rfl, by decide +kernel, rfl, by decide +kernel, by decide +kernel⟩
abbrev s__law_due : Stmt := topS 45
abbrev N__law_due : List Str := ["_law_kind", "_law_letters_here", "_law_heavy_here", "_law_words_here", "_law_asked", "_law_word_here", "_law_fault", "_law_x"]
theorem sc__law_due : FnScope N__law_due ["_law_kind", "_law_letters_here", "_law_heavy_here", "_law_words_here"] (defScope s__law_due) := ⟨rfl, rfl, rfl, by decide +kernel, rfl, by decide +kernel, by decide +kernel⟩
abbrev s__law_near : Stmt := topS 46
abbrev N__law_near : List Str := ["_law_store", "_law_letters_here", "_law_word_here", "_law_kind", "_law_spot"]
theorem sc__law_near : FnScope N__law_near ["_law_store", "_law_letters_here", "_law_word_here"] (defScope s__law_near) := ⟨rfl, rfl, rfl, by decide +kernel, rfl, by decide +kernel, by decide +kernel⟩
abbrev s__law_words : Stmt := topS 47
abbrev N__law_words : List Str := ["_law_store", "_law_letters_here", "_law_size", "_law_out", "_law_k", "_law_old"]
theorem sc__law_words : FnScope N__law_words ["_law_store", "_law_letters_here"] (defScope s__law_words) := ⟨rfl, rfl, rfl, by decide +kernel, rfl, by decide +kernel, by decide +kernel⟩
abbrev s__law_all_right : Stmt := topS 48
abbrev N__law_all_right : List Str := ["_law_letters_here", "_law_heavy_here", "_law_words_here", "_law_kind", "_law_handed", "_law_given", "_law_due_here", "_law_told"]
theorem sc__law_all_right : FnScope N__law_all_right ["_law_letters_here", "_law_heavy_here", "_law_words_here"] (defScope s__law_all_right) := ⟨rfl, rfl, rfl, by decide +kernel, rfl, by decide +kernel, by decide +kernel⟩
abbrev s__law_large_right : Stmt := topS 49
abbrev N__law_large_right : List Str := ["_law_store", "_law_letters_here", "_law_heavy_here", "_law_words_here", "_law_few", "_law_times", "_law_due_here", "_law_word_here", "_law_given", "_law_size", "_law_far", "_law_spot", "_law_bad", "_law_pair"]
theorem sc__law_large_right : FnScope N__law_large_right ["_law_store", "_law_letters_here", "_law_heavy_here", "_law_words_here"] (defScope s__law_large_right) := ⟨rfl, rfl, rfl, by decide +kernel, rfl, by decide +kernel, by decide +kernel⟩
abbrev s_law : Stmt := topS 50
abbrev N_law : List Str := ["_law_script", "_law_store", "_law_letters_here", "_law_heavy_here", "_law_words_here", "_law_pair", "_law_bad_letters_here", "_law_bad_heavy_here", "_law_bad_words", "_law_k", "_law_told", "_law_spot"]
theorem sc_law : FnScope N_law ["_law_script"] (defScope s_law) := ⟨rfl, rfl, rfl, by decide +kernel, rfl, by decide +kernel, by decide +kernel⟩
abbrev sI_BadLetters : Stmt := clsFn (topS 6) 0
theorem scI_BadLetters : ScI ["self", "text"] ["self", "text"] (defScope sI_BadLetters) := ⟨rfl, rfl, rfl, by decide +kernel, rfl, by decide +kernel, by decide +kernel, by decide +kernel, rfl, rfl⟩
abbrev sI_BadWord : Stmt := clsFn (topS 7) 0
theorem scI_BadWord : ScI ["self", "text"] ["self", "text"] (defScope sI_BadWord) := ⟨rfl, rfl, rfl, by decide +kernel, rfl, by decide +kernel, by decide +kernel, by decide +kernel, rfl, rfl⟩
structure Fx (P : Program) (K : PySem.W.Frag) (mg : Str → Option Value) : Type where
  f_is_alphabet : Addr
  d_is_alphabet : FuncData
  F_is_alphabet : Fun K "is_alphabet" "is_alphabet" s_is_alphabet f_is_alphabet d_is_alphabet
  g_is_alphabet : mg "is_alphabet" = some (.ref f_is_alphabet)
  f_has_only : Addr
  d_has_only : FuncData
  F_has_only : Fun K "has_only" "has_only" s_has_only f_has_only d_has_only
  g_has_only : mg "has_only" = some (.ref f_has_only)
  f_check_letters : Addr
  d_check_letters : FuncData
  F_check_letters : Fun K "check_letters" "check_letters" s_check_letters f_check_letters d_check_letters
  g_check_letters : mg "check_letters" = some (.ref f_check_letters)
  f_check_weights : Addr
  d_check_weights : FuncData
  F_check_weights : Fun K "check_weights" "check_weights" s_check_weights f_check_weights d_check_weights
  g_check_weights : mg "check_weights" = some (.ref f_check_weights)
  f_check_word : Addr
  d_check_word : FuncData
  F_check_word : Fun K "check_word" "check_word" s_check_word f_check_word d_check_word
  g_check_word : mg "check_word" = some (.ref f_check_word)
  f_sum_weights : Addr
  d_sum_weights : FuncData
  F_sum_weights : Fun K "sum_weights" "sum_weights" s_sum_weights f_sum_weights d_sum_weights
  g_sum_weights : mg "sum_weights" = some (.ref f_sum_weights)
  f_order_key : Addr
  d_order_key : FuncData
  F_order_key : Fun K "order_key" "order_key" s_order_key f_order_key d_order_key
  g_order_key : mg "order_key" = some (.ref f_order_key)
  f_word_weight : Addr
  d_word_weight : FuncData
  F_word_weight : Fun K "word_weight" "word_weight" s_word_weight f_word_weight d_word_weight
  g_word_weight : mg "word_weight" = some (.ref f_word_weight)
  f_compare_words : Addr
  d_compare_words : FuncData
  F_compare_words : Fun K "compare_words" "compare_words" s_compare_words f_compare_words d_compare_words
  g_compare_words : mg "compare_words" = some (.ref f_compare_words)
  f_sort_words : Addr
  d_sort_words : FuncData
  F_sort_words : Fun K "sort_words" "sort_words" s_sort_words f_sort_words d_sort_words
  g_sort_words : mg "sort_words" = some (.ref f_sort_words)
  f__law_draws : Addr
  d__law_draws : FuncData
  F__law_draws : Fun K "_law_draws" "_law_draws" s__law_draws f__law_draws d__law_draws
  g__law_draws : mg "_law_draws" = some (.ref f__law_draws)
  f__law_mixed : Addr
  d__law_mixed : FuncData
  F__law_mixed : Fun K "_law_mixed" "_law_mixed" s__law_mixed f__law_mixed d__law_mixed
  g__law_mixed : mg "_law_mixed" = some (.ref f__law_mixed)
  f__law_take : Addr
  d__law_take : FuncData
  F__law_take : Fun K "_law_take" "_law_take" s__law_take f__law_take d__law_take
  g__law_take : mg "_law_take" = some (.ref f__law_take)
  f__law_span : Addr
  d__law_span : FuncData
  F__law_span : Fun K "_law_span" "_law_span" s__law_span f__law_span d__law_span
  g__law_span : mg "_law_span" = some (.ref f__law_span)
  f__law_rare : Addr
  d__law_rare : FuncData
  F__law_rare : Fun K "_law_rare" "_law_rare" s__law_rare f__law_rare d__law_rare
  g__law_rare : mg "_law_rare" = some (.ref f__law_rare)
  f__law_pick : Addr
  d__law_pick : FuncData
  F__law_pick : Fun K "_law_pick" "_law_pick" s__law_pick f__law_pick d__law_pick
  g__law_pick : mg "_law_pick" = some (.ref f__law_pick)
  f__law_in_range : Addr
  d__law_in_range : FuncData
  F__law_in_range : Fun K "_law_in_range" "_law_in_range" s__law_in_range f__law_in_range d__law_in_range
  g__law_in_range : mg "_law_in_range" = some (.ref f__law_in_range)
  f__law_out_of_range : Addr
  d__law_out_of_range : FuncData
  F__law_out_of_range : Fun K "_law_out_of_range" "_law_out_of_range" s__law_out_of_range f__law_out_of_range d__law_out_of_range
  g__law_out_of_range : mg "_law_out_of_range" = some (.ref f__law_out_of_range)
  f__law_letters : Addr
  d__law_letters : FuncData
  F__law_letters : Fun K "_law_letters" "_law_letters" s__law_letters f__law_letters d__law_letters
  g__law_letters : mg "_law_letters" = some (.ref f__law_letters)
  f__law_stranger : Addr
  d__law_stranger : FuncData
  F__law_stranger : Fun K "_law_stranger" "_law_stranger" s__law_stranger f__law_stranger d__law_stranger
  g__law_stranger : mg "_law_stranger" = some (.ref f__law_stranger)
  f__law_bad_letters : Addr
  d__law_bad_letters : FuncData
  F__law_bad_letters : Fun K "_law_bad_letters" "_law_bad_letters" s__law_bad_letters f__law_bad_letters d__law_bad_letters
  g__law_bad_letters : mg "_law_bad_letters" = some (.ref f__law_bad_letters)
  f__law_heavy : Addr
  d__law_heavy : FuncData
  F__law_heavy : Fun K "_law_heavy" "_law_heavy" s__law_heavy f__law_heavy d__law_heavy
  g__law_heavy : mg "_law_heavy" = some (.ref f__law_heavy)
  f__law_bad_heavy : Addr
  d__law_bad_heavy : FuncData
  F__law_bad_heavy : Fun K "_law_bad_heavy" "_law_bad_heavy" s__law_bad_heavy f__law_bad_heavy d__law_bad_heavy
  g__law_bad_heavy : mg "_law_bad_heavy" = some (.ref f__law_bad_heavy)
  f__law_word : Addr
  d__law_word : FuncData
  F__law_word : Fun K "_law_word" "_law_word" s__law_word f__law_word d__law_word
  g__law_word : mg "_law_word" = some (.ref f__law_word)
  f__law_bad_word : Addr
  d__law_bad_word : FuncData
  F__law_bad_word : Fun K "_law_bad_word" "_law_bad_word" s__law_bad_word f__law_bad_word d__law_bad_word
  g__law_bad_word : mg "_law_bad_word" = some (.ref f__law_bad_word)
  f__law_same : Addr
  d__law_same : FuncData
  F__law_same : Fun K "_law_same" "_law_same" s__law_same f__law_same d__law_same
  g__law_same : mg "_law_same" = some (.ref f__law_same)
  f__law_word_fault : Addr
  d__law_word_fault : FuncData
  F__law_word_fault : Fun K "_law_word_fault" "_law_word_fault" s__law_word_fault f__law_word_fault d__law_word_fault
  g__law_word_fault : mg "_law_word_fault" = some (.ref f__law_word_fault)
  f__law_weigh : Addr
  d__law_weigh : FuncData
  F__law_weigh : Fun K "_law_weigh" "_law_weigh" s__law_weigh f__law_weigh d__law_weigh
  g__law_weigh : mg "_law_weigh" = some (.ref f__law_weigh)
  f__law_order : Addr
  d__law_order : FuncData
  F__law_order : Fun K "_law_order" "_law_order" s__law_order f__law_order d__law_order
  g__law_order : mg "_law_order" = some (.ref f__law_order)
  f__law_sorted : Addr
  d__law_sorted : FuncData
  F__law_sorted : Fun K "_law_sorted" "_law_sorted" s__law_sorted f__law_sorted d__law_sorted
  g__law_sorted : mg "_law_sorted" = some (.ref f__law_sorted)
  f__law_is_alphabet : Addr
  d__law_is_alphabet : FuncData
  F__law_is_alphabet : Fun K "_law_is_alphabet" "_law_is_alphabet" s__law_is_alphabet f__law_is_alphabet d__law_is_alphabet
  g__law_is_alphabet : mg "_law_is_alphabet" = some (.ref f__law_is_alphabet)
  f__law_ask : Addr
  d__law_ask : FuncData
  F__law_ask : Fun K "_law_ask" "_law_ask" s__law_ask f__law_ask d__law_ask
  g__law_ask : mg "_law_ask" = some (.ref f__law_ask)
  f__law_due : Addr
  d__law_due : FuncData
  F__law_due : Fun K "_law_due" "_law_due" s__law_due f__law_due d__law_due
  g__law_due : mg "_law_due" = some (.ref f__law_due)
  f__law_near : Addr
  d__law_near : FuncData
  F__law_near : Fun K "_law_near" "_law_near" s__law_near f__law_near d__law_near
  g__law_near : mg "_law_near" = some (.ref f__law_near)
  f__law_words : Addr
  d__law_words : FuncData
  F__law_words : Fun K "_law_words" "_law_words" s__law_words f__law_words d__law_words
  g__law_words : mg "_law_words" = some (.ref f__law_words)
  f__law_all_right : Addr
  d__law_all_right : FuncData
  F__law_all_right : Fun K "_law_all_right" "_law_all_right" s__law_all_right f__law_all_right d__law_all_right
  g__law_all_right : mg "_law_all_right" = some (.ref f__law_all_right)
  f__law_large_right : Addr
  d__law_large_right : FuncData
  F__law_large_right : Fun K "_law_large_right" "_law_large_right" s__law_large_right f__law_large_right d__law_large_right
  g__law_large_right : mg "_law_large_right" = some (.ref f__law_large_right)
  f_law : Addr
  d_law : FuncData
  F_law : Fun K "law" "law" s_law f_law d_law
  g_law : mg "law" = some (.ref f_law)
  b_ValueError : mg "ValueError" = none
  b_abs : mg "abs" = none
  b_all : mg "all" = none
  b_bool : mg "bool" = none
  b_int : mg "int" = none
  b_isinstance : mg "isinstance" = none
  b_len : mg "len" = none
  b_list : mg "list" = none
  b_range : mg "range" = none
  b_set : mg "set" = none
  b_sorted : mg "sorted" = none
  b_str : mg "str" = none
  b_sum : mg "sum" = none
  b_super : mg "super" = none
  b_tuple : mg "tuple" = none
  c_LETTERS : ∃ u, mg "LETTERS" = some u ∧ RelV (.int 6) u
  c_WEIGHT : ∃ u, mg "WEIGHT" = some u ∧ RelV (.int 99) u
  c_WORD : ∃ u, mg "WORD" = some u ∧ RelV (.int 32) u
  C_WayfillError : Addr
  m_WayfillError : mg "WayfillError" = some (.ref C_WayfillError)
  e_WayfillError : ErF K C_WayfillError
  q_WayfillError : ExQ K C_WayfillError
  C_BoundError : Addr
  m_BoundError : mg "BoundError" = some (.ref C_BoundError)
  e_BoundError : ErF K C_BoundError
  q_BoundError : ExQ K C_BoundError
  C_TooLong : Addr
  m_TooLong : mg "TooLong" = some (.ref C_TooLong)
  e_TooLong : ErF K C_TooLong
  q_TooLong : ExQ K C_TooLong
  C_TooMany : Addr
  m_TooMany : mg "TooMany" = some (.ref C_TooMany)
  e_TooMany : ErF K C_TooMany
  q_TooMany : ExQ K C_TooMany
  C_BadWeights : Addr
  m_BadWeights : mg "BadWeights" = some (.ref C_BadWeights)
  e_BadWeights : ErF K C_BadWeights
  q_BadWeights : ExQ K C_BadWeights
  C_BadLetters : Addr
  m_BadLetters : mg "BadLetters" = some (.ref C_BadLetters)
  e_BadLetters : ErF K C_BadLetters
  C_BadWord : Addr
  m_BadWord : mg "BadWord" = some (.ref C_BadWord)
  e_BadWord : ErF K C_BadWord
  fI_BadLetters : Addr
  dI_BadLetters : FuncData
  i_BadLetters : ErrI P K mg C_BadLetters fI_BadLetters "BadLetters.__init__" (defArgs sI_BadLetters) (defBody sI_BadLetters) (defScope sI_BadLetters) dI_BadLetters
  fI_BadWord : Addr
  dI_BadWord : FuncData
  i_BadWord : ErrI P K mg C_BadWord fI_BadWord "BadWord.__init__" (defArgs sI_BadWord) (defBody sI_BadWord) (defScope sI_BadWord) dI_BadWord
  n_BadLetters_text : PySem.W.findIn K (.ref C_BadLetters) "text" = some none
  n_BadWord_text : PySem.W.findIn K (.ref C_BadWord) "text" = some none
  h_0 : tabOk (PySem.W.exmOne K) [("WayfillError", C_WayfillError), ("BoundError", C_BoundError), ("TooLong", C_TooLong), ("TooMany", C_TooMany), ("BadWeights", C_BadWeights), ("BadLetters", C_BadLetters), ("BadWord", C_BadWord)] (.ref C_WayfillError) [("WayfillError", true), ("BoundError", true), ("TooLong", true), ("TooMany", true), ("BadWeights", true), ("BadLetters", true), ("BadWord", true)] = true
  h_1 : tabOk (PySem.W.kitOne K) [("WayfillError", C_WayfillError), ("BoundError", C_BoundError), ("TooLong", C_TooLong), ("TooMany", C_TooMany), ("BadWeights", C_BadWeights), ("BadLetters", C_BadLetters), ("BadWord", C_BadWord)] (.type "ValueError") [("WayfillError", true), ("BoundError", true), ("TooLong", true), ("TooMany", true), ("BadWeights", true), ("BadLetters", true), ("BadWord", true)] = true
  h_2 : tabOk (PySem.W.kitOne K) [("WayfillError", C_WayfillError), ("BoundError", C_BoundError), ("TooLong", C_TooLong), ("TooMany", C_TooMany), ("BadWeights", C_BadWeights), ("BadLetters", C_BadLetters), ("BadWord", C_BadWord)] (.ref C_TooMany) [("WayfillError", false), ("BoundError", false), ("TooLong", false), ("TooMany", true), ("BadWeights", false), ("BadLetters", false), ("BadWord", false)] = true
  h_3 : tabOk (PySem.W.kitOne K) [("WayfillError", C_WayfillError), ("BoundError", C_BoundError), ("TooLong", C_TooLong), ("TooMany", C_TooMany), ("BadWeights", C_BadWeights), ("BadLetters", C_BadLetters), ("BadWord", C_BadWord)] (.ref C_TooLong) [("WayfillError", false), ("BoundError", false), ("TooLong", true), ("TooMany", false), ("BadWeights", false), ("BadLetters", false), ("BadWord", false)] = true
  h_4 : tabOk (PySem.W.kitOne K) [("WayfillError", C_WayfillError), ("BoundError", C_BoundError), ("TooLong", C_TooLong), ("TooMany", C_TooMany), ("BadWeights", C_BadWeights), ("BadLetters", C_BadLetters), ("BadWord", C_BadWord)] (.ref C_BadWord) [("WayfillError", false), ("BoundError", false), ("TooLong", false), ("TooMany", false), ("BadWeights", false), ("BadLetters", false), ("BadWord", true)] = true
  h_5 : tabOk (PySem.W.kitOne K) [("WayfillError", C_WayfillError), ("BoundError", C_BoundError), ("TooLong", C_TooLong), ("TooMany", C_TooMany), ("BadWeights", C_BadWeights), ("BadLetters", C_BadLetters), ("BadWord", C_BadWord)] (.ref C_BadWeights) [("WayfillError", false), ("BoundError", false), ("TooLong", false), ("TooMany", false), ("BadWeights", true), ("BadLetters", false), ("BadWord", false)] = true
  h_6 : tabOk (PySem.W.kitOne K) [("WayfillError", C_WayfillError), ("BoundError", C_BoundError), ("TooLong", C_TooLong), ("TooMany", C_TooMany), ("BadWeights", C_BadWeights), ("BadLetters", C_BadLetters), ("BadWord", C_BadWord)] (.ref C_BadLetters) [("WayfillError", false), ("BoundError", false), ("TooLong", false), ("TooMany", false), ("BadWeights", false), ("BadLetters", true), ("BadWord", false)] = true
  h_7 : tabOk (PySem.W.kitOne K) [("WayfillError", C_WayfillError), ("BoundError", C_BoundError), ("TooLong", C_TooLong), ("TooMany", C_TooMany), ("BadWeights", C_BadWeights), ("BadLetters", C_BadLetters), ("BadWord", C_BadWord)] (.ref C_BoundError) [("WayfillError", false), ("BoundError", true), ("TooLong", true), ("TooMany", true), ("BadWeights", false), ("BadLetters", false), ("BadWord", false)] = true
section
variable {P : Program} {w : World} {K : PySem.W.Frag} {mg : Str → Option Value} {base : Heap}
abbrev clT (T : Fx P K mg) : List (String × Addr) := [("WayfillError", T.C_WayfillError), ("BoundError", T.C_BoundError), ("TooLong", T.C_TooLong), ("TooMany", T.C_TooMany), ("BadWeights", T.C_BadWeights), ("BadLetters", T.C_BadLetters), ("BadWord", T.C_BadWord)]
abbrev cvT (T : Fx P K mg) : Cv := ⟨clOf (clT T), none⟩
theorem cl_WayfillError (T : Fx P K mg) : (cvT T).cl "WayfillError" = .ref T.C_WayfillError := by simp [cvT, clT, clOf, List.lookup]
theorem cl_BoundError (T : Fx P K mg) : (cvT T).cl "BoundError" = .ref T.C_BoundError := by simp [cvT, clT, clOf, List.lookup]
theorem cl_TooLong (T : Fx P K mg) : (cvT T).cl "TooLong" = .ref T.C_TooLong := by simp [cvT, clT, clOf, List.lookup]
theorem cl_TooMany (T : Fx P K mg) : (cvT T).cl "TooMany" = .ref T.C_TooMany := by simp [cvT, clT, clOf, List.lookup]
theorem cl_BadWeights (T : Fx P K mg) : (cvT T).cl "BadWeights" = .ref T.C_BadWeights := by simp [cvT, clT, clOf, List.lookup]
theorem cl_BadLetters (T : Fx P K mg) : (cvT T).cl "BadLetters" = .ref T.C_BadLetters := by simp [cvT, clT, clOf, List.lookup]
theorem cl_BadWord (T : Fx P K mg) : (cvT T).cl "BadWord" = .ref T.C_BadWord := by simp [cvT, clT, clOf, List.lookup]
theorem kE (T : Fx P K mg) : ∀ p ∈ clT T, ErF K p.2 := by
  intro p hp
  simp only [clT, List.mem_cons, List.not_mem_nil, or_false] at hp
  rcases hp with rfl | rfl | rfl | rfl | rfl | rfl | rfl
  · exact T.e_WayfillError
  · exact T.e_BoundError
  · exact T.e_TooLong
  · exact T.e_TooMany
  · exact T.e_BadWeights
  · exact T.e_BadLetters
  · exact T.e_BadWord
theorem bI_BadLetters (T : Fx P K mg) : Binds K T.dI_BadLetters ["self", "text"] [] := errI_binds T.i_BadLetters fun _ _ _ _ _ _ _ us hl => match us, hl with | [_, _], _ => rfl
theorem okI_BadLetters (T : Fx P K mg) : FnOk P w K mg base (L2.CX P w) 1 T.fI_BadLetters T.dI_BadLetters ["self", "text"] (spI T.C_BadLetters 1 (okF [0]) (errF .non [("text", 0)])) :=
  init1 scI_BadLetters T.i_BadLetters (argJ2 (by decide) (fo_r rfl rfl) (by decide) (fun us h => h 0 (by simp))) T.n_BadLetters_text rfl rfl (fun env => ⟨_, rfl⟩) (fun env => rfl) (fun env => rfl)
theorem bI_BadWord (T : Fx P K mg) : Binds K T.dI_BadWord ["self", "text"] [] := errI_binds T.i_BadWord fun _ _ _ _ _ _ _ us hl => match us, hl with | [_, _], _ => rfl
theorem okI_BadWord (T : Fx P K mg) : FnOk P w K mg base (L2.CX P w) 1 T.fI_BadWord T.dI_BadWord ["self", "text"] (spI T.C_BadWord 1 (okF [0]) (errF .non [("text", 0)])) :=
  init1 scI_BadWord T.i_BadWord (argJ2 (by decide) (fo_r rfl rfl) (by decide) (fun us h => h 0 (by simp))) T.n_BadWord_text rfl rfl (fun env => ⟨_, rfl⟩) (fun env => rfl) (fun env => rfl)
theorem b_is_alphabet (T : Fx P K mg) : Binds K T.d_is_alphabet ["letters"] [] := T.F_is_alphabet.binds fun _ _ _ _ _ _ us hl => match us, hl with | [_], _ => rfl
theorem b_has_only (T : Fx P K mg) : Binds K T.d_has_only ["letters", "word"] [] := T.F_has_only.binds fun _ _ _ _ _ _ us hl => match us, hl with | [_, _], _ => rfl
theorem b_check_letters (T : Fx P K mg) : Binds K T.d_check_letters ["letters"] [] := T.F_check_letters.binds fun _ _ _ _ _ _ us hl => match us, hl with | [_], _ => rfl
theorem b_check_weights (T : Fx P K mg) : Binds K T.d_check_weights ["letters", "weights"] [] := T.F_check_weights.binds fun _ _ _ _ _ _ us hl => match us, hl with | [_, _], _ => rfl
theorem b_check_word (T : Fx P K mg) : Binds K T.d_check_word ["letters", "word"] [] := T.F_check_word.binds fun _ _ _ _ _ _ us hl => match us, hl with | [_, _], _ => rfl
theorem b_sum_weights (T : Fx P K mg) : Binds K T.d_sum_weights ["letters", "weights", "word"] [] := T.F_sum_weights.binds fun _ _ _ _ _ _ us hl => match us, hl with | [_, _, _], _ => rfl
theorem b_order_key (T : Fx P K mg) : Binds K T.d_order_key ["letters", "weights", "word"] [] := T.F_order_key.binds fun _ _ _ _ _ _ us hl => match us, hl with | [_, _, _], _ => rfl
theorem b_word_weight (T : Fx P K mg) : Binds K T.d_word_weight ["letters", "weights", "word"] [] := T.F_word_weight.binds fun _ _ _ _ _ _ us hl => match us, hl with | [_, _, _], _ => rfl
theorem b_compare_words (T : Fx P K mg) : Binds K T.d_compare_words ["letters", "weights", "one", "other"] [] := T.F_compare_words.binds fun _ _ _ _ _ _ us hl => match us, hl with | [_, _, _, _], _ => rfl
theorem b_sort_words (T : Fx P K mg) : Binds K T.d_sort_words ["letters", "weights", "words"] [] := T.F_sort_words.binds fun _ _ _ _ _ _ us hl => match us, hl with | [_, _, _], _ => rfl
theorem b__law_draws (T : Fx P K mg) : Binds K T.d__law_draws ["_law_script"] [] := T.F__law_draws.binds fun _ _ _ _ _ _ us hl => match us, hl with | [_], _ => rfl
theorem b__law_mixed (T : Fx P K mg) : Binds K T.d__law_mixed ["_law_seed", "_law_turn"] [] := T.F__law_mixed.binds fun _ _ _ _ _ _ us hl => match us, hl with | [_, _], _ => rfl
theorem b__law_take (T : Fx P K mg) : Binds K T.d__law_take ["_law_store", "_law_size"] [] := T.F__law_take.binds fun _ _ _ _ _ _ us hl => match us, hl with | [_, _], _ => rfl
theorem b__law_span (T : Fx P K mg) : Binds K T.d__law_span ["_law_store", "_law_low", "_law_high"] [] := T.F__law_span.binds fun _ _ _ _ _ _ us hl => match us, hl with | [_, _, _], _ => rfl
theorem b__law_rare (T : Fx P K mg) : Binds K T.d__law_rare ["_law_store", "_law_size"] [] := T.F__law_rare.binds fun _ _ _ _ _ _ us hl => match us, hl with | [_, _], _ => rfl
theorem b__law_pick (T : Fx P K mg) : Binds K T.d__law_pick ["_law_store", "_law_row"] [] := T.F__law_pick.binds fun _ _ _ _ _ _ us hl => match us, hl with | [_, _], _ => rfl
theorem b__law_in_range (T : Fx P K mg) : Binds K T.d__law_in_range ["_law_store", "_law_low", "_law_high"] [] := T.F__law_in_range.binds fun _ _ _ _ _ _ us hl => match us, hl with | [_, _, _], _ => rfl
theorem b__law_out_of_range (T : Fx P K mg) : Binds K T.d__law_out_of_range ["_law_store", "_law_low", "_law_high"] [] := T.F__law_out_of_range.binds fun _ _ _ _ _ _ us hl => match us, hl with | [_, _, _], _ => rfl
theorem b__law_letters (T : Fx P K mg) : Binds K T.d__law_letters ["_law_store", "_law_low", "_law_high"] [] := T.F__law_letters.binds fun _ _ _ _ _ _ us hl => match us, hl with | [_, _, _], _ => rfl
theorem b__law_stranger (T : Fx P K mg) : Binds K T.d__law_stranger ["_law_store", "_law_letters_here"] [] := T.F__law_stranger.binds fun _ _ _ _ _ _ us hl => match us, hl with | [_, _], _ => rfl
theorem b__law_bad_letters (T : Fx P K mg) : Binds K T.d__law_bad_letters ["_law_store"] [] := T.F__law_bad_letters.binds fun _ _ _ _ _ _ us hl => match us, hl with | [_], _ => rfl
theorem b__law_heavy (T : Fx P K mg) : Binds K T.d__law_heavy ["_law_store", "_law_size"] [] := T.F__law_heavy.binds fun _ _ _ _ _ _ us hl => match us, hl with | [_, _], _ => rfl
theorem b__law_bad_heavy (T : Fx P K mg) : Binds K T.d__law_bad_heavy ["_law_store", "_law_size"] [] := T.F__law_bad_heavy.binds fun _ _ _ _ _ _ us hl => match us, hl with | [_, _], _ => rfl
theorem b__law_word (T : Fx P K mg) : Binds K T.d__law_word ["_law_store", "_law_letters_here", "_law_low", "_law_high"] [] := T.F__law_word.binds fun _ _ _ _ _ _ us hl => match us, hl with | [_, _, _, _], _ => rfl
theorem b__law_bad_word (T : Fx P K mg) : Binds K T.d__law_bad_word ["_law_store", "_law_letters_here"] [] := T.F__law_bad_word.binds fun _ _ _ _ _ _ us hl => match us, hl with | [_, _], _ => rfl
theorem b__law_same (T : Fx P K mg) : Binds K T.d__law_same ["_law_told", "_law_due_here"] [] := T.F__law_same.binds fun _ _ _ _ _ _ us hl => match us, hl with | [_, _], _ => rfl
theorem b__law_word_fault (T : Fx P K mg) : Binds K T.d__law_word_fault ["_law_letters_here", "_law_word_here", "_law_size"] [] := T.F__law_word_fault.binds fun _ _ _ _ _ _ us hl => match us, hl with | [_, _, _], _ => rfl
theorem b__law_weigh (T : Fx P K mg) : Binds K T.d__law_weigh ["_law_letters_here", "_law_heavy_here", "_law_word_here"] [] := T.F__law_weigh.binds fun _ _ _ _ _ _ us hl => match us, hl with | [_, _, _], _ => rfl
theorem b__law_order (T : Fx P K mg) : Binds K T.d__law_order ["_law_letters_here", "_law_heavy_here", "_law_first", "_law_second"] [] := T.F__law_order.binds fun _ _ _ _ _ _ us hl => match us, hl with | [_, _, _, _], _ => rfl
theorem b__law_sorted (T : Fx P K mg) : Binds K T.d__law_sorted ["_law_letters_here", "_law_heavy_here", "_law_words_here"] [] := T.F__law_sorted.binds fun _ _ _ _ _ _ us hl => match us, hl with | [_, _, _], _ => rfl
theorem b__law_is_alphabet (T : Fx P K mg) : Binds K T.d__law_is_alphabet ["_law_letters_here"] [] := T.F__law_is_alphabet.binds fun _ _ _ _ _ _ us hl => match us, hl with | [_], _ => rfl
theorem b__law_ask (T : Fx P K mg) : Binds K T.d__law_ask ["_law_kind", "_law_letters_here", "_law_heavy_here", "_law_words_here"] [] := T.F__law_ask.binds fun _ _ _ _ _ _ us hl => match us, hl with | [_, _, _, _], _ => rfl
theorem b__law_due (T : Fx P K mg) : Binds K T.d__law_due ["_law_kind", "_law_letters_here", "_law_heavy_here", "_law_words_here"] [] := T.F__law_due.binds fun _ _ _ _ _ _ us hl => match us, hl with | [_, _, _, _], _ => rfl
theorem b__law_near (T : Fx P K mg) : Binds K T.d__law_near ["_law_store", "_law_letters_here", "_law_word_here"] [] := T.F__law_near.binds fun _ _ _ _ _ _ us hl => match us, hl with | [_, _, _], _ => rfl
theorem b__law_words (T : Fx P K mg) : Binds K T.d__law_words ["_law_store", "_law_letters_here"] [] := T.F__law_words.binds fun _ _ _ _ _ _ us hl => match us, hl with | [_, _], _ => rfl
theorem b__law_all_right (T : Fx P K mg) : Binds K T.d__law_all_right ["_law_letters_here", "_law_heavy_here", "_law_words_here"] [] := T.F__law_all_right.binds fun _ _ _ _ _ _ us hl => match us, hl with | [_, _, _], _ => rfl
theorem b__law_large_right (T : Fx P K mg) : Binds K T.d__law_large_right ["_law_store", "_law_letters_here", "_law_heavy_here", "_law_words_here"] [] := T.F__law_large_right.binds fun _ _ _ _ _ _ us hl => match us, hl with | [_, _, _, _], _ => rfl
theorem b_law (T : Fx P K mg) : Binds K T.d_law ["_law_script"] [] := T.F_law.binds fun _ _ _ _ _ _ us hl => match us, hl with | [_], _ => rfl
theorem kw_compare_words_0 (T : Fx P K mg) : KwB K T.d_compare_words ["letters", "weights", "one", "other"] 0 ["other", "one", "weights", "letters"] [3, 2, 1, 0] := kwb T.F_compare_words fun _ _ _ _ _ _ us ws h1 h2 => match us, ws, h1, h2 with | [], [_, _, _, _], _, _ => rfl
theorem kw_word_weight_1 (T : Fx P K mg) : KwB K T.d_word_weight ["letters", "weights", "word"] 0 ["word", "weights", "letters"] [2, 1, 0] := kwb T.F_word_weight fun _ _ _ _ _ _ us ws h1 h2 => match us, ws, h1, h2 with | [], [_, _, _], _, _ => rfl
theorem kw_sort_words_2 (T : Fx P K mg) : KwB K T.d_sort_words ["letters", "weights", "words"] 0 ["words", "weights", "letters"] [2, 1, 0] := kwb T.F_sort_words fun _ _ _ _ _ _ us ws h1 h2 => match us, ws, h1, h2 with | [], [_, _, _], _, _ => rfl
theorem ok_is_alphabet (T : Fx P K mg) : FnOk P w K mg base (L2.CX P w) 1 T.f_is_alphabet T.d_is_alphabet ["letters"] (spT ⟨K, cvT T⟩ m_is_alphabet) :=
  fn_ok (k := 0) T.F_is_alphabet sc_is_alphabet fun cdv A outer s H E hr =>
    (db_cons (ds_if (dt_not (dt_chain o2_le o2_le f_ord f_ord de_int (de_callB call_len f_len rfl T.b_len (by decide +kernel) (da_cons (de_var 0) da_nil)) (de_glob rfl T.c_LETTERS (fun _ _ _ => rfl)))) (db_one (ds_ret de_bl)) db_nil)
    (db_cons (ds_if (dt_cmp (op_neD hr.units) f_ne (de_lenSet rfl rfl T.b_len rfl T.b_set (de_var 0)) (de_callB call_len f_len rfl T.b_len (by decide +kernel) (da_cons (de_var 0) da_nil)) (nomark _)) (db_one (ds_ret de_bl)) db_nil)
    (db_one (ds_ret (de_callB (cr_all rfl) f_bls rfl T.b_all (by decide +kernel) (da_cons (de_fz (do_lc (own := [("sign", 1)]) rfl sc_is_alphabet.nd (by decide) (di_any (de_var 0)) (blkOk_by (N := N_is_alphabet) (sc := defScope s_is_alphabet) (by decide +kernel)) (fun _ _ _ _ _ => (dg_name 1 sc_is_alphabet.nd)) (fun _ _ _ _ _ => dts_nil) (fun _ _ _ _ _ => (de_chain o2_le o2_le f_ord f_ord (de_str (t := "a")) (de_var 1) (de_str (t := "z")))))) da_nil))))))
theorem ok_has_only (T : Fx P K mg) : FnOk P w K mg base (L2.CX P w) 1 T.f_has_only T.d_has_only ["letters", "word"] (spT ⟨K, cvT T⟩ m_has_only) :=
  fn_ok (k := 0) T.F_has_only sc_has_only fun cdv A outer s H E hr =>
    (db_one (ds_ret (de_callB (cr_all rfl) f_bls rfl T.b_all (by decide +kernel) (da_cons (de_fz (do_lc (own := [("sign", 2)]) rfl sc_has_only.nd (by decide) (di_any (de_var 1)) (blkOk_by (N := N_has_only) (sc := defScope s_has_only) (by decide +kernel)) (fun _ _ _ _ _ => (dg_name 2 sc_has_only.nd)) (fun _ _ _ _ _ => dts_nil) (fun _ _ _ _ _ => (de_cmp o2_in f_in (de_var 2) (de_var 0) rfl)))) da_nil))))
theorem ok_check_letters (T : Fx P K mg) : FnOk P w K mg base (L2.CX P w) 3 T.f_check_letters T.d_check_letters ["letters"] (spT ⟨K, cvT T⟩ m_check_letters) :=
  fn_ok (k := 2) T.F_check_letters sc_check_letters fun cdv A outer s H E hr =>
    (db_one (ds_if (dt_not (dt_val (de_callP (takes_of rfl rfl rfl rfl) (ok_is_alphabet T) (hr.mono (by decide)) (dc_pos rfl T.g_is_alphabet T.F_is_alphabet.kp (b_is_alphabet T) .nil (fun _ _ => rfl) (da_cons (de_var 0) da_nil))))) (db_one (ds_raise "BadLetters" [("text", 0)] [0] (cl_BadLetters T) T.e_BadLetters.ox T.i_BadLetters.iC T.i_BadLetters.tI (okI_BadLetters T) (by decide) (hr.mono (by decide)) (bI_BadLetters T) rfl T.m_BadLetters rfl (takes_of rfl rfl rfl rfl) (da_cons (de_var 0) da_nil))) db_nil))
theorem ok_check_weights (T : Fx P K mg) : FnOk P w K mg base (L2.CX P w) 1 T.f_check_weights T.d_check_weights ["letters", "weights"] (spT ⟨K, cvT T⟩ m_check_weights) :=
  fn_ok (k := 0) T.F_check_weights sc_check_weights fun cdv A outer s H E hr =>
    (db_cons (ds_if (dt_cmp (op_neD hr.units) f_ne (de_callB call_len f_len rfl T.b_len (by decide +kernel) (da_cons (de_var 1) da_nil)) (de_callB call_len f_len rfl T.b_len (by decide +kernel) (da_cons (de_var 0) da_nil)) (nomark _)) (db_one (ds_raise0 "BadWeights" (cl_BadWeights T) T.q_BadWeights T.e_BadWeights.ox.kC T.e_BadWeights.ox.exC T.e_BadWeights.ox.tyC rfl T.m_BadWeights rfl (takes_of rfl rfl rfl rfl))) db_nil)
    (db_one (ds_if (dt_not (dt_val (de_callB (cr_all rfl) f_bls rfl T.b_all (by decide +kernel) (da_cons (de_fz (do_lc (own := [("weight", 2)]) rfl sc_check_weights.nd (by decide) (di_any (de_var 1)) (blkOk_by (N := N_check_weights) (sc := defScope s_check_weights) (by decide +kernel)) (fun _ _ _ _ _ => (dg_name 2 sc_check_weights.nd)) (fun _ _ _ _ _ => dts_nil) (fun _ _ _ _ _ => (de_chain o2_le o2_le f_ord f_ord de_int (de_var 2) (de_glob rfl T.c_WEIGHT (fun _ _ _ => rfl)))))) da_nil)))) (db_one (ds_raise0 "BadWeights" (cl_BadWeights T) T.q_BadWeights T.e_BadWeights.ox.kC T.e_BadWeights.ox.exC T.e_BadWeights.ox.tyC rfl T.m_BadWeights rfl (takes_of rfl rfl rfl rfl))) db_nil)))
theorem ok_check_word (T : Fx P K mg) : FnOk P w K mg base (L2.CX P w) 3 T.f_check_word T.d_check_word ["letters", "word"] (spT ⟨K, cvT T⟩ m_check_word) :=
  fn_ok (k := 2) T.F_check_word sc_check_word fun cdv A outer s H E hr =>
    (db_cons (ds_if (dt_not (dt_val (de_callP (takes_of rfl rfl rfl rfl) (ok_has_only T) (hr.mono (by decide)) (dc_pos rfl T.g_has_only T.F_has_only.kp (b_has_only T) .nil (fun _ _ => rfl) (da_cons (de_var 0) (da_cons (de_var 1) da_nil)))))) (db_one (ds_raise "BadWord" [("text", 0)] [0] (cl_BadWord T) T.e_BadWord.ox T.i_BadWord.iC T.i_BadWord.tI (okI_BadWord T) (by decide) (hr.mono (by decide)) (bI_BadWord T) rfl T.m_BadWord rfl (takes_of rfl rfl rfl rfl) (da_cons (de_var 1) da_nil))) db_nil)
    (db_one (ds_if (dt_cmp o2_gt f_ord (de_callB call_len f_len rfl T.b_len (by decide +kernel) (da_cons (de_var 1) da_nil)) (de_glob rfl T.c_WORD (fun _ _ _ => rfl)) (nomark _)) (db_one (ds_raise0 "TooLong" (cl_TooLong T) T.q_TooLong T.e_TooLong.ox.kC T.e_TooLong.ox.exC T.e_TooLong.ox.tyC rfl T.m_TooLong rfl (takes_of rfl rfl rfl rfl))) db_nil)))
theorem ok_sum_weights (T : Fx P K mg) : FnOk P w K mg base (L2.CX P w) 1 T.f_sum_weights T.d_sum_weights ["letters", "weights", "word"] (spT ⟨K, cvT T⟩ m_sum_weights) :=
  fn_ok (k := 0) T.F_sum_weights sc_sum_weights fun cdv A outer s H E hr =>
    (db_one (ds_ret (de_callB (cr_sum rfl) f_sum rfl T.b_sum (by decide +kernel) (da_cons (de_fz (do_lc (own := [("sign", 3)]) rfl sc_sum_weights.nd (by decide) (di_any (de_var 2)) (blkOk_by (N := N_sum_weights) (sc := defScope s_sum_weights) (by decide +kernel)) (fun _ _ _ _ _ => (dg_name 3 sc_sum_weights.nd)) (fun _ _ _ _ _ => dts_nil) (fun _ _ _ _ _ => (de_ix ix_seq f_ix (de_var 1) (de_meS PySem.F.slot_str_index PySem.F.type_str_index mt_sindex f_index (de_var 0) (da_cons (de_var 3) da_nil)))))) da_nil))))
theorem ok_order_key (T : Fx P K mg) : FnOk P w K mg base (L2.CX P w) 2 T.f_order_key T.d_order_key ["letters", "weights", "word"] (spT ⟨K, cvT T⟩ m_order_key) :=
  fn_ok (k := 1) T.F_order_key sc_order_key fun cdv A outer s H E hr =>
    (db_one (ds_ret (de_tup (da_cons (de_callP (takes_of rfl rfl rfl rfl) (ok_sum_weights T) (hr.mono (by decide)) (dc_pos rfl T.g_sum_weights T.F_sum_weights.kp (b_sum_weights T) .nil (fun _ _ => rfl) (da_cons (de_var 0) (da_cons (de_var 1) (da_cons (de_var 2) da_nil))))) (da_cons (de_fz (do_lc (own := [("sign", 3)]) rfl sc_order_key.nd (by decide) (di_any (de_var 2)) (blkOk_by (N := N_order_key) (sc := defScope s_order_key) (by decide +kernel)) (fun _ _ _ _ _ => (dg_name 3 sc_order_key.nd)) (fun _ _ _ _ _ => dts_nil) (fun _ _ _ _ _ => (de_meS PySem.F.slot_str_index PySem.F.type_str_index mt_sindex f_index (de_var 0) (da_cons (de_var 3) da_nil))))) da_nil)))))
theorem ok_word_weight (T : Fx P K mg) : FnOk P w K mg base (L2.CX P w) 4 T.f_word_weight T.d_word_weight ["letters", "weights", "word"] (spT ⟨K, cvT T⟩ m_word_weight) :=
  fn_ok (k := 3) T.F_word_weight sc_word_weight fun cdv A outer s H E hr =>
    (db_cons (ds_expr (de_callP (takes_of rfl rfl rfl rfl) (ok_check_letters T) (hr.mono (by decide)) (dc_pos rfl T.g_check_letters T.F_check_letters.kp (b_check_letters T) .nil (fun _ _ => rfl) (da_cons (de_var 0) da_nil))))
    (db_cons (ds_expr (de_callP (takes_of rfl rfl rfl rfl) (ok_check_weights T) (hr.mono (by decide)) (dc_pos rfl T.g_check_weights T.F_check_weights.kp (b_check_weights T) .nil (fun _ _ => rfl) (da_cons (de_var 0) (da_cons (de_var 1) da_nil)))))
    (db_cons (ds_expr (de_callP (takes_of rfl rfl rfl rfl) (ok_check_word T) (hr.mono (by decide)) (dc_pos rfl T.g_check_word T.F_check_word.kp (b_check_word T) .nil (fun _ _ => rfl) (da_cons (de_var 0) (da_cons (de_var 2) da_nil)))))
    (db_one (ds_ret (de_callP (takes_of rfl rfl rfl rfl) (ok_sum_weights T) (hr.mono (by decide)) (dc_pos rfl T.g_sum_weights T.F_sum_weights.kp (b_sum_weights T) .nil (fun _ _ => rfl) (da_cons (de_var 0) (da_cons (de_var 1) (da_cons (de_var 2) da_nil))))))))))
theorem ok_compare_words (T : Fx P K mg) : FnOk P w K mg base (L2.CX P w) 4 T.f_compare_words T.d_compare_words ["letters", "weights", "one", "other"] (spT ⟨K, cvT T⟩ m_compare_words) :=
  fn_ok (k := 3) T.F_compare_words sc_compare_words fun cdv A outer s H E hr =>
    (db_cons (ds_expr (de_callP (takes_of rfl rfl rfl rfl) (ok_check_letters T) (hr.mono (by decide)) (dc_pos rfl T.g_check_letters T.F_check_letters.kp (b_check_letters T) .nil (fun _ _ => rfl) (da_cons (de_var 0) da_nil))))
    (db_cons (ds_expr (de_callP (takes_of rfl rfl rfl rfl) (ok_check_weights T) (hr.mono (by decide)) (dc_pos rfl T.g_check_weights T.F_check_weights.kp (b_check_weights T) .nil (fun _ _ => rfl) (da_cons (de_var 0) (da_cons (de_var 1) da_nil)))))
    (db_cons (ds_expr (de_callP (takes_of rfl rfl rfl rfl) (ok_check_word T) (hr.mono (by decide)) (dc_pos rfl T.g_check_word T.F_check_word.kp (b_check_word T) .nil (fun _ _ => rfl) (da_cons (de_var 0) (da_cons (de_var 2) da_nil)))))
    (db_cons (ds_expr (de_callP (takes_of rfl rfl rfl rfl) (ok_check_word T) (hr.mono (by decide)) (dc_pos rfl T.g_check_word T.F_check_word.kp (b_check_word T) .nil (fun _ _ => rfl) (da_cons (de_var 0) (da_cons (de_var 3) da_nil)))))
    (db_cons (ds_if (dt_cmp (op_eqD hr.units) f_eq (de_var 2) (de_var 3) (nomark _)) (db_one (ds_ret de_int)) db_nil)
    (db_cons (ds_if (dt_cmp (op_ltD (room_l hr)) f_ltD (de_callP (takes_of rfl rfl rfl rfl) (ok_order_key T) (hr.mono (by decide)) (dc_pos rfl T.g_order_key T.F_order_key.kp (b_order_key T) .nil (fun _ _ => rfl) (da_cons (de_var 0) (da_cons (de_var 1) (da_cons (de_var 2) da_nil))))) (de_callP (takes_of rfl rfl rfl rfl) (ok_order_key T) (hr.mono (by decide)) (dc_pos rfl T.g_order_key T.F_order_key.kp (b_order_key T) .nil (fun _ _ => rfl) (da_cons (de_var 0) (da_cons (de_var 1) (da_cons (de_var 3) da_nil))))) (nomark _)) (db_one (ds_ret (de_un un_neg f_neg de_int))) db_nil)
    (db_one (ds_ret de_int))))))))
theorem ok_sort_words (T : Fx P K mg) : FnOk P w K mg base (L2.CX P w) 4 T.f_sort_words T.d_sort_words ["letters", "weights", "words"] (spT ⟨K, cvT T⟩ m_sort_words) :=
  fn_ok (k := 3) T.F_sort_words sc_sort_words fun cdv A outer s H E hr =>
    (db_cons (ds_expr (de_callP (takes_of rfl rfl rfl rfl) (ok_check_letters T) (hr.mono (by decide)) (dc_pos rfl T.g_check_letters T.F_check_letters.kp (b_check_letters T) .nil (fun _ _ => rfl) (da_cons (de_var 0) da_nil))))
    (db_cons (ds_expr (de_callP (takes_of rfl rfl rfl rfl) (ok_check_weights T) (hr.mono (by decide)) (dc_pos rfl T.g_check_weights T.F_check_weights.kp (b_check_weights T) .nil (fun _ _ => rfl) (da_cons (de_var 0) (da_cons (de_var 1) da_nil)))))
    (db_cons (ds_for (passes_of rfl) rfl (di_any (de_var 2)) (dg_name 3 sc_sort_words.nd) (db_one (ds_expr (de_callP (takes_of rfl rfl rfl rfl) (ok_check_word T) (hr.mono (by decide)) (dc_pos rfl T.g_check_word T.F_check_word.kp (b_check_word T) .nil (fun _ _ => rfl) (da_cons (de_var 0) (da_cons (de_var 3) da_nil)))))))
    (db_cons (ds_set 4 sc_sort_words.nd (de_fz (do_callB (cr_sortD (room_s hr)) f_sorted rfl T.b_sorted (by decide +kernel) (da_cons (de_fz (do_lc (own := [("word", 3)]) rfl sc_sort_words.nd (by decide) (di_any (de_var 2)) (blkOk_by (N := N_sort_words) (sc := defScope s_sort_words) (by decide +kernel)) (fun _ _ _ _ _ => (dg_name 3 sc_sort_words.nd)) (fun _ _ _ _ _ => dts_nil) (fun _ _ _ _ _ => (de_tup (da_cons (de_callP takesF (ok_order_key T) (hr.mono (by decide)) (dc_pos rfl T.g_order_key T.F_order_key.kp (b_order_key T) .nil (fun _ _ => rfl) (da_cons (de_var 0) (da_cons (de_var 1) (da_cons (de_var 3) da_nil))))) (da_cons (de_var 3) da_nil)))))) da_nil))))
    (db_one (ds_retO (do_lc (own := [("key", 5), ("word", 3)]) rfl sc_sort_words.nd (by decide) (di_any (de_var 4)) (blkOk_by (N := N_sort_words) (sc := defScope s_sort_words) (by decide +kernel)) (fun _ _ _ _ _ => (dg_tup rfl (dgs_cons (dg_name 5 sc_sort_words.nd) (dgs_cons (dg_name 3 sc_sort_words.nd) dgs_nil)))) (fun _ _ _ _ _ => dts_nil) (fun _ _ _ _ _ => (de_var 3)))))))))
theorem ok__law_draws (T : Fx P K mg) : FnOk P w K mg base (L2.CX P w) 1 T.f__law_draws T.d__law_draws ["_law_script"] (spT ⟨K, cvT T⟩ m__law_draws) :=
  fn_ok (k := 0) T.F__law_draws sc__law_draws fun cdv A outer s H E hr =>
    (db_one (ds_retO (do_lst (da_cons (de_fz (do_lc (own := [("_law_cell", 1)]) rfl sc__law_draws.nd (by decide) (di_any (de_var 0)) (blkOk_by (N := N__law_draws) (sc := defScope s__law_draws) (by decide +kernel)) (fun _ _ _ _ _ => (dg_name 1 sc__law_draws.nd)) (fun _ _ _ _ _ => dts_nil) (fun _ _ _ _ _ => (de_callTy call_int1 f_int rfl T.b_int (by decide +kernel) (da_cons (de_var 1) da_nil))))) (da_cons de_int (da_cons de_int (da_cons de_int (da_cons de_int (da_cons de_int da_nil)))))))))
theorem ok__law_mixed (T : Fx P K mg) : FnOk P w K mg base (L2.CX P w) 1 T.f__law_mixed T.d__law_mixed ["_law_seed", "_law_turn"] (spT ⟨K, cvT T⟩ m__law_mixed) :=
  fn_ok (k := 0) T.F__law_mixed sc__law_mixed fun cdv A outer s H E hr =>
    (db_cons (ds_set 2 sc__law_mixed.nd (de_bin op_mod f_mod (de_callTy call_int1 f_int rfl T.b_int (by decide +kernel) (da_cons (de_bin o2_add f_add (de_bin o2_add f_add (de_bin o2_mul f_mul (de_var 0) de_int) (de_bin o2_mul f_mul (de_var 1) de_int)) de_int) da_nil)) de_int))
    (db_cons (ds_set 3 sc__law_mixed.nd (de_bin op_mod f_mod (de_callTy call_int1 f_int rfl T.b_int (by decide +kernel) (da_cons (de_bin o2_add f_add (de_bin o2_add f_add (de_bin o2_mul f_mul (de_var 2) (de_var 2)) (de_bin o2_mul f_mul (de_var 1) de_int)) de_int) da_nil)) de_int))
    (db_one (ds_ret (de_bin op_mod f_mod (de_callTy call_int1 f_int rfl T.b_int (by decide +kernel) (da_cons (de_bin o2_add f_add (de_bin o2_mul f_mul (de_var 3) (de_var 3)) (de_var 2)) da_nil)) de_int)))))
theorem ok__law_take (T : Fx P K mg) : FnOk P w K mg base (L2.CX P w) 2 T.f__law_take T.d__law_take ["_law_store", "_law_size"] (spT ⟨K, cvT T⟩ m__law_take) :=
  fn_ok (k := 1) T.F__law_take sc__law_take fun cdv A outer s H E hr =>
    (db_cons (ds_if (dt_cmp o2_lt f_ord (de_var 1) de_int (nomark _)) (db_one (ds_ret de_int)) db_nil)
    (db_cons (ds_if (dt_w (dw_and (dt_cmp (op_eqD hr.units) f_eq (de_ix ix_seq f_ix (de_var 0) de_int) de_int (nomark _)) (dw_and (dt_cmp (op_eqD hr.units) f_eq (de_ix ix_seq f_ix (de_var 0) de_int) de_int (nomark _)) (dw_and1 (dt_cmp o2_lt f_ord (de_ix ix_seq f_ix (de_var 0) de_int) (de_callB call_len f_len rfl T.b_len (by decide +kernel) (da_cons (de_ix ix_seq f_ix (de_var 0) de_int) da_nil)) (nomark _)))))) (db_cons (ds_set 2 sc__law_take.nd (de_ix ix_seq f_ix (de_ix ix_seq f_ix (de_var 0) de_int) (de_ix ix_seq f_ix (de_var 0) de_int)))
    (db_cons (ds_putC (de_bin o2_add f_add (de_ix ix_seq f_ix (de_var 0) de_int) de_int) (de_var 0) de_int)
    (db_cons (ds_putC (de_bin op_mod f_mod (de_callTy call_int1 f_int rfl T.b_int (by decide +kernel) (da_cons (de_bin o2_add f_add (de_bin o2_mul f_mul (de_ix ix_seq f_ix (de_var 0) de_int) de_int) (de_var 2)) da_nil)) de_int) (de_var 0) de_int)
    (db_one (ds_if (dt_w (dw_or (dt_cmp o2_ge f_ord (de_var 2) (de_bin op_pow f_pow de_int de_int) (nomark _)) (dw_or1 (dt_cmp o2_ge f_ord (de_un un_neg f_neg (de_var 2)) (de_bin op_pow f_pow de_int de_int) (nomark _))))) (db_one (ds_putC (de_callB call_abs f_abs rfl T.b_abs (by decide +kernel) (da_cons (de_var 2) da_nil)) (de_var 0) de_int)) (db_one (ds_putC de_int (de_var 0) de_int))))))) db_nil)
    (db_cons (ds_if (dt_cmp o2_gt f_ord (de_ix ix_seq f_ix (de_var 0) de_int) de_int (nomark _)) (db_cons (ds_set 3 sc__law_take.nd (de_bin op_mod f_mod (de_callTy call_int1 f_int rfl T.b_int (by decide +kernel) (da_cons (de_ix ix_seq f_ix (de_var 0) de_int) da_nil)) (de_var 1)))
    (db_cons (ds_putC (de_bin op_fdivW f_fdiv (de_ix ix_seq f_ix (de_var 0) de_int) (de_var 1)) (de_var 0) de_int)
    (db_one (ds_ret (de_var 3))))) db_nil)
    (db_cons (ds_if (dt_cmp o2_gt f_ord (de_ix ix_seq f_ix (de_var 0) de_int) de_int (nomark _)) (db_one (ds_putC (de_bin op_sub f_sub (de_ix ix_seq f_ix (de_var 0) de_int) de_int) (de_var 0) de_int)) db_nil)
    (db_cons (ds_putC (de_bin o2_add f_add (de_ix ix_seq f_ix (de_var 0) de_int) de_int) (de_var 0) de_int)
    (db_one (ds_ret (de_bin op_mod f_mod (de_callTy call_int1 f_int rfl T.b_int (by decide +kernel) (da_cons (de_callP (takes_of rfl rfl rfl rfl) (ok__law_mixed T) (hr.mono (by decide)) (dc_pos rfl T.g__law_mixed T.F__law_mixed.kp (b__law_mixed T) .nil (fun _ _ => rfl) (da_cons (de_ix ix_seq f_ix (de_var 0) de_int) (da_cons (de_ix ix_seq f_ix (de_var 0) de_int) da_nil)))) da_nil)) (de_var 1)))))))))
theorem ok__law_span (T : Fx P K mg) : FnOk P w K mg base (L2.CX P w) 3 T.f__law_span T.d__law_span ["_law_store", "_law_low", "_law_high"] (spT ⟨K, cvT T⟩ m__law_span) :=
  fn_ok (k := 2) T.F__law_span sc__law_span fun cdv A outer s H E hr =>
    (db_one (ds_ret (de_bin o2_add f_add (de_var 1) (de_call (takes_of rfl rfl rfl rfl) (ok__law_take T) (hr.mono (by decide)) (dc_pos rfl T.g__law_take T.F__law_take.kp (b__law_take T) .nil (fun _ _ => rfl) (da_cons (de_var 0) (da_cons (de_bin o2_add f_add (de_bin op_sub f_sub (de_var 2) (de_var 1)) de_int) da_nil)))))))
theorem ok__law_rare (T : Fx P K mg) : FnOk P w K mg base (L2.CX P w) 3 T.f__law_rare T.d__law_rare ["_law_store", "_law_size"] (spT ⟨K, cvT T⟩ m__law_rare) :=
  fn_ok (k := 2) T.F__law_rare sc__law_rare fun cdv A outer s H E hr =>
    (db_one (ds_ret (de_cmp (op_eqD hr.units) f_eq (de_call (takes_of rfl rfl rfl rfl) (ok__law_take T) (hr.mono (by decide)) (dc_pos rfl T.g__law_take T.F__law_take.kp (b__law_take T) .nil (fun _ _ => rfl) (da_cons (de_var 0) (da_cons (de_var 1) da_nil)))) (de_bin op_sub f_sub (de_var 1) de_int) (nomark _))))
theorem ok__law_pick (T : Fx P K mg) : FnOk P w K mg base (L2.CX P w) 3 T.f__law_pick T.d__law_pick ["_law_store", "_law_row"] (spT ⟨K, cvT T⟩ m__law_pick) :=
  fn_ok (k := 2) T.F__law_pick sc__law_pick fun cdv A outer s H E hr =>
    (db_one (ds_ret (de_ix ix_seq f_ix (de_var 1) (de_call (takes_of rfl rfl rfl rfl) (ok__law_take T) (hr.mono (by decide)) (dc_pos rfl T.g__law_take T.F__law_take.kp (b__law_take T) .nil (fun _ _ => rfl) (da_cons (de_var 0) (da_cons (de_callB call_len f_len rfl T.b_len (by decide +kernel) (da_cons (de_var 1) da_nil)) da_nil)))))))
theorem ok__law_in_range (T : Fx P K mg) : FnOk P w K mg base (L2.CX P w) 4 T.f__law_in_range T.d__law_in_range ["_law_store", "_law_low", "_law_high"] (spT ⟨K, cvT T⟩ m__law_in_range) :=
  fn_ok (k := 3) T.F__law_in_range sc__law_in_range fun cdv A outer s H E hr =>
    (db_cons (ds_if (dt_cmp (op_eqD hr.units) f_eq (de_call (takes_of rfl rfl rfl rfl) (ok__law_take T) (hr.mono (by decide)) (dc_pos rfl T.g__law_take T.F__law_take.kp (b__law_take T) .nil (fun _ _ => rfl) (da_cons (de_var 0) (da_cons de_int da_nil)))) de_int (nomark _)) (db_one (ds_ret (de_call (takes_of rfl rfl rfl rfl) (ok__law_pick T) (hr.mono (by decide)) (dc_pos rfl T.g__law_pick T.F__law_pick.kp (b__law_pick T) .nil (fun _ _ => rfl) (da_cons (de_var 0) (da_cons (de_fz (do_lst (da_cons (de_var 1) (da_cons (de_var 2) da_nil)))) da_nil)))))) db_nil)
    (db_one (ds_ret (de_call (takes_of rfl rfl rfl rfl) (ok__law_span T) (hr.mono (by decide)) (dc_pos rfl T.g__law_span T.F__law_span.kp (b__law_span T) .nil (fun _ _ => rfl) (da_cons (de_var 0) (da_cons (de_var 1) (da_cons (de_var 2) da_nil))))))))
theorem ok__law_out_of_range (T : Fx P K mg) : FnOk P w K mg base (L2.CX P w) 4 T.f__law_out_of_range T.d__law_out_of_range ["_law_store", "_law_low", "_law_high"] (spT ⟨K, cvT T⟩ m__law_out_of_range) :=
  fn_ok (k := 3) T.F__law_out_of_range sc__law_out_of_range fun cdv A outer s H E hr =>
    (db_cons (ds_set 3 sc__law_out_of_range.nd (de_fz (do_lst (da_cons (de_bin op_sub f_sub (de_var 1) de_int) (da_cons (de_bin o2_add f_add (de_var 2) de_int) (da_cons (de_bin op_sub f_sub (de_bin op_sub f_sub (de_var 1) de_int) (de_call (takes_of rfl rfl rfl rfl) (ok__law_take T) (hr.mono (by decide)) (dc_pos rfl T.g__law_take T.F__law_take.kp (b__law_take T) .nil (fun _ _ => rfl) (da_cons (de_var 0) (da_cons de_int da_nil))))) (da_cons (de_bin o2_add f_add (de_bin o2_add f_add (de_var 2) de_int) (de_call (takes_of rfl rfl rfl rfl) (ok__law_take T) (hr.mono (by decide)) (dc_pos rfl T.g__law_take T.F__law_take.kp (b__law_take T) .nil (fun _ _ => rfl) (da_cons (de_var 0) (da_cons de_int da_nil))))) da_nil)))))))
    (db_one (ds_ret (de_call (takes_of rfl rfl rfl rfl) (ok__law_pick T) (hr.mono (by decide)) (dc_pos rfl T.g__law_pick T.F__law_pick.kp (b__law_pick T) .nil (fun _ _ => rfl) (da_cons (de_var 0) (da_cons (de_bin o2_add f_add (de_var 3) (de_fz (do_lst (da_cons (de_bin op_sub f_sub (de_bin op_pow f_pow de_int de_int) de_int) (da_cons (de_bin op_sub f_sub de_int (de_bin op_pow f_pow de_int de_int)) da_nil))))) da_nil)))))))
theorem ok__law_letters (T : Fx P K mg) : FnOk P w K mg base (L2.CX P w) 4 T.f__law_letters T.d__law_letters ["_law_store", "_law_low", "_law_high"] (spT ⟨K, cvT T⟩ m__law_letters) :=
  fn_ok (k := 3) T.F__law_letters sc__law_letters fun cdv A outer s H E hr =>
    (db_cons (ds_set 3 sc__law_letters.nd (de_call (takes_of rfl rfl rfl rfl) (ok__law_span T) (hr.mono (by decide)) (dc_pos rfl T.g__law_span T.F__law_span.kp (b__law_span T) .nil (fun _ _ => rfl) (da_cons (de_var 0) (da_cons (de_var 1) (da_cons (de_var 2) da_nil))))))
    (db_cons (ds_set 4 sc__law_letters.nd (de_str (t := "abcdefghijklmnopqrstuvwxyz")))
    (db_cons (ds_if (dt_cmp (op_eqD hr.units) f_eq (de_call (takes_of rfl rfl rfl rfl) (ok__law_take T) (hr.mono (by decide)) (dc_pos rfl T.g__law_take T.F__law_take.kp (b__law_take T) .nil (fun _ _ => rfl) (da_cons (de_var 0) (da_cons de_int da_nil)))) de_int (nomark _)) (db_one (ds_ret (de_sl (de_var 4) dp_none (dp_some (de_var 3))))) db_nil)
    (db_cons (ds_set 5 sc__law_letters.nd (de_str (t := "")))
    (db_cons (ds_for (passes_of rfl) rfl (di_range1 rfl T.b_range (da_cons (de_var 3) da_nil)) (dg_name 6 sc__law_letters.nd) (db_cons (ds_set 7 sc__law_letters.nd (de_call (takes_of rfl rfl rfl rfl) (ok__law_take T) (hr.mono (by decide)) (dc_pos rfl T.g__law_take T.F__law_take.kp (b__law_take T) .nil (fun _ _ => rfl) (da_cons (de_var 0) (da_cons (de_callB call_len f_len rfl T.b_len (by decide +kernel) (da_cons (de_var 4) da_nil)) da_nil)))))
    (db_cons (ds_set 5 sc__law_letters.nd (de_bin o2_add f_add (de_var 5) (de_ix ix_seq f_ix (de_var 4) (de_var 7))))
    (db_one (ds_set 4 sc__law_letters.nd (de_bin o2_add f_add (de_sl (de_var 4) dp_none (dp_some (de_var 7))) (de_sl (de_var 4) (dp_some (de_bin o2_add f_add (de_var 7) de_int)) dp_none)))))))
    (db_one (ds_ret (de_var 5))))))))
theorem ok__law_stranger (T : Fx P K mg) : FnOk P w K mg base (L2.CX P w) 4 T.f__law_stranger T.d__law_stranger ["_law_store", "_law_letters_here"] (spT ⟨K, cvT T⟩ m__law_stranger) :=
  fn_ok (k := 3) T.F__law_stranger sc__law_stranger fun cdv A outer s H E hr =>
    (db_one (ds_ret (de_call (takes_of rfl rfl rfl rfl) (ok__law_pick T) (hr.mono (by decide)) (dc_pos rfl T.g__law_pick T.F__law_pick.kp (b__law_pick T) .nil (fun _ _ => rfl) (da_cons (de_var 0) (da_cons (de_fz (do_lc (own := [("_law_letter", 2)]) rfl sc__law_stranger.nd (by decide) (di_any (de_str (t := "abcdefghijklmnopqrstuvwxyz"))) (blkOk_by (N := N__law_stranger) (sc := defScope s__law_stranger) (by decide +kernel)) (fun _ _ _ _ _ => (dg_name 2 sc__law_stranger.nd)) (fun _ _ _ _ _ => (dts_one (dt_cmp o2_notIn f_notIn (de_var 2) (de_var 1) rfl))) (fun _ _ _ _ _ => (de_var 2)))) da_nil))))))
theorem ok__law_bad_letters (T : Fx P K mg) : FnOk P w K mg base (L2.CX P w) 5 T.f__law_bad_letters T.d__law_bad_letters ["_law_store"] (spT ⟨K, cvT T⟩ m__law_bad_letters) :=
  fn_ok (k := 4) T.F__law_bad_letters sc__law_bad_letters fun cdv A outer s H E hr =>
    (db_cons (ds_set 1 sc__law_bad_letters.nd (de_call (takes_of rfl rfl rfl rfl) (ok__law_take T) (hr.mono (by decide)) (dc_pos rfl T.g__law_take T.F__law_take.kp (b__law_take T) .nil (fun _ _ => rfl) (da_cons (de_var 0) (da_cons de_int da_nil)))))
    (db_cons (ds_if (dt_cmp (op_eqD hr.units) f_eq (de_var 1) de_int (nomark _)) (db_one (ds_ret (de_str (t := "")))) db_nil)
    (db_cons (ds_if (dt_cmp (op_eqD hr.units) f_eq (de_var 1) de_int (nomark _)) (db_one (ds_ret (de_call (takes_of rfl rfl rfl rfl) (ok__law_letters T) (hr.mono (by decide)) (dc_pos rfl T.g__law_letters T.F__law_letters.kp (b__law_letters T) .nil (fun _ _ => rfl) (da_cons (de_var 0) (da_cons de_int (da_cons de_int da_nil))))))) db_nil)
    (db_cons (ds_set 2 sc__law_bad_letters.nd (de_call (takes_of rfl rfl rfl rfl) (ok__law_letters T) (hr.mono (by decide)) (dc_pos rfl T.g__law_letters T.F__law_letters.kp (b__law_letters T) .nil (fun _ _ => rfl) (da_cons (de_var 0) (da_cons de_int (da_cons de_int da_nil))))))
    (db_cons (ds_set 3 sc__law_bad_letters.nd (de_call (takes_of rfl rfl rfl rfl) (ok__law_take T) (hr.mono (by decide)) (dc_pos rfl T.g__law_take T.F__law_take.kp (b__law_take T) .nil (fun _ _ => rfl) (da_cons (de_var 0) (da_cons (de_bin o2_add f_add (de_callB call_len f_len rfl T.b_len (by decide +kernel) (da_cons (de_var 2) da_nil)) de_int) da_nil)))))
    (db_cons (ds_if (dt_cmp (op_eqD hr.units) f_eq (de_var 1) de_int (nomark _)) (db_one (ds_ret (de_bin o2_add f_add (de_bin o2_add f_add (de_sl (de_var 2) dp_none (dp_some (de_var 3))) (de_call (takes_of rfl rfl rfl rfl) (ok__law_pick T) (hr.mono (by decide)) (dc_pos rfl T.g__law_pick T.F__law_pick.kp (b__law_pick T) .nil (fun _ _ => rfl) (da_cons (de_var 0) (da_cons (de_var 2) da_nil))))) (de_sl (de_var 2) (dp_some (de_var 3)) dp_none)))) db_nil)
    (db_cons (ds_if (dt_cmp (op_eqD hr.units) f_eq (de_var 1) de_int (nomark _)) (db_one (ds_ret (de_bin o2_add f_add (de_bin o2_add f_add (de_sl (de_var 2) dp_none (dp_some (de_var 3))) (de_call (takes_of rfl rfl rfl rfl) (ok__law_pick T) (hr.mono (by decide)) (dc_pos rfl T.g__law_pick T.F__law_pick.kp (b__law_pick T) .nil (fun _ _ => rfl) (da_cons (de_var 0) (da_cons (de_str (t := "AZ059 -_:~")) da_nil))))) (de_sl (de_var 2) (dp_some (de_var 3)) dp_none)))) db_nil)
    (db_cons (ds_set 3 sc__law_bad_letters.nd (de_call (takes_of rfl rfl rfl rfl) (ok__law_take T) (hr.mono (by decide)) (dc_pos rfl T.g__law_take T.F__law_take.kp (b__law_take T) .nil (fun _ _ => rfl) (da_cons (de_var 0) (da_cons (de_callB call_len f_len rfl T.b_len (by decide +kernel) (da_cons (de_var 2) da_nil)) da_nil)))))
    (db_one (ds_ret (de_bin o2_add f_add (de_bin o2_add f_add (de_sl (de_var 2) dp_none (dp_some (de_var 3))) (de_call (takes_of rfl rfl rfl rfl) (ok__law_pick T) (hr.mono (by decide)) (dc_pos rfl T.g__law_pick T.F__law_pick.kp (b__law_pick T) .nil (fun _ _ => rfl) (da_cons (de_var 0) (da_cons (de_str (t := "AQZ1 .")) da_nil))))) (de_sl (de_var 2) (dp_some (de_bin o2_add f_add (de_var 3) de_int)) dp_none))))))))))))
theorem ok__law_heavy (T : Fx P K mg) : FnOk P w K mg base (L2.CX P w) 5 T.f__law_heavy T.d__law_heavy ["_law_store", "_law_size"] (spT ⟨K, cvT T⟩ m__law_heavy) :=
  fn_ok (k := 4) T.F__law_heavy sc__law_heavy fun cdv A outer s H E hr =>
    (db_cons (ds_set 2 sc__law_heavy.nd (de_call (takes_of rfl rfl rfl rfl) (ok__law_take T) (hr.mono (by decide)) (dc_pos rfl T.g__law_take T.F__law_take.kp (b__law_take T) .nil (fun _ _ => rfl) (da_cons (de_var 0) (da_cons de_int da_nil)))))
    (db_cons (ds_if (dt_cmp o2_lt f_ord (de_var 2) de_int (nomark _)) (db_one (ds_retO (do_lc (own := [("_law_k", 3)]) rfl sc__law_heavy.nd (by decide) (di_range1 rfl T.b_range (da_cons (de_var 1) da_nil)) (blkOk_by (N := N__law_heavy) (sc := defScope s__law_heavy) (by decide +kernel)) (fun _ _ _ _ _ => (dg_name 3 sc__law_heavy.nd)) (fun _ _ _ _ _ => dts_nil) (fun _ _ _ _ _ => de_int)))) db_nil)
    (db_cons (ds_if (dt_cmp (op_eqD hr.units) f_eq (de_var 2) de_int (nomark _)) (db_one (ds_retO (do_lc (own := [("_law_k", 3)]) rfl sc__law_heavy.nd (by decide) (di_range1 rfl T.b_range (da_cons (de_var 1) da_nil)) (blkOk_by (N := N__law_heavy) (sc := defScope s__law_heavy) (by decide +kernel)) (fun _ _ _ _ _ => (dg_name 3 sc__law_heavy.nd)) (fun _ _ _ _ _ => dts_nil) (fun _ _ _ _ _ => (de_call takesF (ok__law_span T) (hr.mono (by decide)) (dc_pos rfl T.g__law_span T.F__law_span.kp (b__law_span T) .nil (fun _ _ => rfl) (da_cons (de_var 0) (da_cons de_int (da_cons de_int da_nil))))))))) db_nil)
    (db_one (ds_retO (do_lc (own := [("_law_k", 3)]) rfl sc__law_heavy.nd (by decide) (di_range1 rfl T.b_range (da_cons (de_var 1) da_nil)) (blkOk_by (N := N__law_heavy) (sc := defScope s__law_heavy) (by decide +kernel)) (fun _ _ _ _ _ => (dg_name 3 sc__law_heavy.nd)) (fun _ _ _ _ _ => dts_nil) (fun _ _ _ _ _ => (de_call takesF (ok__law_in_range T) (hr.mono (by decide)) (dc_pos rfl T.g__law_in_range T.F__law_in_range.kp (b__law_in_range T) .nil (fun _ _ => rfl) (da_cons (de_var 0) (da_cons de_int (da_cons de_int da_nil))))))))))))
theorem ok__law_bad_heavy (T : Fx P K mg) : FnOk P w K mg base (L2.CX P w) 6 T.f__law_bad_heavy T.d__law_bad_heavy ["_law_store", "_law_size"] (spT ⟨K, cvT T⟩ m__law_bad_heavy) :=
  fn_ok (k := 5) T.F__law_bad_heavy sc__law_bad_heavy fun cdv A outer s H E hr =>
    (db_cons (ds_setO 2 sc__law_bad_heavy.nd (do_call (takes_of rfl rfl rfl rfl) (ok__law_heavy T) (hr.mono (by decide)) (dc_pos rfl T.g__law_heavy T.F__law_heavy.kp (b__law_heavy T) .nil (fun _ _ => rfl) (da_cons (de_var 0) (da_cons (de_var 1) da_nil)))))
    (db_cons (ds_set 3 sc__law_bad_heavy.nd (de_call (takes_of rfl rfl rfl rfl) (ok__law_take T) (hr.mono (by decide)) (dc_pos rfl T.g__law_take T.F__law_take.kp (b__law_take T) .nil (fun _ _ => rfl) (da_cons (de_var 0) (da_cons de_int da_nil)))))
    (db_cons (ds_if (dt_cmp (op_eqD hr.units) f_eq (de_var 3) de_int (nomark _)) (db_frz 2 (db_one (ds_ret (de_sl (de_var 2) dp_none (dp_some (de_bin op_sub f_sub (de_var 1) de_int)))))) db_nil)
    (db_cons (ds_if (dt_cmp (op_eqD hr.units) f_eq (de_var 3) de_int (nomark _)) (db_frz 2 (db_one (ds_ret (de_bin o2_add f_add (de_var 2) (de_fz (do_lst (da_cons (de_call (takes_of rfl rfl rfl rfl) (ok__law_in_range T) (hr.mono (by decide)) (dc_pos rfl T.g__law_in_range T.F__law_in_range.kp (b__law_in_range T) .nil (fun _ _ => rfl) (da_cons (de_var 0) (da_cons de_int (da_cons de_int da_nil))))) da_nil))))))) db_nil)
    (db_cons (ds_if (dt_cmp (op_eqD hr.units) f_eq (de_var 3) de_int (nomark _)) (db_one (ds_retO (do_lst da_nil))) db_nil)
    (db_cons (ds_putO 2 (de_call (takes_of rfl rfl rfl rfl) (ok__law_out_of_range T) (hr.mono (by decide)) (dc_pos rfl T.g__law_out_of_range T.F__law_out_of_range.kp (b__law_out_of_range T) .nil (fun _ _ => rfl) (da_cons (de_var 0) (da_cons de_int (da_cons de_int da_nil))))) (de_call (takes_of rfl rfl rfl rfl) (ok__law_take T) (hr.mono (by decide)) (dc_pos rfl T.g__law_take T.F__law_take.kp (b__law_take T) .nil (fun _ _ => rfl) (da_cons (de_var 0) (da_cons (de_var 1) da_nil)))))
    (db_one (ds_retV 2))))))))
theorem ok__law_word (T : Fx P K mg) : FnOk P w K mg base (L2.CX P w) 5 T.f__law_word T.d__law_word ["_law_store", "_law_letters_here", "_law_low", "_law_high"] (spT ⟨K, cvT T⟩ m__law_word) :=
  fn_ok (k := 4) T.F__law_word sc__law_word fun cdv A outer s H E hr =>
    (db_cons (ds_set 4 sc__law_word.nd (de_call (takes_of rfl rfl rfl rfl) (ok__law_in_range T) (hr.mono (by decide)) (dc_pos rfl T.g__law_in_range T.F__law_in_range.kp (b__law_in_range T) .nil (fun _ _ => rfl) (da_cons (de_var 0) (da_cons (de_var 2) (da_cons (de_var 3) da_nil))))))
    (db_cons (ds_set 5 sc__law_word.nd (de_call (takes_of rfl rfl rfl rfl) (ok__law_take T) (hr.mono (by decide)) (dc_pos rfl T.g__law_take T.F__law_take.kp (b__law_take T) .nil (fun _ _ => rfl) (da_cons (de_var 0) (da_cons de_int da_nil)))))
    (db_cons (ds_if (dt_cmp (op_eqD hr.units) f_eq (de_var 5) de_int (nomark _)) (db_one (ds_ret (de_bin o2_mul f_mul (de_call (takes_of rfl rfl rfl rfl) (ok__law_pick T) (hr.mono (by decide)) (dc_pos rfl T.g__law_pick T.F__law_pick.kp (b__law_pick T) .nil (fun _ _ => rfl) (da_cons (de_var 0) (da_cons (de_var 1) da_nil)))) (de_var 4)))) db_nil)
    (db_cons (ds_if (dt_cmp (op_eqD hr.units) f_eq (de_var 5) de_int (nomark _)) (db_cons (ds_set 6 sc__law_word.nd (de_bin o2_add f_add (de_call (takes_of rfl rfl rfl rfl) (ok__law_pick T) (hr.mono (by decide)) (dc_pos rfl T.g__law_pick T.F__law_pick.kp (b__law_pick T) .nil (fun _ _ => rfl) (da_cons (de_var 0) (da_cons (de_var 1) da_nil)))) (de_call (takes_of rfl rfl rfl rfl) (ok__law_pick T) (hr.mono (by decide)) (dc_pos rfl T.g__law_pick T.F__law_pick.kp (b__law_pick T) .nil (fun _ _ => rfl) (da_cons (de_var 0) (da_cons (de_var 1) da_nil))))))
    (db_one (ds_ret (de_sl (de_bin o2_mul f_mul (de_var 6) (de_var 4)) dp_none (dp_some (de_var 4)))))) db_nil)
    (db_one (ds_ret (de_meS PySem.F.slot_str_join PySem.F.type_str_join mt_join f_join (de_str (t := "")) (da_cons (de_fz (do_lc (own := [("_law_k", 7)]) rfl sc__law_word.nd (by decide) (di_range1 rfl T.b_range (da_cons (de_var 4) da_nil)) (blkOk_by (N := N__law_word) (sc := defScope s__law_word) (by decide +kernel)) (fun _ _ _ _ _ => (dg_name 7 sc__law_word.nd)) (fun _ _ _ _ _ => dts_nil) (fun _ _ _ _ _ => (de_call takesF (ok__law_pick T) (hr.mono (by decide)) (dc_pos rfl T.g__law_pick T.F__law_pick.kp (b__law_pick T) .nil (fun _ _ => rfl) (da_cons (de_var 0) (da_cons (de_var 1) da_nil))))))) da_nil))))))))
theorem ok__law_bad_word (T : Fx P K mg) : FnOk P w K mg base (L2.CX P w) 5 T.f__law_bad_word T.d__law_bad_word ["_law_store", "_law_letters_here"] (spT ⟨K, cvT T⟩ m__law_bad_word) :=
  fn_ok (k := 4) T.F__law_bad_word sc__law_bad_word fun cdv A outer s H E hr =>
    (db_cons (ds_set 2 sc__law_bad_word.nd (de_call (takes_of rfl rfl rfl rfl) (ok__law_take T) (hr.mono (by decide)) (dc_pos rfl T.g__law_take T.F__law_take.kp (b__law_take T) .nil (fun _ _ => rfl) (da_cons (de_var 0) (da_cons de_int da_nil)))))
    (db_cons (ds_set 3 sc__law_bad_word.nd (de_call (takes_of rfl rfl rfl rfl) (ok__law_take T) (hr.mono (by decide)) (dc_pos rfl T.g__law_take T.F__law_take.kp (b__law_take T) .nil (fun _ _ => rfl) (da_cons (de_var 0) (da_cons de_int da_nil)))))
    (db_cons (ds_if (dt_cmp o2_gt f_ord (de_var 2) de_int (nomark _)) (db_one (ds_set 3 sc__law_bad_word.nd (de_bin o2_add f_add de_int (de_call (takes_of rfl rfl rfl rfl) (ok__law_take T) (hr.mono (by decide)) (dc_pos rfl T.g__law_take T.F__law_take.kp (b__law_take T) .nil (fun _ _ => rfl) (da_cons (de_var 0) (da_cons de_int da_nil))))))) db_nil)
    (db_cons (ds_set 4 sc__law_bad_word.nd (de_meS PySem.F.slot_str_join PySem.F.type_str_join mt_join f_join (de_str (t := "")) (da_cons (de_fz (do_lc (own := [("_law_k", 7)]) rfl sc__law_bad_word.nd (by decide) (di_range1 rfl T.b_range (da_cons (de_var 3) da_nil)) (blkOk_by (N := N__law_bad_word) (sc := defScope s__law_bad_word) (by decide +kernel)) (fun _ _ _ _ _ => (dg_name 7 sc__law_bad_word.nd)) (fun _ _ _ _ _ => dts_nil) (fun _ _ _ _ _ => (de_call takesF (ok__law_pick T) (hr.mono (by decide)) (dc_pos rfl T.g__law_pick T.F__law_pick.kp (b__law_pick T) .nil (fun _ _ => rfl) (da_cons (de_var 0) (da_cons (de_var 1) da_nil))))))) da_nil)))
    (db_cons (ds_if (dt_cmp (op_eqD hr.units) f_eq (de_var 2) de_int (nomark _)) (db_one (ds_ret (de_tup (da_cons (de_var 4) (da_cons (de_tup (da_cons (de_str (t := "TooLong")) da_nil)) da_nil))))) db_nil)
    (db_cons (ds_set 5 sc__law_bad_word.nd (de_call (takes_of rfl rfl rfl rfl) (ok__law_take T) (hr.mono (by decide)) (dc_pos rfl T.g__law_take T.F__law_take.kp (b__law_take T) .nil (fun _ _ => rfl) (da_cons (de_var 0) (da_cons (de_bin o2_add f_add (de_var 3) de_int) da_nil)))))
    (db_cons (ds_set 6 sc__law_bad_word.nd (de_call (takes_of rfl rfl rfl rfl) (ok__law_pick T) (hr.mono (by decide)) (dc_pos rfl T.g__law_pick T.F__law_pick.kp (b__law_pick T) .nil (fun _ _ => rfl) (da_cons (de_var 0) (da_cons (de_str (t := " !\"#$&'()*+,-./0123456789:;<=>?@AMZ[\\]^_`{|}~")) da_nil)))))
    (db_cons (ds_set 4 sc__law_bad_word.nd (de_bin o2_add f_add (de_bin o2_add f_add (de_sl (de_var 4) dp_none (dp_some (de_var 5))) (de_call (takes_of rfl rfl rfl rfl) (ok__law_pick T) (hr.mono (by decide)) (dc_pos rfl T.g__law_pick T.F__law_pick.kp (b__law_pick T) .nil (fun _ _ => rfl) (da_cons (de_var 0) (da_cons (de_fz (do_lst (da_cons (de_call (takes_of rfl rfl rfl rfl) (ok__law_stranger T) (hr.mono (by decide)) (dc_pos rfl T.g__law_stranger T.F__law_stranger.kp (b__law_stranger T) .nil (fun _ _ => rfl) (da_cons (de_var 0) (da_cons (de_var 1) da_nil)))) (da_cons (de_var 6) da_nil)))) da_nil))))) (de_sl (de_var 4) (dp_some (de_var 5)) dp_none)))
    (db_one (ds_ret (de_tup (da_cons (de_var 4) (da_cons (de_tup (da_cons (de_str (t := "BadWord")) (da_cons (de_var 4) da_nil))) da_nil)))))))))))))
theorem ok__law_same (T : Fx P K mg) : ∀ n : Nat, FnOk P w K mg base (L2.CX P w) (1 + n) T.f__law_same T.d__law_same ["_law_told", "_law_due_here"] (spT ⟨K, cvT T⟩ (m__law_same n))
  | 0 => fn_no
  | n + 1 => by
    have ih := ok__law_same T n
    exact fn_ok (k := 1 + n) T.F__law_same sc__law_same fun cdv A outer s H E hr =>
    (db_cons (ds_if (dt_cmp op_isN f_is (de_var 1) de_non (nomark _)) (db_one (ds_ret (de_cmp op_isN f_is (de_var 0) de_non (nomark _)))) db_nil)
    (db_cons (ds_if (dt_val (de_callB call_isi f_isi rfl T.b_isinstance (by decide +kernel) (da_cons (de_var 1) (da_cons (de_bty rfl T.b_bool (by decide +kernel)) da_nil)))) (db_one (ds_ret (de_and (de_callB call_isi f_isi rfl T.b_isinstance (by decide +kernel) (da_cons (de_var 0) (da_cons (de_bty rfl T.b_bool (by decide +kernel)) da_nil))) (de_one (de_cmp (op_eqD hr.units) f_eq (de_var 0) (de_var 1) (nomark _)))))) db_nil)
    (db_cons (ds_if (dt_val (de_callB call_isi f_isi rfl T.b_isinstance (by decide +kernel) (da_cons (de_var 1) (da_cons (de_bty rfl T.b_int (by decide +kernel)) da_nil)))) (db_one (ds_ret (de_and (de_callB call_isi f_isi rfl T.b_isinstance (by decide +kernel) (da_cons (de_var 0) (da_cons (de_bty rfl T.b_int (by decide +kernel)) da_nil))) (de_and (de_not (de_callB call_isi f_isi rfl T.b_isinstance (by decide +kernel) (da_cons (de_var 0) (da_cons (de_bty rfl T.b_bool (by decide +kernel)) da_nil)))) (de_one (de_cmp (op_eqD hr.units) f_eq (de_var 0) (de_var 1) (nomark _))))))) db_nil)
    (db_cons (ds_if (dt_val (de_callB call_isi f_isi rfl T.b_isinstance (by decide +kernel) (da_cons (de_var 1) (da_cons (de_bty rfl T.b_str (by decide +kernel)) da_nil)))) (db_one (ds_ret (de_and (de_callB call_isi f_isi rfl T.b_isinstance (by decide +kernel) (da_cons (de_var 0) (da_cons (de_bty rfl T.b_str (by decide +kernel)) da_nil))) (de_one (de_cmp (op_eqD hr.units) f_eq (de_var 0) (de_var 1) (nomark _)))))) db_nil)
    (db_cons (ds_if (dt_w (dw_and (dt_val (de_callB call_isi f_isi rfl T.b_isinstance (by decide +kernel) (da_cons (de_var 1) (da_cons (de_bty rfl T.b_tuple (by decide +kernel)) da_nil)))) (dw_and1 (dt_not (dt_val (de_callB call_isi f_isi rfl T.b_isinstance (by decide +kernel) (da_cons (de_var 0) (da_cons (de_bty rfl T.b_tuple (by decide +kernel)) da_nil)))))))) (db_one (ds_ret de_bl)) db_nil)
    (db_cons (ds_if (dt_w (dw_and (dt_val (de_callB call_isi f_isi rfl T.b_isinstance (by decide +kernel) (da_cons (de_var 1) (da_cons (de_bty rfl T.b_list (by decide +kernel)) da_nil)))) (dw_and1 (dt_not (dt_val (de_callB call_isi f_isi rfl T.b_isinstance (by decide +kernel) (da_cons (de_var 0) (da_cons (de_bty rfl T.b_list (by decide +kernel)) da_nil)))))))) (db_one (ds_ret de_bl)) db_nil)
    (db_cons (ds_if (dt_cmp (op_neD hr.units) f_ne (de_callB call_len f_len rfl T.b_len (by decide +kernel) (da_cons (de_var 0) da_nil)) (de_callB call_len f_len rfl T.b_len (by decide +kernel) (da_cons (de_var 1) da_nil)) (nomark _)) (db_one (ds_ret de_bl)) db_nil)
    (db_cons (ds_for (passes_of rfl) rfl (di_range1 rfl T.b_range (da_cons (de_callB call_len f_len rfl T.b_len (by decide +kernel) (da_cons (de_var 1) da_nil)) da_nil)) (dg_name 2 sc__law_same.nd) (db_one (ds_if (dt_not (dt_val (de_callP (takes_of rfl rfl rfl rfl) ih (hr.mono (by omega)) (dc_pos rfl T.g__law_same T.F__law_same.kp (b__law_same T) .nil (fun _ _ => rfl) (da_cons (de_ix ix_seq f_ix (de_var 0) (de_var 2)) (da_cons (de_ix ix_seq f_ix (de_var 1) (de_var 2)) da_nil)))))) (db_one (ds_ret de_bl)) db_nil)))
    (db_one (ds_ret de_bl))))))))))
theorem ok__law_word_fault (T : Fx P K mg) : FnOk P w K mg base (L2.CX P w) 1 T.f__law_word_fault T.d__law_word_fault ["_law_letters_here", "_law_word_here", "_law_size"] (spT ⟨K, cvT T⟩ m__law_word_fault) :=
  fn_ok (k := 0) T.F__law_word_fault sc__law_word_fault fun cdv A outer s H E hr =>
    (db_cons (ds_for (passes_of rfl) rfl (di_any (de_var 1)) (dg_name 3 sc__law_word_fault.nd) (db_one (ds_if (dt_cmp o2_notIn f_notIn (de_var 3) (de_var 0) rfl) (db_one (ds_ret (de_tup (da_cons (de_str (t := "BadWord")) (da_cons (de_var 1) da_nil))))) db_nil)))
    (db_cons (ds_if (dt_cmp o2_gt f_ord (de_callB call_len f_len rfl T.b_len (by decide +kernel) (da_cons (de_var 1) da_nil)) (de_var 2) (nomark _)) (db_one (ds_ret (de_tup (da_cons (de_str (t := "TooLong")) da_nil)))) db_nil)
    (db_one (ds_ret (de_tup da_nil)))))
theorem ok__law_weigh (T : Fx P K mg) : FnOk P w K mg base (L2.CX P w) 1 T.f__law_weigh T.d__law_weigh ["_law_letters_here", "_law_heavy_here", "_law_word_here"] (spT ⟨K, cvT T⟩ m__law_weigh) :=
  fn_ok (k := 0) T.F__law_weigh sc__law_weigh fun cdv A outer s H E hr =>
    (db_one (ds_ret (de_callB (cr_sum rfl) f_sum rfl T.b_sum (by decide +kernel) (da_cons (de_fz (do_lc (own := [("_law_char", 3)]) rfl sc__law_weigh.nd (by decide) (di_any (de_var 2)) (blkOk_by (N := N__law_weigh) (sc := defScope s__law_weigh) (by decide +kernel)) (fun _ _ _ _ _ => (dg_name 3 sc__law_weigh.nd)) (fun _ _ _ _ _ => dts_nil) (fun _ _ _ _ _ => (de_ix ix_seq f_ix (de_var 1) (de_meS PySem.F.slot_str_find PySem.F.type_str_find mt_find f_find (de_var 0) (da_cons (de_var 3) da_nil)))))) da_nil))))
theorem ok__law_order (T : Fx P K mg) : FnOk P w K mg base (L2.CX P w) 2 T.f__law_order T.d__law_order ["_law_letters_here", "_law_heavy_here", "_law_first", "_law_second"] (spT ⟨K, cvT T⟩ m__law_order) :=
  fn_ok (k := 1) T.F__law_order sc__law_order fun cdv A outer s H E hr =>
    (db_cons (ds_if (dt_cmp (op_eqD hr.units) f_eq (de_var 2) (de_var 3) (nomark _)) (db_one (ds_ret de_int)) db_nil)
    (db_cons (ds_set 4 sc__law_order.nd (de_bin op_sub f_sub (de_callP (takes_of rfl rfl rfl rfl) (ok__law_weigh T) (hr.mono (by decide)) (dc_pos rfl T.g__law_weigh T.F__law_weigh.kp (b__law_weigh T) .nil (fun _ _ => rfl) (da_cons (de_var 0) (da_cons (de_var 1) (da_cons (de_var 2) da_nil))))) (de_callP (takes_of rfl rfl rfl rfl) (ok__law_weigh T) (hr.mono (by decide)) (dc_pos rfl T.g__law_weigh T.F__law_weigh.kp (b__law_weigh T) .nil (fun _ _ => rfl) (da_cons (de_var 0) (da_cons (de_var 1) (da_cons (de_var 3) da_nil)))))))
    (db_cons (ds_if (dt_cmp (op_eqD hr.units) f_eq (de_var 4) de_int (nomark _)) (db_one (ds_for (passes_of rfl) rfl (di_range1 rfl T.b_range (da_cons (de_callB call_len f_len rfl T.b_len (by decide +kernel) (da_cons (de_var 2) da_nil)) da_nil)) (dg_name 5 sc__law_order.nd) (db_one (ds_if (dt_cmp (op_neD hr.units) f_ne (de_ix ix_seq f_ix (de_var 2) (de_var 5)) (de_ix ix_seq f_ix (de_var 3) (de_var 5)) (nomark _)) (db_cons (ds_set 4 sc__law_order.nd (de_bin op_sub f_sub (de_meS PySem.F.slot_str_find PySem.F.type_str_find mt_find f_find (de_var 0) (da_cons (de_ix ix_seq f_ix (de_var 2) (de_var 5)) da_nil)) (de_meS PySem.F.slot_str_find PySem.F.type_str_find mt_find f_find (de_var 0) (da_cons (de_ix ix_seq f_ix (de_var 3) (de_var 5)) da_nil))))
    (db_one ds_break)) db_nil)))) db_nil)
    (db_cons (ds_if (dt_cmp o2_lt f_ord (de_var 4) de_int (nomark _)) (db_one (ds_ret (de_un un_neg f_neg de_int))) db_nil)
    (db_one (ds_ret de_int))))))
theorem ok__law_sorted (T : Fx P K mg) : FnOk P w K mg base (L2.CX P w) 3 T.f__law_sorted T.d__law_sorted ["_law_letters_here", "_law_heavy_here", "_law_words_here"] (spT ⟨K, cvT T⟩ m__law_sorted) :=
  fn_ok (k := 2) T.F__law_sorted sc__law_sorted fun cdv A outer s H E hr =>
    (db_cons (ds_set 3 sc__law_sorted.nd (de_fz (do_lst da_nil)))
    (db_cons (ds_for (passes_of rfl) rfl (di_any (de_var 2)) (dg_name 4 sc__law_sorted.nd) (db_cons (ds_set 5 sc__law_sorted.nd (de_callB call_len f_len rfl T.b_len (by decide +kernel) (da_cons (de_var 3) da_nil)))
    (db_cons (ds_while (fun _ _ => 100000) (passes_of rfl) (dt_w (dw_and (dt_cmp o2_gt f_ord (de_var 5) de_int (nomark _)) (dw_and1 (dt_cmp o2_lt f_ord (de_callP (takes_of rfl rfl rfl rfl) (ok__law_order T) (hr.mono (by decide)) (dc_pos rfl T.g__law_order T.F__law_order.kp (b__law_order T) .nil (fun _ _ => rfl) (da_cons (de_var 0) (da_cons (de_var 1) (da_cons (de_var 4) (da_cons (de_ix ix_seq f_ix (de_var 3) (de_bin op_sub f_sub (de_var 5) de_int)) da_nil)))))) de_int (nomark _))))) (db_one (ds_set 5 sc__law_sorted.nd (de_bin op_sub f_sub (de_var 5) de_int))))
    (db_one (ds_set 3 sc__law_sorted.nd (de_bin o2_add f_add (de_bin o2_add f_add (de_sl (de_var 3) dp_none (dp_some (de_var 5))) (de_fz (do_lst (da_cons (de_var 4) da_nil)))) (de_sl (de_var 3) (dp_some (de_var 5)) dp_none)))))))
    (db_one (ds_ret (de_var 3)))))
theorem ok__law_is_alphabet (T : Fx P K mg) : FnOk P w K mg base (L2.CX P w) 1 T.f__law_is_alphabet T.d__law_is_alphabet ["_law_letters_here"] (spT ⟨K, cvT T⟩ m__law_is_alphabet) :=
  fn_ok (k := 0) T.F__law_is_alphabet sc__law_is_alphabet fun cdv A outer s H E hr =>
    (db_cons (ds_if (dt_w (dw_or (dt_cmp o2_lt f_ord (de_callB call_len f_len rfl T.b_len (by decide +kernel) (da_cons (de_var 0) da_nil)) de_int (nomark _)) (dw_or1 (dt_cmp o2_gt f_ord (de_callB call_len f_len rfl T.b_len (by decide +kernel) (da_cons (de_var 0) da_nil)) de_int (nomark _))))) (db_one (ds_ret de_bl)) db_nil)
    (db_cons (ds_for (passes_of rfl) rfl (di_range1 rfl T.b_range (da_cons (de_callB call_len f_len rfl T.b_len (by decide +kernel) (da_cons (de_var 0) da_nil)) da_nil)) (dg_name 1 sc__law_is_alphabet.nd) (db_one (ds_if (dt_w (dw_or (dt_cmp o2_notIn f_notIn (de_ix ix_seq f_ix (de_var 0) (de_var 1)) (de_str (t := "abcdefghijklmnopqrstuvwxyz")) rfl) (dw_or1 (dt_cmp o2_in f_in (de_ix ix_seq f_ix (de_var 0) (de_var 1)) (de_sl (de_var 0) dp_none (dp_some (de_var 1))) rfl)))) (db_one (ds_ret de_bl)) db_nil)))
    (db_one (ds_ret de_bl))))
theorem ok__law_ask (T : Fx P K mg) : FnOk P w K mg base (L2.CX P w) 5 T.f__law_ask T.d__law_ask ["_law_kind", "_law_letters_here", "_law_heavy_here", "_law_words_here"] (spT ⟨K, cvT T⟩ m__law_ask) :=
  fn_ok (k := 4) T.F__law_ask sc__law_ask fun cdv A outer s H E hr =>
    (db_cons (ds_try 4 (lkB [("WayfillError", true), ("BoundError", true), ("TooLong", true), ("TooMany", true), ("BadWeights", true), ("BadLetters", true), ("BadWord", true)]) rfl rfl sc__law_ask.nd rfl rfl ⟨rfl, by decide, .inl T.m_WayfillError⟩ (takes_of rfl rfl rfl rfl) (tab_exm T.h_0) (fun W1 pn xe tk1 pz => (db_cons (ds_if (dt_cmp (op_eqD hr.units) f_eq (de_var 0) de_int (nomark _)) (db_one (ds_retW (dn_tup (dns_cons (dn_flat (de_str (t := "told"))) (dns_cons (dn_call tk1 (ok_compare_words T) (hr.mono (by decide)) (dc_pos rfl T.g_compare_words T.F_compare_words.kp (b_compare_words T) .nil (fun _ _ => rfl) (da_cons (de_var 1) (da_cons (de_var 2) (da_cons (de_ix ix_seq f_ix (de_var 3) de_int) (da_cons (de_ix ix_seq f_ix (de_var 3) de_int) da_nil)))))) dns_nil))))) db_nil)
    (db_cons (ds_if (dt_cmp (op_eqD hr.units) f_eq (de_var 0) de_int (nomark _)) (db_one (ds_retW (dn_tup (dns_cons (dn_flat (de_str (t := "told"))) (dns_cons (dn_call tk1 (ok_word_weight T) (hr.mono (by decide)) (dc_pos rfl T.g_word_weight T.F_word_weight.kp (b_word_weight T) .nil (fun _ _ => rfl) (da_cons (de_var 1) (da_cons (de_var 2) (da_cons (de_ix ix_seq f_ix (de_var 3) de_int) da_nil))))) dns_nil))))) db_nil)
    (db_cons (ds_if (dt_cmp (op_eqD hr.units) f_eq (de_var 0) de_int (nomark _)) (db_one (ds_retW (dn_tup (dns_cons (dn_flat (de_str (t := "told"))) (dns_cons (dn_call tk1 (ok_sort_words T) (hr.mono (by decide)) (dc_pos rfl T.g_sort_words T.F_sort_words.kp (b_sort_words T) .nil (fun _ _ => rfl) (da_cons (de_var 1) (da_cons (de_var 2) (da_cons (de_var 3) da_nil))))) dns_nil))))) db_nil)
    (db_cons (ds_if (dt_cmp (op_eqD hr.units) f_eq (de_var 0) de_int (nomark _)) (db_one (ds_retW (dn_tup (dns_cons (dn_flat (de_str (t := "told"))) (dns_cons (dn_call tk1 (ok_compare_words T) (hr.mono (by decide)) (dc_kw0 (ks := ["other", "one", "weights", "letters"]) (ix := [3, 2, 1, 0]) rfl T.g_compare_words T.F_compare_words.kp (kw_compare_words_0 T) (dk_cons (de_ix ix_seq f_ix (de_var 3) de_int) (dk_cons (de_ix ix_seq f_ix (de_var 3) de_int) (dk_cons (de_var 2) (dk_cons (de_var 1) dk_nil)))))) dns_nil))))) db_nil)
    (db_cons (ds_if (dt_cmp (op_eqD hr.units) f_eq (de_var 0) de_int (nomark _)) (db_one (ds_retW (dn_tup (dns_cons (dn_flat (de_str (t := "told"))) (dns_cons (dn_call tk1 (ok_word_weight T) (hr.mono (by decide)) (dc_kw0 (ks := ["word", "weights", "letters"]) (ix := [2, 1, 0]) rfl T.g_word_weight T.F_word_weight.kp (kw_word_weight_1 T) (dk_cons (de_ix ix_seq f_ix (de_var 3) de_int) (dk_cons (de_var 2) (dk_cons (de_var 1) dk_nil))))) dns_nil))))) db_nil)
    (db_one (ds_retW (dn_tup (dns_cons (dn_flat (de_str (t := "told"))) (dns_cons (dn_call tk1 (ok_sort_words T) (hr.mono (by decide)) (dc_kw0 (ks := ["words", "weights", "letters"]) (ix := [2, 1, 0]) rfl T.g_sort_words T.F_sort_words.kp (kw_sort_words_2 T) (dk_cons (de_var 3) (dk_cons (de_var 2) (dk_cons (de_var 1) dk_nil))))) dns_nil))))))))))) (fun a oe cls dx pn hz hf => (db_cons (ds_set 5 sc__law_ask.nd (de_and (de_isE 4 (lkB [("WayfillError", true), ("BoundError", true), ("TooLong", true), ("TooMany", true), ("BadWeights", true), ("BadLetters", true), ("BadWord", true)]) (u := .type "ValueError") hz hf rfl (pe_bltn (v := .ty "ValueError") rfl T.b_ValueError (by decide +kernel) rfl) (fun v h => h) (tab_kit T.h_1 (kE T)) rfl T.b_isinstance) (de_one (de_not (de_isE 4 (lkB [("WayfillError", false), ("BoundError", false), ("TooLong", false), ("TooMany", true), ("BadWeights", false), ("BadLetters", false), ("BadWord", false)]) (u := .ref T.C_TooMany) hz hf rfl (pe_glob (v := .ref T.C_TooMany) rfl T.m_TooMany rfl) (fun v h => h) (tab_kit T.h_2 (kE T)) rfl T.b_isinstance)))))
    (db_cons (ds_setO 6 sc__law_ask.nd (do_lst (da_cons (de_isE 4 (lkB [("WayfillError", false), ("BoundError", false), ("TooLong", false), ("TooMany", false), ("BadWeights", false), ("BadLetters", true), ("BadWord", false)]) (u := .ref T.C_BadLetters) hz hf rfl (pe_glob (v := .ref T.C_BadLetters) rfl T.m_BadLetters rfl) (fun v h => h) (tab_kit T.h_6 (kE T)) rfl T.b_isinstance) (da_cons (de_isE 4 (lkB [("WayfillError", false), ("BoundError", false), ("TooLong", false), ("TooMany", false), ("BadWeights", true), ("BadLetters", false), ("BadWord", false)]) (u := .ref T.C_BadWeights) hz hf rfl (pe_glob (v := .ref T.C_BadWeights) rfl T.m_BadWeights rfl) (fun v h => h) (tab_kit T.h_5 (kE T)) rfl T.b_isinstance) (da_cons (de_isE 4 (lkB [("WayfillError", false), ("BoundError", false), ("TooLong", false), ("TooMany", false), ("BadWeights", false), ("BadLetters", false), ("BadWord", true)]) (u := .ref T.C_BadWord) hz hf rfl (pe_glob (v := .ref T.C_BadWord) rfl T.m_BadWord rfl) (fun v h => h) (tab_kit T.h_4 (kE T)) rfl T.b_isinstance) (da_cons (de_isE 4 (lkB [("WayfillError", false), ("BoundError", false), ("TooLong", true), ("TooMany", false), ("BadWeights", false), ("BadLetters", false), ("BadWord", false)]) (u := .ref T.C_TooLong) hz hf rfl (pe_glob (v := .ref T.C_TooLong) rfl T.m_TooLong rfl) (fun v h => h) (tab_kit T.h_3 (kE T)) rfl T.b_isinstance) da_nil))))))
    (db_cons (ds_app 6 (de_isE 4 (lkB [("WayfillError", false), ("BoundError", true), ("TooLong", true), ("TooMany", true), ("BadWeights", false), ("BadLetters", false), ("BadWord", false)]) (u := .ref T.C_BoundError) hz hf rfl (pe_glob (v := .ref T.C_BoundError) rfl T.m_BoundError rfl) (fun v h => h) (tab_kit T.h_7 (kE T)) rfl T.b_isinstance))
    (db_frz 6 (db_cons (ds_if (dt_w (dw_and (dt_val (de_var 5)) (dw_and1 (dt_cmp (op_eqD hr.units) f_eq (de_var 6) (de_fz (do_lst (da_cons de_bl (da_cons de_bl (da_cons de_bl (da_cons de_bl (da_cons de_bl da_nil))))))) (nomark _))))) (db_one (ds_retW (dn_tup (dns_cons (dn_flat (de_str (t := "BadLetters"))) (dns_cons (dn_flat (de_fld 4 "text" hz hf rfl (fun nm => nm == "BadLetters") ⟨T.e_BadLetters.x, T.n_BadLetters_text⟩ (fun nm h => by rw [eq_of_beq h]; exact cl_BadLetters T))) dns_nil))))) db_nil)
    (db_cons (ds_if (dt_w (dw_and (dt_val (de_var 5)) (dw_and1 (dt_cmp (op_eqD hr.units) f_eq (de_var 6) (de_fz (do_lst (da_cons de_bl (da_cons de_bl (da_cons de_bl (da_cons de_bl (da_cons de_bl da_nil))))))) (nomark _))))) (db_one (ds_retW (dn_tup (dns_cons (dn_flat (de_str (t := "BadWeights"))) dns_nil)))) db_nil)
    (db_cons (ds_if (dt_w (dw_and (dt_val (de_var 5)) (dw_and1 (dt_cmp (op_eqD hr.units) f_eq (de_var 6) (de_fz (do_lst (da_cons de_bl (da_cons de_bl (da_cons de_bl (da_cons de_bl (da_cons de_bl da_nil))))))) (nomark _))))) (db_one (ds_retW (dn_tup (dns_cons (dn_flat (de_str (t := "BadWord"))) (dns_cons (dn_flat (de_fld 4 "text" hz hf rfl (fun nm => nm == "BadWord") ⟨T.e_BadWord.x, T.n_BadWord_text⟩ (fun nm h => by rw [eq_of_beq h]; exact cl_BadWord T))) dns_nil))))) db_nil)
    (db_one (ds_if (dt_w (dw_and (dt_val (de_var 5)) (dw_and1 (dt_cmp (op_eqD hr.units) f_eq (de_var 6) (de_fz (do_lst (da_cons de_bl (da_cons de_bl (da_cons de_bl (da_cons de_bl (da_cons de_bl da_nil))))))) (nomark _))))) (db_one (ds_retW (dn_tup (dns_cons (dn_flat (de_str (t := "TooLong"))) dns_nil)))) db_nil)))))))))))
    (db_one (ds_retW (dn_tup (dns_cons (dn_flat (de_str (t := "other"))) dns_nil)))))
theorem ok__law_due (T : Fx P K mg) : FnOk P w K mg base (L2.CX P w) 4 T.f__law_due T.d__law_due ["_law_kind", "_law_letters_here", "_law_heavy_here", "_law_words_here"] (spT ⟨K, cvT T⟩ m__law_due) :=
  fn_ok (k := 3) T.F__law_due sc__law_due fun cdv A outer s H E hr =>
    (db_cons (ds_if (dt_not (dt_val (de_callP (takes_of rfl rfl rfl rfl) (ok__law_is_alphabet T) (hr.mono (by decide)) (dc_pos rfl T.g__law_is_alphabet T.F__law_is_alphabet.kp (b__law_is_alphabet T) .nil (fun _ _ => rfl) (da_cons (de_var 1) da_nil))))) (db_one (ds_ret (de_tup (da_cons (de_str (t := "BadLetters")) (da_cons (de_var 1) da_nil))))) db_nil)
    (db_cons (ds_if (dt_w (dw_or (dt_cmp (op_neD hr.units) f_ne (de_callB call_len f_len rfl T.b_len (by decide +kernel) (da_cons (de_var 2) da_nil)) (de_callB call_len f_len rfl T.b_len (by decide +kernel) (da_cons (de_var 1) da_nil)) (nomark _)) (dw_or1 (dt_cmp o2_gt f_ord (de_callB call_len f_len rfl T.b_len (by decide +kernel) (da_cons (de_fz (do_lc (own := [("_law_x", 7)]) rfl sc__law_due.nd (by decide) (di_any (de_var 2)) (blkOk_by (N := N__law_due) (sc := defScope s__law_due) (by decide +kernel)) (fun _ _ _ _ _ => (dg_name 7 sc__law_due.nd)) (fun _ _ _ _ _ => (dts_one (dt_w (dw_or (dt_cmp o2_lt f_ord (de_var 7) de_int (nomark _)) (dw_or1 (dt_cmp o2_gt f_ord (de_var 7) de_int (nomark _))))))) (fun _ _ _ _ _ => (de_var 7)))) da_nil)) de_int (nomark _))))) (db_one (ds_ret (de_tup (da_cons (de_str (t := "BadWeights")) da_nil)))) db_nil)
    (db_cons (ds_set 4 sc__law_due.nd (de_var 3))
    (db_cons (ds_if (dt_cmp o2_lt f_ord (de_var 0) de_int (nomark _)) (db_one (ds_set 4 sc__law_due.nd (de_sl (de_var 3) dp_none (dp_some (de_bin op_sub f_sub de_int (de_var 0)))))) db_nil)
    (db_cons (ds_for (passes_of rfl) rfl (di_any (de_var 4)) (dg_name 5 sc__law_due.nd) (db_cons (ds_set 6 sc__law_due.nd (de_callP (takes_of rfl rfl rfl rfl) (ok__law_word_fault T) (hr.mono (by decide)) (dc_pos rfl T.g__law_word_fault T.F__law_word_fault.kp (b__law_word_fault T) .nil (fun _ _ => rfl) (da_cons (de_var 1) (da_cons (de_var 5) (da_cons de_int da_nil))))))
    (db_one (ds_if (dt_cmp o2_gt f_ord (de_callB call_len f_len rfl T.b_len (by decide +kernel) (da_cons (de_var 6) da_nil)) de_int (nomark _)) (db_one (ds_ret (de_var 6))) db_nil))))
    (db_cons (ds_if (dt_cmp (op_eqD hr.units) f_eq (de_var 0) de_int (nomark _)) (db_one (ds_ret (de_tup (da_cons (de_str (t := "told")) (da_cons (de_callP (takes_of rfl rfl rfl rfl) (ok__law_order T) (hr.mono (by decide)) (dc_pos rfl T.g__law_order T.F__law_order.kp (b__law_order T) .nil (fun _ _ => rfl) (da_cons (de_var 1) (da_cons (de_var 2) (da_cons (de_ix ix_seq f_ix (de_var 3) de_int) (da_cons (de_ix ix_seq f_ix (de_var 3) de_int) da_nil)))))) da_nil))))) db_nil)
    (db_cons (ds_if (dt_cmp (op_eqD hr.units) f_eq (de_var 0) de_int (nomark _)) (db_one (ds_ret (de_tup (da_cons (de_str (t := "told")) (da_cons (de_callP (takes_of rfl rfl rfl rfl) (ok__law_weigh T) (hr.mono (by decide)) (dc_pos rfl T.g__law_weigh T.F__law_weigh.kp (b__law_weigh T) .nil (fun _ _ => rfl) (da_cons (de_var 1) (da_cons (de_var 2) (da_cons (de_ix ix_seq f_ix (de_var 3) de_int) da_nil))))) da_nil))))) db_nil)
    (db_one (ds_ret (de_tup (da_cons (de_str (t := "told")) (da_cons (de_callP (takes_of rfl rfl rfl rfl) (ok__law_sorted T) (hr.mono (by decide)) (dc_pos rfl T.g__law_sorted T.F__law_sorted.kp (b__law_sorted T) .nil (fun _ _ => rfl) (da_cons (de_var 1) (da_cons (de_var 2) (da_cons (de_var 3) da_nil))))) da_nil))))))))))))
theorem ok__law_near (T : Fx P K mg) : FnOk P w K mg base (L2.CX P w) 6 T.f__law_near T.d__law_near ["_law_store", "_law_letters_here", "_law_word_here"] (spT ⟨K, cvT T⟩ m__law_near) :=
  fn_ok (k := 5) T.F__law_near sc__law_near fun cdv A outer s H E hr =>
    (db_cons (ds_set 3 sc__law_near.nd (de_call (takes_of rfl rfl rfl rfl) (ok__law_take T) (hr.mono (by decide)) (dc_pos rfl T.g__law_take T.F__law_take.kp (b__law_take T) .nil (fun _ _ => rfl) (da_cons (de_var 0) (da_cons de_int da_nil)))))
    (db_cons (ds_set 4 sc__law_near.nd (de_call (takes_of rfl rfl rfl rfl) (ok__law_take T) (hr.mono (by decide)) (dc_pos rfl T.g__law_take T.F__law_take.kp (b__law_take T) .nil (fun _ _ => rfl) (da_cons (de_var 0) (da_cons (de_bin o2_add f_add (de_callB call_len f_len rfl T.b_len (by decide +kernel) (da_cons (de_var 2) da_nil)) de_int) da_nil)))))
    (db_cons (ds_if (dt_cmp (op_eqD hr.units) f_eq (de_var 3) de_int (nomark _)) (db_one (ds_ret (de_var 2))) db_nil)
    (db_cons (ds_if (dt_cmp (op_eqD hr.units) f_eq (de_var 3) de_int (nomark _)) (db_one (ds_ret (de_sl (de_var 2) dp_none (dp_some (de_var 4))))) db_nil)
    (db_cons (ds_if (dt_cmp (op_eqD hr.units) f_eq (de_var 3) de_int (nomark _)) (db_one (ds_ret (de_bin o2_add f_add (de_sl (de_var 2) (dp_some (de_var 4)) dp_none) (de_sl (de_var 2) dp_none (dp_some (de_var 4)))))) db_nil)
    (db_cons (ds_if (dt_cmp (op_eqD hr.units) f_eq (de_var 3) de_int (nomark _)) (db_one (ds_ret (de_rev (de_var 2)))) db_nil)
    (db_cons (ds_if (dt_cmp o2_lt f_ord (de_var 3) de_int (nomark _)) (db_one (ds_ret (de_sl (de_bin o2_add f_add (de_bin o2_add f_add (de_sl (de_var 2) dp_none (dp_some (de_var 4))) (de_call (takes_of rfl rfl rfl rfl) (ok__law_pick T) (hr.mono (by decide)) (dc_pos rfl T.g__law_pick T.F__law_pick.kp (b__law_pick T) .nil (fun _ _ => rfl) (da_cons (de_var 0) (da_cons (de_var 1) da_nil))))) (de_sl (de_var 2) (dp_some (de_bin o2_add f_add (de_var 4) de_int)) dp_none)) dp_none (dp_some de_int)))) db_nil)
    (db_one (ds_ret (de_call (takes_of rfl rfl rfl rfl) (ok__law_word T) (hr.mono (by decide)) (dc_pos rfl T.g__law_word T.F__law_word.kp (b__law_word T) .nil (fun _ _ => rfl) (da_cons (de_var 0) (da_cons (de_var 1) (da_cons de_int (da_cons de_int da_nil)))))))))))))))
theorem ok__law_words (T : Fx P K mg) : FnOk P w K mg base (L2.CX P w) 7 T.f__law_words T.d__law_words ["_law_store", "_law_letters_here"] (spT ⟨K, cvT T⟩ m__law_words) :=
  fn_ok (k := 6) T.F__law_words sc__law_words fun cdv A outer s H E hr =>
    (db_cons (ds_set 2 sc__law_words.nd (de_bin o2_add f_add de_int (de_call (takes_of rfl rfl rfl rfl) (ok__law_take T) (hr.mono (by decide)) (dc_pos rfl T.g__law_take T.F__law_take.kp (b__law_take T) .nil (fun _ _ => rfl) (da_cons (de_var 0) (da_cons de_int da_nil))))))
    (db_cons (ds_if (dt_val (de_call (takes_of rfl rfl rfl rfl) (ok__law_rare T) (hr.mono (by decide)) (dc_pos rfl T.g__law_rare T.F__law_rare.kp (b__law_rare T) .nil (fun _ _ => rfl) (da_cons (de_var 0) (da_cons de_int da_nil))))) (db_one (ds_set 2 sc__law_words.nd (de_bin o2_add f_add de_int (de_call (takes_of rfl rfl rfl rfl) (ok__law_take T) (hr.mono (by decide)) (dc_pos rfl T.g__law_take T.F__law_take.kp (b__law_take T) .nil (fun _ _ => rfl) (da_cons (de_var 0) (da_cons de_int da_nil))))))) db_nil)
    (db_cons (ds_setO 3 sc__law_words.nd (do_lst (da_cons (de_call (takes_of rfl rfl rfl rfl) (ok__law_word T) (hr.mono (by decide)) (dc_pos rfl T.g__law_word T.F__law_word.kp (b__law_word T) .nil (fun _ _ => rfl) (da_cons (de_var 0) (da_cons (de_var 1) (da_cons de_int (da_cons (de_call (takes_of rfl rfl rfl rfl) (ok__law_pick T) (hr.mono (by decide)) (dc_pos rfl T.g__law_pick T.F__law_pick.kp (b__law_pick T) .nil (fun _ _ => rfl) (da_cons (de_var 0) (da_cons (de_fz (do_lst (da_cons de_int (da_cons de_int (da_cons de_int da_nil))))) da_nil)))) da_nil)))))) da_nil)))
    (db_cons (ds_for (passes_of rfl) rfl (di_range1 rfl T.b_range (da_cons (de_bin op_sub f_sub (de_var 2) de_int) da_nil)) (dg_name 4 sc__law_words.nd) (db_cons (ds_set 5 sc__law_words.nd (de_lendC 3 (ok__law_pick T) (takes_of rfl rfl rfl rfl) (hr.mono (by decide)) rfl T.g__law_pick T.F__law_pick.kp (b__law_pick T) (dl_val (de_var 0) (dl_own 3 dl_nil))))
    (db_one (ds_app 3 (de_call (takes_of rfl rfl rfl rfl) (ok__law_near T) (hr.mono (by decide)) (dc_pos rfl T.g__law_near T.F__law_near.kp (b__law_near T) .nil (fun _ _ => rfl) (da_cons (de_var 0) (da_cons (de_var 1) (da_cons (de_var 5) da_nil)))))))))
    (db_one (ds_retV 3))))))
theorem ok__law_all_right (T : Fx P K mg) : FnOk P w K mg base (L2.CX P w) 10 T.f__law_all_right T.d__law_all_right ["_law_letters_here", "_law_heavy_here", "_law_words_here"] (spT ⟨K, cvT T⟩ m__law_all_right) :=
  fn_ok (k := 9) T.F__law_all_right sc__law_all_right fun cdv A outer s H E hr =>
    (db_cons (ds_for (passes_of rfl) rfl (di_any (de_fz (do_lst (da_cons de_int (da_cons de_int (da_cons de_int da_nil)))))) (dg_name 3 sc__law_all_right.nd) (db_cons (ds_set 4 sc__law_all_right.nd (de_fz (do_callTy call_list_of f_list rfl T.b_list (by decide +kernel) (da_cons (de_var 1) da_nil))))
    (db_cons (ds_set 5 sc__law_all_right.nd (de_fz (do_callTy call_list_of f_list rfl T.b_list (by decide +kernel) (da_cons (de_var 2) da_nil))))
    (db_cons (ds_set 6 sc__law_all_right.nd (de_callP (takes_of rfl rfl rfl rfl) (ok__law_due T) (hr.mono (by decide)) (dc_pos rfl T.g__law_due T.F__law_due.kp (b__law_due T) .nil (fun _ _ => rfl) (da_cons (de_var 3) (da_cons (de_var 0) (da_cons (de_var 1) (da_cons (de_var 2) da_nil)))))))
    (db_loo 7 (takes_of rfl rfl rfl rfl) (ok__law_ask T) (hr.mono (by decide)) sc__law_all_right.nd (dc_pos rfl T.g__law_ask T.F__law_ask.kp (b__law_ask T) .nil (fun _ _ => rfl) (da_cons (de_var 3) (da_cons (de_var 0) (da_cons (de_var 4) (da_cons (de_var 5) da_nil)))))
    (db_cons (ds_if (dt_w (dw_or (dt_tmp (dt_not (dt_val (de_callP (takes_of rfl rfl rfl rfl) (ok__law_same T 8) (hr.mono (by decide)) (dc_pos rfl T.g__law_same T.F__law_same.kp (b__law_same T) .nil (fun _ _ => rfl) (da_cons (de_var 7) (da_cons (de_var 6) da_nil))))))) (dw_or (dt_cmp (op_neD hr.units) f_ne (de_var 4) (de_var 1) (nomark _)) (dw_or1 (dt_cmp (op_neD hr.units) f_ne (de_var 5) (de_var 2) (nomark _)))))) (db_one (ds_ret de_bl)) db_nil)
    (db_cons (ds_if (dt_w (dw_and (dt_cmp (op_eqD hr.units) f_eq (de_var 3) de_int (nomark _)) (dw_and1 (dt_tmp (dt_cmp (op_eqD hr.units) f_eq (de_ix ix_seq f_ix (de_var 7) de_int) (de_str (t := "told")) (nomark _)))))) (db_cons (ds_mutA 7 1 lit_str)
    (db_one (ds_mutS 7 1 (k := 0) lit_str))) db_nil)
    (db_cons (ds_if (dt_w (dw_or (dt_cmp (op_neD hr.units) f_ne (de_var 5) (de_var 2) (nomark _)) (dw_or1 (dt_not (dt_val (de_callP (takes_of rfl rfl rfl rfl) (ok__law_same T 8) (hr.mono (by decide)) (dc_pos rfl T.g__law_same T.F__law_same.kp (b__law_same T) .nil (fun _ _ => rfl) (da_cons (de_callP (takes_of rfl rfl rfl rfl) (ok__law_ask T) (hr.mono (by decide)) (dc_pos rfl T.g__law_ask T.F__law_ask.kp (b__law_ask T) .nil (fun _ _ => rfl) (da_cons (de_var 3) (da_cons (de_var 0) (da_cons (de_var 4) (da_cons (de_var 5) da_nil)))))) (da_cons (de_var 6) da_nil))))))))) (db_one (ds_ret de_bl)) db_nil)
    (db_one (ds_if (dt_w (dw_or (dt_not (dt_val (de_callP (takes_of rfl rfl rfl rfl) (ok__law_same T 8) (hr.mono (by decide)) (dc_pos rfl T.g__law_same T.F__law_same.kp (b__law_same T) .nil (fun _ _ => rfl) (da_cons (de_callP (takes_of rfl rfl rfl rfl) (ok__law_ask T) (hr.mono (by decide)) (dc_pos rfl T.g__law_ask T.F__law_ask.kp (b__law_ask T) .nil (fun _ _ => rfl) (da_cons (de_bin o2_add f_add (de_var 3) de_int) (da_cons (de_var 0) (da_cons (de_var 4) (da_cons (de_var 5) da_nil)))))) (da_cons (de_var 6) da_nil)))))) (dw_or (dt_cmp (op_neD hr.units) f_ne (de_var 4) (de_var 1) (nomark _)) (dw_or1 (dt_cmp (op_neD hr.units) f_ne (de_var 5) (de_var 2) (nomark _)))))) (db_one (ds_ret de_bl)) db_nil))))))))))
    (db_one (ds_ret de_bl)))
theorem ok__law_large_right (T : Fx P K mg) : FnOk P w K mg base (L2.CX P w) 11 T.f__law_large_right T.d__law_large_right ["_law_store", "_law_letters_here", "_law_heavy_here", "_law_words_here"] (spT ⟨K, cvT T⟩ m__law_large_right) :=
  fn_ok (k := 10) T.F__law_large_right sc__law_large_right fun cdv A outer s H E hr =>
    (db_cons (ds_set 4 sc__law_large_right.nd (de_sl (de_var 3) dp_none (dp_some de_int)))
    (db_cons (ds_set 5 sc__law_large_right.nd (de_call (takes_of rfl rfl rfl rfl) (ok__law_in_range T) (hr.mono (by decide)) (dc_pos rfl T.g__law_in_range T.F__law_in_range.kp (b__law_in_range T) .nil (fun _ _ => rfl) (da_cons (de_var 0) (da_cons (de_bin o2_add f_add (de_bin op_fdivW f_fdiv de_int (de_callB call_len f_len rfl T.b_len (by decide +kernel) (da_cons (de_var 4) da_nil))) de_int) (da_cons (de_bin op_fdivW f_fdiv de_int (de_callB call_len f_len rfl T.b_len (by decide +kernel) (da_cons (de_var 4) da_nil))) da_nil))))))
    (db_cons (ds_set 6 sc__law_large_right.nd (de_fz (do_lst da_nil)))
    (db_cons (ds_for (passes_of rfl) rfl (di_any (de_callP (takes_of rfl rfl rfl rfl) (ok__law_sorted T) (hr.mono (by decide)) (dc_pos rfl T.g__law_sorted T.F__law_sorted.kp (b__law_sorted T) .nil (fun _ _ => rfl) (da_cons (de_var 1) (da_cons (de_var 2) (da_cons (de_var 4) da_nil)))))) (dg_name 7 sc__law_large_right.nd) (db_one (ds_set 6 sc__law_large_right.nd (de_bin o2_add f_add (de_var 6) (de_bin o2_mul f_mul (de_fz (do_lst (da_cons (de_var 7) da_nil))) (de_var 5))))))
    (db_cons (ds_set 8 sc__law_large_right.nd (de_bin o2_mul f_mul (de_var 4) (de_var 5)))
    (db_cons (ds_if (dt_w (dw_or (dt_not (dt_val (de_callP (takes_of rfl rfl rfl rfl) (ok__law_same T 8) (hr.mono (by decide)) (dc_pos rfl T.g__law_same T.F__law_same.kp (b__law_same T) .nil (fun _ _ => rfl) (da_cons (de_callP (takes_of rfl rfl rfl rfl) (ok__law_ask T) (hr.mono (by decide)) (dc_pos rfl T.g__law_ask T.F__law_ask.kp (b__law_ask T) .nil (fun _ _ => rfl) (da_cons de_int (da_cons (de_var 1) (da_cons (de_fz (do_callTy call_list_of f_list rfl T.b_list (by decide +kernel) (da_cons (de_var 2) da_nil))) (da_cons (de_var 8) da_nil)))))) (da_cons (de_tup (da_cons (de_str (t := "told")) (da_cons (de_var 6) da_nil))) da_nil)))))) (dw_or1 (dt_cmp (op_neD hr.units) f_ne (de_var 8) (de_bin o2_mul f_mul (de_var 4) (de_var 5)) (nomark _))))) (db_one (ds_ret de_bl)) db_nil)
    (db_cons (ds_set 9 sc__law_large_right.nd (de_call (takes_of rfl rfl rfl rfl) (ok__law_in_range T) (hr.mono (by decide)) (dc_pos rfl T.g__law_in_range T.F__law_in_range.kp (b__law_in_range T) .nil (fun _ _ => rfl) (da_cons (de_var 0) (da_cons de_int (da_cons de_int da_nil))))))
    (db_cons (ds_set 10 sc__law_large_right.nd (de_bin o2_mul f_mul (de_sl (de_var 1) dp_none (dp_some de_int)) (de_var 9)))
    (db_cons (ds_set 11 sc__law_large_right.nd (de_call (takes_of rfl rfl rfl rfl) (ok__law_take T) (hr.mono (by decide)) (dc_pos rfl T.g__law_take T.F__law_take.kp (b__law_take T) .nil (fun _ _ => rfl) (da_cons (de_var 0) (da_cons (de_bin o2_add f_add (de_var 9) de_int) da_nil)))))
    (db_cons (ds_set 12 sc__law_large_right.nd (de_bin o2_add f_add (de_bin o2_add f_add (de_sl (de_var 10) dp_none (dp_some (de_var 11))) (de_call (takes_of rfl rfl rfl rfl) (ok__law_pick T) (hr.mono (by decide)) (dc_pos rfl T.g__law_pick T.F__law_pick.kp (b__law_pick T) .nil (fun _ _ => rfl) (da_cons (de_var 0) (da_cons (de_str (t := "?A 1-")) da_nil))))) (de_sl (de_var 10) (dp_some (de_var 11)) dp_none)))
    (db_cons (ds_for (passes_of rfl) rfl (di_any (de_fz (do_lst (da_cons (de_fz (do_lst (da_cons (de_var 10) (da_cons (de_ix ix_seq f_ix (de_var 3) de_int) da_nil)))) (da_cons (de_fz (do_lst (da_cons (de_ix ix_seq f_ix (de_var 3) de_int) (da_cons (de_var 12) da_nil)))) (da_cons (de_fz (do_lst (da_cons (de_var 12) (da_cons (de_var 10) da_nil)))) da_nil)))))) (dg_name 13 sc__law_large_right.nd) (db_one (ds_if (dt_not (dt_val (de_callP (takes_of rfl rfl rfl rfl) (ok__law_all_right T) (hr.mono (by decide)) (dc_pos rfl T.g__law_all_right T.F__law_all_right.kp (b__law_all_right T) .nil (fun _ _ => rfl) (da_cons (de_var 1) (da_cons (de_var 2) (da_cons (de_var 13) da_nil))))))) (db_one (ds_ret de_bl)) db_nil)))
    (db_one (ds_ret (de_callP (takes_of rfl rfl rfl rfl) (ok__law_all_right T) (hr.mono (by decide)) (dc_pos rfl T.g__law_all_right T.F__law_all_right.kp (b__law_all_right T) .nil (fun _ _ => rfl) (da_cons (de_bin o2_mul f_mul (de_var 1) de_int) (da_cons (de_var 2) (da_cons (de_fz (do_lst (da_cons (de_ix ix_seq f_ix (de_var 3) de_int) (da_cons (de_var 12) da_nil)))) da_nil))))))))))))))))))
theorem ok_law (T : Fx P K mg) : FnOk P w K mg base (L2.CX P w) 12 T.f_law T.d_law ["_law_script"] (spT ⟨K, cvT T⟩ m_law) :=
  fn_ok (k := 11) T.F_law sc_law fun cdv A outer s H E hr =>
    (db_prom 1 sc_law.nd (do_callP (takes_of rfl rfl rfl rfl) (ok__law_draws T) (hr.mono (by decide)) (dc_pos rfl T.g__law_draws T.F__law_draws.kp (b__law_draws T) .nil (fun _ _ => rfl) (da_cons (de_var 0) da_nil)))
    (db_cons (ds_set 2 sc_law.nd (de_call (takes_of rfl rfl rfl rfl) (ok__law_letters T) (hr.mono (by decide)) (dc_pos rfl T.g__law_letters T.F__law_letters.kp (b__law_letters T) .nil (fun _ _ => rfl) (da_cons (de_var 1) (da_cons de_int (da_cons de_int da_nil))))))
    (db_cons (ds_set 3 sc_law.nd (de_call (takes_of rfl rfl rfl rfl) (ok__law_heavy T) (hr.mono (by decide)) (dc_pos rfl T.g__law_heavy T.F__law_heavy.kp (b__law_heavy T) .nil (fun _ _ => rfl) (da_cons (de_var 1) (da_cons (de_callB call_len f_len rfl T.b_len (by decide +kernel) (da_cons (de_var 2) da_nil)) da_nil)))))
    (db_cons (ds_set 4 sc_law.nd (de_call (takes_of rfl rfl rfl rfl) (ok__law_words T) (hr.mono (by decide)) (dc_pos rfl T.g__law_words T.F__law_words.kp (b__law_words T) .nil (fun _ _ => rfl) (da_cons (de_var 1) (da_cons (de_var 2) da_nil)))))
    (db_cons (ds_if (dt_not (dt_val (de_callP (takes_of rfl rfl rfl rfl) (ok__law_all_right T) (hr.mono (by decide)) (dc_pos rfl T.g__law_all_right T.F__law_all_right.kp (b__law_all_right T) .nil (fun _ _ => rfl) (da_cons (de_var 2) (da_cons (de_var 3) (da_cons (de_var 4) da_nil))))))) (db_one (ds_ret de_bl)) db_nil)
    (db_cons (ds_for (passes_of rfl) rfl (di_any (de_fz (do_lst (da_cons (de_fz (do_lst (da_cons (de_ix ix_seq f_ix (de_var 4) de_int) (da_cons (de_ix ix_seq f_ix (de_var 4) de_int) da_nil)))) (da_cons (de_fz (do_lst (da_cons (de_ix ix_seq f_ix (de_var 4) de_int) (da_cons (de_ix ix_seq f_ix (de_var 4) de_int) da_nil)))) (da_cons (de_fz (do_lst (da_cons (de_ix ix_seq f_ix (de_var 4) (de_un un_neg f_neg de_int)) (da_cons (de_ix ix_seq f_ix (de_var 4) de_int) da_nil)))) da_nil)))))) (dg_name 5 sc_law.nd) (db_one (ds_if (dt_not (dt_val (de_callP (takes_of rfl rfl rfl rfl) (ok__law_all_right T) (hr.mono (by decide)) (dc_pos rfl T.g__law_all_right T.F__law_all_right.kp (b__law_all_right T) .nil (fun _ _ => rfl) (da_cons (de_var 2) (da_cons (de_var 3) (da_cons (de_var 5) da_nil))))))) (db_one (ds_ret de_bl)) db_nil)))
    (db_cons (ds_if (dt_not (dt_val (de_callP (takes_of rfl rfl rfl rfl) (ok__law_same T 8) (hr.mono (by decide)) (dc_pos rfl T.g__law_same T.F__law_same.kp (b__law_same T) .nil (fun _ _ => rfl) (da_cons (de_callP (takes_of rfl rfl rfl rfl) (ok__law_ask T) (hr.mono (by decide)) (dc_pos rfl T.g__law_ask T.F__law_ask.kp (b__law_ask T) .nil (fun _ _ => rfl) (da_cons de_int (da_cons (de_var 2) (da_cons (de_fz (do_callTy call_list_of f_list rfl T.b_list (by decide +kernel) (da_cons (de_var 3) da_nil))) (da_cons (de_fz (do_lst da_nil)) da_nil)))))) (da_cons (de_tup (da_cons (de_str (t := "told")) (da_cons (de_fz (do_lst da_nil)) da_nil))) da_nil)))))) (db_one (ds_ret de_bl)) db_nil)
    (db_cons (ds_if (dt_not (dt_val (de_callP (takes_of rfl rfl rfl rfl) (ok__law_all_right T) (hr.mono (by decide)) (dc_pos rfl T.g__law_all_right T.F__law_all_right.kp (b__law_all_right T) .nil (fun _ _ => rfl) (da_cons (de_rev (de_var 2)) (da_cons (de_rev (de_var 3)) (da_cons (de_var 4) da_nil))))))) (db_one (ds_ret de_bl)) db_nil)
    (db_cons (ds_set 6 sc_law.nd (de_var 2))
    (db_cons (ds_set 7 sc_law.nd (de_var 3))
    (db_cons (ds_setO 8 sc_law.nd (do_callTy call_list_of f_list rfl T.b_list (by decide +kernel) (da_cons (de_var 4) da_nil)))
    (db_cons (ds_if (dt_cmp (op_eqD hr.units) f_eq (de_call (takes_of rfl rfl rfl rfl) (ok__law_take T) (hr.mono (by decide)) (dc_pos rfl T.g__law_take T.F__law_take.kp (b__law_take T) .nil (fun _ _ => rfl) (da_cons (de_var 1) (da_cons de_int da_nil)))) de_int (nomark _)) (db_one (ds_set 6 sc_law.nd (de_call (takes_of rfl rfl rfl rfl) (ok__law_bad_letters T) (hr.mono (by decide)) (dc_pos rfl T.g__law_bad_letters T.F__law_bad_letters.kp (b__law_bad_letters T) .nil (fun _ _ => rfl) (da_cons (de_var 1) da_nil))))) db_nil)
    (db_cons (ds_if (dt_cmp (op_eqD hr.units) f_eq (de_call (takes_of rfl rfl rfl rfl) (ok__law_take T) (hr.mono (by decide)) (dc_pos rfl T.g__law_take T.F__law_take.kp (b__law_take T) .nil (fun _ _ => rfl) (da_cons (de_var 1) (da_cons de_int da_nil)))) de_int (nomark _)) (db_one (ds_set 7 sc_law.nd (de_call (takes_of rfl rfl rfl rfl) (ok__law_bad_heavy T) (hr.mono (by decide)) (dc_pos rfl T.g__law_bad_heavy T.F__law_bad_heavy.kp (b__law_bad_heavy T) .nil (fun _ _ => rfl) (da_cons (de_var 1) (da_cons (de_callB call_len f_len rfl T.b_len (by decide +kernel) (da_cons (de_var 2) da_nil)) da_nil)))))) db_nil)
    (db_cons (ds_for (passes_of rfl) rfl (di_range1 rfl T.b_range (da_cons (de_bin o2_add f_add de_int (de_call (takes_of rfl rfl rfl rfl) (ok__law_take T) (hr.mono (by decide)) (dc_pos rfl T.g__law_take T.F__law_take.kp (b__law_take T) .nil (fun _ _ => rfl) (da_cons (de_var 1) (da_cons de_int da_nil))))) da_nil)) (dg_name 9 sc_law.nd) (db_cons (ds_set 11 sc_law.nd (de_call (takes_of rfl rfl rfl rfl) (ok__law_pick T) (hr.mono (by decide)) (dc_pos rfl T.g__law_pick T.F__law_pick.kp (b__law_pick T) .nil (fun _ _ => rfl) (da_cons (de_var 1) (da_cons (de_fz (do_lst (da_cons de_int (da_cons de_int (da_cons (de_call (takes_of rfl rfl rfl rfl) (ok__law_take T) (hr.mono (by decide)) (dc_pos rfl T.g__law_take T.F__law_take.kp (b__law_take T) .nil (fun _ _ => rfl) (da_cons (de_var 1) (da_cons (de_callB call_len f_len rfl T.b_len (by decide +kernel) (da_cons (de_var 4) da_nil)) da_nil)))) da_nil))))) da_nil)))))
    (db_one (ds_putO 8 (de_ix ix_seq f_ix (de_call (takes_of rfl rfl rfl rfl) (ok__law_bad_word T) (hr.mono (by decide)) (dc_pos rfl T.g__law_bad_word T.F__law_bad_word.kp (b__law_bad_word T) .nil (fun _ _ => rfl) (da_cons (de_var 1) (da_cons (de_var 2) da_nil)))) de_int) (de_var 11)))))
    (db_frz 8 (db_cons (ds_for (passes_of rfl) rfl (di_any (de_fz (do_lst (da_cons (de_tup (da_cons (de_var 6) (da_cons (de_var 3) (da_cons (de_var 4) da_nil)))) (da_cons (de_tup (da_cons (de_var 2) (da_cons (de_var 7) (da_cons (de_var 4) da_nil)))) (da_cons (de_tup (da_cons (de_var 2) (da_cons (de_var 3) (da_cons (de_var 8) da_nil)))) da_nil)))))) (dg_name 10 sc_law.nd) (db_one (ds_if (dt_not (dt_val (de_callP (takes_of rfl rfl rfl rfl) (ok__law_all_right T) (hr.mono (by decide)) (dc_pos rfl T.g__law_all_right T.F__law_all_right.kp (b__law_all_right T) .nil (fun _ _ => rfl) (da_cons (de_ix ix_seq f_ix (de_var 10) de_int) (da_cons (de_ix ix_seq f_ix (de_var 10) de_int) (da_cons (de_ix ix_seq f_ix (de_var 10) de_int) da_nil))))))) (db_one (ds_ret de_bl)) db_nil)))
    (db_cons (ds_if (dt_not (dt_val (de_callP (takes_of rfl rfl rfl rfl) (ok__law_all_right T) (hr.mono (by decide)) (dc_pos rfl T.g__law_all_right T.F__law_all_right.kp (b__law_all_right T) .nil (fun _ _ => rfl) (da_cons (de_var 6) (da_cons (de_var 7) (da_cons (de_var 8) da_nil))))))) (db_one (ds_ret de_bl)) db_nil)
    (db_cons (ds_if (dt_w (dw_and (dt_val (de_call (takes_of rfl rfl rfl rfl) (ok__law_rare T) (hr.mono (by decide)) (dc_pos rfl T.g__law_rare T.F__law_rare.kp (b__law_rare T) .nil (fun _ _ => rfl) (da_cons (de_var 1) (da_cons de_int da_nil))))) (dw_and1 (dt_not (dt_val (de_call (takes_of rfl rfl rfl rfl) (ok__law_large_right T) (hr.mono (by decide)) (dc_pos rfl T.g__law_large_right T.F__law_large_right.kp (b__law_large_right T) .nil (fun _ _ => rfl) (da_cons (de_var 1) (da_cons (de_var 2) (da_cons (de_var 3) (da_cons (de_var 4) da_nil))))))))))) (db_one (ds_ret de_bl)) db_nil)
    (db_one (ds_ret (de_callP (takes_of rfl rfl rfl rfl) (ok__law_all_right T) (hr.mono (by decide)) (dc_pos rfl T.g__law_all_right T.F__law_all_right.kp (b__law_all_right T) .nil (fun _ _ => rfl) (da_cons (de_var 2) (da_cons (de_var 3) (da_cons (de_var 4) da_nil)))))))))))))))))))))))))
end
theorem all_mk {P : Program} {K : PySem.W.Frag} {h : Heap} {mg : Str → Option Value} (X : K.In h) (G : h.Ns mainGlobals mg)
    {f0 : Addr} {od0 an0 : Option Addr} {sl0 : Array (Option Value)} {oc0 kV0 dc0 pm0 cd0 ct0 : Value}
    (a0 : PySem.W.nsIn K mainGlobals "is_alphabet" = some (some (.ref f0))) (l0 : K.lookup f0 = some ⟨oc0, od0, .func (PySem.W.fnOf "is_alphabet" "is_alphabet" (defArgs s_is_alphabet) (defBody s_is_alphabet) (defScope s_is_alphabet) .none kV0 dc0 pm0 an0 cd0 ct0), sl0⟩) (c0 : PySem.W.codeIn K cd0 "is_alphabet" = true) (k0 : PySem.W.keepIn K (.ref f0) = true)
    {f1 : Addr} {od1 an1 : Option Addr} {sl1 : Array (Option Value)} {oc1 kV1 dc1 pm1 cd1 ct1 : Value}
    (a1 : PySem.W.nsIn K mainGlobals "has_only" = some (some (.ref f1))) (l1 : K.lookup f1 = some ⟨oc1, od1, .func (PySem.W.fnOf "has_only" "has_only" (defArgs s_has_only) (defBody s_has_only) (defScope s_has_only) .none kV1 dc1 pm1 an1 cd1 ct1), sl1⟩) (c1 : PySem.W.codeIn K cd1 "has_only" = true) (k1 : PySem.W.keepIn K (.ref f1) = true)
    {f2 : Addr} {od2 an2 : Option Addr} {sl2 : Array (Option Value)} {oc2 kV2 dc2 pm2 cd2 ct2 : Value}
    (a2 : PySem.W.nsIn K mainGlobals "check_letters" = some (some (.ref f2))) (l2 : K.lookup f2 = some ⟨oc2, od2, .func (PySem.W.fnOf "check_letters" "check_letters" (defArgs s_check_letters) (defBody s_check_letters) (defScope s_check_letters) .none kV2 dc2 pm2 an2 cd2 ct2), sl2⟩) (c2 : PySem.W.codeIn K cd2 "check_letters" = true) (k2 : PySem.W.keepIn K (.ref f2) = true)
    {f3 : Addr} {od3 an3 : Option Addr} {sl3 : Array (Option Value)} {oc3 kV3 dc3 pm3 cd3 ct3 : Value}
    (a3 : PySem.W.nsIn K mainGlobals "check_weights" = some (some (.ref f3))) (l3 : K.lookup f3 = some ⟨oc3, od3, .func (PySem.W.fnOf "check_weights" "check_weights" (defArgs s_check_weights) (defBody s_check_weights) (defScope s_check_weights) .none kV3 dc3 pm3 an3 cd3 ct3), sl3⟩) (c3 : PySem.W.codeIn K cd3 "check_weights" = true) (k3 : PySem.W.keepIn K (.ref f3) = true)
    {f4 : Addr} {od4 an4 : Option Addr} {sl4 : Array (Option Value)} {oc4 kV4 dc4 pm4 cd4 ct4 : Value}
    (a4 : PySem.W.nsIn K mainGlobals "check_word" = some (some (.ref f4))) (l4 : K.lookup f4 = some ⟨oc4, od4, .func (PySem.W.fnOf "check_word" "check_word" (defArgs s_check_word) (defBody s_check_word) (defScope s_check_word) .none kV4 dc4 pm4 an4 cd4 ct4), sl4⟩) (c4 : PySem.W.codeIn K cd4 "check_word" = true) (k4 : PySem.W.keepIn K (.ref f4) = true)
    {f5 : Addr} {od5 an5 : Option Addr} {sl5 : Array (Option Value)} {oc5 kV5 dc5 pm5 cd5 ct5 : Value}
    (a5 : PySem.W.nsIn K mainGlobals "sum_weights" = some (some (.ref f5))) (l5 : K.lookup f5 = some ⟨oc5, od5, .func (PySem.W.fnOf "sum_weights" "sum_weights" (defArgs s_sum_weights) (defBody s_sum_weights) (defScope s_sum_weights) .none kV5 dc5 pm5 an5 cd5 ct5), sl5⟩) (c5 : PySem.W.codeIn K cd5 "sum_weights" = true) (k5 : PySem.W.keepIn K (.ref f5) = true)
    {f6 : Addr} {od6 an6 : Option Addr} {sl6 : Array (Option Value)} {oc6 kV6 dc6 pm6 cd6 ct6 : Value}
    (a6 : PySem.W.nsIn K mainGlobals "order_key" = some (some (.ref f6))) (l6 : K.lookup f6 = some ⟨oc6, od6, .func (PySem.W.fnOf "order_key" "order_key" (defArgs s_order_key) (defBody s_order_key) (defScope s_order_key) .none kV6 dc6 pm6 an6 cd6 ct6), sl6⟩) (c6 : PySem.W.codeIn K cd6 "order_key" = true) (k6 : PySem.W.keepIn K (.ref f6) = true)
    {f7 : Addr} {od7 an7 : Option Addr} {sl7 : Array (Option Value)} {oc7 kV7 dc7 pm7 cd7 ct7 : Value}
    (a7 : PySem.W.nsIn K mainGlobals "word_weight" = some (some (.ref f7))) (l7 : K.lookup f7 = some ⟨oc7, od7, .func (PySem.W.fnOf "word_weight" "word_weight" (defArgs s_word_weight) (defBody s_word_weight) (defScope s_word_weight) .none kV7 dc7 pm7 an7 cd7 ct7), sl7⟩) (c7 : PySem.W.codeIn K cd7 "word_weight" = true) (k7 : PySem.W.keepIn K (.ref f7) = true)
    {f8 : Addr} {od8 an8 : Option Addr} {sl8 : Array (Option Value)} {oc8 kV8 dc8 pm8 cd8 ct8 : Value}
    (a8 : PySem.W.nsIn K mainGlobals "compare_words" = some (some (.ref f8))) (l8 : K.lookup f8 = some ⟨oc8, od8, .func (PySem.W.fnOf "compare_words" "compare_words" (defArgs s_compare_words) (defBody s_compare_words) (defScope s_compare_words) .none kV8 dc8 pm8 an8 cd8 ct8), sl8⟩) (c8 : PySem.W.codeIn K cd8 "compare_words" = true) (k8 : PySem.W.keepIn K (.ref f8) = true)
    {f9 : Addr} {od9 an9 : Option Addr} {sl9 : Array (Option Value)} {oc9 kV9 dc9 pm9 cd9 ct9 : Value}
    (a9 : PySem.W.nsIn K mainGlobals "sort_words" = some (some (.ref f9))) (l9 : K.lookup f9 = some ⟨oc9, od9, .func (PySem.W.fnOf "sort_words" "sort_words" (defArgs s_sort_words) (defBody s_sort_words) (defScope s_sort_words) .none kV9 dc9 pm9 an9 cd9 ct9), sl9⟩) (c9 : PySem.W.codeIn K cd9 "sort_words" = true) (k9 : PySem.W.keepIn K (.ref f9) = true)
    {f10 : Addr} {od10 an10 : Option Addr} {sl10 : Array (Option Value)} {oc10 kV10 dc10 pm10 cd10 ct10 : Value}
    (a10 : PySem.W.nsIn K mainGlobals "_law_draws" = some (some (.ref f10))) (l10 : K.lookup f10 = some ⟨oc10, od10, .func (PySem.W.fnOf "_law_draws" "_law_draws" (defArgs s__law_draws) (defBody s__law_draws) (defScope s__law_draws) .none kV10 dc10 pm10 an10 cd10 ct10), sl10⟩) (c10 : PySem.W.codeIn K cd10 "_law_draws" = true) (k10 : PySem.W.keepIn K (.ref f10) = true)
    {f11 : Addr} {od11 an11 : Option Addr} {sl11 : Array (Option Value)} {oc11 kV11 dc11 pm11 cd11 ct11 : Value}
    (a11 : PySem.W.nsIn K mainGlobals "_law_mixed" = some (some (.ref f11))) (l11 : K.lookup f11 = some ⟨oc11, od11, .func (PySem.W.fnOf "_law_mixed" "_law_mixed" (defArgs s__law_mixed) (defBody s__law_mixed) (defScope s__law_mixed) .none kV11 dc11 pm11 an11 cd11 ct11), sl11⟩) (c11 : PySem.W.codeIn K cd11 "_law_mixed" = true) (k11 : PySem.W.keepIn K (.ref f11) = true)
    {f12 : Addr} {od12 an12 : Option Addr} {sl12 : Array (Option Value)} {oc12 kV12 dc12 pm12 cd12 ct12 : Value}
    (a12 : PySem.W.nsIn K mainGlobals "_law_take" = some (some (.ref f12))) (l12 : K.lookup f12 = some ⟨oc12, od12, .func (PySem.W.fnOf "_law_take" "_law_take" (defArgs s__law_take) (defBody s__law_take) (defScope s__law_take) .none kV12 dc12 pm12 an12 cd12 ct12), sl12⟩) (c12 : PySem.W.codeIn K cd12 "_law_take" = true) (k12 : PySem.W.keepIn K (.ref f12) = true)
    {f13 : Addr} {od13 an13 : Option Addr} {sl13 : Array (Option Value)} {oc13 kV13 dc13 pm13 cd13 ct13 : Value}
    (a13 : PySem.W.nsIn K mainGlobals "_law_span" = some (some (.ref f13))) (l13 : K.lookup f13 = some ⟨oc13, od13, .func (PySem.W.fnOf "_law_span" "_law_span" (defArgs s__law_span) (defBody s__law_span) (defScope s__law_span) .none kV13 dc13 pm13 an13 cd13 ct13), sl13⟩) (c13 : PySem.W.codeIn K cd13 "_law_span" = true) (k13 : PySem.W.keepIn K (.ref f13) = true)
    {f14 : Addr} {od14 an14 : Option Addr} {sl14 : Array (Option Value)} {oc14 kV14 dc14 pm14 cd14 ct14 : Value}
    (a14 : PySem.W.nsIn K mainGlobals "_law_rare" = some (some (.ref f14))) (l14 : K.lookup f14 = some ⟨oc14, od14, .func (PySem.W.fnOf "_law_rare" "_law_rare" (defArgs s__law_rare) (defBody s__law_rare) (defScope s__law_rare) .none kV14 dc14 pm14 an14 cd14 ct14), sl14⟩) (c14 : PySem.W.codeIn K cd14 "_law_rare" = true) (k14 : PySem.W.keepIn K (.ref f14) = true)
    {f15 : Addr} {od15 an15 : Option Addr} {sl15 : Array (Option Value)} {oc15 kV15 dc15 pm15 cd15 ct15 : Value}
    (a15 : PySem.W.nsIn K mainGlobals "_law_pick" = some (some (.ref f15))) (l15 : K.lookup f15 = some ⟨oc15, od15, .func (PySem.W.fnOf "_law_pick" "_law_pick" (defArgs s__law_pick) (defBody s__law_pick) (defScope s__law_pick) .none kV15 dc15 pm15 an15 cd15 ct15), sl15⟩) (c15 : PySem.W.codeIn K cd15 "_law_pick" = true) (k15 : PySem.W.keepIn K (.ref f15) = true)
    {f16 : Addr} {od16 an16 : Option Addr} {sl16 : Array (Option Value)} {oc16 kV16 dc16 pm16 cd16 ct16 : Value}
    (a16 : PySem.W.nsIn K mainGlobals "_law_in_range" = some (some (.ref f16))) (l16 : K.lookup f16 = some ⟨oc16, od16, .func (PySem.W.fnOf "_law_in_range" "_law_in_range" (defArgs s__law_in_range) (defBody s__law_in_range) (defScope s__law_in_range) .none kV16 dc16 pm16 an16 cd16 ct16), sl16⟩) (c16 : PySem.W.codeIn K cd16 "_law_in_range" = true) (k16 : PySem.W.keepIn K (.ref f16) = true)
    {f17 : Addr} {od17 an17 : Option Addr} {sl17 : Array (Option Value)} {oc17 kV17 dc17 pm17 cd17 ct17 : Value}
    (a17 : PySem.W.nsIn K mainGlobals "_law_out_of_range" = some (some (.ref f17))) (l17 : K.lookup f17 = some ⟨oc17, od17, .func (PySem.W.fnOf "_law_out_of_range" "_law_out_of_range" (defArgs s__law_out_of_range) (defBody s__law_out_of_range) (defScope s__law_out_of_range) .none kV17 dc17 pm17 an17 cd17 ct17), sl17⟩) (c17 : PySem.W.codeIn K cd17 "_law_out_of_range" = true) (k17 : PySem.W.keepIn K (.ref f17) = true)
    {f18 : Addr} {od18 an18 : Option Addr} {sl18 : Array (Option Value)} {oc18 kV18 dc18 pm18 cd18 ct18 : Value}
    (a18 : PySem.W.nsIn K mainGlobals "_law_letters" = some (some (.ref f18))) (l18 : K.lookup f18 = some ⟨oc18, od18, .func (PySem.W.fnOf "_law_letters" "_law_letters" (defArgs s__law_letters) (defBody s__law_letters) (defScope s__law_letters) .none kV18 dc18 pm18 an18 cd18 ct18), sl18⟩) (c18 : PySem.W.codeIn K cd18 "_law_letters" = true) (k18 : PySem.W.keepIn K (.ref f18) = true)
    {f19 : Addr} {od19 an19 : Option Addr} {sl19 : Array (Option Value)} {oc19 kV19 dc19 pm19 cd19 ct19 : Value}
    (a19 : PySem.W.nsIn K mainGlobals "_law_stranger" = some (some (.ref f19))) (l19 : K.lookup f19 = some ⟨oc19, od19, .func (PySem.W.fnOf "_law_stranger" "_law_stranger" (defArgs s__law_stranger) (defBody s__law_stranger) (defScope s__law_stranger) .none kV19 dc19 pm19 an19 cd19 ct19), sl19⟩) (c19 : PySem.W.codeIn K cd19 "_law_stranger" = true) (k19 : PySem.W.keepIn K (.ref f19) = true)
    {f20 : Addr} {od20 an20 : Option Addr} {sl20 : Array (Option Value)} {oc20 kV20 dc20 pm20 cd20 ct20 : Value}
    (a20 : PySem.W.nsIn K mainGlobals "_law_bad_letters" = some (some (.ref f20))) (l20 : K.lookup f20 = some ⟨oc20, od20, .func (PySem.W.fnOf "_law_bad_letters" "_law_bad_letters" (defArgs s__law_bad_letters) (defBody s__law_bad_letters) (defScope s__law_bad_letters) .none kV20 dc20 pm20 an20 cd20 ct20), sl20⟩) (c20 : PySem.W.codeIn K cd20 "_law_bad_letters" = true) (k20 : PySem.W.keepIn K (.ref f20) = true)
    {f21 : Addr} {od21 an21 : Option Addr} {sl21 : Array (Option Value)} {oc21 kV21 dc21 pm21 cd21 ct21 : Value}
    (a21 : PySem.W.nsIn K mainGlobals "_law_heavy" = some (some (.ref f21))) (l21 : K.lookup f21 = some ⟨oc21, od21, .func (PySem.W.fnOf "_law_heavy" "_law_heavy" (defArgs s__law_heavy) (defBody s__law_heavy) (defScope s__law_heavy) .none kV21 dc21 pm21 an21 cd21 ct21), sl21⟩) (c21 : PySem.W.codeIn K cd21 "_law_heavy" = true) (k21 : PySem.W.keepIn K (.ref f21) = true)
    {f22 : Addr} {od22 an22 : Option Addr} {sl22 : Array (Option Value)} {oc22 kV22 dc22 pm22 cd22 ct22 : Value}
    (a22 : PySem.W.nsIn K mainGlobals "_law_bad_heavy" = some (some (.ref f22))) (l22 : K.lookup f22 = some ⟨oc22, od22, .func (PySem.W.fnOf "_law_bad_heavy" "_law_bad_heavy" (defArgs s__law_bad_heavy) (defBody s__law_bad_heavy) (defScope s__law_bad_heavy) .none kV22 dc22 pm22 an22 cd22 ct22), sl22⟩) (c22 : PySem.W.codeIn K cd22 "_law_bad_heavy" = true) (k22 : PySem.W.keepIn K (.ref f22) = true)
    {f23 : Addr} {od23 an23 : Option Addr} {sl23 : Array (Option Value)} {oc23 kV23 dc23 pm23 cd23 ct23 : Value}
    (a23 : PySem.W.nsIn K mainGlobals "_law_word" = some (some (.ref f23))) (l23 : K.lookup f23 = some ⟨oc23, od23, .func (PySem.W.fnOf "_law_word" "_law_word" (defArgs s__law_word) (defBody s__law_word) (defScope s__law_word) .none kV23 dc23 pm23 an23 cd23 ct23), sl23⟩) (c23 : PySem.W.codeIn K cd23 "_law_word" = true) (k23 : PySem.W.keepIn K (.ref f23) = true)
    {f24 : Addr} {od24 an24 : Option Addr} {sl24 : Array (Option Value)} {oc24 kV24 dc24 pm24 cd24 ct24 : Value}
    (a24 : PySem.W.nsIn K mainGlobals "_law_bad_word" = some (some (.ref f24))) (l24 : K.lookup f24 = some ⟨oc24, od24, .func (PySem.W.fnOf "_law_bad_word" "_law_bad_word" (defArgs s__law_bad_word) (defBody s__law_bad_word) (defScope s__law_bad_word) .none kV24 dc24 pm24 an24 cd24 ct24), sl24⟩) (c24 : PySem.W.codeIn K cd24 "_law_bad_word" = true) (k24 : PySem.W.keepIn K (.ref f24) = true)
    {f25 : Addr} {od25 an25 : Option Addr} {sl25 : Array (Option Value)} {oc25 kV25 dc25 pm25 cd25 ct25 : Value}
    (a25 : PySem.W.nsIn K mainGlobals "_law_same" = some (some (.ref f25))) (l25 : K.lookup f25 = some ⟨oc25, od25, .func (PySem.W.fnOf "_law_same" "_law_same" (defArgs s__law_same) (defBody s__law_same) (defScope s__law_same) .none kV25 dc25 pm25 an25 cd25 ct25), sl25⟩) (c25 : PySem.W.codeIn K cd25 "_law_same" = true) (k25 : PySem.W.keepIn K (.ref f25) = true)
    {f26 : Addr} {od26 an26 : Option Addr} {sl26 : Array (Option Value)} {oc26 kV26 dc26 pm26 cd26 ct26 : Value}
    (a26 : PySem.W.nsIn K mainGlobals "_law_word_fault" = some (some (.ref f26))) (l26 : K.lookup f26 = some ⟨oc26, od26, .func (PySem.W.fnOf "_law_word_fault" "_law_word_fault" (defArgs s__law_word_fault) (defBody s__law_word_fault) (defScope s__law_word_fault) .none kV26 dc26 pm26 an26 cd26 ct26), sl26⟩) (c26 : PySem.W.codeIn K cd26 "_law_word_fault" = true) (k26 : PySem.W.keepIn K (.ref f26) = true)
    {f27 : Addr} {od27 an27 : Option Addr} {sl27 : Array (Option Value)} {oc27 kV27 dc27 pm27 cd27 ct27 : Value}
    (a27 : PySem.W.nsIn K mainGlobals "_law_weigh" = some (some (.ref f27))) (l27 : K.lookup f27 = some ⟨oc27, od27, .func (PySem.W.fnOf "_law_weigh" "_law_weigh" (defArgs s__law_weigh) (defBody s__law_weigh) (defScope s__law_weigh) .none kV27 dc27 pm27 an27 cd27 ct27), sl27⟩) (c27 : PySem.W.codeIn K cd27 "_law_weigh" = true) (k27 : PySem.W.keepIn K (.ref f27) = true)
    {f28 : Addr} {od28 an28 : Option Addr} {sl28 : Array (Option Value)} {oc28 kV28 dc28 pm28 cd28 ct28 : Value}
    (a28 : PySem.W.nsIn K mainGlobals "_law_order" = some (some (.ref f28))) (l28 : K.lookup f28 = some ⟨oc28, od28, .func (PySem.W.fnOf "_law_order" "_law_order" (defArgs s__law_order) (defBody s__law_order) (defScope s__law_order) .none kV28 dc28 pm28 an28 cd28 ct28), sl28⟩) (c28 : PySem.W.codeIn K cd28 "_law_order" = true) (k28 : PySem.W.keepIn K (.ref f28) = true)
    {f29 : Addr} {od29 an29 : Option Addr} {sl29 : Array (Option Value)} {oc29 kV29 dc29 pm29 cd29 ct29 : Value}
    (a29 : PySem.W.nsIn K mainGlobals "_law_sorted" = some (some (.ref f29))) (l29 : K.lookup f29 = some ⟨oc29, od29, .func (PySem.W.fnOf "_law_sorted" "_law_sorted" (defArgs s__law_sorted) (defBody s__law_sorted) (defScope s__law_sorted) .none kV29 dc29 pm29 an29 cd29 ct29), sl29⟩) (c29 : PySem.W.codeIn K cd29 "_law_sorted" = true) (k29 : PySem.W.keepIn K (.ref f29) = true)
    {f30 : Addr} {od30 an30 : Option Addr} {sl30 : Array (Option Value)} {oc30 kV30 dc30 pm30 cd30 ct30 : Value}
    (a30 : PySem.W.nsIn K mainGlobals "_law_is_alphabet" = some (some (.ref f30))) (l30 : K.lookup f30 = some ⟨oc30, od30, .func (PySem.W.fnOf "_law_is_alphabet" "_law_is_alphabet" (defArgs s__law_is_alphabet) (defBody s__law_is_alphabet) (defScope s__law_is_alphabet) .none kV30 dc30 pm30 an30 cd30 ct30), sl30⟩) (c30 : PySem.W.codeIn K cd30 "_law_is_alphabet" = true) (k30 : PySem.W.keepIn K (.ref f30) = true)
    {f31 : Addr} {od31 an31 : Option Addr} {sl31 : Array (Option Value)} {oc31 kV31 dc31 pm31 cd31 ct31 : Value}
    (a31 : PySem.W.nsIn K mainGlobals "_law_ask" = some (some (.ref f31))) (l31 : K.lookup f31 = some ⟨oc31, od31, .func (PySem.W.fnOf "_law_ask" "_law_ask" (defArgs s__law_ask) (defBody s__law_ask) (defScope s__law_ask) .none kV31 dc31 pm31 an31 cd31 ct31), sl31⟩) (c31 : PySem.W.codeIn K cd31 "_law_ask" = true) (k31 : PySem.W.keepIn K (.ref f31) = true)
    {f32 : Addr} {od32 an32 : Option Addr} {sl32 : Array (Option Value)} {oc32 kV32 dc32 pm32 cd32 ct32 : Value}
    (a32 : PySem.W.nsIn K mainGlobals "_law_due" = some (some (.ref f32))) (l32 : K.lookup f32 = some ⟨oc32, od32, .func (PySem.W.fnOf "_law_due" "_law_due" (defArgs s__law_due) (defBody s__law_due) (defScope s__law_due) .none kV32 dc32 pm32 an32 cd32 ct32), sl32⟩) (c32 : PySem.W.codeIn K cd32 "_law_due" = true) (k32 : PySem.W.keepIn K (.ref f32) = true)
    {f33 : Addr} {od33 an33 : Option Addr} {sl33 : Array (Option Value)} {oc33 kV33 dc33 pm33 cd33 ct33 : Value}
    (a33 : PySem.W.nsIn K mainGlobals "_law_near" = some (some (.ref f33))) (l33 : K.lookup f33 = some ⟨oc33, od33, .func (PySem.W.fnOf "_law_near" "_law_near" (defArgs s__law_near) (defBody s__law_near) (defScope s__law_near) .none kV33 dc33 pm33 an33 cd33 ct33), sl33⟩) (c33 : PySem.W.codeIn K cd33 "_law_near" = true) (k33 : PySem.W.keepIn K (.ref f33) = true)
    {f34 : Addr} {od34 an34 : Option Addr} {sl34 : Array (Option Value)} {oc34 kV34 dc34 pm34 cd34 ct34 : Value}
    (a34 : PySem.W.nsIn K mainGlobals "_law_words" = some (some (.ref f34))) (l34 : K.lookup f34 = some ⟨oc34, od34, .func (PySem.W.fnOf "_law_words" "_law_words" (defArgs s__law_words) (defBody s__law_words) (defScope s__law_words) .none kV34 dc34 pm34 an34 cd34 ct34), sl34⟩) (c34 : PySem.W.codeIn K cd34 "_law_words" = true) (k34 : PySem.W.keepIn K (.ref f34) = true)
    {f35 : Addr} {od35 an35 : Option Addr} {sl35 : Array (Option Value)} {oc35 kV35 dc35 pm35 cd35 ct35 : Value}
    (a35 : PySem.W.nsIn K mainGlobals "_law_all_right" = some (some (.ref f35))) (l35 : K.lookup f35 = some ⟨oc35, od35, .func (PySem.W.fnOf "_law_all_right" "_law_all_right" (defArgs s__law_all_right) (defBody s__law_all_right) (defScope s__law_all_right) .none kV35 dc35 pm35 an35 cd35 ct35), sl35⟩) (c35 : PySem.W.codeIn K cd35 "_law_all_right" = true) (k35 : PySem.W.keepIn K (.ref f35) = true)
    {f36 : Addr} {od36 an36 : Option Addr} {sl36 : Array (Option Value)} {oc36 kV36 dc36 pm36 cd36 ct36 : Value}
    (a36 : PySem.W.nsIn K mainGlobals "_law_large_right" = some (some (.ref f36))) (l36 : K.lookup f36 = some ⟨oc36, od36, .func (PySem.W.fnOf "_law_large_right" "_law_large_right" (defArgs s__law_large_right) (defBody s__law_large_right) (defScope s__law_large_right) .none kV36 dc36 pm36 an36 cd36 ct36), sl36⟩) (c36 : PySem.W.codeIn K cd36 "_law_large_right" = true) (k36 : PySem.W.keepIn K (.ref f36) = true)
    {f37 : Addr} {od37 an37 : Option Addr} {sl37 : Array (Option Value)} {oc37 kV37 dc37 pm37 cd37 ct37 : Value}
    (a37 : PySem.W.nsIn K mainGlobals "law" = some (some (.ref f37))) (l37 : K.lookup f37 = some ⟨oc37, od37, .func (PySem.W.fnOf "law" "law" (defArgs s_law) (defBody s_law) (defScope s_law) .none kV37 dc37 pm37 an37 cd37 ct37), sl37⟩) (c37 : PySem.W.codeIn K cd37 "law" = true) (k37 : PySem.W.keepIn K (.ref f37) = true)
    {u_LETTERS : Value} (n_LETTERS : PySem.W.nsIn K mainGlobals "LETTERS" = some (some u_LETTERS)) (r_LETTERS : RelV (.int 6) u_LETTERS)
    {u_WEIGHT : Value} (n_WEIGHT : PySem.W.nsIn K mainGlobals "WEIGHT" = some (some u_WEIGHT)) (r_WEIGHT : RelV (.int 99) u_WEIGHT)
    {u_WORD : Value} (n_WORD : PySem.W.nsIn K mainGlobals "WORD" = some (some u_WORD)) (r_WORD : RelV (.int 32) u_WORD)
    {C_WayfillError : Addr} (m_WayfillError : PySem.W.nsIn K mainGlobals "WayfillError" = some (some (.ref C_WayfillError))) (e_WayfillError : ErF K C_WayfillError)
    (q_WayfillError : PySem.W.excIn K C_WayfillError [.type "ValueError", .type "Exception", .type "BaseException", .type "object"] "ValueError.__new__" = true)
    {C_BoundError : Addr} (m_BoundError : PySem.W.nsIn K mainGlobals "BoundError" = some (some (.ref C_BoundError))) (e_BoundError : ErF K C_BoundError)
    (q_BoundError : PySem.W.excIn K C_BoundError [.type "ValueError", .type "Exception", .type "BaseException", .type "object"] "ValueError.__new__" = true)
    {C_TooLong : Addr} (m_TooLong : PySem.W.nsIn K mainGlobals "TooLong" = some (some (.ref C_TooLong))) (e_TooLong : ErF K C_TooLong)
    (q_TooLong : PySem.W.excIn K C_TooLong [.type "ValueError", .type "Exception", .type "BaseException", .type "object"] "ValueError.__new__" = true)
    {C_TooMany : Addr} (m_TooMany : PySem.W.nsIn K mainGlobals "TooMany" = some (some (.ref C_TooMany))) (e_TooMany : ErF K C_TooMany)
    (q_TooMany : PySem.W.excIn K C_TooMany [.type "ValueError", .type "Exception", .type "BaseException", .type "object"] "ValueError.__new__" = true)
    {C_BadWeights : Addr} (m_BadWeights : PySem.W.nsIn K mainGlobals "BadWeights" = some (some (.ref C_BadWeights))) (e_BadWeights : ErF K C_BadWeights)
    (q_BadWeights : PySem.W.excIn K C_BadWeights [.type "ValueError", .type "Exception", .type "BaseException", .type "object"] "ValueError.__new__" = true)
    {C_BadLetters : Addr} (m_BadLetters : PySem.W.nsIn K mainGlobals "BadLetters" = some (some (.ref C_BadLetters))) (e_BadLetters : ErF K C_BadLetters)
    {C_BadWord : Addr} (m_BadWord : PySem.W.nsIn K mainGlobals "BadWord" = some (some (.ref C_BadWord))) (e_BadWord : ErF K C_BadWord)
    {fI_BadLetters cda_BadLetters cc_BadLetters : Addr} {od_BadLetters an_BadLetters cdd_BadLetters cld_BadLetters : Option Addr} {oc_BadLetters kV_BadLetters dc_BadLetters pm_BadLetters ct_BadLetters ccl_BadLetters cl_BadLetters : Value} {osl_BadLetters ccs_BadLetters csl_BadLetters : Array (Option Value)} {vs_BadLetters : Array Value} {fl_BadLetters : Str} {tf_BadLetters : Tok}
    (i1_BadLetters : PySem.W.findIn K (.ref C_BadLetters) "__init__" = some (some (.ref fI_BadLetters))) (i2_BadLetters : PySem.W.typeIn K (.ref fI_BadLetters) = some (.type "function"))
    (i3_BadLetters : K.lookup fI_BadLetters = some ⟨oc_BadLetters, od_BadLetters, .func (PySem.W.fnX "__init__" "BadLetters.__init__" (defArgs sI_BadLetters) (defBody sI_BadLetters) (defScope sI_BadLetters) [("__class__", cc_BadLetters)] .none kV_BadLetters dc_BadLetters pm_BadLetters an_BadLetters (.ref cda_BadLetters) ct_BadLetters), osl_BadLetters⟩) (i4_BadLetters : PySem.W.codeIn K (.ref cda_BadLetters) "BadLetters.__init__" = true)
    (i5_BadLetters : K.lookup cda_BadLetters = some ⟨ccl_BadLetters, cdd_BadLetters, .fields vs_BadLetters, ccs_BadLetters⟩) (i6_BadLetters : vs_BadLetters[2]? = some (.str fl_BadLetters tf_BadLetters)) (i7_BadLetters : ((P.main.file : Str) == fl_BadLetters) = true) (i8_BadLetters : K.lookup cc_BadLetters = some ⟨cl_BadLetters, cld_BadLetters, .cell (some (.ref C_BadLetters)), csl_BadLetters⟩)
    (i9_BadLetters : PySem.W.ks_superIn K C_BadLetters C_BadLetters "__init__" = some (some (.builtin "ValueError.__init__"))) (ia_BadLetters : PySem.W.subIn K (.ref C_BadLetters) (.type "ValueError") = some true) (ib_BadLetters : PySem.W.mroIn K C_BadLetters (.ref C_BadLetters) = some true)
    {fI_BadWord cda_BadWord cc_BadWord : Addr} {od_BadWord an_BadWord cdd_BadWord cld_BadWord : Option Addr} {oc_BadWord kV_BadWord dc_BadWord pm_BadWord ct_BadWord ccl_BadWord cl_BadWord : Value} {osl_BadWord ccs_BadWord csl_BadWord : Array (Option Value)} {vs_BadWord : Array Value} {fl_BadWord : Str} {tf_BadWord : Tok}
    (i1_BadWord : PySem.W.findIn K (.ref C_BadWord) "__init__" = some (some (.ref fI_BadWord))) (i2_BadWord : PySem.W.typeIn K (.ref fI_BadWord) = some (.type "function"))
    (i3_BadWord : K.lookup fI_BadWord = some ⟨oc_BadWord, od_BadWord, .func (PySem.W.fnX "__init__" "BadWord.__init__" (defArgs sI_BadWord) (defBody sI_BadWord) (defScope sI_BadWord) [("__class__", cc_BadWord)] .none kV_BadWord dc_BadWord pm_BadWord an_BadWord (.ref cda_BadWord) ct_BadWord), osl_BadWord⟩) (i4_BadWord : PySem.W.codeIn K (.ref cda_BadWord) "BadWord.__init__" = true)
    (i5_BadWord : K.lookup cda_BadWord = some ⟨ccl_BadWord, cdd_BadWord, .fields vs_BadWord, ccs_BadWord⟩) (i6_BadWord : vs_BadWord[2]? = some (.str fl_BadWord tf_BadWord)) (i7_BadWord : ((P.main.file : Str) == fl_BadWord) = true) (i8_BadWord : K.lookup cc_BadWord = some ⟨cl_BadWord, cld_BadWord, .cell (some (.ref C_BadWord)), csl_BadWord⟩)
    (i9_BadWord : PySem.W.ks_superIn K C_BadWord C_BadWord "__init__" = some (some (.builtin "ValueError.__init__"))) (ia_BadWord : PySem.W.subIn K (.ref C_BadWord) (.type "ValueError") = some true) (ib_BadWord : PySem.W.mroIn K C_BadWord (.ref C_BadWord) = some true)
    (qOpq : PySem.W.nsIn K cStatics "thirdparty.any" = some none) (qTop : (P.main.scope.names.lookup ("super" : Str)).isSome = false)
    (n_BadLetters_text : PySem.W.findIn K (.ref C_BadLetters) "text" = some none)
    (n_BadWord_text : PySem.W.findIn K (.ref C_BadWord) "text" = some none)
    (h_0 : tabOk (PySem.W.exmOne K) [("WayfillError", C_WayfillError), ("BoundError", C_BoundError), ("TooLong", C_TooLong), ("TooMany", C_TooMany), ("BadWeights", C_BadWeights), ("BadLetters", C_BadLetters), ("BadWord", C_BadWord)] (.ref C_WayfillError) [("WayfillError", true), ("BoundError", true), ("TooLong", true), ("TooMany", true), ("BadWeights", true), ("BadLetters", true), ("BadWord", true)] = true)
    (h_1 : tabOk (PySem.W.kitOne K) [("WayfillError", C_WayfillError), ("BoundError", C_BoundError), ("TooLong", C_TooLong), ("TooMany", C_TooMany), ("BadWeights", C_BadWeights), ("BadLetters", C_BadLetters), ("BadWord", C_BadWord)] (.type "ValueError") [("WayfillError", true), ("BoundError", true), ("TooLong", true), ("TooMany", true), ("BadWeights", true), ("BadLetters", true), ("BadWord", true)] = true)
    (h_2 : tabOk (PySem.W.kitOne K) [("WayfillError", C_WayfillError), ("BoundError", C_BoundError), ("TooLong", C_TooLong), ("TooMany", C_TooMany), ("BadWeights", C_BadWeights), ("BadLetters", C_BadLetters), ("BadWord", C_BadWord)] (.ref C_TooMany) [("WayfillError", false), ("BoundError", false), ("TooLong", false), ("TooMany", true), ("BadWeights", false), ("BadLetters", false), ("BadWord", false)] = true)
    (h_3 : tabOk (PySem.W.kitOne K) [("WayfillError", C_WayfillError), ("BoundError", C_BoundError), ("TooLong", C_TooLong), ("TooMany", C_TooMany), ("BadWeights", C_BadWeights), ("BadLetters", C_BadLetters), ("BadWord", C_BadWord)] (.ref C_TooLong) [("WayfillError", false), ("BoundError", false), ("TooLong", true), ("TooMany", false), ("BadWeights", false), ("BadLetters", false), ("BadWord", false)] = true)
    (h_4 : tabOk (PySem.W.kitOne K) [("WayfillError", C_WayfillError), ("BoundError", C_BoundError), ("TooLong", C_TooLong), ("TooMany", C_TooMany), ("BadWeights", C_BadWeights), ("BadLetters", C_BadLetters), ("BadWord", C_BadWord)] (.ref C_BadWord) [("WayfillError", false), ("BoundError", false), ("TooLong", false), ("TooMany", false), ("BadWeights", false), ("BadLetters", false), ("BadWord", true)] = true)
    (h_5 : tabOk (PySem.W.kitOne K) [("WayfillError", C_WayfillError), ("BoundError", C_BoundError), ("TooLong", C_TooLong), ("TooMany", C_TooMany), ("BadWeights", C_BadWeights), ("BadLetters", C_BadLetters), ("BadWord", C_BadWord)] (.ref C_BadWeights) [("WayfillError", false), ("BoundError", false), ("TooLong", false), ("TooMany", false), ("BadWeights", true), ("BadLetters", false), ("BadWord", false)] = true)
    (h_6 : tabOk (PySem.W.kitOne K) [("WayfillError", C_WayfillError), ("BoundError", C_BoundError), ("TooLong", C_TooLong), ("TooMany", C_TooMany), ("BadWeights", C_BadWeights), ("BadLetters", C_BadLetters), ("BadWord", C_BadWord)] (.ref C_BadLetters) [("WayfillError", false), ("BoundError", false), ("TooLong", false), ("TooMany", false), ("BadWeights", false), ("BadLetters", true), ("BadWord", false)] = true)
    (h_7 : tabOk (PySem.W.kitOne K) [("WayfillError", C_WayfillError), ("BoundError", C_BoundError), ("TooLong", C_TooLong), ("TooMany", C_TooMany), ("BadWeights", C_BadWeights), ("BadLetters", C_BadLetters), ("BadWord", C_BadWord)] (.ref C_BoundError) [("WayfillError", false), ("BoundError", true), ("TooLong", true), ("TooMany", true), ("BadWeights", false), ("BadLetters", false), ("BadWord", false)] = true)
    (z_ValueError : PySem.W.nsIn K mainGlobals "ValueError" = some none)
    (z_abs : PySem.W.nsIn K mainGlobals "abs" = some none)
    (z_all : PySem.W.nsIn K mainGlobals "all" = some none)
    (z_bool : PySem.W.nsIn K mainGlobals "bool" = some none)
    (z_int : PySem.W.nsIn K mainGlobals "int" = some none)
    (z_isinstance : PySem.W.nsIn K mainGlobals "isinstance" = some none)
    (z_len : PySem.W.nsIn K mainGlobals "len" = some none)
    (z_list : PySem.W.nsIn K mainGlobals "list" = some none)
    (z_range : PySem.W.nsIn K mainGlobals "range" = some none)
    (z_set : PySem.W.nsIn K mainGlobals "set" = some none)
    (z_sorted : PySem.W.nsIn K mainGlobals "sorted" = some none)
    (z_str : PySem.W.nsIn K mainGlobals "str" = some none)
    (z_sum : PySem.W.nsIn K mainGlobals "sum" = some none)
    (z_super : PySem.W.nsIn K mainGlobals "super" = some none)
    (z_tuple : PySem.W.nsIn K mainGlobals "tuple" = some none) :
    ∃ T : Fx P K mg, T.f_law = f37 ∧ T.d_law = PySem.W.fnOf "law" "law" (defArgs s_law) (defBody s_law) (defScope s_law) .none kV37 dc37 pm37 an37 cd37 ct37 := ⟨{
    f_is_alphabet := f0, d_is_alphabet := _, F_is_alphabet := fun_mk (st := s_is_alphabet) l0 c0 k0, g_is_alphabet := PySem.W.mg_of X G a0,
    f_has_only := f1, d_has_only := _, F_has_only := fun_mk (st := s_has_only) l1 c1 k1, g_has_only := PySem.W.mg_of X G a1,
    f_check_letters := f2, d_check_letters := _, F_check_letters := fun_mk (st := s_check_letters) l2 c2 k2, g_check_letters := PySem.W.mg_of X G a2,
    f_check_weights := f3, d_check_weights := _, F_check_weights := fun_mk (st := s_check_weights) l3 c3 k3, g_check_weights := PySem.W.mg_of X G a3,
    f_check_word := f4, d_check_word := _, F_check_word := fun_mk (st := s_check_word) l4 c4 k4, g_check_word := PySem.W.mg_of X G a4,
    f_sum_weights := f5, d_sum_weights := _, F_sum_weights := fun_mk (st := s_sum_weights) l5 c5 k5, g_sum_weights := PySem.W.mg_of X G a5,
    f_order_key := f6, d_order_key := _, F_order_key := fun_mk (st := s_order_key) l6 c6 k6, g_order_key := PySem.W.mg_of X G a6,
    f_word_weight := f7, d_word_weight := _, F_word_weight := fun_mk (st := s_word_weight) l7 c7 k7, g_word_weight := PySem.W.mg_of X G a7,
    f_compare_words := f8, d_compare_words := _, F_compare_words := fun_mk (st := s_compare_words) l8 c8 k8, g_compare_words := PySem.W.mg_of X G a8,
    f_sort_words := f9, d_sort_words := _, F_sort_words := fun_mk (st := s_sort_words) l9 c9 k9, g_sort_words := PySem.W.mg_of X G a9,
    f__law_draws := f10, d__law_draws := _, F__law_draws := fun_mk (st := s__law_draws) l10 c10 k10, g__law_draws := PySem.W.mg_of X G a10,
    f__law_mixed := f11, d__law_mixed := _, F__law_mixed := fun_mk (st := s__law_mixed) l11 c11 k11, g__law_mixed := PySem.W.mg_of X G a11,
    f__law_take := f12, d__law_take := _, F__law_take := fun_mk (st := s__law_take) l12 c12 k12, g__law_take := PySem.W.mg_of X G a12,
    f__law_span := f13, d__law_span := _, F__law_span := fun_mk (st := s__law_span) l13 c13 k13, g__law_span := PySem.W.mg_of X G a13,
    f__law_rare := f14, d__law_rare := _, F__law_rare := fun_mk (st := s__law_rare) l14 c14 k14, g__law_rare := PySem.W.mg_of X G a14,
    f__law_pick := f15, d__law_pick := _, F__law_pick := fun_mk (st := s__law_pick) l15 c15 k15, g__law_pick := PySem.W.mg_of X G a15,
    f__law_in_range := f16, d__law_in_range := _, F__law_in_range := fun_mk (st := s__law_in_range) l16 c16 k16, g__law_in_range := PySem.W.mg_of X G a16,
    f__law_out_of_range := f17, d__law_out_of_range := _, F__law_out_of_range := fun_mk (st := s__law_out_of_range) l17 c17 k17, g__law_out_of_range := PySem.W.mg_of X G a17,
    f__law_letters := f18, d__law_letters := _, F__law_letters := fun_mk (st := s__law_letters) l18 c18 k18, g__law_letters := PySem.W.mg_of X G a18,
    f__law_stranger := f19, d__law_stranger := _, F__law_stranger := fun_mk (st := s__law_stranger) l19 c19 k19, g__law_stranger := PySem.W.mg_of X G a19,
    f__law_bad_letters := f20, d__law_bad_letters := _, F__law_bad_letters := fun_mk (st := s__law_bad_letters) l20 c20 k20, g__law_bad_letters := PySem.W.mg_of X G a20,
    f__law_heavy := f21, d__law_heavy := _, F__law_heavy := fun_mk (st := s__law_heavy) l21 c21 k21, g__law_heavy := PySem.W.mg_of X G a21,
    f__law_bad_heavy := f22, d__law_bad_heavy := _, F__law_bad_heavy := fun_mk (st := s__law_bad_heavy) l22 c22 k22, g__law_bad_heavy := PySem.W.mg_of X G a22,
    f__law_word := f23, d__law_word := _, F__law_word := fun_mk (st := s__law_word) l23 c23 k23, g__law_word := PySem.W.mg_of X G a23,
    f__law_bad_word := f24, d__law_bad_word := _, F__law_bad_word := fun_mk (st := s__law_bad_word) l24 c24 k24, g__law_bad_word := PySem.W.mg_of X G a24,
    f__law_same := f25, d__law_same := _, F__law_same := fun_mk (st := s__law_same) l25 c25 k25, g__law_same := PySem.W.mg_of X G a25,
    f__law_word_fault := f26, d__law_word_fault := _, F__law_word_fault := fun_mk (st := s__law_word_fault) l26 c26 k26, g__law_word_fault := PySem.W.mg_of X G a26,
    f__law_weigh := f27, d__law_weigh := _, F__law_weigh := fun_mk (st := s__law_weigh) l27 c27 k27, g__law_weigh := PySem.W.mg_of X G a27,
    f__law_order := f28, d__law_order := _, F__law_order := fun_mk (st := s__law_order) l28 c28 k28, g__law_order := PySem.W.mg_of X G a28,
    f__law_sorted := f29, d__law_sorted := _, F__law_sorted := fun_mk (st := s__law_sorted) l29 c29 k29, g__law_sorted := PySem.W.mg_of X G a29,
    f__law_is_alphabet := f30, d__law_is_alphabet := _, F__law_is_alphabet := fun_mk (st := s__law_is_alphabet) l30 c30 k30, g__law_is_alphabet := PySem.W.mg_of X G a30,
    f__law_ask := f31, d__law_ask := _, F__law_ask := fun_mk (st := s__law_ask) l31 c31 k31, g__law_ask := PySem.W.mg_of X G a31,
    f__law_due := f32, d__law_due := _, F__law_due := fun_mk (st := s__law_due) l32 c32 k32, g__law_due := PySem.W.mg_of X G a32,
    f__law_near := f33, d__law_near := _, F__law_near := fun_mk (st := s__law_near) l33 c33 k33, g__law_near := PySem.W.mg_of X G a33,
    f__law_words := f34, d__law_words := _, F__law_words := fun_mk (st := s__law_words) l34 c34 k34, g__law_words := PySem.W.mg_of X G a34,
    f__law_all_right := f35, d__law_all_right := _, F__law_all_right := fun_mk (st := s__law_all_right) l35 c35 k35, g__law_all_right := PySem.W.mg_of X G a35,
    f__law_large_right := f36, d__law_large_right := _, F__law_large_right := fun_mk (st := s__law_large_right) l36 c36 k36, g__law_large_right := PySem.W.mg_of X G a36,
    f_law := f37, d_law := _, F_law := fun_mk (st := s_law) l37 c37 k37, g_law := PySem.W.mg_of X G a37,
    b_ValueError := PySem.W.mg_none_of X G z_ValueError,
    b_abs := PySem.W.mg_none_of X G z_abs,
    b_all := PySem.W.mg_none_of X G z_all,
    b_bool := PySem.W.mg_none_of X G z_bool,
    b_int := PySem.W.mg_none_of X G z_int,
    b_isinstance := PySem.W.mg_none_of X G z_isinstance,
    b_len := PySem.W.mg_none_of X G z_len,
    b_list := PySem.W.mg_none_of X G z_list,
    b_range := PySem.W.mg_none_of X G z_range,
    b_set := PySem.W.mg_none_of X G z_set,
    b_sorted := PySem.W.mg_none_of X G z_sorted,
    b_str := PySem.W.mg_none_of X G z_str,
    b_sum := PySem.W.mg_none_of X G z_sum,
    b_super := PySem.W.mg_none_of X G z_super,
    b_tuple := PySem.W.mg_none_of X G z_tuple,
    c_LETTERS := ⟨_, PySem.W.mg_of X G n_LETTERS, r_LETTERS⟩,
    c_WEIGHT := ⟨_, PySem.W.mg_of X G n_WEIGHT, r_WEIGHT⟩,
    c_WORD := ⟨_, PySem.W.mg_of X G n_WORD, r_WORD⟩,
    C_WayfillError := C_WayfillError, m_WayfillError := PySem.W.mg_of X G m_WayfillError, e_WayfillError := e_WayfillError, q_WayfillError := q_WayfillError,
    C_BoundError := C_BoundError, m_BoundError := PySem.W.mg_of X G m_BoundError, e_BoundError := e_BoundError, q_BoundError := q_BoundError,
    C_TooLong := C_TooLong, m_TooLong := PySem.W.mg_of X G m_TooLong, e_TooLong := e_TooLong, q_TooLong := q_TooLong,
    C_TooMany := C_TooMany, m_TooMany := PySem.W.mg_of X G m_TooMany, e_TooMany := e_TooMany, q_TooMany := q_TooMany,
    C_BadWeights := C_BadWeights, m_BadWeights := PySem.W.mg_of X G m_BadWeights, e_BadWeights := e_BadWeights, q_BadWeights := q_BadWeights,
    C_BadLetters := C_BadLetters, m_BadLetters := PySem.W.mg_of X G m_BadLetters, e_BadLetters := e_BadLetters,
    C_BadWord := C_BadWord, m_BadWord := PySem.W.mg_of X G m_BadWord, e_BadWord := e_BadWord,
    fI_BadLetters := fI_BadLetters, dI_BadLetters := _, i_BadLetters := errI_mk e_BadLetters i1_BadLetters i2_BadLetters i3_BadLetters i4_BadLetters i5_BadLetters i6_BadLetters i7_BadLetters i8_BadLetters (PySem.W.mg_none_of X G z_super) qOpq i9_BadLetters ia_BadLetters ib_BadLetters qTop,
    fI_BadWord := fI_BadWord, dI_BadWord := _, i_BadWord := errI_mk e_BadWord i1_BadWord i2_BadWord i3_BadWord i4_BadWord i5_BadWord i6_BadWord i7_BadWord i8_BadWord (PySem.W.mg_none_of X G z_super) qOpq i9_BadWord ia_BadWord ib_BadWord qTop,
    n_BadLetters_text := n_BadLetters_text,
    n_BadWord_text := n_BadWord_text,
    h_0 := h_0,
    h_1 := h_1,
    h_2 := h_2,
    h_3 := h_3,
    h_4 := h_4,
    h_5 := h_5,
    h_6 := h_6,
    h_7 := h_7 }, rfl, rfl⟩
theorem fin_mk {l : PySem.W.OpenLaw} {w : World} {K : PySem.W.Frag} {mg : Str → Option Value} {fa : Addr} (T : Fx l.prog K mg) (hfa : mg "law" = some (.ref fa)) {oc kV dc pm cd ct : Value} {an : Option Addr} (e : T.d_law = PySem.W.fnOf "law" "law" (defArgs s_law) (defBody s_law) (defScope s_law) .none kV dc pm an cd ct) :
    ∃ fd : FuncData, (∀ (s : Shared) (v : Value), BindsTo s fd ⟨[v], []⟩ [("_law_script", v)]) ∧ ∀ base : Heap, K.In base → base.Ns mainGlobals mg → FnOk l.prog w K mg base (L2.CX l.prog w) 12 fa fd ["_law_script"] (spA K m_law) := by
  have e1 := hfa.symm.trans T.g_law
  cases e1
  refine ⟨T.d_law, fun s v => ?_, fun base _ _ => fnOk_A (ok_law T)⟩
  rw [e]
  exact .of_eq rfl
theorem top_mk {l : PySem.W.OpenLaw} {w : World} {K : PySem.W.Frag} {h : Heap} {mg : Str → Option Value} {fa : Addr} (X : K.In h) (G : h.Ns mainGlobals mg) (hfa : mg "law" = some (.ref fa))
    {f0 : Addr} {od0 an0 : Option Addr} {sl0 : Array (Option Value)} {oc0 kV0 dc0 pm0 cd0 ct0 : Value}
    (a0 : PySem.W.nsIn K mainGlobals "is_alphabet" = some (some (.ref f0))) (l0 : K.lookup f0 = some ⟨oc0, od0, .func (PySem.W.fnOf "is_alphabet" "is_alphabet" (defArgs s_is_alphabet) (defBody s_is_alphabet) (defScope s_is_alphabet) .none kV0 dc0 pm0 an0 cd0 ct0), sl0⟩) (c0 : PySem.W.codeIn K cd0 "is_alphabet" = true) (k0 : PySem.W.keepIn K (.ref f0) = true)
    {f1 : Addr} {od1 an1 : Option Addr} {sl1 : Array (Option Value)} {oc1 kV1 dc1 pm1 cd1 ct1 : Value}
    (a1 : PySem.W.nsIn K mainGlobals "has_only" = some (some (.ref f1))) (l1 : K.lookup f1 = some ⟨oc1, od1, .func (PySem.W.fnOf "has_only" "has_only" (defArgs s_has_only) (defBody s_has_only) (defScope s_has_only) .none kV1 dc1 pm1 an1 cd1 ct1), sl1⟩) (c1 : PySem.W.codeIn K cd1 "has_only" = true) (k1 : PySem.W.keepIn K (.ref f1) = true)
    {f2 : Addr} {od2 an2 : Option Addr} {sl2 : Array (Option Value)} {oc2 kV2 dc2 pm2 cd2 ct2 : Value}
    (a2 : PySem.W.nsIn K mainGlobals "check_letters" = some (some (.ref f2))) (l2 : K.lookup f2 = some ⟨oc2, od2, .func (PySem.W.fnOf "check_letters" "check_letters" (defArgs s_check_letters) (defBody s_check_letters) (defScope s_check_letters) .none kV2 dc2 pm2 an2 cd2 ct2), sl2⟩) (c2 : PySem.W.codeIn K cd2 "check_letters" = true) (k2 : PySem.W.keepIn K (.ref f2) = true)
    {f3 : Addr} {od3 an3 : Option Addr} {sl3 : Array (Option Value)} {oc3 kV3 dc3 pm3 cd3 ct3 : Value}
    (a3 : PySem.W.nsIn K mainGlobals "check_weights" = some (some (.ref f3))) (l3 : K.lookup f3 = some ⟨oc3, od3, .func (PySem.W.fnOf "check_weights" "check_weights" (defArgs s_check_weights) (defBody s_check_weights) (defScope s_check_weights) .none kV3 dc3 pm3 an3 cd3 ct3), sl3⟩) (c3 : PySem.W.codeIn K cd3 "check_weights" = true) (k3 : PySem.W.keepIn K (.ref f3) = true)
    {f4 : Addr} {od4 an4 : Option Addr} {sl4 : Array (Option Value)} {oc4 kV4 dc4 pm4 cd4 ct4 : Value}
    (a4 : PySem.W.nsIn K mainGlobals "check_word" = some (some (.ref f4))) (l4 : K.lookup f4 = some ⟨oc4, od4, .func (PySem.W.fnOf "check_word" "check_word" (defArgs s_check_word) (defBody s_check_word) (defScope s_check_word) .none kV4 dc4 pm4 an4 cd4 ct4), sl4⟩) (c4 : PySem.W.codeIn K cd4 "check_word" = true) (k4 : PySem.W.keepIn K (.ref f4) = true)
    {f5 : Addr} {od5 an5 : Option Addr} {sl5 : Array (Option Value)} {oc5 kV5 dc5 pm5 cd5 ct5 : Value}
    (a5 : PySem.W.nsIn K mainGlobals "sum_weights" = some (some (.ref f5))) (l5 : K.lookup f5 = some ⟨oc5, od5, .func (PySem.W.fnOf "sum_weights" "sum_weights" (defArgs s_sum_weights) (defBody s_sum_weights) (defScope s_sum_weights) .none kV5 dc5 pm5 an5 cd5 ct5), sl5⟩) (c5 : PySem.W.codeIn K cd5 "sum_weights" = true) (k5 : PySem.W.keepIn K (.ref f5) = true)
    {f6 : Addr} {od6 an6 : Option Addr} {sl6 : Array (Option Value)} {oc6 kV6 dc6 pm6 cd6 ct6 : Value}
    (a6 : PySem.W.nsIn K mainGlobals "order_key" = some (some (.ref f6))) (l6 : K.lookup f6 = some ⟨oc6, od6, .func (PySem.W.fnOf "order_key" "order_key" (defArgs s_order_key) (defBody s_order_key) (defScope s_order_key) .none kV6 dc6 pm6 an6 cd6 ct6), sl6⟩) (c6 : PySem.W.codeIn K cd6 "order_key" = true) (k6 : PySem.W.keepIn K (.ref f6) = true)
    {f7 : Addr} {od7 an7 : Option Addr} {sl7 : Array (Option Value)} {oc7 kV7 dc7 pm7 cd7 ct7 : Value}
    (a7 : PySem.W.nsIn K mainGlobals "word_weight" = some (some (.ref f7))) (l7 : K.lookup f7 = some ⟨oc7, od7, .func (PySem.W.fnOf "word_weight" "word_weight" (defArgs s_word_weight) (defBody s_word_weight) (defScope s_word_weight) .none kV7 dc7 pm7 an7 cd7 ct7), sl7⟩) (c7 : PySem.W.codeIn K cd7 "word_weight" = true) (k7 : PySem.W.keepIn K (.ref f7) = true)
    {f8 : Addr} {od8 an8 : Option Addr} {sl8 : Array (Option Value)} {oc8 kV8 dc8 pm8 cd8 ct8 : Value}
    (a8 : PySem.W.nsIn K mainGlobals "compare_words" = some (some (.ref f8))) (l8 : K.lookup f8 = some ⟨oc8, od8, .func (PySem.W.fnOf "compare_words" "compare_words" (defArgs s_compare_words) (defBody s_compare_words) (defScope s_compare_words) .none kV8 dc8 pm8 an8 cd8 ct8), sl8⟩) (c8 : PySem.W.codeIn K cd8 "compare_words" = true) (k8 : PySem.W.keepIn K (.ref f8) = true)
    {f9 : Addr} {od9 an9 : Option Addr} {sl9 : Array (Option Value)} {oc9 kV9 dc9 pm9 cd9 ct9 : Value}
    (a9 : PySem.W.nsIn K mainGlobals "sort_words" = some (some (.ref f9))) (l9 : K.lookup f9 = some ⟨oc9, od9, .func (PySem.W.fnOf "sort_words" "sort_words" (defArgs s_sort_words) (defBody s_sort_words) (defScope s_sort_words) .none kV9 dc9 pm9 an9 cd9 ct9), sl9⟩) (c9 : PySem.W.codeIn K cd9 "sort_words" = true) (k9 : PySem.W.keepIn K (.ref f9) = true)
    {f10 : Addr} {od10 an10 : Option Addr} {sl10 : Array (Option Value)} {oc10 kV10 dc10 pm10 cd10 ct10 : Value}
    (a10 : PySem.W.nsIn K mainGlobals "_law_draws" = some (some (.ref f10))) (l10 : K.lookup f10 = some ⟨oc10, od10, .func (PySem.W.fnOf "_law_draws" "_law_draws" (defArgs s__law_draws) (defBody s__law_draws) (defScope s__law_draws) .none kV10 dc10 pm10 an10 cd10 ct10), sl10⟩) (c10 : PySem.W.codeIn K cd10 "_law_draws" = true) (k10 : PySem.W.keepIn K (.ref f10) = true)
    {f11 : Addr} {od11 an11 : Option Addr} {sl11 : Array (Option Value)} {oc11 kV11 dc11 pm11 cd11 ct11 : Value}
    (a11 : PySem.W.nsIn K mainGlobals "_law_mixed" = some (some (.ref f11))) (l11 : K.lookup f11 = some ⟨oc11, od11, .func (PySem.W.fnOf "_law_mixed" "_law_mixed" (defArgs s__law_mixed) (defBody s__law_mixed) (defScope s__law_mixed) .none kV11 dc11 pm11 an11 cd11 ct11), sl11⟩) (c11 : PySem.W.codeIn K cd11 "_law_mixed" = true) (k11 : PySem.W.keepIn K (.ref f11) = true)
    {f12 : Addr} {od12 an12 : Option Addr} {sl12 : Array (Option Value)} {oc12 kV12 dc12 pm12 cd12 ct12 : Value}
    (a12 : PySem.W.nsIn K mainGlobals "_law_take" = some (some (.ref f12))) (l12 : K.lookup f12 = some ⟨oc12, od12, .func (PySem.W.fnOf "_law_take" "_law_take" (defArgs s__law_take) (defBody s__law_take) (defScope s__law_take) .none kV12 dc12 pm12 an12 cd12 ct12), sl12⟩) (c12 : PySem.W.codeIn K cd12 "_law_take" = true) (k12 : PySem.W.keepIn K (.ref f12) = true)
    {f13 : Addr} {od13 an13 : Option Addr} {sl13 : Array (Option Value)} {oc13 kV13 dc13 pm13 cd13 ct13 : Value}
    (a13 : PySem.W.nsIn K mainGlobals "_law_span" = some (some (.ref f13))) (l13 : K.lookup f13 = some ⟨oc13, od13, .func (PySem.W.fnOf "_law_span" "_law_span" (defArgs s__law_span) (defBody s__law_span) (defScope s__law_span) .none kV13 dc13 pm13 an13 cd13 ct13), sl13⟩) (c13 : PySem.W.codeIn K cd13 "_law_span" = true) (k13 : PySem.W.keepIn K (.ref f13) = true)
    {f14 : Addr} {od14 an14 : Option Addr} {sl14 : Array (Option Value)} {oc14 kV14 dc14 pm14 cd14 ct14 : Value}
    (a14 : PySem.W.nsIn K mainGlobals "_law_rare" = some (some (.ref f14))) (l14 : K.lookup f14 = some ⟨oc14, od14, .func (PySem.W.fnOf "_law_rare" "_law_rare" (defArgs s__law_rare) (defBody s__law_rare) (defScope s__law_rare) .none kV14 dc14 pm14 an14 cd14 ct14), sl14⟩) (c14 : PySem.W.codeIn K cd14 "_law_rare" = true) (k14 : PySem.W.keepIn K (.ref f14) = true)
    {f15 : Addr} {od15 an15 : Option Addr} {sl15 : Array (Option Value)} {oc15 kV15 dc15 pm15 cd15 ct15 : Value}
    (a15 : PySem.W.nsIn K mainGlobals "_law_pick" = some (some (.ref f15))) (l15 : K.lookup f15 = some ⟨oc15, od15, .func (PySem.W.fnOf "_law_pick" "_law_pick" (defArgs s__law_pick) (defBody s__law_pick) (defScope s__law_pick) .none kV15 dc15 pm15 an15 cd15 ct15), sl15⟩) (c15 : PySem.W.codeIn K cd15 "_law_pick" = true) (k15 : PySem.W.keepIn K (.ref f15) = true)
    {f16 : Addr} {od16 an16 : Option Addr} {sl16 : Array (Option Value)} {oc16 kV16 dc16 pm16 cd16 ct16 : Value}
    (a16 : PySem.W.nsIn K mainGlobals "_law_in_range" = some (some (.ref f16))) (l16 : K.lookup f16 = some ⟨oc16, od16, .func (PySem.W.fnOf "_law_in_range" "_law_in_range" (defArgs s__law_in_range) (defBody s__law_in_range) (defScope s__law_in_range) .none kV16 dc16 pm16 an16 cd16 ct16), sl16⟩) (c16 : PySem.W.codeIn K cd16 "_law_in_range" = true) (k16 : PySem.W.keepIn K (.ref f16) = true)
    {f17 : Addr} {od17 an17 : Option Addr} {sl17 : Array (Option Value)} {oc17 kV17 dc17 pm17 cd17 ct17 : Value}
    (a17 : PySem.W.nsIn K mainGlobals "_law_out_of_range" = some (some (.ref f17))) (l17 : K.lookup f17 = some ⟨oc17, od17, .func (PySem.W.fnOf "_law_out_of_range" "_law_out_of_range" (defArgs s__law_out_of_range) (defBody s__law_out_of_range) (defScope s__law_out_of_range) .none kV17 dc17 pm17 an17 cd17 ct17), sl17⟩) (c17 : PySem.W.codeIn K cd17 "_law_out_of_range" = true) (k17 : PySem.W.keepIn K (.ref f17) = true)
    {f18 : Addr} {od18 an18 : Option Addr} {sl18 : Array (Option Value)} {oc18 kV18 dc18 pm18 cd18 ct18 : Value}
    (a18 : PySem.W.nsIn K mainGlobals "_law_letters" = some (some (.ref f18))) (l18 : K.lookup f18 = some ⟨oc18, od18, .func (PySem.W.fnOf "_law_letters" "_law_letters" (defArgs s__law_letters) (defBody s__law_letters) (defScope s__law_letters) .none kV18 dc18 pm18 an18 cd18 ct18), sl18⟩) (c18 : PySem.W.codeIn K cd18 "_law_letters" = true) (k18 : PySem.W.keepIn K (.ref f18) = true)
    {f19 : Addr} {od19 an19 : Option Addr} {sl19 : Array (Option Value)} {oc19 kV19 dc19 pm19 cd19 ct19 : Value}
    (a19 : PySem.W.nsIn K mainGlobals "_law_stranger" = some (some (.ref f19))) (l19 : K.lookup f19 = some ⟨oc19, od19, .func (PySem.W.fnOf "_law_stranger" "_law_stranger" (defArgs s__law_stranger) (defBody s__law_stranger) (defScope s__law_stranger) .none kV19 dc19 pm19 an19 cd19 ct19), sl19⟩) (c19 : PySem.W.codeIn K cd19 "_law_stranger" = true) (k19 : PySem.W.keepIn K (.ref f19) = true)
    {f20 : Addr} {od20 an20 : Option Addr} {sl20 : Array (Option Value)} {oc20 kV20 dc20 pm20 cd20 ct20 : Value}
    (a20 : PySem.W.nsIn K mainGlobals "_law_bad_letters" = some (some (.ref f20))) (l20 : K.lookup f20 = some ⟨oc20, od20, .func (PySem.W.fnOf "_law_bad_letters" "_law_bad_letters" (defArgs s__law_bad_letters) (defBody s__law_bad_letters) (defScope s__law_bad_letters) .none kV20 dc20 pm20 an20 cd20 ct20), sl20⟩) (c20 : PySem.W.codeIn K cd20 "_law_bad_letters" = true) (k20 : PySem.W.keepIn K (.ref f20) = true)
    {f21 : Addr} {od21 an21 : Option Addr} {sl21 : Array (Option Value)} {oc21 kV21 dc21 pm21 cd21 ct21 : Value}
    (a21 : PySem.W.nsIn K mainGlobals "_law_heavy" = some (some (.ref f21))) (l21 : K.lookup f21 = some ⟨oc21, od21, .func (PySem.W.fnOf "_law_heavy" "_law_heavy" (defArgs s__law_heavy) (defBody s__law_heavy) (defScope s__law_heavy) .none kV21 dc21 pm21 an21 cd21 ct21), sl21⟩) (c21 : PySem.W.codeIn K cd21 "_law_heavy" = true) (k21 : PySem.W.keepIn K (.ref f21) = true)
    {f22 : Addr} {od22 an22 : Option Addr} {sl22 : Array (Option Value)} {oc22 kV22 dc22 pm22 cd22 ct22 : Value}
    (a22 : PySem.W.nsIn K mainGlobals "_law_bad_heavy" = some (some (.ref f22))) (l22 : K.lookup f22 = some ⟨oc22, od22, .func (PySem.W.fnOf "_law_bad_heavy" "_law_bad_heavy" (defArgs s__law_bad_heavy) (defBody s__law_bad_heavy) (defScope s__law_bad_heavy) .none kV22 dc22 pm22 an22 cd22 ct22), sl22⟩) (c22 : PySem.W.codeIn K cd22 "_law_bad_heavy" = true) (k22 : PySem.W.keepIn K (.ref f22) = true)
    {f23 : Addr} {od23 an23 : Option Addr} {sl23 : Array (Option Value)} {oc23 kV23 dc23 pm23 cd23 ct23 : Value}
    (a23 : PySem.W.nsIn K mainGlobals "_law_word" = some (some (.ref f23))) (l23 : K.lookup f23 = some ⟨oc23, od23, .func (PySem.W.fnOf "_law_word" "_law_word" (defArgs s__law_word) (defBody s__law_word) (defScope s__law_word) .none kV23 dc23 pm23 an23 cd23 ct23), sl23⟩) (c23 : PySem.W.codeIn K cd23 "_law_word" = true) (k23 : PySem.W.keepIn K (.ref f23) = true)
    {f24 : Addr} {od24 an24 : Option Addr} {sl24 : Array (Option Value)} {oc24 kV24 dc24 pm24 cd24 ct24 : Value}
    (a24 : PySem.W.nsIn K mainGlobals "_law_bad_word" = some (some (.ref f24))) (l24 : K.lookup f24 = some ⟨oc24, od24, .func (PySem.W.fnOf "_law_bad_word" "_law_bad_word" (defArgs s__law_bad_word) (defBody s__law_bad_word) (defScope s__law_bad_word) .none kV24 dc24 pm24 an24 cd24 ct24), sl24⟩) (c24 : PySem.W.codeIn K cd24 "_law_bad_word" = true) (k24 : PySem.W.keepIn K (.ref f24) = true)
    {f25 : Addr} {od25 an25 : Option Addr} {sl25 : Array (Option Value)} {oc25 kV25 dc25 pm25 cd25 ct25 : Value}
    (a25 : PySem.W.nsIn K mainGlobals "_law_same" = some (some (.ref f25))) (l25 : K.lookup f25 = some ⟨oc25, od25, .func (PySem.W.fnOf "_law_same" "_law_same" (defArgs s__law_same) (defBody s__law_same) (defScope s__law_same) .none kV25 dc25 pm25 an25 cd25 ct25), sl25⟩) (c25 : PySem.W.codeIn K cd25 "_law_same" = true) (k25 : PySem.W.keepIn K (.ref f25) = true)
    {f26 : Addr} {od26 an26 : Option Addr} {sl26 : Array (Option Value)} {oc26 kV26 dc26 pm26 cd26 ct26 : Value}
    (a26 : PySem.W.nsIn K mainGlobals "_law_word_fault" = some (some (.ref f26))) (l26 : K.lookup f26 = some ⟨oc26, od26, .func (PySem.W.fnOf "_law_word_fault" "_law_word_fault" (defArgs s__law_word_fault) (defBody s__law_word_fault) (defScope s__law_word_fault) .none kV26 dc26 pm26 an26 cd26 ct26), sl26⟩) (c26 : PySem.W.codeIn K cd26 "_law_word_fault" = true) (k26 : PySem.W.keepIn K (.ref f26) = true)
    {f27 : Addr} {od27 an27 : Option Addr} {sl27 : Array (Option Value)} {oc27 kV27 dc27 pm27 cd27 ct27 : Value}
    (a27 : PySem.W.nsIn K mainGlobals "_law_weigh" = some (some (.ref f27))) (l27 : K.lookup f27 = some ⟨oc27, od27, .func (PySem.W.fnOf "_law_weigh" "_law_weigh" (defArgs s__law_weigh) (defBody s__law_weigh) (defScope s__law_weigh) .none kV27 dc27 pm27 an27 cd27 ct27), sl27⟩) (c27 : PySem.W.codeIn K cd27 "_law_weigh" = true) (k27 : PySem.W.keepIn K (.ref f27) = true)
    {f28 : Addr} {od28 an28 : Option Addr} {sl28 : Array (Option Value)} {oc28 kV28 dc28 pm28 cd28 ct28 : Value}
    (a28 : PySem.W.nsIn K mainGlobals "_law_order" = some (some (.ref f28))) (l28 : K.lookup f28 = some ⟨oc28, od28, .func (PySem.W.fnOf "_law_order" "_law_order" (defArgs s__law_order) (defBody s__law_order) (defScope s__law_order) .none kV28 dc28 pm28 an28 cd28 ct28), sl28⟩) (c28 : PySem.W.codeIn K cd28 "_law_order" = true) (k28 : PySem.W.keepIn K (.ref f28) = true)
    {f29 : Addr} {od29 an29 : Option Addr} {sl29 : Array (Option Value)} {oc29 kV29 dc29 pm29 cd29 ct29 : Value}
    (a29 : PySem.W.nsIn K mainGlobals "_law_sorted" = some (some (.ref f29))) (l29 : K.lookup f29 = some ⟨oc29, od29, .func (PySem.W.fnOf "_law_sorted" "_law_sorted" (defArgs s__law_sorted) (defBody s__law_sorted) (defScope s__law_sorted) .none kV29 dc29 pm29 an29 cd29 ct29), sl29⟩) (c29 : PySem.W.codeIn K cd29 "_law_sorted" = true) (k29 : PySem.W.keepIn K (.ref f29) = true)
    {f30 : Addr} {od30 an30 : Option Addr} {sl30 : Array (Option Value)} {oc30 kV30 dc30 pm30 cd30 ct30 : Value}
    (a30 : PySem.W.nsIn K mainGlobals "_law_is_alphabet" = some (some (.ref f30))) (l30 : K.lookup f30 = some ⟨oc30, od30, .func (PySem.W.fnOf "_law_is_alphabet" "_law_is_alphabet" (defArgs s__law_is_alphabet) (defBody s__law_is_alphabet) (defScope s__law_is_alphabet) .none kV30 dc30 pm30 an30 cd30 ct30), sl30⟩) (c30 : PySem.W.codeIn K cd30 "_law_is_alphabet" = true) (k30 : PySem.W.keepIn K (.ref f30) = true)
    {f31 : Addr} {od31 an31 : Option Addr} {sl31 : Array (Option Value)} {oc31 kV31 dc31 pm31 cd31 ct31 : Value}
    (a31 : PySem.W.nsIn K mainGlobals "_law_ask" = some (some (.ref f31))) (l31 : K.lookup f31 = some ⟨oc31, od31, .func (PySem.W.fnOf "_law_ask" "_law_ask" (defArgs s__law_ask) (defBody s__law_ask) (defScope s__law_ask) .none kV31 dc31 pm31 an31 cd31 ct31), sl31⟩) (c31 : PySem.W.codeIn K cd31 "_law_ask" = true) (k31 : PySem.W.keepIn K (.ref f31) = true)
    {f32 : Addr} {od32 an32 : Option Addr} {sl32 : Array (Option Value)} {oc32 kV32 dc32 pm32 cd32 ct32 : Value}
    (a32 : PySem.W.nsIn K mainGlobals "_law_due" = some (some (.ref f32))) (l32 : K.lookup f32 = some ⟨oc32, od32, .func (PySem.W.fnOf "_law_due" "_law_due" (defArgs s__law_due) (defBody s__law_due) (defScope s__law_due) .none kV32 dc32 pm32 an32 cd32 ct32), sl32⟩) (c32 : PySem.W.codeIn K cd32 "_law_due" = true) (k32 : PySem.W.keepIn K (.ref f32) = true)
    {f33 : Addr} {od33 an33 : Option Addr} {sl33 : Array (Option Value)} {oc33 kV33 dc33 pm33 cd33 ct33 : Value}
    (a33 : PySem.W.nsIn K mainGlobals "_law_near" = some (some (.ref f33))) (l33 : K.lookup f33 = some ⟨oc33, od33, .func (PySem.W.fnOf "_law_near" "_law_near" (defArgs s__law_near) (defBody s__law_near) (defScope s__law_near) .none kV33 dc33 pm33 an33 cd33 ct33), sl33⟩) (c33 : PySem.W.codeIn K cd33 "_law_near" = true) (k33 : PySem.W.keepIn K (.ref f33) = true)
    {f34 : Addr} {od34 an34 : Option Addr} {sl34 : Array (Option Value)} {oc34 kV34 dc34 pm34 cd34 ct34 : Value}
    (a34 : PySem.W.nsIn K mainGlobals "_law_words" = some (some (.ref f34))) (l34 : K.lookup f34 = some ⟨oc34, od34, .func (PySem.W.fnOf "_law_words" "_law_words" (defArgs s__law_words) (defBody s__law_words) (defScope s__law_words) .none kV34 dc34 pm34 an34 cd34 ct34), sl34⟩) (c34 : PySem.W.codeIn K cd34 "_law_words" = true) (k34 : PySem.W.keepIn K (.ref f34) = true)
    {f35 : Addr} {od35 an35 : Option Addr} {sl35 : Array (Option Value)} {oc35 kV35 dc35 pm35 cd35 ct35 : Value}
    (a35 : PySem.W.nsIn K mainGlobals "_law_all_right" = some (some (.ref f35))) (l35 : K.lookup f35 = some ⟨oc35, od35, .func (PySem.W.fnOf "_law_all_right" "_law_all_right" (defArgs s__law_all_right) (defBody s__law_all_right) (defScope s__law_all_right) .none kV35 dc35 pm35 an35 cd35 ct35), sl35⟩) (c35 : PySem.W.codeIn K cd35 "_law_all_right" = true) (k35 : PySem.W.keepIn K (.ref f35) = true)
    {f36 : Addr} {od36 an36 : Option Addr} {sl36 : Array (Option Value)} {oc36 kV36 dc36 pm36 cd36 ct36 : Value}
    (a36 : PySem.W.nsIn K mainGlobals "_law_large_right" = some (some (.ref f36))) (l36 : K.lookup f36 = some ⟨oc36, od36, .func (PySem.W.fnOf "_law_large_right" "_law_large_right" (defArgs s__law_large_right) (defBody s__law_large_right) (defScope s__law_large_right) .none kV36 dc36 pm36 an36 cd36 ct36), sl36⟩) (c36 : PySem.W.codeIn K cd36 "_law_large_right" = true) (k36 : PySem.W.keepIn K (.ref f36) = true)
    {f37 : Addr} {od37 an37 : Option Addr} {sl37 : Array (Option Value)} {oc37 kV37 dc37 pm37 cd37 ct37 : Value}
    (a37 : PySem.W.nsIn K mainGlobals "law" = some (some (.ref f37))) (l37 : K.lookup f37 = some ⟨oc37, od37, .func (PySem.W.fnOf "law" "law" (defArgs s_law) (defBody s_law) (defScope s_law) .none kV37 dc37 pm37 an37 cd37 ct37), sl37⟩) (c37 : PySem.W.codeIn K cd37 "law" = true) (k37 : PySem.W.keepIn K (.ref f37) = true)
    {u_LETTERS : Value} (n_LETTERS : PySem.W.nsIn K mainGlobals "LETTERS" = some (some u_LETTERS)) (r_LETTERS : RelV (.int 6) u_LETTERS)
    {u_WEIGHT : Value} (n_WEIGHT : PySem.W.nsIn K mainGlobals "WEIGHT" = some (some u_WEIGHT)) (r_WEIGHT : RelV (.int 99) u_WEIGHT)
    {u_WORD : Value} (n_WORD : PySem.W.nsIn K mainGlobals "WORD" = some (some u_WORD)) (r_WORD : RelV (.int 32) u_WORD)
    {C_WayfillError : Addr} (m_WayfillError : PySem.W.nsIn K mainGlobals "WayfillError" = some (some (.ref C_WayfillError))) (e_WayfillError : ErF K C_WayfillError)
    (q_WayfillError : PySem.W.excIn K C_WayfillError [.type "ValueError", .type "Exception", .type "BaseException", .type "object"] "ValueError.__new__" = true)
    {C_BoundError : Addr} (m_BoundError : PySem.W.nsIn K mainGlobals "BoundError" = some (some (.ref C_BoundError))) (e_BoundError : ErF K C_BoundError)
    (q_BoundError : PySem.W.excIn K C_BoundError [.type "ValueError", .type "Exception", .type "BaseException", .type "object"] "ValueError.__new__" = true)
    {C_TooLong : Addr} (m_TooLong : PySem.W.nsIn K mainGlobals "TooLong" = some (some (.ref C_TooLong))) (e_TooLong : ErF K C_TooLong)
    (q_TooLong : PySem.W.excIn K C_TooLong [.type "ValueError", .type "Exception", .type "BaseException", .type "object"] "ValueError.__new__" = true)
    {C_TooMany : Addr} (m_TooMany : PySem.W.nsIn K mainGlobals "TooMany" = some (some (.ref C_TooMany))) (e_TooMany : ErF K C_TooMany)
    (q_TooMany : PySem.W.excIn K C_TooMany [.type "ValueError", .type "Exception", .type "BaseException", .type "object"] "ValueError.__new__" = true)
    {C_BadWeights : Addr} (m_BadWeights : PySem.W.nsIn K mainGlobals "BadWeights" = some (some (.ref C_BadWeights))) (e_BadWeights : ErF K C_BadWeights)
    (q_BadWeights : PySem.W.excIn K C_BadWeights [.type "ValueError", .type "Exception", .type "BaseException", .type "object"] "ValueError.__new__" = true)
    {C_BadLetters : Addr} (m_BadLetters : PySem.W.nsIn K mainGlobals "BadLetters" = some (some (.ref C_BadLetters))) (e_BadLetters : ErF K C_BadLetters)
    {C_BadWord : Addr} (m_BadWord : PySem.W.nsIn K mainGlobals "BadWord" = some (some (.ref C_BadWord))) (e_BadWord : ErF K C_BadWord)
    {fI_BadLetters cda_BadLetters cc_BadLetters : Addr} {od_BadLetters an_BadLetters cdd_BadLetters cld_BadLetters : Option Addr} {oc_BadLetters kV_BadLetters dc_BadLetters pm_BadLetters ct_BadLetters ccl_BadLetters cl_BadLetters : Value} {osl_BadLetters ccs_BadLetters csl_BadLetters : Array (Option Value)} {vs_BadLetters : Array Value} {fl_BadLetters : Str} {tf_BadLetters : Tok}
    (i1_BadLetters : PySem.W.findIn K (.ref C_BadLetters) "__init__" = some (some (.ref fI_BadLetters))) (i2_BadLetters : PySem.W.typeIn K (.ref fI_BadLetters) = some (.type "function"))
    (i3_BadLetters : K.lookup fI_BadLetters = some ⟨oc_BadLetters, od_BadLetters, .func (PySem.W.fnX "__init__" "BadLetters.__init__" (defArgs sI_BadLetters) (defBody sI_BadLetters) (defScope sI_BadLetters) [("__class__", cc_BadLetters)] .none kV_BadLetters dc_BadLetters pm_BadLetters an_BadLetters (.ref cda_BadLetters) ct_BadLetters), osl_BadLetters⟩) (i4_BadLetters : PySem.W.codeIn K (.ref cda_BadLetters) "BadLetters.__init__" = true)
    (i5_BadLetters : K.lookup cda_BadLetters = some ⟨ccl_BadLetters, cdd_BadLetters, .fields vs_BadLetters, ccs_BadLetters⟩) (i6_BadLetters : vs_BadLetters[2]? = some (.str fl_BadLetters tf_BadLetters)) (i7_BadLetters : ((l.prog.main.file : Str) == fl_BadLetters) = true) (i8_BadLetters : K.lookup cc_BadLetters = some ⟨cl_BadLetters, cld_BadLetters, .cell (some (.ref C_BadLetters)), csl_BadLetters⟩)
    (i9_BadLetters : PySem.W.ks_superIn K C_BadLetters C_BadLetters "__init__" = some (some (.builtin "ValueError.__init__"))) (ia_BadLetters : PySem.W.subIn K (.ref C_BadLetters) (.type "ValueError") = some true) (ib_BadLetters : PySem.W.mroIn K C_BadLetters (.ref C_BadLetters) = some true)
    {fI_BadWord cda_BadWord cc_BadWord : Addr} {od_BadWord an_BadWord cdd_BadWord cld_BadWord : Option Addr} {oc_BadWord kV_BadWord dc_BadWord pm_BadWord ct_BadWord ccl_BadWord cl_BadWord : Value} {osl_BadWord ccs_BadWord csl_BadWord : Array (Option Value)} {vs_BadWord : Array Value} {fl_BadWord : Str} {tf_BadWord : Tok}
    (i1_BadWord : PySem.W.findIn K (.ref C_BadWord) "__init__" = some (some (.ref fI_BadWord))) (i2_BadWord : PySem.W.typeIn K (.ref fI_BadWord) = some (.type "function"))
    (i3_BadWord : K.lookup fI_BadWord = some ⟨oc_BadWord, od_BadWord, .func (PySem.W.fnX "__init__" "BadWord.__init__" (defArgs sI_BadWord) (defBody sI_BadWord) (defScope sI_BadWord) [("__class__", cc_BadWord)] .none kV_BadWord dc_BadWord pm_BadWord an_BadWord (.ref cda_BadWord) ct_BadWord), osl_BadWord⟩) (i4_BadWord : PySem.W.codeIn K (.ref cda_BadWord) "BadWord.__init__" = true)
    (i5_BadWord : K.lookup cda_BadWord = some ⟨ccl_BadWord, cdd_BadWord, .fields vs_BadWord, ccs_BadWord⟩) (i6_BadWord : vs_BadWord[2]? = some (.str fl_BadWord tf_BadWord)) (i7_BadWord : ((l.prog.main.file : Str) == fl_BadWord) = true) (i8_BadWord : K.lookup cc_BadWord = some ⟨cl_BadWord, cld_BadWord, .cell (some (.ref C_BadWord)), csl_BadWord⟩)
    (i9_BadWord : PySem.W.ks_superIn K C_BadWord C_BadWord "__init__" = some (some (.builtin "ValueError.__init__"))) (ia_BadWord : PySem.W.subIn K (.ref C_BadWord) (.type "ValueError") = some true) (ib_BadWord : PySem.W.mroIn K C_BadWord (.ref C_BadWord) = some true)
    (qOpq : PySem.W.nsIn K cStatics "thirdparty.any" = some none) (qTop : (l.prog.main.scope.names.lookup ("super" : Str)).isSome = false)
    (n_BadLetters_text : PySem.W.findIn K (.ref C_BadLetters) "text" = some none)
    (n_BadWord_text : PySem.W.findIn K (.ref C_BadWord) "text" = some none)
    (h_0 : tabOk (PySem.W.exmOne K) [("WayfillError", C_WayfillError), ("BoundError", C_BoundError), ("TooLong", C_TooLong), ("TooMany", C_TooMany), ("BadWeights", C_BadWeights), ("BadLetters", C_BadLetters), ("BadWord", C_BadWord)] (.ref C_WayfillError) [("WayfillError", true), ("BoundError", true), ("TooLong", true), ("TooMany", true), ("BadWeights", true), ("BadLetters", true), ("BadWord", true)] = true)
    (h_1 : tabOk (PySem.W.kitOne K) [("WayfillError", C_WayfillError), ("BoundError", C_BoundError), ("TooLong", C_TooLong), ("TooMany", C_TooMany), ("BadWeights", C_BadWeights), ("BadLetters", C_BadLetters), ("BadWord", C_BadWord)] (.type "ValueError") [("WayfillError", true), ("BoundError", true), ("TooLong", true), ("TooMany", true), ("BadWeights", true), ("BadLetters", true), ("BadWord", true)] = true)
    (h_2 : tabOk (PySem.W.kitOne K) [("WayfillError", C_WayfillError), ("BoundError", C_BoundError), ("TooLong", C_TooLong), ("TooMany", C_TooMany), ("BadWeights", C_BadWeights), ("BadLetters", C_BadLetters), ("BadWord", C_BadWord)] (.ref C_TooMany) [("WayfillError", false), ("BoundError", false), ("TooLong", false), ("TooMany", true), ("BadWeights", false), ("BadLetters", false), ("BadWord", false)] = true)
    (h_3 : tabOk (PySem.W.kitOne K) [("WayfillError", C_WayfillError), ("BoundError", C_BoundError), ("TooLong", C_TooLong), ("TooMany", C_TooMany), ("BadWeights", C_BadWeights), ("BadLetters", C_BadLetters), ("BadWord", C_BadWord)] (.ref C_TooLong) [("WayfillError", false), ("BoundError", false), ("TooLong", true), ("TooMany", false), ("BadWeights", false), ("BadLetters", false), ("BadWord", false)] = true)
    (h_4 : tabOk (PySem.W.kitOne K) [("WayfillError", C_WayfillError), ("BoundError", C_BoundError), ("TooLong", C_TooLong), ("TooMany", C_TooMany), ("BadWeights", C_BadWeights), ("BadLetters", C_BadLetters), ("BadWord", C_BadWord)] (.ref C_BadWord) [("WayfillError", false), ("BoundError", false), ("TooLong", false), ("TooMany", false), ("BadWeights", false), ("BadLetters", false), ("BadWord", true)] = true)
    (h_5 : tabOk (PySem.W.kitOne K) [("WayfillError", C_WayfillError), ("BoundError", C_BoundError), ("TooLong", C_TooLong), ("TooMany", C_TooMany), ("BadWeights", C_BadWeights), ("BadLetters", C_BadLetters), ("BadWord", C_BadWord)] (.ref C_BadWeights) [("WayfillError", false), ("BoundError", false), ("TooLong", false), ("TooMany", false), ("BadWeights", true), ("BadLetters", false), ("BadWord", false)] = true)
    (h_6 : tabOk (PySem.W.kitOne K) [("WayfillError", C_WayfillError), ("BoundError", C_BoundError), ("TooLong", C_TooLong), ("TooMany", C_TooMany), ("BadWeights", C_BadWeights), ("BadLetters", C_BadLetters), ("BadWord", C_BadWord)] (.ref C_BadLetters) [("WayfillError", false), ("BoundError", false), ("TooLong", false), ("TooMany", false), ("BadWeights", false), ("BadLetters", true), ("BadWord", false)] = true)
    (h_7 : tabOk (PySem.W.kitOne K) [("WayfillError", C_WayfillError), ("BoundError", C_BoundError), ("TooLong", C_TooLong), ("TooMany", C_TooMany), ("BadWeights", C_BadWeights), ("BadLetters", C_BadLetters), ("BadWord", C_BadWord)] (.ref C_BoundError) [("WayfillError", false), ("BoundError", true), ("TooLong", true), ("TooMany", true), ("BadWeights", false), ("BadLetters", false), ("BadWord", false)] = true)
    (z_ValueError : PySem.W.nsIn K mainGlobals "ValueError" = some none)
    (z_abs : PySem.W.nsIn K mainGlobals "abs" = some none)
    (z_all : PySem.W.nsIn K mainGlobals "all" = some none)
    (z_bool : PySem.W.nsIn K mainGlobals "bool" = some none)
    (z_int : PySem.W.nsIn K mainGlobals "int" = some none)
    (z_isinstance : PySem.W.nsIn K mainGlobals "isinstance" = some none)
    (z_len : PySem.W.nsIn K mainGlobals "len" = some none)
    (z_list : PySem.W.nsIn K mainGlobals "list" = some none)
    (z_range : PySem.W.nsIn K mainGlobals "range" = some none)
    (z_set : PySem.W.nsIn K mainGlobals "set" = some none)
    (z_sorted : PySem.W.nsIn K mainGlobals "sorted" = some none)
    (z_str : PySem.W.nsIn K mainGlobals "str" = some none)
    (z_sum : PySem.W.nsIn K mainGlobals "sum" = some none)
    (z_super : PySem.W.nsIn K mainGlobals "super" = some none)
    (z_tuple : PySem.W.nsIn K mainGlobals "tuple" = some none) :
    ∃ fd : FuncData, (∀ (s : Shared) (v : Value), BindsTo s fd ⟨[v], []⟩ [("_law_script", v)]) ∧ ∀ base : Heap, K.In base → base.Ns mainGlobals mg → FnOk l.prog w K mg base (L2.CX l.prog w) 12 fa fd ["_law_script"] (spA K m_law) := by
  obtain ⟨T, _, e2⟩ := all_mk (P := l.prog) X G a0 l0 c0 k0 a1 l1 c1 k1 a2 l2 c2 k2 a3 l3 c3 k3 a4 l4 c4 k4 a5 l5 c5 k5 a6 l6 c6 k6 a7 l7 c7 k7 a8 l8 c8 k8 a9 l9 c9 k9 a10 l10 c10 k10 a11 l11 c11 k11 a12 l12 c12 k12 a13 l13 c13 k13 a14 l14 c14 k14 a15 l15 c15 k15 a16 l16 c16 k16 a17 l17 c17 k17 a18 l18 c18 k18 a19 l19 c19 k19 a20 l20 c20 k20 a21 l21 c21 k21 a22 l22 c22 k22 a23 l23 c23 k23 a24 l24 c24 k24 a25 l25 c25 k25 a26 l26 c26 k26 a27 l27 c27 k27 a28 l28 c28 k28 a29 l29 c29 k29 a30 l30 c30 k30 a31 l31 c31 k31 a32 l32 c32 k32 a33 l33 c33 k33 a34 l34 c34 k34 a35 l35 c35 k35 a36 l36 c36 k36 a37 l37 c37 k37 n_LETTERS r_LETTERS n_WEIGHT r_WEIGHT n_WORD r_WORD m_WayfillError e_WayfillError q_WayfillError m_BoundError e_BoundError q_BoundError m_TooLong e_TooLong q_TooLong m_TooMany e_TooMany q_TooMany m_BadWeights e_BadWeights q_BadWeights m_BadLetters e_BadLetters m_BadWord e_BadWord i1_BadLetters i2_BadLetters i3_BadLetters i4_BadLetters i5_BadLetters i6_BadLetters i7_BadLetters i8_BadLetters i9_BadLetters ia_BadLetters ib_BadLetters i1_BadWord i2_BadWord i3_BadWord i4_BadWord i5_BadWord i6_BadWord i7_BadWord i8_BadWord i9_BadWord ia_BadWord ib_BadWord qOpq qTop n_BadLetters_text n_BadWord_text h_0 h_1 h_2 h_3 h_4 h_5 h_6 h_7 z_ValueError z_abs z_all z_bool z_int z_isinstance z_len z_list z_range z_set z_sorted z_str z_sum z_super z_tuple
  exact fin_mk (oc := .none) T hfa e2
end Lawk00
open PySem PySem.W PyProof.Rows
local macro_rules | `(tactic| walk_at "er_t") => `(tactic| first | rfl | kernel_rfl | decide +kernel)
local macro_rules | `(tactic| walk_at "er_f") => `(tactic| (refine' TT.erF_mk ?xl ?xv ?xsa ?xga ?xgg ?xkC ?xeC ?xtC ?xhC ?xiC ?xca ?xhn ?xht ?xhm; (case xl => k_is); (case xv => decide +kernel); (case xsa => k_is); (case xga => k_is); (case xgg => k_is); (case xkC => k_is); (case xeC => k_is); (case xtC => k_is); (case xhC => k_is); (case xiC => k_is); (case xca => k_is); (case xhn => k_is); (case xht => k_is); (case xhm => k_is)))
set_option maxRecDepth 100000 in
set_option maxHeartbeats 0 in
theorem PySem.Challenge.cw_wayfill_k00_word_order_holds : PySem.Challenge.rw_wayfill_k00_word_order.Holds := by
  w_on; o_law; k_head; (case hw => w_witness2)
  k_fill
  refine L2.walk_of (l := PySem.Challenge.rw_wayfill_k00_word_order) (n := 63) (k := 12) (x := "_law_script") (CX := fun w => L2.CX PySem.Challenge.rw_wayfill_k00_word_order.prog w) (sp := fun w => TT.spA _ Lawk00.m_law) rfl (by decide) rfl ⟨rfl, by decide, by decide⟩ (fun w h Y => PySem.W.kIn_of Y) ?F (fun _ H a ns hl _ hS cv => TT.law_sp Lawk00.law_true H a ns hl hS) (fun _ H s e s' h => TT.cx_end H s e s' h)
  case F =>
    intro w mg fa h KX G hmg
    refine' Lawk00.top_mk KX G hmg ?a0 ?l0 ?c0 ?k0 ?a1 ?l1 ?c1 ?k1 ?a2 ?l2 ?c2 ?k2 ?a3 ?l3 ?c3 ?k3 ?a4 ?l4 ?c4 ?k4 ?a5 ?l5 ?c5 ?k5 ?a6 ?l6 ?c6 ?k6 ?a7 ?l7 ?c7 ?k7 ?a8 ?l8 ?c8 ?k8 ?a9 ?l9 ?c9 ?k9 ?a10 ?l10 ?c10 ?k10 ?a11 ?l11 ?c11 ?k11 ?a12 ?l12 ?c12 ?k12 ?a13 ?l13 ?c13 ?k13 ?a14 ?l14 ?c14 ?k14 ?a15 ?l15 ?c15 ?k15 ?a16 ?l16 ?c16 ?k16 ?a17 ?l17 ?c17 ?k17 ?a18 ?l18 ?c18 ?k18 ?a19 ?l19 ?c19 ?k19 ?a20 ?l20 ?c20 ?k20 ?a21 ?l21 ?c21 ?k21 ?a22 ?l22 ?c22 ?k22 ?a23 ?l23 ?c23 ?k23 ?a24 ?l24 ?c24 ?k24 ?a25 ?l25 ?c25 ?k25 ?a26 ?l26 ?c26 ?k26 ?a27 ?l27 ?c27 ?k27 ?a28 ?l28 ?c28 ?k28 ?a29 ?l29 ?c29 ?k29 ?a30 ?l30 ?c30 ?k30 ?a31 ?l31 ?c31 ?k31 ?a32 ?l32 ?c32 ?k32 ?a33 ?l33 ?c33 ?k33 ?a34 ?l34 ?c34 ?k34 ?a35 ?l35 ?c35 ?k35 ?a36 ?l36 ?c36 ?k36 ?a37 ?l37 ?c37 ?k37 ?n_LETTERS ?r_LETTERS ?n_WEIGHT ?r_WEIGHT ?n_WORD ?r_WORD ?m_WayfillError ?e_WayfillError ?q_WayfillError ?m_BoundError ?e_BoundError ?q_BoundError ?m_TooLong ?e_TooLong ?q_TooLong ?m_TooMany ?e_TooMany ?q_TooMany ?m_BadWeights ?e_BadWeights ?q_BadWeights ?m_BadLetters ?e_BadLetters ?m_BadWord ?e_BadWord ?i1_BadLetters ?i2_BadLetters ?i3_BadLetters ?i4_BadLetters ?i5_BadLetters ?i6_BadLetters ?i7_BadLetters ?i8_BadLetters ?i9_BadLetters ?ia_BadLetters ?ib_BadLetters ?i1_BadWord ?i2_BadWord ?i3_BadWord ?i4_BadWord ?i5_BadWord ?i6_BadWord ?i7_BadWord ?i8_BadWord ?i9_BadWord ?ia_BadWord ?ib_BadWord ?qOpq ?qTop ?n_BadLetters_text ?n_BadWord_text ?h_0 ?h_1 ?h_2 ?h_3 ?h_4 ?h_5 ?h_6 ?h_7 ?z_ValueError ?z_abs ?z_all ?z_bool ?z_int ?z_isinstance ?z_len ?z_list ?z_range ?z_set ?z_sorted ?z_str ?z_sum ?z_super ?z_tuple
    (case a0 => k_is); (case l0 => k_is); (case c0 => k_is); (case k0 => k_is); (case a1 => k_is); (case l1 => k_is); (case c1 => k_is); (case k1 => k_is); (case a2 => k_is); (case l2 => k_is); (case c2 => k_is); (case k2 => k_is); (case a3 => k_is); (case l3 => k_is); (case c3 => k_is); (case k3 => k_is); (case a4 => k_is); (case l4 => k_is); (case c4 => k_is); (case k4 => k_is); (case a5 => k_is); (case l5 => k_is); (case c5 => k_is); (case k5 => k_is); (case a6 => k_is); (case l6 => k_is); (case c6 => k_is); (case k6 => k_is); (case a7 => k_is); (case l7 => k_is); (case c7 => k_is); (case k7 => k_is); (case a8 => k_is); (case l8 => k_is); (case c8 => k_is); (case k8 => k_is); (case a9 => k_is); (case l9 => k_is); (case c9 => k_is); (case k9 => k_is); (case a10 => k_is); (case l10 => k_is); (case c10 => k_is); (case k10 => k_is); (case a11 => k_is); (case l11 => k_is); (case c11 => k_is); (case k11 => k_is); (case a12 => k_is); (case l12 => k_is); (case c12 => k_is); (case k12 => k_is); (case a13 => k_is); (case l13 => k_is); (case c13 => k_is); (case k13 => k_is); (case a14 => k_is); (case l14 => k_is); (case c14 => k_is); (case k14 => k_is); (case a15 => k_is); (case l15 => k_is); (case c15 => k_is); (case k15 => k_is); (case a16 => k_is); (case l16 => k_is); (case c16 => k_is); (case k16 => k_is); (case a17 => k_is); (case l17 => k_is); (case c17 => k_is); (case k17 => k_is); (case a18 => k_is); (case l18 => k_is); (case c18 => k_is); (case k18 => k_is); (case a19 => k_is); (case l19 => k_is); (case c19 => k_is); (case k19 => k_is); (case a20 => k_is); (case l20 => k_is); (case c20 => k_is); (case k20 => k_is); (case a21 => k_is); (case l21 => k_is); (case c21 => k_is); (case k21 => k_is); (case a22 => k_is); (case l22 => k_is); (case c22 => k_is); (case k22 => k_is); (case a23 => k_is); (case l23 => k_is); (case c23 => k_is); (case k23 => k_is); (case a24 => k_is); (case l24 => k_is); (case c24 => k_is); (case k24 => k_is); (case a25 => k_is); (case l25 => k_is); (case c25 => k_is); (case k25 => k_is); (case a26 => k_is); (case l26 => k_is); (case c26 => k_is); (case k26 => k_is); (case a27 => k_is); (case l27 => k_is); (case c27 => k_is); (case k27 => k_is); (case a28 => k_is); (case l28 => k_is); (case c28 => k_is); (case k28 => k_is); (case a29 => k_is); (case l29 => k_is); (case c29 => k_is); (case k29 => k_is); (case a30 => k_is); (case l30 => k_is); (case c30 => k_is); (case k30 => k_is); (case a31 => k_is); (case l31 => k_is); (case c31 => k_is); (case k31 => k_is); (case a32 => k_is); (case l32 => k_is); (case c32 => k_is); (case k32 => k_is); (case a33 => k_is); (case l33 => k_is); (case c33 => k_is); (case k33 => k_is); (case a34 => k_is); (case l34 => k_is); (case c34 => k_is); (case k34 => k_is); (case a35 => k_is); (case l35 => k_is); (case c35 => k_is); (case k35 => k_is); (case a36 => k_is); (case l36 => k_is); (case c36 => k_is); (case k36 => k_is); (case a37 => k_is); (case l37 => k_is); (case c37 => k_is); (case k37 => k_is); (case n_LETTERS => k_is); (case r_LETTERS => exact ⟨_, rfl⟩); (case n_WEIGHT => k_is); (case r_WEIGHT => exact ⟨_, rfl⟩); (case n_WORD => k_is); (case r_WORD => exact ⟨_, rfl⟩); (case m_WayfillError => k_is); (case e_WayfillError => walk_at "er_f"); (case q_WayfillError => k_exc); (case m_BoundError => k_is); (case e_BoundError => walk_at "er_f"); (case q_BoundError => k_exc); (case m_TooLong => k_is); (case e_TooLong => walk_at "er_f"); (case q_TooLong => k_exc); (case m_TooMany => k_is); (case e_TooMany => walk_at "er_f"); (case q_TooMany => k_exc); (case m_BadWeights => k_is); (case e_BadWeights => walk_at "er_f"); (case q_BadWeights => k_exc); (case m_BadLetters => k_is); (case e_BadLetters => walk_at "er_f"); (case m_BadWord => k_is); (case e_BadWord => walk_at "er_f"); (case i1_BadLetters => k_is); (case i2_BadLetters => k_is); (case i3_BadLetters => k_is); (case i4_BadLetters => k_is); (case i5_BadLetters => k_is); (case i6_BadLetters => rfl); (case i7_BadLetters => walk_at "er_t"); (case i8_BadLetters => k_is); (case i9_BadLetters => walk_at "er_t"); (case ia_BadLetters => k_is); (case ib_BadLetters => k_is); (case i1_BadWord => k_is); (case i2_BadWord => k_is); (case i3_BadWord => k_is); (case i4_BadWord => k_is); (case i5_BadWord => k_is); (case i6_BadWord => rfl); (case i7_BadWord => walk_at "er_t"); (case i8_BadWord => k_is); (case i9_BadWord => walk_at "er_t"); (case ia_BadWord => k_is); (case ib_BadWord => k_is); (case qOpq => k_is); (case qTop => walk_at "er_t"); (case n_BadLetters_text => k_is); (case n_BadWord_text => k_is); (case h_0 => walk_at "er_t"); (case h_1 => walk_at "er_t"); (case h_2 => walk_at "er_t"); (case h_3 => walk_at "er_t"); (case h_4 => walk_at "er_t"); (case h_5 => walk_at "er_t"); (case h_6 => walk_at "er_t"); (case h_7 => walk_at "er_t"); (case z_ValueError => k_is); (case z_abs => k_is); (case z_all => k_is); (case z_bool => k_is); (case z_int => k_is); (case z_isinstance => k_is); (case z_len => k_is); (case z_list => k_is); (case z_range => k_is); (case z_set => k_is); (case z_sorted => k_is); (case z_str => k_is); (case z_sum => k_is); (case z_super => k_is); (case z_tuple => k_is)
