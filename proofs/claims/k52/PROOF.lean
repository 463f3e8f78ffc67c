import PyProof.Rows.All
import Wide.All
import OpenK.AllK
import Wide.FinOn
import KE.KStateDown
import HandS.Base
import HandS.Call
import HandS.Ends
import HandS.More
import HandS.Words
import HandS.WordsExc
import HandS.Defaults
import HandS.Head0
import HandS.Head1
import HandS.Head2
import HandS.HeadEnd
import HandS.HeadHook1
import HandS.HeadHook2
import HandS.ForMost
import HandS.IsInst
import HandS.Walk
import HandS.TupAny
import HandS.TupMul
import HandS.Style
import HandS.Wide
import HandS.Deep
import HandS.SortInts
import HandS.RaiseMore
import HandS.WideBits
import KE.KEqNest
import HandS.Dict
import HandS.Zip
import KE.GoesEnum
import KE.KSortTupG
import HandS.TupSets
import HandS.TryOnly
import HandS.Conv
import PySem.Challenge.RW_knockpurse_k52_time_handed_on
set_option Elab.async false
set_option linter.all false
set_option maxRecDepth 100000
set_option maxHeartbeats 0
/-! A layer of our own over HandS: frozen data, owned lists, what a step leaves. -/
namespace L2.M
open PySem PySem.Spec PyProof.Rows

abbrev D := PyData
def keyD : Key → D
  | .inl i => .int i
  | .inr x => .str x

/-! ### a value reads as data in the part F of the heap that never changes -/
mutual
def Rep (K : PySem.W.Frag) (F : Hp) : V → D → Prop
  | v, .none => v = .non
  | v, .bool b => v = .bl b
  | v, .int i => v = .int i
  | v, .str x => v = .str x
  | v, .list ds => ∃ a vs, v = .ref a ∧ SqL K F a vs ∧ Reps K F vs ds
  | v, .tuple ds => ∃ a vs, v = .ref a ∧ SqT K F a vs ∧ Reps K F vs ds
  | v, .dict kds => ∃ a kvs, v = .ref a ∧ F a = some (.dK kvs) ∧ RepKs K F kvs kds
def Reps (K : PySem.W.Frag) (F : Hp) : List V → List D → Prop
  | vs, [] => vs = []
  | vs, d :: ds => ∃ v r, vs = v :: r ∧ Rep K F v d ∧ Reps K F r ds
def RepKs (K : PySem.W.Frag) (F : Hp) : List (Key × V) → List (D × D) → Prop
  | kvs, [] => kvs = []
  | kvs, (k, d) :: kds => ∃ key v r, kvs = (key, v) :: r ∧ k = keyD key ∧ Rep K F v d ∧ RepKs K F r kds
end

theorem sameL {K : PySem.W.Frag} {H H' : Hp} {a : Addr} {xs : List V} (e : Same H H') (h : SqL K H a xs) : SqL K H' a xs := e.seq h
theorem sameT {K : PySem.W.Frag} {H H' : Hp} {a : Addr} {xs : List V} (e : Same H H') (h : SqT K H a xs) : SqT K H' a xs := by
  rcases h with (h | ⟨o, h⟩) | h
  · exact .inl (.inl (e _ _ h))
  · exact .inl (.inr ⟨o, e _ _ h⟩)
  · exact .inr h

section
variable {K : PySem.W.Frag} {F F' : Hp}
mutual
theorem Rep.mono (e : Same F F') : ∀ (d : D) (v : V), Rep K F v d → Rep K F' v d
  | .none, v, h => h
  | .bool b, v, h => h
  | .int b, v, h => h
  | .str b, v, h => h
  | .list ds, v, ⟨a, vs, h1, h2, h3⟩ => ⟨a, vs, h1, sameL e h2, Reps.mono e ds vs h3⟩
  | .tuple ds, v, ⟨a, vs, h1, h2, h3⟩ => ⟨a, vs, h1, sameT e h2, Reps.mono e ds vs h3⟩
  | .dict kds, v, ⟨a, vs, h1, h2, h3⟩ => ⟨a, vs, h1, e _ _ h2, RepKs.mono e kds vs h3⟩
theorem Reps.mono (e : Same F F') : ∀ (ds : List D) (vs : List V), Reps K F vs ds → Reps K F' vs ds
  | [], vs, h => h
  | d :: ds, vs, ⟨v, r, h1, h2, h3⟩ => ⟨v, r, h1, Rep.mono e d v h2, Reps.mono e ds r h3⟩
theorem RepKs.mono (e : Same F F') : ∀ (ds : List (D × D)) (vs : List (Key × V)), RepKs K F vs ds → RepKs K F' vs ds
  | [], vs, h => h
  | (k, d) :: ds, vs, ⟨key, v, r, h1, h0, h2, h3⟩ => ⟨key, v, r, h1, h0, Rep.mono e d v h2, RepKs.mono e ds r h3⟩
end
theorem Reps.length : ∀ {ds : List D} {vs : List V}, Reps K F vs ds → vs.length = ds.length
  | [], vs, h => by cases (show vs = [] from h); rfl
  | d :: ds, vs, ⟨v, r, h1, h2, h3⟩ => by subst h1; simp [Reps.length h3]
theorem Reps.get : ∀ {ds : List D} {vs : List V} {i : Nat} {d : D}, Reps K F vs ds → ds[i]? = some d → ∃ v, vs[i]? = some v ∧ Rep K F v d
  | [], vs, i, d, h, e => by simp at e
  | d :: ds, vs, 0, d', ⟨v, r, h1, h2, h3⟩, e => by
    simp at e; subst e; subst h1; exact ⟨v, rfl, h2⟩
  | d :: ds, vs, i + 1, d', ⟨v, r, h1, h2, h3⟩, e => by
    subst h1
    obtain ⟨v', e1, e2⟩ := Reps.get (i := i) h3 (by simpa using e)
    exact ⟨v', by simpa using e1, e2⟩
theorem Reps.append : ∀ {ds es : List D} {vs ws : List V}, Reps K F vs ds → Reps K F ws es → Reps K F (vs ++ ws) (ds ++ es)
  | [], es, vs, ws, h, g => by cases (show vs = [] from h); exact g
  | d :: ds, es, vs, ws, ⟨v, r, h1, h2, h3⟩, g => by subst h1; exact ⟨v, r ++ ws, rfl, h2, Reps.append h3 g⟩
theorem Reps.one {v : V} {d : D} (h : Rep K F v d) : Reps K F [v] [d] := ⟨v, [], rfl, h, rfl⟩
theorem Reps.take : ∀ {ds : List D} {vs : List V} (n : Nat), Reps K F vs ds → Reps K F (vs.take n) (ds.take n)
  | _, _, 0, _ => by simp [Reps]
  | [], vs, n + 1, h => by cases (show vs = [] from h); simp [Reps]
  | d :: ds, vs, n + 1, ⟨v, r, h1, h2, h3⟩ => by subst h1; exact ⟨v, _, rfl, h2, Reps.take n h3⟩
theorem Reps.drop : ∀ {ds : List D} {vs : List V} (n : Nat), Reps K F vs ds → Reps K F (vs.drop n) (ds.drop n)
  | _, _, 0, h => h
  | [], vs, n + 1, h => by cases (show vs = [] from h); simp [Reps]
  | d :: ds, vs, n + 1, ⟨v, r, h1, h2, h3⟩ => by subst h1; exact Reps.drop n h3
theorem Reps.set {v : V} {d : D} (g : Rep K F v d) : ∀ {ds : List D} {vs : List V} (n : Nat), Reps K F vs ds → Reps K F (vs.set n v) (ds.set n d)
  | [], vs, n, h => by cases (show vs = [] from h); simp [Reps]
  | d' :: ds, vs, 0, ⟨v', r, h1, h2, h3⟩ => by subst h1; exact ⟨v, r, rfl, g, h3⟩
  | d' :: ds, vs, n + 1, ⟨v', r, h1, h2, h3⟩ => by subst h1; exact ⟨v', _, rfl, h2, Reps.set g n h3⟩
theorem Reps.erase : ∀ {ds : List D} {vs : List V} (n : Nat), Reps K F vs ds → Reps K F (vs.eraseIdx n) (ds.eraseIdx n)
  | [], vs, n, h => by cases (show vs = [] from h); simp [Reps]
  | d' :: ds, vs, 0, ⟨v', r, h1, h2, h3⟩ => by subst h1; exact h3
  | d' :: ds, vs, n + 1, ⟨v', r, h1, h2, h3⟩ => by subst h1; exact ⟨v', _, rfl, h2, Reps.erase n h3⟩
theorem Reps.reverse : ∀ {ds : List D} {vs : List V}, Reps K F vs ds → Reps K F vs.reverse ds.reverse
  | [], vs, h => by cases (show vs = [] from h); simp [Reps]
  | d :: ds, vs, ⟨v, r, h1, h2, h3⟩ => by
    subst h1
    rw [List.reverse_cons, List.reverse_cons]
    exact Reps.append (Reps.reverse h3) (Reps.one h2)
theorem Reps.replicate {ds : List D} {vs : List V} (h : Reps K F vs ds) : ∀ n : Nat, Reps K F (List.replicate n vs).flatten (List.replicate n ds).flatten
  | 0 => by simp [Reps]
  | n + 1 => by
    rw [List.replicate_succ, List.replicate_succ, List.flatten_cons, List.flatten_cons]
    exact Reps.append h (Reps.replicate h n)
end

/-! ### cells: what a slot holds -/
inductive C where
  | no | sh (d : D) | ls (ds : List D)
abbrev Cs := List C

def Own (σ : St) (ε : Cs) (b : Addr) : Prop := ∃ (i : Nat) (ds : List D), ε[i]? = some (.ls ds) ∧ σ[i]? = some (some (.ref b))

structure Ok (K : PySem.W.Frag) (F H : Hp) (σ : St) (ε : Cs) : Prop where
  sub : Same F H
  len : σ.length = ε.length
  sh : ∀ (i : Nat) (d : D), ε[i]? = some (.sh d) → ∃ v, σ[i]? = some (some v) ∧ Rep K F v d
  ls : ∀ (i : Nat) (ds : List D), ε[i]? = some (.ls ds) → ∃ a vs, σ[i]? = some (some (.ref a)) ∧ H a = some (.lst vs) ∧ F a = none ∧ Reps K F vs ds
  inj : ∀ (i j : Nat) (a : Addr) (ds es : List D), ε[i]? = some (.ls ds) → ε[j]? = some (.ls es) → σ[i]? = some (some (.ref a)) → σ[j]? = some (some (.ref a)) → i = j

/-- what a step leaves of the world around -/
structure Fr (F H : Hp) (σ : St) (ε : Cs) (F' H' : Hp) (σ' : St) (ε' : Cs) : Prop where
  fm : Same F F'
  keep : ∀ b o, H b = some o → ¬ Own σ ε b → H' b = some o
  ff : ∀ b, F b = none → F' b ≠ none → H b = none ∨ Own σ ε b
  live : ∀ b, H b ≠ none → H' b ≠ none
  own : ∀ b, Own σ' ε' b → Own σ ε b ∨ H b = none

theorem Fr.refl (F H : Hp) (σ : St) (ε : Cs) : Fr F H σ ε F H σ ε :=
  ⟨Same.refl F, fun _ _ h _ => h, fun b h h' => absurd h h', fun _ h => h, fun _ h => .inl h⟩
theorem Fr.trans {F H F1 H1 F2 H2 : Hp} {σ σ1 σ2 : St} {ε ε1 ε2 : Cs} (a : Fr F H σ ε F1 H1 σ1 ε1) (b : Fr F1 H1 σ1 ε1 F2 H2 σ2 ε2) : Fr F H σ ε F2 H2 σ2 ε2 where
  fm := a.fm.trans b.fm
  keep := fun c o h n => b.keep c o (a.keep c o h n) fun z => by
    rcases a.own c z with z | z
    · exact n z
    · rw [z] at h; cases h
  ff := fun c h h' => by
    by_cases e : F1 c = none
    · rcases b.ff c e h' with z | z
      · left
        by_cases q : H c = none
        · exact q
        · exact absurd z (a.live c q)
      · rcases a.own c z with z | z
        · exact .inr z
        · exact .inl z
    · exact a.ff c h e
  live := fun c h => b.live c (a.live c h)
  own := fun c z => by
    rcases b.own c z with z | z
    · exact a.own c z
    · right
      by_cases q : H c = none
      · exact q
      · exact absurd z (a.live c q)

/-- how a cell may go on where its slot is not stored to -/
def Go (c c' : Option C) : Prop := c' = c ∨ ∃ ds, c = some (.ls ds) ∧ ((∃ ds', c' = some (.ls ds')) ∨ ∃ d, c' = some (.sh d))
theorem Go.refl (c : Option C) : Go c c := .inl rfl
theorem Go.trans {c c1 c2 : Option C} (a : Go c c1) (b : Go c1 c2) : Go c c2 := by
  rcases a with rfl | ⟨ds, rfl, h⟩
  · exact b
  · rcases b with rfl | ⟨es, e, h'⟩
    · exact .inr ⟨ds, rfl, h⟩
    · exact .inr ⟨ds, rfl, h'⟩
theorem Go.ls_back {c c' : Option C} {ds : List D} (g : Go c c') (h : c' = some (.ls ds)) : ∃ es, c = some (.ls es) := by
  rcases g with rfl | ⟨es, e, _⟩
  · exact ⟨ds, h⟩
  · exact ⟨es, e⟩

/-- a result's cell, read where it came to -/
def RepC (K : PySem.W.Frag) (F H : Hp) (v : V) : C → Prop
  | .no => False
  | .sh d => Rep K F v d
  | .ls ds => ∃ a vs, v = .ref a ∧ H a = some (.lst vs) ∧ F a = none ∧ Reps K F vs ds

/-- behind an expression (the slots stay) -/
structure Stp (K : PySem.W.Frag) (F H : Hp) (σ : St) (ε : Cs) (F' H' : Hp) (ε' : Cs) : Prop where
  ok : Ok K F' H' σ ε'
  fr : Fr F H σ ε F' H' σ ε'
  go : ∀ i : Nat, Go ε[i]? ε'[i]?
  fz : ∀ (i : Nat) (ds : List D) (a : Addr), ε[i]? = some (.ls ds) → σ[i]? = some (some (.ref a)) → (∃ ds', ε'[i]? = some (.ls ds')) ∨ F' a ≠ none
theorem Stp.refl {K : PySem.W.Frag} {F H : Hp} {σ : St} {ε : Cs} (o : Ok K F H σ ε) : Stp K F H σ ε F H ε :=
  ⟨o, Fr.refl _ _ _ _, fun _ => Go.refl _, fun i ds a h _ => .inl ⟨ds, h⟩⟩
theorem Same.ne {F F' : Hp} {a : Addr} (e : Same F F') (h : F a ≠ none) : F' a ≠ none := by
  cases q : F a with
  | none => exact absurd q h
  | some o => rw [e a o q]; exact fun z => nomatch z
theorem Stp.trans {K : PySem.W.Frag} {F H F1 H1 F2 H2 : Hp} {σ : St} {ε ε1 ε2 : Cs} (a : Stp K F H σ ε F1 H1 ε1) (b : Stp K F1 H1 σ ε1 F2 H2 ε2) : Stp K F H σ ε F2 H2 ε2 where
  ok := b.ok
  fr := a.fr.trans b.fr
  go := fun i => (a.go i).trans (b.go i)
  fz := fun i ds c h1 h2 => by
    rcases a.fz i ds c h1 h2 with ⟨ds', h⟩ | h
    · exact b.fz i ds' c h h2
    · exact .inr (Same.ne b.fr.fm h)
/-- no own cell is new while an expression is reckoned -/
theorem Stp.ow {K : PySem.W.Frag} {F H F' H' : Hp} {σ : St} {ε ε' : Cs} (a : Stp K F H σ ε F' H' ε') {b : Addr} (h : Own σ ε' b) : Own σ ε b := by
  obtain ⟨i, ds, h1, h2⟩ := h
  obtain ⟨es, h3⟩ := (a.go i).ls_back h1
  exact ⟨i, es, h3, h2⟩
theorem Ok.own_ls {K : PySem.W.Frag} {F H : Hp} {σ : St} {ε : Cs} (o : Ok K F H σ ε) {b : Addr} (h : Own σ ε b) : (∃ vs, H b = some (.lst vs)) ∧ F b = none := by
  obtain ⟨i, ds, h1, h2⟩ := h
  obtain ⟨a, vs, e1, e2, e3, _⟩ := o.ls i ds h1
  rw [e1] at h2
  cases h2
  exact ⟨⟨vs, e2⟩, e3⟩
theorem Ok.not_own {K : PySem.W.Frag} {F H : Hp} {σ : St} {ε : Cs} (o : Ok K F H σ ε) {b : Addr} (h : H b = none) : ¬ Own σ ε b := fun z => by
  obtain ⟨⟨vs, e⟩, _⟩ := o.own_ls z
  rw [h] at e
  cases e

/-- .. with a value -/
structure Post (K : PySem.W.Frag) (F H : Hp) (σ : St) (ε : Cs) (F' H' : Hp) (ε' : Cs) (v : V) (c : C) : Prop where
  st : Stp K F H σ ε F' H' ε'
  rep : RepC K F' H' v c
  new : ∀ (ds : List D) (a : Addr), c = .ls ds → v = .ref a → H a = none

abbrev EM := Cs → Option (C × Cs)
def tE (K : PySem.W.Frag) (m : EM) : TE := fun σ H Q => ∃ F ε c ε', Ok K F H σ ε ∧ m ε = some (c, ε') ∧ ∀ v F' H', Post K F H σ ε F' H' ε' v c → Q v H'

/-- an operand: the object that a slot names (read when the operation is done), or a value of its own -/
inductive Opd where
  | pl (i : Nat) | tm (c : C)
inductive OpsOk (K : PySem.W.Frag) (F H : Hp) (σ : St) (N : Addr → Prop) : List V → List Opd → Prop where
  | nil : OpsOk K F H σ N [] []
  | pl {i : Nat} {v : V} {vs : List V} {os : List Opd} : σ[i]? = some (some v) → OpsOk K F H σ N vs os → OpsOk K F H σ N (v :: vs) (.pl i :: os)
  | sh {d : D} {v : V} {vs : List V} {os : List Opd} : Rep K F v d → OpsOk K F H σ N vs os → OpsOk K F H σ N (v :: vs) (.tm (.sh d) :: os)
  | ls {a : Addr} {ws : List V} {ds : List D} {vs : List V} {os : List Opd} : H a = some (.lst ws) → F a = none → Reps K F ws ds → N a → (∀ (j : Nat) (es : List D), os[j]? = some (.tm (.ls es)) → vs[j]? ≠ some (.ref a)) →
      OpsOk K F H σ N vs os → OpsOk K F H σ N (.ref a :: vs) (.tm (.ls ds) :: os)
abbrev OM := Cs → Option (Opd × Cs)
abbrev AM := Cs → Option (List Opd × Cs)
def tO (K : PySem.W.Frag) (m : OM) : TE := fun σ H Q => ∃ F ε o ε', Ok K F H σ ε ∧ m ε = some (o, ε') ∧ ∀ v F' H', Stp K F H σ ε F' H' ε' → OpsOk K F' H' σ (fun a => H a = none) [v] [o] → Q v H'
def tA (K : PySem.W.Frag) (m : AM) : TA := fun σ H Q => ∃ F ε os ε', Ok K F H σ ε ∧ m ε = some (os, ε') ∧ ∀ vs F' H', Stp K F H σ ε F' H' ε' → OpsOk K F' H' σ (fun a => H a = none) vs os → Q vs H'

theorem OpsOk.imp {K : PySem.W.Frag} {F H : Hp} {σ : St} {N N' : Addr → Prop} {vs : List V} {os : List Opd} (h : OpsOk K F H σ N vs os) (i : ∀ a, N a → N' a) : OpsOk K F H σ N' vs os := by
  induction h with
  | nil => exact .nil
  | pl h _ ih => exact .pl h ih
  | sh h _ ih => exact .sh h ih
  | ls h1 h2 h3 h4 h5 _ ih => exact .ls h1 h2 h3 (i _ h4) h5 ih
theorem nofz {F H : Hp} {σ : St} {ε : Cs} {F' H' : Hp} {σ' : St} {ε' : Cs} (s : Fr F H σ ε F' H' σ' ε') {a : Addr} {o : HO} (h1 : H a = some o) (h2 : F a = none) (n : ¬ Own σ ε a) : F' a = none := by
  by_cases q : F' a = none
  · exact q
  · rcases s.ff a h2 q with z | z
    · rw [z] at h1; cases h1
    · exact absurd z n
/-- operands that wait while others are reckoned -/
theorem OpsOk.keep {K : PySem.W.Frag} {F H F' H' : Hp} {σ : St} {ε ε' : Cs} {N : Addr → Prop} {vs : List V} {os : List Opd} (h : OpsOk K F H σ N vs os) (s : Stp K F H σ ε F' H' ε') (n : ∀ a, N a → ¬ Own σ ε a) : OpsOk K F' H' σ N vs os := by
  induction h with
  | nil => exact .nil
  | pl h _ ih => exact .pl h ih
  | sh h _ ih => exact .sh (Rep.mono s.fr.fm _ _ h) ih
  | ls h1 h2 h3 h4 h5 _ ih =>
    exact .ls (s.fr.keep _ _ h1 (n _ h4)) (nofz s.fr h1 h2 (n _ h4)) (Reps.mono s.fr.fm _ _ h3) h4 h5 ih
theorem OpsOk.tm_ls {K : PySem.W.Frag} {F H : Hp} {σ : St} {N : Addr → Prop} {vs : List V} {os : List Opd} (h : OpsOk K F H σ N vs os) : ∀ {j : Nat} {es : List D} {a : Addr}, os[j]? = some (.tm (.ls es)) → vs[j]? = some (.ref a) → N a ∧ (∃ ws, H a = some (.lst ws) ∧ Reps K F ws es) ∧ F a = none := by
  induction h with
  | nil => intro j es a h; simp at h
  | pl h _ ih =>
    intro j es a h1 h2
    cases j with
    | zero => simp at h1
    | succ j => exact ih (by simpa using h1) (by simpa using h2)
  | sh h _ ih =>
    intro j es a h1 h2
    cases j with
    | zero => simp at h1
    | succ j => exact ih (by simpa using h1) (by simpa using h2)
  | ls g1 g2 g3 g4 g5 _ ih =>
    intro j es a h1 h2
    cases j with
    | zero =>
      simp at h1 h2
      subst h1 h2
      exact ⟨g4, ⟨_, g1, g3⟩, g2⟩
    | succ j => exact ih (by simpa using h1) (by simpa using h2)

def mNil : AM := fun ε => some ([], ε)
def mCons (m : OM) (r : AM) : AM := fun ε => do
  let (o, ε1) ← m ε
  let (os, ε2) ← r ε1
  some (o :: os, ε2)

theorem tA_nil {K : PySem.W.Frag} {σ : St} {H : Hp} {Q : List V → Hp → Prop} (h : tA K mNil σ H Q) : tNil σ H Q := by
  obtain ⟨F, ε, os, ε', o, e, q⟩ := h
  cases e
  exact q [] F H (Stp.refl o) .nil
theorem tA_cons {K : PySem.W.Frag} {m : OM} {r : AM} {σ : St} {H : Hp} {Q : List V → Hp → Prop} (h : tA K (mCons m r) σ H Q) : tCons (tO K m) (tA K r) σ H Q := by
  obtain ⟨F, ε, os, ε', o, e, q⟩ := h
  unfold mCons at e
  cases e1 : m ε with
  | none => rw [e1] at e; cases e
  | some p =>
    obtain ⟨o1, ε1⟩ := p
    rw [e1] at e
    cases e2 : r ε1 with
    | none => simp [e2] at e
    | some p2 =>
      obtain ⟨os2, ε2⟩ := p2
      simp [e2] at e
      obtain ⟨rfl, rfl⟩ := e
      refine ⟨F, ε, o1, ε1, o, e1, fun v F1 H1 s1 r1 => ⟨F1, ε1, os2, ε2, s1.ok, e2, fun vs F2 H2 s2 r2 => ?_⟩⟩
      have nw : ∀ a, H a = none → ¬ Own σ ε1 a := fun a z w => o.not_own z (s1.ow w)
      have r1' := r1.keep s2 nw
      refine q (v :: vs) F2 H2 (s1.trans s2) ?_
      have back : ∀ a, H1 a = none → H a = none := fun a z => by
        by_cases w : H a = none
        · exact w
        · exact absurd z (s1.fr.live a w)
      have r2' := r2.imp back
      cases r1' with
      | pl h _ => exact .pl h r2'
      | sh h _ => exact .sh h r2'
      | ls g1 g2 g3 g4 g5 _ =>
        refine .ls g1 g2 g3 g4 (fun j es h1 h2 => ?_) r2'
        obtain ⟨n1, _, _⟩ := r2.tm_ls h1 h2
        cases r1 with
        | ls f1 _ _ _ _ _ => rw [n1] at f1; cases f1

/-! ### what an operation sees of its operands -/
def bor (ε : Cs) : Opd → Option D
  | .pl i => match ε[i]? with
    | some (.sh d) => some d
    | some (.ls ds) => some (.list ds)
    | _ => none
  | .tm (.sh d) => some d
  | .tm (.ls ds) => some (.list ds)
  | .tm .no => none
def bors (ε : Cs) : List Opd → Option (List D)
  | [] => some []
  | o :: os => do
    let d ← bor ε o
    let ds ← bors ε os
    some (d :: ds)
def RepB (K : PySem.W.Frag) (F H : Hp) (v : V) (d : D) : Prop := Rep K F v d ∨ ∃ a ws ds, v = .ref a ∧ d = .list ds ∧ H a = some (.lst ws) ∧ Reps K F ws ds
inductive RepBs (K : PySem.W.Frag) (F H : Hp) : List V → List D → Prop where
  | nil : RepBs K F H [] []
  | cons {v : V} {d : D} {vs : List V} {ds : List D} : RepB K F H v d → RepBs K F H vs ds → RepBs K F H (v :: vs) (d :: ds)
theorem bors_ok {K : PySem.W.Frag} {F H : Hp} {σ : St} {ε : Cs} {N : Addr → Prop} (o : Ok K F H σ ε) {vs : List V} {os : List Opd} (h : OpsOk K F H σ N vs os) : ∀ {ds : List D}, bors ε os = some ds → RepBs K F H vs ds := by
  induction h with
  | nil => intro ds e; cases e; exact .nil
  | pl h _ ih =>
    rename_i i v vs os _
    intro ds e
    unfold bors at e
    cases e1 : bor ε (.pl i) with
    | none => simp [e1] at e
    | some d =>
      cases e2 : bors ε os with
      | none => simp [e1, e2] at e
      | some ds2 =>
        simp [e1, e2] at e
        subst e
        refine .cons ?_ (ih e2)
        unfold bor at e1
        cases e3 : ε[i]? with
        | none => simp [e3] at e1
        | some c =>
          cases c with
          | no => simp [e3] at e1
          | sh d' =>
            simp [e3] at e1
            subst e1
            obtain ⟨w, h1, h2⟩ := o.sh i _ e3
            rw [h] at h1
            cases h1
            exact .inl h2
          | ls es =>
            simp [e3] at e1
            subst e1
            obtain ⟨a, ws, h1, h2, _, h4⟩ := o.ls i _ e3
            rw [h] at h1
            cases h1
            exact .inr ⟨a, ws, es, rfl, rfl, h2, h4⟩
  | sh h _ ih =>
    rename_i d v vs os _
    intro ds e
    unfold bors at e
    cases e2 : bors ε os with
    | none => simp [bor, e2] at e
    | some ds2 =>
      simp [bor, e2] at e
      subst e
      exact .cons (.inl h) (ih e2)
  | ls g1 g2 g3 g4 g5 _ ih =>
    rename_i a ws es vs os _
    intro ds e
    unfold bors at e
    cases e2 : bors ε os with
    | none => simp [bor, e2] at e
    | some ds2 =>
      simp [bor, e2] at e
      subst e
      exact .cons (.inr ⟨a, ws, es, rfl, rfl, g1, g3⟩) (ih e2)

/-- what a pure operation leaves -/
structure Grow (K : PySem.W.Frag) (F H F' H' : Hp) (v : V) (c : C) : Prop where
  fm : Same F F'
  hm : Same H H'
  sub : Same F' H'
  ff : ∀ b, F b = none → F' b ≠ none → H b = none
  rep : RepC K F' H' v c
  new : ∀ (ds : List D) (a : Addr), c = .ls ds → v = .ref a → H a = none
/-- an operation by its table: f tells its answer, r is what the hand layer asks -/
def FnB (K : PySem.W.Frag) (f : List D → Option C) (r : List V → Hp → VK → Prop) : Prop :=
  ∀ F H vs ds c Q, Same F H → RepBs K F H vs ds → f ds = some c → (∀ v F' H', Grow K F H F' H' v c → Q v H') → r vs H Q
theorem Grow.stp {K : PySem.W.Frag} {F H F' H' : Hp} {v : V} {c : C} (g : Grow K F H F' H' v c) {σ : St} {ε : Cs} (o : Ok K F H σ ε) : Stp K F H σ ε F' H' ε := by
  have nf : ∀ a, H a ≠ none → F a = none → F' a = none := fun a h1 h2 => by
    by_cases q : F' a = none
    · exact q
    · exact absurd (g.ff a h2 q) h1
  refine ⟨⟨g.sub, o.len, fun i d h => ?_, fun i ds h => ?_, o.inj⟩, ⟨g.fm, fun b o h _ => g.hm b o h, fun b h h' => .inl (g.ff b h h'), fun b h => Same.ne g.hm h, fun b h => .inl h⟩, fun _ => Go.refl _, fun i ds a h _ => .inl ⟨ds, h⟩⟩
  · obtain ⟨w, h1, h2⟩ := o.sh i d h
    exact ⟨w, h1, Rep.mono g.fm _ _ h2⟩
  · obtain ⟨a, vs, h1, h2, h3, h4⟩ := o.ls i ds h
    exact ⟨a, vs, h1, g.hm _ _ h2, nf a (by rw [h2]; exact fun z => nomatch z) h3, Reps.mono g.fm _ _ h4⟩
def mOp (f : List D → Option C) (ma : AM) : EM := fun ε => do
  let (os, ε1) ← ma ε
  let ds ← bors ε1 os
  let c ← f ds
  some (c, ε1)
theorem op_sem {K : PySem.W.Frag} {f : List D → Option C} {r : List V → Hp → VK → Prop} (hf : FnB K f r) {ma : AM} {σ : St} {H : Hp} {Q : VK} (h : tE K (mOp f ma) σ H Q) : tA K ma σ H (fun vs H' => r vs H' Q) := by
  obtain ⟨F, ε, c, ε', o, e, q⟩ := h
  unfold mOp at e
  cases e1 : ma ε with
  | none => simp [e1] at e
  | some p =>
    obtain ⟨os, ε1⟩ := p
    cases e2 : bors ε1 os with
    | none => simp [e1, e2] at e
    | some ds =>
      cases e3 : f ds with
      | none => simp [e1, e2, e3] at e
      | some c' =>
        simp [e1, e2, e3] at e
        obtain ⟨rfl, rfl⟩ := e
        refine ⟨F, ε, os, ε1, o, e1, fun vs F1 H1 s1 r1 => ?_⟩
        refine hf F1 H1 vs ds c' Q s1.ok.sub (bors_ok s1.ok r1 e2) e3 fun v F2 H2 g => ?_
        refine q v F2 H2 ⟨s1.trans (g.stp s1.ok), g.rep, fun es a h1 h2 => ?_⟩
        have := g.new es a h1 h2
        by_cases w : H a = none
        · exact w
        · exact absurd this (s1.fr.live a w)
end L2.M

/-! Expressions: names, constants, displays, operations, calls. -/
namespace L2.M
open PySem PySem.Spec PyProof.Rows

section
variable {X : Cx} {e : Expr} {t t' : TE}
theorem _root_.L2.PE.weak (h : PE X e t) (w : ∀ σ H Q, t' σ H Q → t σ H Q) : PE X e t' := ⟨fun pins s σ H Q I q => h.run pins s σ H Q I (w σ H Q q)⟩
theorem _root_.L2.PT.weak {t t' : TT} (h : PT X e t) (w : ∀ σ H Q, t' σ H Q → t σ H Q) : PT X e t' := ⟨fun pins s σ H Q I q => h.run pins s σ H Q I (w σ H Q q)⟩
theorem _root_.L2.PW.weak {t t' : TT} (h : PW X e t) (w : ∀ σ H Q, t' σ H Q → t σ H Q) : PW X e t' := ⟨fun wh pins s σ H Q I q => h.run wh pins s σ H Q I (w σ H Q q)⟩
theorem _root_.L2.PA.weak {es : List Expr} {t t' : TA} (h : PA X es t) (w : ∀ σ H Q, t' σ H Q → t σ H Q) : PA X es t' := ⟨fun pos pins s σ H Q I q => h.run pos pins s σ H Q I (w σ H Q q)⟩
end

theorem tO_mono {K : PySem.W.Frag} {m : OM} {σ : St} {H : Hp} {Q Q' : VK} (h : tO K m σ H Q) (w : ∀ v H', Q v H' → Q' v H') : tO K m σ H Q' := by
  obtain ⟨F, ε, o, ε', a, b, c⟩ := h
  exact ⟨F, ε, o, ε', a, b, fun v F' H' s r => w _ _ (c v F' H' s r)⟩
theorem tA_mono {K : PySem.W.Frag} {m : AM} {σ : St} {H : Hp} {Q Q' : List V → Hp → Prop} (h : tA K m σ H Q) (w : ∀ v H', Q v H' → Q' v H') : tA K m σ H Q' := by
  obtain ⟨F, ε, o, ε', a, b, c⟩ := h
  exact ⟨F, ε, o, ε', a, b, fun v F' H' s r => w _ _ (c v F' H' s r)⟩
theorem tE_mono {K : PySem.W.Frag} {m : EM} {σ : St} {H : Hp} {Q Q' : VK} (h : tE K m σ H Q) (w : ∀ v H', Q v H' → Q' v H') : tE K m σ H Q' := by
  obtain ⟨F, ε, o, ε', a, b, c⟩ := h
  exact ⟨F, ε, o, ε', a, b, fun v F' H' s => w _ _ (c v F' H' s)⟩

/-! ### constants and names -/
def mK (d : D) : EM := fun ε => some (.sh d, ε)
theorem tE_k {K : PySem.W.Frag} {d : D} {v : V} (r : ∀ F, Rep K F v d) {σ : St} {H : Hp} {Q : VK} (h : tE K (mK d) σ H Q) : tC v σ H Q := by
  obtain ⟨F, ε, c, ε', o, e, q⟩ := h
  cases e
  exact q v F H ⟨Stp.refl o, r F, fun _ _ z => nomatch z⟩
section
variable {X : Cx} {pos : Pos} {j : Nat}
theorem me_int {i : Int} : PE X (.Constant (.int i) j pos) (tE X.K (mK (.int i))) := pe_int.weak fun _ _ _ => tE_k (d := .int i) (v := .int i) fun _ => by simp [Rep]
theorem me_str {i : Str} : PE X (.Constant (.str i) j pos) (tE X.K (mK (.str i))) := pe_str.weak fun _ _ _ => tE_k (d := .str i) (v := .str i) fun _ => by simp [Rep]
theorem me_bl {i : Bool} : PE X (.Constant (.bool i) j pos) (tE X.K (mK (.bool i))) := pe_bl.weak fun _ _ _ => tE_k (d := .bool i) (v := .bl i) fun _ => by simp [Rep]
theorem me_non : PE X (.Constant .none j pos) (tE X.K (mK .none)) := pe_non.weak fun _ _ _ => tE_k (d := .none) (v := .non) fun _ => by simp [Rep]
end

def mPl (i : Nat) : OM := fun ε => match ε[i]? with
  | some (.sh _) => some (.pl i, ε)
  | some (.ls _) => some (.pl i, ε)
  | _ => none
theorem mPl_eq {i : Nat} {ε ε' : Cs} {o : Opd} (h : mPl i ε = some (o, ε')) : o = .pl i ∧ ε' = ε ∧ ((∃ d, ε[i]? = some (.sh d)) ∨ ∃ ds, ε[i]? = some (.ls ds)) := by
  unfold mPl at h
  split at h
  · cases h; exact ⟨rfl, rfl, .inl ⟨_, by assumption⟩⟩
  · cases h; exact ⟨rfl, rfl, .inr ⟨_, by assumption⟩⟩
  · cases h
theorem Ok.val {K : PySem.W.Frag} {F H : Hp} {σ : St} {ε : Cs} (o : Ok K F H σ ε) {i : Nat} (h : (∃ d, ε[i]? = some (.sh d)) ∨ ∃ ds, ε[i]? = some (.ls ds)) : ∃ v, σ[i]? = some (some v) := by
  rcases h with ⟨d, h⟩ | ⟨ds, h⟩
  · obtain ⟨v, e, _⟩ := o.sh i d h
    exact ⟨v, e⟩
  · obtain ⟨a, _, e, _⟩ := o.ls i ds h
    exact ⟨_, e⟩
theorem mo_name {X : Cx} {i : Nat} {x : Str} {pos : Pos} (h : PE X (.Name x pos) (tVar i)) : PE X (.Name x pos) (tO X.K (mPl i)) := h.weak fun σ H Q q => by
  obtain ⟨F, ε, o, ε', ok, e, q⟩ := q
  obtain ⟨rfl, rfl, hc⟩ := mPl_eq e
  obtain ⟨v, hv⟩ := ok.val hc
  exact ⟨v, hv, q v F H (Stp.refl ok) (.pl hv .nil)⟩

/-- a cell frozen: F grows by its address -/
theorem Ok.freeze {K : PySem.W.Frag} {F H : Hp} {σ : St} {ε : Cs} (o : Ok K F H σ ε) {i : Nat} {ds : List D} (h : ε[i]? = some (.ls ds)) :
    ∃ a F', σ[i]? = some (some (.ref a)) ∧ Own σ ε a ∧ Stp K F H σ ε F' H (ε.set i (.sh (.list ds))) ∧ Rep K F' (.ref a) (.list ds) ∧ (∀ b, b ≠ a → F' b = F b) := by
  obtain ⟨a, vs, h1, h2, h3, h4⟩ := o.ls i ds h
  have hi : i < ε.length := (List.getElem?_eq_some_iff.mp h).1
  have fm : Same F (upd F a (.lst vs)) := fun b x e => by rw [upd_ne (ne_of_none e h3)]; exact e
  have r : Rep K (upd F a (.lst vs)) (.ref a) (.list ds) := ⟨a, vs, rfl, .inl (.inl upd_same), Reps.mono fm _ _ h4⟩
  have ow : Own σ ε a := ⟨i, ds, h, h1⟩
  refine ⟨a, upd F a (.lst vs), h1, ow, ⟨⟨fun b x e => ?_, ?_, fun j d hj => ?_, fun j es hj => ?_, fun j k b es fs hj hk => ?_⟩, ⟨fm, fun _ _ e _ => e, fun b e1 e2 => ?_, fun _ e => e, fun b hb => ?_⟩, fun j => ?_, fun j es b hj hb => ?_⟩, r, fun b hb => upd_ne hb⟩
  · by_cases hb : b = a
    · subst hb; rw [upd_same] at e; cases e; exact h2
    · rw [upd_ne hb] at e; exact o.sub b x e
  · rw [List.length_set]; exact o.len
  · by_cases hji : j = i
    · subst hji
      rw [List.getElem?_set_self hi] at hj
      cases hj
      exact ⟨_, h1, r⟩
    · rw [List.getElem?_set_ne (Ne.symm hji)] at hj
      obtain ⟨w, e1, e2⟩ := o.sh j d hj
      exact ⟨w, e1, Rep.mono fm _ _ e2⟩
  · by_cases hji : j = i
    · subst hji
      rw [List.getElem?_set_self hi] at hj
      cases hj
    · rw [List.getElem?_set_ne (Ne.symm hji)] at hj
      obtain ⟨b, ws, e1, e2, e3, e4⟩ := o.ls j es hj
      refine ⟨b, ws, e1, e2, ?_, Reps.mono fm _ _ e4⟩
      rw [upd_ne]
      · exact e3
      · rintro rfl
        exact hji (o.inj j i _ es ds hj h e1 h1)
  · by_cases hji : j = i
    · subst hji
      rw [List.getElem?_set_self hi] at hj
      cases hj
    · by_cases hki : k = i
      · subst hki
        rw [List.getElem?_set_self hi] at hk
        cases hk
      · rw [List.getElem?_set_ne (Ne.symm hji)] at hj
        rw [List.getElem?_set_ne (Ne.symm hki)] at hk
        exact o.inj j k b es fs hj hk
  · by_cases hb : b = a
    · subst hb; exact .inr ow
    · rw [upd_ne hb] at e2; exact absurd e1 e2
  · obtain ⟨j, es, hj, hb⟩ := hb
    by_cases hji : j = i
    · subst hji
      rw [List.getElem?_set_self hi] at hj
      cases hj
    · rw [List.getElem?_set_ne (Ne.symm hji)] at hj
      exact .inl ⟨j, es, hj, hb⟩
  · by_cases hji : j = i
    · subst hji
      rw [List.getElem?_set_self hi]
      exact .inr ⟨ds, h, .inr ⟨_, rfl⟩⟩
    · rw [List.getElem?_set_ne (Ne.symm hji)]
      exact .inl rfl
  · by_cases hji : j = i
    · subst hji
      rw [h1] at hb
      cases hb
      exact .inr (by rw [upd_same]; exact fun z => nomatch z)
    · rw [List.getElem?_set_ne (Ne.symm hji)]
      exact .inl ⟨es, hj⟩

/-- a name as a value: an owned list is frozen -/
def mVar (i : Nat) : EM := fun ε => match ε[i]? with
  | some (.sh d) => some (.sh d, ε)
  | some (.ls ds) => some (.sh (.list ds), ε.set i (.sh (.list ds)))
  | _ => none
theorem me_name {X : Cx} {i : Nat} {x : Str} {pos : Pos} (h : PE X (.Name x pos) (tVar i)) : PE X (.Name x pos) (tE X.K (mVar i)) := h.weak fun σ H Q q => by
  obtain ⟨F, ε, c, ε', ok, e, q⟩ := q
  unfold mVar at e
  split at e
  · rename_i d hd
    cases e
    obtain ⟨v, h1, h2⟩ := ok.sh i d hd
    exact ⟨v, h1, q v F H ⟨Stp.refl ok, h2, fun _ _ z => nomatch z⟩⟩
  · rename_i ds hd
    cases e
    obtain ⟨a, F', h1, _, s, r, _⟩ := ok.freeze hd
    exact ⟨_, h1, q _ F' H ⟨s, r, fun _ _ z => nomatch z⟩⟩
  · cases e

/-! ### an expression as an operand -/
def mTm (m : EM) : OM := fun ε => do
  let (c, ε1) ← m ε
  some (.tm c, ε1)
theorem tO_tm {K : PySem.W.Frag} {m : EM} {σ : St} {H : Hp} {Q : VK} (h : tO K (mTm m) σ H Q) : tE K m σ H Q := by
  obtain ⟨F, ε, o, ε', ok, e, q⟩ := h
  unfold mTm at e
  cases e1 : m ε with
  | none => simp [e1] at e
  | some p =>
    obtain ⟨c, ε1⟩ := p
    simp [e1] at e
    obtain ⟨rfl, rfl⟩ := e
    refine ⟨F, ε, c, ε1, ok, e1, fun v F' H' p => q v F' H' p.st ?_⟩
    cases c with
    | no => exact p.rep.elim
    | sh d => exact .sh p.rep .nil
    | ls ds =>
      obtain ⟨a, ws, rfl, h2, h3, h4⟩ := p.rep
      exact .ls h2 h3 h4 (p.new ds a rfl rfl) (fun j es z => by simp at z) .nil
theorem mo_tm {X : Cx} {e : Expr} {m : EM} (h : PE X e (tE X.K m)) : PE X e (tO X.K (mTm m)) := h.weak fun _ _ _ => tO_tm

/-! ### operands frozen: what a display, a call takes in -/
def fzO : Opd → Cs → Option (D × Cs)
  | .pl i, ε => match ε[i]? with
    | some (.sh d) => some (d, ε)
    | some (.ls ds) => some (.list ds, ε.set i (.sh (.list ds)))
    | _ => none
  | .tm (.sh d), ε => some (d, ε)
  | .tm (.ls ds), ε => some (.list ds, ε)
  | .tm .no, _ => none
def fzs : List Opd → Cs → Option (List D × Cs)
  | [], ε => some ([], ε)
  | o :: os, ε => do
    let (d, ε1) ← fzO o ε
    let (ds, ε2) ← fzs os ε1
    some (d :: ds, ε2)
/-- a temporary that was laid since the start is frozen -/
theorem Stp.freezeT {K : PySem.W.Frag} {F0 H0 F H : Hp} {σ : St} {ε0 ε : Cs} (o0 : Ok K F0 H0 σ ε0) (s : Stp K F0 H0 σ ε0 F H ε) {a : Addr} {ws : List V} {ds : List D} (h1 : H a = some (.lst ws)) (h2 : F a = none) (h3 : Reps K F ws ds) (h4 : H0 a = none) :
    Stp K F0 H0 σ ε0 (upd F a (.lst ws)) H ε ∧ Rep K (upd F a (.lst ws)) (.ref a) (.list ds) ∧ Same F (upd F a (.lst ws)) := by
  have fm : Same F (upd F a (.lst ws)) := fun b x e => by rw [upd_ne (ne_of_none e h2)]; exact e
  have no : ¬ Own σ ε a := fun z => o0.not_own h4 (s.ow z)
  refine ⟨⟨⟨fun b x e => ?_, s.ok.len, fun j d hj => ?_, fun j es hj => ?_, s.ok.inj⟩, ⟨s.fr.fm.trans fm, s.fr.keep, fun b e1 e2 => ?_, s.fr.live, s.fr.own⟩, s.go, fun j es b hj hb => ?_⟩, ⟨a, ws, rfl, .inl (.inl upd_same), Reps.mono fm _ _ h3⟩, fm⟩
  · by_cases hb : b = a
    · subst hb; rw [upd_same] at e; cases e; exact h1
    · rw [upd_ne hb] at e; exact s.ok.sub b x e
  · obtain ⟨w, e1, e2⟩ := s.ok.sh j d hj
    exact ⟨w, e1, Rep.mono fm _ _ e2⟩
  · obtain ⟨b, us, e1, e2, e3, e4⟩ := s.ok.ls j es hj
    refine ⟨b, us, e1, e2, ?_, Reps.mono fm _ _ e4⟩
    rw [upd_ne]
    · exact e3
    · rintro rfl
      exact no ⟨j, es, hj, e1⟩
  · by_cases hb : b = a
    · subst hb; exact .inl h4
    · rw [upd_ne hb] at e2; exact s.fr.ff b e1 e2
  · rcases s.fz j es b hj hb with z | z
    · exact .inl z
    · exact .inr (Same.ne fm z)
theorem fzs_ok {K : PySem.W.Frag} {F0 H0 H : Hp} {σ : St} {ε0 : Cs} (o0 : Ok K F0 H0 σ ε0) : ∀ {os : List Opd} {vs : List V} {F : Hp} {ε ε' : Cs} {ds : List D}, Stp K F0 H0 σ ε0 F H ε → OpsOk K F H σ (fun a => H0 a = none) vs os → fzs os ε = some (ds, ε') →
    ∃ F', Stp K F0 H0 σ ε0 F' H ε' ∧ Reps K F' vs ds ∧ Same F F'
  | [], vs, F, ε, ε', ds, s, h, e => by
    cases h
    cases e
    exact ⟨F, s, rfl, Same.refl F⟩
  | o :: os, vs, F, ε, ε', ds, s, h, e => by
    unfold fzs at e
    cases e1 : fzO o ε with
    | none => simp [e1] at e
    | some p =>
      obtain ⟨d, ε1⟩ := p
      cases e2 : fzs os ε1 with
      | none => simp [e1, e2] at e
      | some p2 =>
        obtain ⟨ds2, ε2⟩ := p2
        simp [e1, e2] at e
        obtain ⟨rfl, rfl⟩ := e
        -- the rest keeps its reading where F grows at one address that no later temporary has
        have grow : ∀ {F1 : Hp} {vs : List V} {os : List Opd}, Same F F1 → OpsOk K F H σ (fun a => H0 a = none) vs os → (∀ (j : Nat) (es : List D) (b : Addr), os[j]? = some (.tm (.ls es)) → vs[j]? = some (.ref b) → F1 b = none) → OpsOk K F1 H σ (fun a => H0 a = none) vs os := by
          intro F1 vs os fm h
          induction h with
          | nil => intro _; exact .nil
          | pl h _ ih => intro z; exact .pl h (ih fun j es b h1 h2 => z (j + 1) es b (by simpa using h1) (by simpa using h2))
          | sh h _ ih => intro z; exact .sh (Rep.mono fm _ _ h) (ih fun j es b h1 h2 => z (j + 1) es b (by simpa using h1) (by simpa using h2))
          | ls g1 g2 g3 g4 g5 _ ih => intro z; exact .ls g1 (z 0 _ _ rfl rfl) (Reps.mono fm _ _ g3) g4 g5 (ih fun j es b h1 h2 => z (j + 1) es b (by simpa using h1) (by simpa using h2))
        cases h with
        | @pl i v vs _ hv hr =>
          unfold fzO at e1
          simp only at e1
          split at e1
          · rename_i d' hd
            cases e1
            obtain ⟨F', s', r', fm⟩ := fzs_ok o0 s hr e2
            obtain ⟨w, h1, h2⟩ := s.ok.sh i d hd
            rw [hv] at h1
            cases h1
            exact ⟨F', s', ⟨v, vs, rfl, Rep.mono fm _ _ h2, r'⟩, fm⟩
          · rename_i es hd
            cases e1
            obtain ⟨a, F1, h1, ow, s1, r1, nF⟩ := s.ok.freeze hd
            rw [hv] at h1
            cases h1
            have hr1 := grow s1.fr.fm hr fun j es b g1 g2 => by
              obtain ⟨n1, _, n3⟩ := hr.tm_ls g1 g2
              rw [nF]
              · exact n3
              · rintro rfl
                exact o0.not_own n1 (s.ow ow)
            obtain ⟨F', s', r', fm⟩ := fzs_ok o0 (s.trans s1) hr1 e2
            exact ⟨F', s', ⟨_, vs, rfl, Rep.mono fm _ _ r1, r'⟩, s1.fr.fm.trans fm⟩
          · cases e1
        | @sh d' v vs _ hv hr =>
          simp [fzO] at e1
          obtain ⟨rfl, rfl⟩ := e1
          obtain ⟨F', s', r', fm⟩ := fzs_ok o0 s hr e2
          exact ⟨F', s', ⟨v, vs, rfl, Rep.mono fm _ _ hv, r'⟩, fm⟩
        | @ls a ws es vs _ g1 g2 g3 g4 g5 hr =>
          simp [fzO] at e1
          obtain ⟨rfl, rfl⟩ := e1
          obtain ⟨s1, r1, fm1⟩ := s.freezeT o0 g1 g2 g3 g4
          have hr1 := grow fm1 hr fun j es b h1 h2 => by
            obtain ⟨n1, _, n3⟩ := hr.tm_ls h1 h2
            rw [upd_ne]
            · exact n3
            · rintro rfl
              exact g5 j es h1 h2
          obtain ⟨F', s', r', fm⟩ := fzs_ok o0 s1 hr1 e2
          exact ⟨F', s', ⟨_, vs, rfl, Rep.mono fm _ _ r1, r'⟩, fm1.trans fm⟩

/-! ### displays -/
def mTup (ma : AM) : EM := fun ε => do
  let (os, ε1) ← ma ε
  let (ds, ε2) ← fzs os ε1
  if ds.length ≤ sizeLine then some (.sh (.tuple ds), ε2) else none
def mLst (ma : AM) : EM := fun ε => do
  let (os, ε1) ← ma ε
  let (ds, ε2) ← fzs os ε1
  if ds.length ≤ sizeLine then some (.ls ds, ε2) else none
/-- a new object, laid and frozen -/
theorem Stp.laid {K : PySem.W.Frag} {F0 H0 F H : Hp} {σ : St} {ε0 ε : Cs} (s : Stp K F0 H0 σ ε0 F H ε) {p : Addr} {u : HO} (hp : H p = none) :
    Stp K F0 H0 σ ε0 (upd F p u) (upd H p u) ε ∧ Same F (upd F p u) := by
  have fp : F p = none := s.ok.sub.free hp
  have h0 : H0 p = none := by
    by_cases w : H0 p = none
    · exact w
    · exact absurd hp (s.fr.live p w)
  have fm : Same F (upd F p u) := fun b x e => by rw [upd_ne (ne_of_none e fp)]; exact e
  have hm : Same H (upd H p u) := fun b x e => by rw [upd_ne (ne_of_none e hp)]; exact e
  refine ⟨⟨⟨fun b x e => ?_, s.ok.len, fun j d hj => ?_, fun j es hj => ?_, s.ok.inj⟩, ⟨s.fr.fm.trans fm, fun b o e n => hm _ _ (s.fr.keep b o e n), fun b e1 e2 => ?_, fun b e => Same.ne hm (s.fr.live b e), s.fr.own⟩, s.go, fun j es b hj hb => ?_⟩, fm⟩
  · by_cases hb : b = p
    · subst hb; rw [upd_same] at e ⊢; exact e
    · rw [upd_ne hb] at e ⊢; exact s.ok.sub b x e
  · obtain ⟨w, e1, e2⟩ := s.ok.sh j d hj
    exact ⟨w, e1, Rep.mono fm _ _ e2⟩
  · obtain ⟨b, us, e1, e2, e3, e4⟩ := s.ok.ls j es hj
    refine ⟨b, us, e1, hm _ _ e2, ?_, Reps.mono fm _ _ e4⟩
    rw [upd_ne (ne_of_none e2 hp)]
    exact e3
  · by_cases hb : b = p
    · subst hb; exact .inl h0
    · rw [upd_ne hb] at e2; exact s.fr.ff b e1 e2
  · rcases s.fz j es b hj hb with z | z
    · exact .inl z
    · exact .inr (Same.ne fm z)
/-- a new list, not frozen -/
theorem Stp.laidL {K : PySem.W.Frag} {F0 H0 F H : Hp} {σ : St} {ε0 ε : Cs} (s : Stp K F0 H0 σ ε0 F H ε) {p : Addr} {u : HO} (hp : H p = none) :
    Stp K F0 H0 σ ε0 F (upd H p u) ε ∧ F p = none ∧ H0 p = none := by
  have fp : F p = none := s.ok.sub.free hp
  have h0 : H0 p = none := by
    by_cases w : H0 p = none
    · exact w
    · exact absurd hp (s.fr.live p w)
  have hm : Same H (upd H p u) := fun b x e => by rw [upd_ne (ne_of_none e hp)]; exact e
  refine ⟨⟨⟨fun b x e => hm _ _ (s.ok.sub b x e), s.ok.len, s.ok.sh, fun j es hj => ?_, s.ok.inj⟩, ⟨s.fr.fm, fun b o e n => hm _ _ (s.fr.keep b o e n), s.fr.ff, fun b e => Same.ne hm (s.fr.live b e), s.fr.own⟩, s.go, s.fz⟩, fp, h0⟩
  obtain ⟨b, us, e1, e2, e3, e4⟩ := s.ok.ls j es hj
  exact ⟨b, us, e1, hm _ _ e2, e3, e4⟩
theorem tE_tup {K : PySem.W.Frag} {ma : AM} {σ : St} {H : Hp} {Q : VK} (h : tE K (mTup ma) σ H Q) : tTup (tA K ma) σ H Q := by
  obtain ⟨F, ε, c, ε', ok, e, q⟩ := h
  unfold mTup at e
  cases e1 : ma ε with
  | none => simp [e1] at e
  | some p =>
    obtain ⟨os, ε1⟩ := p
    cases e2 : fzs os ε1 with
    | none => simp [e1, e2] at e
    | some p2 =>
      obtain ⟨ds, ε2⟩ := p2
      simp [e1, e2] at e
      obtain ⟨hl, rfl, rfl⟩ := e
      refine ⟨F, ε, os, ε1, ok, e1, fun vs F1 H1 s1 r1 => ?_⟩
      obtain ⟨F2, s2, r2, fm⟩ := fzs_ok ok s1 r1 e2
      refine ⟨by rw [r2.length]; exact hl, fun p hp => ?_⟩
      obtain ⟨s3, fm3⟩ := s2.laid (u := .tup vs) hp
      exact q _ _ _ ⟨s3, ⟨p, vs, rfl, .inl (.inl upd_same), Reps.mono fm3 _ _ r2⟩, fun _ _ z => nomatch z⟩
theorem tE_lst {K : PySem.W.Frag} {ma : AM} {σ : St} {H : Hp} {Q : VK} (h : tE K (mLst ma) σ H Q) : tLst (tA K ma) σ H Q := by
  obtain ⟨F, ε, c, ε', ok, e, q⟩ := h
  unfold mLst at e
  cases e1 : ma ε with
  | none => simp [e1] at e
  | some p =>
    obtain ⟨os, ε1⟩ := p
    cases e2 : fzs os ε1 with
    | none => simp [e1, e2] at e
    | some p2 =>
      obtain ⟨ds, ε2⟩ := p2
      simp [e1, e2] at e
      obtain ⟨hl, rfl, rfl⟩ := e
      refine ⟨F, ε, os, ε1, ok, e1, fun vs F1 H1 s1 r1 => ?_⟩
      obtain ⟨F2, s2, r2, fm⟩ := fzs_ok ok s1 r1 e2
      refine ⟨by rw [r2.length]; exact hl, fun p hp => ?_⟩
      obtain ⟨s3, h3, h4⟩ := s2.laidL (u := .lst vs) hp
      exact q _ _ _ ⟨s3, ⟨p, vs, rfl, upd_same, h3, r2⟩, fun es a _ z => by cases z; exact h4⟩
section
variable {X : Cx} {es : List Expr} {m : AM} {pos : Pos} {k : Nat}
theorem me_tup (h : PA X es (tA X.K m)) : PE X (.Tuple es k pos) (tE X.K (mTup m)) := (pe_tup h).weak fun _ _ _ => tE_tup
theorem me_lst (h : PA X es (tA X.K m)) : PE X (.List es pos) (tE X.K (mLst m)) := (pe_lst h).weak fun _ _ _ => tE_lst
theorem ma_nil : PA X [] (tA X.K mNil) := pa_nil.weak fun _ _ _ => tA_nil
end

/-! ### operations of one, two operands -/
def mU (f : D → Option C) (a : OM) : EM := fun ε => do
  let (o1, ε1) ← a ε
  let d1 ← bor ε1 o1
  let c ← f d1
  some (c, ε1)
def mB (f : D → D → Option C) (a b : OM) : EM := fun ε => do
  let (o1, ε1) ← a ε
  let (o2, ε2) ← b ε1
  let d1 ← bor ε2 o1
  let d2 ← bor ε2 o2
  let c ← f d1 d2
  some (c, ε2)
def Fn1 (K : PySem.W.Frag) (f : D → Option C) (r : V → Hp → VK → Prop) : Prop :=
  ∀ F H x d c Q, Same F H → RepB K F H x d → f d = some c → (∀ v F' H', Grow K F H F' H' v c → Q v H') → r x H Q
def Fn2 (K : PySem.W.Frag) (f : D → D → Option C) (r : V → V → Hp → VK → Prop) : Prop :=
  ∀ F H x y d e c Q, Same F H → RepB K F H x d → RepB K F H y e → f d e = some c → (∀ v F' H', Grow K F H F' H' v c → Q v H') → r x y H Q
def lf1 (f : D → Option C) : List D → Option C | [a] => f a | _ => none
def lf2 (f : D → D → Option C) : List D → Option C | [a, b] => f a b | _ => none
theorem mU_eq (f : D → Option C) (a : OM) : mU f a = mOp (lf1 f) (mCons a mNil) := by
  funext ε
  unfold mU mOp mCons mNil
  cases a ε with
  | none => rfl
  | some p =>
    obtain ⟨o, ε1⟩ := p
    simp [bors]
    cases bor ε1 o <;> rfl
theorem mB_eq (f : D → D → Option C) (a b : OM) : mB f a b = mOp (lf2 f) (mCons a (mCons b mNil)) := by
  funext ε
  unfold mB mOp mCons mNil
  cases a ε with
  | none => rfl
  | some p =>
    obtain ⟨o, ε1⟩ := p
    cases hb : b ε1 with
    | none => simp [hb]
    | some p2 =>
      obtain ⟨o2, ε2⟩ := p2
      simp [hb, bors]
      cases bor ε2 o <;> simp
      cases bor ε2 o2 <;> rfl
theorem RepBs.one {K : PySem.W.Frag} {F H : Hp} {vs : List V} {d : D} (h : RepBs K F H vs [d]) : ∃ x, vs = [x] ∧ RepB K F H x d := by
  cases h with
  | cons h t => cases t; exact ⟨_, rfl, h⟩
theorem RepBs.two {K : PySem.W.Frag} {F H : Hp} {vs : List V} {d e : D} (h : RepBs K F H vs [d, e]) : ∃ x y, vs = [x, y] ∧ RepB K F H x d ∧ RepB K F H y e := by
  cases h with
  | cons h t =>
    obtain ⟨y, rfl, h2⟩ := t.one
    exact ⟨_, y, rfl, h, h2⟩
theorem tE_u {K : PySem.W.Frag} {f : D → Option C} {r : V → Hp → VK → Prop} (hf : Fn1 K f r) {a : OM} {σ : St} {H : Hp} {Q : VK} (h : tE K (mU f a) σ H Q) : tO K a σ H fun x H1 => r x H1 Q := by
  rw [mU_eq] at h
  have hB : FnB K (lf1 f) (fun vs H Q => ∃ x, vs = [x] ∧ r x H Q) := by
    intro F H vs ds c Q s hr e q
    match ds, e with
    | [d], e =>
      obtain ⟨x, rfl, h1⟩ := hr.one
      exact ⟨x, rfl, hf F H x d c Q s h1 e q⟩
  have := tA_cons (op_sem hB h)
  refine tO_mono this fun v H' h2 => ?_
  have h3 := tA_nil h2
  obtain ⟨x, e, h4⟩ := h3
  cases e
  exact h4
theorem tE_b {K : PySem.W.Frag} {f : D → D → Option C} {r : R2} (hf : Fn2 K f r) {a b : OM} {σ : St} {H : Hp} {Q : VK} (h : tE K (mB f a b) σ H Q) : tOp r (tO K a) (tO K b) σ H Q := by
  rw [mB_eq] at h
  have hB : FnB K (lf2 f) (fun vs H Q => ∃ x y, vs = [x, y] ∧ r x y H Q) := by
    intro F H vs ds c Q s hr e q
    match ds, e with
    | [d, d2], e =>
      obtain ⟨x, y, rfl, h1, h2⟩ := hr.two
      exact ⟨x, y, rfl, hf F H x y d d2 c Q s h1 h2 e q⟩
  have := tA_cons (op_sem hB h)
  refine tO_mono this fun v H' h2 => ?_
  refine tO_mono (tA_cons h2) fun w H'' h3 => ?_
  have h4 := tA_nil h3
  obtain ⟨x, y, e, h5⟩ := h4
  cases e
  exact h5
section
variable {X : Cx} {a b : Expr} {ma mb : OM} {pos : Pos}
theorem me_bin {op : Operator} {f : D → D → Option C} {r : R2} (ho : OpR X (binaryOp op) r) (hf : Fn2 X.K f r) (ha : PE X a (tO X.K ma)) (hb : PE X b (tO X.K mb)) : PE X (.BinOp a op b pos) (tE X.K (mB f ma mb)) :=
  (pe_op ho ha hb).weak fun _ _ _ => tE_b hf
theorem me_un {op : UnaryOp} {f : D → Option C} {r : V → Hp → VK → Prop} (ho : UnR X (unaryOp op) r) (hf : Fn1 X.K f r) (ha : PE X a (tO X.K ma)) : PE X (.UnaryOp op a pos) (tE X.K (mU f ma)) :=
  (pe_un ho ha).weak fun _ _ _ => tE_u hf
theorem me_cmp {op : CmpOp} {f : D → D → Option C} {r : R2} (ho : OpR X (compareOp op) r) (hf : Fn2 X.K f r) (ha : PE X a (tO X.K ma)) (hb : PE X b (tO X.K mb)) (hm : behindInMarks op b = false) : PE X (.Compare a [op] [b] pos) (tE X.K (mB f ma mb)) :=
  (pe_cmpR ho ha hb hm).weak fun _ _ _ => tE_b hf
theorem me_ix {f : D → D → Option C} {r : R2} (ho : IxR X r) (hf : Fn2 X.K f r) (ha : PE X a (tO X.K ma)) (hb : PE X b (tO X.K mb)) (hs : PlainIx b) : PE X (.Subscript a b pos) (tE X.K (mB f ma mb)) :=
  (pe_ix ho ha hb hs).weak fun _ _ _ => tE_b hf
end

/-! ### built-in functions, by their names -/
section
variable {X : Cx} {e : Expr} {es : List Expr} {m : AM} {x : Str} {p pos : Pos} {id T : String} {r : List V → Hp → VK → Prop} {f : List D → Option C}
theorem me_callB (hc : CallR X (.builtin id) r) (hf : FnB X.K f r) (hg : Gl X x) (hm : X.mg x = none) (hv : bootBuiltins x = some (.builtin id)) (ha : PA X (e :: es) (tA X.K m)) (hn : x ≠ "__name__") (hdb : (x == ("__debug__" : Str)) = false)
    (he : starEach (e :: es) X.env = (false, eval e X.env) :: starEach es X.env) (hpl : (backTo pos (starEach es X.env)).any (·.1) = false) : PE X (.Call (.Name x p) (e :: es) [] pos) (tE X.K (mOp f m)) :=
  (pe_callB hc hg hm hv ha hn hdb he hpl).weak fun _ _ _ h => op_sem hf h
theorem me_callTy (hc : CallR X (.type T) r) (hf : FnB X.K f r) (hg : Gl X x) (hm : X.mg x = none) (hv : bootBuiltins x = some (.type T)) (ha : PA X (e :: es) (tA X.K m)) (hn : x ≠ "__name__") (hdb : (x == ("__debug__" : Str)) = false)
    (he : starEach (e :: es) X.env = (false, eval e X.env) :: starEach es X.env) (hpl : (backTo pos (starEach es X.env)).any (·.1) = false) : PE X (.Call (.Name x p) (e :: es) [] pos) (tE X.K (mOp f m)) :=
  (pe_callTy hc hg hm hv ha hn hdb he hpl).weak fun _ _ _ h => op_sem hf h
end
end L2.M

/-! Tests, calls of defs, targets, comprehensions. -/
namespace L2.M
open PySem PySem.Spec PyProof.Rows

/-! ### steps that store to slots (but to those in L) -/
structure StpS (K : PySem.W.Frag) (L : Nat → Prop) (F H : Hp) (σ : St) (ε : Cs) (F' H' : Hp) (σ' : St) (ε' : Cs) : Prop where
  ok : Ok K F' H' σ' ε'
  fr : Fr F H σ ε F' H' σ' ε'
  lk : ∀ i : Nat, L i → σ'[i]? = σ[i]? ∧ Go ε[i]? ε'[i]?
  fz : ∀ (i : Nat) (ds : List D) (a : Addr), L i → ε[i]? = some (.ls ds) → σ[i]? = some (some (.ref a)) → (∃ ds', ε'[i]? = some (.ls ds')) ∨ F' a ≠ none
  ln : ε'.length = ε.length
section
variable {K : PySem.W.Frag} {L : Nat → Prop} {F H F1 H1 F2 H2 F' H' : Hp} {σ σ1 σ2 σ' : St} {ε ε1 ε2 ε' : Cs}
theorem StpS.refl (o : Ok K F H σ ε) : StpS K L F H σ ε F H σ ε := ⟨o, Fr.refl _ _ _ _, fun _ _ => ⟨rfl, Go.refl _⟩, fun i ds a _ h _ => .inl ⟨ds, h⟩, rfl⟩
theorem Stp.len (s : Stp K F H σ ε F' H' ε') (o : Ok K F H σ ε) : ε'.length = ε.length := by rw [← s.ok.len, o.len]
theorem Stp.toS (s : Stp K F H σ ε F' H' ε') (o : Ok K F H σ ε) : StpS K L F H σ ε F' H' σ ε' := ⟨s.ok, s.fr, fun i _ => ⟨rfl, s.go i⟩, fun i ds a _ h1 h2 => s.fz i ds a h1 h2, s.len o⟩
theorem StpS.trans (a : StpS K L F H σ ε F1 H1 σ1 ε1) (b : StpS K L F1 H1 σ1 ε1 F2 H2 σ2 ε2) : StpS K L F H σ ε F2 H2 σ2 ε2 where
  ok := b.ok
  fr := a.fr.trans b.fr
  lk := fun i hi => ⟨(b.lk i hi).1.trans (a.lk i hi).1, (a.lk i hi).2.trans (b.lk i hi).2⟩
  fz := fun i ds c hi h1 h2 => by
    rcases a.fz i ds c hi h1 h2 with ⟨ds', h⟩ | h
    · exact b.fz i ds' c hi h (by rw [(a.lk i hi).1]; exact h2)
    · exact .inr (Same.ne b.fr.fm h)
  ln := b.ln.trans a.ln
theorem StpS.imp {L' : Nat → Prop} (a : StpS K L F H σ ε F1 H1 σ1 ε1) (h : ∀ i, L' i → L i) : StpS K L' F H σ ε F1 H1 σ1 ε1 :=
  ⟨a.ok, a.fr, fun i hi => a.lk i (h i hi), fun i ds c hi => a.fz i ds c (h i hi), a.ln⟩
theorem live_back (s : Fr F H σ ε F' H' σ' ε') {a : Addr} (h : H' a = none) : H a = none := by
  by_cases w : H a = none
  · exact w
  · exact absurd h (s.live a w)
theorem Post.after {v : V} {c : C} (s : Stp K F H σ ε F1 H1 ε1) (p : Post K F1 H1 σ ε1 F' H' ε' v c) : Post K F H σ ε F' H' ε' v c :=
  ⟨s.trans p.st, p.rep, fun ds a h1 h2 => live_back s.fr (p.new ds a h1 h2)⟩
end

/-! ### tests -/
abbrev TM := Cs → Option (Bool × Cs)
def tT (K : PySem.W.Frag) (m : TM) : TT := fun σ H Q => ∃ F ε b ε', Ok K F H σ ε ∧ m ε = some (b, ε') ∧ ∀ F' H', Stp K F H σ ε F' H' ε' → Q b H'
def mTst (m : EM) : TM := fun ε => match m ε with
  | some (.sh (.bool b), ε') => some (b, ε')
  | _ => none
section
variable {K : PySem.W.Frag} {σ : St} {H : Hp}
theorem tE_tst {m : EM} {Q : Bool → Hp → Prop} (h : tT K (mTst m) σ H Q) : tE K m σ H (fun x H' => ∃ k, x = .bl k ∧ Q k H') := by
  obtain ⟨F, ε, b, ε', o, e, q⟩ := h
  unfold mTst at e
  split at e
  · rename_i b' ε1 hm
    cases e
    refine ⟨F, ε, _, ε', o, hm, fun v F' H' p => ?_⟩
    have r : Rep K F' v (.bool b) := p.rep
    simp only [Rep] at r
    exact ⟨b, r, q F' H' p.st⟩
  · cases e
end
section
variable {X : Cx} {a b e : Expr} {ma mb : OM} {m : EM} {pos : Pos} {rest : List Expr}
theorem mt_val (h : PE X e (tE X.K m)) (he : ∀ whole, isTrue e X.env whole = (do let v ← whole; standAt e.pos; holding [v] (truthy v))) : PT X e (tT X.K (mTst m)) :=
  (pt_val h he).weak fun _ _ _ => tE_tst
theorem mt_cmp {op : CmpOp} {f : D → D → Option C} {r : R2} (ho : OpR X (compareOp op) r) (hf : Fn2 X.K f r) (ha : PE X a (tO X.K ma)) (hb : PE X b (tO X.K mb)) (hm : behindInMarks op b = false) : PT X (.Compare a [op] [b] pos) (tT X.K (mTst (mB f ma mb))) :=
  (pt_cmpR ho ha hb hm).weak fun _ _ _ h => tE_b hf (tE_tst h)
def mNotT (m : TM) : TM := fun ε => do
  let (b, ε1) ← m ε
  some (!b, ε1)
def mAndT (m n : TM) : TM := fun ε => do
  let (b, ε1) ← m ε
  if b then n ε1 else some (false, ε1)
def mOrT (m n : TM) : TM := fun ε => do
  let (b, ε1) ← m ε
  if b then some (true, ε1) else n ε1
theorem tT_bind {K : PySem.W.Frag} {m : TM} {n : Bool → TM} {σ : St} {H : Hp} {Q : Bool → Hp → Prop} (h : tT K (fun ε => do let (b, ε1) ← m ε; n b ε1) σ H Q) : tT K m σ H fun b H1 => tT K (n b) σ H1 Q := by
  obtain ⟨F, ε, c, ε', o, e, q⟩ := h
  cases e1 : m ε with
  | none => simp [e1] at e
  | some p =>
    obtain ⟨b, ε1⟩ := p
    simp [e1] at e
    exact ⟨F, ε, b, ε1, o, e1, fun F1 H1 s1 => ⟨F1, ε1, c, ε', s1.ok, e, fun F2 H2 s2 => q F2 H2 (s1.trans s2)⟩⟩
theorem tT_pure {K : PySem.W.Frag} {b : Bool} {σ : St} {H : Hp} {Q : Bool → Hp → Prop} (h : tT K (fun ε => some (b, ε)) σ H Q) : Q b H := by
  obtain ⟨F, ε, c, ε', o, e, q⟩ := h
  cases e
  exact q F H (Stp.refl o)
theorem tT_mono {K : PySem.W.Frag} {m : TM} {σ : St} {H : Hp} {Q Q' : Bool → Hp → Prop} (h : tT K m σ H Q) (w : ∀ v H', Q v H' → Q' v H') : tT K m σ H Q' := by
  obtain ⟨F, ε, o, ε', a, b, c⟩ := h
  exact ⟨F, ε, o, ε', a, b, fun F' H' s => w _ _ (c F' H' s)⟩
theorem mt_not {m : TM} (h : PT X e (tT X.K m)) : PT X (.UnaryOp .Not e pos) (tT X.K (mNotT m)) := (pt_not h).weak fun σ H Q q =>
  tT_mono (tT_bind (n := fun b ε => some (!b, ε)) q) fun _ _ z => tT_pure z
theorem mt_and {m n : TM} (h : PT X a (tT X.K m)) (g : PW X (.BoolOp .And (b :: rest) pos) (tT X.K n)) : PW X (.BoolOp .And (a :: b :: rest) pos) (tT X.K (mAndT m n)) := (pw_and h g).weak fun σ H Q q =>
  tT_mono (tT_bind (n := fun b ε => if b then n ε else some (false, ε)) q) fun b _ z => by
    cases b with
    | true => rw [if_pos rfl]; exact z
    | false => rw [if_neg Bool.false_ne_true]; exact tT_pure z
theorem mt_or {m n : TM} (h : PT X a (tT X.K m)) (g : PW X (.BoolOp .Or (b :: rest) pos) (tT X.K n)) : PW X (.BoolOp .Or (a :: b :: rest) pos) (tT X.K (mOrT m n)) := (pw_or h g).weak fun σ H Q q =>
  tT_mono (tT_bind (n := fun b ε => if b then some (true, ε) else n ε) q) fun b _ z => by
    cases b with
    | true => rw [if_pos rfl]; exact tT_pure z
    | false => rw [if_neg Bool.false_ne_true]; exact z
theorem mt_and1 {m : TM} (h : PT X a (tT X.K m)) : PW X (.BoolOp .And [a] pos) (tT X.K m) := pw_and1 h
theorem mt_or1 {m : TM} (h : PT X a (tT X.K m)) : PW X (.BoolOp .Or [a] pos) (tT X.K m) := pw_or1 h

/-! ### and, or, not, if as values -/
def mNotE (m : EM) : EM := fun ε => match m ε with
  | some (.sh (.bool b), ε1) => some (.sh (.bool (!b)), ε1)
  | _ => none
def mAndE (m n : EM) : EM := fun ε => match m ε with
  | some (.sh (.bool true), ε1) => n ε1
  | some (.sh (.bool false), ε1) => some (.sh (.bool false), ε1)
  | _ => none
def mOrE (m n : EM) : EM := fun ε => match m ε with
  | some (.sh (.bool true), ε1) => some (.sh (.bool true), ε1)
  | some (.sh (.bool false), ε1) => n ε1
  | _ => none
def mIfE (t : TM) (m n : EM) : EM := fun ε => do
  let (b, ε1) ← t ε
  if b then m ε1 else n ε1
theorem rep_bool {K : PySem.W.Frag} {F H : Hp} {v : V} {b : Bool} (r : RepC K F H v (.sh (.bool b))) : v = .bl b := by
  have r' : Rep K F v (.bool b) := r
  simpa only [Rep] using r'
theorem post_bool {K : PySem.W.Frag} {F H F' H' : Hp} {σ : St} {ε ε' : Cs} (s : Stp K F H σ ε F' H' ε') (b : Bool) : Post K F H σ ε F' H' ε' (.bl b) (.sh (.bool b)) :=
  ⟨s, by show Rep K F' (.bl b) (.bool b); simp only [Rep], fun _ _ z => nomatch z⟩
theorem me_not (h : PE X e (tE X.K m)) : PE X (.UnaryOp .Not e pos) (tE X.K (mNotE m)) := (pe_not h).weak fun σ H Q q => by
  obtain ⟨F, ε, c, ε', o, e, q⟩ := q
  unfold mNotE at e
  split at e
  · rename_i b ε1 hm
    cases e
    exact ⟨F, ε, _, ε', o, hm, fun v F' H' p => ⟨b, rep_bool p.rep, q _ F' H' (post_bool p.st _)⟩⟩
  · cases e
theorem me_and {n : EM} (h : PE X a (tE X.K m)) (g : PE X (.BoolOp .And (b :: rest) pos) (tE X.K n)) : PE X (.BoolOp .And (a :: b :: rest) pos) (tE X.K (mAndE m n)) := (pe_and h g).weak fun σ H Q q => by
  obtain ⟨F, ε, c, ε', o, e, q⟩ := q
  unfold mAndE at e
  split at e
  · rename_i ε1 hm
    refine ⟨F, ε, _, ε1, o, hm, fun v F' H' p => ⟨true, rep_bool p.rep, ?_⟩⟩
    rw [if_pos rfl]
    exact ⟨F', ε1, c, ε', p.st.ok, e, fun w F2 H2 p2 => q w F2 H2 (p2.after p.st)⟩
  · rename_i ε1 hm
    cases e
    refine ⟨F, ε, _, ε', o, hm, fun v F' H' p => ⟨false, rep_bool p.rep, ?_⟩⟩
    rw [if_neg Bool.false_ne_true]
    exact q _ F' H' (post_bool p.st _)
  · cases e
theorem me_or {n : EM} (h : PE X a (tE X.K m)) (g : PE X (.BoolOp .Or (b :: rest) pos) (tE X.K n)) : PE X (.BoolOp .Or (a :: b :: rest) pos) (tE X.K (mOrE m n)) := (pe_or h g).weak fun σ H Q q => by
  obtain ⟨F, ε, c, ε', o, e, q⟩ := q
  unfold mOrE at e
  split at e
  · rename_i ε1 hm
    cases e
    refine ⟨F, ε, _, ε', o, hm, fun v F' H' p => ⟨true, rep_bool p.rep, ?_⟩⟩
    rw [if_pos rfl]
    exact q _ F' H' (post_bool p.st _)
  · rename_i ε1 hm
    refine ⟨F, ε, _, ε1, o, hm, fun v F' H' p => ⟨false, rep_bool p.rep, ?_⟩⟩
    rw [if_neg Bool.false_ne_true]
    exact ⟨F', ε1, c, ε', p.st.ok, e, fun w F2 H2 p2 => q w F2 H2 (p2.after p.st)⟩
  · cases e
theorem me_one {op : BoolOp} (h : PE X a (tE X.K m)) : PE X (.BoolOp op [a] pos) (tE X.K m) := pe_one h
theorem me_ife {c : Expr} {t : TM} {n : EM} (hc : PT X c (tT X.K t)) (h : PE X a (tE X.K m)) (g : PE X b (tE X.K n)) : PE X (.IfExp c a b pos) (tE X.K (mIfE t m n)) := (pe_ifExp hc h g).weak fun σ H Q q => by
  obtain ⟨F, ε, c, ε', o, e, q⟩ := q
  unfold mIfE at e
  cases e1 : t ε with
  | none => simp [e1] at e
  | some p =>
    obtain ⟨k, ε1⟩ := p
    simp [e1] at e
    refine ⟨F, ε, k, ε1, o, e1, fun F1 H1 s1 => ?_⟩
    cases k with
    | true =>
      rw [if_pos rfl]
      simp at e
      exact ⟨F1, ε1, c, ε', s1.ok, e, fun w F2 H2 p2 => q w F2 H2 (p2.after s1)⟩
    | false =>
      rw [if_neg Bool.false_ne_true]
      simp at e
      exact ⟨F1, ε1, c, ε', s1.ok, e, fun w F2 H2 p2 => q w F2 H2 (p2.after s1)⟩
end

/-! ### a def's promise by its meaning; its call -/
abbrev GM := List C → Option (C × List C)
def spOf (K : PySem.W.Frag) (np : Nat) (g : GM) : Sp := fun vs H Q _ => vs.length = np ∧ ∃ F cs c cs', Ok K F H (vs.map some) cs ∧ g cs = some (c, cs') ∧ ∀ v F' H', Post K F H (vs.map some) cs F' H' cs' v c → Q v H'
def frz : List Bool → List Opd → Cs → Option (List Opd × Cs)
  | [], [], ε => some ([], ε)
  | true :: bs, o :: os, ε => do
    let (os', ε1) ← frz bs os ε
    some (o :: os', ε1)
  | false :: bs, o :: os, ε => do
    let (d, ε1) ← fzO o ε
    let (os', ε2) ← frz bs os ε1
    some (.tm (.sh d) :: os', ε2)
  | _, _, _ => none
def cellO (ε : Cs) : Opd → Option C
  | .pl i => match ε[i]? with
    | some (.sh d) => some (.sh d)
    | some (.ls ds) => some (.ls ds)
    | _ => none
  | .tm .no => none
  | .tm c => some c
def cellsO (ε : Cs) : List Opd → Option (List C)
  | [] => some []
  | o :: os => do
    let c ← cellO ε o
    let cs ← cellsO ε os
    some (c :: cs)
def notPl (i : Nat) : Opd → Bool
  | .pl j => j != i
  | .tm _ => true
def dist (ε : Cs) : List Opd → Bool
  | [] => true
  | .pl i :: os => (match ε[i]? with
    | some (.ls _) => os.all (notPl i)
    | _ => true) && dist ε os
  | .tm _ :: os => dist ε os
def wb : List Opd → List C → Cs → Cs
  | .pl i :: os, c :: cs, ε => wb os cs (ε.set i c)
  | .tm _ :: os, _ :: cs, ε => wb os cs ε
  | _, _, ε => ε
def mCall (io : List Bool) (g : GM) (ma : AM) : EM := fun ε => do
  let (os, ε1) ← ma ε
  let (os2, ε2) ← frz io os ε1
  let cs ← cellsO ε2 os2
  if dist ε2 os2 then do
    let (c, cs') ← g cs
    some (c, wb os2 cs' ε2)
  else none

theorem frz_ok {K : PySem.W.Frag} {F0 H0 H : Hp} {σ : St} {ε0 : Cs} (o0 : Ok K F0 H0 σ ε0) : ∀ {bs : List Bool} {os os2 : List Opd} {vs : List V} {F : Hp} {ε ε' : Cs}, Stp K F0 H0 σ ε0 F H ε → OpsOk K F H σ (fun a => H0 a = none) vs os → frz bs os ε = some (os2, ε') →
    ∃ F', Stp K F0 H0 σ ε0 F' H ε' ∧ OpsOk K F' H σ (fun a => H0 a = none) vs os2 ∧ Same F F' ∧ (∀ (j : Nat) (es : List D), os2[j]? = some (.tm (.ls es)) → os[j]? = some (.tm (.ls es))) ∧ (∀ b, F b = none → F' b ≠ none → Own σ ε b ∨ ∃ (j : Nat) (es : List D), os[j]? = some (.tm (.ls es)) ∧ vs[j]? = some (.ref b) ∧ os2[j]? ≠ some (.tm (.ls es)))
  | [], [], os2, vs, F, ε, ε', s, h, e => by
    cases h
    cases e
    exact ⟨F, s, .nil, Same.refl F, fun j es z => by simp at z, fun b h1 h2 => absurd h1 h2⟩
  | true :: bs, o :: os, os2, vs, F, ε, ε', s, h, e => by
    unfold frz at e
    cases e1 : frz bs os ε with
    | none => simp [e1] at e
    | some p =>
      obtain ⟨os', ε1⟩ := p
      simp [e1] at e
      obtain ⟨rfl, rfl⟩ := e
      cases h with
      | @pl i v vs _ hv hr =>
        obtain ⟨F', s', r', fm, bk, nw⟩ := frz_ok o0 s hr e1
        refine ⟨F', s', .pl hv r', fm, fun j es z => ?_, fun b h1 h2 => ?_⟩
        · cases j with
          | zero => simp at z
          | succ j => simpa using bk j es (by simpa using z)
        · rcases nw b h1 h2 with z | ⟨j, es, z1, z2, z3⟩
          · exact .inl z
          · exact .inr ⟨j + 1, es, by simpa using z1, by simpa using z2, by simpa using z3⟩
      | @sh d v vs _ hv hr =>
        obtain ⟨F', s', r', fm, bk, nw⟩ := frz_ok o0 s hr e1
        refine ⟨F', s', .sh (Rep.mono fm _ _ hv) r', fm, fun j es z => ?_, fun b h1 h2 => ?_⟩
        · cases j with
          | zero => simp at z
          | succ j => simpa using bk j es (by simpa using z)
        · rcases nw b h1 h2 with z | ⟨j, es, z1, z2, z3⟩
          · exact .inl z
          · exact .inr ⟨j + 1, es, by simpa using z1, by simpa using z2, by simpa using z3⟩
      | @ls a ws ds vs _ g1 g2 g3 g4 g5 hr =>
        obtain ⟨F', s', r', fm, bk, nw⟩ := frz_ok o0 s hr e1
        have hn : F' a = none := by
          by_cases q : F' a = none
          · exact q
          · rcases nw a g2 q with z | ⟨j, es, z1, z2, z3⟩
            · exact absurd (s.ow z) (o0.not_own g4)
            · exact absurd z2 (g5 j es z1)
        refine ⟨F', s', .ls g1 hn (Reps.mono fm _ _ g3) g4 (fun j es z => g5 j es (bk j es z)) r', fm, fun j es z => ?_, fun b h1 h2 => ?_⟩
        · cases j with
          | zero => simpa using z
          | succ j => simpa using bk j es (by simpa using z)
        · rcases nw b h1 h2 with z | ⟨j, es, z1, z2, z3⟩
          · exact .inl z
          · exact .inr ⟨j + 1, es, by simpa using z1, by simpa using z2, by simpa using z3⟩
  | false :: bs, o :: os, os2, vs, F, ε, ε', s, h, e => by
    unfold frz at e
    cases e1 : fzO o ε with
    | none => simp [e1] at e
    | some p =>
      obtain ⟨d, ε1⟩ := p
      cases e2 : frz bs os ε1 with
      | none => simp [e1, e2] at e
      | some p2 =>
        obtain ⟨os', ε2⟩ := p2
        simp [e1, e2] at e
        obtain ⟨rfl, rfl⟩ := e
        have grow : ∀ {F1 : Hp} {vs : List V} {os : List Opd}, Same F F1 → OpsOk K F H σ (fun a => H0 a = none) vs os → (∀ (j : Nat) (es : List D) (b : Addr), os[j]? = some (.tm (.ls es)) → vs[j]? = some (.ref b) → F1 b = none) → OpsOk K F1 H σ (fun a => H0 a = none) vs os := by
          intro F1 vs os fm h
          induction h with
          | nil => intro _; exact .nil
          | pl h _ ih => intro z; exact .pl h (ih fun j es b h1 h2 => z (j + 1) es b (by simpa using h1) (by simpa using h2))
          | sh h _ ih => intro z; exact .sh (Rep.mono fm _ _ h) (ih fun j es b h1 h2 => z (j + 1) es b (by simpa using h1) (by simpa using h2))
          | ls g1 g2 g3 g4 g5 _ ih => intro z; exact .ls g1 (z 0 _ _ rfl rfl) (Reps.mono fm _ _ g3) g4 g5 (ih fun j es b h1 h2 => z (j + 1) es b (by simpa using h1) (by simpa using h2))
        have shift : ∀ {o : Opd} {v : V} {vs : List V} {F1 F' : Hp} {ε1 : Cs} (_ : ∀ b, Own σ ε1 b → Own σ ε b) (_ : ∀ b, F1 b = none → F' b ≠ none → Own σ ε1 b ∨ ∃ (j : Nat) (es : List D), os[j]? = some (.tm (.ls es)) ∧ vs[j]? = some (.ref b) ∧ os'[j]? ≠ some (.tm (.ls es)))
            (_ : ∀ b, F b = none → F1 b ≠ none → Own σ ε b ∨ ∃ es, o = .tm (.ls es) ∧ v = .ref b), ∀ b, F b = none → F' b ≠ none → Own σ ε b ∨ ∃ (j : Nat) (es : List D), (o :: os)[j]? = some (.tm (.ls es)) ∧ (v :: vs)[j]? = some (.ref b) ∧ (Opd.tm (.sh d) :: os')[j]? ≠ some (.tm (.ls es)) := by
          intro o v vs F1 F' ε1 ho nw n1 b h1 h2
          by_cases q : F1 b = none
          · rcases nw b q h2 with z | ⟨j, es, z1, z2, z3⟩
            · exact .inl (ho b z)
            · exact .inr ⟨j + 1, es, by simpa using z1, by simpa using z2, by simpa using z3⟩
          · rcases n1 b h1 q with z | ⟨es, rfl, rfl⟩
            · exact .inl z
            · exact .inr ⟨0, es, rfl, rfl, by simp⟩
        have back : ∀ {o : Opd} (_ : ∀ (j : Nat) (es : List D), os'[j]? = some (.tm (.ls es)) → os[j]? = some (.tm (.ls es))), ∀ (j : Nat) (es : List D), (Opd.tm (.sh d) :: os')[j]? = some (.tm (.ls es)) → (o :: os)[j]? = some (.tm (.ls es)) := by
          intro o bk j es z
          cases j with
          | zero => simp at z
          | succ j => simpa using bk j es (by simpa using z)
        cases h with
        | @pl i v vs _ hv hr =>
          unfold fzO at e1
          simp only at e1
          split at e1
          · rename_i d' hd
            cases e1
            obtain ⟨F', s', r', fm, bk, nw⟩ := frz_ok o0 s hr e2
            obtain ⟨w, h1, h2⟩ := s.ok.sh i d hd
            rw [hv] at h1
            cases h1
            exact ⟨F', s', .sh (Rep.mono fm _ _ h2) r', fm, back bk, shift (fun b z => z) nw fun b h1 h2 => absurd h1 h2⟩
          · rename_i es hd
            cases e1
            obtain ⟨a, F1, h1, ow, s1, r1, nF⟩ := s.ok.freeze hd
            rw [hv] at h1
            cases h1
            have hr1 := grow s1.fr.fm hr fun j es b g1 g2 => by
              obtain ⟨n1, _, n3⟩ := hr.tm_ls g1 g2
              rw [nF]
              · exact n3
              · rintro rfl
                exact o0.not_own n1 (s.ow ow)
            obtain ⟨F', s', r', fm, bk, nw⟩ := frz_ok o0 (s.trans s1) hr1 e2
            refine ⟨F', s', .sh (Rep.mono fm _ _ r1) r', s1.fr.fm.trans fm, back bk, shift (fun b z => s1.ow z) nw fun b h1 h2 => ?_⟩
            by_cases hb : b = a
            · subst hb; exact .inl ow
            · rw [nF b hb] at h2; exact absurd h1 h2
          · cases e1
        | @sh d' v vs _ hv hr =>
          simp [fzO] at e1
          obtain ⟨rfl, rfl⟩ := e1
          obtain ⟨F', s', r', fm, bk, nw⟩ := frz_ok o0 s hr e2
          exact ⟨F', s', .sh (Rep.mono fm _ _ hv) r', fm, back bk, shift (fun b z => z) nw fun b h1 h2 => absurd h1 h2⟩
        | @ls a ws es vs _ g1 g2 g3 g4 g5 hr =>
          simp [fzO] at e1
          obtain ⟨rfl, rfl⟩ := e1
          obtain ⟨s1, r1, fm1⟩ := s.freezeT o0 g1 g2 g3 g4
          have hr1 := grow fm1 hr fun j es b h1 h2 => by
            obtain ⟨n1, _, n3⟩ := hr.tm_ls h1 h2
            rw [upd_ne]
            · exact n3
            · rintro rfl
              exact g5 j es h1 h2
          obtain ⟨F', s', r', fm, bk, nw⟩ := frz_ok o0 s1 hr1 e2
          refine ⟨F', s', .sh (Rep.mono fm _ _ r1) r', fm1.trans fm, back bk, shift (fun b z => z) nw fun b h1 h2 => ?_⟩
          by_cases hb : b = a
          · subst hb; exact .inr ⟨es, rfl, rfl⟩
          · rw [upd_ne hb] at h2; exact absurd h1 h2
  | [], _ :: _, _, _, _, _, _, _, _, e => by simp [frz] at e
  | true :: _, [], _, _, _, _, _, _, _, e => by simp [frz] at e
  | false :: _, [], _, _, _, _, _, _, _, e => by simp [frz] at e

theorem OpsOk.len {K : PySem.W.Frag} {F H : Hp} {σ : St} {N : Addr → Prop} {vs : List V} {os : List Opd} (h : OpsOk K F H σ N vs os) : vs.length = os.length := by
  induction h with
  | nil => rfl
  | pl _ _ ih => simp [ih]
  | sh _ _ ih => simp [ih]
  | ls _ _ _ _ _ _ ih => simp [ih]
/-- what stands at a place of the operands, by the cell that is handed in -/
theorem OpsOk.cell {K : PySem.W.Frag} {F H : Hp} {σ : St} {ε : Cs} {N : Addr → Prop} {vs : List V} {os : List Opd} (h : OpsOk K F H σ N vs os) : ∀ {cs : List C}, cellsO ε os = some cs → cs.length = os.length ∧ ∀ (j : Nat) (c : C), cs[j]? = some c → ∃ v o, vs[j]? = some v ∧ os[j]? = some o ∧ cellO ε o = some c ∧ ((∃ i, o = .pl i ∧ σ[i]? = some (some v) ∧ ε[i]? = some c) ∨ (∃ d, o = .tm (.sh d) ∧ c = .sh d ∧ Rep K F v d) ∨
    ∃ ds a ws, o = .tm (.ls ds) ∧ c = .ls ds ∧ v = .ref a ∧ H a = some (.lst ws) ∧ F a = none ∧ Reps K F ws ds ∧ N a) := by
  have step : ∀ {o : Opd} {os : List Opd} {cs : List C}, cellsO ε (o :: os) = some cs → ∃ c cr, cs = c :: cr ∧ cellO ε o = some c ∧ cellsO ε os = some cr := by
    intro o os cs e
    unfold cellsO at e
    cases e1 : cellO ε o with
    | none => simp [e1] at e
    | some c =>
      cases e2 : cellsO ε os with
      | none => simp [e1, e2] at e
      | some cr =>
        simp [e1, e2] at e
        exact ⟨c, cr, e.symm, rfl, rfl⟩
  induction h with
  | nil =>
    intro cs e
    cases e
    exact ⟨rfl, fun j c z => by simp at z⟩
  | @pl i v vs os hv _ ih =>
    intro cs e
    obtain ⟨c, cr, rfl, e1, e2⟩ := step e
    obtain ⟨h1, h2⟩ := ih e2
    refine ⟨by simp [h1], fun j c' z => ?_⟩
    cases j with
    | zero =>
      simp at z
      subst z
      refine ⟨v, _, rfl, rfl, e1, .inl ⟨i, rfl, hv, ?_⟩⟩
      unfold cellO at e1
      simp only at e1
      split at e1
      · cases e1; assumption
      · cases e1; assumption
      · cases e1
    | succ j =>
      obtain ⟨w, o, g1, g2, g3, g4⟩ := h2 j c' (by simpa using z)
      exact ⟨w, o, by simpa using g1, by simpa using g2, g3, g4⟩
  | @sh d v vs os hv _ ih =>
    intro cs e
    obtain ⟨c, cr, rfl, e1, e2⟩ := step e
    obtain ⟨h1, h2⟩ := ih e2
    refine ⟨by simp [h1], fun j c' z => ?_⟩
    cases j with
    | zero =>
      simp at z
      subst z
      cases e1
      exact ⟨v, _, rfl, rfl, rfl, .inr (.inl ⟨d, rfl, rfl, hv⟩)⟩
    | succ j =>
      obtain ⟨w, o, g1, g2, g3, g4⟩ := h2 j c' (by simpa using z)
      exact ⟨w, o, by simpa using g1, by simpa using g2, g3, g4⟩
  | @ls a ws ds vs os g1 g2 g3 g4 g5 _ ih =>
    intro cs e
    obtain ⟨c, cr, rfl, e1, e2⟩ := step e
    obtain ⟨h1, h2⟩ := ih e2
    refine ⟨by simp [h1], fun j c' z => ?_⟩
    cases j with
    | zero =>
      simp at z
      subst z
      cases e1
      exact ⟨_, _, rfl, rfl, rfl, .inr (.inr ⟨ds, a, ws, rfl, rfl, rfl, g1, g2, g3, g4⟩)⟩
    | succ j =>
      obtain ⟨w, o, k1, k2, k3, k4⟩ := h2 j c' (by simpa using z)
      exact ⟨w, o, by simpa using k1, by simpa using k2, k3, k4⟩
theorem OpsOk.apart {K : PySem.W.Frag} {F H : Hp} {σ : St} {N : Addr → Prop} {vs : List V} {os : List Opd} (h : OpsOk K F H σ N vs os) : ∀ {j k : Nat} {ds es : List D} {a : Addr}, os[j]? = some (.tm (.ls ds)) → os[k]? = some (.tm (.ls es)) → vs[j]? = some (.ref a) → vs[k]? = some (.ref a) → j = k := by
  induction h with
  | nil => intro j k ds es a h; simp at h
  | pl _ _ ih =>
    intro j k ds es a h1 h2 h3 h4
    cases j with
    | zero => simp at h1
    | succ j =>
      cases k with
      | zero => simp at h2
      | succ k => exact congrArg (· + 1) (ih (by simpa using h1) (by simpa using h2) (by simpa using h3) (by simpa using h4))
  | sh _ _ ih =>
    intro j k ds es a h1 h2 h3 h4
    cases j with
    | zero => simp at h1
    | succ j =>
      cases k with
      | zero => simp at h2
      | succ k => exact congrArg (· + 1) (ih (by simpa using h1) (by simpa using h2) (by simpa using h3) (by simpa using h4))
  | ls g1 g2 g3 g4 g5 _ ih =>
    intro j k ds es a h1 h2 h3 h4
    cases j with
    | zero =>
      cases k with
      | zero => rfl
      | succ k =>
        simp at h3
        subst h3
        exact absurd (by simpa using h4) (g5 k es (by simpa using h2))
    | succ j =>
      cases k with
      | zero =>
        simp at h4
        subst h4
        exact absurd (by simpa using h3) (g5 j ds (by simpa using h1))
      | succ k => exact congrArg (· + 1) (ih (by simpa using h1) (by simpa using h2) (by simpa using h3) (by simpa using h4))
theorem dist_ok {ε : Cs} : ∀ {os : List Opd}, dist ε os = true → ∀ {j k i : Nat} {ds : List D}, os[j]? = some (.pl i) → os[k]? = some (.pl i) → ε[i]? = some (.ls ds) → j = k
  | [], _, j, k, i, ds, h, _, _ => by simp at h
  | .tm c :: os, hd, j, k, i, ds, h1, h2, h3 => by
    cases j with
    | zero => simp at h1
    | succ j =>
      cases k with
      | zero => simp at h2
      | succ k => exact congrArg (· + 1) (dist_ok (os := os) (by simpa [dist] using hd) (by simpa using h1) (by simpa using h2) h3)
  | .pl i0 :: os, hd, j, k, i, ds, h1, h2, h3 => by
    simp only [dist, Bool.and_eq_true] at hd
    obtain ⟨hd1, hd2⟩ := hd
    have no : ∀ (k : Nat), os[k]? = some (.pl i0) → (∃ ds, ε[i0]? = some (.ls ds)) → False := fun k hk ⟨ds, he⟩ => by
      rw [he] at hd1
      simp only [List.all_eq_true] at hd1
      have := hd1 _ (List.mem_of_getElem? hk)
      simp [notPl] at this
    cases j with
    | zero =>
      cases k with
      | zero => rfl
      | succ k =>
        simp at h1
        subst h1
        exact (no k (by simpa using h2) ⟨ds, h3⟩).elim
    | succ j =>
      cases k with
      | zero =>
        simp at h2
        subst h2
        exact (no j (by simpa using h1) ⟨ds, h3⟩).elim
      | succ k => exact congrArg (· + 1) (dist_ok (os := os) hd2 (by simpa using h1) (by simpa using h2) h3)
theorem wb_len : ∀ (os : List Opd) (cs : List C) (ε : Cs), (wb os cs ε).length = ε.length
  | .pl i :: os, c :: cs, ε => by unfold wb; rw [wb_len os cs]; simp
  | .tm _ :: os, _ :: cs, ε => by unfold wb; exact wb_len os cs ε
  | [], _, ε => by simp [wb]
  | .pl _ :: _, [], ε => by simp [wb]
  | .tm _ :: _, [], ε => by simp [wb]
theorem wb_get : ∀ (os : List Opd) (cs : List C) (ε : Cs) (i : Nat), i < ε.length → cs.length = os.length →
    (∃ j : Nat, os[j]? = some (.pl i) ∧ (wb os cs ε)[i]? = cs[j]?) ∨ ((∀ j : Nat, os[j]? ≠ some (.pl i)) ∧ (wb os cs ε)[i]? = ε[i]?)
  | [], cs, ε, i, hi, hl => .inr ⟨fun j => by simp, by simp [wb]⟩
  | .tm _ :: os, [], ε, i, hi, hl => by simp at hl
  | .pl _ :: os, [], ε, i, hi, hl => by simp at hl
  | .tm t :: os, c :: cs, ε, i, hi, hl => by
    unfold wb
    rcases wb_get os cs ε i hi (by simpa using hl) with ⟨j, h1, h2⟩ | ⟨h1, h2⟩
    · exact .inl ⟨j + 1, by simpa using h1, by simpa using h2⟩
    · refine .inr ⟨fun j => ?_, h2⟩
      cases j with
      | zero => simp
      | succ j => simpa using h1 j
  | .pl i0 :: os, c :: cs, ε, i, hi, hl => by
    unfold wb
    rcases wb_get os cs (ε.set i0 c) i (by simpa using hi) (by simpa using hl) with ⟨j, h1, h2⟩ | ⟨h1, h2⟩
    · exact .inl ⟨j + 1, by simpa using h1, by simpa using h2⟩
    · by_cases e : i0 = i
      · subst e
        refine .inl ⟨0, rfl, ?_⟩
        rw [h2, List.getElem?_set_self hi]
        rfl
      · refine .inr ⟨fun j => ?_, ?_⟩
        · cases j with
          | zero => simpa using e
          | succ j => simpa using h1 j
        · rw [h2, List.getElem?_set_ne e]

section
variable {K : PySem.W.Frag} {F0 H0 F H F' H' : Hp} {σ : St} {ε0 ε : Cs} {vs : List V} {os : List Opd} {cs cs' : List C}
theorem call_in (o0 : Ok K F0 H0 σ ε0) (s : Stp K F0 H0 σ ε0 F H ε) (r : OpsOk K F H σ (fun a => H0 a = none) vs os) (hc : cellsO ε os = some cs) (hd : dist ε os = true) : Ok K F H (vs.map some) cs := by
  obtain ⟨hl, at_⟩ := r.cell hc
  have vl := r.len
  have gv : ∀ {j : Nat} {v : V}, vs[j]? = some v → (vs.map some)[j]? = some (some v) := fun {j v} h => by rw [List.getElem?_map, h]; rfl
  refine ⟨s.ok.sub, by rw [List.length_map]; omega, fun j d hj => ?_, fun j ds hj => ?_, fun j k a ds es hj hk h1 h2 => ?_⟩
  · obtain ⟨v, o, g1, g2, g3, g4⟩ := at_ j _ hj
    refine ⟨v, gv g1, ?_⟩
    rcases g4 with ⟨i, _, e1, e2⟩ | ⟨d', _, e1, e2⟩ | ⟨ds, a, ws, _, e1, _⟩
    · obtain ⟨w, k1, k2⟩ := s.ok.sh i d e2
      rw [e1] at k1
      cases k1
      exact k2
    · cases e1; exact e2
    · cases e1
  · obtain ⟨v, o, g1, g2, g3, g4⟩ := at_ j _ hj
    rcases g4 with ⟨i, _, e1, e2⟩ | ⟨d', _, e1, e2⟩ | ⟨ds', a, ws, _, e1, e3, e4, e5, e6, _⟩
    · obtain ⟨a, ws, k1, k2, k3, k4⟩ := s.ok.ls i ds e2
      rw [e1] at k1
      cases k1
      exact ⟨a, ws, gv g1, k2, k3, k4⟩
    · cases e1
    · cases e1
      subst e3
      exact ⟨a, ws, gv g1, e4, e5, e6⟩
  · obtain ⟨v, o, g1, g2, g3, g4⟩ := at_ j _ hj
    obtain ⟨v', o', g1', g2', g3', g4'⟩ := at_ k _ hk
    rw [gv g1] at h1
    rw [gv g1'] at h2
    have ev : v = .ref a := Option.some.inj (Option.some.inj h1)
    have ev' : v' = .ref a := Option.some.inj (Option.some.inj h2)
    subst ev ev'
    rcases g4 with ⟨i, rfl, e1, e2⟩ | ⟨d', _, e1, _⟩ | ⟨ds', b, ws, rfl, e1, e3, e4, e5, e6, e7⟩
    · rcases g4' with ⟨i', rfl, e1', e2'⟩ | ⟨d', _, e1', _⟩ | ⟨ds', b, ws, rfl, e1', e3', e4', e5', e6', e7'⟩
      · have := s.ok.inj i i' a _ _ e2 e2' e1 e1'
        subst this
        exact dist_ok hd g2 g2' e2
      · cases e1'
      · cases e3'
        exact absurd (s.ow ⟨i, _, e2, e1⟩) (o0.not_own e7')
    · cases e1
    · cases e3
      rcases g4' with ⟨i', rfl, e1', e2'⟩ | ⟨d', _, e1', _⟩ | ⟨ds'', b, ws', rfl, e1', e3', e4', e5', e6', e7'⟩
      · exact absurd (s.ow ⟨i', _, e2', e1'⟩) (o0.not_own e7)
      · cases e1'
      · cases e3'
        exact r.apart g2 g2' g1 g1'
theorem call_out (o0 : Ok K F0 H0 σ ε0) (s : Stp K F0 H0 σ ε0 F H ε) (r : OpsOk K F H σ (fun a => H0 a = none) vs os) (hc : cellsO ε os = some cs) (hd : dist ε os = true)
    (b : Stp K F H (vs.map some) cs F' H' cs') : Stp K F0 H0 σ ε0 F' H' (wb os cs' ε) := by
  obtain ⟨hl, at_⟩ := r.cell hc
  have vl := r.len
  have cl : cs'.length = os.length := by
    have := b.ok.len
    rw [List.length_map] at this
    omega
  have gv : ∀ {j : Nat} {v : V}, vs[j]? = some v → (vs.map some)[j]? = some (some v) := fun {j v} h => by rw [List.getElem?_map, h]; rfl
  -- an own cell that is handed in: an own slot or a temporary
  have ownC : ∀ {a : Addr}, Own (vs.map some) cs a → H0 a = none ∨ ∃ (i j : Nat) (ds : List D), os[j]? = some (.pl i) ∧ cs[j]? = some (.ls ds) ∧ ε[i]? = some (.ls ds) ∧ σ[i]? = some (some (.ref a)) := by
    rintro a ⟨j, ds, h1, h2⟩
    obtain ⟨v, o, g1, g2, g3, g4⟩ := at_ j _ h1
    rw [gv g1] at h2
    have ev : v = .ref a := Option.some.inj (Option.some.inj h2)
    subst ev
    rcases g4 with ⟨i, rfl, e1, e2⟩ | ⟨d', _, e1, _⟩ | ⟨ds', b, ws, rfl, e1, e3, e4, e5, e6, e7⟩
    · exact .inr ⟨i, j, ds, g2, h1, e2, e1⟩
    · cases e1
    · cases e3; exact .inl e7
  -- a slot that is written back
  have back : ∀ {i j : Nat} {c : C}, os[j]? = some (.pl i) → ε[i]? = some c → ∃ v, cs[j]? = some c ∧ (vs.map some)[j]? = some (some v) ∧ σ[i]? = some (some v) := by
    intro i j c h1 h2
    have hj : j < cs.length := by rw [hl]; exact (List.getElem?_eq_some_iff.mp h1).1
    obtain ⟨v, o, g1, g2, g3, g4⟩ := at_ j cs[j] (by simp [hj])
    rw [h1] at g2
    cases g2
    rcases g4 with ⟨i', e0, e1, e2⟩ | ⟨d', e0, _⟩ | ⟨ds', b, ws, e0, _⟩
    · cases e0
      rw [h2] at e2
      refine ⟨v, ?_, gv g1, e1⟩
      rw [List.getElem?_eq_getElem hj, ← Option.some.inj e2]
    · cases e0
    · cases e0
  have hlen : σ.length = ε.length := s.ok.len
  have go : ∀ i : Nat, Go ε[i]? (wb os cs' ε)[i]? := fun i => by
    by_cases hi : i < ε.length
    · rcases wb_get os cs' ε i hi cl with ⟨j, h1, h2⟩ | ⟨h1, h2⟩
      · rw [h2]
        obtain ⟨v, e1, _, _⟩ := back h1 (List.getElem?_eq_getElem hi)
        have := b.go j
        rw [e1] at this
        rw [List.getElem?_eq_getElem hi]
        exact this
      · rw [h2]; exact Go.refl _
    · rw [List.getElem?_eq_none (by omega), List.getElem?_eq_none (by rw [wb_len]; omega)]
      exact Go.refl _
  -- each slot's cell, read behind the call
  have one : ∀ (i : Nat) (c : C), (wb os cs' ε)[i]? = some c → (∃ (j : Nat) (v : V), os[j]? = some (.pl i) ∧ cs'[j]? = some c ∧ (vs.map some)[j]? = some (some v) ∧ σ[i]? = some (some v)) ∨ ((∀ j : Nat, os[j]? ≠ some (.pl i)) ∧ ε[i]? = some c) := fun i c h => by
    have hi : i < ε.length := by
      have := (List.getElem?_eq_some_iff.mp h).1
      rw [wb_len] at this
      exact this
    rcases wb_get os cs' ε i hi cl with ⟨j, h1, h2⟩ | ⟨h1, h2⟩
    · obtain ⟨v, _, e2, e3⟩ := back h1 (List.getElem?_eq_getElem hi)
      exact .inl ⟨j, v, h1, h2.symm.trans h, e2, e3⟩
    · exact .inr ⟨h1, h2.symm.trans h⟩
  have stay : ∀ {i : Nat} {ds : List D} {a : Addr}, (∀ j : Nat, os[j]? ≠ some (.pl i)) → ε[i]? = some (.ls ds) → σ[i]? = some (some (.ref a)) → ¬ Own (vs.map some) cs a := by
    intro i ds a h1 h2 h3 h4
    rcases ownC h4 with z | ⟨i', j, ds', g1, _, g3, g4⟩
    · exact o0.not_own z (s.ow ⟨i, ds, h2, h3⟩)
    · have := s.ok.inj i i' a _ _ h2 g3 h3 g4
      subst this
      exact h1 j g1
  have okS : Ok K F' H' σ (wb os cs' ε) := by
    refine ⟨b.ok.sub, by rw [wb_len]; exact hlen, fun i d h => ?_, fun i ds h => ?_, fun i k a ds es hi hk h1 h2 => ?_⟩
    · rcases one i _ h with ⟨j, v, g1, g2, g3, g4⟩ | ⟨g1, g2⟩
      · obtain ⟨w, k1, k2⟩ := b.ok.sh j d g2
        rw [g3] at k1
        cases k1
        exact ⟨v, g4, k2⟩
      · obtain ⟨w, k1, k2⟩ := s.ok.sh i d g2
        exact ⟨w, k1, Rep.mono b.fr.fm _ _ k2⟩
    · rcases one i _ h with ⟨j, v, g1, g2, g3, g4⟩ | ⟨g1, g2⟩
      · obtain ⟨a, ws, k1, k2, k3, k4⟩ := b.ok.ls j ds g2
        rw [g3] at k1
        cases k1
        exact ⟨a, ws, g4, k2, k3, k4⟩
      · obtain ⟨a, ws, k1, k2, k3, k4⟩ := s.ok.ls i ds g2
        have no := stay g1 g2 k1
        exact ⟨a, ws, k1, b.fr.keep _ _ k2 no, nofz b.fr k2 k3 no, Reps.mono b.fr.fm _ _ k4⟩
    · obtain ⟨fs, e1⟩ := (go i).ls_back hi
      obtain ⟨gs, e2⟩ := (go k).ls_back hk
      exact s.ok.inj i k a _ _ e1 e2 h1 h2
  have oback : ∀ {a : Addr}, Own (vs.map some) cs a → H0 a = none ∨ Own σ ε0 a := fun {a} h => by
    rcases ownC h with z | ⟨i, j, ds, _, _, g3, g4⟩
    · exact .inl z
    · exact .inr (s.ow ⟨i, ds, g3, g4⟩)
  refine ⟨okS, ⟨s.fr.fm.trans b.fr.fm, fun a o h n => ?_, fun a h1 h2 => ?_, fun a h => b.fr.live a (s.fr.live a h), fun a h => ?_⟩, fun i => (s.go i).trans (go i), fun i ds a h1 h2 => ?_⟩
  · refine b.fr.keep a o (s.fr.keep a o h n) fun z => ?_
    rcases oback z with w | w
    · rw [w] at h; cases h
    · exact n w
  · by_cases e : F a = none
    · rcases b.fr.ff a e h2 with z | z
      · exact .inl (live_back s.fr z)
      · exact (oback z).imp id id
    · exact s.fr.ff a h1 e
  · obtain ⟨i, ds, h1, h2⟩ := h
    obtain ⟨es, e1⟩ := (go i).ls_back h1
    exact .inl (s.ow ⟨i, es, e1, h2⟩)
  · rcases s.fz i ds a h1 h2 with ⟨es, e1⟩ | z
    · have hi : i < ε.length := (List.getElem?_eq_some_iff.mp e1).1
      rcases wb_get os cs' ε i hi cl with ⟨j, g1, g2⟩ | ⟨g1, g2⟩
      · obtain ⟨v, k1, k2, k3⟩ := back g1 e1
        rw [h2] at k3
        cases k3
        rw [g2]
        exact b.fz j es a k1 k2
      · exact .inl ⟨es, by rw [g2]; exact e1⟩
    · exact .inr (Same.ne b.fr.fm z)
end
theorem tE_call {K : PySem.W.Frag} {np : Nat} {g : GM} {io : List Bool} {ma : AM} {σ : St} {H : Hp} {Q : VK} (hio : io.length = np) (h : tE K (mCall io g ma) σ H Q) : tCall (spOf K np g) [] E0 (tA K ma) σ H Q := by
  obtain ⟨F, ε, c, ε', ok, e, q⟩ := h
  unfold mCall at e
  cases e1 : ma ε with
  | none => simp [e1] at e
  | some p =>
    obtain ⟨os, ε1⟩ := p
    cases e2 : frz io os ε1 with
    | none => simp [e1, e2] at e
    | some p2 =>
      obtain ⟨os2, ε2⟩ := p2
      cases e3 : cellsO ε2 os2 with
      | none => simp [e1, e2, e3] at e
      | some cs =>
        by_cases hd : dist ε2 os2 = true
        · cases e4 : g cs with
          | none => simp [e1, e2, e3, e4] at e
          | some p4 =>
            obtain ⟨c', cs'⟩ := p4
            simp [e1, e2, e3, e4, hd] at e
            obtain ⟨rfl, rfl⟩ := e
            refine ⟨F, ε, os, ε1, ok, e1, fun vs F1 H1 s1 r1 => ?_⟩
            obtain ⟨F2, s2, r2, fm, _, _⟩ := frz_ok ok s1 r1 e2
            have hlf : ∀ {bs : List Bool} {os os2 : List Opd} {ε ε' : Cs}, frz bs os ε = some (os2, ε') → os2.length = bs.length := by
              intro bs
              induction bs with
              | nil =>
                intro os os2 ε ε' h
                cases os with
                | nil => cases h; rfl
                | cons _ _ => simp [frz] at h
              | cons b bs ih =>
                intro os os2 ε ε' h
                cases os with
                | nil => cases b <;> simp [frz] at h
                | cons o os =>
                  cases b with
                  | true =>
                    unfold frz at h
                    cases k1 : frz bs os ε with
                    | none => simp [k1] at h
                    | some p =>
                      obtain ⟨x, y⟩ := p
                      simp [k1] at h
                      obtain ⟨rfl, _⟩ := h
                      simp [ih k1]
                  | false =>
                    unfold frz at h
                    cases k0 : fzO o ε with
                    | none => simp [k0] at h
                    | some p0 =>
                      obtain ⟨d, ε9⟩ := p0
                      cases k1 : frz bs os ε9 with
                      | none => simp [k0, k1] at h
                      | some p =>
                        obtain ⟨x, y⟩ := p
                        simp [k0, k1] at h
                        obtain ⟨rfl, _⟩ := h
                        simp [ih k1]
            have hl : (vs ++ []).length = np := by
              rw [List.append_nil, r2.len, hlf e2]
              exact hio
            refine ⟨hl, F2, cs, c', cs', by rw [List.append_nil]; exact call_in ok s2 r2 e3 hd, e4, fun v F' H' p => ?_⟩
            rw [List.append_nil] at p
            refine q v F' H' ⟨call_out ok s2 r2 e3 hd p.st, p.rep, fun ds a h1 h2 => live_back s2.fr (p.new ds a h1 h2)⟩
        · simp [e1, e2, e3, hd] at e
end L2.M

/-! Targets, what is walked, comprehensions. -/
namespace L2.M
open PySem PySem.Spec PyProof.Rows

/-! ### targets -/
abbrev BM := D → Cs → Option Cs
def bNm (i : Nat) : BM := fun d ε => if i < ε.length then some (ε.set i (.sh d)) else none
def bTps : List BM → List D → Cs → Option Cs
  | [], [], ε => some ε
  | b :: bs, d :: ds, ε => do
    let ε1 ← b d ε
    bTps bs ds ε1
  | _, _, _ => none
def bTup (bs : List BM) : BM := fun d ε => match d with
  | .tuple ds => if ds.length = bs.length then bTps bs ds ε else none
  | _ => none
/-- what a target leaves: F, H stay; the slots but S stay; no own cell is new -/
structure Bnd (K : PySem.W.Frag) (F H : Hp) (S : Nat → Prop) (σ : St) (ε : Cs) (σ' : St) (ε' : Cs) : Prop where
  ok : Ok K F H σ' ε'
  ow : ∀ a, Own σ' ε' a → Own σ ε a
  st : ∀ i : Nat, ¬ S i → σ'[i]? = σ[i]? ∧ ε'[i]? = ε[i]?
  ln : ε'.length = ε.length
def Gd (K : PySem.W.Frag) (g : TG) (b : BM) (S : Nat → Prop) : Prop :=
  ∀ F H σ ε x d ε' (Q : St → Hp → Prop), Ok K F H σ ε → Rep K F x d → b d ε = some ε' → (∀ σ', Bnd K F H S σ ε σ' ε' → Q σ' H) → g x σ H Q
def Gds (K : PySem.W.Frag) (g : TGs) (b : List D → Cs → Option Cs) (S : Nat → Prop) : Prop :=
  ∀ F H σ ε xs ds ε' (Q : St → Hp → Prop), Ok K F H σ ε → Reps K F xs ds → b ds ε = some ε' → (∀ σ', Bnd K F H S σ ε σ' ε' → Q σ' H) → g xs σ H Q
section
variable {K : PySem.W.Frag} {F H : Hp} {σ σ1 σ2 : St} {ε ε1 ε2 : Cs} {S S' : Nat → Prop}
theorem Bnd.trans (a : Bnd K F H S σ ε σ1 ε1) (b : Bnd K F H S σ1 ε1 σ2 ε2) : Bnd K F H S σ ε σ2 ε2 :=
  ⟨b.ok, fun c h => a.ow c (b.ow c h), fun i h => ⟨(b.st i h).1.trans (a.st i h).1, (b.st i h).2.trans (a.st i h).2⟩, b.ln.trans a.ln⟩
theorem Bnd.imp (a : Bnd K F H S σ ε σ1 ε1) (h : ∀ i, S i → S' i) : Bnd K F H S' σ ε σ1 ε1 := ⟨a.ok, a.ow, fun i n => a.st i fun z => n (h i z), a.ln⟩
theorem Ok.put (o : Ok K F H σ ε) {i : Nat} {x : V} {d : D} (hi : i < ε.length) (r : Rep K F x d) : Bnd K F H (· = i) σ ε (σ.set i (some x)) (ε.set i (.sh d)) := by
  have hs : i < σ.length := by rw [o.len]; exact hi
  have ce : ∀ {j : Nat} {ds : List D}, (ε.set i (.sh d))[j]? = some (.ls ds) → j ≠ i ∧ ε[j]? = some (.ls ds) := fun {j ds} h => by
    by_cases e : j = i
    · subst e; rw [List.getElem?_set_self hi] at h; cases h
    · rw [List.getElem?_set_ne (Ne.symm e)] at h; exact ⟨e, h⟩
  refine ⟨⟨o.sub, by simp [o.len], fun j d' h => ?_, fun j ds h => ?_, fun j k a ds es h1 h2 h3 h4 => ?_⟩, fun a h => ?_, fun j h => ?_, by simp⟩
  · by_cases e : j = i
    · subst e
      rw [List.getElem?_set_self hi] at h
      cases h
      exact ⟨x, List.getElem?_set_self hs, r⟩
    · rw [List.getElem?_set_ne (Ne.symm e)] at h ⊢
      exact o.sh j d' h
  · obtain ⟨e, h⟩ := ce h
    rw [List.getElem?_set_ne (Ne.symm e)]
    exact o.ls j ds h
  · obtain ⟨e1, h1⟩ := ce h1
    obtain ⟨e2, h2⟩ := ce h2
    rw [List.getElem?_set_ne (Ne.symm e1)] at h3
    rw [List.getElem?_set_ne (Ne.symm e2)] at h4
    exact o.inj j k a _ _ h1 h2 h3 h4
  · obtain ⟨j, ds, h1, h2⟩ := h
    obtain ⟨e, h1⟩ := ce h1
    rw [List.getElem?_set_ne (Ne.symm e)] at h2
    exact ⟨j, ds, h1, h2⟩
  · rw [List.getElem?_set_ne (Ne.symm h), List.getElem?_set_ne (Ne.symm h)]
    exact ⟨rfl, rfl⟩
theorem gd_name {i : Nat} : Gd K (gName i) (bNm i) (· = i) := by
  intro F H σ ε x d ε' Q o r e q
  unfold bNm at e
  split at e
  · cases e
    exact q _ (o.put (by assumption) r)
  · cases e
theorem gds_nil : Gds K gNil (bTps []) (fun _ => False) := by
  intro F H σ ε xs ds ε' Q o r e q
  cases ds with
  | nil =>
    cases e
    exact ⟨r, q σ ⟨o, fun _ h => h, fun _ _ => ⟨rfl, rfl⟩, rfl⟩⟩
  | cons _ _ => simp [bTps] at e
theorem gds_cons {t : TG} {u : TGs} {b : BM} {bs : List BM} (h1 : Gd K t b S) (h2 : Gds K u (bTps bs) S') : Gds K (gCons t u) (bTps (b :: bs)) (fun i => S i ∨ S' i) := by
  intro F H σ ε xs ds ε' Q o r e q
  cases ds with
  | nil => simp [bTps] at e
  | cons d ds =>
    obtain ⟨v, vr, rfl, r1, r2⟩ := r
    unfold bTps at e
    cases e1 : b d ε with
    | none => simp [e1] at e
    | some ε1 =>
      simp [e1] at e
      refine ⟨v, vr, rfl, h1 F H σ ε v d ε1 _ o r1 e1 fun σ1 b1 => ?_⟩
      exact h2 F H σ1 ε1 vr ds ε' Q b1.ok r2 e fun σ2 b2 => q σ2 ((b1.imp fun _ z => .inl z).trans (b2.imp fun _ z => .inr z))
theorem gd_tup {t : TGs} {bs : List BM} {n : Nat} (hn : n = bs.length) (h : Gds K t (bTps bs) S) : Gd K (gTup K n t) (bTup bs) S := by
  intro F H σ ε x d ε' Q o r e q
  unfold bTup at e
  split at e
  · rename_i ds
    split at e
    · rename_i hl
      obtain ⟨a, vs, rfl, h1, h2⟩ := r
      exact ⟨a, vs, rfl, sameT o.sub h1, by rw [h2.length, hl, hn], h F H σ ε vs ds ε' Q o h2 e q⟩
    · cases e
  · cases e
theorem Bnd.stp (a : Bnd K F H S σ ε σ1 ε1) : StpS K (fun i => ¬ S i) F H σ ε F H σ1 ε1 :=
  ⟨a.ok, ⟨Same.refl F, fun _ _ h _ => h, fun b h h' => absurd h h', fun _ h => h, fun b h => .inl (a.ow b h)⟩, fun i hi => ⟨(a.st i hi).1, .inl (a.st i hi).2⟩, fun i ds c hi h1 h2 => .inl ⟨ds, by rw [(a.st i hi).2]; exact h1⟩, a.ln⟩
end

/-! ### a heap that grew -/
structure Grw (F H F' H' : Hp) : Prop where
  fm : Same F F'
  hm : Same H H'
  sub : Same F' H'
  ff : ∀ b, F b = none → F' b ≠ none → H b = none
theorem Grw.stp {K : PySem.W.Frag} {F H F' H' : Hp} (g : Grw F H F' H') {σ : St} {ε : Cs} (o : Ok K F H σ ε) : Stp K F H σ ε F' H' ε := by
  have nf : ∀ a, H a ≠ none → F a = none → F' a = none := fun a h1 h2 => by
    by_cases q : F' a = none
    · exact q
    · exact absurd (g.ff a h2 q) h1
  refine ⟨⟨g.sub, o.len, fun i d h => ?_, fun i ds h => ?_, o.inj⟩, ⟨g.fm, fun b o h _ => g.hm b o h, fun b h h' => .inl (g.ff b h h'), fun b h => Same.ne g.hm h, fun b h => .inl h⟩, fun _ => Go.refl _, fun i ds a h _ => .inl ⟨ds, h⟩⟩
  · obtain ⟨w, h1, h2⟩ := o.sh i d h
    exact ⟨w, h1, Rep.mono g.fm _ _ h2⟩
  · obtain ⟨a, vs, h1, h2, h3, h4⟩ := o.ls i ds h
    exact ⟨a, vs, h1, g.hm _ _ h2, nf a (by rw [h2]; exact fun z => nomatch z) h3, Reps.mono g.fm _ _ h4⟩
theorem Grw.refl {F H : Hp} (s : Same F H) : Grw F H F H := ⟨Same.refl F, Same.refl H, s, fun b h h' => absurd h h'⟩
theorem Grw.laid {F H : Hp} (s : Same F H) {p : Addr} {u : HO} (hp : H p = none) : Grw F H (upd F p u) (upd H p u) := by
  have fp : F p = none := s.free hp
  refine ⟨fun b x e => by rw [upd_ne (ne_of_none e fp)]; exact e, fun b x e => by rw [upd_ne (ne_of_none e hp)]; exact e, fun b x e => ?_, fun b h h' => ?_⟩
  · by_cases hb : b = p
    · subst hb; rw [upd_same] at e ⊢; exact e
    · rw [upd_ne hb] at e ⊢; exact s b x e
  · by_cases hb : b = p
    · subst hb; exact hp
    · rw [upd_ne hb] at h'; exact absurd h h'

/-! ### what is walked: data, as long as some slots stay -/
def Src (K : PySem.W.Frag) (F H : Hp) (σ : St) (ε : Cs) (J : It) (ds : List D) (ws : List Nat) : Prop :=
  ∃ G Y, Walk J ds.length G Y ∧ ∀ F2 H2 σ2 ε2, Ok K F2 H2 σ2 ε2 → Same F F2 → (∀ b o, H b = some o → ¬ Own σ ε b → H2 b = some o) → (∀ i ∈ ws, σ2[i]? = σ[i]? ∧ ε2[i]? = ε[i]?) →
    G H2 ∧ ∀ i x H3, i < ds.length → Y i H2 x H3 → ∃ F3 d, ds[i]? = some d ∧ Rep K F3 x d ∧ Grw F2 H2 F3 H3
abbrev SM := Cs → Option ((List D × List Nat) × Cs)
def tI (K : PySem.W.Frag) (m : SM) : TI := fun σ H R => ∃ F ε ds ws ε', Ok K F H σ ε ∧ m ε = some ((ds, ws), ε') ∧ ∀ F' H' J, Stp K F H σ ε F' H' ε' → Src K F' H' σ ε' J ds ws → R J H'
def plOf : List Opd → List Nat
  | [] => []
  | .pl i :: os => i :: plOf os
  | .tm _ :: os => plOf os
def mSrc (kind : List D → Option (List D)) (ma : AM) : SM := fun ε => do
  let (os, ε1) ← ma ε
  let ds ← bors ε1 os
  let out ← kind ds
  some ((out, plOf os), ε1)
/-- a sequence that is read by an operand, as long as its slot stays -/
theorem opd_seq {K : PySem.W.Frag} {F H : Hp} {σ : St} {ε : Cs} {N : Addr → Prop} (o : Ok K F H σ ε) (nw : ∀ a, N a → ¬ Own σ ε a) {v : V} {p : Opd} {d : D} (h : OpsOk K F H σ N [v] [p]) (hb : bor ε p = some d) :
    (∀ ds, d = .list ds → ∃ a, v = .ref a ∧ (∃ vs, SqL K H a vs) ∧ ∀ F2 H2 σ2 ε2, Ok K F2 H2 σ2 ε2 → Same F F2 → (∀ b u, H b = some u → ¬ Own σ ε b → H2 b = some u) → (∀ i, p = .pl i → σ2[i]? = σ[i]? ∧ ε2[i]? = ε[i]?) → ∃ vs, SqL K H2 a vs ∧ Reps K F2 vs ds) ∧
    (∀ ds, d = .tuple ds → ∃ a vs, v = .ref a ∧ SqT K F a vs ∧ Reps K F vs ds) ∧ (∀ z, d = .str z → v = .str z) ∧ (∀ z, d = .int z → v = .int z) := by
  have frozen : Rep K F v d → _ := fun r => (show (∀ ds, d = .list ds → ∃ a, v = .ref a ∧ (∃ vs, SqL K H a vs) ∧ ∀ F2 H2 σ2 ε2, Ok K F2 H2 σ2 ε2 → Same F F2 → (∀ b u, H b = some u → ¬ Own σ ε b → H2 b = some u) → (∀ i, p = .pl i → σ2[i]? = σ[i]? ∧ ε2[i]? = ε[i]?) → ∃ vs, SqL K H2 a vs ∧ Reps K F2 vs ds) ∧
    (∀ ds, d = .tuple ds → ∃ a vs, v = .ref a ∧ SqT K F a vs ∧ Reps K F vs ds) ∧ (∀ z, d = .str z → v = .str z) ∧ (∀ z, d = .int z → v = .int z) from by
      refine ⟨fun ds e => ?_, fun ds e => ?_, fun z e => ?_, fun z e => ?_⟩
      · subst e
        obtain ⟨a, vs, rfl, h1, h2⟩ := r
        exact ⟨a, rfl, ⟨vs, sameL o.sub h1⟩, fun F2 H2 σ2 ε2 o2 fm _ _ => ⟨vs, sameL o2.sub (sameL fm h1), Reps.mono fm _ _ h2⟩⟩
      · subst e
        obtain ⟨a, vs, rfl, h1, h2⟩ := r
        exact ⟨a, vs, rfl, h1, h2⟩
      · subst e
        simpa only [Rep] using r
      · subst e
        simpa only [Rep] using r)
  cases h with
  | @pl i _ _ _ hv _ =>
    unfold bor at hb
    simp only at hb
    split at hb
    · rename_i d' hd
      cases hb
      obtain ⟨w, h1, h2⟩ := o.sh i _ hd
      rw [hv] at h1
      cases h1
      exact frozen h2
    · rename_i es hd
      cases hb
      obtain ⟨a, ws, h1, h2, h3, h4⟩ := o.ls i _ hd
      rw [hv] at h1
      cases h1
      refine ⟨fun ds e => ?_, (by intro ds e; cases e), (by intro z e; cases e), (by intro z e; cases e)⟩
      cases e
      refine ⟨a, rfl, ⟨ws, .inl (.inl h2)⟩, fun F2 H2 σ2 ε2 o2 fm _ hw => ?_⟩
      obtain ⟨k1, k2⟩ := hw i rfl
      rw [hd] at k2
      rw [hv] at k1
      obtain ⟨b, us, g1, g2, g3, g4⟩ := o2.ls i _ k2
      rw [k1] at g1
      cases g1
      exact ⟨us, .inl (.inl g2), g4⟩
    · cases hb
  | sh hv _ =>
    cases hb
    exact frozen hv
  | @ls a ws es _ _ g1 g2 g3 g4 _ _ =>
    cases hb
    refine ⟨fun ds e => ?_, (by intro ds e; cases e), (by intro z e; cases e), (by intro z e; cases e)⟩
    cases e
    exact ⟨a, rfl, ⟨ws, .inl (.inl g1)⟩, fun F2 H2 σ2 ε2 o2 fm kp _ => ⟨ws, .inl (.inl (kp _ _ g1 (nw a g4))), Reps.mono fm _ _ g3⟩⟩

def itemsD : List D → Option (List D)
  | [.list ds] => some ds
  | [.tuple ds] => some ds
  | [.str z] => some (z.cps.toList.map fun c => .str ⟨#[c]⟩)
  | _ => none
def rangeD (lo c : Int) (n : Nat) : List D := (List.range n).map fun i => PyData.int (lo + (i : Nat) * c)
def rng1D : List D → Option (List D)
  | [.int j] => if -(2 ^ 62) ≤ j ∧ j < 2 ^ 62 then some (rangeD 0 1 j.toNat) else none
  | _ => none
def rng2D : List D → Option (List D)
  | [.int i, .int j] => if -(2 ^ 62) ≤ i ∧ i < 2 ^ 62 ∧ -(2 ^ 62) ≤ j ∧ j < 2 ^ 62 then some (rangeD i 1 (j - i).toNat) else none
  | _ => none

theorem _root_.L2.PI.or {X : Cx} {tg e : Expr} {w1 w2 : TI} (a : PI X tg e w1) (b : PI X tg e w2) : PI X tg e (fun σ H R => w1 σ H R ∨ w2 σ H R) :=
  ⟨fun pins s σ H R I h => h.elim (a.run pins s σ H R I) (b.run pins s σ H R I)⟩
theorem _root_.L2.PI.weak {X : Cx} {tg e : Expr} {w1 w2 : TI} (a : PI X tg e w1) (h : ∀ σ H R, w2 σ H R → w1 σ H R) : PI X tg e w2 := ⟨fun pins s σ H R I q => a.run pins s σ H R I (h σ H R q)⟩

theorem src_parts {K : PySem.W.Frag} {kind : List D → Option (List D)} {ma : AM} {σ : St} {H : Hp} {R : It → Hp → Prop} (h : tI K (mSrc kind ma) σ H R) : ∃ F ε os ds out ε', Ok K F H σ ε ∧ ma ε = some (os, ε') ∧ bors ε' os = some ds ∧ kind ds = some out ∧
    ∀ F' H' J, Stp K F H σ ε F' H' ε' → Src K F' H' σ ε' J out (plOf os) → R J H' := by
  obtain ⟨F, ε, ds, ws, ε', o, e, q⟩ := h
  unfold mSrc at e
  cases e1 : ma ε with
  | none => simp [e1] at e
  | some p =>
    obtain ⟨os, ε1⟩ := p
    cases e2 : bors ε1 os with
    | none => simp [e1, e2] at e
    | some ds' =>
      cases e3 : kind ds' with
      | none => simp [e1, e2, e3] at e
      | some out =>
        simp [e1, e2, e3] at e
        obtain ⟨⟨rfl, rfl⟩, rfl⟩ := e
        exact ⟨F, ε, os, ds', out, ε1, o, e1, e2, e3, q⟩
theorem bors1 {ε : Cs} {os : List Opd} {d : D} (h : bors ε os = some [d]) : ∃ p, os = [p] ∧ bor ε p = some d := by
  cases os with
  | nil => cases h
  | cons p os =>
    unfold bors at h
    cases e1 : bor ε p with
    | none => simp [e1] at h
    | some d' =>
      cases e2 : bors ε os with
      | none => simp [e1, e2] at h
      | some ds =>
        simp [e1, e2] at h
        obtain ⟨rfl, rfl⟩ := h
        cases os with
        | nil => exact ⟨p, rfl, e1⟩
        | cons q os =>
          unfold bors at e2
          cases e3 : bor ε q with
          | none => simp [e3] at e2
          | some d2 =>
            cases e4 : bors ε os with
            | none => simp [e3, e4] at e2
            | some d3 => simp [e3, e4] at e2
theorem bors2 {ε : Cs} {os : List Opd} {d e : D} (h : bors ε os = some [d, e]) : ∃ p q, os = [p, q] ∧ bor ε p = some d ∧ bor ε q = some e := by
  cases os with
  | nil => cases h
  | cons p os =>
    unfold bors at h
    cases e1 : bor ε p with
    | none => simp [e1] at h
    | some d' =>
      cases e2 : bors ε os with
      | none => simp [e1, e2] at h
      | some ds =>
        simp [e1, e2] at h
        obtain ⟨rfl, rfl⟩ := h
        obtain ⟨q, rfl, h2⟩ := bors1 e2
        exact ⟨p, q, rfl, e1, h2⟩

theorem walkL {K : PySem.W.Frag} {a : Addr} {n : Nat} : Walk (Itl K a) n (fun H => ∃ vs, SqL K H a vs ∧ vs.length = n) (fun i H x H' => H' = H ∧ ∀ vs, SqL K H a vs → vs[i]? = some x) :=
  ⟨fun i _ hi ⟨vs, q, e⟩ => ⟨vs, vs[i]'(by omega), q, by simp [show i < vs.length by omega]⟩, fun _ ⟨vs, q, e⟩ => ⟨vs, q, by omega⟩, fun _ _ _ _ _ _ y => y⟩

section
variable {X : Cx} {tg e : Expr} {m : OM} {ma : AM}
/-- for x in e, e a list, a tuple or a text -/
theorem mi_any (h : PE X e (tO X.K m)) : PI X tg e (tI X.K (mSrc itemsD (mCons m mNil))) := by
  refine ((pi_list h).or ((pi_tup h).or (pi_str h))).weak fun σ H R q => ?_
  obtain ⟨F, ε, os, ds, out, ε', o, e1, e2, e3, q⟩ := src_parts q
  -- the one operand
  unfold mCons mNil at e1
  cases em : m ε with
  | none => simp [em] at e1
  | some p =>
    obtain ⟨p, ε1⟩ := p
    simp [em] at e1
    obtain ⟨rfl, rfl⟩ := e1
    have nw : ∀ {F1 H1}, Stp X.K F H σ ε F1 H1 ε1 → ∀ a, H a = none → ¬ Own σ ε1 a := fun s a z w => o.not_own z (s.ow w)
    match ds, e3 with
    | [.list ds], e3 =>
      cases e3
      obtain ⟨p', e4, hb⟩ := bors1 e2
      cases e4
      refine .inl ⟨F, ε, p, ε1, o, em, fun v F1 H1 s1 r1 => ?_⟩
      obtain ⟨h1, _⟩ := opd_seq s1.ok (nw s1) r1 hb
      obtain ⟨a, rfl, h2, h3⟩ := h1 _ rfl
      refine ⟨a, rfl, h2, q F1 H1 _ s1 ⟨_, _, walkL, fun F2 H2 σ2 ε2 o2 fm kp hw => ?_⟩⟩
      obtain ⟨vs, g1, g2⟩ := h3 F2 H2 σ2 ε2 o2 fm kp fun i e => hw i (by rw [e]; simp [plOf])
      refine ⟨⟨vs, g1, g2.length⟩, fun i x H3 hi y => ?_⟩
      obtain ⟨rfl, y⟩ := y
      obtain ⟨w, k1, k2⟩ := g2.get (List.getElem?_eq_getElem hi)
      rw [y vs g1] at k1
      cases k1
      exact ⟨F2, _, List.getElem?_eq_getElem hi, k2, Grw.refl o2.sub⟩
    | [.tuple ds], e3 =>
      cases e3
      obtain ⟨p', e4, hb⟩ := bors1 e2
      cases e4
      refine .inr (.inl ⟨F, ε, p, ε1, o, em, fun v F1 H1 s1 r1 => ?_⟩)
      obtain ⟨_, h1, _⟩ := opd_seq s1.ok (nw s1) r1 hb
      obtain ⟨a, vs, rfl, h2, h3⟩ := h1 _ rfl
      refine ⟨a, rfl, ⟨vs, sameT s1.ok.sub h2⟩, q F1 H1 _ s1 ⟨_, _, (show Walk (Itt X.K a) out.length (fun H => SqT X.K H a vs) (YAt vs) by rw [← h3.length]; exact walk_tup), fun F2 H2 σ2 ε2 o2 fm kp hw => ?_⟩⟩
      refine ⟨sameT o2.sub (sameT fm h2), fun i x H3 hi y => ?_⟩
      obtain ⟨rfl, y⟩ := y
      obtain ⟨w, k1, k2⟩ := h3.get (List.getElem?_eq_getElem hi)
      rw [y] at k1
      cases k1
      exact ⟨F2, _, List.getElem?_eq_getElem hi, Rep.mono fm _ _ k2, Grw.refl o2.sub⟩
    | [.str z], e3 =>
      cases e3
      obtain ⟨p', e4, hb⟩ := bors1 e2
      cases e4
      refine .inr (.inr ⟨F, ε, p, ε1, o, em, fun v F1 H1 s1 r1 => ?_⟩)
      obtain ⟨_, _, h1, _⟩ := opd_seq s1.ok (nw s1) r1 hb
      refine ⟨z, h1 z rfl, q F1 H1 _ s1 ⟨_, _, (show Walk (Its z) (z.cps.toList.map fun c => PyData.str ⟨#[c]⟩).length _ _ by rw [List.length_map, Array.length_toList]; exact walk_str), fun F2 H2 σ2 ε2 o2 fm kp hw => ?_⟩⟩
      refine ⟨trivial, fun i x H3 hi y => ?_⟩
      obtain ⟨rfl, c, y1, rfl⟩ := y
      refine ⟨F2, .str ⟨#[c]⟩, ?_, by simp [Rep], Grw.refl o2.sub⟩
      rw [List.getElem?_map, Array.getElem?_toList, y1]
      rfl
theorem src_range {K : PySem.W.Frag} {F H : Hp} {σ : St} {ε : Cs} {lo : Int} {n : Nat} {ws : List Nat} : Src K F H σ ε (Itr lo n) (rangeD lo 1 n) ws := by
  refine ⟨_, _, (show Walk (Itr lo n) (rangeD lo 1 n).length (fun _ => True) (YFn fun i => .int (lo + i)) by simp only [rangeD, List.length_map, List.length_range]; exact walk_range), fun F2 H2 σ2 ε2 o2 _ _ _ => ⟨trivial, fun i x H3 hi y => ?_⟩⟩
  obtain ⟨rfl, rfl⟩ := y
  refine ⟨F2, .int (lo + i), ?_, by simp [Rep], Grw.refl o2.sub⟩
  simp only [rangeD, List.length_map, List.length_range] at hi
  simp [rangeD, hi]
theorem mi_range1 {a : Expr} {p pos : Pos} (hg : Gl X "range") (hm : X.mg "range" = none) (ha : PA X [a] (tA X.K ma)) (hs : starEach [a] X.env = [(false, eval a X.env)]) : PI X tg (.Call (.Name "range" p) [a] [] pos) (tI X.K (mSrc rng1D ma)) := by
  refine (pi_range1 hg hm ha hs).weak fun σ H R q => ?_
  obtain ⟨F, ε, os, ds, out, ε', o, e1, e2, e3, q⟩ := src_parts q
  refine ⟨F, ε, os, ε', o, e1, fun vs F1 H1 s1 r1 => ?_⟩
  have rb := bors_ok s1.ok r1 e2
  match ds, e3, rb with
  | [.int j], e3, rb =>
    simp only [rng1D] at e3
    split at e3
    · rename_i hj
      cases e3
      obtain ⟨x, rfl, h1⟩ := rb.one
      have hx : x = .int j := by
        rcases h1 with h1 | ⟨_, _, _, _, h1, _⟩
        · simpa only [Rep] using h1
        · cases h1
      subst hx
      exact ⟨j, rfl, hj.1, hj.2, q F1 H1 _ s1 src_range⟩
    · cases e3
theorem mi_range2 {a b : Expr} {p pos : Pos} (hg : Gl X "range") (hm : X.mg "range" = none) (ha : PA X [a, b] (tA X.K ma)) (hs : starEach [a, b] X.env = [(false, eval a X.env), (false, eval b X.env)]) (hs2 : starEach [b] X.env = [(false, eval b X.env)]) :
    PI X tg (.Call (.Name "range" p) [a, b] [] pos) (tI X.K (mSrc rng2D ma)) := by
  refine (pi_range2 hg hm ha hs hs2).weak fun σ H R q => ?_
  obtain ⟨F, ε, os, ds, out, ε', o, e1, e2, e3, q⟩ := src_parts q
  refine ⟨F, ε, os, ε', o, e1, fun vs F1 H1 s1 r1 => ?_⟩
  have rb := bors_ok s1.ok r1 e2
  match ds, e3, rb with
  | [.int i, .int j], e3, rb =>
    simp only [rng2D] at e3
    split at e3
    · rename_i hj
      cases e3
      obtain ⟨x, y, rfl, h1, h2⟩ := rb.two
      have hx : x = .int i := by
        rcases h1 with h1 | ⟨_, _, _, _, h1, _⟩
        · simpa only [Rep] using h1
        · cases h1
      have hy : y = .int j := by
        rcases h2 with h1 | ⟨_, _, _, _, h1, _⟩
        · simpa only [Rep] using h1
        · cases h1
      subst hx hy
      exact ⟨i, j, rfl, hj, q F1 H1 _ s1 src_range⟩
    · cases e3
end
end L2.M

/-! Comprehensions. -/
namespace L2.M
open PySem PySem.Spec PyProof.Rows

def wipeC (ε : Cs) : List Nat → Cs
  | [] => ε
  | v :: vs => (wipeC ε vs).set v .no
def restC (ε ε1 : Cs) : List Nat → Cs
  | [] => ε
  | v :: vs => match ε1[v]? with
    | some c => (restC ε ε1 vs).set v c
    | none => restC ε ε1 vs
def cD : C → Option D
  | .sh d => some d
  | .ls ds => some (.list ds)
  | .no => none
def sameC (ws : List Nat) (ε0 ε : Cs) : Prop := ∀ i ∈ ws, ε[i]? = ε0[i]?
open Classical in
noncomputable def lcL (ws : List Nat) (ε0 : Cs) (bind : BM) (tests : TM) (elt : EM) (own : List Nat) : List D → Nat → Cs → Option (List D × Cs)
  | [], _, ε => if sameC ws ε0 ε then some ([], ε) else none
  | d :: ds, n, ε => if sameC ws ε0 ε then do
      let ε1 ← bind d ε
      let (b, ε2) ← tests ε1
      if b then do
        let (c, ε3) ← elt ε2
        let e ← cD c
        if n < sizeLine then do
          let (r, ε4) ← lcL ws ε0 bind tests elt own ds (n + 1) (wipeC ε3 own)
          some (e :: r, ε4)
        else none
      else lcL ws ε0 bind tests elt own ds n (wipeC ε2 own)
    else none
noncomputable def mLc (src : SM) (bind : BM) (tests : TM) (elt : EM) (own : List Nat) : EM := fun ε => do
  let ((ds, ws), ε1) ← src ε
  if ws.all (fun i => !own.contains i) then do
    let (out, ε2) ← lcL ws ε1 bind tests elt own ds 0 (wipeC ε1 own)
    some (.ls out, restC ε2 ε1 own)
  else none
def mYes : TM := fun ε => some (true, ε)

theorem wipe_get (σ : St) (i : Nat) : ∀ vs : List Nat, (wipe σ vs)[i]? = if i ∈ vs ∧ i < σ.length then some none else σ[i]?
  | [] => by simp [wipe]
  | v :: vs => by
    unfold wipe
    by_cases e : v = i
    · subst e
      by_cases h : v < σ.length
      · rw [List.getElem?_set_self (by rw [wipe_length]; exact h)]
        simp [h]
      · rw [List.getElem?_eq_none (by rw [List.length_set, wipe_length]; omega), if_neg (by simp [h]), List.getElem?_eq_none (by omega)]
    · rw [List.getElem?_set_ne e, wipe_get σ i vs]
      have : (i ∈ v :: vs) = (i ∈ vs) := by simp [Ne.symm e]
      simp only [this]
theorem wipeC_length (ε : Cs) : ∀ vs : List Nat, (wipeC ε vs).length = ε.length
  | [] => rfl
  | v :: vs => by unfold wipeC; rw [List.length_set, wipeC_length ε vs]
theorem wipeC_get (ε : Cs) (i : Nat) : ∀ vs : List Nat, (wipeC ε vs)[i]? = if i ∈ vs ∧ i < ε.length then some .no else ε[i]?
  | [] => by simp [wipeC]
  | v :: vs => by
    unfold wipeC
    by_cases e : v = i
    · subst e
      by_cases h : v < ε.length
      · rw [List.getElem?_set_self (by rw [wipeC_length]; exact h)]
        simp [h]
      · rw [List.getElem?_eq_none (by rw [List.length_set, wipeC_length]; omega), if_neg (by simp [h]), List.getElem?_eq_none (by omega)]
    · rw [List.getElem?_set_ne e, wipeC_get ε i vs]
      have : (i ∈ v :: vs) = (i ∈ vs) := by simp [Ne.symm e]
      simp only [this]
theorem restC_length (ε ε1 : Cs) : ∀ vs : List Nat, (restC ε ε1 vs).length = ε.length
  | [] => rfl
  | v :: vs => by
    unfold restC
    split
    · rw [List.length_set, restC_length ε ε1 vs]
    · exact restC_length ε ε1 vs
theorem restC_get (ε ε1 : Cs) (hl : ε.length = ε1.length) (i : Nat) : ∀ vs : List Nat, (restC ε ε1 vs)[i]? = if i ∈ vs then ε1[i]? else ε[i]?
  | [] => by simp [restC]
  | v :: vs => by
    unfold restC
    by_cases e : v = i
    · subst e
      split
      · rename_i c hc
        have hv : v < ε1.length := (List.getElem?_eq_some_iff.mp hc).1
        rw [List.getElem?_set_self (by rw [restC_length, hl]; exact hv)]
        simp [hc]
      · rename_i hc
        have hv : ¬ v < ε1.length := fun z => by rw [List.getElem?_eq_getElem z] at hc; cases hc
        rw [List.getElem?_eq_none (by rw [restC_length]; omega)]
        simp [hc]
    · have : (i ∈ v :: vs) = (i ∈ vs) := by simp [Ne.symm e]
      split
      · rw [List.getElem?_set_ne e, restC_get ε ε1 hl i vs]
        simp only [this]
      · rw [restC_get ε ε1 hl i vs]
        simp only [this]

section
variable {K : PySem.W.Frag} {F H F' H' : Hp} {σ σ' : St} {ε ε' : Cs} {own : List Nat}
theorem own_wipe {a : Addr} (h : Own (wipe σ own) (wipeC ε own) a) : ∃ (i : Nat) (ds : List D), i ∉ own ∧ ε[i]? = some (.ls ds) ∧ σ[i]? = some (some (.ref a)) := by
  obtain ⟨i, ds, h1, h2⟩ := h
  rw [wipeC_get] at h1
  rw [wipe_get] at h2
  split at h1
  · cases h1
  · split at h2
    · cases h2
    · rename_i n1 n2
      refine ⟨i, ds, fun z => n1 ⟨z, (List.getElem?_eq_some_iff.mp h1).1⟩, h1, h2⟩
theorem own_wipe' {a : Addr} (h : Own (wipe σ own) (wipeC ε own) a) : Own σ ε a := let ⟨i, ds, _, h1, h2⟩ := own_wipe h; ⟨i, ds, h1, h2⟩
theorem Ok.wipe (o : Ok K F H σ ε) (own : List Nat) : Ok K F H (L2.wipe σ own) (wipeC ε own) := by
  have ce : ∀ {j : Nat} {c : C}, c ≠ .no → (wipeC ε own)[j]? = some c → ε[j]? = some c ∧ (L2.wipe σ own)[j]? = σ[j]? := fun {j c} hc h => by
    rw [wipeC_get] at h
    split at h
    · cases h; exact absurd rfl hc
    · rename_i n
      refine ⟨h, ?_⟩
      rw [wipe_get, if_neg fun z => n ⟨z.1, by rw [← o.len]; exact z.2⟩]
  refine ⟨o.sub, by rw [wipe_length, wipeC_length, o.len], fun j d h => ?_, fun j ds h => ?_, fun j k a ds es h1 h2 h3 h4 => ?_⟩
  · obtain ⟨h1, h2⟩ := ce (by intro z; cases z) h
    rw [h2]
    exact o.sh j d h1
  · obtain ⟨h1, h2⟩ := ce (by intro z; cases z) h
    rw [h2]
    exact o.ls j ds h1
  · obtain ⟨g1, g2⟩ := ce (by intro z; cases z) h1
    obtain ⟨g3, g4⟩ := ce (by intro z; cases z) h2
    rw [g2] at h3
    rw [g4] at h4
    exact o.inj j k a _ _ g1 g3 h3 h4
/-- the block's own names forgotten -/
theorem Ok.wipeS (o : Ok K F H σ ε) (own : List Nat) : StpS K (· ∉ own) F H σ ε F H (L2.wipe σ own) (wipeC ε own) := by
  refine ⟨o.wipe own, ⟨Same.refl F, fun _ _ h _ => h, fun b h h' => absurd h h', fun _ h => h, fun b h => .inl (own_wipe' h)⟩, fun i hi => ?_, fun i ds c hi h1 h2 => ?_, wipeC_length _ _⟩
  · rw [wipe_get, wipeC_get, if_neg fun z => hi z.1, if_neg fun z => hi z.1]
    exact ⟨rfl, Go.refl _⟩
  · rw [wipeC_get, if_neg fun z => hi z.1]
    exact .inl ⟨ds, h1⟩
theorem wipe_of_bnd {S : Nat → Prop} (hS : ∀ i, S i → i ∈ own) (h : ∀ i : Nat, ¬ S i → σ'[i]? = σ[i]?) (hl : σ'.length = σ.length) : L2.wipe σ' own = L2.wipe σ own := by
  apply List.ext_getElem?
  intro i
  rw [wipe_get, wipe_get, hl]
  by_cases hi : i ∈ own ∧ i < σ.length
  · rw [if_pos hi, if_pos hi]
  · rw [if_neg hi, if_neg hi]
    by_cases hs : S i
    · have := hS i hs
      have hn : ¬ i < σ.length := fun z => hi ⟨this, z⟩
      rw [List.getElem?_eq_none (by omega), List.getElem?_eq_none (by omega)]
    · exact h i hs
theorem wipe_wipe (σ : St) (own : List Nat) : L2.wipe (L2.wipe σ own) own = L2.wipe σ own := by
  apply List.ext_getElem?
  intro i
  rw [wipe_get, wipe_length, wipe_get]
  split <;> rfl
/-- behind the block: the names' own cells are back -/
theorem unwipe {F1 H1 : Hp} {ε1 ε2 : Cs} (o : Ok K F H σ ε1) (s : StpS K (· ∉ own) F H (L2.wipe σ own) (wipeC ε1 own) F1 H1 (L2.wipe σ own) ε2) : Stp K F H σ ε1 F1 H1 (restC ε2 ε1 own) := by
  have hl : ε2.length = ε1.length := by rw [s.ln, wipeC_length]
  have nw : ∀ {i : Nat} {ds : List D} {a : Addr}, i ∈ own → ε1[i]? = some (.ls ds) → σ[i]? = some (some (.ref a)) → ¬ Own (L2.wipe σ own) (wipeC ε1 own) a := fun {i ds a} hi h1 h2 z => by
    obtain ⟨j, es, hj, g1, g2⟩ := own_wipe z
    have := o.inj i j a _ _ h1 g1 h2 g2
    subst this
    exact hj hi
  have go : ∀ i : Nat, Go ε1[i]? (restC ε2 ε1 own)[i]? := fun i => by
    rw [restC_get _ _ hl]
    split
    · exact Go.refl _
    · rename_i hi
      have := (s.lk i hi).2
      rw [wipeC_get, if_neg fun z => hi z.1] at this
      exact this
  have sl : ∀ {i : Nat}, i ∉ own → (L2.wipe σ own)[i]? = σ[i]? := fun {i} hi => by rw [wipe_get, if_neg fun z => hi z.1]
  refine ⟨⟨s.ok.sub, by rw [restC_length, hl, o.len], fun i d h => ?_, fun i ds h => ?_, fun i j a ds es h1 h2 h3 h4 => ?_⟩, ⟨s.fr.fm, fun b u h n => s.fr.keep b u h fun z => n (own_wipe' z), fun b h h' => (s.fr.ff b h h').imp id own_wipe', s.fr.live, fun b h => ?_⟩, go, fun i ds a h1 h2 => ?_⟩
  · rw [restC_get _ _ hl] at h
    split at h
    · obtain ⟨w, e1, e2⟩ := o.sh i d h
      exact ⟨w, e1, Rep.mono s.fr.fm _ _ e2⟩
    · rename_i hi
      obtain ⟨w, e1, e2⟩ := s.ok.sh i d h
      rw [sl hi] at e1
      exact ⟨w, e1, e2⟩
  · rw [restC_get _ _ hl] at h
    split at h
    · rename_i hi
      obtain ⟨a, vs, e1, e2, e3, e4⟩ := o.ls i ds h
      have no := nw hi h e1
      exact ⟨a, vs, e1, s.fr.keep _ _ e2 no, nofz s.fr e2 e3 no, Reps.mono s.fr.fm _ _ e4⟩
    · rename_i hi
      obtain ⟨a, vs, e1, e2⟩ := s.ok.ls i ds h
      rw [sl hi] at e1
      exact ⟨a, vs, e1, e2⟩
  · obtain ⟨fs, e1⟩ := (go i).ls_back h1
    obtain ⟨gs, e2⟩ := (go j).ls_back h2
    exact o.inj i j a _ _ e1 e2 h3 h4
  · obtain ⟨i, ds, h1, h2⟩ := h
    obtain ⟨fs, e1⟩ := (go i).ls_back h1
    exact .inl ⟨i, fs, e1, h2⟩
  · rw [restC_get _ _ hl]
    split
    · exact .inl ⟨ds, h1⟩
    · rename_i hi
      exact s.fz i ds a hi (by rw [wipeC_get, if_neg fun z => hi z.1]; exact h1) (by rw [sl hi]; exact h2)
end

section
variable {K : PySem.W.Frag}
theorem tE_lc {src : SM} {bind : BM} {tests : TM} {elt : EM} {own : List Nat} {g : TG} {S : Nat → Prop} (hg : Gd K g bind S) (hS : ∀ i, S i → i ∈ own) {σ : St} {H : Hp} {Q : VK} (h : tE K (mLc src bind tests elt own) σ H Q) :
    tLc (tI K src) g (tT K tests) (tE K elt) own σ H Q := by
  obtain ⟨F, ε, c, ε', o, e, q⟩ := h
  unfold mLc at e
  cases e1 : src ε with
  | none => simp [e1] at e
  | some p =>
    obtain ⟨⟨ds, ws⟩, ε1⟩ := p
    simp only [e1, Option.bind_eq_bind, Option.bind_some] at e
    split at e
    · rename_i hws
      have hws : ∀ i ∈ ws, i ∉ own := by simpa using hws
      cases e2 : lcL ws ε1 bind tests elt own ds 0 (wipeC ε1 own) with
      | none => simp [e2] at e
      | some p2 =>
        obtain ⟨out, ε2⟩ := p2
        simp [e2] at e
        obtain ⟨rfl, rfl⟩ := e
        refine ⟨F, ε, ds, ws, ε1, o, e1, fun F1 H1 J s1 sr Da hDa => ?_⟩
        obtain ⟨G, Y, w, hw⟩ := sr
        have o1 := s1.ok
        have hF1 : F1 Da = none := o1.sub.free hDa
        refine lc_it w (fun i H2 => ∃ F2 ε2' accV acc rest, StpS K (· ∉ own) F1 H1 (L2.wipe σ own) (wipeC ε1 own) F2 H2 (L2.wipe σ own) ε2' ∧ ¬ Own (L2.wipe σ own) ε2' Da ∧ H2 Da = some (.lst accV) ∧ F2 Da = none ∧ Reps K F2 accV acc ∧
          lcL ws ε1 bind tests elt own (ds.drop i) acc.length ε2' = some (rest, ε2) ∧ acc ++ rest = out) ?_ ?_ ?_ ?_
        · -- the start
          refine ⟨F1, wipeC ε1 own, [], [], out, ?_, (o1.wipe own).not_own hDa, upd_same, hF1, rfl, e2, rfl⟩
          obtain ⟨s3, _, _⟩ := (Stp.refl (o1.wipe own)).laidL (u := .lst []) hDa
          exact s3.toS (o1.wipe own)
        · -- what is walked stands
          rintro i H2 _ ⟨F2, ε2', accV, acc, rest, A, B0, B1, B2, B3, C1, C2⟩
          have hsame : sameC ws ε1 ε2' := by
            cases hd : ds.drop i with
            | nil =>
              rw [hd] at C1
              unfold lcL at C1
              split at C1
              · assumption
              · cases C1
            | cons d r =>
              rw [hd] at C1
              unfold lcL at C1
              split at C1
              · assumption
              · cases C1
          exact (hw F2 H2 _ ε2' A.ok A.fr.fm (fun b u h n => A.fr.keep b u h fun z => n (own_wipe' z)) fun j hj => ⟨by rw [wipe_get, if_neg fun z => hws j hj z.1], hsame j hj⟩).1
        · -- one turn
          rintro i x H2 H3 hi ⟨F2, ε2', accV, acc, rest, A, B0, B1, B2, B3, C1, C2⟩ y
          have hd : ds.drop i = ds[i] :: ds.drop (i + 1) := by rw [List.drop_eq_getElem_cons hi]
          rw [hd] at C1
          unfold lcL at C1
          split at C1
          · rename_i hsame
            obtain ⟨_, hy⟩ := hw F2 H2 _ ε2' A.ok A.fr.fm (fun b u h n => A.fr.keep b u h fun z => n (own_wipe' z)) fun j hj => ⟨by rw [wipe_get, if_neg fun z => hws j hj z.1], hsame j hj⟩
            obtain ⟨F3, d, hdi, rd, gr⟩ := hy i x H3 hi y
            rw [List.getElem?_eq_getElem hi] at hdi
            cases hdi
            have sg := gr.stp A.ok
            have A3 := A.trans (sg.toS (L := (· ∉ own)) A.ok)
            cases eb : bind ds[i] ε2' with
            | none => simp [eb] at C1
            | some εb =>
              refine hg F3 H3 _ ε2' x _ εb _ A3.ok rd eb fun σ2 bd => ?_
              have lnσ : σ2.length = (L2.wipe σ own).length := by rw [bd.ok.len, bd.ln, A3.ok.len]
              have hwp : L2.wipe σ2 own = L2.wipe σ own := by rw [wipe_of_bnd hS (fun j hj => (bd.st j hj).1) lnσ, wipe_wipe]
              refine ⟨hwp, ?_⟩
              have A4 : StpS K (· ∉ own) F1 H1 (L2.wipe σ own) (wipeC ε1 own) F3 H3 σ2 εb := A3.trans (bd.stp.imp fun j hj z => hj (hS j z))
              cases et : tests εb with
              | none => simp [eb, et] at C1
              | some pt =>
                obtain ⟨b, εt⟩ := pt
                refine ⟨F3, εb, b, εt, bd.ok, et, fun F5 H5 s5 => ?_⟩
                have A5 := A4.trans (s5.toS (L := (· ∉ own)) bd.ok)
                have no5 : ¬ Own σ2 εt Da := fun z => B0 (bd.ow _ (s5.ow z))
                have B15 : H5 Da = some (.lst accV) := s5.fr.keep _ _ (gr.hm _ _ B1) fun z => B0 (bd.ow _ z)
                have B23 : F3 Da = none := nofz sg.fr B1 B2 B0
                have B25 : F5 Da = none := nofz s5.fr (gr.hm _ _ B1) B23 fun z => B0 (bd.ow _ z)
                have B35 := Reps.mono s5.fr.fm _ _ (Reps.mono gr.fm _ _ B3)
                simp only [eb, et, Option.bind_eq_bind, Option.bind_some] at C1
                cases b with
                | false =>
                  simp only [Bool.false_eq_true, if_false] at C1 ⊢
                  have A6 := A5.trans (s5.ok.wipeS own)
                  rw [hwp] at A6
                  exact ⟨F5, wipeC εt own, accV, acc, rest, A6, fun z => no5 (by rw [← hwp] at z; exact own_wipe' z), B15, B25, B35, C1, C2⟩
                | true =>
                  simp only [if_true] at C1 ⊢
                  cases ee : elt εt with
                  | none => simp [ee] at C1
                  | some pe =>
                    obtain ⟨ce, εe⟩ := pe
                    refine ⟨F5, εt, ce, εe, s5.ok, ee, fun v F6 H6 p6 => ?_⟩
                    have A6 := A5.trans (p6.st.toS (L := (· ∉ own)) s5.ok)
                    have no6 : ¬ Own σ2 εe Da := fun z => no5 (p6.st.ow z)
                    have B16 : H6 Da = some (.lst accV) := p6.st.fr.keep _ _ B15 no5
                    have B26 : F6 Da = none := nofz p6.st.fr B15 B25 no5
                    have B36 := Reps.mono p6.st.fr.fm _ _ B35
                    refine ⟨accV, B16, ?_⟩
                    simp only [ee, Option.bind_some] at C1
                    cases ec : cD ce with
                    | none => simp [ec] at C1
                    | some dd =>
                      simp only [ec, Option.bind_some] at C1
                      split at C1
                      · rename_i hsz
                        cases er : lcL ws ε1 bind tests elt own (ds.drop (i + 1)) (acc.length + 1) (wipeC εe own) with
                        | none => simp [er] at C1
                        | some pr =>
                          obtain ⟨rr, εr⟩ := pr
                          simp [er] at C1
                          obtain ⟨rfl, rfl⟩ := C1
                          -- the element is frozen
                          have fz : ∃ F7, StpS K (· ∉ own) F1 H1 (L2.wipe σ own) (wipeC ε1 own) F7 H6 σ2 εe ∧ Rep K F7 v dd ∧ F7 Da = none ∧ Same F6 F7 := by
                            cases ce with
                            | no => cases ec
                            | sh d' =>
                              cases ec
                              exact ⟨F6, A6, p6.rep, B26, Same.refl _⟩
                            | ls es =>
                              cases ec
                              obtain ⟨a, vs, rfl, k1, k2, k3⟩ := p6.rep
                              have hn := p6.new es a rfl rfl
                              obtain ⟨s7, r7, fm7⟩ := p6.st.freezeT s5.ok k1 k2 k3 hn
                              refine ⟨_, A5.trans (s7.toS (L := (· ∉ own)) s5.ok), r7, ?_, fm7⟩
                              rw [upd_ne]
                              · exact B26
                              · rintro rfl
                                rw [B15] at hn
                                cases hn
                          obtain ⟨F7, A7, r7, B27, fm7⟩ := fz
                          have l1 : accV.length < sizeLine := by rw [B36.length]; exact hsz
                          refine ⟨l1, F7, wipeC εe own, accV ++ [v], acc ++ [dd], rr, ?_, fun z => no6 (by rw [← hwp] at z; exact own_wipe' z), upd_same, B27, (Reps.mono fm7 _ _ B36).append (Reps.one r7), by rw [List.length_append]; exact er, by simpa using C2⟩
                          -- the new list grew
                          have A8 := A7.trans (A7.ok.wipeS own)
                          rw [hwp] at A8
                          have no8 : ¬ Own (L2.wipe σ own) (wipeC εe own) Da := fun z => no6 (by rw [← hwp] at z; exact own_wipe' z)
                          refine ⟨⟨fun b u h => ?_, A8.ok.len, A8.ok.sh, fun j es hj => ?_, A8.ok.inj⟩, ⟨A8.fr.fm, fun b u h n => ?_, A8.fr.ff, fun b h => ?_, A8.fr.own⟩, A8.lk, A8.fz, A8.ln⟩
                          · rw [upd_ne]
                            · exact A8.ok.sub b u h
                            · rintro rfl
                              rw [B27] at h
                              cases h
                          · obtain ⟨a, vs, g1, g2, g3, g4⟩ := A8.ok.ls j es hj
                            refine ⟨a, vs, g1, ?_, g3, g4⟩
                            rw [upd_ne]
                            · exact g2
                            · rintro rfl
                              exact no8 ⟨j, es, hj, g1⟩
                          · rw [upd_ne]
                            · exact A8.fr.keep b u h n
                            · rintro rfl
                              rw [hDa] at h
                              cases h
                          · by_cases hb : b = Da
                            · subst hb; rw [upd_same]; exact fun z => nomatch z
                            · rw [upd_ne hb]; exact A8.fr.live b h
                      · cases C1
          · cases C1
        · -- the end
          rintro H2 ⟨F2, ε2', accV, acc, rest, A, B0, B1, B2, B3, C1, C2⟩
          rw [List.drop_length] at C1
          unfold lcL at C1
          split at C1
          · cases C1
            rw [List.append_nil] at C2
            subst C2
            have s2 := unwipe o1 A
            exact q _ F2 H2 ⟨s1.trans s2, ⟨Da, accV, rfl, B1, B2, B3⟩, fun es a _ z => by cases z; exact live_back s1.fr hDa⟩
          · cases C1
    · cases e
end
end L2.M

/-! Statements. -/
namespace L2.M
open PySem PySem.Spec PyProof.Rows

inductive Fl where
  | nx | bk | ct | rt (c : C)
abbrev XM := Cs → Option (Fl × Cs)
def NewR (io : List Nat) (σ : St) (ε : Cs) (H : Hp) (a : Addr) : Prop := H a = none ∨ ∃ (i : Nat) (ds : List D), i ∉ io ∧ ε[i]? = some (.ls ds) ∧ σ[i]? = some (some (.ref a))
def Fin (K : PySem.W.Frag) (io : List Nat) (D : Ends) (H : Hp) (σ : St) (ε : Cs) (F' H' : Hp) (σ' : St) : Fl → Prop
  | .nx => D.nx σ' H'
  | .bk => D.bk σ' H'
  | .ct => D.ct σ' H'
  | .rt c => ∀ v, RepC K F' H' v c → (∀ (ds : List M.D) (a : Addr), c = .ls ds → v = .ref a → NewR io σ ε H a) → D.rt v H'
def tS (K : PySem.W.Frag) (io : List Nat) (m : XM) : TS := fun D σ H => ∃ F ε f ε', Ok K F H σ ε ∧ m ε = some (f, ε') ∧ ∀ F' H' σ', StpS K (· ∈ io) F H σ ε F' H' σ' ε' → Fin K io D H σ ε F' H' σ' f

section
variable {K : PySem.W.Frag} {io : List Nat} {F H F1 H1 F' H' : Hp} {σ σ1 σ' : St} {ε ε1 ε' : Cs} {a : Addr}
theorem NewR.back (o : Ok K F H σ ε) (s : StpS K (· ∈ io) F H σ ε F1 H1 σ1 ε1) (n : NewR io σ1 ε1 H1 a) : NewR io σ ε H a := by
  rcases n with z | ⟨i, ds, hi, h1, h2⟩
  · exact .inl (live_back s.fr z)
  · rcases s.fr.own a ⟨i, ds, h1, h2⟩ with ⟨j, es, g1, g2⟩ | z
    · refine .inr ⟨j, es, fun hj => ?_, g1, g2⟩
      obtain ⟨e1, _⟩ := s.lk j hj
      rw [g2] at e1
      rcases s.fz j es a hj g1 g2 with ⟨fs, k⟩ | k
      · have := s.ok.inj i j a _ _ h1 k h2 e1
        subst this
        exact hi hj
      · obtain ⟨_, q⟩ := s.ok.own_ls ⟨i, ds, h1, h2⟩
        exact k q
    · exact .inl z
theorem NewR.imp {io' : List Nat} (h : ∀ i ∈ io, i ∈ io') (n : NewR io' σ ε H a) : NewR io σ ε H a := by
  rcases n with z | ⟨i, ds, hi, h1, h2⟩
  · exact .inl z
  · exact .inr ⟨i, ds, fun z => hi (h i z), h1, h2⟩
theorem Fin.back {D : Ends} {f : Fl} (o : Ok K F H σ ε) (s : StpS K (· ∈ io) F H σ ε F1 H1 σ1 ε1) (h : Fin K io D H σ ε F' H' σ' f) : Fin K io D H1 σ1 ε1 F' H' σ' f := by
  cases f with
  | rt c => exact fun v r n => h v r fun ds a e1 e2 => (n ds a e1 e2).back o s
  | _ => exact h
end

/-! ### blocks -/
def mSkip : XM := fun ε => some (.nx, ε)
def mSeq (m n : XM) : XM := fun ε => match m ε with
  | some (.nx, ε1) => n ε1
  | r => r
section
variable {X : Cx} {io : List Nat} {st : Stmt} {rest : List Stmt} {m n : XM} {e : Expr} {pos : Pos}
theorem ms_nil : PSs X [] (tS X.K io mSkip) := ⟨fun pins s σ H D I h => by
  obtain ⟨F, ε, f, ε', o, e, q⟩ := h
  cases e
  exact pss_nil.run pins s σ H D I (q F H σ (StpS.refl o))⟩
theorem ms_cons (h1 : PS X st (tS X.K io m)) (h2 : PSs X rest (tS X.K io n)) : PSs X (st :: rest) (tS X.K io (mSeq m n)) := ⟨fun pins s σ H D I h => by
  obtain ⟨F, ε, f, ε', o, e, q⟩ := h
  refine (pss_cons h1 h2).run pins s σ H D I ?_
  unfold mSeq at e
  split at e
  · rename_i ε1 e1
    refine ⟨F, ε, .nx, ε1, o, e1, fun F1 H1 σ1 s1 => ⟨F1, ε1, f, ε', s1.ok, e, fun F2 H2 σ2 s2 => ?_⟩⟩
    exact (q F2 H2 σ2 (s1.trans s2)).back o s1
  · rename_i r hr
    refine ⟨F, ε, f, ε', o, e, fun F1 H1 σ1 s1 => ?_⟩
    have := q F1 H1 σ1 s1
    cases f with
    | nx => exact (hr ε' e).elim
    | _ => exact this⟩
theorem ms_pass : PS X (.Pass pos) (tS X.K io mSkip) := ⟨fun pins s σ H D I h => by
  obtain ⟨F, ε, f, ε', o, e, q⟩ := h
  cases e
  exact ps_pass.run pins s σ H D I (q F H σ (StpS.refl o))⟩
def mFlow (f : Fl) : XM := fun ε => some (f, ε)
theorem ms_break : PS X (.Break pos) (tS X.K io (mFlow .bk)) := ⟨fun pins s σ H D I h => by
  obtain ⟨F, ε, f, ε', o, e, q⟩ := h
  cases e
  exact ps_break.run pins s σ H D I (q F H σ (StpS.refl o))⟩
theorem ms_continue : PS X (.Continue pos) (tS X.K io (mFlow .ct)) := ⟨fun pins s σ H D I h => by
  obtain ⟨F, ε, f, ε', o, e, q⟩ := h
  cases e
  exact ps_continue.run pins s σ H D I (q F H σ (StpS.refl o))⟩
theorem ms_doc {x j pos pos'} : PS X (.Expr (.Constant (.str x) j pos) pos') (tS X.K io mSkip) := ⟨fun pins s σ H D I h => by
  obtain ⟨F, ε, f, ε', o, e, q⟩ := h
  cases e
  exact ps_doc.run pins s σ H D I (q F H σ (StpS.refl o))⟩
/-- a statement that is not come to -/
def mStuck : XM := fun _ => none
theorem ms_never : PS X st (tS X.K io mStuck) := ⟨fun pins s σ H D I h => by
  obtain ⟨F, ε, f, ε', o, e, q⟩ := h
  cases e⟩

/-! ### small statements -/
theorem _root_.L2.PS.weak {t t' : TS} (h : PS X st t) (w : ∀ D σ H, t' D σ H → t D σ H) : PS X st t' := ⟨fun pins s σ H D I q => h.run pins s σ H D I (w D σ H q)⟩
def mExpr (m : EM) : XM := fun ε => do
  let (_, ε1) ← m ε
  some (.nx, ε1)
theorem ms_expr {m : EM} (he : PE X e (tE X.K m)) (hs : swapsWith e none pos.line X.env = pure false) : PS X (.Expr e pos) (tS X.K io (mExpr m)) := (ps_expr he hs).weak fun D σ H h => by
  obtain ⟨F, ε, f, ε', o, e, q⟩ := h
  unfold mExpr at e
  cases e1 : m ε with
  | none => simp [e1] at e
  | some p =>
    obtain ⟨c, ε1⟩ := p
    simp [e1] at e
    obtain ⟨rfl, rfl⟩ := e
    exact ⟨F, ε, c, ε1, o, e1, fun v F1 H1 p => q F1 H1 σ (p.st.toS o)⟩
def mRet (m : EM) : XM := fun ε => do
  let (c, ε1) ← m ε
  some (.rt c, ε1)
theorem ms_ret {m : EM} (he : PE X e (tE X.K m)) : PS X (.Return (some e) pos) (tS X.K io (mRet m)) := (ps_ret he).weak fun D σ H h => by
  obtain ⟨F, ε, f, ε', o, e, q⟩ := h
  unfold mRet at e
  cases e1 : m ε with
  | none => simp [e1] at e
  | some p =>
    obtain ⟨c, ε1⟩ := p
    simp [e1] at e
    obtain ⟨rfl, rfl⟩ := e
    exact ⟨F, ε, c, ε1, o, e1, fun v F1 H1 p => q F1 H1 σ (p.st.toS o) v p.rep fun ds a h1 h2 => .inl (p.new ds a h1 h2)⟩
def mRetN : XM := fun ε => some (.rt (.sh .none), ε)
theorem ms_retN : PS X (.Return none pos) (tS X.K io mRetN) := ps_retN.weak fun D σ H h => by
  obtain ⟨F, ε, f, ε', o, e, q⟩ := h
  cases e
  exact q F H σ (StpS.refl o) .non (by show Rep X.K F .non .none; simp only [Rep]) fun _ _ z => nomatch z
/-- a slot forgotten -/
theorem Ok.drop {K : PySem.W.Frag} {F H : Hp} {σ : St} {ε : Cs} (o : Ok K F H σ ε) (i : Nat) {io : List Nat} (hi : i ∉ io) : StpS K (· ∈ io) F H σ ε F H σ (ε.set i .no) := by
  have ce : ∀ {j : Nat} {c : C}, c ≠ .no → (ε.set i .no)[j]? = some c → ε[j]? = some c ∧ j ≠ i := fun {j c} hc h => by
    by_cases e : j = i
    · subst e
      by_cases hl : j < ε.length
      · rw [List.getElem?_set_self hl] at h; cases h; exact absurd rfl hc
      · rw [List.getElem?_eq_none (by simpa using hl)] at h; cases h
    · rw [List.getElem?_set_ne (Ne.symm e)] at h; exact ⟨h, e⟩
  refine ⟨⟨o.sub, by simp [o.len], fun j d h => o.sh j d (ce (by intro z; cases z) h).1, fun j ds h => o.ls j ds (ce (by intro z; cases z) h).1, fun j k a ds es h1 h2 h3 h4 => o.inj j k a _ _ (ce (by intro z; cases z) h1).1 (ce (by intro z; cases z) h2).1 h3 h4⟩,
    ⟨Same.refl F, fun _ _ h _ => h, fun b h h' => absurd h h', fun _ h => h, fun b ⟨j, ds, h1, h2⟩ => .inl ⟨j, ds, (ce (by intro z; cases z) h1).1, h2⟩⟩, fun j hj => ?_, fun j ds c hj h1 h2 => ?_, by simp⟩
  · have : i ≠ j := fun z => hi (z ▸ hj)
    rw [List.getElem?_set_ne this]
    exact ⟨rfl, Go.refl _⟩
  · have : i ≠ j := fun z => hi (z ▸ hj)
    rw [List.getElem?_set_ne this]
    exact .inl ⟨ds, h1⟩
/-- return name: an own list is handed out -/
def mRetV (io : List Nat) (i : Nat) : XM := fun ε => match ε[i]? with
  | some (.sh d) => some (.rt (.sh d), ε)
  | some (.ls ds) => if io.contains i then some (.rt (.sh (.list ds)), ε.set i (.sh (.list ds))) else some (.rt (.ls ds), ε.set i .no)
  | _ => none
theorem ms_retV {i : Nat} {x : Str} {p : Pos} (h : PE X (.Name x p) (tVar i)) : PS X (.Return (some (.Name x p)) pos) (tS X.K io (mRetV io i)) := (ps_ret h).weak fun D σ H h => by
  obtain ⟨F, ε, f, ε', o, e, q⟩ := h
  unfold mRetV at e
  split at e
  · rename_i d hd
    cases e
    obtain ⟨v, h1, h2⟩ := o.sh i d hd
    exact ⟨v, h1, q F H σ (StpS.refl o) v h2 fun _ _ z => nomatch z⟩
  · rename_i ds hd
    split at e
    · cases e
      obtain ⟨a, F', h1, _, s, r, _⟩ := o.freeze hd
      exact ⟨_, h1, q F' H σ (s.toS o) _ r fun _ _ z => nomatch z⟩
    · rename_i hio
      cases e
      obtain ⟨a, vs, h1, h2, h3, h4⟩ := o.ls i ds hd
      have hni : i ∉ io := by simpa using hio
      exact ⟨_, h1, q F H σ (o.drop i hni) _ ⟨a, vs, rfl, h2, h3, h4⟩ fun es b e1 e2 => by cases e2; exact .inr ⟨i, ds, hni, hd, h1⟩⟩
  · cases e
def mIf (t : TM) (m n : XM) : XM := fun ε => do
  let (b, ε1) ← t ε
  if b then m ε1 else n ε1
theorem ms_if {c : Expr} {a b : List Stmt} {t : TM} (hc : PT X c (tT X.K t)) (ha : PSs X a (tS X.K io m)) (hb : PSs X b (tS X.K io n)) : PS X (.If c a b pos) (tS X.K io (mIf t m n)) := (ps_if hc ha hb).weak fun D σ H h => by
  obtain ⟨F, ε, f, ε', o, e, q⟩ := h
  unfold mIf at e
  cases e1 : t ε with
  | none => simp [e1] at e
  | some p =>
    obtain ⟨k, ε1⟩ := p
    simp [e1] at e
    refine ⟨F, ε, k, ε1, o, e1, fun F1 H1 s1 => ?_⟩
    have S1 := s1.toS (L := (· ∈ io)) o
    cases k with
    | true =>
      simp at e
      exact iteT ⟨F1, ε1, f, ε', s1.ok, e, fun F2 H2 σ2 s2 => (q F2 H2 σ2 (S1.trans s2)).back o S1⟩
    | false =>
      simp at e
      exact iteF ⟨F1, ε1, f, ε', s1.ok, e, fun F2 H2 σ2 s2 => (q F2 H2 σ2 (S1.trans s2)).back o S1⟩

/-! ### stores -/
/-- a value put into a slot -/
theorem Post.put {K : PySem.W.Frag} {F H F' H' : Hp} {σ : St} {ε ε' : Cs} {v : V} {c : C} (o : Ok K F H σ ε) (p : Post K F H σ ε F' H' ε' v c) {i : Nat} {io : List Nat} (hi : i < ε'.length) (hio : i ∉ io) :
    StpS K (· ∈ io) F H σ ε F' H' (σ.set i (some v)) (ε'.set i c) := by
  have S1 := p.st.toS (L := (· ∈ io)) o
  have ok := p.st.ok
  have hs : i < σ.length := by rw [ok.len]; exact hi
  cases c with
  | no => exact p.rep.elim
  | sh d =>
    have b := ok.put hi (show Rep K F' v d from p.rep)
    exact S1.trans (b.stp.imp fun j hj z => hio (z ▸ hj))
  | ls ds =>
    obtain ⟨a, vs, rfl, h2, h3, h4⟩ := p.rep
    have hn := p.new ds a rfl rfl
    have no : ¬ Own σ ε' a := fun z => o.not_own hn (p.st.ow z)
    have ce : ∀ {j : Nat} {es : List D}, (ε'.set i (.ls ds))[j]? = some (.ls es) → (j = i ∧ es = ds) ∨ (j ≠ i ∧ ε'[j]? = some (.ls es)) := fun {j es} h => by
      by_cases e : j = i
      · subst e; rw [List.getElem?_set_self hi] at h; cases h; exact .inl ⟨rfl, rfl⟩
      · rw [List.getElem?_set_ne (Ne.symm e)] at h; exact .inr ⟨e, h⟩
    have ne : ∀ {j : Nat} {es : List D} {b : Addr}, ε'[j]? = some (.ls es) → σ[j]? = some (some (.ref b)) → b ≠ a := fun {j es b} g1 g2 z => no ⟨j, es, g1, z ▸ g2⟩
    refine ⟨⟨ok.sub, by simp [ok.len], fun j d h => ?_, fun j es h => ?_, fun j k b es fs g1 g2 g3 g4 => ?_⟩, ⟨S1.fr.fm, S1.fr.keep, S1.fr.ff, S1.fr.live, fun b hb => ?_⟩, fun j hj => ?_, fun j es b hj g1 g2 => ?_, by simp [S1.ln]⟩
    · by_cases e : j = i
      · subst e; rw [List.getElem?_set_self hi] at h; cases h
      · rw [List.getElem?_set_ne (Ne.symm e)] at h ⊢; exact ok.sh j d h
    · rcases ce h with ⟨rfl, rfl⟩ | ⟨e, h⟩
      · exact ⟨a, vs, List.getElem?_set_self hs, h2, h3, h4⟩
      · rw [List.getElem?_set_ne (Ne.symm e)]; exact ok.ls j es h
    · rcases ce g1 with ⟨rfl, rfl⟩ | ⟨e1, g1'⟩
      · rcases ce g2 with ⟨rfl, rfl⟩ | ⟨e2, g2'⟩
        · rfl
        · rw [List.getElem?_set_self hs] at g3
          rw [List.getElem?_set_ne (Ne.symm e2)] at g4
          cases g3
          exact absurd rfl (ne g2' g4)
      · rcases ce g2 with ⟨rfl, rfl⟩ | ⟨e2, g2'⟩
        · rw [List.getElem?_set_self hs] at g4
          rw [List.getElem?_set_ne (Ne.symm e1)] at g3
          cases g4
          exact absurd rfl (ne g1' g3)
        · rw [List.getElem?_set_ne (Ne.symm e1)] at g3
          rw [List.getElem?_set_ne (Ne.symm e2)] at g4
          exact ok.inj j k b _ _ g1' g2' g3 g4
    · obtain ⟨j, es, g1, g2⟩ := hb
      rcases ce g1 with ⟨rfl, rfl⟩ | ⟨e1, g1'⟩
      · rw [List.getElem?_set_self hs] at g2
        cases g2
        exact .inr hn
      · rw [List.getElem?_set_ne (Ne.symm e1)] at g2
        exact S1.fr.own b ⟨j, es, g1', g2⟩
    · have : i ≠ j := fun z => hio (z ▸ hj)
      rw [List.getElem?_set_ne this, List.getElem?_set_ne this]
      exact S1.lk j hj
    · have : i ≠ j := fun z => hio (z ▸ hj)
      rw [List.getElem?_set_ne this]
      exact S1.fz j es b hj g1 g2
def mSet (io : List Nat) (i : Nat) (m : EM) : XM := fun ε => do
  let (c, ε1) ← m ε
  if i < ε1.length ∧ i ∉ io then some (.nx, ε1.set i c) else none
theorem tS_set {K : PySem.W.Frag} {i : Nat} {m : EM} {D : Ends} {σ : St} {H : Hp} (h : tS K io (mSet io i m) D σ H) : tAsg (tE K m) (gName i) D σ H := by
  obtain ⟨F, ε, f, ε', o, e, q⟩ := h
  unfold mSet at e
  cases e1 : m ε with
  | none => simp [e1] at e
  | some p =>
    obtain ⟨c, ε1⟩ := p
    simp [e1] at e
    obtain ⟨⟨hi, hio⟩, rfl, rfl⟩ := e
    exact ⟨F, ε, c, ε1, o, e1, fun v F1 H1 p => q F1 H1 _ (p.put o hi hio)⟩
theorem ms_set {i : Nat} {x : Str} {m : EM} {p : Pos} (hN : X.N.Nodup) (hi : X.N[i]? = some x) (hx : Loc X.env.scope x) (he : PE X e (tE X.K m)) (hs : swapsWith e (some (.Name x p)) pos.line X.env = pure false) (hf : X.fn x = true ∨ X.env.scope.names.lookup x = some .local) :
    PS X (.Assign [.Name x p] e pos) (tS X.K io (mSet io i m)) := (ps_set hN hi hx he hs hf).weak fun D σ H h => tS_set h
/-- a target of several names: the value is frozen data -/
def mAsg (ts io : List Nat) (b : BM) (m : EM) : XM := fun ε => do
  let (c, ε1) ← m ε
  let d ← (match c with | .sh d => some d | _ => none)
  let ε2 ← b d ε1
  if ts.all (fun i => !io.contains i) then some (.nx, ε2) else none
theorem tS_asg {K : PySem.W.Frag} {ts : List Nat} {b : BM} {g : TG} {m : EM} (hg : Gd K g b (· ∈ ts)) {D : Ends} {σ : St} {H : Hp} (h : tS K io (mAsg ts io b m) D σ H) : tAsg (tE K m) g D σ H := by
  obtain ⟨F, ε, f, ε', o, e, q⟩ := h
  unfold mAsg at e
  cases e1 : m ε with
  | none => simp [e1] at e
  | some p =>
    obtain ⟨c, ε1⟩ := p
    cases c with
    | no => simp [e1] at e
    | ls ds => simp [e1] at e
    | sh d =>
      cases e2 : b d ε1 with
      | none => simp [e1, e2] at e
      | some ε2 =>
        simp only [e1, e2, Option.bind_eq_bind, Option.bind_some] at e
        split at e
        · rename_i hts
          cases e
          have hts : ∀ i ∈ ts, i ∉ io := by simpa using hts
          refine ⟨F, ε, .sh d, ε1, o, e1, fun v F1 H1 p => ?_⟩
          refine hg F1 H1 σ ε1 v d ε' _ p.st.ok p.rep e2 fun σ2 bd => ?_
          exact q F1 H1 σ2 ((p.st.toS o).trans (bd.stp.imp fun j hj z => hts j z hj))
        · cases e
theorem ms_asg {tg : Expr} {ts : List Nat} {b : BM} {g : TG} {m : EM} (hg : Gd X.K g b (· ∈ ts)) (he : PE X e (tE X.K m)) (hp : PG X tg g) (hs : swapsWithSole [tg] e pos.line X.env = pure false) (hw : swappedStores [tg] e X.env = pure none)
    (h1 : (assignEach [tg] X.env).map (·.2) = [assign tg X.env]) : PS X (.Assign [tg] e pos) (tS X.K io (mAsg ts io b m)) := (ps_asg he hp hs hw h1).weak fun D σ H h => tS_asg hg h
end

/-! ### owned lists changed in place -/
section
variable {K : PySem.W.Frag} {F H : Hp} {σ : St} {ε : Cs}
/-- an own list rewritten -/
theorem Ok.wr (o : Ok K F H σ ε) {i : Nat} {ds es : List D} {a : Addr} {ws : List V} (h : ε[i]? = some (.ls ds)) (ha : σ[i]? = some (some (.ref a))) (r : Reps K F ws es) :
    Stp K F H σ ε F (upd H a (.lst ws)) (ε.set i (.ls es)) := by
  have hi : i < ε.length := (List.getElem?_eq_some_iff.mp h).1
  obtain ⟨b, vs, h1, h2, h3, h4⟩ := o.ls i ds h
  rw [ha] at h1
  cases h1
  have ow : Own σ ε a := ⟨i, ds, h, ha⟩
  have go : ∀ j : Nat, Go ε[j]? (ε.set i (.ls es))[j]? := fun j => by
    by_cases e : j = i
    · subst e; rw [List.getElem?_set_self hi]; exact .inr ⟨ds, h, .inl ⟨es, rfl⟩⟩
    · rw [List.getElem?_set_ne (Ne.symm e)]; exact Go.refl _
  refine ⟨⟨fun b u e => ?_, by simp [o.len], fun j d hj => ?_, fun j fs hj => ?_, fun j k b fs gs g1 g2 g3 g4 => ?_⟩, ⟨Same.refl F, fun b u e n => ?_, fun b e e' => absurd e e', fun b e => ?_, fun b ⟨j, fs, g1, g2⟩ => ?_⟩, go, fun j fs b g1 g2 => ?_⟩
  · rw [upd_ne]
    · exact o.sub b u e
    · rintro rfl; rw [h3] at e; cases e
  · by_cases e : j = i
    · subst e; rw [List.getElem?_set_self hi] at hj; cases hj
    · rw [List.getElem?_set_ne (Ne.symm e)] at hj; exact o.sh j d hj
  · by_cases e : j = i
    · subst e
      rw [List.getElem?_set_self hi] at hj
      cases hj
      exact ⟨a, ws, ha, upd_same, h3, r⟩
    · rw [List.getElem?_set_ne (Ne.symm e)] at hj
      obtain ⟨b, us, g1, g2, g3, g4⟩ := o.ls j fs hj
      refine ⟨b, us, g1, ?_, g3, g4⟩
      rw [upd_ne]
      · exact g2
      · rintro rfl
        exact e (o.inj j i _ _ _ hj h g1 ha)
  · obtain ⟨_, e1⟩ := (go j).ls_back g1
    obtain ⟨_, e2⟩ := (go k).ls_back g2
    exact o.inj j k b _ _ e1 e2 g3 g4
  · rw [upd_ne]
    · exact e
    · rintro rfl; exact n ow
  · by_cases hb : b = a
    · subst hb; rw [upd_same]; exact fun z => nomatch z
    · rw [upd_ne hb]; exact e
  · obtain ⟨_, e1⟩ := (go j).ls_back g1
    exact .inl ⟨j, _, e1, g2⟩
  · by_cases e : j = i
    · subst e; rw [List.getElem?_set_self hi]; exact .inl ⟨es, rfl⟩
    · rw [List.getElem?_set_ne (Ne.symm e)]; exact .inl ⟨fs, g1⟩
end
/-- an own list changed by a table, the operand e at hand: what is left, what is handed back -/
def upO (i : Nat) (f : List D → List D → Option (D × List D)) (ds : List D) (ε : Cs) : Option (D × Cs) := match ε[i]? with
  | some (.ls xs) => do
    let (d, ys) ← f xs ds
    some (d, ε.set i (.ls ys))
  | _ => none
/-- xs.append(e) -/
def mApp (i : Nat) (m : EM) : XM := fun ε => match ε[i]? with
  | some (.ls _) => do
    let (c, ε1) ← m ε
    let d ← cD c
    match ε1[i]? with
      | some (.ls xs) => if xs.length < sizeLine then some (.nx, ε1.set i (.ls (xs ++ [d]))) else none
      | _ => none
  | _ => none
theorem Post.frz {K : PySem.W.Frag} {F H F' H' : Hp} {σ : St} {ε ε' : Cs} {v : V} {c : C} {d : D} (o : Ok K F H σ ε) (p : Post K F H σ ε F' H' ε' v c) (h : cD c = some d) : ∃ F2, Stp K F H σ ε F2 H' ε' ∧ Rep K F2 v d ∧ Same F' F2 := by
  cases c with
  | no => cases h
  | sh d' => cases h; exact ⟨F', p.st, p.rep, Same.refl _⟩
  | ls ds =>
    cases h
    obtain ⟨a, vs, rfl, k1, k2, k3⟩ := p.rep
    obtain ⟨s, r, fm⟩ := p.st.freezeT o k1 k2 k3 (p.new ds a rfl rfl)
    exact ⟨_, s, r, fm⟩
section
variable {X : Cx} {io : List Nat} {pos : Pos}
theorem ms_app {i : Nat} {m : EM} {e : Expr} {x : Str} {p p2 p3 : Pos} (hv : PE X (.Name x p) (tVar i)) (he : PE X e (tE X.K m))
    (hbm : ∀ {to : TE} {t : TA}, PE X (.Name x p) to → PA X [e] t → PE X (.Call (.Attribute (.Name x p) "append" p2) [e] [] p3) (tBM X.K "list" rAppend to t)) (hst : starEach [e] X.env = [(false, eval e X.env)])
    (hs : swapsWith (.Call (.Attribute (.Name x p) "append" p2) [e] [] p3) none pos.line X.env = pure false) : PS X (.Expr (.Call (.Attribute (.Name x p) "append" p2) [e] [] p3) pos) (tS X.K io (mApp i m)) :=
  (ps_expr (hbm hv (pa_cons he pa_nil hst)) hs).weak fun D σ H h => by
    obtain ⟨F, ε, f, ε', o, e, q⟩ := h
    unfold mApp at e
    split at e
    · rename_i xs0 hx0
      cases e1 : m ε with
      | none => simp [e1] at e
      | some p =>
        obtain ⟨c, ε1⟩ := p
        cases ec : cD c with
        | none => simp [e1, ec] at e
        | some d =>
          simp only [e1, ec, Option.bind_eq_bind, Option.bind_some] at e
          split at e
          · rename_i xs hx
            split at e
            · rename_i hl
              cases e
              obtain ⟨a, vs, h1, h2, h3, h4⟩ := o.ls i _ hx0
              refine ⟨_, h1, .inl ⟨rfl, vs, .inl (.inl h2)⟩, F, ε, c, ε1, o, e1, fun v F1 H1 p => ?_⟩
              obtain ⟨F2, s2, r2, fm2⟩ := p.frz o ec
              obtain ⟨a', vs', g1, g2, g3, g4⟩ := s2.ok.ls i _ hx
              rw [h1] at g1
              cases g1
              refine ⟨a, vs', v, rfl, rfl, g2, by rw [g4.length]; exact hl, ?_⟩
              exact q F2 _ σ ((s2.trans (s2.ok.wr hx h1 (g4.append (Reps.one r2)))).toS o)
            · cases e
          · cases e
    · cases e
/-- xs[k] = e -/
def mSetIx (i : Nat) (m : EM) (ix : OM) : XM := fun ε => do
  let (c, ε1) ← m ε
  let d ← cD c
  match ε1[i]? with
  | some (.ls _) => do
    let (p, ε2) ← ix ε1
    let k ← bor ε2 p
    match k, ε2[i]? with
      | .int k, some (.ls xs) => do
        let j ← ixN xs.length k
        some (.nx, ε2.set i (.ls (xs.set j d)))
      | _, _ => none
  | _ => none
theorem ms_setIx {i : Nat} {m : EM} {ix : OM} {e k : Expr} {x : Str} {p p2 : Pos} (hv : PE X (.Name x p) (tVar i)) (he : PE X e (tE X.K m)) (hk : PE X k (tO X.K ix))
    (ha : ∀ v, assign (.Subscript (.Name x p) k p2) X.env v = (do
      let ov ← holding [v] (eval (.Name x p) X.env)
      let iv ← holding [v, ov] (eval k X.env)
      standAt p2
      holding [v, ov, iv] (setItem ov iv v)
      release [v, ov, iv] []))
    (hs : swapsWithSole [.Subscript (.Name x p) k p2] e pos.line X.env = pure false) (hw : swappedStores [.Subscript (.Name x p) k p2] e X.env = pure none)
    (h1 : (assignEach [.Subscript (.Name x p) k p2] X.env).map (·.2) = [assign (.Subscript (.Name x p) k p2) X.env]) : PS X (.Assign [.Subscript (.Name x p) k p2] e pos) (tS X.K io (mSetIx i m ix)) :=
  (ps_asg he (pg_sub hv hk set_list ha) hs hw h1).weak fun D σ H h => by
    obtain ⟨F, ε, f, ε', o, e, q⟩ := h
    unfold mSetIx at e
    cases e1 : m ε with
    | none => simp [e1] at e
    | some p =>
      obtain ⟨c, ε1⟩ := p
      cases ec : cD c with
      | none => simp [e1, ec] at e
      | some d =>
        simp only [e1, ec, Option.bind_eq_bind, Option.bind_some] at e
        split at e
        · rename_i xs0 hx0
          cases e2 : ix ε1 with
          | none => simp [e2] at e
          | some p2 =>
            obtain ⟨p, ε2⟩ := p2
            cases e3 : bor ε2 p with
            | none => simp [e2, e3] at e
            | some kd =>
              simp only [e2, e3, Option.bind_some] at e
              split at e
              · rename_i k xs hx
                cases e4 : ixN xs.length k with
                | none => simp [e4] at e
                | some j =>
                  simp [e4] at e
                  obtain ⟨rfl, rfl⟩ := e
                  refine ⟨F, ε, c, ε1, o, e1, fun v F1 H1 p1 => ?_⟩
                  obtain ⟨F2, s2, r2, fm2⟩ := p1.frz o ec
                  obtain ⟨w, hw⟩ := s2.ok.val (.inr ⟨_, hx0⟩)
                  refine ⟨w, hw, F2, ε1, p, ε2, s2.ok, e2, fun kv F3 H3 s3 r3 => ?_⟩
                  have s23 := s2.trans s3
                  obtain ⟨a, vs, g1, g2, g3, g4⟩ := s23.ok.ls i _ hx
                  rw [hw] at g1
                  cases g1
                  have rb := bors_ok (ds := [.int k]) s3.ok r3 (by simp [bors, e3])
                  obtain ⟨x', ex, hx'⟩ := rb.one
                  cases ex
                  have hk' : kv = .int k := by
                    rcases hx' with hx' | ⟨_, _, _, _, hx', _⟩
                    · simpa only [Rep] using hx'
                    · cases hx'
                  subst hk'
                  refine ⟨a, vs, k, j, rfl, rfl, g2, by rw [g4.length]; exact e4, ?_⟩
                  exact q F3 _ σ ((s23.trans (s23.ok.wr hx hw (Reps.set (Rep.mono s3.fr.fm _ _ r2) j g4))).toS o)
              · cases e
        · cases e

/-! ### while -/
def whileN (t : TM) (b : XM) : Nat → XM
  | 0, _ => none
  | n + 1, ε => do
    let (k, ε1) ← t ε
    if k then do
      let (f, ε2) ← b ε1
      match f with
        | .nx => whileN t b n ε2
        | .ct => whileN t b n ε2
        | .bk => some (.nx, ε2)
        | .rt c => some (.rt c, ε2)
    else some (.nx, ε1)
theorem whileN_succ {t : TM} {b : XM} : ∀ {n : Nat} {ε : Cs} {r : Fl × Cs}, whileN t b n ε = some r → whileN t b (n + 1) ε = some r
  | 0, ε, r, h => by cases h
  | n + 1, ε, r, h => by
    unfold whileN at h ⊢
    cases e1 : t ε with
    | none => simp [e1] at h
    | some p =>
      obtain ⟨k, ε1⟩ := p
      simp only [e1, Option.bind_eq_bind, Option.bind_some] at h ⊢
      cases k with
      | false => exact h
      | true =>
        simp only [if_true] at h ⊢
        cases e2 : b ε1 with
        | none => simp [e2] at h
        | some p2 =>
          obtain ⟨f, ε2⟩ := p2
          simp only [e2, Option.bind_some] at h ⊢
          cases f with
          | nx => exact whileN_succ h
          | ct => exact whileN_succ h
          | bk => exact h
          | rt c => exact h
theorem whileN_le {t : TM} {b : XM} {n m : Nat} {ε : Cs} {r : Fl × Cs} (h : whileN t b n ε = some r) (hm : n ≤ m) : whileN t b m ε = some r := by
  induction hm with
  | refl => exact h
  | step _ ih => exact whileN_succ ih
open Classical in
noncomputable def mWhile (t : TM) (b : XM) : XM := fun ε => if h : ∃ n, (whileN t b n ε).isSome then whileN t b h.choose ε else none
theorem mWhile_of {t : TM} {b : XM} {n : Nat} {ε : Cs} {r : Fl × Cs} (h : whileN t b n ε = some r) : mWhile t b ε = some r := by
  have hx : ∃ n, (whileN t b n ε).isSome := ⟨n, by rw [h]; rfl⟩
  unfold mWhile
  rw [dif_pos hx]
  obtain ⟨r', hr⟩ := Option.isSome_iff_exists.mp hx.choose_spec
  have h1 := whileN_le h (Nat.le_max_left n hx.choose)
  have h2 := whileN_le hr (Nat.le_max_right n hx.choose)
  rw [hr, ← h1, h2]
theorem mWhile_to {t : TM} {b : XM} {ε : Cs} {r : Fl × Cs} (h : mWhile t b ε = some r) : ∃ n, whileN t b n ε = some r := by
  unfold mWhile at h
  split at h
  · exact ⟨_, h⟩
  · cases h
theorem ms_while {c : Expr} {body : List Stmt} {t : TM} {b : XM} (hp : PassesOwn (model X.prog X.w) X.A X.env X.xe) (hc : PT X c (tT X.K t)) (hb : PSs X body (tS X.K io b)) : PS X (.While c body [] pos) (tS X.K io (mWhile t b)) :=
  (ps_while hp hc hb).weak fun D σ H h => by
    obtain ⟨F, ε, f, ε', o, e, q⟩ := h
    obtain ⟨n, e⟩ := mWhile_to e
    refine ⟨fun n σ2 H2 => ∃ F2 ε2, StpS X.K (· ∈ io) F H σ ε F2 H2 σ2 ε2 ∧ whileN t b n ε2 = some (f, ε'), ⟨n, F, ε, StpS.refl o, e⟩, ?_⟩
    rintro n σ2 H2 ⟨F2, ε2, s2, e2⟩
    cases n with
    | zero => cases e2
    | succ n =>
      unfold whileN at e2
      cases e3 : t ε2 with
      | none => simp [e3] at e2
      | some p =>
        obtain ⟨k, ε3⟩ := p
        simp only [e3, Option.bind_eq_bind, Option.bind_some] at e2
        refine ⟨F2, ε2, k, ε3, s2.ok, e3, fun F3 H3 s3 => ?_⟩
        have S3 := s2.trans (s3.toS s2.ok)
        cases k with
        | false =>
          simp only [Bool.false_eq_true, if_false] at e2
          cases e2
          exact iteF (q F3 H3 σ2 S3)
        | true =>
          simp only [if_true] at e2
          refine iteT ⟨fun σ' H' => ∃ F4 ε4, StpS X.K (· ∈ io) F H σ ε F4 H' σ' ε4 ∧ whileN t b n ε4 = some (f, ε'), fun σ' H' hN => ⟨n, Nat.lt_succ_self n, hN⟩, ?_⟩
          cases e4 : b ε3 with
          | none => simp [e4] at e2
          | some p4 =>
            obtain ⟨g, ε4⟩ := p4
            simp only [e4, Option.bind_some] at e2
            refine ⟨F3, ε3, g, ε4, s3.ok, e4, fun F4 H4 σ4 s4 => ?_⟩
            have S4 := S3.trans s4
            cases g with
            | nx => exact ⟨F4, ε4, S4, e2⟩
            | ct => exact ⟨F4, ε4, S4, e2⟩
            | bk => cases e2; exact q F4 H4 σ4 S4
            | rt c =>
              cases e2
              intro v r n
              exact q F4 H4 σ4 S4 v r fun ds a h1 h2 => (n ds a h1 h2).back o S3

/-! ### for -/
open Classical in
noncomputable def forL (ws : List Nat) (ε0 : Cs) (bind : BM) (body : XM) : List M.D → XM
  | [], ε => if sameC ws ε0 ε then some (.nx, ε) else none
  | d :: ds, ε => if sameC ws ε0 ε then do
      let ε1 ← bind d ε
      let (f, ε2) ← body ε1
      match f with
        | .nx => forL ws ε0 bind body ds ε2
        | .ct => forL ws ε0 bind body ds ε2
        | .bk => some (.nx, ε2)
        | .rt c => some (.rt c, ε2)
    else none
noncomputable def mFor (io' : List Nat) (src : SM) (bind : BM) (body : XM) : XM := fun ε => do
  let ((ds, ws), ε1) ← src ε
  if ws.all (fun i => io'.contains i) then forL ws ε1 bind body ds ε1 else none
theorem ms_for {iter tg : Expr} {body : List Stmt} {io' ts : List Nat} {src : SM} {g : TG} {bind : BM} {b : XM} (hp : PassesOwn (model X.prog X.w) X.A X.env X.xe) (hc : X.calm = true) (hi : PI X tg iter (tI X.K src)) (hg : PG X tg g) (hgd : Gd X.K g bind (· ∈ ts))
    (hb : PSs X body (tS X.K io' b)) (hio : ∀ i ∈ io, i ∈ io') (hts : ∀ i ∈ ts, i ∉ io') (hs : ∀ x, foldedSetIterable iter X.env x = pure x) : PS X (.For tg iter body [] pos) (tS X.K io (mFor io' src bind b)) :=
  (ps_for hp hc hi hg hb hs).weak fun D σ H h => by
    obtain ⟨F, ε, f, ε', o, e, q⟩ := h
    unfold mFor at e
    cases e1 : src ε with
    | none => simp [e1] at e
    | some p =>
      obtain ⟨⟨ds, ws⟩, ε1⟩ := p
      simp only [e1, Option.bind_eq_bind, Option.bind_some] at e
      split at e
      · rename_i hws
        have hws : ∀ i ∈ ws, i ∈ io' := by simpa using hws
        refine ⟨F, ε, ds, ws, ε1, o, e1, fun F1 H1 J s1 sr => ?_⟩
        obtain ⟨G, Y, w, hw⟩ := sr
        have o1 := s1.ok
        have S1 := s1.toS (L := (· ∈ io)) o
        have same : ∀ {l : List M.D} {ε2 : Cs} {r : Fl × Cs}, forL ws ε1 bind b l ε2 = some r → sameC ws ε1 ε2 := fun {l ε2 r} h => by
          cases l with
          | nil =>
            unfold forL at h
            split at h
            · assumption
            · cases h
          | cons d l =>
            unfold forL at h
            split at h
            · assumption
            · cases h
        refine for_it w (fun i σ2 H2 => ∃ F2 ε2, StpS X.K (· ∈ io') F1 H1 σ ε1 F2 H2 σ2 ε2 ∧ forL ws ε1 bind b (ds.drop i) ε2 = some (f, ε')) ⟨F1, ε1, StpS.refl o1, e⟩ ?_ ?_ ?_
        · rintro i σ2 H2 _ ⟨F2, ε2, A, C1⟩
          exact (hw F2 H2 σ2 ε2 A.ok A.fr.fm A.fr.keep fun j hj => ⟨(A.lk j (hws j hj)).1, same C1 j hj⟩).1
        · rintro i x σ2 H2 H3 hi ⟨F2, ε2, A, C1⟩ y
          obtain ⟨_, hy⟩ := hw F2 H2 σ2 ε2 A.ok A.fr.fm A.fr.keep fun j hj => ⟨(A.lk j (hws j hj)).1, same C1 j hj⟩
          obtain ⟨F3, d, hdi, rd, gr⟩ := hy i x H3 hi y
          rw [List.getElem?_eq_getElem hi] at hdi
          cases hdi
          have A3 := A.trans ((gr.stp A.ok).toS (L := (· ∈ io')) A.ok)
          have hd : ds.drop i = ds[i] :: ds.drop (i + 1) := by rw [List.drop_eq_getElem_cons hi]
          rw [hd] at C1
          unfold forL at C1
          split at C1
          · cases eb : bind ds[i] ε2 with
            | none => simp [eb] at C1
            | some εb =>
              refine hgd F3 H3 σ2 ε2 x _ εb _ A3.ok rd eb fun σ4 bd => ?_
              have A4 := A3.trans (bd.stp.imp fun j hj z => hts j z hj)
              simp only [eb, Option.bind_eq_bind, Option.bind_some] at C1
              cases e5 : b εb with
              | none => simp [e5] at C1
              | some p5 =>
                obtain ⟨g, ε5⟩ := p5
                simp only [e5, Option.bind_some] at C1
                refine ⟨F3, εb, g, ε5, bd.ok, e5, fun F5 H5 σ5 s5 => ?_⟩
                have A5 := A4.trans s5
                cases g with
                | nx => exact ⟨F5, ε5, A5, C1⟩
                | ct => exact ⟨F5, ε5, A5, C1⟩
                | bk => cases C1; exact q F5 H5 σ5 (S1.trans (A5.imp hio))
                | rt c =>
                  cases C1
                  intro v r n
                  exact q F5 H5 σ5 (S1.trans (A5.imp hio)) v r fun es a h1 h2 => (((n es a h1 h2).back o1 A4).imp hio).back o S1
          · cases C1
        · rintro σ2 H2 ⟨F2, ε2, A, C1⟩
          rw [List.drop_length] at C1
          unfold forL at C1
          split at C1
          · cases C1
            exact q F2 H2 σ2 (S1.trans (A.imp hio))
          · cases C1
      · cases e
end
end L2.M

/-! Operations by tables. -/
namespace L2.M
open PySem PySem.Spec PyProof.Rows

section
variable {K : PySem.W.Frag} {F H : Hp} {x : V}
theorem rb_non (h : RepB K F H x .none) : x = .non := by
  rcases h with h | ⟨_, _, _, _, h, _⟩
  · simpa only [Rep] using h
  · cases h
theorem rb_bool {b : Bool} (h : RepB K F H x (.bool b)) : x = .bl b := by
  rcases h with h | ⟨_, _, _, _, h, _⟩
  · simpa only [Rep] using h
  · cases h
theorem rb_int {i : Int} (h : RepB K F H x (.int i)) : x = .int i := by
  rcases h with h | ⟨_, _, _, _, h, _⟩
  · simpa only [Rep] using h
  · cases h
theorem rb_str {i : Str} (h : RepB K F H x (.str i)) : x = .str i := by
  rcases h with h | ⟨_, _, _, _, h, _⟩
  · simpa only [Rep] using h
  · cases h
theorem rb_tup {ds : List D} (s : Same F H) (h : RepB K F H x (.tuple ds)) : ∃ a vs, x = .ref a ∧ SqT K F a vs ∧ SqT K H a vs ∧ Reps K F vs ds := by
  rcases h with ⟨a, vs, h1, h2, h3⟩ | ⟨_, _, _, _, h, _⟩
  · exact ⟨a, vs, h1, h2, sameT s h2, h3⟩
  · cases h
theorem rb_lst {ds : List D} (s : Same F H) (h : RepB K F H x (.list ds)) : ∃ a vs, x = .ref a ∧ SqL K H a vs ∧ Reps K F vs ds := by
  rcases h with ⟨a, vs, h1, h2, h3⟩ | ⟨a, ws, es, h1, h2, h3, h4⟩
  · exact ⟨a, vs, h1, sameL s h2, h3⟩
  · cases h2
    exact ⟨a, ws, h1, .inl (.inl h3), h4⟩
theorem rb_dct {kds : List (D × D)} (s : Same F H) (h : RepB K F H x (.dict kds)) : ∃ a kvs, x = .ref a ∧ H a = some (.dK kvs) ∧ RepKs K F kvs kds := by
  rcases h with ⟨a, vs, h1, h2, h3⟩ | ⟨_, _, _, _, h, _⟩
  · exact ⟨a, vs, h1, s _ _ h2, h3⟩
  · cases h
/-! ### data as the library reads it -/
mutual
theorem Rep.dp (s : Same F H) : ∀ (d : D) (v : V), Rep K F v d → PyData.canLay0 d = true → Dp K H v d
  | .none, v, h, _ => by simp only [Rep] at h; subst h; exact .non
  | .bool b, v, h, _ => by simp only [Rep] at h; subst h; exact .bl b
  | .int b, v, h, _ => by simp only [Rep] at h; subst h; exact .int b
  | .str b, v, h, _ => by simp only [Rep] at h; subst h; exact .str b
  | .list ds, v, ⟨a, vs, h1, h2, h3⟩, hc => by subst h1; exact .lst (sameL s h2) (Reps.dp s ds vs h3 (by simpa [PyData.canLay0] using hc))
  | .tuple ds, v, ⟨a, vs, h1, h2, h3⟩, hc => by subst h1; exact .tup (sameT s h2) (Reps.dp s ds vs h3 (by simpa [PyData.canLay0] using hc))
  | .dict kds, v, _, hc => by simp [PyData.canLay0] at hc
theorem Reps.dp (s : Same F H) : ∀ (ds : List D) (vs : List V), Reps K F vs ds → PyData.canLayAll0 ds = true → DpAll K H vs ds
  | [], vs, h, _ => by cases (show vs = [] from h); exact .nil
  | d :: ds, vs, ⟨v, r, h1, h2, h3⟩, hc => by
    subst h1
    simp only [PyData.canLayAll0, Bool.and_eq_true] at hc
    exact .cons (Rep.dp s d v h2 hc.1) (Reps.dp s ds r h3 hc.2)
end
theorem rb_dp {d : D} (s : Same F H) (h : RepB K F H x d) (hc : PyData.canLay0 d = true) : Dp K H x d := by
  rcases h with h | ⟨a, ws, ds, h1, h2, h3, h4⟩
  · exact Rep.dp s d x h hc
  · subst h1 h2
    exact .lst (.inl (.inl h3)) (Reps.dp s ds ws h4 (by simpa [PyData.canLay0] using hc))
end

theorem list_mulW (l : Addr) (items : Array Value) (n : Nat) (x : Int) (u : Tok) (dd : Option Addr) (sl : Array (Option Value)) (hc0 : ¬(!Builtin.List.listFitsIndex x) = true) (hc1 : ¬items.size * x.toNat > (2 ^ 63 - 1) / 8) (hc2 : ¬Builtin.List.listTooLong (items.size * x.toNat) = true) :
    Meets (Builtin.«list.__mul__» ⟨[.ref l, .int x u], []⟩) (fun _ R s => s.heap.get? l = some { cls := .type "list", dict := dd, data := .seq items n, slots := sl } ∧ R (.ok (.ret (Value.ref s.heap.objs.size))) { s with heap := s.heap.push { cls := Value.type "list", data := Data.seq (List.foldl (fun x1 x2 => x1 ++ x2) #[] (List.replicate (if items.isEmpty = true then 0 else x.toNat) items)) }, toks := s.toks }) :=
  .of_wp fun prog w A R s h => by
    obtain ⟨hp, g, d, tk, os⟩ := s; obtain ⟨hl, h⟩ := h
    have hsz := AutoListH.joined_fits hc2
    wp_walk using wpAny_loadPart' hl; refine wpAny_ite_false (decide_eq_false (Nat.not_lt.mpr hsz)) ?_; wp_walk using wpAny_loadPart' hl; exact ⟨_, rfl, h⟩
theorem int_rmulW (a : Int) (t : Tok) (l : Addr) (items : Array Value) (n : Nat) (dd : Option Addr) (sl : Array (Option Value)) :
    Meets (Builtin.«int.__rmul__» ⟨[.int a t, .ref l], []⟩) (fun _ R s => s.heap.get? l = some { cls := .type "list", dict := dd, data := .seq items n, slots := sl } ∧ R (.ok (.ret Value.notImplemented)) s) :=
  .of_wp fun prog w A R s h => by obtain ⟨hp, g, d, tk, os⟩ := s; obtain ⟨hl, h⟩ := h; wp_walk using wpAny_loadPart' hl; exact ⟨_, rfl, h⟩
/-! ### answers -/
section
variable {K : PySem.W.Frag} {F H : Hp} {Q : VK}
theorem gv {v : V} {d : D} (s : Same F H) (r : Rep K F v d) (q : ∀ v F' H', Grow K F H F' H' v (.sh d) → Q v H') : Q v H :=
  q v F H ⟨Same.refl F, Same.refl H, s, fun b h h' => absurd h h', r, fun _ _ z => nomatch z⟩
theorem g_int {i : Int} (s : Same F H) (q : ∀ v F' H', Grow K F H F' H' v (.sh (.int i)) → Q v H') : Q (.int i) H := gv s (by simp only [Rep]) q
theorem g_bool {i : Bool} (s : Same F H) (q : ∀ v F' H', Grow K F H F' H' v (.sh (.bool i)) → Q v H') : Q (.bl i) H := gv s (by simp only [Rep]) q
theorem g_str {i : Str} (s : Same F H) (q : ∀ v F' H', Grow K F H F' H' v (.sh (.str i)) → Q v H') : Q (.str i) H := gv s (by simp only [Rep]) q
theorem g_tup {vs : List V} {ds : List D} (s : Same F H) (r : Reps K F vs ds) (q : ∀ v F' H', Grow K F H F' H' v (.sh (.tuple ds)) → Q v H') : ∀ p, H p = none → Q (.ref p) (upd H p (.tup vs)) := fun p hp => by
  have g := Grw.laid (u := .tup vs) s hp
  exact q (.ref p) _ _ ⟨g.fm, g.hm, g.sub, g.ff, ⟨p, vs, rfl, .inl (.inl upd_same), Reps.mono g.fm _ _ r⟩, fun _ _ z => nomatch z⟩
theorem g_lst {vs : List V} {ds : List D} (s : Same F H) (r : Reps K F vs ds) (q : ∀ v F' H', Grow K F H F' H' v (.ls ds) → Q v H') : ∀ p, H p = none → Q (.ref p) (upd H p (.lst vs)) := fun p hp => by
  have hm : Same H (upd H p (.lst vs)) := fun b x e => by rw [upd_ne (ne_of_none e hp)]; exact e
  exact q (.ref p) F _ ⟨Same.refl F, hm, s.trans hm, fun b h h' => absurd h h', ⟨p, vs, rfl, upd_same, s.free hp, r⟩, fun ds a _ z => by cases z; exact hp⟩
end

/-! ### a + b and the other operators -/
section
variable {X : Cx}
def rCatL (K : PySem.W.Frag) : R2 := fun x y H Q => ∃ l b xs zs, x = .ref l ∧ y = .ref b ∧ SqL K H l xs ∧ SqL K H b zs ∧ xs.length + zs.length ≤ sizeLine ∧ ∀ p, H p = none → Q (.ref p) (upd H p (.lst (xs ++ zs)))
theorem op_catL : OpR X (binaryOp .Add) (rCatL X.K) := by
  intro pins s σ H x y v u Q I rx ry h
  obtain ⟨l, b, xs, zs, rfl, rfl, hH, hB, hz, q⟩ := h
  cases rx
  cases ry
  obtain ⟨its, r, ⟨o, n, e, hc, hd, hq⟩, _⟩ := I.list hH
  obtain ⟨its2, r2, ⟨o2, n2, e2, hc2, hd2, hq2⟩, _⟩ := I.list hB
  have hl := r.length
  have hl2 := r2.length
  obtain ⟨cls, dd, data, sl⟩ := o
  obtain ⟨cls2, dd2, data2, sl2⟩ := o2
  simp only at hc hd hq hc2 hd2 hq2
  subst hc hd hq hc2 hd2 hq2
  refine concat_meets ⟨_, e, rfl⟩ ⟨_, e2, rfl⟩ noFill_list_add seq_list_add F.slot_list_add F.entry_list_add (F.args_list_add_2 _ _) (list_addW l b its.toArray its2.toArray n n2 none none sl sl2 (by rw [List.size_toArray, List.size_toArray]; omega)) ⟨e, e2, ?_⟩
  have ea : its.toArray ++ its2.toArray = (its ++ its2).toArray := by simp
  rw [ea]
  exact ⟨.ref _, _, I.lnew (t' := s.toks) (r.append r2) (by rw [List.length_append]; omega), rfl, q _ I.fresh⟩
end

theorem OpR.no {X : Cx} {f : Value → Value → Sem Value} : OpR X f (fun _ _ _ _ => False) := fun _ _ _ _ _ _ _ _ _ _ _ _ h => h.elim
theorem CallR.no {X : Cx} {f : Value} : CallR X f (fun _ _ _ => False) := fun _ _ _ _ _ _ _ _ _ h => h.elim

def sm (i : Int) : Prop := -(2 ^ 200) < i ∧ i < 2 ^ 200
instance (i : Int) : Decidable (sm i) := inferInstanceAs (Decidable (_ ∧ _))
theorem sm_lit {i : Int} (h1 : -(2 ^ 200) < i) (h2 : i < 2 ^ 200) : sm i := ⟨h1, h2⟩
theorem log2_le {i : Int} (h1 : -(2 ^ 200) < i) (h2 : i < 2 ^ 200) : i.natAbs.log2 < 200 := by
  by_cases hz : i.natAbs = 0
  · rw [hz]; decide
  · exact (Nat.log2_lt hz).mpr (by omega)
def addD : D → D → Option C
  | .int i, .int j => some (.sh (.int (i + j)))
  | .str a, .str b => if a.length + b.length ≤ sizeLine then some (.sh (.str (a ++ b))) else none
  | .list a, .list b => if a.length + b.length ≤ sizeLine then some (.ls (a ++ b)) else none
  | .tuple a, .tuple b => if a.length + b.length ≤ sizeLine then some (.sh (.tuple (a ++ b))) else none
  | _, _ => none
def subD : D → D → Option C
  | .int i, .int j => some (.sh (.int (i - j)))
  | _, _ => none
def mulD : D → D → Option C
  | .int i, .int j => if sm i ∧ sm j then some (.sh (.int (i * j))) else none
  | .list a, .int k => if -(2 ^ 63) ≤ k ∧ k < 2 ^ 63 ∧ a.length * k.toNat ≤ sizeLine then some (.ls (List.replicate k.toNat a).flatten) else none
  | .tuple a, .int k => if (0 < a.length ∧ 2 ≤ k ∧ k ≤ 1000 ∧ a.length ≤ 1000) ∨ (-(2 ^ 63) ≤ k ∧ k < 2 ^ 63 ∧ (a.length = 0 ∨ k ≤ 1)) then some (.sh (.tuple (List.replicate k.toNat a).flatten)) else none
  | _, _ => none
def fdivD : D → D → Option C
  | .int i, .int j => if 0 < j ∧ sm j then some (.sh (.int (i / j))) else none
  | _, _ => none
def modD : D → D → Option C
  | .int i, .int j => if 0 < j then some (.sh (.int (i % j))) else none
  | _, _ => none
def powD : D → D → Option C
  | .int i, .int j => if 0 ≤ j ∧ j ≤ 1000000 ∧ i.natAbs < 2 ^ 64 then some (.sh (.int (i ^ j.toNat))) else none
  | _, _ => none
def shlD : D → D → Option C
  | .int i, .int j => if 0 ≤ j ∧ j ≤ 1000000 ∧ i.natAbs < 2 ^ 64 then some (.sh (.int (i * 2 ^ j.toNat))) else none
  | _, _ => none
def shrD : D → D → Option C
  | .int i, .int j => if 0 ≤ j then some (.sh (.int (i / 2 ^ j.toNat))) else none
  | _, _ => none
def andD : D → D → Option C
  | .int i, .int j => some (.sh (.int (Builtin.bitAnd i j)))
  | _, _ => none
def orD : D → D → Option C
  | .int i, .int j => some (.sh (.int (Builtin.bitOr i j)))
  | _, _ => none
def binD : Operator → D → D → Option C
  | .Add => addD
  | .Sub => subD
  | .Mult => mulD
  | .FloorDiv => fdivD
  | .Mod => modD
  | .Pow => powD
  | .LShift => shlD
  | .RShift => shrD
  | .BitAnd => andD
  | .BitOr => orD
  | _ => fun _ _ => none

section
variable {X : Cx}
/-- an operator on whole numbers -/
theorem ints_ok {f : Value → Value → Sem Value} {C0 : Int → Int → Prop} {g : Int → Int → Int} (h : OpR X f (rI C0 fun i j => .int (g i j))) {t : D → D → Option C}
    (ht : ∀ d e c, t d e = some c → ∃ i j, d = .int i ∧ e = .int j ∧ C0 i j ∧ c = .sh (.int (g i j))) : ∃ r, OpR X f r ∧ Fn2 X.K t r := by
  refine ⟨_, h, fun F H x y d e c Q s h1 h2 he q => ?_⟩
  obtain ⟨i, j, rfl, rfl, hc, rfl⟩ := ht d e c he
  exact ⟨i, j, rb_int h1, rb_int h2, hc, g_int s q⟩
theorem ints_ok0 {f : Value → Value → Sem Value} {g : Int → Int → Int} (h : OpR X f (rI0 fun i j => .int (g i j))) {t : D → D → Option C}
    (ht : ∀ d e c, t d e = some c → ∃ i j, d = .int i ∧ e = .int j ∧ c = .sh (.int (g i j))) : ∃ r, OpR X f r ∧ Fn2 X.K t r := by
  refine ⟨_, h, fun F H x y d e c Q s h1 h2 he q => ?_⟩
  obtain ⟨i, j, rfl, rfl, rfl⟩ := ht d e c he
  exact ⟨i, j, rb_int h1, rb_int h2, g_int s q⟩
theorem add_ok : ∃ r, OpR X (binaryOp .Add) r ∧ Fn2 X.K addD r := by
  refine ⟨_, op_add.or (op_add_str.or (op_catL.or op_catA)), fun F H x y d e c Q s h1 h2 he q => ?_⟩
  unfold addD at he
  split at he
  · cases he
    exact .inl ⟨_, _, rb_int h1, rb_int h2, g_int s q⟩
  · split at he
    · cases he
      exact .inr (.inl ⟨_, _, rb_str h1, rb_str h2, by assumption, g_str s q⟩)
    · cases he
  · split at he
    · rename_i hl
      cases he
      obtain ⟨a, vs, rfl, g1, g2⟩ := rb_lst s h1
      obtain ⟨b, ws, rfl, k1, k2⟩ := rb_lst s h2
      refine .inr (.inr (.inl ⟨a, b, vs, ws, rfl, rfl, g1, k1, by rw [g2.length, k2.length]; exact hl, g_lst s (g2.append k2) q⟩))
    · cases he
  · split at he
    · rename_i hl
      cases he
      obtain ⟨a, vs, rfl, g0, g1, g2⟩ := rb_tup s h1
      obtain ⟨b, ws, rfl, k0, k1, k2⟩ := rb_tup s h2
      refine .inr (.inr (.inr ⟨a, b, vs, ws, rfl, rfl, g1, k1, by rw [g2.length, k2.length]; exact hl, fun e => ?_, fun _ e => ?_, fun _ _ => g_tup s (g2.append k2) q⟩))
      · subst e
        have hz := g2.length
        have e2 : _ = [] := List.eq_nil_of_length_eq_zero hz.symm
        rw [e2] at q
        exact gv s (d := .tuple _) ⟨b, ws, rfl, k0, k2⟩ q
      · subst e
        have hz := k2.length
        have e2 : _ = [] := List.eq_nil_of_length_eq_zero hz.symm
        rw [e2, List.append_nil] at q
        exact gv s (d := .tuple _) ⟨a, vs, rfl, g0, g2⟩ q
    · cases he
  · cases he
def rRepL (K : PySem.W.Frag) : R2 := fun x y H Q => ∃ l k xs, x = .ref l ∧ y = .int k ∧ SqL K H l xs ∧ -(2 ^ 63) ≤ k ∧ k < 2 ^ 63 ∧ xs.length * k.toNat ≤ sizeLine ∧ ∀ p, H p = none → Q (.ref p) (upd H p (.lst (List.replicate k.toNat xs).flatten))
theorem op_repL : OpR X (binaryOp .Mult) (rRepL X.K) := by
  intro pins s σ H x y v u Q I rx ry h
  obtain ⟨l, k, xs, rfl, rfl, hH, h1, h2, hz, q⟩ := h
  cases rx
  obtain ⟨t, rfl⟩ := ry
  obtain ⟨its, r, ⟨o, n, e, hc, hd, hq⟩, _⟩ := I.list hH
  have hl := r.length
  obtain ⟨cls, dd, data, sl⟩ := o
  simp only at hc hd hq
  subst hc hd hq
  have hlen : its.toArray.size * k.toNat ≤ sizeLine := by rw [List.size_toArray, ← hl]; exact hz
  have hcap : ¬ its.toArray.size * k.toNat > (2 ^ 63 - 1) / 8 := by
    have : (sizeLine : Nat) ≤ (2 ^ 63 - 1) / 8 := by decide
    omega
  have hfit : ¬ (!Builtin.List.listFitsIndex k) = true := by
    rw [fitsIndex_both h1 h2]
    exact Bool.false_ne_true
  have hlong : ¬ Builtin.List.listTooLong (its.toArray.size * k.toNat) = true := by
    rw [notLongL hlen]
    exact Bool.false_ne_true
  have hnew : List.foldl (fun x1 x2 => x1 ++ x2) #[] (List.replicate (if its.toArray.isEmpty = true then 0 else k.toNat) its.toArray) = (List.replicate k.toNat its).flatten.toArray := by
    have f0 : ∀ m : Nat, List.foldl (fun x1 x2 => x1 ++ x2) #[] (List.replicate m its.toArray) = (List.replicate m its).flatten.toArray := fun m => by
      have := foldl_rep its m []
      rw [List.nil_append] at this
      exact this
    rw [f0]
    cases its with
    | nil => simp
    | cons a r' => rw [if_neg (by simp)]
  refine wpAny_binaryOp_repeat_ref (T := "list") (U := "int") (by decide) ⟨_, e, rfl⟩ (fun s' => typeIs_int s' k t) noFill_list_mul F.fills_int_mul F.slot_int_rmul repeat_list F.slot_int_index.lookup
    (call_meets F.slot_int_rmul (typeIs_int s k t) F.entry_int_rmul (F.args_int_rmul_2 _ _) (int_rmulW k t l its.toArray n none sl)
      ⟨e, rfl, ⟨_, e, rfl⟩, call_meets F.slot_list_mul ⟨_, e, rfl⟩ F.entry_list_mul (F.args_list_mul_2 _ _) (list_mulW l its.toArray n k t none sl hfit hcap hlong) ⟨e, ?_⟩⟩)
  rw [hnew]
  exact ⟨.ref _, _, I.lnew (t' := s.toks) (r.rep k.toNat) (by rw [PyProof.Rows.lm_len_rep_flat, Nat.mul_comm]; exact hz), rfl, q _ I.fresh⟩
theorem int2 {t : D → D → Option C} (hno : ∀ d e, (∀ i j, d = .int i → e = .int j → False) → t d e = none) {P : Int → Int → C → Prop} (hi : ∀ i j c, t (.int i) (.int j) = some c → P i j c) : ∀ d e c, t d e = some c → ∃ i j, d = .int i ∧ e = .int j ∧ P i j c := by
  intro d e c h
  by_cases hd : ∃ i, d = .int i
  · obtain ⟨i, rfl⟩ := hd
    by_cases he : ∃ j, e = .int j
    · obtain ⟨j, rfl⟩ := he
      exact ⟨i, j, rfl, rfl, hi i j c h⟩
    · rw [hno _ _ fun i' j _ z => he ⟨j, z⟩] at h
      cases h
  · rw [hno _ _ fun i j z _ => hd ⟨i, z⟩] at h
    cases h
/-! ### tuple * int, where the tuple is handed back or none is left -/
theorem tuple_mul1 (l : Addr) (items : Array Value) (n : Nat) (dd : Option Addr) (sl : Array (Option Value)) (x : Int) (u : Tok) (c0 : (decide (x < -(2 ^ 63)) || decide (x ≥ 2 ^ 63)) = false) (c1 : (items.isEmpty || x == 1) = true) :
    Meets (Builtin.«tuple.__mul__» ⟨[.ref l, .int x u], []⟩) (fun _ R s => s.heap.get? l = some { cls := .type "tuple", dict := dd, data := .seq items n, slots := sl } ∧ R (.ok (.ret (Value.ref l))) s) := .of_wp fun prog w A R ⟨hp, g, d, tk, os⟩ ⟨hl, h⟩ => by
  have f1 := AutoSeq1.idx_int; wp_walk using wpAny_loadPart' hl
  repeat (first | (refine wpAny_ite_false (decide_eq_false (by rw [c0]; decide)) ?_; wp_walk using wpAny_loadPart' hl) | (refine wpAny_ite_true (decide_eq_true c1) ?_; wp_walk using wpAny_loadPart' hl))
  exact ⟨_, rfl, h⟩
theorem tuple_mul0 (l : Addr) (items : Array Value) (n : Nat) (dd : Option Addr) (sl : Array (Option Value)) (x : Int) (u : Tok) (c0 : (decide (x < -(2 ^ 63)) || decide (x ≥ 2 ^ 63)) = false) (c1 : (items.isEmpty || x == 1) = false) (c2 : (decide (x ≤ 0) || items.isEmpty) = true) :
    Meets (Builtin.«tuple.__mul__» ⟨[.ref l, .int x u], []⟩) (fun _ R s => s.heap.get? l = some { cls := .type "tuple", dict := dd, data := .seq items n, slots := sl } ∧ R (.ok (.ret (Value.ref s.heap.objs.size))) { s with heap := s.heap.push { cls := Value.type "tuple", data := Data.seq #[] } }) := .of_wp fun prog w A R ⟨hp, g, d, tk, os⟩ ⟨hl, h⟩ => by
  have f1 := AutoSeq1.idx_int; wp_walk using wpAny_loadPart' hl
  repeat (first | (refine wpAny_ite_false (decide_eq_false (by rw [c0]; decide)) ?_; wp_walk using wpAny_loadPart' hl) | (refine wpAny_ite_false (decide_eq_false (by rw [c1]; decide)) ?_; wp_walk using wpAny_loadPart' hl) | (refine wpAny_ite_true (decide_eq_true c2) ?_; wp_walk using wpAny_loadPart' hl))
  exact ⟨_, rfl, h⟩
def rRepT1 (K : PySem.W.Frag) : R2 := fun x y H Q => ∃ l k xs, x = .ref l ∧ y = .int k ∧ SqT K H l xs ∧ -(2 ^ 63) ≤ k ∧ k < 2 ^ 63 ∧ ((xs = [] ∨ k = 1) ∧ Q (.ref l) H ∨ xs ≠ [] ∧ k ≤ 0 ∧ ∀ p, H p = none → Q (.ref p) (upd H p (.tup [])))
theorem op_repT1 {X : Cx} : OpR X (binaryOp .Mult) (rRepT1 X.K) := by
  rintro pins s σ H x y v u Q I rx ry ⟨l, k, xs, rfl, rfl, hT, k0, k1, q⟩
  cases rx
  obtain ⟨t, rfl⟩ := ry
  obtain ⟨its, r, ⟨⟨cls, dd, data, sl⟩, ho, hc, n, hd⟩, hs⟩ := I.tuple hT
  cases (show cls = .type "tuple" from hc)
  cases (show data = .seq its.toArray n from hd)
  have le : its.length = xs.length := r.length.symm
  have b0 : (decide (k < -(2 ^ 63)) || decide (k ≥ 2 ^ 63)) = false := by simp; omega
  have tis : s.TypeIs (.ref l) "tuple" := ⟨_, ho, rfl⟩
  have road := fun (Q0 : Value → Shared → Prop) (E : Value → Shared → Prop) (m : wpAny (model X.prog X.w) X.A (call (.builtin "tuple.__mul__") [.ref l, .int k t]) Q0 E s) => wpAny_binaryOp_repeat_ref (T := "tuple") (U := "int") (by decide) tis (fun s' => typeIs_int s' k t) noFill_tuple_mul F.fills_int_mul F.slot_int_rmul repeat_tuple F.slot_int_index.lookup
    (call_meets F.slot_int_rmul (typeIs_int s k t) F.entry_int_rmul (F.args_int_rmul_2 _ _) (int_rmul_tuple k t l its.toArray n dd sl) ⟨ho, rfl, tis, m⟩)
  rcases q with ⟨hx, q⟩ | ⟨hx, hk, q⟩
  · have c1 : (its.toArray.isEmpty || k == 1) = true := by
      rcases hx with rfl | rfl
      · have : its = [] := List.eq_nil_of_length_eq_zero (by simpa using le)
        subst this
        rfl
      · simp
    exact road _ _ (call_meets F.slot_tuple_mul tis F.entry_tuple_mul (F.args_tuple_mul_2 _ _) (tuple_mul1 l its.toArray n dd sl k t b0 c1) ⟨ho, .ref l, H, I, rfl, q⟩)
  · have ne : its ≠ [] := by
      rintro rfl
      exact hx (List.eq_nil_of_length_eq_zero (by simpa using le.symm))
    have c1 : (its.toArray.isEmpty || k == 1) = false := by
      cases its with
      | nil => exact absurd rfl ne
      | cons a as => simp; omega
    have c2 : (decide (k ≤ 0) || its.toArray.isEmpty) = true := by simp [hk]
    refine road _ _ (call_meets F.slot_tuple_mul tis F.entry_tuple_mul (F.args_tuple_mul_2 _ _) (tuple_mul0 l its.toArray n dd sl k t b0 c1 c2) ⟨ho, .ref s.heap.objs.size, _, I.laid (t' := s.toks) (o := .tup []) (fun b ob q => Heap.get?_push_of_some _ q) (Nat.le_refl _) ⟨by simp, [], .nil, IsTup.new _ _⟩, rfl, q _ (I.hok.fresh (Nat.le_refl _))⟩)
theorem mul_ok : ∃ r, OpR X (binaryOp .Mult) r ∧ Fn2 X.K mulD r := by
  refine ⟨_, op_mulW.or (op_repL.or (op_repT.or op_repT1)), fun F H x y d e c Q s h1 h2 he q => ?_⟩
  unfold mulD at he
  split at he
  · split at he
    · cases he
      rename_i hb
      exact .inl ⟨_, _, rb_int h1, rb_int h2, by have a := log2_le hb.1.1 hb.1.2; have b := log2_le hb.2.1 hb.2.2; show _ < _; omega, g_int s q⟩
    · cases he
  · split at he
    · rename_i hk
      cases he
      obtain ⟨a, vs, rfl, g1, g2⟩ := rb_lst s h1
      exact .inr (.inl ⟨a, _, vs, rfl, rb_int h2, g1, hk.1, hk.2.1, by rw [g2.length]; exact hk.2.2, g_lst s (Reps.replicate g2 _) q⟩)
    · cases he
  · split at he
    · rename_i hk
      cases he
      obtain ⟨a, vs, rfl, gF, g1, g2⟩ := rb_tup s h1
      have le := g2.length
      rcases hk with hk | ⟨k0, k1, hk⟩
      · refine .inr (.inr (.inl ⟨a, _, vs, rfl, rb_int h2, g1, ?_, hk.2.1, hk.2.2.1, by rw [le]; exact hk.2.2.2, g_tup s (Reps.replicate g2 _) q⟩))
        rintro rfl
        have := hk.1
        simp at le
        omega
      · refine .inr (.inr (.inr ⟨a, _, vs, rfl, rb_int h2, g1, k0, k1, ?_⟩))
        rename_i as z
        by_cases e : vs = [] ∨ z = 1
        · refine .inl ⟨e, ?_⟩
          have e2 : (List.replicate z.toNat as).flatten = as := by
            rcases e with rfl | rfl
            · have : as = [] := List.eq_nil_of_length_eq_zero (by simpa using le.symm)
              subst this
              simp
            · simp
          rw [e2] at q
          exact gv (d := .tuple as) s (show Rep X.K F (.ref a) (.tuple as) from ⟨a, vs, rfl, gF, g2⟩) q
        · simp only [not_or] at e
          have hz : z ≤ 0 := by
            rcases hk with hk | hk
            · exact absurd (List.eq_nil_of_length_eq_zero (by omega)) e.1
            · have := e.2
              omega
          have e2 : (List.replicate z.toNat as).flatten = [] := by
            have : z.toNat = 0 := by omega
            rw [this]
            simp
          rw [e2] at q
          exact .inr ⟨e.1, hz, g_tup (vs := []) (ds := []) s (by simp [Reps]) q⟩
    · cases he
  · cases he
theorem bin_ok (op : Operator) : ∃ r, OpR X (binaryOp op) r ∧ Fn2 X.K (binD op) r := by
  have no : ∀ op', binD op' = (fun _ _ => none) → ∃ r, OpR X (binaryOp op') r ∧ Fn2 X.K (binD op') r := fun op' h => ⟨_, OpR.no, fun F H x y d e c Q s _ _ he _ => by rw [h] at he; cases he⟩
  cases op with
  | Add => exact add_ok
  | Sub => exact ints_ok0 op_sub (int2 (fun d e h => by cases d <;> cases e <;> first | rfl | exact (h _ _ rfl rfl).elim) fun i j c h => by cases h; rfl)
  | Mult => exact mul_ok
  | FloorDiv => exact ints_ok op_fdivW (int2 (fun d e h => by cases d <;> cases e <;> first | rfl | exact (h _ _ rfl rfl).elim) fun i j c h => by
      simp only [binD, fdivD] at h
      split at h
      · rename_i hb
        cases h
        exact ⟨⟨hb.1, by have := log2_le hb.2.1 hb.2.2; omega⟩, rfl⟩
      · cases h)
  | Mod => exact ints_ok op_mod (int2 (fun d e h => by cases d <;> cases e <;> first | rfl | exact (h _ _ rfl rfl).elim) fun i j c h => by
      simp only [binD, modD] at h
      split at h
      · cases h; exact ⟨by assumption, rfl⟩
      · cases h)
  | Pow => exact ints_ok op_pow (int2 (fun d e h => by cases d <;> cases e <;> first | rfl | exact (h _ _ rfl rfl).elim) fun i j c h => by
      simp only [binD, powD] at h
      split at h
      · cases h; exact ⟨by assumption, rfl⟩
      · cases h)
  | LShift => exact ints_ok op_shl (int2 (fun d e h => by cases d <;> cases e <;> first | rfl | exact (h _ _ rfl rfl).elim) fun i j c h => by
      simp only [binD, shlD] at h
      split at h
      · cases h; exact ⟨by assumption, rfl⟩
      · cases h)
  | RShift => exact ints_ok op_shr (int2 (fun d e h => by cases d <;> cases e <;> first | rfl | exact (h _ _ rfl rfl).elim) fun i j c h => by
      simp only [binD, shrD] at h
      split at h
      · cases h; exact ⟨by assumption, rfl⟩
      · cases h)
  | BitAnd => exact ints_ok0 op_and (int2 (fun d e h => by cases d <;> cases e <;> first | rfl | exact (h _ _ rfl rfl).elim) fun i j c h => by cases h; rfl)
  | BitOr => exact ints_ok0 op_or (int2 (fun d e h => by cases d <;> cases e <;> first | rfl | exact (h _ _ rfl rfl).elim) fun i j c h => by cases h; rfl)
  | BitXor => exact no _ rfl
  | Div => exact no _ rfl
  | MatMult => exact no _ rfl
end
end L2.M

/-! Comparisons, subscripts, slices, built-in functions. -/
namespace L2.M
open PySem PySem.Spec PyProof.Rows

/-! ### comparisons -/
def scD : D → D → Bool
  | .none, .none => true
  | .none, .int _ => true
  | .none, .bool _ => true
  | .none, .str _ => true
  | .int _, .none => true
  | .int _, .int _ => true
  | .int _, .str _ => true
  | .bool _, .none => true
  | .bool _, .bool _ => true
  | .bool _, .str _ => true
  | .str _, .none => true
  | .str _, .int _ => true
  | .str _, .bool _ => true
  | .str _, .str _ => true
  | _, _ => false
/-- two tuples, one of them empty -/
def emD : D → D → Bool
  | .tuple ds, .tuple es => ds.isEmpty || es.isEmpty
  | _, _ => false
def eqD : D → D → Option C := fun d e => if scD d e || emD d e || (SeqAt.shaped d && SeqAt.shaped e) then some (.sh (.bool (PyData.eqv d e))) else none
def neD : D → D → Option C := fun d e => if scD d e || (SeqAt.shaped d && SeqAt.shaped e) then some (.sh (.bool (!PyData.eqv d e))) else none
def ltD : D → D → Option C
  | .int i, .int j => some (.sh (.bool (decide (i < j))))
  | .str i, .str j => some (.sh (.bool (decide (i.cps.toList < j.cps.toList))))
  | _, _ => none
def leD : D → D → Option C
  | .int i, .int j => some (.sh (.bool (decide (i ≤ j))))
  | _, _ => none
def gtD : D → D → Option C
  | .int i, .int j => some (.sh (.bool (decide (j < i))))
  | _, _ => none
def geD : D → D → Option C
  | .int i, .int j => some (.sh (.bool (decide (j ≤ i))))
  | _, _ => none
def isNon : D → Bool
  | .none => true
  | _ => false
def isD : D → D → Option C
  | d, .none => some (.sh (.bool (isNon d)))
  | .bool a, .bool b => some (.sh (.bool (decide (a = b))))
  | _, _ => none
def isnD : D → D → Option C
  | d, .none => some (.sh (.bool (!isNon d)))
  | .bool a, .bool b => some (.sh (.bool (!decide (a = b))))
  | _, _ => none
def inD : D → D → Option C := fun d e => match e with
  | .list ds => if SeqAt.shaped d && SeqAt.shaped (.list ds) then some (.sh (.bool (ds.any fun z => PyData.eqv z d))) else none
  | _ => none
def ninD : D → D → Option C := fun d e => match e with
  | .list ds => if SeqAt.shaped d && SeqAt.shaped (.list ds) then some (.sh (.bool (!ds.any fun z => PyData.eqv z d))) else none
  | _ => none
def cmpD : CmpOp → D → D → Option C
  | .Eq => eqD
  | .NotEq => neD
  | .Lt => ltD
  | .LtE => leD
  | .Gt => gtD
  | .GtE => geD
  | .Is => isD
  | .IsNot => isnD
  | .In => inD
  | .NotIn => ninD
section
variable {X : Cx}
theorem isNon_ok {K : PySem.W.Frag} {F H : Hp} {x : V} {d : D} (h : RepB K F H x d) : decide (x = .non) = isNon d := by
  cases d with
  | none => rw [rb_non h]; rfl
  | bool b => rw [rb_bool h]; rfl
  | int b => rw [rb_int h]; rfl
  | str b => rw [rb_str h]; rfl
  | list b =>
    rcases h with ⟨a, vs, rfl, _⟩ | ⟨a, ws, es, rfl, _⟩ <;> rfl
  | tuple b =>
    rcases h with ⟨a, vs, rfl, _⟩ | ⟨a, ws, es, rfl, _⟩ <;> rfl
  | dict b =>
    rcases h with ⟨a, vs, rfl, _⟩ | ⟨a, ws, es, rfl, _⟩ <;> rfl
theorem sc_ok {K : PySem.W.Frag} {F H : Hp} {x y : V} {d e : D} (h1 : RepB K F H x d) (h2 : RepB K F H y e) (h : scD d e = true) : scal x y = true ∧ decide (x = y) = PyData.eqv d e := by
  have sb : ∀ {x : V} {d : D}, RepB K F H x d → (d = .none → x = .non) ∧ (∀ i, d = .int i → x = .int i) ∧ (∀ i, d = .bool i → x = .bl i) ∧ ∀ i, d = .str i → x = .str i := fun {x d} h =>
    ⟨fun e => rb_non (e ▸ h), fun i e => rb_int (e ▸ h), fun i e => rb_bool (e ▸ h), fun i e => rb_str (e ▸ h)⟩
  obtain ⟨a1, a2, a3, a4⟩ := sb h1
  obtain ⟨b1, b2, b3, b4⟩ := sb h2
  cases d <;> cases e <;> (try cases h) <;> first
    | (rw [a1 rfl, b1 rfl]; exact ⟨rfl, rfl⟩)
    | (rw [a1 rfl, b2 _ rfl]; exact ⟨rfl, rfl⟩)
    | (rw [a1 rfl, b3 _ rfl]; exact ⟨rfl, rfl⟩)
    | (rw [a1 rfl, b4 _ rfl]; exact ⟨rfl, rfl⟩)
    | (rw [a2 _ rfl, b1 rfl]; exact ⟨rfl, rfl⟩)
    | (rw [a2 _ rfl, b2 _ rfl]; exact ⟨rfl, by simp only [PyData.eqv]; exact dec_int⟩)
    | (rw [a2 _ rfl, b4 _ rfl]; exact ⟨rfl, rfl⟩)
    | (rw [a3 _ rfl, b1 rfl]; exact ⟨rfl, rfl⟩)
    | (rw [a3 _ rfl, b3 _ rfl]; exact ⟨rfl, by simp only [PyData.eqv]; exact dec_bl⟩)
    | (rw [a3 _ rfl, b4 _ rfl]; exact ⟨rfl, rfl⟩)
    | (rw [a4 _ rfl, b1 rfl]; exact ⟨rfl, rfl⟩)
    | (rw [a4 _ rfl, b2 _ rfl]; exact ⟨rfl, rfl⟩)
    | (rw [a4 _ rfl, b3 _ rfl]; exact ⟨rfl, rfl⟩)
    | (rw [a4 _ rfl, b4 _ rfl]; exact ⟨rfl, by simp only [PyData.eqv]; exact dec_str⟩)
def rEqE (K : PySem.W.Frag) : R2 := fun x y H Q => ∃ l b xs ys, x = .ref l ∧ y = .ref b ∧ SqT K H l xs ∧ SqT K H b ys ∧ (xs = [] ∨ ys = []) ∧ Q (.bl (xs.isEmpty && ys.isEmpty)) H
theorem op_eqE (hu : X.A.units + 64 < cLine) : OpR X (compareOp .Eq) (rEqE X.K) := by
  rintro pins s σ H x y v u Q I rx ry ⟨l, b, xs, ys, rfl, rfl, h1, h2, he, q⟩
  cases rx
  cases ry
  obtain ⟨is, r1, p1, _⟩ := I.tuple h1
  obtain ⟨js, r2, p2, _⟩ := I.tuple h2
  have l1 := r1.length
  have l2 := r2.length
  refine PySem.W.eq_tuplesT (n := 0) (e := fun _ => true) p1 p2 (fun j a c => ?_) (by omega) ⟨.bl (xs.isEmpty && ys.isEmpty), H, I, ?_, q⟩
  · exfalso
    simp at a c
    rcases he with rfl | rfl
    · simp at l1; omega
    · simp at l2; omega
  · have : ((List.range (min is.toArray.size js.toArray.size)).all (fun _ => true) && is.toArray.size == js.toArray.size) = (xs.isEmpty && ys.isEmpty) := by
      rcases he with rfl | rfl
      · have : is = [] := List.eq_nil_of_length_eq_zero (by simpa using l1.symm)
        subst this
        cases ys with
        | nil =>
          have : js = [] := List.eq_nil_of_length_eq_zero (by simpa using l2.symm)
          subst this
          rfl
        | cons y ys =>
          cases js with
          | nil => simp at l2
          | cons z zs => simp
      · have : js = [] := List.eq_nil_of_length_eq_zero (by simpa using l2.symm)
        subst this
        cases xs with
        | nil =>
          have : is = [] := List.eq_nil_of_length_eq_zero (by simpa using l1.symm)
          subst this
          rfl
        | cons y ys =>
          cases is with
          | nil => simp at l1
          | cons z zs => simp
    rw [this]
    exact rfl
theorem em_ok {K : PySem.W.Frag} {F H : Hp} {x y : V} {d e : D} (s : Same F H) (h1 : RepB K F H x d) (h2 : RepB K F H y e) (h : emD d e = true) : ∃ l b xs ys, x = .ref l ∧ y = .ref b ∧ SqT K H l xs ∧ SqT K H b ys ∧ (xs = [] ∨ ys = []) ∧ (xs.isEmpty && ys.isEmpty) = PyData.eqv d e := by
  have main : ∀ ds es : List D, d = .tuple ds → e = .tuple es → (ds = [] ∨ es = []) → ∃ l b xs ys, x = .ref l ∧ y = .ref b ∧ SqT K H l xs ∧ SqT K H b ys ∧ (xs = [] ∨ ys = []) ∧ (xs.isEmpty && ys.isEmpty) = PyData.eqv d e := by
    rintro ds es rfl rfl hh
    obtain ⟨a, vs, rfl, _, g1, r1⟩ := rb_tup s h1
    obtain ⟨b, ws, rfl, _, g2, r2⟩ := rb_tup s h2
    have l1 := r1.length
    have l2 := r2.length
    refine ⟨a, b, vs, ws, rfl, rfl, g1, g2, ?_, ?_⟩
    · rcases hh with rfl | rfl
      · exact .inl (List.eq_nil_of_length_eq_zero (by simpa using l1))
      · exact .inr (List.eq_nil_of_length_eq_zero (by simpa using l2))
    · have e1 : vs.isEmpty = ds.isEmpty := by cases vs <;> cases ds <;> simp_all
      have e2 : ws.isEmpty = es.isEmpty := by cases ws <;> cases es <;> simp_all
      rw [e1, e2]
      simp only [PyData.eqv]
      rcases hh with rfl | rfl
      · cases es <;> simp [PyData.eqvAll]
      · cases ds <;> simp [PyData.eqvAll]
  match d, e, h with
  | .tuple ds, .tuple es, h => exact main _ _ rfl rfl (by simpa [emD] using h)
theorem eq_ok (hu : X.A.units + 64 < cLine) : ∃ r, OpR X (compareOp .Eq) r ∧ Fn2 X.K eqD r := by
  refine ⟨_, (op_eqD hu).or ((op_eqE hu).or op_eq), fun F H x y d e c Q s h1 h2 he q => ?_⟩
  unfold eqD at he
  split at he
  · rename_i h
    simp only [Bool.or_eq_true, Bool.and_eq_true] at h
    cases he
    rcases h with (h | h) | h
    · obtain ⟨k1, k2⟩ := sc_ok h1 h2 h
      refine .inr (.inr ⟨k1, ?_⟩)
      rw [k2]
      exact g_bool s q
    · obtain ⟨l, b, xs, ys, rfl, rfl, g1, g2, g3, g4⟩ := em_ok s h1 h2 h
      refine .inr (.inl ⟨l, b, xs, ys, rfl, rfl, g1, g2, g3, ?_⟩)
      rw [g4]
      exact g_bool s q
    · exact .inl ⟨d, e, rb_dp s h1 (SeqAt.canLay_of_shaped h.1), rb_dp s h2 (SeqAt.canLay_of_shaped h.2), h.1, h.2, g_bool s q⟩
  · cases he
theorem ne_ok (hu : X.A.units + 64 < cLine) : ∃ r, OpR X (compareOp .NotEq) r ∧ Fn2 X.K neD r := by
  refine ⟨_, (op_neD hu).or op_ne, fun F H x y d e c Q s h1 h2 he q => ?_⟩
  unfold neD at he
  split at he
  · rename_i h
    simp only [Bool.or_eq_true, Bool.and_eq_true] at h
    cases he
    rcases h with h | h
    · obtain ⟨k1, k2⟩ := sc_ok h1 h2 h
      refine .inr ⟨k1, ?_⟩
      rw [k2]
      exact g_bool s q
    · exact .inl ⟨d, e, rb_dp s h1 (SeqAt.canLay_of_shaped h.1), rb_dp s h2 (SeqAt.canLay_of_shaped h.2), h.1, h.2, g_bool s q⟩
  · cases he
theorem lt_ok : ∃ r, OpR X (compareOp .Lt) r ∧ Fn2 X.K ltD r := by
  refine ⟨_, op_lt.or op_lt_str, fun F H x y d e c Q s h1 h2 he q => ?_⟩
  unfold ltD at he
  split at he
  · cases he; exact .inl ⟨_, _, rb_int h1, rb_int h2, g_bool s q⟩
  · cases he; exact .inr ⟨_, _, rb_str h1, rb_str h2, g_bool s q⟩
  · cases he
theorem is_ok : ∃ r, OpR X (compareOp .Is) r ∧ Fn2 X.K isD r := by
  refine ⟨_, op_isN.or op_isBl, fun F H x y d e c Q s h1 h2 he q => ?_⟩
  unfold isD at he
  split at he
  · cases he
    refine .inl ⟨rb_non h2, ?_⟩
    rw [isNon_ok h1]
    exact g_bool s q
  · cases he
    exact .inr ⟨_, _, rb_bool h1, rb_bool h2, g_bool s q⟩
  · cases he
theorem isn_ok : ∃ r, OpR X (compareOp .IsNot) r ∧ Fn2 X.K isnD r := by
  refine ⟨_, op_notN.or op_notBl, fun F H x y d e c Q s h1 h2 he q => ?_⟩
  unfold isnD at he
  split at he
  · cases he
    refine .inl ⟨rb_non h2, ?_⟩
    rw [isNon_ok h1]
    exact g_bool s q
  · cases he
    exact .inr ⟨_, _, rb_bool h1, rb_bool h2, g_bool s q⟩
  · cases he
theorem in_ok (hu : X.A.units + 65 < cLine) : ∃ r, OpR X (compareOp .In) r ∧ Fn2 X.K inD r := by
  refine ⟨_, op_inD hu, fun F H x y d e c Q s h1 h2 he q => ?_⟩
  unfold inD at he
  split at he
  · split at he
    · rename_i h
      simp only [Bool.and_eq_true] at h
      cases he
      exact ⟨d, _, rb_dp s h1 (SeqAt.canLay_of_shaped h.1), rb_dp s h2 (SeqAt.canLay_of_shaped h.2), h.1, h.2, g_bool s q⟩
    · cases he
  · cases he
theorem nin_ok (hu : X.A.units + 65 < cLine) : ∃ r, OpR X (compareOp .NotIn) r ∧ Fn2 X.K ninD r := by
  refine ⟨_, op_notInD hu, fun F H x y d e c Q s h1 h2 he q => ?_⟩
  unfold ninD at he
  split at he
  · split at he
    · rename_i h
      simp only [Bool.and_eq_true] at h
      cases he
      exact ⟨d, _, rb_dp s h1 (SeqAt.canLay_of_shaped h.1), rb_dp s h2 (SeqAt.canLay_of_shaped h.2), h.1, h.2, g_bool s q⟩
    · cases he
  · cases he
theorem bools_ok {f : Value → Value → Sem Value} {g : Int → Int → Bool} (h : OpR X f (rI0 fun i j => .bl (g i j))) {t : D → D → Option C}
    (ht : ∀ d e c, t d e = some c → ∃ i j, d = .int i ∧ e = .int j ∧ c = .sh (.bool (g i j))) : ∃ r, OpR X f r ∧ Fn2 X.K t r := by
  refine ⟨_, h, fun F H x y d e c Q s h1 h2 he q => ?_⟩
  obtain ⟨i, j, rfl, rfl, rfl⟩ := ht d e c he
  exact ⟨i, j, rb_int h1, rb_int h2, g_bool s q⟩
theorem cmp_ok (hu : X.A.units + 65 < cLine) (op : CmpOp) : ∃ r, OpR X (compareOp op) r ∧ Fn2 X.K (cmpD op) r := by
  have hu' : X.A.units + 64 < cLine := by omega
  cases op with
  | Eq => exact eq_ok hu'
  | NotEq => exact ne_ok hu'
  | Lt => exact lt_ok
  | LtE => exact bools_ok op_le (int2 (fun d e h => by cases d <;> cases e <;> first | rfl | exact (h _ _ rfl rfl).elim) fun i j c h => by cases h; rfl)
  | Gt => exact bools_ok op_gt (int2 (fun d e h => by cases d <;> cases e <;> first | rfl | exact (h _ _ rfl rfl).elim) fun i j c h => by cases h; rfl)
  | GtE => exact bools_ok op_ge (int2 (fun d e h => by cases d <;> cases e <;> first | rfl | exact (h _ _ rfl rfl).elim) fun i j c h => by cases h; rfl)
  | Is => exact is_ok
  | IsNot => exact isn_ok
  | In => exact in_ok hu
  | NotIn => exact nin_ok hu

/-! ### -x -/
def negD : D → Option C
  | .int i => some (.sh (.int (-i)))
  | _ => none
theorem neg_ok : ∃ r, UnR X (unaryOp .USub) r ∧ Fn1 X.K negD r := by
  refine ⟨_, un_neg, fun F H x d c Q s h1 he q => ?_⟩
  unfold negD at he
  split at he
  · cases he; exact ⟨_, rb_int h1, g_int s q⟩
  · cases he

/-! ### x[i] -/
def ixD : D → D → Option C
  | .list ds, .int i => (atI ds i).map .sh
  | .tuple ds, .int i => (atI ds i).map .sh
  | .str z, .int i => if z.length ≤ sizeLine then (atI z.cps.toList i).map fun c => .sh (.str ⟨#[c]⟩) else none
  | _, _ => none
theorem Reps.atI {K : PySem.W.Frag} {F : Hp} {vs : List V} {ds : List D} {i : Int} {d : D} (h : Reps K F vs ds) (e : L2.atI ds i = some d) : ∃ v, L2.atI vs i = some v ∧ Rep K F v d := by
  unfold L2.atI at e ⊢
  rw [h.length]
  cases e1 : ixN ds.length i with
  | none => rw [e1] at e; cases e
  | some j =>
    rw [e1] at e
    exact h.get e
theorem ix_ok : ∃ r, IxR X r ∧ Fn2 X.K ixD r := by
  refine ⟨_, ix_seq, fun F H x y d e c Q s h1 h2 he q => ?_⟩
  unfold ixD at he
  split at he
  · simp only [Option.map_eq_some_iff] at he
    obtain ⟨d, hd, rfl⟩ := he
    obtain ⟨a, vs, rfl, g1, g2⟩ := rb_lst s h1
    rename_i ds i
    have hg : ∃ v, L2.atI vs i = some v ∧ Q v H := by
      obtain ⟨v, e1, e2⟩ := g2.atI hd
      exact ⟨v, e1, gv s e2 q⟩
    obtain ⟨v, e1, e2⟩ := hg
    exact .inl ⟨a, vs, _, v, rfl, rb_int h2, g1, e1, e2⟩
  · simp only [Option.map_eq_some_iff] at he
    obtain ⟨d, hd, rfl⟩ := he
    obtain ⟨a, vs, rfl, g0, g1, g2⟩ := rb_tup s h1
    obtain ⟨v, e1, e2⟩ := g2.atI hd
    exact .inr (.inl ⟨a, vs, _, v, rfl, rb_int h2, g1, e1, gv s e2 q⟩)
  · split at he
    · simp only [Option.map_eq_some_iff] at he
      obtain ⟨d, hd, rfl⟩ := he
      exact .inr (.inr ⟨_, _, _, rb_str h1, rb_int h2, by assumption, hd, g_str s q⟩)
    · cases he
  · cases he

/-! ### x[lo:hi] -/
def cutL {α : Type} (xs : List α) (lo hi : Option Int) : List α := (xs.drop (HT.sIx xs.length 0 lo)).take (HT.sIx xs.length xs.length hi - HT.sIx xs.length 0 lo)
def slD : D → Option Int → Option Int → Option C
  | .list ds, lo, hi => some (.ls (cutL ds lo hi))
  | .tuple ds, lo, hi => some (.sh (.tuple (cutL ds lo hi)))
  | .str z, lo, hi => if z.length ≤ sizeLine then some (.sh (.str (cutS z lo hi))) else none
  | _, _, _ => none
abbrev PM := Cs → Option (Option Int × Cs)
def mNoP : PM := fun ε => some (none, ε)
def mPt (m : OM) : PM := fun ε => do
  let (o, ε1) ← m ε
  let d ← bor ε1 o
  match d with
    | .int i => some (some i, ε1)
    | _ => none
def tP (K : PySem.W.Frag) (m : PM) : TO := fun σ H Q => ∃ F ε o ε', Ok K F H σ ε ∧ m ε = some (o, ε') ∧ ∀ F' H', Stp K F H σ ε F' H' ε' → Q o H'
theorem _root_.L2.PO.weak {e : Option Expr} {t t' : TO} (h : PO X e t) (w : ∀ σ H Q, t' σ H Q → t σ H Q) : PO X e t' := ⟨fun pins s σ H Q I q => h.run pins s σ H Q I (w σ H Q q)⟩
theorem mp_none : PO X none (tP X.K mNoP) := po_none.weak fun σ H Q h => by
  obtain ⟨F, ε, o, ε', ok, e, q⟩ := h
  cases e
  exact q F H (Stp.refl ok)
theorem mp_some {e : Expr} {m : OM} (h : PE X e (tO X.K m)) : PO X (some e) (tP X.K (mPt m)) := (po_some h).weak fun σ H Q h => by
  obtain ⟨F, ε, o, ε', ok, e, q⟩ := h
  unfold mPt at e
  cases e1 : m ε with
  | none => simp [e1] at e
  | some p =>
    obtain ⟨o1, ε1⟩ := p
    cases e2 : bor ε1 o1 with
    | none => simp [e1, e2] at e
    | some d =>
      simp only [e1, e2, Option.bind_eq_bind, Option.bind_some] at e
      split at e
      · rename_i i
        cases e
        refine ⟨F, ε, o1, _, ok, e1, fun v F1 H1 s1 r1 => ?_⟩
        have hb : bors ε' [o1] = some [.int i] := by simp [bors, e2]
        obtain ⟨x, ex, rx⟩ := (bors_ok s1.ok r1 hb).one
        cases ex
        exact ⟨i, rb_int rx, q F1 H1 s1⟩
      · cases e
/-- the value is looked at behind the parts: it must be frozen, or a list of its own -/
def mSl (m : OM) (lo hi : PM) : EM := fun ε => do
  let (o, ε1) ← m ε
  let (l, ε2) ← lo ε1
  let (h, ε3) ← hi ε2
  let d ← bor ε3 o
  let c ← slD d l h
  some (c, ε3)
theorem Reps.cut {K : PySem.W.Frag} {F : Hp} {vs : List V} {ds : List D} (h : Reps K F vs ds) (lo hi : Option Int) : Reps K F (cutV vs lo hi) (cutL ds lo hi) := by
  unfold cutV cutL
  rw [h.length]
  exact Reps.take _ (Reps.drop _ h)
theorem cut_whole {α : Type} {xs : List α} {lo hi : Option Int} (h : HT.sIx xs.length 0 lo = 0 ∧ HT.sIx xs.length xs.length hi = xs.length) : cutL xs lo hi = xs := by
  unfold cutL
  rw [h.1, h.2]
  simp
def slR (K : PySem.W.Frag) : V → Option Int → Option Int → Hp → VK → Prop := fun x lo hi H Q => rSlL K x lo hi H Q ∨ rSlA K x lo hi H Q ∨ rSlS x lo hi H Q
theorem sl_fn {K : PySem.W.Frag} {F H : Hp} {x : V} {d : D} {c : C} {lo hi : Option Int} {Q : VK} (s : Same F H) (h1 : RepB K F H x d) (he : slD d lo hi = some c) (q : ∀ v F' H', Grow K F H F' H' v c → Q v H') : slR K x lo hi H Q := by
  unfold slD at he
  split at he
  · cases he
    obtain ⟨a, vs, rfl, g1, g2⟩ := rb_lst s h1
    exact .inl ⟨a, vs, rfl, g1, g_lst s (g2.cut _ _) q⟩
  · cases he
    obtain ⟨a, vs, rfl, g0, g1, g2⟩ := rb_tup s h1
    refine .inr (.inl ⟨a, vs, rfl, g1, fun hw => ?_, fun _ => g_tup s (g2.cut _ _) q⟩)
    rw [g2.length] at hw
    rw [cut_whole hw] at q
    exact gv s (d := .tuple _) ⟨a, vs, rfl, g0, g2⟩ q
  · split at he
    · cases he
      exact .inr (.inr ⟨_, rb_str h1, by assumption, g_str s q⟩)
    · cases he
  · cases he
theorem me_slice {e : Expr} {lo hi : Option Expr} {m : OM} {ml mh : PM} {p2 pos : Pos} (he : PE X e (tO X.K m)) (hl : PO X lo (tP X.K ml)) (hh : PO X hi (tP X.K mh)) : PE X (.Subscript e (.Slice lo hi none p2) pos) (tE X.K (mSl m ml mh)) :=
  (pe_slice (sl_list.or (sl_tupA.or sl_str)) he hl hh).weak fun σ H Q h => by
    obtain ⟨F, ε, c, ε', ok, e, q⟩ := h
    unfold mSl at e
    cases e1 : m ε with
    | none => simp [e1] at e
    | some p =>
      obtain ⟨o, ε1⟩ := p
      cases e2 : ml ε1 with
      | none => simp [e1, e2] at e
      | some p2 =>
        obtain ⟨l, ε2⟩ := p2
        cases e3 : mh ε2 with
        | none => simp [e1, e2, e3] at e
        | some p3 =>
          obtain ⟨u, ε3⟩ := p3
          cases e4 : bor ε3 o with
          | none => simp [e1, e2, e3, e4] at e
          | some d =>
            cases e5 : slD d l u with
            | none => simp [e1, e2, e3, e4, e5] at e
            | some c' =>
              simp [e1, e2, e3, e4, e5] at e
              obtain ⟨rfl, rfl⟩ := e
              refine ⟨F, ε, o, ε1, ok, e1, fun v F1 H1 s1 r1 => ⟨F1, ε1, l, ε2, s1.ok, e2, fun F2 H2 s2 => ⟨F2, ε2, u, ε3, s2.ok, e3, fun F3 H3 s3 => ?_⟩⟩⟩
              have S2 := s1.trans s2
              have S3 := S2.trans s3
              have no1 : ∀ a, H a = none → ¬ Own σ ε1 a := fun a z w => ok.not_own z (s1.ow w)
              have no2 : ∀ a, H a = none → ¬ Own σ ε2 a := fun a z w => ok.not_own z (S2.ow w)
              have r3 := (r1.keep s2 no1).keep s3 no2
              have hb : bors ε3 [o] = some [d] := by simp [bors, e4]
              obtain ⟨x, ex, rx⟩ := (bors_ok S3.ok r3 hb).one
              cases ex
              refine sl_fn S3.ok.sub rx e5 fun w F4 H4 g => ?_
              refine q w F4 H4 ⟨S3.trans (g.stp S3.ok), g.rep, fun es a h1 h2 => live_back S3.fr (g.new es a h1 h2)⟩

/-! ### built-in functions -/
def lenD : List D → Option C
  | [.list ds] => some (.sh (.int ds.length))
  | [.tuple ds] => some (.sh (.int ds.length))
  | [.str z] => if z.length ≤ sizeLine then some (.sh (.int z.length)) else none
  | _ => none
theorem len_ok : ∃ r, CallR X (.builtin "len") r ∧ FnB X.K lenD r := by
  refine ⟨_, call_len, fun F H vs ds c Q s hr he q => ?_⟩
  match ds, he, hr with
  | [.list ds], he, hr =>
    cases he
    obtain ⟨x, rfl, h1⟩ := hr.one
    obtain ⟨a, vs, rfl, g1, g2⟩ := rb_lst s h1
    refine ⟨_, ds.length, rfl, .inl ⟨vs, g1, g2.length.symm⟩, g_int s q⟩
  | [.tuple ds], he, hr =>
    cases he
    obtain ⟨x, rfl, h1⟩ := hr.one
    obtain ⟨a, vs, rfl, g0, g1, g2⟩ := rb_tup s h1
    refine ⟨_, ds.length, rfl, .inr ⟨vs, g1, g2.length.symm⟩, g_int s q⟩
  | [.str z], he, hr =>
    simp only [lenD] at he
    split at he
    · rename_i hz
      cases he
      obtain ⟨x, rfl, h1⟩ := hr.one
      rw [rb_str h1]
      exact ⟨_, z.length, rfl, ⟨hz, rfl⟩, g_int s q⟩
    · cases he
def intD : List D → Option C
  | [.int i] => some (.sh (.int i))
  | [.bool k] => some (.sh (.int (if k then 1 else 0)))
  | _ => none
theorem int_ok : ∃ r, CallR X (.type "int") r ∧ FnB X.K intD r := by
  refine ⟨_, call_int1, fun F H vs ds c Q s hr he q => ?_⟩
  match ds, he, hr with
  | [.int i], he, hr =>
    cases he
    obtain ⟨x, rfl, h1⟩ := hr.one
    rw [rb_int h1]
    exact .inl ⟨i, rfl, g_int s q⟩
  | [.bool k], he, hr =>
    cases he
    obtain ⟨x, rfl, h1⟩ := hr.one
    rw [rb_bool h1]
    exact .inr ⟨k, rfl, g_int s q⟩
def maxD : List D → Option C
  | [.int i, .int j] => some (.sh (.int (if j > i then j else i)))
  | _ => none
theorem max_ok (hc : X.calm = true) : ∃ r, CallR X (.builtin "max") r ∧ FnB X.K maxD r := by
  refine ⟨_, call_max2 hc, fun F H vs ds c Q s hr he q => ?_⟩
  match ds, he, hr with
  | [.int i, .int j], he, hr =>
    cases he
    obtain ⟨x, y, rfl, h1, h2⟩ := hr.two
    rw [rb_int h1, rb_int h2]
    exact ⟨i, j, rfl, g_int s q⟩
def minD : List D → Option C
  | [.int i, .int j] => some (.sh (.int (if j < i then j else i)))
  | _ => none
theorem min_ok (hc : X.calm = true) : ∃ r, CallR X (.builtin "min") r ∧ FnB X.K minD r := by
  refine ⟨_, call_min2 hc, fun F H vs ds c Q s hr he q => ?_⟩
  match ds, he, hr with
  | [.int i, .int j], he, hr =>
    cases he
    obtain ⟨x, y, rfl, h1, h2⟩ := hr.two
    rw [rb_int h1, rb_int h2]
    exact ⟨i, j, rfl, g_int s q⟩
def absD : List D → Option C
  | [.int i] => some (.sh (.int (if i < 0 then -i else i)))
  | _ => none
theorem abs_ok : ∃ r, CallR X (.builtin "abs") r ∧ FnB X.K absD r := by
  refine ⟨_, call_abs, fun F H vs ds c Q s hr he q => ?_⟩
  match ds, he, hr with
  | [.int i], he, hr =>
    cases he
    obtain ⟨x, rfl, h1⟩ := hr.one
    rw [rb_int h1]
    exact ⟨i, rfl, g_int s q⟩
def tupD : List D → Option C
  | [.list ds] => some (.sh (.tuple ds))
  | [.tuple ds] => some (.sh (.tuple ds))
  | _ => none
theorem tup_ok : ∃ r, CallR X (.type "tuple") r ∧ FnB X.K tupD r := by
  refine ⟨_, call_tuple_of, fun F H vs ds c Q s hr he q => ?_⟩
  match ds, he, hr with
  | [.list ds], he, hr =>
    cases he
    obtain ⟨x, rfl, h1⟩ := hr.one
    obtain ⟨a, vs, rfl, g1, g2⟩ := rb_lst s h1
    exact ⟨a, vs, rfl, .inl ⟨g1, g_tup s g2 q⟩⟩
  | [.tuple ds], he, hr =>
    cases he
    obtain ⟨x, rfl, h1⟩ := hr.one
    obtain ⟨a, vs, rfl, g0, g1, g2⟩ := rb_tup s h1
    exact ⟨a, vs, rfl, .inr ⟨g1, gv s (d := .tuple _) ⟨a, vs, rfl, g0, g2⟩ q⟩⟩
def lstD : List D → Option C
  | [.list ds] => some (.ls ds)
  | [.tuple ds] => some (.ls ds)
  | _ => none
theorem lst_ok : ∃ r, CallR X (.type "list") r ∧ FnB X.K lstD r := by
  refine ⟨_, call_list_of, fun F H vs ds c Q s hr he q => ?_⟩
  match ds, he, hr with
  | [.list ds], he, hr =>
    cases he
    obtain ⟨x, rfl, h1⟩ := hr.one
    obtain ⟨a, vs, rfl, g1, g2⟩ := rb_lst s h1
    exact ⟨a, vs, rfl, .inl g1, g_lst s g2 q⟩
  | [.tuple ds], he, hr =>
    cases he
    obtain ⟨x, rfl, h1⟩ := hr.one
    obtain ⟨a, vs, rfl, g0, g1, g2⟩ := rb_tup s h1
    exact ⟨a, vs, rfl, .inr g1, g_lst s g2 q⟩
def repD : List D → Option C
  | [.none] => some (.sh (.str "None"))
  | [.bool b] => some (.sh (.str (if b then "True" else "False")))
  | [.int i] => if sm i then some (.sh (.str (toString i))) else none
  | _ => none
theorem rep_ok : ∃ r, CallR X (.builtin "repr") r ∧ FnB X.K repD r := by
  refine ⟨fun xs H Q => (xs = [.non] ∧ Q (.str "None") H) ∨ (∃ b, xs = [.bl b] ∧ Q (.str (if b then "True" else "False")) H) ∨ (∃ i, xs = [.int i] ∧ i.natAbs.log2 < 1920 ∧ Q (.str (toString i)) H), ?_, fun F H vs ds c Q s hr he q => ?_⟩
  · intro pins s σ H xs us Q I r h
    rcases h with ⟨rfl, q⟩ | ⟨b, rfl, q⟩ | ⟨i, rfl, hz, q⟩
    · obtain ⟨u, rfl, h⟩ := vals1 r
      cases h
      exact PySem.P.repr_of_none ⟨.str _, H, I.tok _, ⟨_, rfl⟩, q⟩
    · obtain ⟨u, rfl, h⟩ := vals1 r
      cases h
      exact PySem.P.repr_of_bool ⟨.str _, H, I.tok _, ⟨_, rfl⟩, q⟩
    · obtain ⟨u, rfl, t, rfl⟩ := vals1 r
      exact PySem.P.repr_of_int hz ⟨.str _, H, I.tok _, ⟨_, rfl⟩, q⟩
  match ds, he, hr with
  | [.none], he, hr =>
    cases he
    obtain ⟨x, rfl, h1⟩ := hr.one
    rw [rb_non h1]
    exact .inl ⟨rfl, g_str s q⟩
  | [.bool b], he, hr =>
    cases he
    obtain ⟨x, rfl, h1⟩ := hr.one
    rw [rb_bool h1]
    exact .inr (.inl ⟨b, rfl, g_str s q⟩)
  | [.int i], he, hr =>
    simp only [repD] at he
    split at he
    · rename_i hz
      cases he
      obtain ⟨x, rfl, h1⟩ := hr.one
      rw [rb_int h1]
      exact .inr (.inr ⟨i, rfl, by have := log2_le hz.1 hz.2; omega, g_str s q⟩)
    · cases he
end
end L2.M

/-! Chains of comparisons, isinstance, parallel stores, empty dicts. -/
namespace L2.M
open PySem PySem.Spec PyProof.Rows

/-! ### a < b < c .. -/
def chnL : Opd → List ((D → D → Option C) × OM) → EM
  | _, [], _ => none
  | o, [(f, m)], ε => do
    let (p, ε1) ← m ε
    let d ← bor ε1 o
    let e ← bor ε1 p
    let c ← f d e
    some (c, ε1)
  | o, (f, m) :: x :: l, ε => do
    let (p, ε1) ← m ε
    let d ← bor ε1 o
    let e ← bor ε1 p
    match f d e with
      | some (.sh (.bool true)) => chnL p (x :: l) ε1
      | some (.sh (.bool false)) => some (.sh (.bool false), ε1)
      | _ => none
def mChn (m : OM) (l : List ((D → D → Option C) × OM)) : EM := fun ε => do
  let (o, ε1) ← m ε
  chnL o l ε1
inductive Chn (X : Cx) : List CmpOp → List Expr → List ((D → D → Option C) × OM) → Prop where
  | one {op : CmpOp} {e : Expr} {f : D → D → Option C} {m : OM} {r : R2} : OpR X (compareOp op) r → Fn2 X.K f r → PE X e (tO X.K m) → Chn X [op] [e] [(f, m)]
  | cons {op : CmpOp} {e : Expr} {f : D → D → Option C} {m : OM} {r : R2} {op' : CmpOp} {ops : List CmpOp} {e' : Expr} {es : List Expr} {x : (D → D → Option C) × OM} {l : List ((D → D → Option C) × OM)} :
      OpR X (compareOp op) r → Fn2 X.K f r → PE X e (tO X.K m) → Chn X (op' :: ops) (e' :: es) (x :: l) → Chn X (op :: op' :: ops) (e :: e' :: es) ((f, m) :: x :: l)
section
variable {X : Cx}
theorem chn_two {F0 H0 F H F1 H1 : Hp} {σ : St} {ε0 ε ε1 : Cs} {x y : V} {o p : Opd} {d e : D} (o0 : Ok X.K F0 H0 σ ε0) (s : Stp X.K F0 H0 σ ε0 F H ε) (r : OpsOk X.K F H σ (fun a => H0 a = none) [x] [o])
    (s1 : Stp X.K F H σ ε F1 H1 ε1) (r1 : OpsOk X.K F1 H1 σ (fun a => H a = none) [y] [p]) (e1 : bor ε1 o = some d) (e2 : bor ε1 p = some e) : RepB X.K F1 H1 x d ∧ RepB X.K F1 H1 y e := by
  have no : ∀ a, H0 a = none → ¬ Own σ ε a := fun a z w => o0.not_own z (s.ow w)
  have b1 : bors ε1 [o] = some [d] := by simp [bors, e1]
  have b2 : bors ε1 [p] = some [e] := by simp [bors, e2]
  obtain ⟨x', ex, rx⟩ := (bors_ok s1.ok (r.keep s1 no) b1).one
  obtain ⟨y', ey, ry⟩ := (bors_ok s1.ok r1 b2).one
  cases ex
  cases ey
  exact ⟨rx, ry⟩
theorem chn_run : ∀ {ops : List CmpOp} {es : List Expr} {l : List ((D → D → Option C) × OM)}, Chn X ops es l → ∀ {pins : List (Addr × Obj)} {s : Shared} {σ : St} {F0 H0 F H : Hp} {ε0 ε : Cs} {o : Opd} {x : V} {v : Value} {c : C} {ε' : Cs} {pos : Pos} {Q : VK}, Ok X.K F0 H0 σ ε0 →
    Stp X.K F0 H0 σ ε0 F H ε → OpsOk X.K F H σ (fun a => H0 a = none) [x] [o] → Inv X pins σ H s → RelV x v → chnL o l ε = some (c, ε') → (∀ w F' H', Post X.K F0 H0 σ ε0 F' H' ε' w c → Q w H') →
    wpAny (model X.prog X.w) X.A (compareChain pos v ops (evalEach es X.env)) (EP X pins σ Q) X.xe s := by
  intro ops es l h
  induction h with
  | one ho hf he =>
    intro pins s σ F0 H0 F H ε0 ε o x v c ε' pos Q o0 st r I rx e q
    rename_i op ex f m rr
    simp only [chnL] at e
    cases e1 : m ε with
    | none => simp [e1] at e
    | some p =>
      obtain ⟨p, ε1⟩ := p
      cases e2 : bor ε1 o with
      | none => simp [e1, e2] at e
      | some d =>
        cases e3 : bor ε1 p with
        | none => simp [e1, e2, e3] at e
        | some d2 =>
          cases e4 : f d d2 with
          | none => simp [e1, e2, e3, e4] at e
          | some c' =>
            simp [e1, e2, e3, e4] at e
            obtain ⟨rfl, rfl⟩ := e
            refine chain_last (thn (he.run pins s σ H (fun y H1 => rr x y H1 Q) I ⟨F, ε, p, ε1, st.ok, e1, fun y F1 H1 s1 r1 => ?_⟩) fun u s4 ⟨y, H4, I4, r4, q4⟩ => ho pins s4 σ H4 x y v u Q I4 rx r4 q4)
            obtain ⟨rx', ry'⟩ := chn_two o0 st r s1 r1 e2 e3
            refine hf F1 H1 x y d d2 c' Q s1.ok.sub rx' ry' e4 fun w F2 H2 g => ?_
            have S1 := st.trans s1
            exact q w F2 H2 ⟨S1.trans (g.stp S1.ok), g.rep, fun es a h1 h2 => live_back S1.fr (g.new es a h1 h2)⟩
  | cons ho hf he hr ih =>
    intro pins s σ F0 H0 F H ε0 ε o x v c ε' pos Q o0 st r I rx e q
    rename_i op ex f m rr op' ops e' es y0 l
    simp only [chnL] at e
    cases e1 : m ε with
    | none => simp [e1] at e
    | some p =>
      obtain ⟨p, ε1⟩ := p
      cases e2 : bor ε1 o with
      | none => simp [e1, e2] at e
      | some d =>
        cases e3 : bor ε1 p with
        | none => simp [e1, e2, e3] at e
        | some d2 =>
          simp only [e1, e2, e3, Option.bind_eq_bind, Option.bind_some] at e
          refine chain_link (thn (he.run pins s σ H (fun y H1 => rr x y H1 fun z H2 => ∃ k F2, z = .bl k ∧ f d d2 = some (.sh (.bool k)) ∧ Stp X.K F0 H0 σ ε0 F2 H2 ε1 ∧ OpsOk X.K F2 H2 σ (fun a => H0 a = none) [y] [p]) I ⟨F, ε, p, ε1, st.ok, e1, fun y F1 H1 s1 r1 => ?_⟩)
            fun u s4 ⟨y, H4, I4, r4, q4⟩ => thn (ho pins s4 σ H4 x y v u _ I4 rx r4 q4) fun dd s5 ⟨z, H5, I5, r5, k, F5, ez, ek, S5, R5⟩ => ?_)
          · obtain ⟨rx', ry'⟩ := chn_two o0 st r s1 r1 e2 e3
            have S1 := st.trans s1
            have fin : ∀ k, f d d2 = some (.sh (.bool k)) → rr x y H1 fun z H2 => ∃ k F2, z = .bl k ∧ f d d2 = some (.sh (.bool k)) ∧ Stp X.K F0 H0 σ ε0 F2 H2 ε1 ∧ OpsOk X.K F2 H2 σ (fun a => H0 a = none) [y] [p] := fun k ek => by
              refine hf F1 H1 x y d d2 _ _ s1.ok.sub rx' ry' ek fun w F2 H2 g => ?_
              have hw : w = .bl k := rep_bool g.rep
              have sg := g.stp s1.ok
              have no : ∀ a, H a = none → ¬ Own σ ε1 a := fun a z w => st.ok.not_own z (s1.ow w)
              exact ⟨k, F2, hw, ek, S1.trans (g.stp S1.ok), (r1.keep sg no).imp fun a z => live_back st.fr z⟩
            split at e
            · exact fin true (by assumption)
            · exact fin false (by assumption)
            · cases e
          · subst ez
            cases r5
            refine wpAny_truthy_bool ?_
            cases k with
            | false =>
              rw [ek] at e
              cases e
              exact ite_ff ⟨.bl false, H5, I5, rfl, q _ F5 H5 (post_bool S5 false)⟩
            | true =>
              rw [ek] at e
              exact ite_tt (ih o0 S5 R5 I5 r4 e q)
theorem tst_run : ∀ {ops : List CmpOp} {es : List Expr} {l : List ((D → D → Option C) × OM)}, Chn X ops es l → ∀ {pins : List (Addr × Obj)} {s : Shared} {σ : St} {F0 H0 F H : Hp} {ε0 ε : Cs} {o : Opd} {x : V} {v : Value} {b : Bool} {ε' : Cs} {pos : Pos} {Q : Bool → Hp → Prop}, Ok X.K F0 H0 σ ε0 →
    Stp X.K F0 H0 σ ε0 F H ε → OpsOk X.K F H σ (fun a => H0 a = none) [x] [o] → Inv X pins σ H s → RelV x v → chnL o l ε = some (.sh (.bool b), ε') → (∀ F' H', Stp X.K F0 H0 σ ε0 F' H' ε' → Q b H') →
    wpAny (model X.prog X.w) X.A (testChain pos v ops (evalEach es X.env)) (fun k s' => ∃ H', Inv X pins σ H' s' ∧ Q k H') X.xe s := by
  intro ops es l h
  induction h with
  | one ho hf he =>
    intro pins s σ F0 H0 F H ε0 ε o x v b ε' pos Q o0 st r I rx e q
    rename_i op ex f m rr
    simp only [chnL] at e
    cases e1 : m ε with
    | none => simp [e1] at e
    | some p =>
      obtain ⟨p, ε1⟩ := p
      cases e2 : bor ε1 o with
      | none => simp [e1, e2] at e
      | some d =>
        cases e3 : bor ε1 p with
        | none => simp [e1, e2, e3] at e
        | some d2 =>
          cases e4 : f d d2 with
          | none => simp [e1, e2, e3, e4] at e
          | some c' =>
            simp [e1, e2, e3, e4] at e
            obtain ⟨rfl, rfl⟩ := e
            refine test_last (thn (he.run pins s σ H (fun y H1 => rr x y H1 fun z H2 => z = .bl b ∧ Q b H2) I ⟨F, ε, p, ε1, st.ok, e1, fun y F1 H1 s1 r1 => ?_⟩) fun u s4 ⟨y, H4, I4, r4, q4⟩ =>
              thn (ho pins s4 σ H4 x y v u _ I4 rx r4 q4) fun dd s5 ⟨z, H5, I5, r5, ez, q5⟩ => ?_)
            · obtain ⟨rx', ry'⟩ := chn_two o0 st r s1 r1 e2 e3
              refine hf F1 H1 x y d d2 _ _ s1.ok.sub rx' ry' e4 fun w F2 H2 g => ?_
              have S1 := st.trans s1
              exact ⟨rep_bool g.rep, q F2 H2 (S1.trans (g.stp S1.ok))⟩
            · subst ez
              cases r5
              exact wpAny_truthy_bool ⟨H5, I5, q5⟩
  | cons ho hf he hr ih =>
    intro pins s σ F0 H0 F H ε0 ε o x v b ε' pos Q o0 st r I rx e q
    rename_i op ex f m rr op' ops e' es y0 l
    simp only [chnL] at e
    cases e1 : m ε with
    | none => simp [e1] at e
    | some p =>
      obtain ⟨p, ε1⟩ := p
      cases e2 : bor ε1 o with
      | none => simp [e1, e2] at e
      | some d =>
        cases e3 : bor ε1 p with
        | none => simp [e1, e2, e3] at e
        | some d2 =>
          simp only [e1, e2, e3, Option.bind_eq_bind, Option.bind_some] at e
          refine test_link (thn (he.run pins s σ H (fun y H1 => rr x y H1 fun z H2 => ∃ k F2, z = .bl k ∧ f d d2 = some (.sh (.bool k)) ∧ Stp X.K F0 H0 σ ε0 F2 H2 ε1 ∧ OpsOk X.K F2 H2 σ (fun a => H0 a = none) [y] [p]) I ⟨F, ε, p, ε1, st.ok, e1, fun y F1 H1 s1 r1 => ?_⟩)
            fun u s4 ⟨y, H4, I4, r4, q4⟩ => thn (ho pins s4 σ H4 x y v u _ I4 rx r4 q4) fun dd s5 ⟨z, H5, I5, r5, k, F5, ez, ek, S5, R5⟩ => ?_)
          · obtain ⟨rx', ry'⟩ := chn_two o0 st r s1 r1 e2 e3
            have S1 := st.trans s1
            have fin : ∀ k, f d d2 = some (.sh (.bool k)) → rr x y H1 fun z H2 => ∃ k F2, z = .bl k ∧ f d d2 = some (.sh (.bool k)) ∧ Stp X.K F0 H0 σ ε0 F2 H2 ε1 ∧ OpsOk X.K F2 H2 σ (fun a => H0 a = none) [y] [p] := fun k ek => by
              refine hf F1 H1 x y d d2 _ _ s1.ok.sub rx' ry' ek fun w F2 H2 g => ?_
              have hw : w = .bl k := rep_bool g.rep
              have sg := g.stp s1.ok
              have no : ∀ a, H a = none → ¬ Own σ ε1 a := fun a z w => st.ok.not_own z (s1.ow w)
              exact ⟨k, F2, hw, ek, S1.trans (g.stp S1.ok), (r1.keep sg no).imp fun a z => live_back st.fr z⟩
            split at e
            · exact fin true (by assumption)
            · exact fin false (by assumption)
            · cases e
          · subst ez
            cases r5
            refine wpAny_truthy_bool ?_
            cases k with
            | false =>
              rw [ek] at e
              cases e
              exact ite_ff ⟨H5, I5, q F5 H5 S5⟩
            | true =>
              rw [ek] at e
              exact ite_tt (ih o0 S5 R5 I5 r4 e q)
variable {a e1 e2 : Expr} {es : List Expr} {op1 op2 : CmpOp} {ops : List CmpOp} {m : OM} {l : List ((D → D → Option C) × OM)} {pos : Pos}
theorem me_chain (ha : PE X a (tO X.K m)) (h : Chn X (op1 :: op2 :: ops) (e1 :: e2 :: es) l) (hm : lastMarks (op1 :: op2 :: ops) (e1 :: e2 :: es) = false) : PE X (.Compare a (op1 :: op2 :: ops) (e1 :: e2 :: es) pos) (tE X.K (mChn m l)) :=
  ⟨fun pins s σ H Q I hh => by
    obtain ⟨F, ε, c, ε', ok, e, q⟩ := hh
    unfold mChn at e
    cases e0 : m ε with
    | none => simp [e0] at e
    | some p =>
      obtain ⟨o, ε1⟩ := p
      simp only [e0, Option.bind_eq_bind, Option.bind_some] at e
      refine Compare_chain (thn (ha.run pins s σ H (fun x H1 => ∃ F1, Stp X.K F H σ ε F1 H1 ε1 ∧ OpsOk X.K F1 H1 σ (fun a => H a = none) [x] [o]) I ⟨F, ε, o, ε1, ok, e0, fun v F1 H1 s1 r1 => ⟨F1, s1, r1⟩⟩) fun v s1 ⟨x, H1, I1, r1, F1, S1, R1⟩ => ?_) hm
      exact chn_run h ok S1 R1 I1 r1 e q⟩
theorem mt_chain (ha : PE X a (tO X.K m)) (h : Chn X (op1 :: op2 :: ops) (e1 :: e2 :: es) l) (hm : lastMarks (op1 :: op2 :: ops) (e1 :: e2 :: es) = false) : PT X (.Compare a (op1 :: op2 :: ops) (e1 :: e2 :: es) pos) (tT X.K (mTst (mChn m l))) :=
  ⟨fun pins s σ H Q I hh => by
    obtain ⟨F, ε, b, ε', ok, e, q⟩ := hh
    unfold mTst at e
    split at e
    · rename_i b' ε1 e'
      cases e
      unfold mChn at e'
      cases e0 : m ε with
      | none => simp [e0] at e'
      | some p =>
        obtain ⟨o, ε1⟩ := p
        simp only [e0, Option.bind_eq_bind, Option.bind_some] at e'
        refine isTrue_chain (thn (ha.run pins s σ H (fun x H1 => ∃ F1, Stp X.K F H σ ε F1 H1 ε1 ∧ OpsOk X.K F1 H1 σ (fun a => H a = none) [x] [o]) I ⟨F, ε, o, ε1, ok, e0, fun v F1 H1 s1 r1 => ⟨F1, s1, r1⟩⟩) fun v s1 ⟨x, H1, I1, r1, F1, S1, R1⟩ => ?_) hm
        exact tst_run h ok S1 R1 I1 r1 e' q
    · cases e⟩
end

/-! ### isinstance(x, T) -/
def tyS : D → String
  | .none => "NoneType"
  | .bool _ => "bool"
  | .int _ => "int"
  | .str _ => "str"
  | .list _ => "list"
  | .tuple _ => "tuple"
  | .dict _ => "dict"
inductive Ty where
  | int | bool | str | list | tuple | dict
def Ty.nm : Ty → String
  | .int => "int"
  | .bool => "bool"
  | .str => "str"
  | .list => "list"
  | .tuple => "tuple"
  | .dict => "dict"
def isiD : Ty → D → Bool
  | .int, .int _ => true
  | .int, .bool _ => true
  | .bool, .bool _ => true
  | .str, .str _ => true
  | .list, .list _ => true
  | .tuple, .tuple _ => true
  | .dict, .dict _ => true
  | _, _ => false
theorem isi_kit : ∀ (T : Ty) (d : D), kitB (tyS d) T.nm = some (isiD T d) := by
  intro T d
  cases T <;> cases d <;> (simp only [tyS, Ty.nm, isiD]; decide +kernel)
theorem rb_ty {K : PySem.W.Frag} {F H : Hp} {x : V} {d : D} (s : Same F H) (h : RepB K F H x d) : TyX K H x (.type (tyS d)) := by
  cases d with
  | none => rw [rb_non h]; exact .base .non
  | bool b => rw [rb_bool h]; exact .base (.bl b)
  | int b => rw [rb_int h]; exact .base (.int b)
  | str b => rw [rb_str h]; exact .base (.str b)
  | list b =>
    obtain ⟨a, vs, rfl, g1, _⟩ := rb_lst s h
    rcases g1 with (g1 | ⟨o, g1⟩) | ⟨o, its, n, hk, hc, _⟩
    · exact .base (.lst g1)
    · exact .base (.frz g1)
    · exact .kList hk hc
  | tuple b =>
    obtain ⟨a, vs, rfl, _, g1, _⟩ := rb_tup s h
    rcases g1 with (g1 | ⟨o, g1⟩) | ⟨o, its, n, hk, hc, _⟩
    · exact .base (.tup g1)
    · exact .fTuple g1
    · exact .kTuple hk hc
  | dict b =>
    obtain ⟨a, kvs, rfl, g1, _⟩ := rb_dct s h
    exact .base (.dK g1)
def mIsi (T : Ty) (m : OM) : EM := mU (fun d => some (.sh (.bool (isiD T d)))) m
section
variable {X : Cx} {e : Expr} {m : OM} {x p pos : Pos}
theorem me_isi {T : Ty} {y : Str} (hm : X.mg "isinstance" = none) (hmT : X.mg y = none) (hg : Gl X "isinstance") (hgT : Gl X y) (hv : bootBuiltins y = some (.type T.nm)) (he : PE X e (tO X.K m)) (hn : y ≠ "__name__") (hdb : (y == ("__debug__" : Str)) = false)
    (hs : starEach [e, .Name y p] X.env = (false, eval e X.env) :: starEach [.Name y p] X.env) (hs2 : starEach [.Name y p] X.env = [(false, eval (.Name y p) X.env)]) (hpl : (backTo pos (starEach [.Name y p] X.env)).any (·.1) = false) :
    PE X (.Call (.Name "isinstance" x) [e, .Name y p] [] pos) (tE X.K (mIsi T m)) :=
  (pe_callB call_isi hg hm boot_isinstance (pa_cons he (pa_cons (pe_bltn (v := .ty T.nm) hgT hmT hv rfl hn hdb) pa_nil hs2) hs) (by decide) (by decide) hs hpl).weak fun σ H Q h => by
    have h2 := tE_u (r := fun x H Q => rIsi X.K [x, .ty T.nm] H Q) (fun F H x d c Q s h1 he q => by
      cases he
      exact ⟨x, .ty T.nm, _, _, isiD T d, rfl, .ty _, rb_ty s h1, kit_ty (isi_kit T d), g_bool s q⟩) h
    refine tO_mono h2 fun v H' q => ?_
    exact q
end
end L2.M

/-! Several names at once; the def's promise from its body. -/
namespace L2.M
open PySem PySem.Spec PyProof.Rows

/-! ### temporaries, apart from each other -/
inductive Tms (K : PySem.W.Frag) (F H : Hp) : (Addr → Prop) → List V → List C → Prop where
  | nil {N : Addr → Prop} : Tms K F H N [] []
  | sh {N : Addr → Prop} {v : V} {d : D} {vs : List V} {cs : List C} : Rep K F v d → Tms K F H N vs cs → Tms K F H N (v :: vs) (.sh d :: cs)
  | ls {N : Addr → Prop} {a : Addr} {ws : List V} {ds : List D} {vs : List V} {cs : List C} : H a = some (.lst ws) → F a = none → Reps K F ws ds → N a → Tms K F H (fun b => N b ∧ b ≠ a) vs cs → Tms K F H N (.ref a :: vs) (.ls ds :: cs)
theorem Tms.imp {K : PySem.W.Frag} {F H : Hp} {N : Addr → Prop} {vs : List V} {cs : List C} (h : Tms K F H N vs cs) : ∀ {N' : Addr → Prop}, (∀ a, N a → N' a) → Tms K F H N' vs cs := by
  induction h with
  | nil => intro N' i; exact .nil
  | sh h _ ih => intro N' i; exact .sh h (ih i)
  | ls h1 h2 h3 h4 _ ih => intro N' i; exact .ls h1 h2 h3 (i _ h4) (ih fun a z => ⟨i a z.1, z.2⟩)
def keepT : List Opd → List Bool
  | [] => []
  | .pl _ :: os => false :: keepT os
  | .tm _ :: os => true :: keepT os
def tmsO : List Opd → Option (List C)
  | [] => some []
  | .tm (.sh d) :: os => (tmsO os).map (C.sh d :: ·)
  | .tm (.ls ds) :: os => (tmsO os).map (C.ls ds :: ·)
  | _ => none
theorem tms_of {K : PySem.W.Frag} {F H : Hp} {σ : St} : ∀ {os : List Opd} {vs : List V} {cs : List C} {N : Addr → Prop}, OpsOk K F H σ N vs os → tmsO os = some cs → Tms K F H N vs cs
  | [], vs, cs, N, h, e => by
    cases h
    cases e
    exact .nil
  | .pl i :: os, vs, cs, N, h, e => by cases e
  | .tm .no :: os, vs, cs, N, h, e => by cases e
  | .tm (.sh d) :: os, vs, cs, N, h, e => by
    simp only [tmsO, Option.map_eq_some_iff] at e
    obtain ⟨cs', e1, rfl⟩ := e
    cases h with
    | sh h1 h2 => exact .sh h1 (tms_of h2 e1)
  | .tm (.ls ds) :: os, vs, cs, N, h, e => by
    simp only [tmsO, Option.map_eq_some_iff] at e
    obtain ⟨cs', e1, rfl⟩ := e
    cases h with
    | @ls a ws _ vs' _ g1 g2 g3 g4 g5 h2 =>
      have apart : ∀ {os : List Opd} {vs : List V}, OpsOk K F H σ N vs os → (∀ (j : Nat) (es : List D), os[j]? = some (.tm (.ls es)) → vs[j]? ≠ some (.ref a)) → OpsOk K F H σ (fun b => N b ∧ b ≠ a) vs os := by
        intro os vs h
        induction h with
        | nil => intro _; exact .nil
        | pl k _ ih => intro z; exact .pl k (ih fun j es e => by simpa using z (j + 1) es (by simpa using e))
        | sh k _ ih => intro z; exact .sh k (ih fun j es e => by simpa using z (j + 1) es (by simpa using e))
        | ls k1 k2 k3 k4 k5 _ ih => intro z; exact .ls k1 k2 k3 ⟨k4, fun e => z 0 _ rfl (by rw [e]; rfl)⟩ k5 (ih fun j es e => by simpa using z (j + 1) es (by simpa using e))
      exact .ls g1 g2 g3 g4 (tms_of (apart h2 g5) e1)

def setA : List Nat → List C → Cs → Cs
  | i :: is, c :: cs, ε => setA is cs (ε.set i c)
  | _, _, ε => ε
def setV : List Nat → List V → St → St
  | i :: is, v :: vs, σ => setV is vs (σ.set i (some v))
  | _, _, σ => σ
section
variable {K : PySem.W.Frag} {F H : Hp} {σ : St} {ε : Cs}
/-- a slot takes a value -/
theorem Ok.putC (o : Ok K F H σ ε) {i : Nat} {v : V} {c : C} (hi : i < ε.length) (r : RepC K F H v c) (n : ∀ (ds : List D) (a : Addr), c = .ls ds → v = .ref a → ¬ Own σ ε a) :
    Ok K F H (σ.set i (some v)) (ε.set i c) ∧ ∀ b, Own (σ.set i (some v)) (ε.set i c) b → Own σ ε b ∨ ∃ ds, c = .ls ds ∧ v = .ref b := by
  have hs : i < σ.length := by rw [o.len]; exact hi
  have at_ : ∀ {j : Nat} {c' : C}, (ε.set i c)[j]? = some c' → (j = i ∧ c' = c) ∨ (j ≠ i ∧ ε[j]? = some c') := fun {j c'} h => by
    by_cases e : j = i
    · subst e; rw [List.getElem?_set_self hi] at h; cases h; exact .inl ⟨rfl, rfl⟩
    · rw [List.getElem?_set_ne (Ne.symm e)] at h; exact .inr ⟨e, h⟩
  have vi : (σ.set i (some v))[i]? = some (some v) := List.getElem?_set_self hs
  have vn : ∀ {j : Nat}, j ≠ i → (σ.set i (some v))[j]? = σ[j]? := fun {j} e => List.getElem?_set_ne (Ne.symm e)
  refine ⟨⟨o.sub, by simp [o.len], fun j d h => ?_, fun j ds h => ?_, fun j k a ds es h1 h2 h3 h4 => ?_⟩, fun b h => ?_⟩
  · rcases at_ h with ⟨rfl, rfl⟩ | ⟨e, h⟩
    · exact ⟨v, vi, r⟩
    · rw [vn e]; exact o.sh j d h
  · rcases at_ h with ⟨rfl, rfl⟩ | ⟨e, h⟩
    · obtain ⟨a, ws, rfl, h1, h2, h3⟩ := r
      exact ⟨a, ws, vi, h1, h2, h3⟩
    · rw [vn e]; exact o.ls j ds h
  · rcases at_ h1 with ⟨ej, e1⟩ | ⟨e1, g1⟩
    · rcases at_ h2 with ⟨ek, e2⟩ | ⟨e2, g2⟩
      · rw [ej, ek]
      · rw [ej, vi] at h3
        rw [vn e2] at h4
        exact absurd ⟨k, es, g2, h4⟩ (n ds a e1.symm (Option.some.inj (Option.some.inj h3)))
    · rcases at_ h2 with ⟨ek, e2⟩ | ⟨e2, g2⟩
      · rw [ek, vi] at h4
        rw [vn e1] at h3
        exact absurd ⟨j, ds, g1, h3⟩ (n es a e2.symm (Option.some.inj (Option.some.inj h4)))
      · rw [vn e1] at h3
        rw [vn e2] at h4
        exact o.inj j k a _ _ g1 g2 h3 h4
  · obtain ⟨j, ds, h1, h2⟩ := h
    rcases at_ h1 with ⟨rfl, rfl⟩ | ⟨e1, h1⟩
    · rw [vi] at h2
      exact .inr ⟨ds, rfl, Option.some.inj (Option.some.inj h2)⟩
    · rw [vn e1] at h2
      exact .inl ⟨j, ds, h1, h2⟩
theorem putAll : ∀ {is : List Nat} {vs : List V} {cs : List C} {N : Addr → Prop} {σ : St} {ε : Cs}, Ok K F H σ ε → Tms K F H N vs cs → (∀ a, N a → ¬ Own σ ε a) → is.length = vs.length → (∀ i ∈ is, i < ε.length) →
    Ok K F H (setV is vs σ) (setA is cs ε) ∧ (∀ b, Own (setV is vs σ) (setA is cs ε) b → Own σ ε b ∨ N b) ∧ (∀ j : Nat, j ∉ is → (setV is vs σ)[j]? = σ[j]? ∧ (setA is cs ε)[j]? = ε[j]?) ∧ (setA is cs ε).length = ε.length
  | [], vs, cs, N, σ, ε, o, t, n, hl, hi => by
    cases t with
    | nil => exact ⟨o, fun b h => .inl h, fun j _ => ⟨rfl, rfl⟩, rfl⟩
    | sh _ _ => cases hl
    | ls _ _ _ _ _ => cases hl
  | i :: is, vs, cs, N, σ, ε, o, t, n, hl, hi => by
    cases t with
    | nil => cases hl
    | @sh _ v d vs cs r t =>
      obtain ⟨o1, w1⟩ := o.putC (i := i) (v := v) (c := .sh d) (hi i List.mem_cons_self) r fun _ _ z => nomatch z
      have n1 : ∀ a, N a → ¬ Own (σ.set i (some v)) (ε.set i (.sh d)) a := fun a z w => by
        rcases w1 a w with w | ⟨_, w, _⟩
        · exact n a z w
        · cases w
      obtain ⟨o2, w2, k2, l2⟩ := putAll (is := is) o1 t n1 (by simpa using hl) fun j hj => by simpa using hi j (List.mem_cons_of_mem _ hj)
      refine ⟨o2, fun b h => ?_, fun j hj => ?_, l2.trans (by simp)⟩
      · rcases w2 b h with w | w
        · rcases w1 b w with w | ⟨_, w, _⟩
          · exact .inl w
          · cases w
        · exact .inr w
      · simp only [List.mem_cons, not_or] at hj
        obtain ⟨e1, e2⟩ := k2 j hj.2
        refine ⟨e1.trans ?_, e2.trans ?_⟩
        · exact List.getElem?_set_ne (Ne.symm hj.1)
        · exact List.getElem?_set_ne (Ne.symm hj.1)
    | @ls _ a ws ds vs cs h1 h2 h3 h4 t =>
      obtain ⟨o1, w1⟩ := o.putC (i := i) (v := .ref a) (c := .ls ds) (hi i List.mem_cons_self) ⟨a, ws, rfl, h1, h2, h3⟩ fun _ b _ e => by cases e; exact n _ h4
      have n1 : ∀ b, N b ∧ b ≠ a → ¬ Own (σ.set i (some (.ref a))) (ε.set i (.ls ds)) b := fun b z w => by
        rcases w1 b w with w | ⟨_, _, w⟩
        · exact n b z.1 w
        · cases w; exact z.2 rfl
      obtain ⟨o2, w2, k2, l2⟩ := putAll (is := is) o1 t n1 (by simpa using hl) fun j hj => by simpa using hi j (List.mem_cons_of_mem _ hj)
      refine ⟨o2, fun b h => ?_, fun j hj => ?_, l2.trans (by simp)⟩
      · rcases w2 b h with w | w
        · rcases w1 b w with w | ⟨_, _, w⟩
          · exact .inl w
          · cases w; exact .inr h4
        · exact .inr w.1
      · simp only [List.mem_cons, not_or] at hj
        obtain ⟨e1, e2⟩ := k2 j hj.2
        refine ⟨e1.trans ?_, e2.trans ?_⟩
        · exact List.getElem?_set_ne (Ne.symm hj.1)
        · exact List.getElem?_set_ne (Ne.symm hj.1)
end
/-- a, b, .. = x, y, .. (names that no other def holds on to) -/
def mPar (io is : List Nat) (ma : AM) : XM := fun ε => do
  let (os, ε1) ← ma ε
  let (os2, ε2) ← frz (keepT os) os ε1
  let cs ← tmsO os2
  if cs.length = is.length ∧ cs.length ≤ sizeLine ∧ (∀ i ∈ is, i < ε2.length ∧ i ∉ io) then some (.nx, setA is cs ε2) else none
theorem Tms.len {K : PySem.W.Frag} {F H : Hp} {N : Addr → Prop} {vs : List V} {cs : List C} (h : Tms K F H N vs cs) : vs.length = cs.length := by
  induction h with
  | nil => rfl
  | sh _ _ ih => simp [ih]
  | ls _ _ _ _ _ ih => simp [ih]
theorem tS_par {K : PySem.W.Frag} {io is : List Nat} {ma : AM} {De : Ends} {σ : St} {H : Hp} (h : tS K io (mPar io is ma) De σ H) :
    tA K ma σ H fun vs H1 => vs.length = is.length ∧ vs.length ≤ sizeLine ∧ De.nx (setV is vs σ) H1 ∧ ∀ p, H1 p = none → De.nx (setV is vs σ) (upd H1 p (.tup vs)) := by
  obtain ⟨F, ε, f, ε', o, e, q⟩ := h
  unfold mPar at e
  cases e1 : ma ε with
  | none => simp [e1] at e
  | some p =>
    obtain ⟨os, ε1⟩ := p
    cases e2 : frz (keepT os) os ε1 with
    | none => simp [e1, e2] at e
    | some p2 =>
      obtain ⟨os2, ε2⟩ := p2
      cases e3 : tmsO os2 with
      | none => simp [e1, e2, e3] at e
      | some cs =>
        simp only [e1, e2, e3, Option.bind_eq_bind, Option.bind_some] at e
        split at e
        · rename_i hc
          cases e
          obtain ⟨hc1, hc2, hc3⟩ := hc
          refine ⟨F, ε, os, ε1, o, e1, fun vs F1 H1 s1 r1 => ?_⟩
          obtain ⟨F2, s2, r2, fm, _, _⟩ := frz_ok o s1 r1 e2
          have t2 := tms_of r2 e3
          have vl : vs.length = is.length := by rw [t2.len, hc1]
          have all : ∀ {H2 : Hp} {F3 : Hp}, Stp K F H σ ε F3 H2 ε2 → Tms K F3 H2 (fun a => H a = none) vs cs → De.nx (setV is vs σ) H2 := fun {H2 F3} s3 t3 => by
            have n3 : ∀ a, H a = none → ¬ Own σ ε2 a := fun a z w => o.not_own z (s3.ow w)
            obtain ⟨ok, ow, kp, ln⟩ := putAll (is := is) s3.ok t3 n3 vl.symm fun i hi => (hc3 i hi).1
            refine q F3 H2 (setV is vs σ) ⟨ok, ⟨s3.fr.fm, s3.fr.keep, s3.fr.ff, s3.fr.live, fun b z => ?_⟩, fun j hj => ?_, fun j ds a hj h1 h2 => ?_, ln.trans (s3.len o)⟩
            · rcases ow b z with z | z
              · exact .inl (s3.ow z)
              · exact .inr z
            · have hn : j ∉ is := fun z => (hc3 j z).2 hj
              obtain ⟨k1, k2⟩ := kp j hn
              exact ⟨k1, by rw [k2]; exact s3.go j⟩
            · have hn : j ∉ is := fun z => (hc3 j z).2 hj
              obtain ⟨k1, k2⟩ := kp j hn
              rw [k2]
              exact s3.fz j ds a h1 h2
          refine ⟨vl, by rw [t2.len]; exact hc2, all s2 t2, fun p hp => ?_⟩
          obtain ⟨s3, h3, h4⟩ := s2.laidL (u := .tup vs) hp
          refine all s3 ?_
          have up : ∀ {N : Addr → Prop} {vs' : List V} {cs' : List C}, Tms K F2 H1 N vs' cs' → Tms K F2 (upd H1 p (.tup vs)) N vs' cs' := by
            intro N vs' cs' t
            induction t with
            | nil => exact .nil
            | sh k _ ih => exact .sh k ih
            | ls k1 k2 k3 k4 _ ih => exact .ls (by rw [upd_ne (ne_of_none k1 hp)]; exact k1) k2 k3 k4 ih
          exact up t2
        · cases e
def gOf : List Nat → TGs
  | [] => gNil
  | i :: is => gCons (gName i) (gOf is)
theorem gOf_run : ∀ {is : List Nat} {vs : List V} {σ : St} {H : Hp} {Q : St → Hp → Prop}, vs.length = is.length → Q (setV is vs σ) H → gOf is vs σ H Q
  | [], [], σ, H, Q, _, h => ⟨rfl, h⟩
  | [], v :: vs, σ, H, Q, e, h => by cases e
  | i :: is, [], σ, H, Q, e, h => by cases e
  | i :: is, v :: vs, σ, H, Q, e, h => ⟨v, vs, rfl, gOf_run (is := is) (by simpa using e) h⟩
section
variable {X : Cx} {io : List Nat} {ma : AM}
theorem ms_par2 {i j : Nat} {x y : Str} {a b : Expr} {px py pt pos : Pos} {kt k2 pt2} (hc : X.calm = true) (hN : X.N.Nodup) (hi : X.N[i]? = some x) (hj : X.N[j]? = some y) (hij : i ≠ j) (hx : X.env.scope.names.lookup x = some .local) (hy : X.env.scope.names.lookup y = some .local)
    (ha : PA X [a, b] (tA X.K ma)) (hw : swappedStores [.Tuple [.Name x px, .Name y py] kt pt] (.Tuple [a, b] k2 pt2) X.env = pure (some [x, y]))
    (hs : swapsWithSole [.Tuple [.Name x px, .Name y py] kt pt] (.Tuple [a, b] k2 pt2) pos.line X.env = pure false) :
    PS X (.Assign [.Tuple [.Name x px, .Name y py] kt pt] (.Tuple [a, b] k2 pt2) pos) (tS X.K io (mPar io [i, j] ma)) := (ps_par hc hN hi hj hij hx hy ha hw hs).weak fun De σ H h => by
  refine tA_mono (tS_par h) fun vs H1 q => ?_
  obtain ⟨hl, _, q, _⟩ := q
  match vs, hl, q with
  | [u, v], _, q => exact ⟨u, v, rfl, q⟩
theorem ms_par3 {i j l : Nat} {x y z : Str} {a b c : Expr} {px py pz pt pos : Pos} {kt k2 pt2} (hc : X.calm = true) (hN : X.N.Nodup) (hi : X.N[i]? = some x) (hj : X.N[j]? = some y) (hl : X.N[l]? = some z) (hij : i ≠ j) (hil : i ≠ l) (hjl : j ≠ l)
    (hx : X.env.scope.names.lookup x = some .local) (hy : X.env.scope.names.lookup y = some .local) (hz : X.env.scope.names.lookup z = some .local) (ha : PA X [a, b, c] (tA X.K ma))
    (hw : swappedStores [.Tuple [.Name x px, .Name y py, .Name z pz] kt pt] (.Tuple [a, b, c] k2 pt2) X.env = pure (some [x, y, z]))
    (hs : swapsWithSole [.Tuple [.Name x px, .Name y py, .Name z pz] kt pt] (.Tuple [a, b, c] k2 pt2) pos.line X.env = pure false) :
    PS X (.Assign [.Tuple [.Name x px, .Name y py, .Name z pz] kt pt] (.Tuple [a, b, c] k2 pt2) pos) (tS X.K io (mPar io [i, j, l] ma)) := (ps_par3 hc hN hi hj hl hij hil hjl hx hy hz ha hw hs).weak fun De σ H h => by
  refine tA_mono (tS_par h) fun vs H1 q => ?_
  obtain ⟨hl, _, q, _⟩ := q
  match vs, hl, q with
  | [u, v, w], _, q => exact ⟨u, v, w, rfl, q⟩
theorem ms_parN {is : List Nat} {es ts : List Expr} {kt k2 : Nat} {pt pt2 pos : Pos} {n : Nat} (hc : X.calm = true) (hg : PGs X ts (gOf is)) (ha : PA X es (tA X.K ma)) (hn : (assignEach ts X.env).length = n) (hni : n = is.length) (hst : (assignEach ts X.env).findIdx? (·.1) = none)
    (hs : swapsWithSole [.Tuple ts kt pt] (.Tuple es k2 pt2) pos.line X.env = pure false) (hw : swappedStores [.Tuple ts kt pt] (.Tuple es k2 pt2) X.env = pure none) (h1 : (assignEach [.Tuple ts kt pt] X.env).map (·.2) = [assign (.Tuple ts kt pt) X.env]) :
    PS X (.Assign [.Tuple ts kt pt] (.Tuple es k2 pt2) pos) (tS X.K io (mPar io is ma)) := (ps_asg (pe_tup ha) (pg_tup hc hg hn hst) hs hw h1).weak fun De σ H h => by
  refine tA_mono (tS_par h) fun vs H1 q => ?_
  obtain ⟨hl, hz, _, q⟩ := q
  exact ⟨hz, fun p hp => ⟨p, vs, rfl, .inl (.inl upd_same), by rw [hl, hni], gOf_run hl (q p hp)⟩⟩
end

/-! ### a def's meaning -/
def shared : List Bool → List C → Bool
  | [], [] => true
  | true :: bs, c :: cs => shared bs cs
  | false :: bs, .sh _ :: cs => shared bs cs
  | _, _ => false
/-- what the caller's cells are behind the call -/
def after : List Bool → List C → Cs → List C
  | true :: bs, _ :: cs, e :: ε => e :: after bs cs ε
  | false :: bs, c :: cs, _ :: ε => c :: after bs cs ε
  | _, _, _ => []
def iosAt (k : Nat) : List Bool → List Nat
  | [] => []
  | true :: bs => k :: iosAt (k + 1) bs
  | false :: bs => iosAt (k + 1) bs
abbrev ios (bs : List Bool) : List Nat := iosAt 0 bs
def semF (io : List Bool) (ns : Nat) (m : XM) : GM := fun cs =>
  if shared io cs then
    match m (cs ++ List.replicate (ns - cs.length) .no) with
    | some (.rt c, ε') => some (c, after io cs ε')
    | some (.nx, ε') => some (.sh .none, after io cs ε')
    | _ => none
  else none

theorem mem_ios : ∀ {bs : List Bool} {k j : Nat}, j ∈ iosAt k bs ↔ k ≤ j ∧ bs[j - k]? = some true
  | [], k, j => by simp [iosAt]
  | true :: bs, k, j => by
    unfold iosAt
    rw [List.mem_cons, mem_ios]
    constructor
    · rintro (rfl | ⟨h1, h2⟩)
      · simp
      · refine ⟨by omega, ?_⟩
        rw [show j - k = (j - (k + 1)) + 1 by omega, List.getElem?_cons_succ]
        exact h2
    · rintro ⟨h1, h2⟩
      by_cases e : j = k
      · exact .inl e
      · refine .inr ⟨by omega, ?_⟩
        rw [show j - k = (j - (k + 1)) + 1 by omega, List.getElem?_cons_succ] at h2
        exact h2
  | false :: bs, k, j => by
    unfold iosAt
    rw [mem_ios]
    constructor
    · rintro ⟨h1, h2⟩
      refine ⟨by omega, ?_⟩
      rw [show j - k = (j - (k + 1)) + 1 by omega, List.getElem?_cons_succ]
      exact h2
    · rintro ⟨h1, h2⟩
      by_cases e : j = k
      · subst e
        simp at h2
      · refine ⟨by omega, ?_⟩
        rw [show j - k = (j - (k + 1)) + 1 by omega, List.getElem?_cons_succ] at h2
        exact h2
theorem mem_ios0 {bs : List Bool} {j : Nat} : j ∈ ios bs ↔ bs[j]? = some true := by
  unfold ios
  rw [mem_ios]
  simp
theorem after_len : ∀ {bs : List Bool} {cs : List C} {ε : Cs}, shared bs cs = true → cs.length ≤ ε.length → (after bs cs ε).length = cs.length
  | [], [], ε, _, _ => by simp [after]
  | [], c :: cs, ε, h, _ => by simp [shared] at h
  | true :: bs, [], ε, h, _ => by simp [shared] at h
  | false :: bs, [], ε, h, _ => by simp [shared] at h
  | true :: bs, c :: cs, [], h, l => by simp at l
  | false :: bs, c :: cs, [], h, l => by simp at l
  | true :: bs, c :: cs, e :: ε, h, l => by
    simp only [after, List.length_cons]
    rw [after_len (by simpa [shared] using h) (by simpa using l)]
  | false :: bs, .sh d :: cs, e :: ε, h, l => by
    simp only [after, List.length_cons]
    rw [after_len (by simpa [shared] using h) (by simpa using l)]
  | false :: bs, .ls d :: cs, e :: ε, h, l => by simp [shared] at h
  | false :: bs, .no :: cs, e :: ε, h, l => by simp [shared] at h
theorem after_get : ∀ {bs : List Bool} {cs : List C} {ε : Cs} (j : Nat), shared bs cs = true → cs.length ≤ ε.length → j < cs.length → (bs[j]? = some true ∧ (after bs cs ε)[j]? = ε[j]?) ∨ (bs[j]? = some false ∧ (after bs cs ε)[j]? = cs[j]? ∧ ∃ d, cs[j]? = some (.sh d))
  | [], [], ε, j, _, _, hj => by simp at hj
  | [], c :: cs, ε, j, h, _, _ => by simp [shared] at h
  | true :: bs, [], ε, j, h, _, _ => by simp [shared] at h
  | false :: bs, [], ε, j, h, _, _ => by simp [shared] at h
  | true :: bs, c :: cs, [], j, h, l, _ => by simp at l
  | false :: bs, c :: cs, [], j, h, l, _ => by simp at l
  | true :: bs, c :: cs, e :: ε, 0, h, l, hj => .inl ⟨rfl, rfl⟩
  | true :: bs, c :: cs, e :: ε, j + 1, h, l, hj => by
    have := after_get (bs := bs) (cs := cs) (ε := ε) j (by simpa [shared] using h) (by simpa using l) (by simpa using hj)
    simpa [after] using this
  | false :: bs, .sh d :: cs, e :: ε, 0, h, l, hj => .inr ⟨rfl, rfl, d, rfl⟩
  | false :: bs, .sh d :: cs, e :: ε, j + 1, h, l, hj => by
    have := after_get (bs := bs) (cs := cs) (ε := ε) j (by simpa [shared] using h) (by simpa using l) (by simpa using hj)
    simpa [after] using this
  | false :: bs, .ls d :: cs, e :: ε, j, h, l, hj => by simp [shared] at h
  | false :: bs, .no :: cs, e :: ε, j, h, l, hj => by simp [shared] at h
theorem ext_get {α : Type} {xs : List α} {n : Nat} {z y : α} {j : Nat} (h : (xs ++ List.replicate n z)[j]? = some y) : xs[j]? = some y ∨ y = z := by
  by_cases hj : j < xs.length
  · rw [List.getElem?_append_left hj] at h; exact .inl h
  · rw [List.getElem?_append_right (by omega)] at h
    right
    have := List.mem_of_getElem? h
    exact (List.mem_replicate.mp this).2
theorem ext_get' {α : Type} {xs : List α} {n : Nat} {z y : α} {j : Nat} (h : xs[j]? = some y) : (xs ++ List.replicate n z)[j]? = some y := by
  rw [List.getElem?_append_left (List.getElem?_eq_some_iff.mp h).1]
  exact h
theorem Ok.ext {K : PySem.W.Frag} {F H : Hp} {σ : St} {ε : Cs} (o : Ok K F H σ ε) (n : Nat) : Ok K F H (σ ++ List.replicate n none) (ε ++ List.replicate n .no) where
  sub := o.sub
  len := by simp [o.len]
  sh := fun i d h => by
    rcases ext_get h with h | h
    · obtain ⟨v, e, r⟩ := o.sh i d h
      exact ⟨v, ext_get' e, r⟩
    · cases h
  ls := fun i ds h => by
    rcases ext_get h with h | h
    · obtain ⟨a, vs, e, r⟩ := o.ls i ds h
      exact ⟨a, vs, ext_get' e, r⟩
    · cases h
  inj := fun i j a ds es h1 h2 h3 h4 => by
    rcases ext_get h1 with h1 | h1
    · rcases ext_get h2 with h2 | h2
      · rcases ext_get h3 with h3 | h3
        · rcases ext_get h4 with h4 | h4
          · exact o.inj i j a ds es h1 h2 h3 h4
          · cases h4
        · cases h3
      · cases h2
    · cases h1
theorem own_ext {σ : St} {ε : Cs} {n : Nat} {b : Addr} (h : Own (σ ++ List.replicate n none) (ε ++ List.replicate n .no) b) : Own σ ε b := by
  obtain ⟨i, ds, h1, h2⟩ := h
  rcases ext_get h1 with h1 | h1
  · rcases ext_get h2 with h2 | h2
    · exact ⟨i, ds, h1, h2⟩
    · cases h2
  · cases h1
theorem own_ext' {σ : St} {ε : Cs} {n : Nat} {b : Addr} (h : Own σ ε b) : Own (σ ++ List.replicate n none) (ε ++ List.replicate n .no) b := by
  obtain ⟨i, ds, h1, h2⟩ := h
  exact ⟨i, ds, ext_get' h1, ext_get' h2⟩
theorem sem_run {K : PySem.W.Frag} {np ns : Nat} {io : List Bool} {m : XM} {vs : List V} {H : Hp} {Q : VK} {E : XK} (h : spOf K np (semF io ns m) vs H Q E) :
    tS K (ios io) m { nx := fun _ H' => Q .non H', rt := Q } (vs.map some ++ List.replicate (ns - vs.length) none) H := by
  obtain ⟨hl, F, cs, c, cs', o, e, q⟩ := h
  have lc : cs.length = vs.length := by rw [← o.len, List.length_map]
  unfold semF at e
  split at e
  · rename_i hs
    rw [lc] at e
    generalize hn : ns - vs.length = n at e ⊢
    have o2 := o.ext n
    have main : ∀ {F' H' : Hp} {σ' : St} {ε' : Cs} {v : V} {c : C}, StpS K (· ∈ ios io) F H (vs.map some ++ List.replicate n none) (cs ++ List.replicate n .no) F' H' σ' ε' → RepC K F' H' v c →
        (∀ (ds : List D) (a : Addr), c = .ls ds → v = .ref a → NewR (ios io) (vs.map some ++ List.replicate n none) (cs ++ List.replicate n .no) H a) → Post K F H (vs.map some) cs F' H' (after io cs ε') v c := by
      intro F' H' σ' ε' v c s r nw
      have le : cs.length ≤ ε'.length := by rw [s.ln]; simp
      have al := after_len (bs := io) hs le
      have at_ : ∀ {j : Nat} {c' : C}, (after io cs ε')[j]? = some c' → (io[j]? = some true ∧ ε'[j]? = some c' ∧ σ'[j]? = (vs.map some)[j]? ∧ Go cs[j]? ε'[j]?) ∨ (cs[j]? = some c' ∧ ∃ d, c' = .sh d) := fun {j c'} h => by
        have hj : j < cs.length := by rw [← al]; exact (List.getElem?_eq_some_iff.mp h).1
        rcases after_get (bs := io) j hs le hj with ⟨h1, h2⟩ | ⟨h1, h2, d, h3⟩
        · obtain ⟨l1, l2⟩ := s.lk j (mem_ios0.mpr h1)
          rw [List.getElem?_append_left (by rw [List.length_map]; omega)] at l1
          rw [List.getElem?_append_left hj] at l2
          exact .inl ⟨h1, h2 ▸ h, l1, l2⟩
        · rw [h2, h3] at h
          cases h
          exact .inr ⟨h3, d, rfl⟩
      have ow : ∀ b, Own (vs.map some) (after io cs ε') b → Own σ' ε' b := fun b h => by
        obtain ⟨i, ds, h1, h2⟩ := h
        rcases at_ h1 with ⟨g1, g2, g3, _⟩ | ⟨_, d, z⟩
        · exact ⟨i, ds, g2, by rw [g3]; exact h2⟩
        · cases z
      refine ⟨⟨⟨s.ok.sub, by rw [al, List.length_map, lc], fun j d hj => ?_, fun j ds hj => ?_, fun j k a ds es hj hk h1 h2 => ?_⟩, ⟨s.fr.fm, fun b ob h n => s.fr.keep b ob h fun z => n (own_ext z), fun b h1 h2 => ?_, s.fr.live, fun b h => ?_⟩, fun j => ?_, fun j ds a h1 h2 => ?_⟩, r, fun ds a h1 h2 => ?_⟩
      · rcases at_ hj with ⟨_, g2, g3, _⟩ | ⟨g, _⟩
        · obtain ⟨w, k1, k2⟩ := s.ok.sh j d g2
          exact ⟨w, by rw [← g3]; exact k1, k2⟩
        · obtain ⟨w, k1, k2⟩ := o.sh j d g
          exact ⟨w, k1, Rep.mono s.fr.fm _ _ k2⟩
      · rcases at_ hj with ⟨_, g2, g3, _⟩ | ⟨_, d, z⟩
        · obtain ⟨a, ws, k1, k2⟩ := s.ok.ls j ds g2
          exact ⟨a, ws, by rw [← g3]; exact k1, k2⟩
        · cases z
      · rcases at_ hj with ⟨_, g2, g3, _⟩ | ⟨_, d, z⟩
        · rcases at_ hk with ⟨_, g2', g3', _⟩ | ⟨_, d, z⟩
          · exact s.ok.inj j k a _ _ g2 g2' (by rw [g3]; exact h1) (by rw [g3']; exact h2)
          · cases z
        · cases z
      · rcases s.fr.ff b h1 h2 with z | z
        · exact .inl z
        · exact .inr (own_ext z)
      · rcases s.fr.own b (ow b h) with z | z
        · exact .inl (own_ext z)
        · exact .inr z
      · by_cases hj : j < cs.length
        · rcases after_get (bs := io) j hs le hj with ⟨h1, h2⟩ | ⟨h1, h2, _⟩
          · rw [h2]
            have l2 := (s.lk j (mem_ios0.mpr h1)).2
            rw [List.getElem?_append_left hj] at l2
            exact l2
          · rw [h2]; exact Go.refl _
        · rw [List.getElem?_eq_none (by omega), List.getElem?_eq_none (by omega)]
          exact Go.refl _
      · have hj : j < cs.length := (List.getElem?_eq_some_iff.mp h1).1
        rcases after_get (bs := io) j hs le hj with ⟨k1, k2⟩ | ⟨k1, k2, d, k3⟩
        · rw [k2]
          exact s.fz j ds a (mem_ios0.mpr k1) (ext_get' h1) (ext_get' h2)
        · rw [h1] at k3; cases k3
      · rcases nw ds a h1 h2 with z | ⟨i, es, hi, g1, g2⟩
        · exact z
        · rcases ext_get g1 with g1 | g1
          · have hj : i < cs.length := (List.getElem?_eq_some_iff.mp g1).1
            rcases after_get (bs := io) i hs le hj with ⟨k1, _⟩ | ⟨_, _, d, k3⟩
            · exact absurd (mem_ios0.mpr k1) hi
            · rw [g1] at k3; cases k3
          · cases g1
    split at e
    · rename_i c1 ε' hm
      cases e
      exact ⟨F, _, _, ε', o2, hm, fun F' H' σ' s v r nw => q v F' H' (main s r nw)⟩
    · rename_i ε' hm
      cases e
      exact ⟨F, _, _, ε', o2, hm, fun F' H' σ' s => q .non F' H' (main s (show Rep K F' .non .none by simp only [Rep]) fun _ _ z => nomatch z)⟩
    · cases e
  · cases e
end L2.M

/-! The rules with their side conditions; the world; the end. -/
namespace L2.M
open PySem PySem.Spec PyProof.Rows

section
variable {X : Cx} {a b c e : Expr} {es rest : List Expr} {ma mb mo : OM} {m n : EM} {mr : AM} {t t1 t2 : TM} {pos p x : Pos} {k : Nat}
theorem ma_cons (h1 : PE X e (tO X.K mo)) (h2 : PA X es (tA X.K mr)) (hs : starEach (e :: es) X.env = (false, eval e X.env) :: starEach es X.env := by rfl) : PA X (e :: es) (tA X.K (mCons mo mr)) :=
  (pa_cons h1 h2 hs).weak fun _ _ _ h => tA_cons h
theorem x_bin {op : Operator} (ha : PE X a (tO X.K ma)) (hb : PE X b (tO X.K mb)) : PE X (.BinOp a op b pos) (tE X.K (mB (binD op) ma mb)) :=
  let ⟨_, h1, h2⟩ := bin_ok op
  me_bin h1 h2 ha hb
theorem x_cmp {op : CmpOp} (hr : Room k X.A) (ha : PE X a (tO X.K ma)) (hb : PE X b (tO X.K mb)) (hm : behindInMarks op b = false := by rfl) : PE X (.Compare a [op] [b] pos) (tE X.K (mB (cmpD op) ma mb)) :=
  let ⟨_, h1, h2⟩ := cmp_ok (by have := hr.un; omega) op
  me_cmp h1 h2 ha hb hm
theorem y_cmp {op : CmpOp} (hr : Room k X.A) (ha : PE X a (tO X.K ma)) (hb : PE X b (tO X.K mb)) (hm : behindInMarks op b = false := by rfl) : PT X (.Compare a [op] [b] pos) (tT X.K (mTst (mB (cmpD op) ma mb))) :=
  let ⟨_, h1, h2⟩ := cmp_ok (by have := hr.un; omega) op
  mt_cmp h1 h2 ha hb hm
theorem x_neg (ha : PE X a (tO X.K ma)) : PE X (.UnaryOp .USub a pos) (tE X.K (mU negD ma)) :=
  let ⟨_, h1, h2⟩ := neg_ok
  me_un h1 h2 ha
theorem x_ix (ha : PE X a (tO X.K ma)) (hb : PE X b (tO X.K mb)) (hs : PlainIx b := by exact fun _ _ => rfl) : PE X (.Subscript a b pos) (tE X.K (mB ixD ma mb)) :=
  let ⟨_, h1, h2⟩ := ix_ok
  me_ix h1 h2 ha hb hs
theorem ch_one {op : CmpOp} (hr : Room k X.A) (hb : PE X b (tO X.K mb)) : Chn X [op] [b] [(cmpD op, mb)] :=
  let ⟨_, h1, h2⟩ := cmp_ok (by have := hr.un; omega) op
  .one h1 h2 hb
theorem ch_cons {op op' : CmpOp} {ops : List CmpOp} {e' : Expr} {z : (D → D → Option C) × OM} {l : List ((D → D → Option C) × OM)} (hr : Room k X.A) (hb : PE X b (tO X.K mb)) (h : Chn X (op' :: ops) (e' :: es) (z :: l)) : Chn X (op :: op' :: ops) (b :: e' :: es) ((cmpD op, mb) :: z :: l) :=
  let ⟨_, h1, h2⟩ := cmp_ok (by have := hr.un; omega) op
  .cons h1 h2 hb h
theorem x_chain {op1 op2 : CmpOp} {ops : List CmpOp} {l : List ((D → D → Option C) × OM)} (ha : PE X a (tO X.K ma)) (h : Chn X (op1 :: op2 :: ops) (b :: c :: es) l) (hm : lastMarks (op1 :: op2 :: ops) (b :: c :: es) = false := by rfl) : PE X (.Compare a (op1 :: op2 :: ops) (b :: c :: es) pos) (tE X.K (mChn ma l)) := me_chain ha h hm
theorem y_chain {op1 op2 : CmpOp} {ops : List CmpOp} {l : List ((D → D → Option C) × OM)} (ha : PE X a (tO X.K ma)) (h : Chn X (op1 :: op2 :: ops) (b :: c :: es) l) (hm : lastMarks (op1 :: op2 :: ops) (b :: c :: es) = false := by rfl) : PT X (.Compare a (op1 :: op2 :: ops) (b :: c :: es) pos) (tT X.K (mTst (mChn ma l))) := mt_chain ha h hm
theorem y_val (h : PE X e (tE X.K m)) (he : ∀ whole, isTrue e X.env whole = (do let v ← whole; standAt e.pos; holding [v] (truthy v)) := by intro _; rfl) : PT X e (tT X.K (mTst m)) := mt_val h he
/-- a built-in function's call -/
inductive Bf where
  | len | int | max | min | abs | tuple | list | repr
def Bf.nm : Bf → Str
  | .len => "len"
  | .int => "int"
  | .max => "max"
  | .min => "min"
  | .abs => "abs"
  | .tuple => "tuple"
  | .list => "list"
  | .repr => "repr"
def Bf.f : Bf → List D → Option C
  | .len => lenD
  | .int => intD
  | .max => maxD
  | .min => minD
  | .abs => absD
  | .tuple => tupD
  | .list => lstD
  | .repr => repD
theorem boot_abs : bootBuiltins "abs" = some (.builtin "abs") := by decide +kernel
theorem x_bf (q : Bf) {y : Str} (hy : y = q.nm) (hm : X.mg q.nm = none) (hc : X.calm = true) (hg : Gl X y) (ha : PA X (e :: es) (tA X.K mr)) (he : starEach (e :: es) X.env = (false, eval e X.env) :: starEach es X.env := by rfl) (hpl : (backTo pos (starEach es X.env)).any (·.1) = false := by rfl) :
    PE X (.Call (.Name y p) (e :: es) [] pos) (tE X.K (mOp q.f mr)) := by
  subst hy
  cases q with
  | len => exact let ⟨_, h1, h2⟩ := len_ok; me_callB h1 h2 hg hm boot_len ha (by decide) (by decide) he hpl
  | int => exact let ⟨_, h1, h2⟩ := int_ok; me_callTy h1 h2 hg hm boot_int ha (by decide) (by decide) he hpl
  | max => exact let ⟨_, h1, h2⟩ := max_ok hc; me_callB h1 h2 hg hm boot_max ha (by decide) (by decide) he hpl
  | min => exact let ⟨_, h1, h2⟩ := min_ok hc; me_callB h1 h2 hg hm boot_min ha (by decide) (by decide) he hpl
  | abs => exact let ⟨_, h1, h2⟩ := abs_ok; me_callB h1 h2 hg hm boot_abs ha (by decide) (by decide) he hpl
  | tuple => exact let ⟨_, h1, h2⟩ := tup_ok; me_callTy h1 h2 hg hm boot_tuple ha (by decide) (by decide) he hpl
  | list => exact let ⟨_, h1, h2⟩ := lst_ok; me_callTy h1 h2 hg hm boot_list ha (by decide) (by decide) he hpl
  | repr => exact let ⟨_, h1, h2⟩ := rep_ok; me_callB h1 h2 hg hm boot_repr ha (by decide) (by decide) he hpl
theorem Ty.boot : ∀ T : Ty, bootBuiltins T.nm = some (.type T.nm) := fun T => by
  cases T with
  | int => exact boot_int
  | bool => exact boot_bool
  | str => exact boot_str
  | list => exact boot_list
  | tuple => exact boot_tuple
  | dict => exact boot_dict
theorem x_isi (T : Ty) {y : Str} (hy : y = T.nm) (hm : X.mg "isinstance" = none) (hmT : X.mg T.nm = none) (hg : Gl X "isinstance") (hgT : Gl X y) (he : PE X e (tO X.K mo)) (hs : starEach [e, .Name y p] X.env = (false, eval e X.env) :: starEach [.Name y p] X.env := by rfl) :
    PE X (.Call (.Name "isinstance" x) [e, .Name y p] [] pos) (tE X.K (mIsi T mo)) := by
  subst hy
  exact me_isi (T := T) hm hmT hg hgT T.boot he (by cases T <;> decide) (by cases T <;> decide) hs rfl rfl
/-- a module's number, text -/
theorem x_gint {y : Str} {i : Int} (hm : ∃ t, X.mg y = some (.int i t)) (hg : Gl X y) (hd : (y == ("__debug__" : Str)) = false := by decide) : PE X (.Name y pos) (tE X.K (mK (.int i))) := by
  obtain ⟨t, hm⟩ := hm
  exact (pe_glob hg hm (show RelV (.int i) (.int i t) from ⟨t, rfl⟩) hd).weak fun _ _ _ => tE_k (d := .int i) (v := .int i) fun _ => by simp [Rep]
theorem x_gstr {y z : Str} (hm : ∃ t, X.mg y = some (.str z t)) (hg : Gl X y) (hd : (y == ("__debug__" : Str)) = false := by decide) : PE X (.Name y pos) (tE X.K (mK (.str z))) := by
  obtain ⟨t, hm⟩ := hm
  exact (pe_glob hg hm (show RelV (.str z) (.str z t) from ⟨t, rfl⟩) hd).weak fun _ _ _ => tE_k (d := .str z) (v := .str z) fun _ => by simp [Rep]
/-- {} that is never changed -/
theorem x_dct : PE X (.Dict [] [] pos) (tE X.K (mK (.dict []))) := pe_dnewK.weak fun σ H Q h => by
  obtain ⟨F, ε, c, ε', ok, e, q⟩ := h
  cases e
  refine fun q1 hq => ?_
  obtain ⟨s3, fm3⟩ := (Stp.refl ok).laid (u := .dK []) hq
  exact q _ _ _ ⟨s3, ⟨q1, [], rfl, upd_same, rfl⟩, fun _ _ z => nomatch z⟩
end
section
variable {X : Cx} {io : List Nat} {pos p p2 p3 : Pos} {e : Expr} {m : EM}
theorem z_expr (he : PE X e (tE X.K m)) (hs : swapsWith e none pos.line X.env = pure false := by rfl) : PS X (.Expr e pos) (tS X.K io (mExpr m)) := ms_expr he hs
theorem z_set (i : Nat) {y : Str} (hN : X.N.Nodup) (he : PE X e (tE X.K m)) (hi : X.N[i]? = some y := by rfl) (hx : Loc X.env.scope y := by first | exact .inl rfl | exact .inr rfl) (hf : X.fn y = true ∨ X.env.scope.names.lookup y = some .local := by first | exact .inr rfl | exact .inl rfl) (hs : swapsWith e (some (.Name y p)) pos.line X.env = pure false := by rfl) : PS X (.Assign [.Name y p] e pos) (tS X.K io (mSet io i m)) :=
  ms_set hN hi hx he hs hf
theorem z_asg {tg : Expr} {ts : List Nat} {g : TG} {bd : BM} (hg : Gd X.K g bd (· ∈ ts)) (hp : PG X tg g) (he : PE X e (tE X.K m)) (hs : swapsWithSole [tg] e pos.line X.env = pure false := by rfl) (hw : swappedStores [tg] e X.env = pure none := by rfl)
    (h1 : (assignEach [tg] X.env).map (·.2) = [assign tg X.env] := by rfl) : PS X (.Assign [tg] e pos) (tS X.K io (mAsg ts io bd m)) := ms_asg hg he hp hs hw h1
theorem Gd.imp {K : PySem.W.Frag} {g : TG} {b : BM} {S S' : Nat → Prop} (h : Gd K g b S) (i : ∀ j, S j → S' j) : Gd K g b S' := fun F H σ ε x d ε' Q o r e q => h F H σ ε x d ε' Q o r e fun σ' bd => q σ' (bd.imp i)
theorem g_nm (i : Nat) {y : Str} (hN : X.N.Nodup) (hi : X.N[i]? = some y := by rfl) (hx : Loc X.env.scope y := by first | exact .inl rfl | exact .inr rfl) (hf : X.fn y = true ∨ X.env.scope.names.lookup y = some .local := by first | exact .inr rfl | exact .inl rfl) : PG X (.Name y p) (gName i) := pg_name hN hi hx hf
theorem z_app (i : Nat) {y : Str} (hv : PE X (.Name y p) (tVar i)) (he : PE X e (tE X.K m)) (hbase : attributeBase (.Name y p) "append" X.env (eval (.Name y p) X.env) = eval (.Name y p) X.env := by rfl)
    (hfew : ((backTo p3 (starEach [e] X.env)).all (fun x => !x.1) && (backToKw p3 (keywordEach [] X.env)).all (fun x => x.1.isSome) && decide ([e].length + ([] : List Keyword).length + (if ([] : List Keyword).isEmpty then 0 else 1) < 30)) = true := by rfl)
    (hline : (p2.endLine == p3.line) = true := by rfl) (hs : starEach [e] X.env = (false, eval e X.env) :: starEach [] X.env := by rfl) (hplain : (backTo p3 (starEach [] X.env)).any (·.1) = false := by rfl) (hst : starEach [e] X.env = [(false, eval e X.env)] := by rfl)
    (hsw : swapsWith (.Call (.Attribute (.Name y p) "append" p2) [e] [] p3) none pos.line X.env = pure false := by rfl) : PS X (.Expr (.Call (.Attribute (.Name y p) "append" p2) [e] [] p3) pos) (tS X.K io (mApp i m)) :=
  ms_app hv he (fun {to t} h1 h2 => pe_bm PySem.F.plainAttrs_list PySem.F.slot_list_append PySem.F.type_list_append mt_append h1 h2 hbase hfew hline hs hplain) hst hsw
theorem z_ix (i : Nat) {y : Str} {kx : Expr} {ix : OM} (hv : PE X (.Name y p) (tVar i)) (hk : PE X kx (tO X.K ix)) (he : PE X e (tE X.K m))
    (ha : ∀ v, assign (.Subscript (.Name y p) kx p2) X.env v = (do
      let ov ← holding [v] (eval (.Name y p) X.env)
      let iv ← holding [v, ov] (eval kx X.env)
      standAt p2
      holding [v, ov, iv] (setItem ov iv v)
      release [v, ov, iv] []) := by intro _; rfl)
    (hs : swapsWithSole [.Subscript (.Name y p) kx p2] e pos.line X.env = pure false := by rfl) (hw : swappedStores [.Subscript (.Name y p) kx p2] e X.env = pure none := by rfl)
    (h1 : (assignEach [.Subscript (.Name y p) kx p2] X.env).map (·.2) = [assign (.Subscript (.Name y p) kx p2) X.env] := by rfl) : PS X (.Assign [.Subscript (.Name y p) kx p2] e pos) (tS X.K io (mSetIx i m ix)) := ms_setIx hv he hk ha hs hw h1
theorem z_par2 (i j : Nat) {y z : Str} {a b : Expr} {kt k2 : Nat} {pt pt2 py pz : Pos} {ma : AM} (hc : X.calm = true) (hN : X.N.Nodup) (ha : PA X [a, b] (tA X.K ma)) (hi : X.N[i]? = some y := by rfl) (hj : X.N[j]? = some z := by rfl) (hij : i ≠ j := by decide)
    (hx : X.env.scope.names.lookup y = some .local := by rfl) (hy : X.env.scope.names.lookup z = some .local := by rfl)
    (hw : swappedStores [.Tuple [.Name y py, .Name z pz] kt pt] (.Tuple [a, b] k2 pt2) X.env = pure (some [y, z]) := by rfl)
    (hs : swapsWithSole [.Tuple [.Name y py, .Name z pz] kt pt] (.Tuple [a, b] k2 pt2) pos.line X.env = pure false := by rfl) :
    PS X (.Assign [.Tuple [.Name y py, .Name z pz] kt pt] (.Tuple [a, b] k2 pt2) pos) (tS X.K io (mPar io [i, j] ma)) := ms_par2 hc hN hi hj hij hx hy ha hw hs
theorem z_par3 (i j l : Nat) {y z w : Str} {a b c : Expr} {kt k2 : Nat} {pt pt2 py pz pw : Pos} {ma : AM} (hc : X.calm = true) (hN : X.N.Nodup) (ha : PA X [a, b, c] (tA X.K ma)) (hi : X.N[i]? = some y := by rfl) (hj : X.N[j]? = some z := by rfl) (hl : X.N[l]? = some w := by rfl) (hij : i ≠ j := by decide) (hil : i ≠ l := by decide) (hjl : j ≠ l := by decide)
    (hx : X.env.scope.names.lookup y = some .local := by rfl) (hy : X.env.scope.names.lookup z = some .local := by rfl) (hz : X.env.scope.names.lookup w = some .local := by rfl)
    (hw : swappedStores [.Tuple [.Name y py, .Name z pz, .Name w pw] kt pt] (.Tuple [a, b, c] k2 pt2) X.env = pure (some [y, z, w]) := by rfl)
    (hs : swapsWithSole [.Tuple [.Name y py, .Name z pz, .Name w pw] kt pt] (.Tuple [a, b, c] k2 pt2) pos.line X.env = pure false := by rfl) :
    PS X (.Assign [.Tuple [.Name y py, .Name z pz, .Name w pw] kt pt] (.Tuple [a, b, c] k2 pt2) pos) (tS X.K io (mPar io [i, j, l] ma)) := ms_par3 hc hN hi hj hl hij hil hjl hx hy hz ha hw hs
theorem z_parN (is : List Nat) {es ts : List Expr} {kt k2 : Nat} {pt pt2 : Pos} {ma : AM} (hc : X.calm = true) (hg : PGs X ts (gOf is)) (ha : PA X es (tA X.K ma)) (hn : (assignEach ts X.env).length = is.length := by rfl) (hst : (assignEach ts X.env).findIdx? (·.1) = none := by rfl)
    (hs : swapsWithSole [.Tuple ts kt pt] (.Tuple es k2 pt2) pos.line X.env = pure false := by rfl) (hw : swappedStores [.Tuple ts kt pt] (.Tuple es k2 pt2) X.env = pure none := by rfl) (h1 : (assignEach [.Tuple ts kt pt] X.env).map (·.2) = [assign (.Tuple ts kt pt) X.env] := by rfl) :
    PS X (.Assign [.Tuple ts kt pt] (.Tuple es k2 pt2) pos) (tS X.K io (mPar io is ma)) := ms_parN hc hg ha hn rfl hst hs hw h1
theorem z_for {iter tg : Expr} {body : List Stmt} {io' ts : List Nat} {src : SM} {g : TG} {bind : BM} {b : XM} (hp : PassesOwn (model X.prog X.w) X.A X.env X.xe) (hc : X.calm = true) (hi : PI X tg iter (tI X.K src)) (hgd : Gd X.K g bind (· ∈ ts)) (hg : PG X tg g)
    (hb : PSs X body (tS X.K io' b)) (hio : ∀ i ∈ io, i ∈ io' := by decide) (hts : ∀ i ∈ ts, i ∉ io' := by decide) (hs : ∀ x, foldedSetIterable iter X.env x = pure x := by intro _; rfl) : PS X (.For tg iter body [] pos) (tS X.K io (mFor io' src bind b)) := ms_for hp hc hi hg hgd hb hio hts hs
theorem z_rng1 {tg a : Expr} {ma : AM} (hm : X.mg "range" = none) (hg : Gl X "range") (ha : PA X [a] (tA X.K ma)) (hs : starEach [a] X.env = [(false, eval a X.env)] := by rfl) : PI X tg (.Call (.Name "range" p) [a] [] pos) (tI X.K (mSrc rng1D ma)) := mi_range1 hg hm ha hs
theorem z_rng2 {tg a b : Expr} {ma : AM} (hm : X.mg "range" = none) (hg : Gl X "range") (ha : PA X [a, b] (tA X.K ma)) (hs : starEach [a, b] X.env = [(false, eval a X.env), (false, eval b X.env)] := by rfl) (hs2 : starEach [b] X.env = [(false, eval b X.env)] := by rfl) :
    PI X tg (.Call (.Name "range" p) [a, b] [] pos) (tI X.K (mSrc rng2D ma)) := mi_range2 hg hm ha hs hs2
end

/-! ### the world: what the top has written -/
def Wo (fa : List He.Fa) (fn : List He.DefD) (K : PySem.W.Frag) (mg : Str → Option Value) : Prop := ∃ h : Heap, K.In h ∧ h.Ns mainGlobals mg ∧ He.SaysD fa fn K
section
variable {fa : List He.Fa} {fn : List He.DefD} {K : PySem.W.Frag} {mg : Str → Option Value}
theorem Wo.free (W : Wo fa fn K mg) (i : Nat) {x : Str} (h : fa[i]? = some (.free x) := by rfl) : mg x = none :=
  let ⟨_, X, G, c⟩ := W
  He.free_ok X G (c.fact i h)
theorem Wo.int (W : Wo fa fn K mg) (i : Nat) {x : Str} {n : Int} (h : fa[i]? = some (.int x n) := by rfl) : ∃ t, mg x = some (.int n t) :=
  let ⟨_, X, G, c⟩ := W
  He.int_ok X G (c.fact i h)
theorem Wo.str (W : Wo fa fn K mg) (i : Nat) {x z : Str} (h : fa[i]? = some (.str x z) := by rfl) : ∃ t, mg x = some (.str z t) :=
  let ⟨_, X, G, c⟩ := W
  He.str_ok X G (c.fact i h)
end
/-- a def that keeps its promise, by its name -/
structure Kn (P : Program) (w : World) (K : PySem.W.Frag) (mg : Str → Option Value) (base : Heap) (k : Nat) (x : Str) (ps : List Str) (sp : Sp) : Prop where
  ex : ∃ (f : Addr) (fd : FuncData), mg x = some (.ref f) ∧ PySem.W.keepIn K (.ref f) = true ∧ Binds K fd ps [] ∧ FnOk P w K mg base CX0 k f fd ps sp
def Plain (d : He.DefD) (ps : List Str) : Prop := d.dfl = [] ∧ d.kwd = [] ∧ ∀ (kV doc pm : Value) (an : Option Addr) (cdv ct : Value) (us : List Value), us.length = ps.length → bindArgs (PySem.W.fnOf d.name d.qual d.params d.body d.scope .none kV doc pm an cdv ct) ⟨us, []⟩ = pure (ps.zip us)
section
variable {fa : List He.Fa} {fn : List He.DefD} {K : PySem.W.Frag} {mg : Str → Option Value} {P : Program} {w : World} {base : Heap}
abbrev cxN (P : Program) (w : World) (K : PySem.W.Frag) (mg : Str → Option Value) (base : Heap) (N : List Str) (d : He.DefD) (f : Addr) (cdv : Value) (A : Around) (outer : List Env) (s : Shared) (H : Hp) (E : XK) : Cx := (cxOf CX0 P w K mg base N d.qual d.scope f cdv A outer s H E).nox
theorem def_run {N ps : List Str} {d : He.DefD} {k : Nat} {io : List Bool} {m : XM} {f : Addr} {fd : FuncData} {dvs : List V} {kws : List (Str × V)} (F : FunD K d.name d.qual d.params d.body d.scope dvs kws f fd) (S : FnScope N ps d.scope)
    (hb : ∀ (f : Addr) (cdv : Value) (A : Around) (outer : List Env) (s : Shared) (H : Hp) (E : XK), Room k (cxN P w K mg base N d f cdv A outer s H E).A → PSs (cxN P w K mg base N d f cdv A outer s H E) d.body (tS K (ios io) m)) :
    FnOk P w K mg base CX0 (k + 1) f fd ps (spOf K ps.length (semF io N.length m)) :=
  F.ok S (fun vs H Q E h => h.1) fun cdv A outer s H vs Q E hr h => ⟨tS K (ios io) m, PSs.nox (hb f cdv A outer s H E hr), sem_run h⟩
theorem kn_mk (W : Wo fa fn K mg) (i j : Nat) {N ps : List Str} {d : He.DefD} {k : Nat} {io : List Bool} {m : XM} {x : Str} (hd : fn[i]? = some d) (hx : d.at_ = (x, none)) (hf : fa[j]? = some (.glo x)) (pl : Plain d ps) (S : FnScope N ps d.scope)
    (hb : ∀ (f : Addr) (cdv : Value) (A : Around) (outer : List Env) (s : Shared) (H : Hp) (E : XK), Room k (cxN P w K mg base N d f cdv A outer s H E).A → PSs (cxN P w K mg base N d f cdv A outer s H E) d.body (tS K (ios io) m)) :
    Kn P w K mg base (k + 1) x ps (spOf K ps.length (semF io N.length m)) := by
  obtain ⟨h, X, G, c⟩ := W
  obtain ⟨fd, F⟩ := c.def_ i hd
  have g := He.glo_ok X G (c.fact j hf)
  have eD : d.dvs K = [] := by unfold He.DefD.dvs; rw [pl.1]; rfl
  have eA : He.fAd K d.at_ = He.ga K x := by rw [hx]; rfl
  rw [eD, eA] at F
  exact ⟨⟨_, fd, g, F.kp, F.bindsN pl.2.2, def_run F S hb⟩⟩
theorem Kn.le {j k : Nat} {x : Str} {ps : List Str} {sp : Sp} (h : Kn P w K mg base j x ps sp) (l : j ≤ k) : Kn P w K mg base k x ps sp := by
  obtain ⟨f, fd, a, b, c, d⟩ := h.ex
  exact ⟨⟨f, fd, a, b, c, d.mono l⟩⟩
theorem x_call {X : Cx} {k k' np : Nat} {x : Str} {ps : List Str} {g : GM} {io : List Bool} {ma : AM} {e : Expr} {es : List Expr} {p pos : Pos} (h : Kn X.prog X.w X.K X.mg X.base k x ps (spOf X.K np g)) (hr : Room k' X.A) (hk : k ≤ k') (hg : Gl X x) (ha : PA X (e :: es) (tA X.K ma)) (hio : io.length = np := by rfl)
    (hdb : (x == ("__debug__" : Str)) = false := by decide) (he : starEach (e :: es) X.env = (false, eval e X.env) :: starEach es X.env := by rfl) (hpl : (backTo pos (starEach es X.env)).any (·.1) = false := by rfl) : PE X (.Call (.Name x p) (e :: es) [] pos) (tE X.K (mCall io g ma)) := by
  obtain ⟨f, fd, hm, hkp, hbi, F⟩ := h.ex
  exact (pe_call F (hr.mono hk) hg hm hkp hbi .nil pass0 ha hdb he hpl).weak fun σ H Q q => tE_call hio q
theorem x_call0 {X : Cx} {k k' np : Nat} {x : Str} {ps : List Str} {g : GM} {io : List Bool} {p pos : Pos} (h : Kn X.prog X.w X.K X.mg X.base k x ps (spOf X.K np g)) (hr : Room k' X.A) (hk : k ≤ k') (hg : Gl X x) (hio : io.length = np := by rfl)
    (hdb : (x == ("__debug__" : Str)) = false := by decide) : PE X (.Call (.Name x p) [] [] pos) (tE X.K (mCall io g mNil)) := by
  obtain ⟨f, fd, hm, hkp, hbi, F⟩ := h.ex
  exact (pe_call0 F (hr.mono hk) hg hm hkp hbi .nil pass0 hdb).weak fun σ H Q q => by
    have h2 := tE_call hio q
    obtain ⟨F, ε, os, ε', o, e, q⟩ := h2
    cases e
    exact q [] F H (Stp.refl o) .nil
/-- the law at a script -/
theorem top_mk (W : Wo fa fn K mg) (i j : Nat) {N : List Str} {d : He.DefD} {k : Nat} {m : XM} {x f0 : Str} (hd : fn[i]? = some d) (hx : d.at_ = (f0, none)) (hf : fa[j]? = some (.glo f0)) (pl : Plain d [x]) (S : FnScope N [x] d.scope) {fA : Addr} (hfa : mg f0 = some (.ref fA))
    (hb : ∀ (base : Heap) (f : Addr) (cdv : Value) (A : Around) (outer : List Env) (s : Shared) (H : Hp) (E : XK), Room k (cxN P w K mg base N d f cdv A outer s H E).A → PSs (cxN P w K mg base N d f cdv A outer s H E) d.body (tS K (ios [false]) m)) :
    ∃ fd : FuncData, (∀ (s : Shared) (v : Value), BindsTo s fd ⟨[v], []⟩ [(x, v)]) ∧ ∀ base : Heap, K.In base → base.Ns mainGlobals mg → FnOk P w K mg base CX0 (k + 1) fA fd [x] (spOf K 1 (semF [false] N.length m)) := by
  obtain ⟨h, X, G, c⟩ := W
  obtain ⟨fd, F⟩ := c.def_ i hd
  have g := He.glo_ok X G (c.fact j hf)
  have eD : d.dvs K = [] := by unfold He.DefD.dvs; rw [pl.1]; rfl
  have eA : He.fAd K d.at_ = He.ga K f0 := by rw [hx]; rfl
  have e := hfa.symm.trans g
  cases e
  rw [eD, eA] at F
  exact ⟨fd, fun s v => FunD.bindsA F pl.2.2 s [v] rfl, fun base _ _ => def_run F S (hb base)⟩
/-- a script in the first heap: read as frozen data -/
theorem sp_law {m : XM} {n : Nat} {H : Hp} {a : Addr} {ns : List Int} (O : Only H) (h : SqL K H a (ns.map V.int)) (hm : ∃ cs', semF [false] n m [.sh (.list (ns.map PyData.int))] = some (.sh (.bool true), cs')) :
    spOf K 1 (semF [false] n m) [.ref a] H (fun v _ => v = .bl true) fun _ _ _ => False := by
  obtain ⟨cs', hm⟩ := hm
  have reps : ∀ ns : List Int, Reps K H (ns.map V.int) (ns.map PyData.int) := fun ns => by
    induction ns with
    | nil => rfl
    | cons x r ih => exact ⟨_, _, rfl, by simp only [Rep], ih⟩
  refine ⟨rfl, H, _, _, _, ⟨Same.refl H, rfl, fun i d e => ?_, fun i ds e => ?_, fun i j a ds es e => ?_⟩, hm, fun v F' H' p => rep_bool p.rep⟩
  · cases i with
    | zero => cases e; exact ⟨_, rfl, a, _, rfl, h, reps ns⟩
    | succ i => simp at e
  · cases i with
    | zero => cases e
    | succ i => simp at e
  · cases i with
    | zero => cases e
    | succ i => simp at e
end
end L2.M

/-! Comprehensions as written; x[::-1]; any, all, sum, sorted; enumerate, zip. -/
namespace L2.M
open PySem PySem.Spec PyProof.Rows

/-! ### comprehensions -/
def mPick (ws : List (Str × Nat)) : List Nat := ws.map (·.2)
section
variable {X : Cx} {pos p : Pos}
theorem pts_no : PTs X [] (tT X.K mYes) := ⟨fun pins s σ H Q I q => pts_nil.run pins s σ H Q I (tT_pure q)⟩
theorem pts_it {c : Expr} {t : TM} (h : PT X c (tT X.K t)) : PTs X [c] (tT X.K t) := pts_one h
theorem x_lc {elt tg iter : Expr} {ifs : List Expr} {scope : Scope} {src : SM} {bd : BM} {g : TG} {tt : TM} {m : EM} (own : List (Str × Nat)) (hc : X.calm = true) (hN : X.N.Nodup) (hok : BlkOk X.N X.env.scope scope own) (hsrc : PI X tg iter (tI X.K src)) (hgd : Gd X.K g bd (· ∈ own.map (·.2)))
    (hg : ∀ (s : Shared) (H : Hp) (c0 : Addr) (cl : List (Str × Addr)) (fp : List Addr), PG (X.blk s H scope (compEnvC scope cl c0 X.env) fp) tg g) (ht : ∀ (s : Shared) (H : Hp) (c0 : Addr) (cl : List (Str × Addr)) (fp : List Addr), PTs (X.blk s H scope (compEnvC scope cl c0 X.env) fp) ifs (tT X.K tt))
    (he : ∀ (s : Shared) (H : Hp) (c0 : Addr) (cl : List (Str × Addr)) (fp : List Addr), PE (X.blk s H scope (compEnvC scope cl c0 X.env) fp) elt (tE X.K m)) (hs : ∀ x, foldedSetIterable iter X.env x = pure x := by intro _; rfl) :
    PE X (.ListComp elt [⟨tg, iter, ifs, 0⟩] scope pos) (tE X.K (mLc src bd tt m (own.map (·.2)))) := (pe_lc hc hN hsrc hok hg ht he hs).weak fun _ _ _ h => tE_lc hgd (fun _ h => h) h
theorem z_lc {io : List Nat} {y : Str} {spos : Pos} {elt tg iter : Expr} {ifs : List Expr} {scope : Scope} {src : SM} {bd : BM} {g : TG} {tt : TM} {m : EM} (i : Nat) (own : List (Str × Nat)) (hc : X.calm = true) (hN : X.N.Nodup) (hok : BlkOk X.N X.env.scope scope own) (hsrc : PI X tg iter (tI X.K src)) (hgd : Gd X.K g bd (· ∈ own.map (·.2)))
    (hg : ∀ (s : Shared) (H : Hp) (c0 : Addr) (cl : List (Str × Addr)) (fp : List Addr), PG (X.blk s H scope (compEnvC scope cl c0 X.env) fp) tg g) (ht : ∀ (s : Shared) (H : Hp) (c0 : Addr) (cl : List (Str × Addr)) (fp : List Addr), PTs (X.blk s H scope (compEnvC scope cl c0 X.env) fp) ifs (tT X.K tt))
    (he : ∀ (s : Shared) (H : Hp) (c0 : Addr) (cl : List (Str × Addr)) (fp : List Addr), PE (X.blk s H scope (compEnvC scope cl c0 X.env) fp) elt (tE X.K m)) (hy : X.N[i]? = some y := by rfl) (hyl : X.env.scope.names.lookup y = some .local := by rfl)
    (hsw : swapsWith (.ListComp elt [⟨tg, iter, ifs, 0⟩] scope pos) (some (.Name y p)) spos.line X.env = pure true := by rfl) (hs : ∀ x, foldedSetIterable iter X.env x = pure x := by intro _; rfl) :
    PS X (.Assign [.Name y p] (.ListComp elt [⟨tg, iter, ifs, 0⟩] scope pos) spos) (tS X.K io (mSet io i (mLc src bd tt m (own.map (·.2))))) := (ps_setLc hc hN hy hyl hsw hsrc hok hg ht he hs).weak fun De σ H h => by
  obtain ⟨F, ε, f, ε', o, e, q⟩ := tS_set h
  exact tE_lc hgd (fun _ h => h) ⟨F, ε, f, ε', o, e, q⟩

/-! ### x[::-1] -/
def revD : D → Option C
  | .list ds => some (.ls ds.reverse)
  | .tuple ds => some (.sh (.tuple ds.reverse))
  | _ => none
end
section
variable {prog : Program} {w : World} {A : Around} {E : Value → Shared → Prop} {s : Shared}
theorem places_back (n : Nat) : Builtin.Slice.slicePlaces ((n : Int) - 1) (-1) (-1) = n := by
  unfold Builtin.Slice.slicePlaces
  have h1 : ¬ ((-1 : Int) > 0) := by decide
  have h2 : -(-1 : Int) = 1 := by decide
  simp only [h1, if_false, h2, Int.ediv_one]
  split <;> omega
theorem pick_back (xs : Array Value) : ((List.range xs.size).filterMap fun (m : Nat) => xs[(((xs.size : Int) - 1) + (m : Int) * (-1)).toNat]?).toArray = xs.toList.reverse.toArray := by
  congr 1
  have e : (fun (m : Nat) => xs[(((xs.size : Int) - 1) + (m : Int) * (-1)).toNat]?) = fun (m : Nat) => xs[((xs.size : Int) - 1 - (m : Int)).toNat]? := by
    funext m
    congr 2
    omega
  rw [e]
  apply List.ext_getElem?
  intro i
  obtain ⟨l⟩ := xs
  simp only [List.size_toArray, List.getElem?_toArray]
  have key : ∀ (n : Nat), n ≤ l.length → (List.range n).filterMap (fun (m : Nat) => l[((l.length : Int) - 1 - (m : Int)).toNat]?) = l.reverse.take n := by
    intro n
    induction n with
    | zero => intro _; simp
    | succ n ih =>
      intro hn
      rw [List.range_succ, List.filterMap_append, ih (by omega), List.take_add_one]
      congr 1
      have h1 : ((l.length : Int) - 1 - n).toNat = l.length - 1 - n := by omega
      rw [List.getElem?_reverse (by omega)]
      simp only [List.filterMap_cons, List.filterMap_nil, h1]
      have h2 : l.length - 1 - n < l.length := by omega
      rw [List.getElem?_eq_getElem h2]
      rfl
  rw [key l.length (Nat.le_refl _), ← List.length_reverse, List.take_length]
theorem applied_back {b : Addr} {v1 v2 v3 : Value} {n : Nat} {Q : Int × Int × Nat → Shared → Prop} (h0 : s.heap.IsSliceOf b v1 v2 v3) (h1 : IsPart v1 none) (h2 : IsPart v2 none) (h3 : IsPart v3 (some (-1))) (q : Q ((n : Int) - 1, -1, n) s) :
    wpAny (model prog w) A (Builtin.Slice.sliceApplied (.ref b) (pure (n : Int))) Q E s := by
  obtain ⟨o2, e2, c2, d2⟩ := id h0
  unfold Builtin.Slice.sliceApplied Builtin.Slice.sliceFields
  refine wpAny_bind (wpAny_bind (wpAny_field e2 d2 (x := v1) rfl (wpAny_bind (wpAny_field e2 d2 (x := v2) rfl (wpAny_bind (wpAny_field e2 d2 (x := v3) rfl (wpAny_pure ?_)))))))
  refine wpAny_bind (HT.slicePart_ h3 ?_)
  show wpAny _ _ (if ((-1 : Int) == 0) = true then _ else _) _ _ s
  rw [if_neg (by decide)]
  refine wpAny_bind (HT.slicePart_ h1 (wpAny_bind (HT.slicePart_ h2 (wpAny_bind (wpAny_pure ?_)))))
  show wpAny _ _ (pure ((n : Int) - 1, (-1 : Int), Builtin.Slice.slicePlaces ((n : Int) - 1) (-1) (-1))) _ _ s
  rw [places_back]
  exact wpAny_pure q
theorem item_back {t b : Addr} {xs : Array Value} {v1 v2 v3 : Value} {Q : Value → Shared → Prop} (h : IsTup s.heap t xs) (h0 : s.heap.IsSliceOf b v1 v2 v3) (h1 : IsPart v1 none) (h2 : IsPart v2 none) (h3 : IsPart v3 (some (-1))) (hz : xs.size ≤ sizeLine)
    (q : Q (.ref s.heap.objs.size) { s with heap := s.heap.push { cls := .type "tuple", data := .seq xs.toList.reverse.toArray } }) : wpAny (model prog w) A (getItem (.ref t) (.ref b)) Q E s := by
  have fits : sizeOk (.seq xs.toList.reverse.toArray) := by
    show xs.toList.reverse.toArray.size ≤ sizeLine
    simpa using hz
  obtain ⟨o2, e2, c2, d2⟩ := id h0
  have ty2 : s.TypeIs (.ref b) "slice" := ⟨o2, e2, c2⟩
  unfold getItem
  try with_reducible refine wpAny_holding ?_
  first | refine wpAny_bind (wpAny_pure ?_) | skip
  refine wpAny_bind (wpAny_sequenceKey h.typeIs (by decide) ?_)
  refine wpAny_bind (wpAny_callSpecial?_slot (name := Str.ofString "__getitem__") h.typeIs PyProof.Rows.slot_tuple_getitem (wpAny_call_entry PyProof.Rows.slot_tuple_getitem h.typeIs entry_tuple_getitem ?_ (args_tuple_getitem _ _)))
  show wpAny _ _ (Builtin.Tuple.tupleItemsOf (.ref t) >>= _) _ _ s
  refine wpAny_bind (tupleItemsOf_ h ?_)
  refine wpAny_bind (wpAny_typeOf ty2 ?_)
  rw [if_pos (by decide)]
  refine wpAny_bind (applied_back h0 h1 h2 h3 ?_)
  have no : ¬ (((((xs.size : Nat) : Int) - 1 == 0) && ((-1 : Int) == 1) && (xs.size == xs.size)) = true) := by simp
  show wpAny _ _ (if ((((xs.size : Nat) : Int) - 1 == 0) && ((-1 : Int) == 1) && (xs.size == xs.size)) = true then _ else _) _ _ s
  rw [if_neg no, pick_back]
  first
    | exact wpAny_bind (m := Builtin.Tuple.tupleExact _) (wpAny_newObj_type (wpAny_pure ⟨_, rfl, wpAny_pure q⟩) fits)
    | exact wpAny_bind (m := Builtin.Tuple.tupleExact _) (wpAny_newObj_type (wpAny_bind (wpAny_pure (wpAny_pure ⟨_, rfl, wpAny_pure q⟩))) fits)
    | exact wpAny_bind (wpAny_bind (m := Builtin.Tuple.tupleExact _) (wpAny_newObj_type (wpAny_pure (wpAny_pure ⟨_, rfl, wpAny_pure q⟩)) fits))
    | exact wpAny_bind (wpAny_bind (m := Builtin.Tuple.tupleExact _) (wpAny_newObj_type (wpAny_pure ⟨_, rfl, wpAny_pure q⟩) fits))
end
def tRevA (K : PySem.W.Frag) (te : TE) : TE := fun σ H Q => te σ H fun x H1 => (∃ a xs, x = .ref a ∧ SqL K H1 a xs ∧ ∀ p, H1 p = none → Q (.ref p) (upd H1 p (.lst xs.reverse))) ∨ ∃ a xs, x = .ref a ∧ SqT K H1 a xs ∧ ∀ p, H1 p = none → Q (.ref p) (upd H1 p (.tup xs.reverse))
section
variable {X : Cx} {e : Expr} {k : Nat} {p1 p2 p3 pos : Pos}
theorem pe_back {te : TE} (he : PE X e te) : PE X (.Subscript e (.Slice none none (some (.UnaryOp .USub (.Constant (.int 1) k p1) p2)) p3) pos) (tRevA X.K te) := by
  refine ⟨fun pins s σ H Q I h => ?_⟩
  refine Subscript_ (thn (he.run pins s σ H _ I h) fun v s1 ⟨x, H1, I1, r1, q1⟩ => ?_)
  have back : PO X (some (.UnaryOp .USub (.Constant (.int 1) k p1) p2)) (tPart (tUn (rU fun i => .int (-i)) (tC (.int 1)))) := po_some (pe_un un_neg pe_int)
  refine wpAny_Slice (thn (po_none.run pins s1 σ H1 (fun o Ha => o = none ∧ Ha = H1) I1 ⟨rfl, rfl⟩) fun vl s2 ⟨o1, H2, I2, pl, g1, g2⟩ => ?_)
  subst g1 g2
  refine thn (po_none.run pins s2 σ H2 (fun o Ha => o = none ∧ Ha = H2) I2 ⟨rfl, rfl⟩) fun vu s3 ⟨o2, H3, I3, pu, g1, g2⟩ => ?_
  subst g1 g2
  refine thn (back.run pins s3 σ H3 (fun o Ha => o = some (-1) ∧ Ha = H3) I3 ⟨1, rfl, -1, rfl, rfl, rfl⟩) fun vs s4 ⟨o3, H4, I4, ps, g1, g2⟩ => ?_
  subst g1 g2
  have I5 : Inv X pins σ H4 { s4 with heap := s4.heap.push { cls := .type "slice", data := .fields #[vl, vu, vs] } } := I4.kept (t' := s4.toks) fun b ob z => Heap.get?_push_of_some _ z
  rcases q1 with ⟨a, xs, ex, hx, q⟩ | ⟨a, xs, ex, hx, q⟩
  · subst ex
    cases r1
    obtain ⟨its, r, hL, hz⟩ := I5.list hx
    have hn := r.length
    show wpAny (model X.prog X.w) X.A (subscriptTail e (.Slice none none (some (.UnaryOp .USub (.Constant (.int 1) k p1) p2)) p3) (.ref a) (.ref s4.heap.objs.size)) (EP X pins σ Q) X.xe _
    refine tail_any (ops := [.ref a, .ref s4.heap.objs.size]) hL.isList.typeIs (PySem.slot_list_getitem.lookup) ?_ (by with_unfolding_all rfl)
    refine wpAny_getItem_list_slice hL.isList (Heap.IsSliceOf.new _ vl vu vs) pl pu ps (by decide) ?_ (by rw [List.size_toArray]; omega)
    rw [PySem.W.krv_pick]
    refine ⟨.ref _, _, I5.laid (t' := s4.toks) (o := .lst xs.reverse) (fun b ob z => Heap.get?_push_of_some _ z) (Nat.le_refl _) ?_, rfl, q _ (I5.hok.fresh (Nat.le_refl _))⟩
    exact ⟨by rw [List.length_reverse]; exact hz, _, 0, r.reverse, Heap.get?_push_size _ rfl⟩
  · subst ex
    cases r1
    obtain ⟨its, r, hT, hz⟩ := I5.tuple hx
    have hn := r.length
    show wpAny (model X.prog X.w) X.A (subscriptTail e (.Slice none none (some (.UnaryOp .USub (.Constant (.int 1) k p1) p2)) p3) (.ref a) (.ref s4.heap.objs.size)) (EP X pins σ Q) X.xe _
    refine tail_any (ops := [.ref a, .ref s4.heap.objs.size]) hT.typeIs PyProof.Rows.slot_tuple_getitem.lookup ?_ (by with_unfolding_all rfl)
    refine item_back hT (Heap.IsSliceOf.new _ vl vu vs) pl pu ps (by rw [List.size_toArray]; omega) ?_
    refine ⟨.ref _, _, I5.laid (t' := s4.toks) (o := .tup xs.reverse) (fun b ob z => Heap.get?_push_of_some _ z) (Nat.le_refl _) ?_, rfl, q _ (I5.hok.fresh (Nat.le_refl _))⟩
    exact ⟨by rw [List.length_reverse]; exact hz, _, r.reverse, IsTup.new _ _⟩
def mRev (m : OM) : EM := mU revD m
theorem x_rev {m : OM} (he : PE X e (tO X.K m)) : PE X (.Subscript e (.Slice none none (some (.UnaryOp .USub (.Constant (.int 1) k p1) p2)) p3) pos) (tE X.K (mRev m)) := (pe_back he).weak fun σ H Q h => by
  have := tE_u (r := fun x H1 Q => (∃ a xs, x = .ref a ∧ SqL X.K H1 a xs ∧ ∀ p, H1 p = none → Q (.ref p) (upd H1 p (.lst xs.reverse))) ∨ ∃ a xs, x = .ref a ∧ SqT X.K H1 a xs ∧ ∀ p, H1 p = none → Q (.ref p) (upd H1 p (.tup xs.reverse))) (fun F H x d c Q s h1 he q => by
    unfold revD at he
    split at he
    · cases he
      obtain ⟨a, vs, rfl, g1, g2⟩ := rb_lst s h1
      exact .inl ⟨a, vs, rfl, g1, g_lst s g2.reverse q⟩
    · cases he
      obtain ⟨a, vs, rfl, g0, g1, g2⟩ := rb_tup s h1
      exact .inr ⟨a, vs, rfl, g1, g_tup s g2.reverse q⟩
    · cases he) h
  exact this
end
end L2.M

/-! any, all, sum, sorted, str; enumerate, zip, range of three. -/
namespace L2.M
open PySem PySem.Spec PyProof.Rows

def intsOf : List D → Option (List Int)
  | [] => some []
  | .int i :: ds => (intsOf ds).map (i :: ·)
  | _ => none
def boolsOf : List D → Option (List Bool)
  | [] => some []
  | .bool i :: ds => (boolsOf ds).map (i :: ·)
  | _ => none
theorem ints_reps {K : PySem.W.Frag} {F : Hp} : ∀ {ds : List D} {vs : List V} {ns : List Int}, Reps K F vs ds → intsOf ds = some ns → vs = ns.map V.int
  | [], vs, ns, h, e => by cases e; exact h
  | .int i :: ds, vs, ns, ⟨v, r, h1, h2, h3⟩, e => by
    simp only [intsOf, Option.map_eq_some_iff] at e
    obtain ⟨ms, e1, rfl⟩ := e
    subst h1
    simp only [Rep] at h2
    rw [h2, ints_reps h3 e1]
    rfl
  | .none :: ds, vs, ns, h, e => by cases e
  | .bool _ :: ds, vs, ns, h, e => by cases e
  | .str _ :: ds, vs, ns, h, e => by cases e
  | .list _ :: ds, vs, ns, h, e => by cases e
  | .tuple _ :: ds, vs, ns, h, e => by cases e
  | .dict _ :: ds, vs, ns, h, e => by cases e
theorem bools_reps {K : PySem.W.Frag} {F : Hp} : ∀ {ds : List D} {vs : List V} {ns : List Bool}, Reps K F vs ds → boolsOf ds = some ns → vs = ns.map V.bl
  | [], vs, ns, h, e => by cases e; exact h
  | .bool i :: ds, vs, ns, ⟨v, r, h1, h2, h3⟩, e => by
    simp only [boolsOf, Option.map_eq_some_iff] at e
    obtain ⟨ms, e1, rfl⟩ := e
    subst h1
    simp only [Rep] at h2
    rw [h2, bools_reps h3 e1]
    rfl
  | .none :: ds, vs, ns, h, e => by cases e
  | .int _ :: ds, vs, ns, h, e => by cases e
  | .str _ :: ds, vs, ns, h, e => by cases e
  | .list _ :: ds, vs, ns, h, e => by cases e
  | .tuple _ :: ds, vs, ns, h, e => by cases e
  | .dict _ :: ds, vs, ns, h, e => by cases e
theorem reps_ints {K : PySem.W.Frag} {F : Hp} : ∀ ns : List Int, Reps K F (ns.map V.int) (ns.map PyData.int)
  | [] => rfl
  | n :: ns => ⟨_, _, rfl, by simp only [Rep], reps_ints ns⟩

def anyD : List D → Option C
  | [.list ds] => (boolsOf ds).map fun bs => .sh (.bool (bs.any id))
  | _ => none
def allD : List D → Option C
  | [.list ds] => (boolsOf ds).map fun bs => .sh (.bool (bs.all id))
  | _ => none
def sumD : List D → Option C
  | [.list ds] => (intsOf ds).map fun ns => .sh (.int ns.sum)
  | _ => none
def isort (ns : List Int) : List Int := ns.mergeSort fun a b => decide (a ≤ b)
def sortD : List D → Option C
  | [.list ds] => (intsOf ds).map fun ns => .ls ((isort ns).map PyData.int)
  | _ => none
def strD : List D → Option C
  | [.int i] => if sm i then some (.sh (.str (toString i))) else none
  | _ => none
def gmaxD : List D → Option C
  | [.list ds] => match intsOf ds with
    | some (n :: ns) => some (.sh (.int (ns.foldl max n)))
    | _ => none
  | _ => none
def gminD : List D → Option C
  | [.list ds] => match intsOf ds with
    | some (n :: ns) => some (.sh (.int (ns.foldl min n)))
    | _ => none
  | _ => none
theorem isort_of {ns ms : List Int} (p : ms.Perm ns) (s : ms.Pairwise (· ≤ ·)) : ms = isort ns := by
  have h1 : (isort ns).Perm ns := List.mergeSort_perm ns _
  have h2 : (isort ns).Pairwise (fun a b => decide (a ≤ b) = true) := List.pairwise_mergeSort (by intro a b c; simp; omega) (by intro a b; simp; omega) ns
  have h3 : (isort ns).Pairwise (· ≤ ·) := h2.imp fun h => by simpa using h
  exact (p.trans h1.symm).eq_of_pairwise (fun a b _ _ h k => Int.le_antisymm h k) s h3
section
variable {X : Cx}
theorem any_ok (hc : X.calm = true) : ∃ r, CallR X (.builtin "any") r ∧ FnB X.K anyD r := by
  refine ⟨_, cr_any hc, fun F H vs ds c Q s hr he q => ?_⟩
  match ds, he, hr with
  | [.list ds], he, hr =>
    simp only [anyD, Option.map_eq_some_iff] at he
    obtain ⟨bs, e1, rfl⟩ := he
    obtain ⟨x, rfl, h1⟩ := hr.one
    obtain ⟨a, vs, rfl, g1, g2⟩ := rb_lst s h1
    rw [bools_reps g2 e1] at g1
    exact ⟨a, bs, rfl, g1, g_bool s q⟩
theorem all_ok (hc : X.calm = true) : ∃ r, CallR X (.builtin "all") r ∧ FnB X.K allD r := by
  refine ⟨_, cr_all hc, fun F H vs ds c Q s hr he q => ?_⟩
  match ds, he, hr with
  | [.list ds], he, hr =>
    simp only [allD, Option.map_eq_some_iff] at he
    obtain ⟨bs, e1, rfl⟩ := he
    obtain ⟨x, rfl, h1⟩ := hr.one
    obtain ⟨a, vs, rfl, g1, g2⟩ := rb_lst s h1
    rw [bools_reps g2 e1] at g1
    exact ⟨a, bs, rfl, g1, g_bool s q⟩
theorem sum_ok (hc : X.calm = true) : ∃ r, CallR X (.builtin "sum") r ∧ FnB X.K sumD r := by
  refine ⟨_, cr_sum hc, fun F H vs ds c Q s hr he q => ?_⟩
  match ds, he, hr with
  | [.list ds], he, hr =>
    simp only [sumD, Option.map_eq_some_iff] at he
    obtain ⟨bs, e1, rfl⟩ := he
    obtain ⟨x, rfl, h1⟩ := hr.one
    obtain ⟨a, vs, rfl, g1, g2⟩ := rb_lst s h1
    rw [ints_reps g2 e1] at g1
    exact ⟨a, bs, rfl, g1, g_int s q⟩
theorem sort_ok : ∃ r, CallR X (.builtin "sorted") r ∧ FnB X.K sortD r := by
  refine ⟨_, cr_sortedI, fun F H vs ds c Q s hr he q => ?_⟩
  match ds, he, hr with
  | [.list ds], he, hr =>
    simp only [sortD, Option.map_eq_some_iff] at he
    obtain ⟨bs, e1, rfl⟩ := he
    obtain ⟨x, rfl, h1⟩ := hr.one
    obtain ⟨a, vs, rfl, g1, g2⟩ := rb_lst s h1
    rw [ints_reps g2 e1] at g1
    refine ⟨a, bs, rfl, g1, fun ms p hp hs hq => ?_⟩
    rw [isort_of hp hs]
    exact g_lst s (reps_ints _) q p hq
theorem str_ok : ∃ r, CallR X (.type "str") r ∧ FnB X.K strD r := by
  refine ⟨_, call_str_int, fun F H vs ds c Q s hr he q => ?_⟩
  match ds, he, hr with
  | [.int i], he, hr =>
    simp only [strD] at he
    split at he
    · rename_i hz
      cases he
      obtain ⟨x, rfl, h1⟩ := hr.one
      rw [rb_int h1]
      exact ⟨i, rfl, by have := log2_le hz.1 hz.2; omega, g_str s q⟩
    · cases he
theorem fold_max : ∀ (ns : List Int) (n : Int), (ns.foldl max n = n ∨ ns.foldl max n ∈ ns) ∧ n ≤ ns.foldl max n ∧ ∀ y ∈ ns, y ≤ ns.foldl max n
  | [], n => ⟨.inl rfl, Int.le_refl _, fun y h => by cases h⟩
  | m :: ns, n => by
    obtain ⟨h1, h2, h3⟩ := fold_max ns (max n m)
    simp only [List.foldl_cons]
    refine ⟨?_, by omega, fun y hy => ?_⟩
    · rcases h1 with h | h
      · rw [h]
        by_cases k : n ≤ m
        · right; rw [Int.max_eq_right k]; exact List.mem_cons_self
        · left; exact Int.max_eq_left (by omega)
      · exact .inr (List.mem_cons_of_mem _ h)
    · rcases List.mem_cons.mp hy with rfl | hy
      · omega
      · exact h3 y hy
theorem fold_min : ∀ (ns : List Int) (n : Int), (ns.foldl min n = n ∨ ns.foldl min n ∈ ns) ∧ ns.foldl min n ≤ n ∧ ∀ y ∈ ns, ns.foldl min n ≤ y
  | [], n => ⟨.inl rfl, Int.le_refl _, fun y h => by cases h⟩
  | m :: ns, n => by
    obtain ⟨h1, h2, h3⟩ := fold_min ns (min n m)
    simp only [List.foldl_cons]
    refine ⟨?_, by omega, fun y hy => ?_⟩
    · rcases h1 with h | h
      · rw [h]
        by_cases k : n ≤ m
        · left; exact Int.min_eq_left k
        · right; rw [Int.min_eq_right (by omega)]; exact List.mem_cons_self
      · exact .inr (List.mem_cons_of_mem _ h)
    · rcases List.mem_cons.mp hy with rfl | hy
      · omega
      · exact h3 y hy
theorem gmax_ok (hc : X.calm = true) : ∃ r, CallR X (.builtin "max") r ∧ FnB X.K gmaxD r := by
  refine ⟨_, cr_max hc, fun F H vs ds c Q s hr he q => ?_⟩
  match ds, he, hr with
  | [.list ds], he, hr =>
    simp only [gmaxD] at he
    split at he
    · rename_i n ns e1
      cases he
      obtain ⟨x, rfl, h1⟩ := hr.one
      obtain ⟨a, vs, rfl, g1, g2⟩ := rb_lst s h1
      rw [ints_reps g2 e1] at g1
      refine ⟨a, n :: ns, rfl, g1, by simp, fun m hm hy => ?_⟩
      obtain ⟨k1, k2, k3⟩ := fold_max ns n
      have e : m = ns.foldl max n := by
        apply Int.le_antisymm
        · rcases List.mem_cons.mp hm with rfl | h
          · exact k2
          · exact k3 _ h
        · rcases k1 with h | h
          · rw [h]; exact hy _ List.mem_cons_self
          · exact hy _ (List.mem_cons_of_mem _ h)
      rw [e]
      exact g_int s q
    · cases he
theorem gmin_ok (hc : X.calm = true) : ∃ r, CallR X (.builtin "min") r ∧ FnB X.K gminD r := by
  refine ⟨_, cr_min hc, fun F H vs ds c Q s hr he q => ?_⟩
  match ds, he, hr with
  | [.list ds], he, hr =>
    simp only [gminD] at he
    split at he
    · rename_i n ns e1
      cases he
      obtain ⟨x, rfl, h1⟩ := hr.one
      obtain ⟨a, vs, rfl, g1, g2⟩ := rb_lst s h1
      rw [ints_reps g2 e1] at g1
      refine ⟨a, n :: ns, rfl, g1, by simp, fun m hm hy => ?_⟩
      obtain ⟨k1, k2, k3⟩ := fold_min ns n
      have e : m = ns.foldl min n := by
        apply Int.le_antisymm
        · rcases k1 with h | h
          · rw [h]; exact hy _ List.mem_cons_self
          · exact hy _ (List.mem_cons_of_mem _ h)
        · rcases List.mem_cons.mp hm with rfl | h
          · exact k2
          · exact k3 _ h
      rw [e]
      exact g_int s q
    · cases he
end
/-- more built-in functions of one list -/
inductive Bg where
  | any | all | sum | sorted | str | maxl | minl
def Bg.nm : Bg → Str
  | .any => "any"
  | .all => "all"
  | .sum => "sum"
  | .sorted => "sorted"
  | .str => "str"
  | .maxl => "max"
  | .minl => "min"
def Bg.f : Bg → List D → Option C
  | .any => anyD
  | .all => allD
  | .sum => sumD
  | .sorted => sortD
  | .str => strD
  | .maxl => gmaxD
  | .minl => gminD
theorem boot_any1 : bootBuiltins "any" = some (.builtin "any") := by decide +kernel
theorem boot_all1 : bootBuiltins "all" = some (.builtin "all") := by decide +kernel
theorem boot_sum1 : bootBuiltins "sum" = some (.builtin "sum") := by decide +kernel
theorem boot_sorted1 : bootBuiltins "sorted" = some (.builtin "sorted") := by decide +kernel
section
variable {X : Cx} {e : Expr} {es : List Expr} {mr : AM} {p pos : Pos}
theorem x_bg (q : Bg) {y : Str} (hy : y = q.nm) (hm : X.mg q.nm = none) (hc : X.calm = true) (hg : Gl X y) (ha : PA X (e :: es) (tA X.K mr)) (he : starEach (e :: es) X.env = (false, eval e X.env) :: starEach es X.env := by rfl) (hpl : (backTo pos (starEach es X.env)).any (·.1) = false := by rfl) :
    PE X (.Call (.Name y p) (e :: es) [] pos) (tE X.K (mOp q.f mr)) := by
  subst hy
  cases q with
  | any => exact let ⟨_, h1, h2⟩ := any_ok hc; me_callB h1 h2 hg hm boot_any1 ha (by decide) (by decide) he hpl
  | all => exact let ⟨_, h1, h2⟩ := all_ok hc; me_callB h1 h2 hg hm boot_all1 ha (by decide) (by decide) he hpl
  | sum => exact let ⟨_, h1, h2⟩ := sum_ok hc; me_callB h1 h2 hg hm boot_sum1 ha (by decide) (by decide) he hpl
  | sorted => exact let ⟨_, h1, h2⟩ := sort_ok; me_callB h1 h2 hg hm boot_sorted1 ha (by decide) (by decide) he hpl
  | str => exact let ⟨_, h1, h2⟩ := str_ok; me_callTy h1 h2 hg hm boot_str ha (by decide) (by decide) he hpl
  | maxl => exact let ⟨_, h1, h2⟩ := gmax_ok hc; me_callB h1 h2 hg hm boot_max ha (by decide) (by decide) he hpl
  | minl => exact let ⟨_, h1, h2⟩ := gmin_ok hc; me_callB h1 h2 hg hm boot_min ha (by decide) (by decide) he hpl

/-! ### enumerate(list), zip of two lists -/
def enumFrom (k : Nat) : List D → List D
  | [] => []
  | d :: ds => .tuple [.int (k : Int), d] :: enumFrom (k + 1) ds
def enumD : List D → Option (List D)
  | [.list ds] => some (enumFrom 0 ds)
  | _ => none
def zipD : List D → Option (List D)
  | [.list ds, .list es] => some (List.zipWith (fun a b => .tuple [a, b]) ds es)
  | _ => none
theorem enum_get : ∀ (ds : List D) (k i : Nat), (enumFrom k ds)[i]? = ds[i]?.map fun d => .tuple [.int ((k + i : Nat) : Int), d]
  | [], k, i => by simp [enumFrom]
  | d :: ds, k, 0 => by simp [enumFrom]
  | d :: ds, k, i + 1 => by
    simp only [enumFrom, List.getElem?_cons_succ]
    rw [enum_get ds (k + 1) i]
    have : k + 1 + i = k + (i + 1) := by omega
    rw [this]
theorem enum_len : ∀ (ds : List D) (k : Nat), (enumFrom k ds).length = ds.length
  | [], k => rfl
  | d :: ds, k => by simp [enumFrom, enum_len ds (k + 1)]
theorem walkE {K : PySem.W.Frag} {a : Addr} {n : Nat} : Walk (Ite K a) n (fun H => ∃ vs, SqL K H a vs ∧ vs.length = n) (fun i H x H' => ∃ t z, x = .ref t ∧ H t = none ∧ H' = upd H t (.tup [.int (i : Nat), z]) ∧ ∀ vs, SqL K H a vs → vs[i]? = some z) := by
  refine ⟨fun i H hi ⟨vs, h, hl⟩ => ⟨vs, vs[i], h, by simp [hl, hi]⟩, fun H ⟨vs, h, hl⟩ => ⟨vs, h, by omega⟩, fun i H x H' _ _ y => y⟩
theorem walkZ {K : PySem.W.Frag} {a b : Addr} {n : Nat} : Walk (Itz K a b) n (fun H => ∃ vs ws, SqL K H a vs ∧ SqL K H b ws ∧ min vs.length ws.length = n) (fun i H x H' => ∃ t y z, x = .ref t ∧ H t = none ∧ H' = upd H t (.tup [y, z]) ∧ (∀ vs, SqL K H a vs → vs[i]? = some y) ∧ ∀ vs, SqL K H b vs → vs[i]? = some z) := by
  refine ⟨fun i H hi ⟨vs, ws, h, g, hl⟩ => ?_, fun H ⟨vs, ws, h, g, hl⟩ => ⟨vs, ws, h, g, by omega⟩, fun i H x H' _ _ y => y⟩
  have h1 : i < vs.length := by omega
  have h2 : i < ws.length := by omega
  exact ⟨vs, ws, vs[i], ws[i], h, g, by simp [h1], by simp [h2]⟩
theorem mi_enum {elts : List Expr} {kk : Nat} {tpos : Pos} (hm : X.mg "enumerate" = none) (hg : Gl X "enumerate") {m : OM} (h : PE X e (tO X.K m)) (hs : starEach [e] X.env = [(false, eval e X.env)] := by rfl) :
    PI X (.Tuple elts kk tpos) (.Call (.Name "enumerate" p) [e] [] pos) (tI X.K (mSrc enumD (mCons m mNil))) := by
  refine (pi_enum hg hm (ma_cons h ma_nil hs) hs).weak fun σ H R q => ?_
  obtain ⟨F, ε, os, ds, out, ε', o, e1, e2, e3, q⟩ := src_parts q
  refine ⟨F, ε, os, ε', o, e1, fun vs F1 H1 s1 r1 => ?_⟩
  match ds, e3, e2 with
  | [.list ds], e3, e2 =>
    simp only [enumD] at e3
    cases e3
    obtain ⟨o1, rfl, e4⟩ := bors1 e2
    obtain ⟨x, t, rfl⟩ : ∃ x t, vs = x :: t := by cases r1 <;> exact ⟨_, _, rfl⟩
    have ht : t = [] := by cases r1 <;> (rename_i hh; first | (cases hh; rfl) | skip)
    subst ht
    have nw : ∀ a, H a = none → ¬ Own σ ε' a := fun a z w => o.not_own z (s1.ow w)
    obtain ⟨k1, _⟩ := opd_seq s1.ok nw r1 e4
    obtain ⟨a, rfl, ⟨vs, k2⟩, k3⟩ := k1 ds rfl
    refine ⟨a, vs, rfl, k2, q F1 H1 _ s1 ?_⟩
    refine ⟨_, _, (show Walk (Ite X.K a) (enumFrom 0 ds).length _ _ by rw [enum_len]; exact walkE), fun F2 H2 σ2 ε2 o2 fm kp st => ?_⟩
    obtain ⟨us, g1, g2⟩ := k3 F2 H2 σ2 ε2 o2 fm kp fun i hi => st i (by subst hi; simp [plOf])
    refine ⟨⟨us, g1, g2.length⟩, fun i x H3 hi y => ?_⟩
    rw [enum_len] at hi
    obtain ⟨t, z, rfl, ht, rfl, hz⟩ := y
    have hz := hz us g1
    have hd : ds[i]? = some ds[i] := List.getElem?_eq_getElem hi
    obtain ⟨w, hw, rw_⟩ := g2.get hd
    rw [hz] at hw
    cases hw
    have gl := Grw.laid (u := .tup [.int (i : Nat), z]) o2.sub ht
    refine ⟨_, .tuple [.int ((0 + i : Nat) : Int), ds[i]], by rw [enum_get, hd]; rfl, ⟨t, _, rfl, .inl (.inl upd_same), ?_⟩, gl⟩
    exact ⟨_, _, rfl, by simp only [Rep, Nat.zero_add], _, _, rfl, Rep.mono gl.fm _ _ rw_, rfl⟩
theorem opds2 {K : PySem.W.Frag} {F H : Hp} {σ : St} {N : Addr → Prop} {vs : List V} {p q : Opd} (h : OpsOk K F H σ N vs [p, q]) : ∃ x y, vs = [x, y] ∧ OpsOk K F H σ N [x] [p] ∧ OpsOk K F H σ N [y] [q] := by
  have one : ∀ {vs : List V}, OpsOk K F H σ N vs [q] → ∃ y, vs = [y] ∧ OpsOk K F H σ N [y] [q] := by
    intro vs h
    cases h with
    | pl a b => cases b; exact ⟨_, rfl, .pl a .nil⟩
    | sh a b => cases b; exact ⟨_, rfl, .sh a .nil⟩
    | ls a b c d e f => cases f; exact ⟨_, rfl, .ls a b c d (fun j es z => by simp at z) .nil⟩
  cases h with
  | pl a b =>
    obtain ⟨y, rfl, hy⟩ := one b
    exact ⟨_, y, rfl, .pl a .nil, hy⟩
  | sh a b =>
    obtain ⟨y, rfl, hy⟩ := one b
    exact ⟨_, y, rfl, .sh a .nil, hy⟩
  | ls a b c d e f =>
    obtain ⟨y, rfl, hy⟩ := one f
    exact ⟨_, y, rfl, .ls a b c d (fun j es z => by simp at z) .nil, hy⟩
theorem mi_zip {a b : Expr} {elts : List Expr} {kk : Nat} {tpos : Pos} (hm : X.mg "zip" = none) (hg : Gl X "zip") {m n : OM} (h1 : PE X a (tO X.K m)) (h2 : PE X b (tO X.K n)) (hs : starEach [a, b] X.env = (false, eval a X.env) :: starEach [b] X.env := by rfl) (hs2 : starEach [b] X.env = [(false, eval b X.env)] := by rfl)
    (hpl : (backTo pos (starEach [b] X.env)).any (·.1) = false := by rfl) : PI X (.Tuple elts kk tpos) (.Call (.Name "zip" p) [a, b] [] pos) (tI X.K (mSrc zipD (mCons m (mCons n mNil)))) := by
  refine (RZ.pi_zipA hg hm (ma_cons h1 (ma_cons h2 ma_nil hs2) hs) hs hpl).weak fun σ H R q => ?_
  obtain ⟨F, ε, os, ds, out, ε', o, e1, e2, e3, q⟩ := src_parts q
  refine ⟨F, ε, os, ε', o, e1, fun vs F1 H1 s1 r1 => ?_⟩
  match ds, e3, e2 with
  | [.list ds, .list es], e3, e2 =>
    simp only [zipD] at e3
    cases e3
    obtain ⟨o1, o2, rfl, e4, e5⟩ := bors2 e2
    obtain ⟨x, y, rfl, r2, r3⟩ := opds2 r1
    have nw : ∀ a, H a = none → ¬ Own σ ε' a := fun a z w => o.not_own z (s1.ow w)
    obtain ⟨k1, _⟩ := opd_seq s1.ok nw r2 e4
    obtain ⟨l1, _⟩ := opd_seq s1.ok nw r3 e5
    obtain ⟨a1, rfl, ⟨vs, k2⟩, k3⟩ := k1 ds rfl
    obtain ⟨b1, rfl, ⟨ws, l2⟩, l3⟩ := l1 es rfl
    refine ⟨a1, b1, vs, ws, rfl, .inl ⟨k2, l2, q F1 H1 _ s1 ?_⟩⟩
    have zl : (List.zipWith (fun a b => PyData.tuple [a, b]) ds es).length = min ds.length es.length := by simp
    refine ⟨_, _, (show Walk (Itz X.K a1 b1) (List.zipWith (fun a b => PyData.tuple [a, b]) ds es).length _ _ from walkZ), fun F2 H2 σ2 ε2 o2' fm kp st => ?_⟩
    have st1 : ∀ i, o1 = .pl i → σ2[i]? = σ[i]? ∧ ε2[i]? = ε'[i]? := fun i hi => st i (by subst hi; simp [plOf])
    have st2 : ∀ i, o2 = .pl i → σ2[i]? = σ[i]? ∧ ε2[i]? = ε'[i]? := fun i hi => st i (by subst hi; cases o1 <;> simp [plOf])
    obtain ⟨us, g1, g2⟩ := k3 F2 H2 σ2 ε2 o2' fm kp st1
    obtain ⟨ts, g3, g4⟩ := l3 F2 H2 σ2 ε2 o2' fm kp st2
    refine ⟨⟨us, ts, g1, g3, by rw [zl, g2.length, g4.length]⟩, fun i x H3 hi y => ?_⟩
    rw [zl] at hi
    obtain ⟨t, y1, z1, rfl, ht, rfl, hy1, hz1⟩ := y
    have hy1 := hy1 us g1
    have hz1 := hz1 ts g3
    have d1 : ds[i]? = some (ds[i]'(by omega)) := List.getElem?_eq_getElem (by omega)
    have d2 : es[i]? = some (es[i]'(by omega)) := List.getElem?_eq_getElem (by omega)
    obtain ⟨w, hw, rw1⟩ := g2.get d1
    obtain ⟨w2, hw2, rw2⟩ := g4.get d2
    rw [hy1] at hw
    rw [hz1] at hw2
    cases hw
    cases hw2
    have gl := Grw.laid (u := .tup [y1, z1]) o2'.sub ht
    refine ⟨_, .tuple [ds[i]'(by omega), es[i]'(by omega)], by rw [List.getElem?_zipWith, d1, d2], ⟨t, _, rfl, .inl (.inl upd_same), ?_⟩, gl⟩
    exact ⟨_, _, rfl, Rep.mono gl.fm _ _ rw1, _, _, rfl, Rep.mono gl.fm _ _ rw2, rfl⟩
end
end L2.M

/-! Defs that are called while no text is being written (guards known): for repr of lists and tuples. -/
namespace L2.M
open PySem PySem.Spec PyProof.Rows

structure Rm (k : Nat) (A : Around) : Prop extends Room k A where
  gd : A.guards = some []
theorem Rm.mono {j k : Nat} {A : Around} (r : Rm k A) (h : j ≤ k) : Rm j A := ⟨r.toRoom.mono h, r.gd⟩
structure FnG (P : Program) (w : World) (K : PySem.W.Frag) (mg : Str → Option Value) (base : Heap) (CX : CXT) (k : Nat) (f : Addr) (fd : FuncData) (ps : List Str) (sp : Sp) : Prop where
  len : ∀ vs H Q E, sp vs H Q E → vs.length = ps.length
  run : ∀ (A : Around) (outer : List Env) (s : Shared) (H : Hp) (args : Args) (us : List Value) (vs : List V) (Q : VK) (E : XK), Rm k A → Env0 P w K mg base A outer s H → BindsTo s fd args (ps.zip us) → Vals vs us → sp vs H Q E →
    codeAny (model P w) A (.call (.ref f) args) (CR CX outer P w H s Q E) s
section
variable {P : Program} {w : World} {K : PySem.W.Frag} {mg : Str → Option Value} {base : Heap} {CX : CXT}
theorem FnG.mono {j k : Nat} {f : Addr} {fd : FuncData} {ps : List Str} {sp : Sp} (F : FnG P w K mg base CX j f fd ps sp) (h : j ≤ k) : FnG P w K mg base CX k f fd ps sp :=
  ⟨F.len, fun A outer s H args us vs Q E hr => F.run A outer s H args us vs Q E (hr.mono h)⟩
/-- a def's body, run where the guards are known -/
theorem fnG_of {N ps : List Str} {k : Nat} {sp : Sp} {f : Addr} {name qual : Str} {params : Arguments} {body : List Stmt} {scope : Scope} {dV kV doc pm cdv ct oc : Value} {an od : Option Addr} {osl : Array (Option Value)}
    (l0 : K.lookup f = some ⟨oc, od, .func (PySem.W.fnOf name qual params body scope dV kV doc pm an cdv ct), osl⟩) (c0 : PySem.W.codeIn K cdv qual = true) (S : FnScope N ps scope) (len : ∀ vs H Q E, sp vs H Q E → vs.length = ps.length)
    (hb : ∀ (A : Around) (outer : List Env) (s : Shared) (H : Hp) (vs : List V) (Q : VK) (E : XK), Rm k (A.deeper (envOfC qual scope s.heap.objs.size f cdv)) → sp vs H Q E →
      ∃ t, PSs (cxOf CX P w K mg base N qual scope f cdv A outer s H E) body t ∧ t { nx := fun _ H' => Q .non H', rt := Q } (start N vs) H) :
    FnG P w K mg base CX (k + 1) f (PySem.W.fnOf name qual params body scope dV kV doc pm an cdv ct) ps sp := by
  refine ⟨len, fun A outer s H args us vs Q E r0 env0 bd rv h0 => ?_⟩
  have inK : K.In s.heap := env0.mod.kin.keeps fun b o z => (env0.bs b o z).1
  have nl : s.heap.NoLimit := env0.mod.nolimit.keeps fun b o z => (env0.bs b o z).1
  have kinds : ∀ y ∈ ps.zip us, scope.names.lookup y.1 = some .local ∨ (scope.names.lookup y.1 = some .cell ∧ ((cellsFrom (s.heap.objs.size + 1) scope.names []).lookup y.1).isSome = true) := by
    rintro ⟨n, v⟩ hy
    have hn := S.par n (List.of_mem_zip hy).1
    rcases hn with z | z
    · exact .inl z
    · exact .inr ⟨z, PySem.W.cellsFrom_some _ _ _ (.inl z)⟩
  refine codeAny_call_function r0.toRoom.depth (inK _ _ l0) rfl S.co S.gen rfl (PySem.W.codeRec_of inK c0) (bd _ _ _ _ ?_)
  refine wpAny_newFunctionEnv_cells S.kind kinds fun env ee s2 x2 => ?_
  subst ee
  refine ⟨nl.keeps x2.toInCall.keep, codeAny_func ?_⟩
  obtain ⟨t, ht, hq⟩ := hb A outer s H vs Q E ⟨r0.toRoom.deeper _, r0.gd⟩ h0
  have J : Inv (cxOf CX P w K mg base N qual scope f cdv A outer s H E) [] (start N vs) H s2 := inv_start S r0.hd env0 (len _ _ _ _ h0) rv x2
  refine wpAny_mono (ht.run [] s2 (start N vs) H _ J hq) (fun fl s' z => ?_) fun e s' z => z
  cases fl with
  | ret u =>
    obtain ⟨v, σ', H', I, r, q⟩ := z
    exact ⟨v, H', I.os, I.bare, I.base, I.hok, r, q⟩
  | next =>
    obtain ⟨σ', H', I, q⟩ := z
    exact ⟨.non, H', I.os, I.bare, I.base, I.hok, rfl, q⟩
  | brk =>
    obtain ⟨_, _, _, q⟩ := z
    exact q.elim
  | cont =>
    obtain ⟨_, _, _, q⟩ := z
    exact q.elim
end
/-- a def that keeps its promise there, by its name -/
structure KnG (P : Program) (w : World) (K : PySem.W.Frag) (mg : Str → Option Value) (base : Heap) (k : Nat) (x : Str) (ps : List Str) (sp : Sp) : Prop where
  ex : ∃ (f : Addr) (fd : FuncData), mg x = some (.ref f) ∧ PySem.W.keepIn K (.ref f) = true ∧ Binds K fd ps [] ∧ FnG P w K mg base CX0 k f fd ps sp
section
variable {fa : List He.Fa} {fn : List He.DefD} {K : PySem.W.Frag} {mg : Str → Option Value} {P : Program} {w : World} {base : Heap}
theorem defG {N ps : List Str} {d : He.DefD} {k : Nat} {io : List Bool} {m : XM} {f : Addr} {fd : FuncData} {dvs : List V} {kws : List (Str × V)} (F : FunD K d.name d.qual d.params d.body d.scope dvs kws f fd) (S : FnScope N ps d.scope)
    (hb : ∀ (f : Addr) (cdv : Value) (A : Around) (outer : List Env) (s : Shared) (H : Hp) (E : XK), Rm k (cxN P w K mg base N d f cdv A outer s H E).A → PSs (cxN P w K mg base N d f cdv A outer s H E) d.body (tS K (ios io) m)) :
    FnG P w K mg base CX0 (k + 1) f fd ps (spOf K ps.length (semF io N.length m)) := by
  obtain ⟨oc, od, dV, kV, doc, pm, an, cdv, ct, osl, rfl, l0, c0, _, _⟩ := F.ex
  exact fnG_of l0 c0 S (fun vs H Q E h => h.1) fun A outer s H vs Q E hr h => ⟨tS K (ios io) m, PSs.nox (hb f cdv A outer s H E hr), sem_run h⟩
theorem kng_mk (W : Wo fa fn K mg) (i j : Nat) {N ps : List Str} {d : He.DefD} {k : Nat} {io : List Bool} {m : XM} {x : Str} (hd : fn[i]? = some d) (hx : d.at_ = (x, none)) (hf : fa[j]? = some (.glo x)) (pl : Plain d ps) (S : FnScope N ps d.scope)
    (hb : ∀ (f : Addr) (cdv : Value) (A : Around) (outer : List Env) (s : Shared) (H : Hp) (E : XK), Rm k (cxN P w K mg base N d f cdv A outer s H E).A → PSs (cxN P w K mg base N d f cdv A outer s H E) d.body (tS K (ios io) m)) :
    KnG P w K mg base (k + 1) x ps (spOf K ps.length (semF io N.length m)) := by
  obtain ⟨h, X, G, c⟩ := W
  obtain ⟨fd, F⟩ := c.def_ i hd
  have g := He.glo_ok X G (c.fact j hf)
  have eD : d.dvs K = [] := by unfold He.DefD.dvs; rw [pl.1]; rfl
  have eA : He.fAd K d.at_ = He.ga K x := by rw [hx]; rfl
  rw [eD, eA] at F
  exact ⟨⟨_, fd, g, F.kp, F.bindsN pl.2.2, defG F S hb⟩⟩
/-- the callee runs, the guards known -/
theorem runG {X : Cx} {pins : List (Addr × Obj)} {σ : St} {H : Hp} {s : Shared} {Q : VK} {us : List Value} {vs : List V} {k : Nat} {f : Addr} {fd : FuncData} {ps : List Str} {sp : Sp} (F : FnG X.prog X.w X.K X.mg X.base CX0 k f fd ps sp) (hr : Rm k X.A) (hb : Binds X.K fd ps []) (I : Inv X pins σ H s) (r : Vals vs us) (h : sp vs H Q E0) :
    wpAny (model X.prog X.w) X.A (call (.ref f) us) (EP X pins σ Q) X.xe s := by
  have hl : us.length = ps.length := by rw [← r.length]; exact F.len _ _ _ _ h
  have bd := hb s us I.kIn (by rw [List.append_nil]; exact hl)
  rw [List.append_nil] at bd
  refine wpAny_call (codeAny_mono (F.run X.A X.stack s H ⟨us, []⟩ us vs Q E0 hr I.env0 bd r h) fun res s' hq => ?_)
  cases res with
  | error e => exact hq.elim
  | ok fl =>
    cases fl with
    | ret u => exact I.after hq
    | next => exact False.elim hq
    | brk => exact False.elim hq
    | cont => exact False.elim hq
theorem g_call {X : Cx} {k k' np : Nat} {x : Str} {ps : List Str} {g : GM} {io : List Bool} {ma : AM} {e : Expr} {es : List Expr} {p pos : Pos} (h : KnG X.prog X.w X.K X.mg X.base k x ps (spOf X.K np g)) (hr : Rm k' X.A) (hk : k ≤ k') (hg : Gl X x) (ha : PA X (e :: es) (tA X.K ma)) (hio : io.length = np := by rfl)
    (hdb : (x == ("__debug__" : Str)) = false := by decide) (he : starEach (e :: es) X.env = (false, eval e X.env) :: starEach es X.env := by rfl) (hpl : (backTo pos (starEach es X.env)).any (·.1) = false := by rfl) : PE X (.Call (.Name x p) (e :: es) [] pos) (tE X.K (mCall io g ma)) := by
  obtain ⟨f, fd, hm, hkp, hbi, F⟩ := h.ex
  refine ⟨fun pins s σ H Q I q => ?_⟩
  have q2 := tE_call hio q
  refine wpAny_Call_Name_kw (ld_glob I hg hm ?_ hdb)
  refine PySem.W.callWith_K (h₀ := X.base) I.ok.mod.kin hkp (thn (ha.run pos pins s σ H _ I q2) fun us s1 ⟨vs, H1, I1, r, q3⟩ => ⟨I1.kIn, ?_⟩) he hpl
  have q3 : spOf X.K np g (vs ++ []) H1 Q E0 := q3
  rw [List.append_nil] at q3
  exact runG (F.mono hk) hr hbi I1 r q3
end

/-! ### the law's def at its script, the guards known -/
section
variable {P : Program} {w : World} {K : PySem.W.Frag} {mg mb : Str → Option Value} {k : Nat} {fA a : Addr} {fd : FuncData} {x : Str} {sp : Sp} {s : Shared} {vs : List Value} {ns : List Int}
abbrev LawEnd (s : Shared) (r : Result) (s' : Shared) : Prop := r = .ok (.ret (.bool true)) ∧ OldK s.heap s'.heap ∧ s'.os = s.os ∧ AllBare s'.gens
theorem top_core {H : Hp} (inK : K.In s.heap) (n1 : s.heap.Ns mainGlobals mg) (n2 : s.heap.Ns builtinsNs mb) (bb : ∀ y : Str, y ≠ "__name__" → mb y = bootBuiltins y) (nl : s.heap.NoLimit) (g0 : s.gens = #[])
    (ea : s.heap.get? a = some { cls := .type "list", data := .seq vs.toArray }) (hr : Rm k callerA) (F : ∀ base : Heap, K.In base → base.Ns mainGlobals mg → FnG P w K mg base CX0 k fA fd [x] sp) (bd : ∀ (s : Shared) (u : Value), BindsTo s fd ⟨[u], []⟩ [(x, u)])
    (h0 : sp [.ref a] H (fun v _ => v = .bl true) fun _ _ _ => False) (hO : Only H) (hok : HOk P w H s.heap) (hA : ∀ b, H b ≠ none → b = a) (hK : H a ≠ none → K.lookup a = none) : codeAny (model P w) callerA (.call (.ref fA) ⟨[.ref a], []⟩) (LawEnd s) s := by
  have untr : ∀ {b : Addr} {o : Obj}, s.heap.get? b = some o → (b = a → o.data ≠ .seq vs.toArray → False) → (b = a → False) → H b = none := fun {b o} _ _ no => by
    by_cases z : H b = none
    · exact z
    · exact (no (hA b z)).elim
  have dictN : ∀ {b : Addr} {o : Obj} {es : Array DictEntry} {ep : Nat}, s.heap.get? b = some o → o.data = .dict es ep → H b = none := fun {b o es ep} e d => by
    refine untr e (fun _ _ => ?_) fun eb => ?_
    · rename_i eb ne
      subst eb
      rw [ea] at e
      cases e
      exact ne rfl
    · subst eb
      rw [ea] at e
      cases e
      have d2 : Data.seq vs.toArray _ = Data.dict es ep := d
      cases d2
  have ns2 : ∀ {b : Addr} {m : Str → Option Value}, s.heap.Ns b m → (hidT s.heap H).Ns b m := by
    rintro b m ⟨o, es, ep, e, d, r⟩
    exact ⟨o, es, ep, hidT_get e (dictN e d), d, r⟩
  have inB : K.In (hidT s.heap H) := by
    intro b o e
    refine hidT_get (inK b o e) ?_
    by_cases z : H b = none
    · exact z
    · have eb := hA b z
      subst eb
      rw [hK z] at e
      cases e
  obtain ⟨mc, l1, l2⟩ := nl
  have md : Mod K mg (hidT s.heap H) := ⟨inB, ns2 n1, ⟨mb, ns2 n2, bb⟩, ⟨mc, ns2 l1, l2⟩⟩
  have ev : Env0 P w K mg (hidT s.heap H) callerA [] s H := ⟨rfl, md, fun b o z => of_hidT z, Nat.le_of_eq (hidT_size _ _), trivial, fun b z => absurd (show b ∈ ([] : List Addr) from z) (by simp), hok, .of_eq g0⟩
  refine codeAny_mono ((F _ inB (ns2 n1)).run callerA [] s H ⟨[.ref a], []⟩ [.ref a] [.ref a] _ _ hr ev (bd s (.ref a)) (.cons rfl .nil) h0) fun r s' z => ?_
  match r, z with
  | .error e, z => exact z.elim
  | .ok .next, z => exact z.elim
  | .ok .brk, z => exact z.elim
  | .ok .cont, z => exact z.elim
  | .ok (.ret u), ⟨v, H', os, bare, un, hok2, rv, q⟩ =>
    have q : v = .bl true := q
    subst q
    obtain rfl : u = Value.bool true := rv
    refine ⟨rfl, OldK.of_keep fun b o e => ?_, os, bare⟩
    cases z : H b with
    | none => exact un.keep b o e z (fun y => absurd (show b ∈ ([] : List Addr) from y) (by simp)) (by simp)
    | some t =>
      rcases hO b with y | ⟨ob, xs, y⟩
      · rw [z] at y; cases y
      · obtain ⟨e1, _⟩ := hok b _ y
        obtain ⟨e2, _⟩ := hok2 b _ (un.frzs b ob _ y)
        rw [e] at e1
        cases e1
        exact e2
theorem top_call (inK : K.In s.heap) (n1 : s.heap.Ns mainGlobals mg) (n2 : s.heap.Ns builtinsNs mb) (bb : ∀ y : Str, y ≠ "__name__" → mb y = bootBuiltins y) (nl : s.heap.NoLimit) (g0 : s.gens = #[])
    (ea : s.heap.get? a = some { cls := .type "list", data := .seq vs.toArray }) (hi : IntsAre vs ns) (hl : ns.length ≤ sizeLine) (hr : Rm k callerA) (F : ∀ base : Heap, K.In base → base.Ns mainGlobals mg → FnG P w K mg base CX0 k fA fd [x] sp) (bd : ∀ (s : Shared) (u : Value), BindsTo s fd ⟨[u], []⟩ [(x, u)])
    (h0 : ∀ H : Hp, Only H → SqL K H a (ns.map V.int) → sp [.ref a] H (fun v _ => v = .bl true) fun _ _ _ => False) : codeAny (model P w) callerA (.call (.ref fA) ⟨[.ref a], []⟩) (LawEnd s) s := by
  have rv := vals_ints hi
  have len := hi.length
  by_cases hk : ∃ o, K.lookup a = some o
  · obtain ⟨o, hk⟩ := hk
    have e := inK a o hk
    rw [ea] at e
    cases e
    have sq : SqL K (fun _ => none) a (ns.map V.int) := .inr ⟨_, vs.toArray, _, hk, rfl, rfl, rfl, by rw [List.size_toArray, len]; exact hl, by simpa using rv⟩
    exact top_core inK n1 n2 bb nl g0 ea hr F bd (h0 _ (fun _ => .inl rfl) sq) (fun _ => .inl rfl) (fun b u z => by have z2 : (none : Option HO) = some u := z; cases z2) (fun b z => absurd rfl z) fun z => absurd rfl z
  · have hk : K.lookup a = none := by
      cases z : K.lookup a with
      | none => rfl
      | some o => exact absurd ⟨o, z⟩ hk
    let Hs : Hp := fun b => if b = a then some (.frz { cls := .type "list", data := .seq vs.toArray } (.lst (ns.map V.int))) else none
    have at1 : Hs a = some (.frz { cls := .type "list", data := .seq vs.toArray } (.lst (ns.map V.int))) := if_pos rfl
    have at2 : ∀ {b : Addr}, b ≠ a → Hs b = none := fun {b} n => if_neg n
    have on : Only Hs := fun b => by
      by_cases eb : b = a
      · subst eb; exact .inr ⟨_, _, at1⟩
      · exact .inl (at2 eb)
    refine top_core (H := Hs) inK n1 n2 bb nl g0 ea hr F bd (h0 Hs on (.inl (.inr ⟨_, at1⟩))) on (fun b u z => ?_) (fun b z => ?_) fun _ => hk
    · by_cases eb : b = a
      · subst eb
        rw [at1] at z
        cases z
        exact ⟨ea, by rw [List.length_map]; exact hl, vs, _, rv, ea⟩
      · rw [at2 eb] at z; cases z
    · by_cases eb : b = a
      · exact eb
      · exact absurd (at2 eb) z
end
theorem walkG {l : PySem.W.OpenLaw} {n k : Nat} {q : Program} {loose : List Str} {XP : (Str → Option Value) → Heap → Prop} {YP : World → Heap → Prop} {d : DefRec} {x : Str} (hn : l.most = some n) (h2 : n ≤ sizeLine) (h3 : d.params.defaults = []) (hr : Rm k callerA)
    (F : ∀ (w : World) (mg : Str → Option Value) (fA : Addr) (h : Heap), YP w h → h.Ns mainGlobals mg → mg d.name = some (.ref fA) → ∃ (K : PySem.W.Frag) (fd : FuncData) (sp : Sp), K.In h ∧ (∀ (s : Shared) (u : Value), BindsTo s fd ⟨[u], []⟩ [(x, u)]) ∧
      (∀ (H : Hp) (a : Addr) (ns : List Int), ns.length ≤ n → Only H → SqL K H a (ns.map V.int) → sp [.ref a] H (fun v _ => v = .bl true) fun _ _ _ => False) ∧ ∀ base : Heap, K.In base → base.Ns mainGlobals mg → FnG l.prog w K mg base CX0 k fA fd [x] sp) :
    PySem.W.WalkO q loose XP YP l.row.toRowW d [] (fun f vs => PySem.call f vs) := by
  refine Att.attach_call hn h3 fun w s0 s1 mg mb fA o pm cd doc a vs ns G Y ho hd hcd hmg hobj hints hlen hg => ?_
  obtain ⟨K, fd, sp, KX, hb, h0, hF⟩ := F w mg fA _ Y G.T.g hmg
  exact top_call KX G.T.g G.T.b G.T.builtins G.T.nolimit hg hobj hints (Nat.le_trans hlen h2) hr hF hb fun H hO hS => h0 H a ns hlen hO hS
theorem topG {fa : List He.Fa} {fn : List He.DefD} {K : PySem.W.Frag} {mg : Str → Option Value} {P : Program} {w : World} (W : Wo fa fn K mg) (i j : Nat) {N : List Str} {d : He.DefD} {k : Nat} {m : XM} {x f0 : Str} (hd : fn[i]? = some d) (hx : d.at_ = (f0, none)) (hf : fa[j]? = some (.glo f0)) (pl : Plain d [x]) (S : FnScope N [x] d.scope) {fA : Addr} (hfa : mg f0 = some (.ref fA))
    (hb : ∀ (base : Heap) (f : Addr) (cdv : Value) (A : Around) (outer : List Env) (s : Shared) (H : Hp) (E : XK), Rm k (cxN P w K mg base N d f cdv A outer s H E).A → PSs (cxN P w K mg base N d f cdv A outer s H E) d.body (tS K (ios [false]) m)) :
    ∃ fd : FuncData, (∀ (s : Shared) (v : Value), BindsTo s fd ⟨[v], []⟩ [(x, v)]) ∧ ∀ base : Heap, K.In base → base.Ns mainGlobals mg → FnG P w K mg base CX0 (k + 1) fA fd [x] (spOf K 1 (semF [false] N.length m)) := by
  obtain ⟨h, X, G, c⟩ := W
  obtain ⟨fd, F⟩ := c.def_ i hd
  have g := He.glo_ok X G (c.fact j hf)
  have eD : d.dvs K = [] := by unfold He.DefD.dvs; rw [pl.1]; rfl
  have eA : He.fAd K d.at_ = He.ga K f0 := by rw [hx]; rfl
  have e := hfa.symm.trans g
  cases e
  rw [eD, eA] at F
  exact ⟨fd, fun s v => FunD.bindsA F pl.2.2 s [v] rfl, fun base _ _ => defG F S (hb base)⟩

/-! ### repr(x), x any data without dicts -/
def reprG : List D → Option C
  | [d] => if SeqAt.shaped d = true ∧ PyData.showable d = true ∧ d.shown.length ≤ sizeLine then some (.sh (.str d.shown)) else none
  | _ => none
section
variable {X : Cx}
theorem reprG_ok {k : Nat} (hr : Rm k X.A) : ∃ r, CallR X (.builtin "repr") r ∧ FnB X.K reprG r := by
  refine ⟨fun xs H Q => ∃ x d, xs = [x] ∧ Dp X.K H x d ∧ SeqAt.shaped d = true ∧ PyData.showable d = true ∧ d.shown.length ≤ sizeLine ∧ Q (.str d.shown) H, ?_, fun F H vs ds c Q s hrb he q => ?_⟩
  · rintro pins s σ H xs us Q I r ⟨x, d, rfl, dp, hs, hw, hz, q⟩
    obtain ⟨u, rfl, ru⟩ := vals1 r
    obtain ⟨as, rd⟩ := Dp.reads I d x u dp ru
    have fin : ∀ (t tk : Tok), EP X pins σ Q (.str d.shown t) { s with toks := tk } := fun t tk => ⟨.str d.shown, H, I.tok tk, ⟨t, rfl⟩, q⟩
    have big : ∀ {a : Addr}, Reads s.heap (.ref a) d as → wpAny (model X.prog X.w) X.A (call (.builtin "repr") [.ref a]) (EP X pins σ Q) X.xe s := fun {a} rd => by
      have hd := SeqAt.depth_of_shaped hs
      have hu := hr.un
      exact repr_of_reads' rd hw (PyData.noDict_hsm (PyData.hasDict_of_canLay d (SeqAt.canLay_of_shaped hs))) hr.gd (by omega) (fun _ _ e => e) (fun h' u tk hk => ⟨.str d.shown, H, I.kept (h' := h') (t' := tk) hk, ⟨u, rfl⟩, q⟩) hz
    cases rd with
    | none => exact PySem.P.repr_of_none (by have := fin s.toks (s.toks + 1); simp only [PyData.shown] at this; exact this)
    | bool b => exact PySem.P.repr_of_bool (by have := fin s.toks (s.toks + 1); simp only [PyData.shown] at this; exact this)
    | int i t => exact PySem.P.repr_of_int (by simpa [PyData.showable] using hw) (by have := fin s.toks (s.toks + 1); simp only [PyData.shown] at this; exact this)
    | str z t => exact PySem.P.repr_of_str (by have := fin s.toks (s.toks + 1); simp only [PyData.shown] at this; exact this) (by simpa only [PyData.shown] using hz)
    | list h1 h2 h3 h4 => exact big (.list h1 h2 h3 h4)
    | tuple h1 h2 h3 h4 => exact big (.tuple h1 h2 h3 h4)
    | dict h1 h2 h3 h4 h5 => exact big (.dict h1 h2 h3 h4 h5)
  · match ds, he, hrb with
    | [d], he, hrb =>
      simp only [reprG] at he
      split at he
      · rename_i h
        cases he
        obtain ⟨x, rfl, h1⟩ := hrb.one
        exact ⟨x, d, rfl, rb_dp s h1 (SeqAt.canLay_of_shaped h.1), h.1, h.2.1, h.2.2, g_str s q⟩
      · cases he
theorem x_repr {k : Nat} {e : Expr} {es : List Expr} {mr : AM} {p pos : Pos} (hm : X.mg "repr" = none) (hr : Rm k X.A) (hg : Gl X "repr") (ha : PA X (e :: es) (tA X.K mr)) (he : starEach (e :: es) X.env = (false, eval e X.env) :: starEach es X.env := by rfl) (hpl : (backTo pos (starEach es X.env)).any (·.1) = false := by rfl) :
    PE X (.Call (.Name "repr" p) (e :: es) [] pos) (tE X.K (mOp reprG mr)) :=
  let ⟨_, h1, h2⟩ := reprG_ok hr
  me_callB h1 h2 hg hm boot_repr ha (by decide) (by decide) he hpl
theorem g_call0 {k k' np : Nat} {x : Str} {ps : List Str} {g : GM} {io : List Bool} {p pos : Pos} (h : KnG X.prog X.w X.K X.mg X.base k x ps (spOf X.K np g)) (hr : Rm k' X.A) (hk : k ≤ k') (hg : Gl X x) (hio : io.length = np := by rfl)
    (hdb : (x == ("__debug__" : Str)) = false := by decide) : PE X (.Call (.Name x p) [] [] pos) (tE X.K (mCall io g mNil)) := by
  obtain ⟨f, fd, hm, hkp, hbi, F⟩ := h.ex
  refine ⟨fun pins s σ H Q I q => ?_⟩
  have q2 := tE_call hio q
  obtain ⟨F0, ε, os, ε', o, e, q3⟩ := q2
  cases e
  have q4 : spOf X.K np g ([] ++ []) H Q E0 := q3 [] F0 H (Stp.refl o) .nil
  rw [List.append_nil] at q4
  refine wpAny_Call_Name_kw (ld_glob I hg hm ?_ hdb)
  exact PySem.W.callWith_K0 I.kIn hkp (runG (us := []) (F.mono hk) hr hbi I .nil q4)
end
end L2.M


/-! Comprehensions whose element is a plain function of the item. -/
namespace L2.M
open PySem PySem.Spec PyProof.Rows
theorem same0 (ε0 ε : Cs) : sameC [] ε0 ε := fun i h => by cases h
theorem lcL_map {i : Nat} {m : EM} {e : PyData → PyData} {ε0 ε : Cs} (hi : ε[i]? = some .no) : ∀ (ds : List PyData) (n : Nat), (∀ d ∈ ds, m (ε.set i (.sh d)) = some (.sh (e d), ε.set i (.sh d))) → n + ds.length ≤ sizeLine → lcL [] ε0 (bNm i) mYes m [i] ds n ε = some (ds.map e, ε)
  | [], n, _, _ => by
    unfold lcL
    rw [if_pos (same0 _ _)]
    rfl
  | d :: ds, n, h, hn => by
    have hl : i < ε.length := (List.getElem?_eq_some_iff.mp hi).1
    have back : (ε.set i (.sh d)).set i .no = ε := by
      rw [List.set_set]
      apply List.ext_getElem?
      intro j
      by_cases ej : i = j
      · subst ej; rw [List.getElem?_set_self hl, hi]
      · rw [List.getElem?_set_ne ej]
    have hd := h d List.mem_cons_self
    have ih := lcL_map (e := e) (ε0 := ε0) hi ds (n + 1) (fun d hd => h d (List.mem_cons_of_mem _ hd)) (by simp only [List.length_cons] at hn; omega)
    have hn2 : n < sizeLine := by simp only [List.length_cons] at hn; omega
    unfold lcL
    rw [if_pos (same0 _ _)]
    simp only [bNm, hl, if_true, Option.bind_eq_bind, Option.bind_some, mYes, hd, cD, hn2, wipeC, back, ih, List.map_cons]
/-- the whole comprehension -/
theorem mLc_map {i : Nat} {src : SM} {m : EM} {e : PyData → PyData} {ε ε1 : Cs} {ds : List PyData} {c0 : C} (hs : src ε = some ((ds, []), ε1)) (h1 : ε1[i]? = some c0) (h : ∀ d ∈ ds, m (ε1.set i (.sh d)) = some (.sh (e d), ε1.set i (.sh d))) (hn : ds.length ≤ sizeLine) :
    mLc src (bNm i) mYes m [i] ε = some (.ls (ds.map e), ε1) := by
  have hl : i < ε1.length := (List.getElem?_eq_some_iff.mp h1).1
  have sets : ∀ d, (ε1.set i C.no).set i (.sh d) = ε1.set i (.sh d) := fun d => List.set_set ..
  have k := lcL_map (e := e) (ε0 := ε1) (ε := ε1.set i .no) (i := i) (m := m) (by rw [List.getElem?_set_self hl]) ds 0 (fun d hd => by rw [sets]; exact h d hd) (by omega)
  have back : (ε1.set i C.no).set i c0 = ε1 := by
    rw [List.set_set]
    apply List.ext_getElem?
    intro j
    by_cases ej : i = j
    · subst ej; rw [List.getElem?_set_self hl, h1]
    · rw [List.getElem?_set_ne ej]
  unfold mLc
  simp only [hs, Option.bind_eq_bind, Option.bind_some, List.all_nil, if_true, wipeC, k, restC, h1, back]
theorem bools_map (f : PyData → Bool) : ∀ ds : List PyData, boolsOf (ds.map fun d => PyData.bool (f d)) = some (ds.map f)
  | [] => rfl
  | d :: ds => by
    simp only [List.map_cons, boolsOf, bools_map f ds, Option.map_some]
theorem ints_map (f : PyData → Int) : ∀ ds : List PyData, intsOf (ds.map fun d => PyData.int (f d)) = some (ds.map f)
  | [] => rfl
  | d :: ds => by
    simp only [List.map_cons, intsOf, ints_map f ds, Option.map_some]
theorem ints_all : ∀ ns : List Int, intsOf (ns.map PyData.int) = some ns
  | [] => rfl
  | d :: ds => by
    simp only [List.map_cons, intsOf, ints_all ds, Option.map_some]
end L2.M

/-! zip and enumerate over lists and tuples, in any mixture; {i: j}. -/
namespace L2.M
open PySem PySem.Spec PyProof.Rows

inductive Sk where
  | l | t
def SqX : Sk → PySem.W.Frag → Hp → Addr → List V → Prop
  | .l => SqL
  | .t => SqT
def itX : Sk → Heap → Addr → Addr → Nat → Prop
  | .l => fun h it a i => h.IsListIter it a i
  | .t => fun h it a i => h.IsTupleIter it a i
def isX : Sk → Heap → Addr → Array Value → Prop
  | .l => fun h a xs => h.IsList a xs
  | .t => fun h a xs => h.IsTuple a xs
def newX : Sk → Addr → Obj
  | .l => fun a => { cls := .type "list_iterator", data := .fields #[.ref a, .int 0 0] }
  | .t => fun a => { cls := .type "tuple_iterator", data := .fields #[.ref a, .int 0 0] }
theorem begX : ∀ (k : Sk) (a : Addr) (xs : Array Value), Begins (.ref a) (newX k a) fun h => isX k h a xs
  | .l, a, xs => begins_list a xs
  | .t, a, xs => begins_tuple a xs
theorem drwX {prog : Program} {w : World} {A : Around} (hh : A.handled = none) (it a : Addr) (ne : a ≠ it) (xs : Array Value) : ∀ k : Sk, Draws prog w A it [it, a] xs.size (fun i v => xs[i]? = some v) fun i h => itX k h it a i ∧ isX k h a xs
  | .l => .list hh it a ne xs
  | .t => .tuple hh it a ne xs
theorem itX.new {k : Sk} {h : Heap} {it a : Addr} (g : h.get? it = some (newX k a)) : itX k h it a 0 := by
  cases k <;> exact ⟨_, g, rfl, rfl⟩
theorem itX.at {k : Sk} {h h' : Heap} {it a : Addr} {i : Nat} (g : itX k h it a i) (e : ∀ o, h.get? it = some o → h'.get? it = some o) : itX k h' it a i := by
  cases k
  · exact Heap.IsListIter.at g e
  · exact Heap.IsTupleIter.at g e
theorem itX.obj {k : Sk} {h : Heap} {it a : Addr} {i : Nat} (g : itX k h it a i) : ∃ o, h.get? it = some o ∧ ∀ v, o.data ≠ .cell v := by
  cases k
  · obtain ⟨o, e, _, d⟩ := g
    exact ⟨o, e, fun v q => by rw [d] at q; cases q⟩
  · obtain ⟨o, e, _, d⟩ := g
    exact ⟨o, e, fun v q => by rw [d] at q; cases q⟩
theorem invX {X : Cx} {pins : List (Addr × Obj)} {σ : L2.St} {H : Hp} {s : Shared} (I : Inv X pins σ H s) {k : Sk} {a : Addr} {xs : List V} (h : SqX k X.K H a xs) : ∃ its : List Value, Vals xs its ∧ isX k s.heap a its.toArray ∧ a < s.heap.objs.size := by
  cases k
  · obtain ⟨its, r, p, _⟩ := I.list h
    exact ⟨its, r, p.isList, p.lt⟩
  · obtain ⟨its, r, p, _⟩ := I.tuple h
    obtain ⟨o, ho, _⟩ := id p
    exact ⟨its, r, p, Heap.lt_size ho⟩
theorem injX {X : Cx} {pins : List (Addr × Obj)} {σ : L2.St} {H : Hp} {s : Shared} (I : Inv X pins σ H s) {k : Sk} {a : Addr} {xs ys : List V} (h : SqX k X.K H a xs) (g : SqX k X.K H a ys) : xs = ys := by
  cases k
  · exact I.list_inj h g
  · exact I.tuple_inj h g
theorem updX {k : Sk} {K : PySem.W.Frag} {H : Hp} {a p : Addr} {u : HO} {xs : List V} (hp : H p = none) (h : SqX k K H a xs) : SqX k K (upd H p u) a xs := by
  have e : Same H (upd H p u) := fun b x q => by rw [upd_ne (ne_of_none q hp)]; exact q
  cases k
  · exact sameL e h
  · exact sameT e h

/-! ### zip(a, b) -/
def ItzX (K : PySem.W.Frag) (k l : Sk) (a b : Addr) : It :=
  ⟨fun i H => ∃ xs ys x y, SqX k K H a xs ∧ SqX l K H b ys ∧ xs[i]? = some x ∧ ys[i]? = some y,
   fun i H v H' => ∃ T x y, v = .ref T ∧ H T = none ∧ H' = upd H T (.tup [x, y]) ∧ (∀ xs, SqX k K H a xs → xs[i]? = some x) ∧ (∀ ys, SqX l K H b ys → ys[i]? = some y),
   fun i H => ∃ xs ys, SqX k K H a xs ∧ SqX l K H b ys ∧ i = min xs.length ys.length⟩
theorem five {P : Addr → Prop} {a b c d e : Addr} (ha : P a) (hb : P b) (hc : P c) (hd : P d) (he : P e) : ∀ x ∈ [a, b, c, d, e], P x := by
  simp only [List.forall_mem_cons]
  exact ⟨ha, hb, hc, hd, he, fun x h => (by cases h)⟩
theorem turnX {P : Program} {w : World} {K : PySem.W.Frag} {elts : List Expr} {kk : Nat} {tpos : Pos} {k l : Sk} {a b z TI TO p q : Addr} (S : ZipSep2 z TI TO p q [p, a] [q, b]) (na : a ≠ p) (nb : b ≠ q) :
    Turn P w K (.Tuple elts kk tpos) (ItzX K k l a b) [z, TI, TO, p, q] z (fun i h => IsZip h z TI TO .none ∧ IsTupOf2 h TI (.ref p) (.ref q) ∧ (∃ x y, IsTupOf2 h TO x y) ∧ itX k h p a i ∧ itX l h q b i) where
  mem := List.mem_cons_self
  obj := fun i h ⟨hz, hI, ⟨x, y, hO⟩, g1, g2⟩ => five ⟨_, hz, fun v e => nomatch e⟩ ⟨_, hI, fun v e => nomatch e⟩ ⟨_, hO, fun v e => nomatch e⟩ g1.obj g2.obj
  keep := fun i h h' ⟨hz, hI, ⟨x, y, hO⟩, g1, g2⟩ kp => ⟨kp z (by simp) _ hz, kp TI (by simp) _ hI, ⟨x, y, kp TO (by simp) _ hO⟩, g1.at fun o e => kp p (by simp) o e, g2.at fun o e => kp q (by simp) o e⟩
  item := by
    rintro X rfl rfl rfl calm i pins s σ H E I fresh ⟨hz, hI, ⟨x0, y0, hO⟩, g1, g2⟩ ⟨xs, ys, x, y, sx, sy, hx, hy⟩
    obtain ⟨us, rx, ix, la⟩ := invX I sx
    obtain ⟨vs, ry, iy, lb⟩ := invX I sy
    obtain ⟨u, hu, ru⟩ := rx.get hx
    obtain ⟨v, hv, rv⟩ := ry.get hy
    have lu : i < us.toArray.size := by simpa using (List.getElem?_eq_some_iff.mp hu).1
    have lv : i < vs.toArray.size := by simpa using (List.getElem?_eq_some_iff.mp hv).1
    have hh := I.ok.hd calm
    refine wpAny_pyNext_zipD2_item S (drwX (A := X.A.in1) hh p a na us.toArray k) (drwX (A := X.A.in1) hh q b nb vs.toArray l) hz hI hO ⟨g1, ix⟩ ⟨g2, iy⟩ lu lv fun c1 c2 h1 tk e1 e2 z1 o1 n1 n2 t1 sz kp => ?_
    have e1 : u = c1 := by
      have : us.toArray[i]? = some u := by simpa using hu
      rw [this] at e1
      exact Option.some.inj e1
    have e2 : v = c2 := by
      have : vs.toArray[i]? = some v := by simpa using hv
      rw [this] at e2
      exact Option.some.inj e2
    subst e1 e2
    refine ⟨_, rfl, wpAny_letOwnedTupleGo_zip (s := { s with heap := h1, toks := tk }) z1 fun h2 z2 sb => ?_⟩
    have lz : z < s.heap.objs.size := Heap.lt_size hz
    have lt : ∀ c ∈ [z, TI, TO, p, q], c < s.heap.objs.size := by
      refine five lz (Heap.lt_size hI) (Heap.lt_size hO) ?_ ?_
      · obtain ⟨_, e, _⟩ := g1.obj
        exact Heap.lt_size e
      · obtain ⟨_, e, _⟩ := g2.obj
        exact Heap.lt_size e
    have tT : h2.get? s.heap.objs.size = some { cls := .type "tuple", data := .seq #[u, v] } := (sb.2 _ (Nat.ne_of_gt lz)).trans t1
    have laid : ObjOk X.prog X.w (upd H s.heap.objs.size (.tup [x, y])) h2 s.heap.objs.size (.tup [x, y]) :=
      ⟨show 2 ≤ sizeLine by decide, [u, v], .cons ru (.cons rv .nil), ⟨_, tT, rfl, _, rfl⟩⟩
    have kept : ∀ (c : Addr) (o : Obj), c ∉ [z, TI, TO, p, q] → s.heap.get? c = some o → h2.get? c = some o := by
      intro c o nc e
      simp only [List.mem_cons, List.not_mem_nil, or_false, not_or] at nc
      exact (sb.2 c nc.1).trans (kp c o nc.1 nc.2.2.1 nc.2.2.2.1 nc.2.2.2.2 e)
    refine ⟨.ref s.heap.objs.size, _, I.turnedNew (t' := tk) (ch := [z, TI, TO, p, q]) kept fresh (Nat.le_refl _) laid, rfl, ⟨_, x, y, rfl, I.hok.fresh (Nat.le_refl _), rfl, fun zs e => by rw [injX I e sx]; exact hx, fun zs e => by rw [injX I e sy]; exact hy⟩, ⟨z2, ?_, ⟨u, v, ?_⟩, ?_, ?_⟩, fun c hc => ?_⟩
    · exact (sb.2 TI S.TIz).trans (kp TI _ S.TIz S.TITO S.TIi1 S.TIi2 hI)
    · exact (sb.2 TO S.TOz).trans o1
    · exact n1.1.at fun o e => (sb.2 p (fun e => S.zf1 (by rw [e]; simp))).trans e
    · exact n2.1.at fun o e => (sb.2 q (fun e => S.zf2 (by rw [e]; simp))).trans e
    · rw [upd_ne (Nat.ne_of_lt (lt c hc))]
      exact (fresh c hc).1
  done := by
    rintro X rfl rfl rfl calm i pins s σ H E I fresh ⟨hz, hI, ⟨x0, y0, hO⟩, g1, g2⟩ ⟨xs, ys, sx, sy, he⟩
    obtain ⟨us, rx, ix, la⟩ := invX I sx
    obtain ⟨vs, ry, iy, lb⟩ := invX I sy
    have hh := I.ok.hd calm
    have l1 := rx.length
    have l2 := ry.length
    refine wpAny_pyNext_zipD2_end S (drwX (A := X.A.in1) hh p a na us.toArray k) (drwX (A := X.A.in1) hh q b nb vs.toArray l) hz hI hO ⟨g1, ix⟩ ⟨g2, iy⟩ (by simp; omega) (by simp; omega) (by simp; omega) fun h1 tk kp => ⟨rfl, I.turnedL (t' := tk) (ch := [z, TI, TO, p, q]) (fun c o nc e => ?_) fresh⟩
    simp only [List.mem_cons, List.not_mem_nil, or_false, not_or] at nc
    exact kp c o nc.1 nc.2.2.1 nc.2.2.2.1 nc.2.2.2.2 e
  self := fun A i s Q E ⟨hz, _⟩ h => wpAny_pyIter_zip hz h
def iZipX (K : PySem.W.Frag) (ta : TA) : TI := fun σ H R => ta σ H fun vs H1 => ∃ k l a b xs ys, vs = [.ref a, .ref b] ∧ SqX k K H1 a xs ∧ SqX l K H1 b ys ∧ R (ItzX K k l a b) H1
theorem pi_zipX {X : Cx} {e f : Expr} {ta : TA} {p pos tpos : Pos} {elts : List Expr} {kk : Nat} (hg : Gl X "zip") (hm : X.mg "zip" = none) (ha : PA X [e, f] ta)
    (hs : starEach [e, f] X.env = (false, eval e X.env) :: starEach [f] X.env) (hpl : (backTo pos (starEach [f] X.env)).any (·.1) = false) :
    PI X (.Tuple elts kk tpos) (.Call (.Name "zip" p) [e, f] [] pos) (iZipX X.K ta) := by
  refine ⟨fun pins s σ H R I h => Call_ (ld_blt I hg hm PyProof.Rows.boot_zip (PyProof.Rows.callWith_type1 (thn (ha.run pos pins s σ H _ I h) fun us s1 ⟨vs, H1, I1, r1, k, l, a, b, xs, ys, ev, sx, sy, q⟩ => ?_) hs hpl))⟩
  subst ev
  rcases r1 with _ | ⟨r, _ | ⟨r', rr⟩⟩
  cases rr
  cases r
  cases r'
  obtain ⟨is, _, ix, la⟩ := invX I1 sx
  obtain ⟨js, _, iy, lb⟩ := invX I1 sy
  refine zip_begins2 (begX k a is.toArray) (begX l b js.toArray) ix iy fun h1 hz hI hO g1 g2 _ kp => wpAny_pyIter_zip hz ?_
  have S := zip_sep2 (N := s1.heap.objs.size) (fp1 := [a]) (fp2 := [b]) (by simpa using la) (by simpa using lb)
  have fresh : ∀ c ∈ [s1.heap.objs.size + 4, s1.heap.objs.size + 2, s1.heap.objs.size + 3, s1.heap.objs.size, s1.heap.objs.size + 1], FpOk X pins H1 c := by
    have one : ∀ c, s1.heap.objs.size ≤ c → FpOk X pins H1 c := fun c hc => I1.fpOk hc (I1.hok.fresh hc)
    exact five (one _ (Nat.le_add_right _ _)) (one _ (Nat.le_add_right _ _)) (one _ (Nat.le_add_right _ _)) (one _ (Nat.le_refl _)) (one _ (Nat.le_add_right _ _))
  exact ⟨_, _, _, _, H1, rfl, I1.kept (t' := s1.toks) kp, turnX (K := X.K) (k := k) (l := l) S (Nat.ne_of_lt la) (Nat.ne_of_lt (Nat.lt_succ_of_lt lb)), ⟨hz, hI, ⟨_, _, hO⟩, itX.new g1, itX.new g2⟩, fresh, q⟩
/-! ### enumerate(a) -/
theorem meets_enumX {v : Value} {o : Obj} {H : Heap → Prop} (B : Begins v o H) : Meets (Builtin.«enumerate.__new__» ⟨[.type "enumerate", v], []⟩) (fun _ R s => H s.heap ∧
      R (.ok (.ret (.ref (s.heap.push o).objs.size))) { s with heap := (s.heap.push o).push { cls := .type "enumerate", data := .fields #[.none, .bool false, .ref s.heap.objs.size, rawInt 0, .none, .none] } }) := .of_wp fun prog w A R s h => by
  obtain ⟨hp, g, d, tk, os⟩ := s
  obtain ⟨h0, h⟩ := h
  have hsub := sub_enumerate
  have begun : ∀ {A' : Around} {E Q : Value → Shared → Prop}, Q (.ref hp.objs.size) ⟨hp.push o, g, d, tk, os⟩ → wpAny (model prog w) A' (pyIter v) Q E ⟨hp, g, d, tk, os⟩ := fun q => B.iter prog w _ _ ⟨hp, g, d, tk, os⟩ _ h0 q
  wp_walk using begun
  refine wpAny_stack_any fun st => wpAny_pure ?_
  split
  · rename_i c _ _ _ _ _
    cases (c == Value.type "enumerate") <;> (wp_walk using begun; exact ⟨_, rfl, h⟩)
  · wp_walk using begun
    exact ⟨_, rfl, h⟩
theorem call_enumX {prog : Program} {w : World} {A : Around} {E : Value → Shared → Prop} {s : Shared} {v : Value} {o : Obj} {H : Heap → Prop} {Q : Value → Shared → Prop} (B : Begins v o H) (h1 : H s.heap)
    (h : ∀ h', IsEnum h' (s.heap.objs.size + 1) s.heap.objs.size 0 .none → h'.get? s.heap.objs.size = some o → (∀ b u, s.heap.get? b = some u → h'.get? b = some u) → Q (.ref (s.heap.objs.size + 1)) { s with heap := h' }) :
    wpAny (model prog w) A (call (.type "enumerate") [v]) Q E s := by
  have hz : (s.heap.push o).objs.size = s.heap.objs.size + 1 := by rw [Heap.size_push]
  have g := Heap.get?_push_size (s.heap.push o) (o := { cls := .type "enumerate", data := .fields #[.none, .bool false, .ref s.heap.objs.size, rawInt 0, .none, .none] }) rfl
  rw [hz] at g
  refine callType_new F.called_enumerate (by decide) (F.typeCall_enumerate_1 _) (F.newCall_enumerate_1 _) (fun obj => F.args_object_init_2 obj _) F.entry_enumerate_new (meets_enumX B) ⟨h1, ?_⟩
  rw [hz]
  exact ⟨⟨_, g, rfl⟩, h _ g (Heap.get?_push_of_some _ (Heap.get?_push_size _ B.free)) fun b u e => Heap.get?_push_of_some _ (Heap.get?_push_of_some _ e)⟩
def IteX (K : PySem.W.Frag) (k : Sk) (a : Addr) : It :=
  ⟨fun i H => ∃ xs x, SqX k K H a xs ∧ xs[i]? = some x,
   fun i H v H' => ∃ T x, v = .ref T ∧ H T = none ∧ H' = upd H T (.tup [.int (i : Nat), x]) ∧ (∀ xs, SqX k K H a xs → xs[i]? = some x),
   fun i H => ∃ xs, SqX k K H a xs ∧ i = xs.length⟩
theorem two {P : Addr → Prop} {a b : Addr} (ha : P a) (hb : P b) : ∀ x ∈ [a, b], P x := by
  simp only [List.forall_mem_cons]
  exact ⟨ha, hb, fun x h => (by cases h)⟩
theorem turnE {P : Program} {w : World} {K : PySem.W.Frag} {elts : List Expr} {kk : Nat} {tpos : Pos} {k : Sk} {a e p : Addr} (ne : e ≠ p) (na : a ≠ p) (nea : e ≠ a) :
    Turn P w K (.Tuple elts kk tpos) (IteX K k a) [e, p] e (fun i h => (∃ old, IsEnum h e p ((i : Nat) : Int) old) ∧ itX k h p a i) where
  mem := List.mem_cons_self
  obj := fun i h ⟨⟨_, he⟩, g⟩ => two ⟨_, he, fun v q => nomatch q⟩ g.obj
  keep := fun i h h' ⟨⟨old, he⟩, g⟩ kp => ⟨⟨old, kp e (by simp) _ he⟩, g.at fun o q => kp p (by simp) o q⟩
  item := by
    rintro X rfl rfl rfl calm i pins s σ H E I fresh ⟨⟨old, he⟩, g⟩ ⟨xs, x, sx, hx⟩
    obtain ⟨us, rx, ix, la⟩ := invX I sx
    obtain ⟨u, hu, ru⟩ := rx.get hx
    have lu : i < us.toArray.size := by simpa using (List.getElem?_eq_some_iff.mp hu).1
    have le : e < s.heap.objs.size := Heap.lt_size he
    have lp : p < s.heap.objs.size := by
      obtain ⟨_, q, _⟩ := g.obj
      exact Heap.lt_size q
    refine wpAny_pyNext_enum_itemD (fp := [p, a]) (drwX (A := X.A.in1) (I.ok.hd calm) p a na us.toArray k) he ⟨g, ix⟩ lu ne (by simp [ne, nea]) fun c h1 tk e1 z1 n1 t1 sz kp => ?_
    have e1 : u = c := by
      have : us.toArray[i]? = some u := by simpa using hu
      rw [this] at e1
      exact Option.some.inj e1
    subst e1
    refine ⟨_, rfl, wpAny_letOwnedTupleGo_enum (s := { s with heap := h1, toks := tk + 1 }) z1 fun h2 z2 sb => ?_⟩
    have tT : h2.get? s.heap.objs.size = some { cls := .type "tuple", data := .seq #[.int i tk, u] } := (sb.2 _ (Nat.ne_of_gt le)).trans t1
    have laid : ObjOk X.prog X.w (upd H s.heap.objs.size (.tup [.int (i : Nat), x])) h2 s.heap.objs.size (.tup [.int (i : Nat), x]) :=
      ⟨show 2 ≤ sizeLine by decide, [.int i tk, u], .cons ⟨_, rfl⟩ (.cons ru .nil), ⟨_, tT, rfl, _, rfl⟩⟩
    have kept : ∀ (c : Addr) (o : Obj), c ∉ [e, p] → s.heap.get? c = some o → h2.get? c = some o := by
      intro c o nc q
      simp only [List.mem_cons, List.not_mem_nil, or_false, not_or] at nc
      exact (sb.2 c nc.1).trans (kp c o nc.1 nc.2 q)
    have es : ((i + 1 : Nat) : Int) = (i : Int) + 1 := by omega
    refine ⟨.ref s.heap.objs.size, _, I.turnedNew (t' := tk + 1) (ch := [e, p]) kept fresh (Nat.le_refl _) laid, rfl, ⟨_, x, rfl, I.hok.fresh (Nat.le_refl _), rfl, fun zs q => by rw [injX I q sx]; exact hx⟩, ⟨⟨u, by rw [es]; exact z2⟩, n1.1.at fun o q => (sb.2 p (Ne.symm ne)).trans q⟩, two ?_ ?_⟩
    · rw [upd_ne (Nat.ne_of_lt le)]
      exact (fresh e (by simp)).1
    · rw [upd_ne (Nat.ne_of_lt lp)]
      exact (fresh p (by simp)).1
  done := by
    rintro X rfl rfl rfl calm i pins s σ H E I fresh ⟨⟨old, he⟩, g⟩ ⟨xs, sx, hx⟩
    obtain ⟨us, rx, ix, la⟩ := invX I sx
    have l1 := rx.length
    have ei : i = us.toArray.size := by simp; omega
    rw [ei] at g
    obtain ⟨f0, f1, f2, f3, f4, f5⟩ := fresh p (by simp)
    exact wpAny_pyNext_enum_endD (drwX (A := X.A.in1) (I.ok.hd calm) p a na us.toArray k) he ⟨g, ix⟩ fun h1 kp => ⟨rfl, I.turned (t' := s.toks) (fun b o nb q => kp b o nb q) f0 f1 f3 f4 f5⟩
  self := fun A i s Q E ⟨⟨_, he⟩, _⟩ h => wpAny_pyIter_enum he h
def iEnumX (K : PySem.W.Frag) (ta : TA) : TI := fun σ H R => ta σ H fun vs H1 => ∃ k a xs, vs = [.ref a] ∧ SqX k K H1 a xs ∧ R (IteX K k a) H1
theorem pi_enumX {X : Cx} {e : Expr} {ta : TA} {p pos tpos : Pos} {elts : List Expr} {kk : Nat} (hg : Gl X "enumerate") (hm : X.mg "enumerate" = none) (ha : PA X [e] ta) (hs : starEach [e] X.env = [(false, eval e X.env)]) :
    PI X (.Tuple elts kk tpos) (.Call (.Name "enumerate" p) [e] [] pos) (iEnumX X.K ta) := by
  refine ⟨fun pins s σ H R I h => Call_ (ld_blt I hg hm boot_enumerate (PyProof.Rows.callWith_type1 (thn (ha.run pos pins s σ H _ I h) fun us s1 ⟨vs, H1, I1, r1, k, a, xs, ev, sx, q⟩ => ?_) hs rfl))⟩
  subst ev
  rcases r1 with _ | ⟨r, rr⟩
  cases rr
  cases r
  obtain ⟨is, _, ix, la⟩ := invX I1 sx
  refine call_enumX (begX k a is.toArray) ix fun h1 he g1 kp => wpAny_pyIter_enum he ?_
  have one : ∀ c, s1.heap.objs.size ≤ c → FpOk X pins H1 c := fun c hc => I1.fpOk hc (I1.hok.fresh hc)
  exact ⟨_, _, _, _, H1, rfl, I1.kept (t' := s1.toks) kp, turnE (K := X.K) (k := k) (Nat.succ_ne_self _) (Nat.ne_of_lt la) (Nat.ne_of_gt (Nat.lt_succ_of_lt la)), ⟨⟨.none, he⟩, itX.new g1⟩, two (one _ (Nat.le_add_right _ _)) (one _ (Nat.le_refl _)), q⟩
/-! ### what is walked, as data -/
def itemsX : D → Option (Sk × List D)
  | .list ds => some (.l, ds)
  | .tuple ds => some (.t, ds)
  | _ => none
theorem opd_X {K : PySem.W.Frag} {F H : Hp} {σ : L2.St} {ε : Cs} {N : Addr → Prop} (o : Ok K F H σ ε) (nw : ∀ a, N a → ¬ Own σ ε a) {v : V} {p : Opd} {d : D} (h : OpsOk K F H σ N [v] [p]) (hb : bor ε p = some d) {k : Sk} {ds : List D} (hx : itemsX d = some (k, ds)) :
    ∃ a, v = .ref a ∧ (∃ vs, SqX k K H a vs) ∧ ∀ F2 H2 σ2 ε2, Ok K F2 H2 σ2 ε2 → Same F F2 → (∀ b u, H b = some u → ¬ Own σ ε b → H2 b = some u) → (∀ i, p = .pl i → σ2[i]? = σ[i]? ∧ ε2[i]? = ε[i]?) → ∃ vs, SqX k K H2 a vs ∧ Reps K F2 vs ds := by
  obtain ⟨h1, h2, _⟩ := opd_seq o nw h hb
  cases d <;> simp only [itemsX, Option.some.injEq, Prod.mk.injEq, reduceCtorEq] at hx
  · obtain ⟨rfl, rfl⟩ := hx
    exact h1 _ rfl
  · obtain ⟨rfl, rfl⟩ := hx
    obtain ⟨a, vs, ev, sx, r⟩ := h2 _ rfl
    refine ⟨a, ev, ⟨vs, sameT o.sub sx⟩, fun F2 H2 σ2 ε2 o2 fm _ _ => ⟨vs, sameT o2.sub (sameT fm sx), Reps.mono fm _ _ r⟩⟩
def zipX : List D → Option (List D)
  | [d, e] => do
    let (_, ds) ← itemsX d
    let (_, es) ← itemsX e
    some (List.zipWith (fun a b => .tuple [a, b]) ds es)
  | _ => none
def enumX : List D → Option (List D)
  | [d] => (itemsX d).map fun p => enumFrom 0 p.2
  | _ => none
theorem walkZX {K : PySem.W.Frag} {k l : Sk} {a b : Addr} {n : Nat} : Walk (ItzX K k l a b) n (fun H => ∃ vs ws, SqX k K H a vs ∧ SqX l K H b ws ∧ n = min vs.length ws.length) (fun i H x H' => ∃ t y z, x = .ref t ∧ H t = none ∧ H' = upd H t (.tup [y, z]) ∧ (∀ vs, SqX k K H a vs → vs[i]? = some y) ∧ ∀ vs, SqX l K H b vs → vs[i]? = some z) := by
  refine ⟨fun i H hi ⟨vs, ws, h, g, hl⟩ => ?_, fun H h => h, fun i H x H' _ _ y => y⟩
  have h1 : i < vs.length := by omega
  have h2 : i < ws.length := by omega
  exact ⟨vs, ws, vs[i], ws[i], h, g, by simp [h1], by simp [h2]⟩
theorem walkEX {K : PySem.W.Frag} {k : Sk} {a : Addr} {n : Nat} : Walk (IteX K k a) n (fun H => ∃ vs, SqX k K H a vs ∧ n = vs.length) (fun i H x H' => ∃ t z, x = .ref t ∧ H t = none ∧ H' = upd H t (.tup [.int (i : Nat), z]) ∧ ∀ vs, SqX k K H a vs → vs[i]? = some z) := by
  refine ⟨fun i H hi ⟨vs, h, hl⟩ => ?_, fun H h => h, fun i H x H' _ _ y => y⟩
  have h1 : i < vs.length := by omega
  exact ⟨vs, vs[i], h, by simp [h1]⟩
section
variable {X : Cx} {e a b : Expr} {p pos : Pos}
theorem mi_zipX {elts : List Expr} {kk : Nat} {tpos : Pos} (hm : X.mg "zip" = none) (hg : Gl X "zip") {m n : OM} (h1 : PE X a (tO X.K m)) (h2 : PE X b (tO X.K n)) (hs : starEach [a, b] X.env = (false, eval a X.env) :: starEach [b] X.env := by rfl) (hs2 : starEach [b] X.env = [(false, eval b X.env)] := by rfl)
    (hpl : (backTo pos (starEach [b] X.env)).any (·.1) = false := by rfl) : PI X (.Tuple elts kk tpos) (.Call (.Name "zip" p) [a, b] [] pos) (tI X.K (mSrc zipX (mCons m (mCons n mNil)))) := by
  refine (pi_zipX hg hm (ma_cons h1 (ma_cons h2 ma_nil hs2) hs) hs hpl).weak fun σ H R q => ?_
  obtain ⟨F, ε, os, ds, out, ε', o, e1, e2, e3, q⟩ := src_parts q
  refine ⟨F, ε, os, ε', o, e1, fun vs F1 H1 s1 r1 => ?_⟩
  match ds, e3, e2 with
  | [d, e], e3, e2 =>
    simp only [zipX] at e3
    cases x1 : itemsX d with
    | none => simp [x1] at e3
    | some kd =>
      obtain ⟨k, ds⟩ := kd
      cases x2 : itemsX e with
      | none => simp [x1, x2] at e3
      | some le =>
        obtain ⟨l, es⟩ := le
        simp [x1, x2] at e3
        subst e3
        obtain ⟨o1, o2, rfl, e4, e5⟩ := bors2 e2
        obtain ⟨x, y, rfl, r2, r3⟩ := opds2 r1
        have nw : ∀ a, H a = none → ¬ Own σ ε' a := fun a z w => o.not_own z (s1.ow w)
        obtain ⟨a1, rfl, ⟨vs, k2⟩, k3⟩ := opd_X s1.ok nw r2 e4 x1
        obtain ⟨b1, rfl, ⟨ws, l2⟩, l3⟩ := opd_X s1.ok nw r3 e5 x2
        refine ⟨k, l, a1, b1, vs, ws, rfl, k2, l2, q F1 H1 _ s1 ?_⟩
        refine ⟨_, _, (walkZX (n := (List.zipWith (fun a b => PyData.tuple [a, b]) ds es).length)), fun F2 H2 σ2 ε2 o2' fm kp st => ?_⟩
        have st1 : ∀ i, o1 = .pl i → σ2[i]? = σ[i]? ∧ ε2[i]? = ε'[i]? := fun i hi => st i (by subst hi; simp [plOf])
        have st2 : ∀ i, o2 = .pl i → σ2[i]? = σ[i]? ∧ ε2[i]? = ε'[i]? := fun i hi => st i (by subst hi; cases o1 <;> simp [plOf])
        obtain ⟨us, g1, g2⟩ := k3 F2 H2 σ2 ε2 o2' fm kp st1
        obtain ⟨ts, g3, g4⟩ := l3 F2 H2 σ2 ε2 o2' fm kp st2
        refine ⟨⟨us, ts, g1, g3, by simp [g2.length, g4.length]⟩, fun i x H3 hi y => ?_⟩
        have hi2 : i < ds.length ∧ i < es.length := by simpa [Nat.lt_min] using hi
        obtain ⟨t, y1, z1, rfl, ht, rfl, hy1, hz1⟩ := y
        have d1 : ds[i]? = some (ds[i]'hi2.1) := List.getElem?_eq_getElem hi2.1
        have d2 : es[i]? = some (es[i]'hi2.2) := List.getElem?_eq_getElem hi2.2
        obtain ⟨w, hw, rw1⟩ := g2.get d1
        obtain ⟨w2, hw2, rw2⟩ := g4.get d2
        rw [hy1 us g1] at hw
        rw [hz1 ts g3] at hw2
        cases hw
        cases hw2
        have gl := Grw.laid (u := .tup [y1, z1]) o2'.sub ht
        refine ⟨_, .tuple [ds[i]'hi2.1, es[i]'hi2.2], by rw [List.getElem?_zipWith, d1, d2], ⟨t, _, rfl, .inl (.inl upd_same), ?_⟩, gl⟩
        exact ⟨_, _, rfl, Rep.mono gl.fm _ _ rw1, _, _, rfl, Rep.mono gl.fm _ _ rw2, rfl⟩
theorem mi_enumX {elts : List Expr} {kk : Nat} {tpos : Pos} (hm : X.mg "enumerate" = none) (hg : Gl X "enumerate") {m : OM} (h : PE X e (tO X.K m)) (hs : starEach [e] X.env = [(false, eval e X.env)] := by rfl) :
    PI X (.Tuple elts kk tpos) (.Call (.Name "enumerate" p) [e] [] pos) (tI X.K (mSrc enumX (mCons m mNil))) := by
  refine (pi_enumX hg hm (ma_cons h ma_nil hs) hs).weak fun σ H R q => ?_
  obtain ⟨F, ε, os, ds, out, ε', o, e1, e2, e3, q⟩ := src_parts q
  refine ⟨F, ε, os, ε', o, e1, fun vs F1 H1 s1 r1 => ?_⟩
  match ds, e3, e2 with
  | [d], e3, e2 =>
    simp only [enumX, Option.map_eq_some_iff] at e3
    obtain ⟨⟨k, ds⟩, x1, rfl⟩ := e3
    obtain ⟨o1, rfl, e4⟩ := bors1 e2
    have nw : ∀ a, H a = none → ¬ Own σ ε' a := fun a z w => o.not_own z (s1.ow w)
    obtain ⟨v, rfl⟩ : ∃ v, vs = [v] := by
      have := r1.len
      match vs, this with
      | [v], _ => exact ⟨v, rfl⟩
    obtain ⟨a1, rfl, ⟨vs, k2⟩, k3⟩ := opd_X s1.ok nw r1 e4 x1
    refine ⟨k, a1, vs, rfl, k2, q F1 H1 _ s1 ?_⟩
    refine ⟨_, _, (walkEX (n := (enumFrom 0 ds).length)), fun F2 H2 σ2 ε2 o2' fm kp st => ?_⟩
    obtain ⟨us, g1, g2⟩ := k3 F2 H2 σ2 ε2 o2' fm kp fun i hi => st i (by subst hi; simp [plOf])
    refine ⟨⟨us, g1, by rw [enum_len, g2.length]⟩, fun i x H3 hi y => ?_⟩
    rw [enum_len] at hi
    obtain ⟨t, z1, rfl, ht, rfl, hz1⟩ := y
    have d1 : ds[i]? = some (ds[i]'hi) := List.getElem?_eq_getElem hi
    obtain ⟨w, hw, rw1⟩ := g2.get d1
    rw [hz1 us g1] at hw
    cases hw
    have gl := Grw.laid (u := .tup [.int (i : Nat), z1]) o2'.sub ht
    refine ⟨_, .tuple [.int (i : Nat), ds[i]'hi], by rw [enum_get, d1]; simp, ⟨t, _, rfl, .inl (.inl upd_same), ?_⟩, gl⟩
    exact ⟨_, _, rfl, rfl, _, _, rfl, Rep.mono gl.fm _ _ rw1, rfl⟩
/-- {i: j} -/
theorem x_dctI {i j : Int} {ki kj : Nat} {pi pj : Pos} : PE X (.Dict [some (.Constant (.int i) ki pi)] [.Constant (.int j) kj pj] pos) (tE X.K (mK (.dict [(.int i, .int j)]))) := (pe_disp (pps_cons pe_int pe_int pps_nil) rfl rfl (by simp) (by simp)).weak fun σ H Q h => by
  obtain ⟨F, ε, c, ε', ok, e, q⟩ := h
  cases e
  intro q1 hq
  refine ⟨upd_same, [(.inl i, .int j)], rfl, by simp, ?_⟩
  obtain ⟨s3, fm3⟩ := (Stp.refl ok).laid (u := .dK [(.inl i, .int j)]) hq
  have e : upd (upd H q1 (.dK [])) q1 (.dK (mergeK [] [(.inl i, .int j)])) = upd H q1 (.dK [(.inl i, .int j)]) := by
    funext b
    by_cases hb : b = q1
    · subst hb; rw [upd_same, upd_same]; rfl
    · rw [upd_ne hb, upd_ne hb, upd_ne hb]
  rw [e]
  exact q _ _ _ ⟨s3, ⟨q1, _, rfl, upd_same, ⟨_, _, _, rfl, rfl, rfl, rfl⟩⟩, fun _ _ z => nomatch z⟩
end
end L2.M

/-! sorted over a list of tuples of numbers and texts, of any length. -/
namespace L2.M
open PySem PySem.Spec PyProof.Rows
abbrev Lk := List (Int ⊕ List Nat)
def dItems (sh : Nat → Bool) : Nat → List D → Option Lk
  | _, [] => some []
  | i, .int n :: r => if sh i = true then none else (dItems sh (i + 1) r).map (Sum.inl n :: ·)
  | i, .str x :: r => if sh i = true then (dItems sh (i + 1) r).map (Sum.inr x.cps.toList :: ·) else none
  | _, _ :: _ => none
def dKey (sh : Nat → Bool) : D → Option Lk
  | .tuple (d :: ds) => dItems sh 0 (d :: ds)
  | _ => none
/-- at which places the first one has texts -/
def shp : List D → Nat → Bool
  | .tuple es :: _ => fun i => match es[i]? with
    | some (.str _) => true
    | _ => false
  | _ => fun _ => false
def kLe (a b : Lk) : Bool := !lexLt itemOrd b a
def tle (sh : Nat → Bool) (d e : D) : Bool := kLe ((dKey sh d).getD []) ((dKey sh e).getD [])
def tsort (ds : List D) : List D := ds.mergeSort (tle (shp ds))
def tups (ds : List D) : Bool := ds.all fun d => (dKey (shp ds) d).isSome
def sortX : List D → Option C
  | [.list ds] => match intsOf ds with
    | some ns => some (.ls ((isort ns).map PyData.int))
    | none => if tups ds then some (.ls (tsort ds)) else none
  | _ => none
theorem cps_inj {x y : Str} (h : x.cps.toList = y.cps.toList) : x = y := by
  cases x; cases y
  simp at h
  rw [h]
theorem dItems_inj {sh : Nat → Bool} : ∀ {ds es : List D} {i : Nat} {k : Lk}, dItems sh i ds = some k → dItems sh i es = some k → ds = es
  | [], es, i, k, h, g => by
    cases h
    cases es with
    | nil => rfl
    | cons e es =>
      cases e <;> simp [dItems] at g
  | d :: ds, es, i, k, h, g => by
    cases es with
    | nil =>
      cases g
      cases d <;> simp [dItems] at h
    | cons e es =>
      cases d <;> cases e <;> simp [dItems] at h g
      · obtain ⟨_, a, h1, rfl⟩ := h
        obtain ⟨_, b, h2, e2⟩ := g
        simp at e2
        obtain ⟨rfl, rfl⟩ := e2
        rw [dItems_inj h1 h2]
      · rw [g.1] at h
        exact absurd h.1 (by simp)
      · rw [g.1] at h
        exact absurd h.1 (by simp)
      · obtain ⟨_, a, h1, rfl⟩ := h
        obtain ⟨_, b, h2, e2⟩ := g
        simp at e2
        obtain ⟨e3, rfl⟩ := e2
        have : dItems sh (i + 1) ds = dItems sh (i + 1) es := by rw [h1, h2]
        rw [dItems_inj h1 h2]
        congr 2
        apply cps_inj
        simp [e3]
theorem dKey_inj {sh : Nat → Bool} {d e : D} {k : Lk} (h : dKey sh d = some k) (g : dKey sh e = some k) : d = e := by
  cases d with
  | tuple ds =>
    cases e with
    | tuple es =>
      cases ds with
      | nil => cases h
      | cons d ds =>
        cases es with
        | nil => cases g
        | cons e es => rw [dItems_inj h g]
    | _ => cases g
  | _ => cases h
theorem kLe_trans {a b c : Lk} (h1 : kLe a b = true) (h2 : kLe b c = true) : kLe a c = true := by
  simp only [kLe, Bool.not_eq_true'] at *
  cases q : lexLt itemOrd c a with
  | false => rfl
  | true =>
    rcases (listOrd itemOrd).negTrans c b a q with h | h
    · exact absurd (h2.symm.trans h) (by decide)
    · exact absurd (h1.symm.trans h) (by decide)
theorem kLe_total (a b : Lk) : (kLe a b || kLe b a) = true := by
  simp only [kLe]
  cases q : lexLt itemOrd b a with
  | false => rfl
  | true =>
    cases q2 : lexLt itemOrd a b with
    | false => rfl
    | true =>
      have := (listOrd itemOrd).trans a b a q2 q
      have i := (listOrd itemOrd).irrefl a
      exact absurd (i.symm.trans this) (by decide)
theorem kLe_anti {a b : Lk} (h1 : kLe a b = true) (h2 : kLe b a = true) : a = b := by
  simp only [kLe, Bool.not_eq_true'] at *
  exact (listOrd itemOrd).total a b h2 h1
theorem tsort_perm (ds : List D) : (tsort ds).Perm ds := List.mergeSort_perm ds _
theorem tsort_sorted (ds : List D) : (tsort ds).Pairwise fun d e => tle (shp ds) d e = true :=
  List.pairwise_mergeSort (le := tle (shp ds)) (fun a b c h1 h2 => kLe_trans h1 h2) (fun a b => kLe_total _ _) ds
theorem tsort_of {ds es : List D} (ht : tups ds = true) (p : es.Perm ds) (s : es.Pairwise fun d e => tle (shp ds) d e = true) : es = tsort ds := by
  refine (p.trans (tsort_perm ds).symm).eq_of_pairwise (le := fun d e => tle (shp ds) d e = true) (fun a b ha hb h1 h2 => ?_) s (tsort_sorted ds)
  have hk : ∀ d ∈ ds, ∃ k, dKey (shp ds) d = some k := fun d hd => Option.isSome_iff_exists.mp (List.all_eq_true.mp ht d hd)
  obtain ⟨k1, e1⟩ := hk a (p.mem_iff.mp ha)
  obtain ⟨k2, e2⟩ := hk b ((tsort_perm ds).mem_iff.mp hb)
  have := kLe_anti h1 h2
  rw [e1, e2] at this
  simp at this
  subst this
  exact dKey_inj e1 e2
/-! ### the rule -/
section
variable {K : PySem.W.Frag} {F H : Hp}
theorem Reps.perm {xs ys : List V} {ds : List D} (h : Reps K F xs ds) (p : ys.Perm xs) : ∃ es, Reps K F ys es ∧ es.Perm ds := by
  induction p generalizing ds with
  | nil => exact ⟨ds, h, List.Perm.refl _⟩
  | cons x p ih =>
    cases ds with
    | nil => cases (show _ :: _ = [] from h)
    | cons d ds =>
      obtain ⟨v, r, e, h1, h2⟩ := h
      cases e
      obtain ⟨es, e1, e2⟩ := ih h2
      exact ⟨d :: es, ⟨_, _, rfl, h1, e1⟩, e2.cons d⟩
  | swap x y l =>
    cases ds with
    | nil => cases (show _ :: _ = [] from h)
    | cons d ds =>
      obtain ⟨v, r, e, h1, h2⟩ := h
      cases e
      cases ds with
      | nil => cases (show _ :: _ = [] from h2)
      | cons d2 ds =>
        obtain ⟨v2, r2, e, h3, h4⟩ := h2
        cases e
        exact ⟨d2 :: d :: ds, ⟨_, _, rfl, h3, _, _, rfl, h1, h4⟩, .swap _ _ _⟩
  | trans p1 p2 ih1 ih2 =>
    obtain ⟨es, e1, e2⟩ := ih2 h
    obtain ⟨es2, e3, e4⟩ := ih1 e1
    exact ⟨es2, e3, e4.trans e2⟩
theorem items_at {sh : Nat → Bool} : ∀ {es : List D} {ws : List V} {its : List Value} {i : Nat} {k : Lk}, Reps K F ws es → Vals ws its → dItems sh i es = some k → tupItems sh i its = some k
  | [], ws, its, i, k, h, r, e => by
    cases (show ws = [] from h)
    cases r
    cases e
    rfl
  | d :: es, ws, its, i, k, h, r, e => by
    obtain ⟨v, rs, rfl, h1, h2⟩ := h
    cases r with
    | cons rv r =>
      cases d with
      | int n =>
        simp only [Rep] at h1
        subst h1
        obtain ⟨t, rfl⟩ := rv
        simp only [dItems] at e
        split at e
        · cases e
        · rename_i hs
          obtain ⟨a, e1, rfl⟩ := Option.map_eq_some_iff.mp e
          have ih := items_at h2 r e1
          simp only [tupItems, if_neg hs, ih, Option.map_some]
      | str x =>
        simp only [Rep] at h1
        subst h1
        obtain ⟨t, rfl⟩ := rv
        simp only [dItems] at e
        split at e
        · rename_i hs
          obtain ⟨a, e1, rfl⟩ := Option.map_eq_some_iff.mp e
          have ih := items_at h2 r e1
          simp only [tupItems, if_pos hs, ih, Option.map_some]
        · cases e
      | _ => simp [dItems] at e
variable {X : Cx} {pins : List (Addr × Obj)} {σ : L2.St} {s : Shared}
theorem key_at (I : Inv X pins σ H s) (sf : Same F H) {sh : Nat → Bool} {v : V} {d : D} {k : Lk} (h : Rep X.K F v d) (e : dKey sh d = some k) : ∃ a f, v = .ref a ∧ G.tupKeyC s.heap sh (.ref a) = some k ∧ TupOf s.heap sh (.ref a) f := by
  cases d with
  | tuple ds =>
    cases ds with
    | nil => cases e
    | cons d ds =>
      obtain ⟨a, vs, rfl, h1, h2⟩ := h
      obtain ⟨its, r, ⟨o, ho, hc, n, hd⟩, _⟩ := I.tuple (sameT sf h1)
      have e1 := items_at h2 r e
      have hI : G.isTupObj s.heap (.ref a) = true := by
        simp only [G.isTupObj, ho, hc]
        rfl
      have hk : tupKey s.heap sh (.ref a) = some k := by
        simp only [tupKey, ho, hd]
        exact e1
      cases its with
      | nil =>
        obtain ⟨v, rs, e2, _⟩ := h2
        subst e2
        cases r
      | cons u its =>
        refine ⟨a, u, rfl, by rw [G.tupKeyC, if_pos hI, hk], a, o, _, n, rfl, ho, hc, hd, rfl, fun hs => ?_, fun hs => ?_⟩
        · cases u with
          | int n t => exact ⟨n, t, rfl⟩
          | str x t => simp [tupItems, hs] at e1
          | _ => simp [tupItems] at e1
        · cases u with
          | int n t => simp [tupItems, hs] at e1
          | str x t => exact ⟨x, t, rfl⟩
          | _ => simp [tupItems] at e1
  | _ => cases e
def rSortG (K : PySem.W.Frag) : List V → Hp → VK → Prop := fun vs H Q => ∃ (F : Hp) (a : Addr) (xs : List V) (ds : List D) (sh : Nat → Bool), vs = [V.ref a] ∧ Same F H ∧ SqL K H a xs ∧ Reps K F xs ds ∧ (∀ d ∈ ds, (dKey sh d).isSome = true) ∧
  ∀ (ys : List V) (es : List D) (p : Addr), Reps K F ys es → es.Perm ds → (es.Pairwise fun d e => tle sh d e = true) → H p = none → Q (.ref p) (upd H p (.lst ys))
theorem keys_at (I : Inv X pins σ H s) (sf : Same F H) {sh : Nat → Bool} : ∀ {ds : List D} {xs : List V} {its : List Value}, Reps X.K F xs ds → Vals xs its → (∀ d ∈ ds, (dKey sh d).isSome = true) →
    (∃ fs, TupsOf s.heap sh its fs) ∧ (∀ v ∈ its, ∃ l, G.tupKeyC s.heap sh v = some l) ∧ ∀ x ∈ xs, ∃ a, x = V.ref a
  | [], xs, its, h, r, _ => by
    cases (show xs = [] from h)
    cases r
    exact ⟨⟨[], .nil⟩, fun v hv => (by cases hv), fun v hv => (by cases hv)⟩
  | d :: ds, xs, its, h, r, hk => by
    obtain ⟨v, rs, rfl, h1, h2⟩ := h
    cases r with
    | cons rv r =>
      obtain ⟨k, e⟩ := Option.isSome_iff_exists.mp (hk d List.mem_cons_self)
      obtain ⟨a, f, rfl, e1, e2⟩ := key_at I sf h1 e
      cases (show _ = Value.ref a from rv)
      obtain ⟨⟨fs, g1⟩, g2, g3⟩ := keys_at I sf h2 r fun d hd => hk d (List.mem_cons_of_mem _ hd)
      refine ⟨⟨f :: fs, .cons e2 g1⟩, fun v hv => ?_, fun x hx => ?_⟩
      · rcases List.mem_cons.mp hv with rfl | hv
        · exact ⟨k, e1⟩
        · exact g2 v hv
      · rcases List.mem_cons.mp hx with rfl | hx
        · exact ⟨a, rfl⟩
        · exact g3 x hx
/-- sorted(xs), xs a list of tuples of numbers and texts -/
theorem cr_sortG : CallR X (.builtin "sorted") (rSortG X.K) := by
  intro pins s σ H vs us Q I r h
  obtain ⟨F, a, xs, ds, sh, rfl, sf, hs, hr, hk, q⟩ := h
  obtain ⟨its, rv, hl, hz⟩ := I.list hs
  rw [Vals.ref1 r]
  obtain ⟨⟨fs, g1⟩, g2, g3⟩ := keys_at I sf hr rv hk
  obtain ⟨e1, e2⟩ := bkV_refs rv g3
  refine G.sorted_tups hl.isList g1 g2 (by rw [← rv.length]; exact hz) fun st' h1 h2 _ => ?_
  obtain ⟨ep, he⟩ := sortedAll_at s.heap its ((arrOf st').map (·.2))
  have pz : ((arrOf st').map (·.2)).toList.Perm its := by
    have := (h1.toList).map (·.2)
    rw [pairsOf_toList] at this
    simpa [List.map_snd_zip] using this
  have h3 : ∀ u ∈ ((arrOf st').map (·.2)).toList, ∃ a, u = Value.ref a := fun u hu => e2 u (pz.mem_iff.mp hu)
  have hp : (((arrOf st').map (·.2)).toList.map bkV).Perm xs := by
    rw [e1]
    exact pz.map bkV
  have hlen : (((arrOf st').map (·.2)).toList.map bkV).length ≤ sizeLine := by
    rw [hp.length_eq]
    exact hz
  obtain ⟨es, r1, r2⟩ := hr.perm hp
  have hes : ∀ d ∈ es, (dKey sh d).isSome = true := fun d hd => hk d (r2.mem_iff.mp hd)
  refine ⟨.ref _, upd H (s.heap.objs.size + 1) (.lst (((arrOf st').map (·.2)).toList.map bkV)), I.laid (t' := s.toks) (fun _ _ => sortedAll_old) (Nat.le_succ _) ⟨hlen, _, ep, bkV_vals h3, he⟩, rfl, q _ es _ r1 r2 ?_ (I.hok.fresh (Nat.le_succ _))⟩
  rw [List.pairwise_iff_getElem]
  intro i j hi hj hij
  have hsz : es.length = (arrOf st').size := by rw [← r1.length]; simp
  have h4 := h2 i j (by omega) (by rw [← h1.size_eq]; omega)
  have key : ∀ (i : Nat) (hi : i < es.length), KK (G.tupKindC s.heap sh) (arrOf st') i = (dKey sh es[i]).getD [] := by
    intro i hi
    have hi2 : i < (arrOf st').size := by omega
    obtain ⟨k, e⟩ := Option.isSome_iff_exists.mp (hes _ (List.getElem_mem hi))
    obtain ⟨v, e3, e4⟩ := r1.get (List.getElem?_eq_getElem hi)
    obtain ⟨b, f, rfl, e5, _⟩ := key_at I sf e4 e
    have hm : (arrOf st')[i] ∈ (pairsOf its).toList := (h1.mem_iff).mp (Array.getElem_mem hi2) |> Array.mem_toList_iff.mpr
    rw [pairsOf_toList] at hm
    obtain ⟨q1, _⟩ := mem_zip_self hm
    have e6 : ((arrOf st')[i]).2 = .ref b := by
      have : bkV ((arrOf st')[i]).2 = .ref b := by
        simpa [List.getElem?_map, Array.getElem?_eq_getElem hi2] using e3
      exact bkV_ref this
    unfold KK
    rw [Array.getElem?_eq_getElem hi2]
    simp only [q1, e6]
    rw [e]
    show Option.getD (G.tupKeyC s.heap sh (.ref b)) [] = _
    rw [e5]
  rw [show (KK (G.tupKindC s.heap sh) (arrOf st') i) = _ from key i hi, show (KK (G.tupKindC s.heap sh) (arrOf st') j) = _ from key j hj] at h4
  simp only [tle, kLe, Bool.not_eq_true']
  exact h4
theorem sortX_ok : ∃ r, CallR X (.builtin "sorted") r ∧ FnB X.K sortX r := by
  obtain ⟨r1, h1, k1⟩ := sort_ok (X := X)
  refine ⟨fun vs H Q => r1 vs H Q ∨ rSortG X.K vs H Q, ?_, fun F H vs ds c Q s hr he q => ?_⟩
  · intro pins s σ H vs us Q I r h
    rcases h with h | h
    · exact h1 _ _ _ _ _ _ _ I r h
    · exact cr_sortG _ _ _ _ _ _ _ I r h
  · match ds, he, hr with
    | [.list ds], he, hr =>
      simp only [sortX] at he
      split at he
      · rename_i ns e1
        left
        exact k1 F H vs _ c Q s hr (by simp only [sortD, e1, Option.map_some]; exact he) q
      · split at he
        · rename_i ht
          right
          cases he
          obtain ⟨x, rfl, g⟩ := hr.one
          obtain ⟨a, vs, rfl, g1, g2⟩ := rb_lst s g
          refine ⟨F, a, vs, ds, shp ds, rfl, s, g1, g2, fun d hd => List.all_eq_true.mp ht d hd, fun ys es p r1 r2 r3 hp => ?_⟩
          rw [tsort_of ht r2 r3] at r1
          exact g_lst s r1 q p hp
        · cases he
end
section
variable {X : Cx} {e : Expr} {es : List Expr} {mr : AM} {p pos : Pos}
theorem x_sorted (hm : X.mg "sorted" = none) (hg : Gl X "sorted") (ha : PA X (e :: es) (tA X.K mr)) (he : starEach (e :: es) X.env = (false, eval e X.env) :: starEach es X.env := by rfl) (hpl : (backTo pos (starEach es X.env)).any (·.1) = false := by rfl) :
    PE X (.Call (.Name "sorted" p) (e :: es) [] pos) (tE X.K (mOp sortX mr)) :=
  let ⟨_, h1, h2⟩ := sortX_ok
  me_callB h1 h2 hg hm boot_sorted1 ha (by decide) (by decide) he hpl
end
/-! pairs of numbers -/
def prD (p : Int × Int) : D := .tuple [.int p.1, .int p.2]
def pLe (a b : Int × Int) : Bool := decide (a.1 < b.1) || (decide (a.1 = b.1) && decide (a.2 ≤ b.2))
def psort (xs : List (Int × Int)) : List (Int × Int) := xs.mergeSort pLe
theorem sortX_ints (ns : List Int) : sortX [.list (ns.map PyData.int)] = some (.ls ((isort ns).map PyData.int)) := by
  have : ∀ ns : List Int, intsOf (ns.map PyData.int) = some ns := fun ns => by
    induction ns with
    | nil => rfl
    | cons n ns ih => simp [intsOf, ih]
  simp only [sortX, this]
theorem psort_perm (xs : List (Int × Int)) : (psort xs).Perm xs := List.mergeSort_perm xs _
theorem psort_sorted (xs : List (Int × Int)) : (psort xs).Pairwise fun a b => pLe a b = true :=
  List.pairwise_mergeSort (le := pLe) (fun a b c h1 h2 => by simp [pLe] at *; omega) (fun a b => by simp [pLe]; omega) xs
theorem psort_of {xs ys : List (Int × Int)} (p : ys.Perm xs) (s : ys.Pairwise fun a b => pLe a b = true) : psort xs = ys := by
  refine ((psort_perm xs).trans p.symm).eq_of_pairwise (le := fun a b => pLe a b = true) (fun a b _ _ h1 h2 => ?_) (psort_sorted xs) s
  simp [pLe] at h1 h2
  ext <;> omega
theorem prD_key {x : Int × Int} {xs : List (Int × Int)} (y : Int × Int) : dKey (shp ((x :: xs).map prD)) (prD y) = some [.inl y.1, .inl y.2] := by
  simp [shp, prD, dKey, dItems]
theorem sortX_pairs (xs : List (Int × Int)) : sortX [.list (xs.map prD)] = some (.ls ((psort xs).map prD)) := by
  cases xs with
  | nil => simp [sortX, intsOf, psort, isort]
  | cons x xs =>
    have h1 : intsOf ((x :: xs).map prD) = none := by simp [intsOf, prD]
    have h2 : tups ((x :: xs).map prD) = true := by
      simp only [tups, List.all_eq_true]
      intro d hd
      obtain ⟨y, _, rfl⟩ := List.mem_map.mp hd
      rw [prD_key]
      rfl
    have h3 : (psort (x :: xs)).map prD = tsort ((x :: xs).map prD) := by
      refine tsort_of h2 ((psort_perm _).map _) ?_
      rw [List.pairwise_map]
      refine (psort_sorted (x :: xs)).imp fun {a b} h => ?_
      simp only [tle, prD_key, kLe, Option.getD_some]
      simp only [pLe, Bool.or_eq_true, Bool.and_eq_true, decide_eq_true_eq] at h
      simp only [PyProof.Rows.lexLt, itemLt, Bool.not_eq_true', Bool.or_eq_false_iff, Bool.and_eq_false_iff, Bool.not_eq_false', decide_eq_false_iff_not, decide_eq_true_eq, Bool.or_false, Bool.and_true]
      simp only [or_true, and_true]
      omega
    simp only [sortX, h1, h2, if_true, h3]
end L2.M

/-! Methods of built-in kinds that answer a value and change nothing. -/
namespace L2.M
open PySem PySem.Spec PyProof.Rows
def mM (f : List D → Option C) (kind : D → Bool) (mo : OM) (ma : AM) : EM := fun ε => do
  let (o, ε1) ← mo ε
  let d0 ← bor ε1 o
  if kind d0 then
    let (os, ε2) ← ma ε1
    let ds ← bors ε2 (o :: os)
    let c ← f ds
    some (c, ε2)
  else none
def isL : D → Bool
  | .list _ => true
  | _ => false
def isS : D → Bool
  | .str _ => true
  | _ => false
def FnM (K : PySem.W.Frag) (f : List D → Option C) (r : V → List V → Hp → VK → Prop) : Prop :=
  ∀ F H x xs ds c Q, Same F H → RepBs K F H (x :: xs) ds → f ds = some c → (∀ v F' H', Grow K F H F' H' v c → Q v H') → r x xs H Q
theorem tyV_L {K : PySem.W.Frag} {F H : Hp} {x : V} {d : D} (s : Same F H) (h : RepB K F H x d) (k : isL d = true) : tyV K "list" x H := by
  cases d with
  | list ds =>
    obtain ⟨a, vs, rfl, g1, _⟩ := rb_lst s h
    exact .inl ⟨rfl, vs, g1⟩
  | _ => cases k
theorem tyV_S {K : PySem.W.Frag} {F H : Hp} {x : V} {d : D} (s : Same F H) (h : RepB K F H x d) (k : isS d = true) : tyV K "str" x H := by
  cases d with
  | str z =>
    rw [rb_str h]
    exact rfl
  | _ => cases k
theorem tE_m {K : PySem.W.Frag} {T : String} {f : List D → Option C} {r : V → List V → Hp → VK → Prop} {kind : D → Bool} (hf : FnM K f r) (hk : ∀ (F H : Hp) (x : V) (d : D), Same F H → RepB K F H x d → kind d = true → tyV K T x H) {mo : OM} {ma : AM} {σ : St} {H : Hp} {Q : VK}
    (h : tE K (mM f kind mo ma) σ H Q) : tBM K T r (tO K mo) (tA K ma) σ H Q := by
  obtain ⟨F, ε, c, ε', ok, e, q⟩ := h
  unfold mM at e
  cases e1 : mo ε with
  | none => simp [e1] at e
  | some p =>
    obtain ⟨o, ε1⟩ := p
    cases e2 : bor ε1 o with
    | none => simp [e1, e2] at e
    | some d0 =>
      cases e3 : kind d0 with
      | false => simp [e1, e2, e3] at e
      | true =>
        cases e4 : ma ε1 with
        | none => simp [e1, e2, e3, e4] at e
        | some p2 =>
          obtain ⟨os, ε2⟩ := p2
          cases e5 : bors ε2 (o :: os) with
          | none => simp [e1, e2, e3, e4, e5] at e
          | some ds =>
            cases e6 : f ds with
            | none => simp [e1, e2, e3, e4, e5, e6] at e
            | some c' =>
              simp [e1, e2, e3, e4, e5, e6] at e
              obtain ⟨rfl, rfl⟩ := e
              refine ⟨F, ε, o, ε1, ok, e1, fun v F1 H1 s1 r1 => ?_⟩
              have b1 : bors ε1 [o] = some [d0] := by simp [bors, e2]
              obtain ⟨x, ex, hx⟩ := (bors_ok s1.ok r1 b1).one
              cases ex
              refine ⟨hk F1 H1 v d0 s1.ok.sub hx e3, F1, ε1, os, ε2, s1.ok, e4, fun vs F2 H2 s2 r2 => ?_⟩
              have nw : ∀ a, H a = none → ¬ Own σ ε1 a := fun a z w => ok.not_own z (s1.ow w)
              have r1' := r1.keep s2 nw
              have back : ∀ a, H1 a = none → H a = none := fun a z => by
                by_cases w : H a = none
                · exact w
                · exact absurd z (s1.fr.live a w)
              have r2' := r2.imp back
              have rr : OpsOk K F2 H2 σ (fun a => H a = none) (v :: vs) (o :: os) := by
                cases r1' with
                | pl h _ => exact .pl h r2'
                | sh h _ => exact .sh h r2'
                | ls g1 g2 g3 g4 g5 _ =>
                  refine .ls g1 g2 g3 g4 (fun j es h1 h2 => ?_) r2'
                  obtain ⟨n1, _, _⟩ := r2.tm_ls h1 h2
                  cases r1 with
                  | ls f1 _ _ _ _ _ => rw [n1] at f1; cases f1
              refine hf F2 H2 v vs ds c' Q s2.ok.sub (bors_ok s2.ok rr e5) e6 fun w F3 H3 g => ?_
              refine q w F3 H3 ⟨(s1.trans s2).trans (g.stp s2.ok), g.rep, fun es a h1 h2 => ?_⟩
              have := g.new es a h1 h2
              by_cases z : H a = none
              · exact z
              · exact absurd this ((s1.trans s2).fr.live a z)
def indexD : List D → Option C
  | [.list ds, d] => if SeqAt.shaped (.list ds) && SeqAt.shaped d then (ds.findIdx? fun z => PyData.eqv z d).map fun j => .sh (.int (j : Nat)) else none
  | _ => none
section
variable {X : Cx}
theorem index_ok (hu : X.A.units + 65 < cLine) : ∃ r, MtR X "list.index" r ∧ FnM X.K indexD r := by
  refine ⟨_, mt_indexD hu, fun F H x xs ds c Q s hr he q => ?_⟩
  match ds, he, hr with
  | [.list ds, d], he, hr =>
    simp only [indexD] at he
    split at he
    · rename_i hs
      simp only [Bool.and_eq_true] at hs
      obtain ⟨j, hj, rfl⟩ := Option.map_eq_some_iff.mp he
      obtain ⟨y, w, e, h1, h2⟩ := hr.two
      cases e
      obtain ⟨hjl, g1, g2⟩ := List.findIdx?_eq_some_iff_getElem.mp hj
      have dl := rb_dp s h1 (SeqAt.canLay_of_shaped hs.1)
      obtain ⟨a, vs, rfl, _, _⟩ := rb_lst s h1
      refine ⟨a, w, d, ds, j, ds[j], rfl, rfl, dl, rb_dp s h2 (SeqAt.canLay_of_shaped hs.2), hs.1, hs.2, List.getElem?_eq_getElem hjl, g1, fun m z' hm hz => ?_, g_int s q⟩
      obtain ⟨hml, rfl⟩ := List.getElem?_eq_some_iff.mp hz
      have := g2 m hm
      simpa using this
    · cases he
variable {o e : Expr} {es : List Expr} {mo : OM} {mr : AM} {apos cpos : Pos} {k : Nat}
theorem x_index (hr : Room k X.A) (ho : PE X o (tO X.K mo)) (ha : PA X (e :: es) (tA X.K mr))
    (hb : attributeBase o "index" X.env (eval o X.env) = eval o X.env := by rfl)
    (hfw : ((backTo cpos (starEach (e :: es) X.env)).all (fun x => !x.1) && (backToKw cpos (keywordEach [] X.env)).all (fun x => x.1.isSome) && decide ((e :: es).length + ([] : List Keyword).length + (if ([] : List Keyword).isEmpty then 0 else 1) < 30)) = true := by rfl)
    (hln : (apos.endLine == cpos.line) = true := by rfl) (hs : starEach (e :: es) X.env = (false, eval e X.env) :: starEach es X.env := by rfl) (hp : (backTo cpos (starEach es X.env)).any (·.1) = false := by rfl) :
    PE X (.Call (.Attribute o "index" apos) (e :: es) [] cpos) (tE X.K (mM indexD isL mo mr)) :=
  let ⟨_, h1, h2⟩ := index_ok (by have := hr.un; omega)
  (pe_bm PySem.F.plainAttrs_list PySem.F.slot_list_index PySem.F.type_list_index h1 ho ha hb hfw hln hs hp).weak fun _ _ _ h => tE_m h2 (fun _ _ _ _ s r k => tyV_L s r k) h
end
end L2.M

/-! A stretch of statements that freezes for its own while: what was owned ahead is owned behind. -/
namespace L2.M
open PySem PySem.Spec PyProof.Rows
def frzC : C → C
  | .ls ds => .sh (.list ds)
  | c => c
def keepC (kp : List Nat) (ε : Cs) : Cs := ε.mapIdx fun i c => if i ∈ kp then c else .no
def mScope (kp : List Nat) (m : XM) : XM := fun ε => match m (ε.map frzC) with
  | some (.rt c, ε') => some (.rt c, ε')
  | some (f, _) => some (f, keepC kp ε)
  | none => none
theorem keepC_get {kp : List Nat} {ε : Cs} {i : Nat} : (keepC kp ε)[i]? = ε[i]?.map fun c => if i ∈ kp then c else .no := by
  simp [keepC, List.getElem?_mapIdx]
theorem keepC_some {kp : List Nat} {ε : Cs} {i : Nat} {c : C} (h : (keepC kp ε)[i]? = some c) (hc : c ≠ .no) : i ∈ kp ∧ ε[i]? = some c := by
  rw [keepC_get] at h
  obtain ⟨c0, h1, h2⟩ := Option.map_eq_some_iff.mp h
  by_cases k : i ∈ kp
  · rw [if_pos k] at h2
    exact ⟨k, by rw [h1, h2]⟩
  · rw [if_neg k] at h2
    exact absurd h2.symm hc
section
variable {K : PySem.W.Frag} {F H : Hp} {σ : St} {ε : Cs}
/-- all owned cells frozen -/
theorem freezeAll (o : Ok K F H σ ε) : ∀ n : Nat, n ≤ ε.length → ∃ F0, Stp K F H σ ε F0 H ((ε.take n).map frzC ++ ε.drop n) ∧ ∀ (i : Nat) (ds : List D) (a : Addr) (vs : List V), i < n → ε[i]? = some (.ls ds) → σ[i]? = some (some (.ref a)) → H a = some (.lst vs) → F0 a = some (.lst vs)
  | 0, _ => ⟨F, by simpa using Stp.refl o, fun i ds a vs hi => absurd hi (Nat.not_lt_zero _)⟩
  | n + 1, hn => by
    obtain ⟨F0, s, h⟩ := freezeAll o n (by omega)
    have hl : n < ε.length := by omega
    have e1 : (ε.take n).map frzC ++ ε.drop n = (ε.take n).map frzC ++ ε[n] :: ε.drop (n + 1) := by
      rw [List.drop_eq_getElem_cons hl]
    have e2 : (ε.take (n + 1)).map frzC ++ ε.drop (n + 1) = (ε.take n).map frzC ++ frzC ε[n] :: ε.drop (n + 1) := by
      rw [List.take_succ_eq_append_getElem hl, List.map_append]
      simp
    have hz : ((ε.take n).map frzC).length = n := by simp; omega
    have g : ((ε.take n).map frzC ++ ε.drop n)[n]? = some ε[n] := by
      rw [e1, List.getElem?_append_right (by omega), hz]
      simp
    cases q : ε[n] with
    | ls ds =>
      rw [q] at g
      obtain ⟨a, F1, h1, h2, h3, h4, h5⟩ := s.ok.freeze g
      have e3 : ((ε.take n).map frzC ++ ε.drop n).set n (.sh (.list ds)) = (ε.take (n + 1)).map frzC ++ ε.drop (n + 1) := by
        rw [e1, e2, q, List.set_append_right _ _ (by omega), hz]
        simp [frzC]
      rw [e3] at h3
      refine ⟨F1, s.trans h3, fun i es b vs hi g1 g2 g3 => ?_⟩
      by_cases k : i = n
      · subst k
        obtain ⟨ws, us, e, f1, f2⟩ := h4
        cases e
        rw [h1] at g2
        cases g2
        have f3 : F1 a ≠ none := by
          rcases h3.fz i ds a g h1 with ⟨ds', z⟩ | z
          · rw [← e3, List.getElem?_set_self (by simp; omega)] at z
            cases z
          · exact z
        cases f : F1 a with
        | none => exact absurd f f3
        | some ob =>
          have := h3.ok.sub _ _ f
          rw [g3] at this
          cases this
          rfl
      · exact h3.fr.fm _ _ (h i es b vs (by omega) g1 g2 g3)
    | no =>
      refine ⟨F0, ?_, fun i es b vs hi g1 g2 g3 => ?_⟩
      · rw [e2, q]
        rw [e1, q] at s
        exact s
      · by_cases k : i = n
        · subst k
          rw [List.getElem?_eq_getElem hl, q] at g1
          cases g1
        · exact h i es b vs (by omega) g1 g2 g3
    | sh d =>
      refine ⟨F0, ?_, fun i es b vs hi g1 g2 g3 => ?_⟩
      · rw [e2, q]
        rw [e1, q] at s
        exact s
      · by_cases k : i = n
        · subst k
          rw [List.getElem?_eq_getElem hl, q] at g1
          cases g1
        · exact h i es b vs (by omega) g1 g2 g3
theorem frz_get {i : Nat} {ds : List D} : (ε.map frzC)[i]? ≠ some (.ls ds) := by
  rw [List.getElem?_map]
  intro h
  obtain ⟨c, _, h2⟩ := Option.map_eq_some_iff.mp h
  cases c <;> cases h2
/-- back to what was owned -/
theorem scope_back {io kp : List Nat} (hio : ∀ i ∈ io, i ∈ kp) (o : Ok K F H σ ε) {F0 F1 H1 : Hp} {σ1 : St} {ε1 : Cs} (s0 : Stp K F H σ ε F0 H (ε.map frzC)) (h0 : ∀ (i : Nat) (ds : List D) (a : Addr) (vs : List V), i < ε.length → ε[i]? = some (.ls ds) → σ[i]? = some (some (.ref a)) → H a = some (.lst vs) → F0 a = some (.lst vs))
    (s : StpS K (· ∈ kp) F0 H σ (ε.map frzC) F1 H1 σ1 ε1) : StpS K (· ∈ io) F H σ ε F H1 σ1 (keepC kp ε) := by
  have no : ∀ b, ¬ Own σ (ε.map frzC) b := fun b ⟨i, ds, h, _⟩ => frz_get h
  have lk : ∀ i ∈ kp, σ1[i]? = σ[i]? := fun i hi => (s.lk i hi).1
  have hl : (keepC kp ε).length = ε.length := by simp [keepC]
  have lsOk : ∀ (i : Nat) (ds : List D), (keepC kp ε)[i]? = some (.ls ds) → ∃ a vs, σ[i]? = some (some (.ref a)) ∧ σ1[i]? = some (some (.ref a)) ∧ H1 a = some (.lst vs) ∧ F a = none ∧ Reps K F vs ds ∧ ε[i]? = some (.ls ds) := by
    intro i ds h
    obtain ⟨hi, he⟩ := keepC_some h (fun z => nomatch z)
    obtain ⟨a, vs, g1, g2, g3, g4⟩ := o.ls i ds he
    have g5 := h0 i ds a vs (List.getElem?_eq_some_iff.mp he).1 he g1 g2
    exact ⟨a, vs, g1, by rw [lk i hi]; exact g1, s.ok.sub _ _ (s.fr.fm _ _ g5), g3, g4, he⟩
  refine ⟨⟨fun b x h => s.ok.sub _ _ (s.fr.fm _ _ (s0.fr.fm _ _ h)), ?_, fun i d h => ?_, fun i ds h => ?_, fun i j a ds es h1 h2 g1 g2 => ?_⟩, ⟨Same.refl F, fun b x h _ => s.fr.keep b x h (no b), fun b h h' => absurd h h', s.fr.live, fun b hb => ?_⟩, fun i hi => ⟨lk i (hio i hi), ?_⟩, fun i ds a hi h1 h2 => .inl ⟨ds, ?_⟩, hl⟩
  · rw [hl, s.ok.len, s.ln]
    simp
  · obtain ⟨hi, he⟩ := keepC_some h (fun z => nomatch z)
    obtain ⟨v, g1, g2⟩ := o.sh i d he
    exact ⟨v, by rw [lk i hi]; exact g1, g2⟩
  · obtain ⟨a, vs, _, g1, g2, g3, g4, _⟩ := lsOk i ds h
    exact ⟨a, vs, g1, g2, g3, g4⟩
  · obtain ⟨hi, he⟩ := keepC_some h1 (fun z => nomatch z)
    obtain ⟨hj, hf⟩ := keepC_some h2 (fun z => nomatch z)
    rw [lk i hi] at g1
    rw [lk j hj] at g2
    exact o.inj i j a _ _ he hf g1 g2
  · obtain ⟨i, ds, h1, h2⟩ := hb
    obtain ⟨a, vs, g0, g1, _, _, _, he⟩ := lsOk i ds h1
    rw [g1] at h2
    cases h2
    exact .inl ⟨i, ds, he, g0⟩
  · rw [keepC_get]
    cases ε[i]? with
    | none => exact Go.refl _
    | some c =>
      simp only [Option.map_some, if_pos (hio i hi)]
      exact Go.refl _
  · rw [keepC_get, h1]
    simp [hio i hi]
theorem tS_scope {io kp : List Nat} (hio : ∀ i ∈ io, i ∈ kp) {m : XM} {D : Ends} (h : tS K io (mScope kp m) D σ H) : tS K kp m D σ H := by
  obtain ⟨F, ε, f, ε', o, e, q⟩ := h
  obtain ⟨F0, s0, h0⟩ := freezeAll o ε.length (Nat.le_refl _)
  simp only [List.take_length, List.drop_length, List.append_nil] at s0
  unfold mScope at e
  cases e1 : m (ε.map frzC) with
  | none => simp [e1] at e
  | some p =>
    obtain ⟨f1, ε1⟩ := p
    refine ⟨F0, _, f1, ε1, s0.ok, e1, fun F1 H1 σ1 s => ?_⟩
    have back := scope_back hio o s0 h0 s
    rw [e1] at e
    cases f1 with
    | rt c =>
      cases e
      have := q F1 H1 σ1 ((s0.toS o).trans (s.imp hio))
      intro v r n
      refine this v r fun ds a x1 x2 => ?_
      rcases n ds a x1 x2 with z | ⟨i, es, hi, z, _⟩
      · exact .inl z
      · exact absurd z frz_get
    | nx =>
      cases e
      exact q F H1 σ1 back
    | bk =>
      cases e
      exact q F H1 σ1 back
    | ct =>
      cases e
      exact q F H1 σ1 back
theorem tS_seq {io : List Nat} {m n : XM} {D : Ends} (h : tS K io (mSeq m n) D σ H) : tS K io m { D with nx := fun σ H => tS K io n D σ H } σ H := by
  obtain ⟨F, ε, f, ε', o, e, q⟩ := h
  unfold mSeq at e
  split at e
  · rename_i ε1 e1
    exact ⟨F, ε, .nx, ε1, o, e1, fun F1 H1 σ1 s1 => ⟨F1, ε1, f, ε', s1.ok, e, fun F2 H2 σ2 s2 => (q F2 H2 σ2 (s1.trans s2)).back o s1⟩⟩
  · rename_i r hr
    refine ⟨F, ε, f, ε', o, e, fun F1 H1 σ1 s1 => ?_⟩
    have := q F1 H1 σ1 s1
    cases f with
    | nx => exact (hr ε' e).elim
    | _ => exact this
theorem tS_skip {io : List Nat} {D : Ends} (h : tS K io mSkip D σ H) : D.nx σ H := by
  obtain ⟨F, ε, f, ε', o, e, q⟩ := h
  cases e
  exact q F H σ (StpS.refl o)
theorem tS_mono {io : List Nat} {m : XM} {D D' : Ends} (hn : ∀ σ H, D.nx σ H → D'.nx σ H) (hb : D.bk = D'.bk) (hc : D.ct = D'.ct) (hr : D.rt = D'.rt) (h : tS K io m D σ H) : tS K io m D' σ H := by
  obtain ⟨F, ε, f, ε', o, e, q⟩ := h
  refine ⟨F, ε, f, ε', o, e, fun F1 H1 σ1 s => ?_⟩
  have := q F1 H1 σ1 s
  cases f with
  | nx => exact hn _ _ this
  | bk =>
    show D'.bk σ1 H1
    rw [← hb]
    exact this
  | ct =>
    show D'.ct σ1 H1
    rw [← hc]
    exact this
  | rt c =>
    intro v r n
    rw [← hr]
    exact this v r n
theorem tS_nx {io : List Nat} {m : XM} {D : Ends} {u v : St → Hp → Prop} (h : tS K io m { D with nx := u } σ H) (w : ∀ σ H, u σ H → v σ H) : tS K io m { D with nx := v } σ H :=
  tS_mono (D := { D with nx := u }) (D' := { D with nx := v }) w rfl rfl rfl h
end
/-- two statements that freeze for their own while -/
theorem ms_scope2 {X : Cx} {io kp : List Nat} {a b : Stmt} {rest : List Stmt} {m1 m2 n : XM} (hio : ∀ i ∈ io, i ∈ kp) (p1 : PS X a (tS X.K kp m1)) (p2 : PS X b (tS X.K kp m2)) (pr : PSs X rest (tS X.K io n)) : PSs X (a :: b :: rest) (tS X.K io (mSeq (mScope kp (mSeq m1 (mSeq m2 mSkip))) n)) :=
  ⟨fun pins s σ H D I h => (pss_cons p1 (pss_cons p2 pr)).run pins s σ H D I (by
    have h1 := tS_seq (tS_scope hio (tS_seq h))
    refine tS_nx (D := D) h1 fun σ H g => ?_
    have g1 := tS_seq g
    exact tS_nx (D := D) g1 fun σ H g => tS_skip g)⟩
/-! ### a list taken apart -/
def bLst (bs : List BM) : BM := fun d ε => match d with
  | .list ds => if ds.length = bs.length then bTps bs ds ε else none
  | _ => none
theorem gd_lst {K : PySem.W.Frag} {S : Nat → Prop} {t : TGs} {bs : List BM} {n : Nat} (hn : n = bs.length) (h : Gds K t (bTps bs) S) : Gd K (gLst K n t) (bLst bs) S := by
  intro F H σ ε x d ε' Q o r e q
  unfold bLst at e
  split at e
  · rename_i ds
    split at e
    · rename_i hl
      obtain ⟨a, vs, rfl, h1, h2⟩ := r
      exact ⟨a, vs, rfl, sameL o.sub h1, by rw [h2.length, hl, hn], h F H σ ε vs ds ε' Q o h2 e q⟩
    · cases e
  · cases e
def mAsgL (ts io : List Nat) (b : BM) (m : EM) : XM := fun ε => do
  let (c, ε1) ← m ε
  let d ← cD c
  let ε2 ← b d ε1
  if ts.all (fun i => !io.contains i) then some (.nx, ε2) else none
theorem tS_asgL {K : PySem.W.Frag} {io : List Nat} {ts : List Nat} {b : BM} {g : TG} {m : EM} (hg : Gd K g b (· ∈ ts)) {D : Ends} {σ : St} {H : Hp} (h : tS K io (mAsgL ts io b m) D σ H) : tAsg (tE K m) g D σ H := by
  obtain ⟨F, ε, f, ε', o, e, q⟩ := h
  unfold mAsgL at e
  cases e1 : m ε with
  | none => simp [e1] at e
  | some p =>
    obtain ⟨c, ε1⟩ := p
    cases ec : cD c with
    | none => simp [e1, ec] at e
    | some d =>
      cases e2 : b d ε1 with
      | none => simp [e1, ec, e2] at e
      | some ε2 =>
        simp only [e1, ec, e2, Option.bind_eq_bind, Option.bind_some] at e
        split at e
        · rename_i hts
          cases e
          have hts : ∀ i ∈ ts, i ∉ io := by simpa using hts
          refine ⟨F, ε, c, ε1, o, e1, fun v F1 H1 p => ?_⟩
          obtain ⟨F2, s2, r2, _⟩ := p.frz o ec
          refine hg F2 H1 σ ε1 v d ε' _ s2.ok r2 e2 fun σ2 bd => ?_
          exact q F2 H1 σ2 ((s2.toS o).trans (bd.stp.imp fun j hj z => hts j z hj))
        · cases e
section
variable {X : Cx} {io : List Nat} {m : EM} {e : Expr} {pos : Pos}
theorem z_asgL {tg : Expr} {ts : List Nat} {g : TG} {bd : BM} (hg : Gd X.K g bd (· ∈ ts)) (hp : PG X tg g) (he : PE X e (tE X.K m)) (hs : swapsWithSole [tg] e pos.line X.env = pure false := by rfl) (hw : swappedStores [tg] e X.env = pure none := by rfl)
    (h1 : (assignEach [tg] X.env).map (·.2) = [assign tg X.env] := by rfl) : PS X (.Assign [tg] e pos) (tS X.K io (mAsgL ts io bd m)) := (ps_asg he hp hs hw h1).weak fun D σ H h => tS_asgL hg h
end
end L2.M

/-! list(range(n)). -/
namespace L2.M
open PySem PySem.Spec PyProof.Rows
def mLrg (m : EM) : EM := fun ε => do
  let (c, ε1) ← m ε
  match c with
  | .sh (.int n) => if 0 ≤ n ∧ n ≤ 16777216 then some (.ls (rangeD 0 1 n.toNat), ε1) else none
  | _ => none
theorem reps_rg (K : PySem.W.Frag) (F : Hp) (n : Int) : Reps K F (rgV 0 n) (rangeD 0 1 n.toNat) := by
  unfold rgV rangeD
  rw [Int.sub_zero]
  generalize List.range n.toNat = L
  induction L with
  | nil => simp [Reps]
  | cons x xs ih => exact ⟨_, _, rfl, by simp [Rep], ih⟩
theorem tE_lrg {K : PySem.W.Frag} {m : EM} {σ : St} {H : Hp} {Q : VK} (h : tE K (mLrg m) σ H Q) : tLstRg (tRg1 (tE K m)) σ H Q := by
  obtain ⟨F, ε, c, ε', o, e, q⟩ := h
  unfold mLrg at e
  cases e1 : m ε with
  | none => simp [e1] at e
  | some p =>
    obtain ⟨c1, ε1⟩ := p
    simp only [e1, Option.bind_eq_bind, Option.bind_some] at e
    split at e
    · rename_i n
      split at e
      · rename_i hn
        cases e
        refine ⟨F, ε, _, ε', o, e1, fun v F1 H1 p => ⟨n, by have := p.rep; simpa [RepC, Rep] using this, RgOk.of_le (by decide) hn.2 (by decide) hn.1, fun a ha => ?_⟩⟩
        obtain ⟨s3, h3, h4⟩ := p.st.laidL (u := .lst (rgV 0 n)) ha
        exact q _ _ _ ⟨s3, ⟨a, _, rfl, upd_same, h3, reps_rg _ _ n⟩, fun es b _ z => by cases z; exact h4⟩
      · cases e
    · cases e
theorem x_lrg {X : Cx} {a : Expr} {m : EM} {p p2 pos pos2 : Pos} (hc : X.calm = true) (hm : X.mg "list" = none) (hm2 : X.mg "range" = none) (hg : Gl X "list") (hg2 : Gl X "range") (ha : PE X a (tE X.K m)) (na : starEach [a] X.env = (false, eval a X.env) :: starEach [] X.env := by rfl)
    (nb : starEach [.Call (.Name "range" p2) [a] [] pos2] X.env = (false, eval (.Call (.Name "range" p2) [a] [] pos2) X.env) :: starEach [] X.env := by rfl) : PE X (.Call (.Name "list" p) [.Call (.Name "range" p2) [a] [] pos2] [] pos) (tE X.K (mLrg m)) :=
  (pe_listRg hc hg hm (prg_1 hg2 hm2 ha na) nb).weak fun _ _ _ h => tE_lrg h
end L2.M

namespace KW
open PySem PySem.Spec PyProof.Rows L2 L2.M
theorem at_nn {α : Type} {xs : List α} {i : Int} (h : 0 ≤ i) : atI xs i = xs[i.toNat]? := by
  unfold atI ixN
  rw [if_pos h]
  by_cases k : i.toNat < xs.length
  · rw [if_pos (by omega)]; rfl
  · rw [if_neg (by omega)]
    rw [List.getElem?_eq_none (by omega)]
    rfl
theorem at_lit {α : Type} {xs : List α} {n : Nat} : atI xs (no_index (OfNat.ofNat n) : Int) = xs[n]? := at_nn (Int.natCast_nonneg n)
theorem at_nat {α : Type} {xs : List α} {n : Nat} : atI xs (n : Int) = xs[n]? := at_nn (Int.natCast_nonneg n)
theorem at_neg {α : Type} {xs : List α} {n : Nat} (h : 0 < n) : atI xs (-(n : Int)) = if n ≤ xs.length then xs[xs.length - n]? else none := by
  unfold atI ixN
  rw [if_neg (by omega)]
  by_cases k : n ≤ xs.length
  · rw [if_pos (by omega), if_pos k]
    have : (-(n : Int) + (xs.length : Int)).toNat = xs.length - n := by omega
    simp [this]
  · rw [if_neg (by omega), if_neg k]
    rfl
theorem at_m1 {α : Type} {xs : List α} : atI xs (-1) = xs.getLast? := by
  have := at_neg (xs := xs) (n := 1) (by decide)
  rw [show (-1 : Int) = -((1 : Nat) : Int) by rfl, this]
  cases xs with
  | nil => rfl
  | cons x xs => simp [List.getLast?_eq_getElem?]
theorem at_m2 {α : Type} {xs : List α} : atI xs (-2) = if 2 ≤ xs.length then xs[xs.length - 2]? else none := by
  rw [show (-2 : Int) = -((2 : Nat) : Int) by rfl, at_neg (by decide)]
theorem bq_int (i j : Int) : (i == j) = decide (i = j) := by
  by_cases h : i = j <;> simp [h]
theorem bq_str (i j : Str) : (i == j) = decide (i = j) := by
  by_cases h : i = j <;> simp [h]
theorem ofs_inj (a b : String) : (Str.ofString a = Str.ofString b) = (a = b) := by
  apply propext
  constructor
  · intro h
    rw [Str.ofString_eq_toList, Str.ofString_eq_toList] at h
    have h1 : (a.toList.map Char.toNat).toArray = (b.toList.map Char.toNat).toArray := congrArg Str.cps h
    have h2 : a.toList.map Char.toNat = b.toList.map Char.toNat := by simpa using h1
    have h3 : a.toList = b.toList := List.map_inj_right (fun x y h => Char.toNat_inj.mp h) |>.mp h2
    exact String.toList_inj.mp h3
  · rintro rfl
    rfl
theorem ee_ii (i j : Int) : PyData.eqv (.int i) (.int j) = decide (i = j) := by simp only [PyData.eqv]; exact bq_int i j
theorem ee_ss (i j : Str) : PyData.eqv (.str i) (.str j) = decide (i = j) := by simp only [PyData.eqv]; exact bq_str i j
theorem ee_bb (i j : Bool) : PyData.eqv (.bool i) (.bool j) = decide (i = j) := by cases i <;> cases j <;> rfl
theorem ee_nn : PyData.eqv .none .none = true := rfl
theorem ee_is (i : Int) (j : Str) : PyData.eqv (.int i) (.str j) = false := rfl
theorem ee_si (i : Int) (j : Str) : PyData.eqv (.str j) (.int i) = false := rfl
theorem ee_in (i : Int) : PyData.eqv (.int i) .none = false := rfl
theorem ee_ni (i : Int) : PyData.eqv .none (.int i) = false := rfl
theorem ee_tt (xs ys : List PyData) : PyData.eqv (.tuple xs) (.tuple ys) = PyData.eqvAll xs ys := by simp only [PyData.eqv]
theorem ee_ll (xs ys : List PyData) : PyData.eqv (.list xs) (.list ys) = PyData.eqvAll xs ys := by simp only [PyData.eqv]
theorem ee_0 : PyData.eqvAll [] [] = true := rfl
theorem ee_1 (x y : PyData) (xs ys : List PyData) : PyData.eqvAll (x :: xs) (y :: ys) = (PyData.eqv x y && PyData.eqvAll xs ys) := by simp only [PyData.eqvAll]
theorem ee_2 (x : PyData) (xs : List PyData) : PyData.eqvAll (x :: xs) [] = false := rfl
theorem ee_3 (x : PyData) (xs : List PyData) : PyData.eqvAll [] (x :: xs) = false := rfl
theorem ee_maps (xs ys : List Int) : PyData.eqvAll (xs.map .int) (ys.map .int) = decide (xs = ys) := by
  induction xs generalizing ys with
  | nil => cases ys <;> simp [ee_0, ee_3]
  | cons x xs ih => cases ys <;> simp [ee_1, ee_2, ih, ee_ii]
/-- a fact kept out of a simplifier's way -/
structure Hid (p : Prop) : Prop where
  get : p
/-! ### pens -/
structure Pn where
  l : Int
  b : Int
  s : Int
def penL (p : Pn) : List PyData := [.int p.l, .int p.b, .int p.s]
def nxt (s : Int) : Int := ((s + 7919) % 2147483647 * ((s + 7919) % 2147483647) + 48271 * ((s + 7919) % 2147483647) + 12345) % 2147483629
def pnOf (x : Int) : Pn := ⟨if 0 - x > x then 0 - x else x, if (10 : Int) ^ 18 ≤ (if 0 - x > x then 0 - x else x) then 1 else 0, (if 0 - x > x then 0 - x else x) % 1000003⟩
def dr (p : Pn) (n : Int) : Int := if p.b = 1 ∧ 0 < p.l then p.l % n else nxt (nxt p.s + 7) / 64 % n
def dn (p : Pn) (n : Int) : Pn := if p.b = 1 ∧ 0 < p.l then ⟨p.l / n, p.b, p.s⟩ else ⟨p.l, p.b, nxt (nxt p.s + 7)⟩
theorem dr_nn {p : Pn} {n : Int} (h : 0 < n) : 0 ≤ dr p n := by
  unfold dr
  split <;> exact Int.emod_nonneg _ (by omega)
theorem dr_lt {p : Pn} {n : Int} (h : 0 < n) : dr p n < n := by
  unfold dr
  split <;> exact Int.emod_lt_of_pos _ h
theorem dr_ab (p : Pn) (n : Int) (h : 0 < n) : 0 ≤ dr p n ∧ dr p n < n := ⟨dr_nn h, dr_lt h⟩
theorem dr_a2 (p : Pn) (n : Int) : 0 < n → 0 ≤ dr p n ∧ dr p n < n := fun h => ⟨dr_nn h, dr_lt h⟩
grind_pattern dr_a2 => dr p n
/-- the item of a list of whole numbers -/
def gt (xs : List Int) (i : Int) : Int := xs.getD i.toNat 0
theorem gt_mem {xs : List Int} {i : Int} (h0 : 0 ≤ i) (h1 : i < xs.length) : gt xs i ∈ xs := by
  unfold gt
  rw [List.getD_eq_getElem?_getD, List.getElem?_eq_getElem (by omega)]
  simp
theorem pk {xs : List Int} {ds : List PyData} {i : Int} (e : ds = xs.map PyData.int) (h0 : 0 ≤ i) (h1 : i < xs.length) : atI ds i = some (.int (gt xs i)) := by
  subst e
  have : i.toNat < xs.length := by omega
  rw [at_nn h0]
  simp [gt, this]
theorem pk2 {a b i : Int} (h0 : 0 ≤ i) (h1 : i < 2) : atI ([.int a, .int b] : List PyData) i = some (.int (gt [a, b] i)) := pk rfl h0 h1
theorem pk3 {a b c i : Int} (h0 : 0 ≤ i) (h1 : i < 3) : atI ([.int a, .int b, .int c] : List PyData) i = some (.int (gt [a, b, c] i)) := pk rfl h0 h1
theorem pk4 {a b c d i : Int} (h0 : 0 ≤ i) (h1 : i < 4) : atI ([.int a, .int b, .int c, .int d] : List PyData) i = some (.int (gt [a, b, c, d] i)) := pk rfl h0 h1
theorem pk5 {a b c d e i : Int} (h0 : 0 ≤ i) (h1 : i < 5) : atI ([.int a, .int b, .int c, .int d, .int e] : List PyData) i = some (.int (gt [a, b, c, d, e] i)) := pk rfl h0 h1
theorem pk6 {a b c d e f i : Int} (h0 : 0 ≤ i) (h1 : i < 6) : atI ([.int a, .int b, .int c, .int d, .int e, .int f] : List PyData) i = some (.int (gt [a, b, c, d, e, f] i)) := pk rfl h0 h1
theorem pk7 {a b c d e f g i : Int} (h0 : 0 ≤ i) (h1 : i < 7) : atI ([.int a, .int b, .int c, .int d, .int e, .int f, .int g] : List PyData) i = some (.int (gt [a, b, c, d, e, f, g] i)) := pk rfl h0 h1
theorem pk8 {a b c d e f g h i : Int} (h0 : 0 ≤ i) (h1 : i < 8) : atI ([.int a, .int b, .int c, .int d, .int e, .int f, .int g, .int h] : List PyData) i = some (.int (gt [a, b, c, d, e, f, g, h] i)) := pk rfl h0 h1
/-- a draw of a display: one of its items -/
theorem pkd2 {a b : Int} {p : Pn} : atI ([.int a, .int b] : List PyData) (dr p 2) = some (.int (gt [a, b] (dr p 2))) := pk2 (dr_nn (by decide)) (dr_lt (by decide))
theorem pkd3 {a b c : Int} {p : Pn} : atI ([.int a, .int b, .int c] : List PyData) (dr p 3) = some (.int (gt [a, b, c] (dr p 3))) := pk3 (dr_nn (by decide)) (dr_lt (by decide))
theorem pkd4 {a b c d : Int} {p : Pn} : atI ([.int a, .int b, .int c, .int d] : List PyData) (dr p 4) = some (.int (gt [a, b, c, d] (dr p 4))) := pk4 (dr_nn (by decide)) (dr_lt (by decide))
theorem pkd5 {a b c d e : Int} {p : Pn} : atI ([.int a, .int b, .int c, .int d, .int e] : List PyData) (dr p 5) = some (.int (gt [a, b, c, d, e] (dr p 5))) := pk5 (dr_nn (by decide)) (dr_lt (by decide))
theorem pkd6 {a b c d e f : Int} {p : Pn} : atI ([.int a, .int b, .int c, .int d, .int e, .int f] : List PyData) (dr p 6) = some (.int (gt [a, b, c, d, e, f] (dr p 6))) := pk6 (dr_nn (by decide)) (dr_lt (by decide))
theorem pkd7 {a b c d e f g : Int} {p : Pn} : atI ([.int a, .int b, .int c, .int d, .int e, .int f, .int g] : List PyData) (dr p 7) = some (.int (gt [a, b, c, d, e, f, g] (dr p 7))) := pk7 (dr_nn (by decide)) (dr_lt (by decide))
theorem pkd8 {a b c d e f g h : Int} {p : Pn} : atI ([.int a, .int b, .int c, .int d, .int e, .int f, .int g, .int h] : List PyData) (dr p 8) = some (.int (gt [a, b, c, d, e, f, g, h] (dr p 8))) := pk8 (dr_nn (by decide)) (dr_lt (by decide))
theorem gd2 {a b : Int} {p : Pn} {P : Int → Prop} (H : P a ∧ P b) : P (gt [a, b] (dr p 2)) := by
  have m := gt_mem (xs := [a, b]) (i := dr p 2) (dr_nn (by decide)) (dr_lt (by decide))
  simp only [List.mem_cons, List.not_mem_nil, or_false] at m
  obtain ⟨h0, h1⟩ := H
  rcases m with e | e <;> (rw [e]; assumption)
theorem gd3 {a b c : Int} {p : Pn} {P : Int → Prop} (H : P a ∧ P b ∧ P c) : P (gt [a, b, c] (dr p 3)) := by
  have m := gt_mem (xs := [a, b, c]) (i := dr p 3) (dr_nn (by decide)) (dr_lt (by decide))
  simp only [List.mem_cons, List.not_mem_nil, or_false] at m
  obtain ⟨h0, h1, h2⟩ := H
  rcases m with e | e | e <;> (rw [e]; assumption)
theorem gd4 {a b c d : Int} {p : Pn} {P : Int → Prop} (H : P a ∧ P b ∧ P c ∧ P d) : P (gt [a, b, c, d] (dr p 4)) := by
  have m := gt_mem (xs := [a, b, c, d]) (i := dr p 4) (dr_nn (by decide)) (dr_lt (by decide))
  simp only [List.mem_cons, List.not_mem_nil, or_false] at m
  obtain ⟨h0, h1, h2, h3⟩ := H
  rcases m with e | e | e | e <;> (rw [e]; assumption)
theorem gd5 {a b c d e : Int} {p : Pn} {P : Int → Prop} (H : P a ∧ P b ∧ P c ∧ P d ∧ P e) : P (gt [a, b, c, d, e] (dr p 5)) := by
  have m := gt_mem (xs := [a, b, c, d, e]) (i := dr p 5) (dr_nn (by decide)) (dr_lt (by decide))
  simp only [List.mem_cons, List.not_mem_nil, or_false] at m
  obtain ⟨h0, h1, h2, h3, h4⟩ := H
  rcases m with e | e | e | e | e <;> (rw [e]; assumption)
theorem gd6 {a b c d e f : Int} {p : Pn} {P : Int → Prop} (H : P a ∧ P b ∧ P c ∧ P d ∧ P e ∧ P f) : P (gt [a, b, c, d, e, f] (dr p 6)) := by
  have m := gt_mem (xs := [a, b, c, d, e, f]) (i := dr p 6) (dr_nn (by decide)) (dr_lt (by decide))
  simp only [List.mem_cons, List.not_mem_nil, or_false] at m
  obtain ⟨h0, h1, h2, h3, h4, h5⟩ := H
  rcases m with e | e | e | e | e | e <;> (rw [e]; assumption)
theorem gd7 {a b c d e f g : Int} {p : Pn} {P : Int → Prop} (H : P a ∧ P b ∧ P c ∧ P d ∧ P e ∧ P f ∧ P g) : P (gt [a, b, c, d, e, f, g] (dr p 7)) := by
  have m := gt_mem (xs := [a, b, c, d, e, f, g]) (i := dr p 7) (dr_nn (by decide)) (dr_lt (by decide))
  simp only [List.mem_cons, List.not_mem_nil, or_false] at m
  obtain ⟨h0, h1, h2, h3, h4, h5, h6⟩ := H
  rcases m with e | e | e | e | e | e | e <;> (rw [e]; assumption)
theorem gd8 {a b c d e f g h : Int} {p : Pn} {P : Int → Prop} (H : P a ∧ P b ∧ P c ∧ P d ∧ P e ∧ P f ∧ P g ∧ P h) : P (gt [a, b, c, d, e, f, g, h] (dr p 8)) := by
  have m := gt_mem (xs := [a, b, c, d, e, f, g, h]) (i := dr p 8) (dr_nn (by decide)) (dr_lt (by decide))
  simp only [List.mem_cons, List.not_mem_nil, or_false] at m
  obtain ⟨h0, h1, h2, h3, h4, h5, h6, h7⟩ := H
  rcases m with e | e | e | e | e | e | e | e <;> (rw [e]; assumption)
/-! ### what a body ends in -/
def Wx (x : Option (Fl × Cs)) (Q : Fl → Cs → Prop) : Prop := ∃ f ε, x = some (f, ε) ∧ Q f ε
def Rt (x : Option (C × List C)) (P : C → List C → Prop) : Prop := ∃ c cs, x = some (c, cs) ∧ P c cs
def endQ (io : List Bool) (cs : List C) (P : C → List C → Prop) : Fl → Cs → Prop
  | .rt c, ε => P c (after io cs ε)
  | .nx, ε => P (.sh .none) (after io cs ε)
  | _, _ => False
theorem rt_eq {x : Option (C × List C)} {c : C} {cs : List C} (h : Rt x fun c' cs' => c' = c ∧ cs' = cs) : x = some (c, cs) := by
  obtain ⟨_, _, e, rfl, rfl⟩ := h
  exact e
theorem wx_nx {m n : XM} {ε ε1 : Cs} {Q : Fl → Cs → Prop} (h : m ε = some (.nx, ε1)) (h2 : Wx (n ε1) Q) : Wx (mSeq m n ε) Q := by
  unfold mSeq
  rw [h]
  exact h2
theorem wx_rt {m n : XM} {ε ε1 : Cs} {c : C} {Q : Fl → Cs → Prop} (h : m ε = some (.rt c, ε1)) (h2 : Q (.rt c) ε1) : Wx (mSeq m n ε) Q := by
  unfold mSeq
  rw [h]
  exact ⟨_, _, rfl, h2⟩
theorem wx_fl {m n : XM} {ε ε1 : Cs} {f : Fl} {Q : Fl → Cs → Prop} (h : m ε = some (f, ε1)) (hf : f ≠ .nx) (h2 : Q f ε1) : Wx (mSeq m n ε) Q := by
  unfold mSeq
  rw [h]
  cases f with
  | nx => exact absurd rfl hf
  | bk => exact ⟨_, _, rfl, h2⟩
  | ct => exact ⟨_, _, rfl, h2⟩
  | rt c => exact ⟨_, _, rfl, h2⟩
theorem wx_seq {m n : XM} {ε : Cs} {Q : Fl → Cs → Prop} (h : Wx (m ε) fun f ε1 => match f with | .nx => Wx (n ε1) Q | f => Q f ε1) : Wx (mSeq m n ε) Q := by
  obtain ⟨f, ε1, e, q⟩ := h
  unfold mSeq
  rw [e]
  cases f with
  | nx => exact q
  | bk => exact ⟨_, _, rfl, q⟩
  | ct => exact ⟨_, _, rfl, q⟩
  | rt c => exact ⟨_, _, rfl, q⟩
theorem wx_skip {ε : Cs} {Q : Fl → Cs → Prop} (h : Q .nx ε) : Wx (mSkip ε) Q := ⟨_, _, rfl, h⟩
theorem wx_if {t : TM} {m n : XM} {ε ε1 : Cs} {b : Bool} {Q : Fl → Cs → Prop} (h : t ε = some (b, ε1)) (h1 : b = true → Wx (m ε1) Q) (h2 : b = false → Wx (n ε1) Q) : Wx (mIf t m n ε) Q := by
  unfold mIf
  rw [h]
  cases b with
  | true => exact h1 rfl
  | false => exact h2 rfl
/-- an if ahead of the rest -/
theorem wx_ifs {t : TM} {m n r : XM} {ε ε1 : Cs} {b : Bool} {Q : Fl → Cs → Prop} (h : t ε = some (b, ε1)) (h1 : b = true → Wx (mSeq m r ε1) Q) (h2 : b = false → Wx (mSeq n r ε1) Q) : Wx (mSeq (mIf t m n) r ε) Q := by
  have e : mIf t m n ε = if b then m ε1 else n ε1 := by
    unfold mIf
    rw [h]
    rfl
  unfold mSeq
  rw [e]
  cases b with
  | true => exact h1 rfl
  | false => exact h2 rfl
theorem wx_in {m n r : XM} {ε : Cs} {Q : Fl → Cs → Prop} (h : Wx (mSeq m (mSeq n r) ε) Q) : Wx (mSeq (mSeq m n) r ε) Q := by
  unfold mSeq at h ⊢
  revert h
  cases m ε with
  | none => exact id
  | some p =>
    obtain ⟨f, ε1⟩ := p
    cases f <;> exact id
theorem wx_sk {r : XM} {ε : Cs} {Q : Fl → Cs → Prop} (h : Wx (r ε) Q) : Wx (mSeq mSkip r ε) Q := h
theorem rt_sem {io : List Bool} {ns : Nat} {m : XM} {cs : List C} {P : C → List C → Prop} (hs : shared io cs = true) (h : Wx (m (cs ++ List.replicate (ns - cs.length) .no)) (endQ io cs P)) : Rt (semF io ns m cs) P := by
  obtain ⟨f, ε, e, q⟩ := h
  unfold semF
  rw [if_pos hs, e]
  cases f with
  | nx => exact ⟨_, _, rfl, q⟩
  | bk => exact q.elim
  | ct => exact q.elim
  | rt c => exact ⟨_, _, rfl, q⟩
theorem wx_mono {x : Option (Fl × Cs)} {Q Q' : Fl → Cs → Prop} (h : Wx x Q) (i : ∀ f ε, Q f ε → Q' f ε) : Wx x Q' := by
  obtain ⟨f, ε, e, q⟩ := h
  exact ⟨f, ε, e, i _ _ q⟩
theorem wx_val {x : Option (Fl × Cs)} {f : Fl} {ε : Cs} {Q : Fl → Cs → Prop} (h : x = some (f, ε)) (q : Q f ε) : Wx x Q := ⟨_, _, h, q⟩
/-- a loop, by what holds ahead of each round -/
theorem wx_for {io : List Nat} {src : SM} {bind : BM} {body : XM} {ε ε1 : Cs} {ds : List PyData} {ws : List Nat} {Q : Fl → Cs → Prop} (J : Nat → Cs → Prop) (hs : src ε = some ((ds, ws), ε1)) (hw : ws.all (fun i => io.contains i) = true)
    (h0 : J 0 ε1) (hJ : ∀ i ε2, J i ε2 → sameC ws ε1 ε2) (hstep : ∀ i d ε2, ds[i]? = some d → J i ε2 → ∃ ε3, bind d ε2 = some ε3 ∧ Wx (body ε3) fun f ε4 => match f with
      | .nx => J (i + 1) ε4
      | .ct => J (i + 1) ε4
      | .bk => Q .nx ε4
      | .rt c => Q (.rt c) ε4) (hend : ∀ ε2, J ds.length ε2 → Q .nx ε2) : Wx (mFor io src bind body ε) Q := by
  unfold mFor
  simp only [hs, Option.bind_eq_bind, Option.bind_some, hw, if_true]
  have main : ∀ (l : List PyData) (i : Nat) (ε2 : Cs), ds.drop i = l → i ≤ ds.length → J i ε2 → Wx (forL ws ε1 bind body l ε2) Q := by
    intro l
    induction l with
    | nil =>
      intro i ε2 hl hi hj
      unfold forL
      rw [if_pos (hJ i ε2 hj)]
      have : i = ds.length := by
        have := List.drop_eq_nil_iff.mp hl
        omega
      subst this
      exact ⟨_, _, rfl, hend _ hj⟩
    | cons d l ih =>
      intro i ε2 hl hi hj
      unfold forL
      rw [if_pos (hJ i ε2 hj)]
      have hd : ds[i]? = some d := by
        have := congrArg (fun x => x[0]?) hl
        simpa using this
      obtain ⟨ε3, e3, f, ε4, e4, q⟩ := hstep i d ε2 hd hj
      have hi' : i + 1 ≤ ds.length := (List.getElem?_eq_some_iff.mp hd).1
      have hl' : ds.drop (i + 1) = l := by
        rw [← List.drop_drop, hl]
        rfl
      simp only [e3, e4, Option.bind_eq_bind, Option.bind_some]
      cases f with
      | nx => exact ih (i + 1) ε4 hl' hi' q
      | ct => exact ih (i + 1) ε4 hl' hi' q
      | bk => exact ⟨_, _, rfl, q⟩
      | rt c => exact ⟨_, _, rfl, q⟩
  exact main ds 0 ε1 rfl (Nat.zero_le _) h0
/-- a loop whose source is no locked list: each item is known by its membership -/
theorem wx_each {io : List Nat} {src : SM} {bind : BM} {body : XM} {ε ε1 : Cs} {ds : List PyData} {Q : Fl → Cs → Prop} (J : Cs → Prop) (hs : src ε = some ((ds, []), ε1))
    (h0 : J ε1) (hstep : ∀ d ε2, d ∈ ds → J ε2 → ∃ ε3, bind d ε2 = some ε3 ∧ Wx (body ε3) fun f ε4 => match f with
      | .nx => J ε4
      | .ct => J ε4
      | .bk => Q .nx ε4
      | .rt c => Q (.rt c) ε4) (hend : ∀ ε2, J ε2 → Q .nx ε2) : Wx (mFor io src bind body ε) Q :=
  wx_for (fun _ => J) hs rfl h0 (fun i ε hj j hj2 => by cases hj2) (fun i d ε2 hd hj => hstep d ε2 (List.mem_of_getElem? hd) hj) hend
/-- while, by a measure -/
theorem wx_while {t : TM} {b : XM} {ε : Cs} {Q : Fl → Cs → Prop} (J : Nat → Cs → Prop) (n : Nat) (h0 : J n ε)
    (hstep : ∀ n ε2, J n ε2 → ∃ k ε3, t ε2 = some (k, ε3) ∧ (k = false → Q .nx ε3) ∧ (k = true → Wx (b ε3) fun f ε4 => match f with
      | .nx => ∃ n', n' < n ∧ J n' ε4
      | .ct => ∃ n', n' < n ∧ J n' ε4
      | .bk => Q .nx ε4
      | .rt c => Q (.rt c) ε4)) : Wx (mWhile t b ε) Q := by
  have main : ∀ (n : Nat) (ε : Cs), J n ε → ∃ m r, whileN t b m ε = some r ∧ Q r.1 r.2 := by
    intro n
    induction n using Nat.strongRecOn with
    | ind n ih =>
      intro ε hj
      obtain ⟨k, ε3, e3, hf, ht⟩ := hstep n ε hj
      cases k with
      | false => exact ⟨1, (.nx, ε3), by simp [whileN, e3], hf rfl⟩
      | true =>
        obtain ⟨f, ε4, e4, q⟩ := ht rfl
        cases f with
        | nx =>
          obtain ⟨n', hn, hj'⟩ := q
          obtain ⟨m, r, e5, q5⟩ := ih n' hn ε4 hj'
          exact ⟨m + 1, r, by simp [whileN, e3, e4, e5], q5⟩
        | ct =>
          obtain ⟨n', hn, hj'⟩ := q
          obtain ⟨m, r, e5, q5⟩ := ih n' hn ε4 hj'
          exact ⟨m + 1, r, by simp [whileN, e3, e4, e5], q5⟩
        | bk => exact ⟨1, (.nx, ε4), by simp [whileN, e3, e4], q⟩
        | rt c => exact ⟨1, (.rt c, ε4), by simp [whileN, e3, e4], q⟩
  obtain ⟨m, r, e, q⟩ := main n ε h0
  exact ⟨r.1, r.2, mWhile_of e, q⟩
/-- a comprehension, by what holds ahead of each item -/
theorem lc_rule {src : SM} {bind : BM} {tests : TM} {elt : EM} {own ws : List Nat} {ε ε1 : Cs} {ds : List PyData} (J : Nat → List PyData → Cs → Prop) (hs : src ε = some ((ds, ws), ε1)) (hw : ws.all (fun i => !own.contains i) = true)
    (h0 : J 0 [] (wipeC ε1 own)) (hJ : ∀ i out ε2, J i out ε2 → sameC ws ε1 ε2) (hn : ds.length ≤ sizeLine)
    (hstep : ∀ i d out ε2, ds[i]? = some d → J i out ε2 → ∃ ε3 b ε4, bind d ε2 = some ε3 ∧ tests ε3 = some (b, ε4) ∧ (b = false → J (i + 1) out (wipeC ε4 own)) ∧
      (b = true → ∃ c e ε5, elt ε4 = some (c, ε5) ∧ cD c = some e ∧ J (i + 1) (out ++ [e]) (wipeC ε5 own))) :
    ∃ out ε2, mLc src bind tests elt own ε = some (.ls out, restC ε2 ε1 own) ∧ J ds.length out ε2 := by
  have main : ∀ (l : List PyData) (i : Nat) (acc : List PyData) (ε2 : Cs), ds.drop i = l → i ≤ ds.length → acc.length ≤ i → J i acc ε2 → ∃ out ε3, lcL ws ε1 bind tests elt own l acc.length ε2 = some (out, ε3) ∧ J ds.length (acc ++ out) ε3 := by
    intro l
    induction l with
    | nil =>
      intro i acc ε2 hl hi ha hj
      have : i = ds.length := by
        have := List.drop_eq_nil_iff.mp hl
        omega
      subst this
      refine ⟨[], ε2, ?_, by simpa using hj⟩
      unfold lcL
      rw [if_pos (hJ _ _ _ hj)]
    | cons d l ih =>
      intro i acc ε2 hl hi ha hj
      have hd : ds[i]? = some d := by
        have := congrArg (fun x => x[0]?) hl
        simpa using this
      have hi' : i + 1 ≤ ds.length := (List.getElem?_eq_some_iff.mp hd).1
      have hl' : ds.drop (i + 1) = l := by
        rw [← List.drop_drop, hl]
        rfl
      obtain ⟨ε3, b, ε4, e3, e4, hf, ht⟩ := hstep i d acc ε2 hd hj
      unfold lcL
      rw [if_pos (hJ _ _ _ hj)]
      cases b with
      | false =>
        obtain ⟨out, ε6, e6, j6⟩ := ih (i + 1) acc _ hl' hi' (by omega) (hf rfl)
        exact ⟨out, ε6, by simp [e3, e4, e6], j6⟩
      | true =>
        obtain ⟨c, e, ε5, e5, ec, j5⟩ := ht rfl
        obtain ⟨out, ε6, e6, j6⟩ := ih (i + 1) (acc ++ [e]) _ hl' hi' (by simp; omega) j5
        refine ⟨e :: out, ε6, ?_, by simpa using j6⟩
        have hlt : acc.length < sizeLine := by omega
        have e6' : lcL ws ε1 bind tests elt own l (acc.length + 1) (wipeC ε5 own) = some (out, ε6) := by simpa using e6
        simp [e3, e4, e5, ec, hlt, e6']
  obtain ⟨out, ε3, e, j⟩ := main ds 0 [] _ rfl (Nat.zero_le _) (Nat.le_refl _) h0
  refine ⟨out, ε3, ?_, by simpa using j⟩
  unfold mLc
  have e' : lcL ws ε1 bind tests elt own ds 0 (wipeC ε1 own) = some (out, ε3) := by simpa using e
  simp only [hs, Option.bind_eq_bind, Option.bind_some, hw, if_true, e']
/-! ### slices -/
theorem cut_map {α β : Type} (f : α → β) (xs : List α) (lo hi : Option Int) : L2.M.cutL (xs.map f) lo hi = (L2.M.cutL xs lo hi).map f := by
  unfold L2.M.cutL
  simp [List.map_take, List.map_drop]
theorem cut_to {α : Type} (xs : List α) {i : Int} (h : 0 ≤ i) : L2.M.cutL xs none (some i) = xs.take i.toNat := by
  unfold L2.M.cutL HT.sIx
  simp only [if_neg (show ¬ i < 0 by omega), List.drop_zero, Nat.sub_zero]
  by_cases k : i.toNat ≤ xs.length
  · rw [Nat.min_eq_left k]
  · rw [Nat.min_eq_right (by omega), List.take_length, List.take_of_length_le (by omega)]
theorem cut_from {α : Type} (xs : List α) {i : Int} (h : 0 ≤ i) : L2.M.cutL xs (some i) none = xs.drop i.toNat := by
  unfold L2.M.cutL HT.sIx
  simp only [if_neg (show ¬ i < 0 by omega)]
  by_cases k : i.toNat ≤ xs.length
  · rw [Nat.min_eq_left k, List.take_of_length_le (by simp)]
  · rw [Nat.min_eq_right (by omega)]
    simp only [List.drop_length, List.take_nil]
    rw [List.drop_eq_nil_of_le (by omega)]
theorem cut_len {α : Type} (xs : List α) (lo hi : Option Int) : (L2.M.cutL xs lo hi).length ≤ xs.length := by
  unfold L2.M.cutL
  simp only [List.length_take, List.length_drop]
  omega
theorem cut_to1 {α : Type} (xs : List α) : L2.M.cutL xs none (some (-1)) = xs.dropLast := by
  unfold L2.M.cutL HT.sIx
  simp only [if_pos (show (-1 : Int) < 0 by omega)]
  have : (-1 + (xs.length : Int)).toNat = xs.length - 1 := by omega
  simp [this, List.dropLast_eq_take]
/-! ### numbers -/
@[simp] def whole : PyData → Bool
  | .int _ => true
  | _ => false
def num (d : PyData) (lo hi : Int) : Bool := match d with
  | .int i => decide (lo ≤ i) && decide (i ≤ hi)
  | _ => false
/-! ### what may be compared -/
def lay (n : Nat) (d : PyData) : Bool := d.canLay0 && decide (d.depth ≤ n)
theorem shaped_lay (d : PyData) : SeqAt.shaped d = lay 64 d := rfl
theorem lay_int (n : Nat) (i : Int) : lay n (.int i) = true := by simp [lay, PyData.canLay0, PyData.depth]
theorem lay_bool (n : Nat) (i : Bool) : lay n (.bool i) = true := by simp [lay, PyData.canLay0, PyData.depth]
theorem lay_none (n : Nat) : lay n .none = true := by simp [lay, PyData.canLay0, PyData.depth]
theorem lay_str (n : Nat) (s : Str) : lay n (.str s) = PyData.strOk s := by simp [lay, PyData.canLay0, PyData.depth]
theorem lay_dict (n : Nat) (s : List (PyData × PyData)) : lay n (.dict s) = false := by simp [lay, PyData.canLay0]
theorem lay_all (n : Nat) : ∀ ds : List PyData, (PyData.canLayAll0 ds && decide (PyData.depthAll ds ≤ n)) = ds.all (lay n)
  | [] => by simp [PyData.canLayAll0, PyData.depthAll]
  | d :: ds => by
    have ih := lay_all n ds
    simp only [PyData.canLayAll0, PyData.depthAll, List.all_cons, ← ih, lay]
    by_cases h1 : d.canLay0 = true <;> by_cases h2 : PyData.canLayAll0 ds = true <;> by_cases h3 : d.depth ≤ n <;> by_cases h4 : PyData.depthAll ds ≤ n <;> simp [h1, h2, h3, h4, Nat.max_le]
theorem lay_tup {n : Nat} (ds : List PyData) (h : 0 < n) : lay n (.tuple ds) = ds.all (lay (n - 1)) := by
  rw [← lay_all]
  simp only [lay, PyData.canLay0, PyData.depth]
  have : (PyData.depthAll ds + 1 ≤ n) = (PyData.depthAll ds ≤ n - 1) := by
    apply propext
    omega
  simp only [this]
theorem lay_list {n : Nat} (ds : List PyData) (h : 0 < n) : lay n (.list ds) = ds.all (lay (n - 1)) := by
  rw [← lay_all]
  simp only [lay, PyData.canLay0, PyData.depth]
  have : (PyData.depthAll ds + 1 ≤ n) = (PyData.depthAll ds ≤ n - 1) := by
    apply propext
    omega
  simp only [this]
theorem lay_ints (n : Nat) (ns : List Int) : (ns.map PyData.int).all (lay n) = true := by
  simp [List.all_map, lay_int]
theorem lay_mono {n m : Nat} {d : PyData} (h : n ≤ m) (l : lay n d = true) : lay m d = true := by
  simp only [lay, Bool.and_eq_true, decide_eq_true_eq] at l ⊢
  exact ⟨l.1, Nat.le_trans l.2 h⟩
end KW

namespace KW
open PySem PySem.Spec PyProof.Rows L2 L2.M
local macro_rules | `(tactic| walk_at "ev") => `(tactic| simp [semF, shared, after, mSeq, mSkip, mIf, mRet, mRetN, mRetV, mSet, mSetIx, mExpr, mB, mU, mTm, mPl, mK, mVar, mOp, mCons, mNil, bor, bors, mTst, mAndT, mOrT, mNotT, mAndE, mOrE, mNotE, mIfE, mIsi, isiD, mChn, chnL, cmpD, binD, addD, subD, mulD, modD, fdivD, powD, eqD, neD, ltD, leD, gtD, geD, isD, isnD, L2.M.isNon, negD, ixD, Bf.f, Bg.f, lenD, L2.M.intD, maxD, minD, repD, strD, gmaxD, gminD, sumD, sortD, anyD, allD, mCall, frz, fzO, cellO, cellsO, dist, notPl, wb, mTup, mLst, fzs, cD, mAsg, bTup, bTps, mApp, tupD, lstD, mRev, revD, ofs_inj, ee_ii, ee_ss, ee_bb, ee_nn, ee_is, ee_si, ee_in, ee_ni, ee_tt, ee_ll, ee_maps, ee_0, ee_1, ee_2, ee_3, at_lit, at_nat, at_m1, at_m2, scD, emD, sizeLine_eq, ixN, sm_lit, mSrc, itemsD, plOf, rng1D, bNm, mSl, mPt, mNoP, slD, mPar, keepT, tmsO, setA, mFlow, zipX, enumX, itemsX, intsOf, ints_all, boolsOf, shaped_lay, lay_int, lay_bool, lay_none, lay_dict, lay_tup, lay_list, lay_ints, sortX_ints])
local macro_rules | `(tactic| walk_at "es") => `(tactic| simp [semF, shared, after, mSeq, mSkip, mIf, mRet, mRetN, mRetV, mSet, mSetIx, mExpr, mB, mU, mTm, mPl, mK, mVar, mOp, mCons, mNil, bor, bors, mTst, mAndT, mOrT, mNotT, mAndE, mOrE, mNotE, mIfE, mIsi, isiD, mChn, chnL, cmpD, binD, addD, subD, mulD, modD, fdivD, powD, eqD, neD, ltD, leD, gtD, geD, isD, isnD, L2.M.isNon, negD, ixD, Bf.f, Bg.f, lenD, L2.M.intD, maxD, minD, repD, strD, gmaxD, gminD, sumD, sortD, anyD, allD, mCall, frz, fzO, cellO, cellsO, dist, notPl, wb, mTup, mLst, fzs, cD, mAsg, bTup, bTps, mApp, tupD, lstD, mRev, revD, ofs_inj, ee_ii, ee_ss, ee_bb, ee_nn, ee_is, ee_si, ee_in, ee_ni, ee_tt, ee_ll, ee_maps, ee_0, ee_1, ee_2, ee_3, at_lit, at_nat, at_m1, at_m2, scD, emD, sizeLine_eq, ixN, sm_lit, mSrc, itemsD, plOf, rng1D, bNm, mSl, mPt, mNoP, slD, mPar, keepT, tmsO, setA, mFlow, zipX, enumX, itemsX, intsOf, ints_all, boolsOf, shaped_lay, lay_int, lay_bool, lay_none, lay_dict, lay_tup, lay_list, lay_ints, sortX_ints, *])
local macro_rules | `(tactic| walk_at "el") => `(tactic| simp [semF, shared, after, mSeq, mSkip, mIf, mRet, mRetN, mRetV, mSet, mSetIx, mExpr, mB, mU, mTm, mPl, mK, mVar, mOp, mCons, mNil, bor, bors, mTst, mAndT, mOrT, mNotT, mAndE, mOrE, mNotE, mIfE, mIsi, isiD, mChn, chnL, cmpD, binD, addD, subD, mulD, modD, fdivD, powD, eqD, neD, ltD, leD, gtD, geD, isD, isnD, L2.M.isNon, negD, ixD, Bf.f, Bg.f, lenD, L2.M.intD, maxD, minD, repD, strD, gmaxD, gminD, sumD, sortD, anyD, allD, mCall, frz, fzO, cellO, cellsO, dist, notPl, wb, mTup, mLst, fzs, cD, mAsg, bTup, bTps, mApp, tupD, lstD, mRev, revD, ofs_inj, ee_ii, ee_ss, ee_bb, ee_nn, ee_is, ee_si, ee_in, ee_ni, ee_tt, ee_ll, ee_maps, ee_0, ee_1, ee_2, ee_3, at_lit, at_nat, at_m1, at_m2, scD, emD, sizeLine_eq, ixN, sm_lit, mSrc, itemsD, plOf, rng1D, bNm, mSl, mPt, mNoP, slD, mPar, keepT, tmsO, setA, mFlow, zipX, enumX, itemsX, intsOf, ints_all, boolsOf, shaped_lay, lay_int, lay_bool, lay_none, lay_dict, lay_tup, lay_list, lay_ints, sortX_ints, mLc, lcL, sameC, wipeC, restC, mYes, *])
local macro_rules | `(tactic| walk_at "ef") => `(tactic| simp [semF, shared, after, mSeq, mSkip, mIf, mRet, mRetN, mRetV, mSet, mSetIx, mExpr, mB, mU, mTm, mPl, mK, mVar, mOp, mCons, mNil, bor, bors, mTst, mAndT, mOrT, mNotT, mAndE, mOrE, mNotE, mIfE, mIsi, isiD, mChn, chnL, cmpD, binD, addD, subD, mulD, modD, fdivD, powD, eqD, neD, ltD, leD, gtD, geD, isD, isnD, L2.M.isNon, negD, ixD, Bf.f, Bg.f, lenD, L2.M.intD, maxD, minD, repD, strD, gmaxD, gminD, sumD, sortD, anyD, allD, mCall, frz, fzO, cellO, cellsO, dist, notPl, wb, mTup, mLst, fzs, cD, mAsg, bTup, bTps, mApp, tupD, lstD, mRev, revD, ofs_inj, ee_ii, ee_ss, ee_bb, ee_nn, ee_is, ee_si, ee_in, ee_ni, ee_tt, ee_ll, ee_maps, ee_0, ee_1, ee_2, ee_3, at_lit, at_nat, at_m1, at_m2, scD, emD, sizeLine_eq, ixN, sm_lit, mSrc, itemsD, plOf, rng1D, bNm, mSl, mPt, mNoP, slD, mPar, keepT, tmsO, setA, mFlow, zipX, enumX, itemsX, intsOf, ints_all, boolsOf, shaped_lay, lay_int, lay_bool, lay_none, lay_dict, lay_tup, lay_list, lay_ints, sortX_ints, mFor, forL, mLc, lcL, sameC, wipeC, restC, mYes, *])
local macro_rules | `(tactic| walk_at "rg") => `(tactic| (and_intros <;> grind))
local macro_rules | `(tactic| walk_at "nx") => `(tactic| (apply wx_nx; focus (walk_at "ev"; try first | exact ⟨rfl, rfl⟩ | rfl)))
local macro_rules | `(tactic| walk_at "ns") => `(tactic| (apply wx_nx; focus (walk_at "es"; try first | exact ⟨rfl, rfl⟩ | rfl)))
local macro_rules | `(tactic| walk_at "rt") => `(tactic| (apply wx_rt; focus (walk_at "ev"; try first | exact ⟨rfl, rfl⟩ | rfl)))
local macro_rules | `(tactic| walk_at "rs") => `(tactic| (apply wx_rt; focus (walk_at "es"; try first | exact ⟨rfl, rfl⟩ | rfl)))

section
variable {m n : EM} {ε ε1 ε2 : Cs} {c c1 c2 c' : C} {d d1 d2 : PyData} {io : List Nat} {i : Nat} {b : Bool}
theorem e_ret (h : m ε = some (c, ε1)) : mRet m ε = some (.rt c, ε1) := by simp [mRet, h]
theorem e_set (h : m ε = some (c, ε1)) (hi : i < ε1.length) (hio : i ∉ io) : mSet io i m ε = some (.nx, ε1.set i c) := by simp [mSet, h, hi, hio]
theorem e_op1 {f : List PyData → Option C} (h : m ε = some (c, ε1)) (hd : cD c = some d) (hf : f [d] = some c') : mOp f (mCons (mTm m) mNil) ε = some (c', ε1) := by
  cases c <;> simp [cD] at hd <;> subst hd <;> simp [mOp, mCons, mTm, mNil, h, bors, bor, hf]
theorem e_b2 {f : PyData → PyData → Option C} (h1 : m ε = some (c1, ε1)) (h2 : n ε1 = some (c2, ε2)) (hd1 : cD c1 = some d1) (hd2 : cD c2 = some d2) (hf : f d1 d2 = some c) : mB f (mTm m) (mTm n) ε = some (c, ε2) := by
  cases c1 <;> simp [cD] at hd1 <;> subst hd1 <;> cases c2 <;> simp [cD] at hd2 <;> subst hd2 <;> simp [mB, mTm, h1, h2, bor, hf]
theorem e_b2p {f : PyData → PyData → Option C} {j : Nat} (h0 : ε[j]? = some c1) (h1 : n ε = some (c2, ε2)) (h2 : ε2[j]? = some c') (hd1 : cD c' = some d1) (hd2 : cD c2 = some d2) (hf : f d1 d2 = some c) (hc : cD c1 ≠ none := by simp [cD]) : mB f (mPl j) (mTm n) ε = some (c, ε2) := by
  cases c1 <;> simp [cD] at hc <;> cases c' <;> simp [cD] at hd1 <;> subst hd1 <;> cases c2 <;> simp [cD] at hd2 <;> subst hd2 <;> simp [mB, mPl, mTm, h0, h1, h2, bor, hf]
theorem e_call1 {g : GM} (h : m ε = some (c, ε1)) (hg : g [c] = some (c', [c1])) (hc : c ≠ .no := by simp) : mCall [true] g (mCons (mTm m) mNil) ε = some (c', ε1) := by
  cases c <;> first | exact absurd rfl hc | simp [mCall, mCons, mTm, mNil, h, frz, cellsO, cellO, dist, wb, hg]
theorem e_and0 {n : EM} (h : m ε = some (.sh (.bool false), ε1)) : mAndE m n ε = some (.sh (.bool false), ε1) := by simp [mAndE, h]
theorem e_and1 {n : EM} (h : m ε = some (.sh (.bool true), ε1)) : mAndE m n ε = n ε1 := by simp [mAndE, h]
theorem e_or0 {s t : TM} (h : s ε = some (true, ε1)) : mOrT s t ε = some (true, ε1) := by simp [mOrT, h]
theorem e_or1 {s t : TM} (h : s ε = some (false, ε1)) : mOrT s t ε = t ε1 := by simp [mOrT, h]
theorem e_tst (h : m ε = some (.sh (.bool b), ε1)) : mTst m ε = some (b, ε1) := by simp [mTst, h]
theorem e_not {t : TM} (h : t ε = some (b, ε1)) : mNotT t ε = some (!b, ε1) := by simp [mNotT, h]
theorem e_if {t : TM} {x y : XM} {r : Option (Fl × Cs)} (h : t ε = some (b, ε1)) (hr : (if b then x ε1 else y ε1) = r) : mIf t x y ε = r := by simp [mIf, h, ← hr]
end
theorem set_back {ε : Cs} {i : Nat} {c0 c1 : C} (h : ε[i]? = some c0) : (ε.set i c1).set i c0 = ε := by
  rw [List.set_set]
  apply List.ext_getElem?
  intro j
  by_cases ej : i = j
  · subst ej
    rw [List.getElem?_set_self (List.getElem?_eq_some_iff.mp h).1, h]
  · rw [List.getElem?_set_ne ej]
/-- a comprehension over items of one form -/
theorem mLc_enc {α : Type} (f e : α → PyData) {i : Nat} {src : SM} {m : EM} {ε ε1 : Cs} {xs : List α} {c0 : C} {ws : List Nat} (hs : src ε = some ((xs.map f, ws), ε1)) (h1 : ε1[i]? = some c0) (h : ∀ x ∈ xs, ∃ c, m (ε1.set i (.sh (f x))) = some (c, ε1.set i (.sh (f x))) ∧ cD c = some (e x)) (hn : xs.length ≤ sizeLine) (hw : ws.all (fun j => !([i] : List Nat).contains j) = true := by rfl) :
    mLc src (bNm i) mYes m [i] ε = some (.ls (xs.map e), ε1) := by
  have hl : i < ε1.length := (List.getElem?_eq_some_iff.mp h1).1
  have hsm : sameC ws ε1 (ε1.set i .no) := by
    intro j hj
    have := List.all_eq_true.mp hw j hj
    have ne : i ≠ j := by
      rintro rfl
      simp at this
    rw [List.getElem?_set_ne ne]
  obtain ⟨out, ε2, e1, e2, e3⟩ := lc_rule (src := src) (bind := bNm i) (tests := mYes) (elt := m) (own := [i]) (ε := ε) (fun k out ε2 => out = (xs.take k).map e ∧ ε2 = ε1.set i .no) hs hw ⟨by simp, by simp [wipeC]⟩ (fun _ _ _ h => by rw [h.2]; exact hsm) (by simpa using hn) (by
    rintro k d out ε2 hd ⟨rfl, rfl⟩
    rw [List.getElem?_map] at hd
    obtain ⟨x, hx, rfl⟩ := Option.map_eq_some_iff.mp hd
    obtain ⟨hk, rfl⟩ := List.getElem?_eq_some_iff.mp hx
    obtain ⟨c, g1, g2⟩ := h _ (List.getElem_mem hk)
    refine ⟨ε1.set i (.sh (f xs[k])), true, _, by simp [bNm, hl], rfl, fun z => (by cases z), fun _ => ⟨c, _, _, g1, g2, ?_, ?_⟩⟩
    · rw [List.take_succ_eq_append_getElem hk, List.map_append]
      rfl
    · simp [wipeC])
  subst e3
  rw [List.length_map, List.take_of_length_le (Nat.le_refl _)] at e2
  subst e2
  rw [e1]
  simp only [restC, h1]
  rw [set_back h1]
/-- .. over whole numbers -/
theorem mLc_ints (g : Int → Int) {i : Nat} {src : SM} {m : EM} {ε ε1 : Cs} {xs : List Int} {c0 : C} {ws : List Nat} (hs : src ε = some ((xs.map PyData.int, ws), ε1)) (h1 : ε1[i]? = some c0) (h : ∀ x ∈ xs, m (ε1.set i (.sh (.int x))) = some (.sh (.int (g x)), ε1.set i (.sh (.int x)))) (hn : xs.length ≤ sizeLine) (hw : ws.all (fun j => !([i] : List Nat).contains j) = true := by rfl) :
    mLc src (bNm i) mYes m [i] ε = some (.ls ((xs.map g).map PyData.int), ε1) := by
  rw [mLc_enc PyData.int (fun x => .int (g x)) hs h1 (fun x hx => ⟨_, h x hx, rfl⟩) hn hw, List.map_map]
  rfl
/-- .. over numbers from 0 on -/
theorem mLc_rng (e : Nat → PyData) {i : Nat} {src : SM} {m : EM} {ε ε1 : Cs} {n : Nat} {c0 : C} {ws : List Nat} (hs : src ε = some ((rangeD 0 1 n, ws), ε1)) (h1 : ε1[i]? = some c0) (h : ∀ x < n, ∃ c, m (ε1.set i (.sh (.int x))) = some (c, ε1.set i (.sh (.int x))) ∧ cD c = some (e x)) (hn : n ≤ sizeLine) (hw : ws.all (fun j => !([i] : List Nat).contains j) = true := by rfl) :
    mLc src (bNm i) mYes m [i] ε = some (.ls ((List.range n).map e), ε1) := by
  have er : rangeD 0 1 n = (List.range n).map fun (k : Nat) => PyData.int (k : Int) := by
    unfold rangeD
    apply List.map_congr_left
    intro k _
    simp
  rw [er] at hs
  exact mLc_enc (fun (k : Nat) => PyData.int (k : Int)) e hs h1 (fun x hx => h x (List.mem_range.mp hx)) (by simpa using hn) hw
/-- all([w(x) for x in xs]), w a test of one thing that all are -/
theorem mLc_yes {i : Nat} {src : SM} {m : EM} {ε ε1 : Cs} {ds : List PyData} {c0 : C} {ws : List Nat} (hs : src ε = some ((ds, ws), ε1)) (h1 : ε1[i]? = some c0) (h : ∀ d ∈ ds, m (ε1.set i (.sh d)) = some (.sh (.bool true), ε1.set i (.sh d))) (hn : ds.length ≤ sizeLine) (hw : ws.all (fun j => !([i] : List Nat).contains j) = true := by rfl) :
    mOp (Bg.f .all) (mCons (mTm (mLc src (bNm i) mYes m [i])) mNil) ε = some (.sh (.bool true), ε1) := by
  refine e_op1 (mLc_enc id (fun _ => .bool true) (by rw [List.map_id]; exact hs) h1 (fun d hd => ⟨_, h d hd, rfl⟩) hn hw) rfl ?_
  have : ∀ ds : List PyData, boolsOf (ds.map fun _ => PyData.bool true) = some (ds.map fun _ => true) := fun ds => bools_map (fun _ => true) ds
  simp [Bg.f, allD, this]
/-- a comprehension over pairs, taken apart -/
theorem mLc_two {α : Type} (f1 f2 e : α → PyData) {i j : Nat} {src : SM} {m : EM} {ε ε1 : Cs} {xs : List α} {c0 c1 : C} {ws : List Nat} (hs : src ε = some ((xs.map fun x => PyData.tuple [f1 x, f2 x], ws), ε1)) (hij : i ≠ j) (h0 : ε1[i]? = some c0) (h1 : ε1[j]? = some c1) (h : ∀ x ∈ xs, ∃ c, m ((ε1.set i (.sh (f1 x))).set j (.sh (f2 x))) = some (c, (ε1.set i (.sh (f1 x))).set j (.sh (f2 x))) ∧ cD c = some (e x)) (hn : xs.length ≤ sizeLine) (hw : ws.all (fun k => !([i, j] : List Nat).contains k) = true := by rfl) :
    mLc src (bTup [bNm i, bNm j]) mYes m [i, j] ε = some (.ls (xs.map e), ε1) := by
  have hl : i < ε1.length := (List.getElem?_eq_some_iff.mp h0).1
  have hl2 : j < ε1.length := (List.getElem?_eq_some_iff.mp h1).1
  have hsm : sameC ws ε1 ((ε1.set j .no).set i .no) := by
    intro k hk
    have := List.all_eq_true.mp hw k hk
    simp at this
    rw [List.getElem?_set_ne (by omega), List.getElem?_set_ne (by omega)]
  obtain ⟨out, ε2, e1, e2, e3⟩ := lc_rule (src := src) (bind := bTup [bNm i, bNm j]) (tests := mYes) (elt := m) (own := [i, j]) (ε := ε) (fun k out ε2 => out = (xs.take k).map e ∧ ε2 = (ε1.set j .no).set i .no) hs hw ⟨by simp, by simp [wipeC]⟩ (fun _ _ _ h => by rw [h.2]; exact hsm) (by simpa using hn) (by
    rintro k d out ε2 hd ⟨rfl, rfl⟩
    rw [List.getElem?_map] at hd
    obtain ⟨x, hx, rfl⟩ := Option.map_eq_some_iff.mp hd
    obtain ⟨hk, rfl⟩ := List.getElem?_eq_some_iff.mp hx
    obtain ⟨c, g1, g2⟩ := h _ (List.getElem_mem hk)
    refine ⟨(ε1.set i (.sh (f1 xs[k]))).set j (.sh (f2 xs[k])), true, _, by simp [bTup, bTps, bNm, hl, hl2]; rw [List.set_comm _ _ (show j ≠ i by omega), List.set_set], rfl, fun z => (by cases z), fun _ => ⟨c, _, _, g1, g2, ?_, ?_⟩⟩
    · rw [List.take_succ_eq_append_getElem hk, List.map_append]
      rfl
    · simp only [wipeC, List.set_set]
      rw [List.set_comm _ _ hij, List.set_set, List.set_comm _ _ (show j ≠ i by omega)])
  subst e3
  rw [List.length_map, List.take_of_length_le (Nat.le_refl _)] at e2
  subst e2
  rw [e1]
  simp only [restC, h0, h1]
  congr 2
  rw [List.set_comm _ _ (show j ≠ i by omega), List.set_set, List.set_comm _ _ hij, List.set_set]
  apply List.ext_getElem?
  intro k
  by_cases ej : i = k
  · subst ej
    rw [List.getElem?_set_self (by simpa using hl), h0]
  · rw [List.getElem?_set_ne ej]
    by_cases ej2 : j = k
    · subst ej2
      rw [List.getElem?_set_self hl2, h1]
    · rw [List.getElem?_set_ne ej2]
/-- .. those that a test lets through -/
theorem mLc_twoF {α : Type} (f1 f2 e : α → PyData) (q : α → Bool) {i j : Nat} {src : SM} {tests : TM} {m : EM} {ε ε1 : Cs} {xs : List α} {c0 c1 : C} {ws : List Nat} (hs : src ε = some ((xs.map fun x => PyData.tuple [f1 x, f2 x], ws), ε1)) (hij : i ≠ j) (h0 : ε1[i]? = some c0) (h1 : ε1[j]? = some c1) (ht : ∀ x ∈ xs, tests ((ε1.set i (.sh (f1 x))).set j (.sh (f2 x))) = some (q x, (ε1.set i (.sh (f1 x))).set j (.sh (f2 x)))) (h : ∀ x ∈ xs, q x = true → ∃ c, m ((ε1.set i (.sh (f1 x))).set j (.sh (f2 x))) = some (c, (ε1.set i (.sh (f1 x))).set j (.sh (f2 x))) ∧ cD c = some (e x)) (hn : xs.length ≤ sizeLine) (hw : ws.all (fun k => !([i, j] : List Nat).contains k) = true := by rfl) :
    mLc src (bTup [bNm i, bNm j]) tests m [i, j] ε = some (.ls ((xs.filter q).map e), ε1) := by
  have hl : i < ε1.length := (List.getElem?_eq_some_iff.mp h0).1
  have hl2 : j < ε1.length := (List.getElem?_eq_some_iff.mp h1).1
  have hsm : sameC ws ε1 ((ε1.set j .no).set i .no) := by
    intro k hk
    have := List.all_eq_true.mp hw k hk
    simp at this
    rw [List.getElem?_set_ne (by omega), List.getElem?_set_ne (by omega)]
  have back : ∀ x : α, ((((ε1.set i (.sh (f1 x))).set j (.sh (f2 x))).set j .no).set i .no) = (ε1.set j .no).set i .no := by
    intro x
    simp only [List.set_set]
    rw [List.set_comm _ _ hij, List.set_set, List.set_comm _ _ (show j ≠ i by omega)]
  obtain ⟨out, ε2, e1, e2, e3⟩ := lc_rule (src := src) (bind := bTup [bNm i, bNm j]) (tests := tests) (elt := m) (own := [i, j]) (ε := ε) (fun k out ε2 => out = ((xs.take k).filter q).map e ∧ ε2 = (ε1.set j .no).set i .no) hs hw ⟨by simp, by simp [wipeC]⟩ (fun _ _ _ h => by rw [h.2]; exact hsm) (by simpa using hn) (by
    rintro k d out ε2 hd ⟨rfl, rfl⟩
    rw [List.getElem?_map] at hd
    obtain ⟨x, hx, rfl⟩ := Option.map_eq_some_iff.mp hd
    obtain ⟨hk, rfl⟩ := List.getElem?_eq_some_iff.mp hx
    refine ⟨(ε1.set i (.sh (f1 xs[k]))).set j (.sh (f2 xs[k])), q xs[k], _, by simp [bTup, bTps, bNm, hl, hl2]; rw [List.set_comm _ _ (show j ≠ i by omega), List.set_set], ht _ (List.getElem_mem hk), fun z => ⟨?_, ?_⟩, fun z => ?_⟩
    · rw [List.take_succ_eq_append_getElem hk, List.filter_append]
      simp [z]
    · simp only [wipeC]
      exact back _
    · obtain ⟨c, g1, g2⟩ := h _ (List.getElem_mem hk) z
      refine ⟨c, _, _, g1, g2, ?_, ?_⟩
      · rw [List.take_succ_eq_append_getElem hk, List.filter_append]
        simp [z]
      · simp only [wipeC]
        exact back _)
  subst e3
  rw [List.length_map, List.take_of_length_le (Nat.le_refl _)] at e2
  subst e2
  rw [e1]
  simp only [restC, h0, h1]
  congr 2
  rw [List.set_comm _ _ (show j ≠ i by omega), List.set_set, List.set_comm _ _ hij, List.set_set]
  apply List.ext_getElem?
  intro k
  by_cases ej : i = k
  · subst ej
    rw [List.getElem?_set_self (by simpa using hl), h0]
  · rw [List.getElem?_set_ne ej]
    by_cases ej2 : j = k
    · subst ej2
      rw [List.getElem?_set_self hl2, h1]
    · rw [List.getElem?_set_ne ej2]
theorem src_items {m : EM} {ε ε1 : Cs} {c : C} {ds : List PyData} (h : m ε = some (c, ε1)) (hc : c = .ls ds ∨ c = .sh (.list ds) ∨ c = .sh (.tuple ds)) : mSrc itemsD (mCons (mTm m) mNil) ε = some ((ds, []), ε1) := by
  rcases hc with rfl | rfl | rfl <;> simp [mSrc, mCons, mTm, mNil, h, bors, bor, itemsD, plOf]
theorem src_pl {i : Nat} {ε : Cs} {c : C} {ds : List PyData} (h : ε[i]? = some c) (hc : c = .ls ds ∨ c = .sh (.list ds) ∨ c = .sh (.tuple ds)) : mSrc itemsD (mCons (mPl i) mNil) ε = some ((ds, [i]), ε) := by
  rcases hc with rfl | rfl | rfl <;> simp [mSrc, mCons, mPl, mNil, h, bors, bor, itemsD, plOf]
end KW

namespace KW
open PySem PySem.Spec PyProof.Rows L2 L2.M
local macro_rules | `(tactic| walk_at "ev") => `(tactic| simp [semF, shared, after, mSeq, mSkip, mIf, mRet, mRetN, mRetV, mSet, mSetIx, mExpr, mB, mU, mTm, mPl, mK, mVar, mOp, mCons, mNil, bor, bors, mTst, mAndT, mOrT, mNotT, mAndE, mOrE, mNotE, mIfE, mIsi, isiD, mChn, chnL, cmpD, binD, addD, subD, mulD, modD, fdivD, powD, eqD, neD, ltD, leD, gtD, geD, isD, isnD, L2.M.isNon, negD, ixD, Bf.f, Bg.f, lenD, L2.M.intD, maxD, minD, repD, strD, gmaxD, gminD, sumD, sortD, anyD, allD, mCall, frz, fzO, cellO, cellsO, dist, notPl, wb, mTup, mLst, fzs, cD, mAsg, bTup, bTps, mApp, tupD, lstD, mRev, revD, ofs_inj, ee_ii, ee_ss, ee_bb, ee_nn, ee_is, ee_si, ee_in, ee_ni, ee_tt, ee_ll, ee_maps, ee_0, ee_1, ee_2, ee_3, at_lit, at_nat, at_m1, at_m2, scD, emD, sizeLine_eq, ixN, sm_lit, mSrc, itemsD, plOf, rng1D, bNm, mSl, mPt, mNoP, slD, mPar, keepT, tmsO, setA, mFlow, zipX, enumX, itemsX, intsOf, ints_all, boolsOf, shaped_lay, lay_int, lay_bool, lay_none, lay_dict, lay_tup, lay_list, lay_ints, sortX_ints])
local macro_rules | `(tactic| walk_at "es") => `(tactic| simp [semF, shared, after, mSeq, mSkip, mIf, mRet, mRetN, mRetV, mSet, mSetIx, mExpr, mB, mU, mTm, mPl, mK, mVar, mOp, mCons, mNil, bor, bors, mTst, mAndT, mOrT, mNotT, mAndE, mOrE, mNotE, mIfE, mIsi, isiD, mChn, chnL, cmpD, binD, addD, subD, mulD, modD, fdivD, powD, eqD, neD, ltD, leD, gtD, geD, isD, isnD, L2.M.isNon, negD, ixD, Bf.f, Bg.f, lenD, L2.M.intD, maxD, minD, repD, strD, gmaxD, gminD, sumD, sortD, anyD, allD, mCall, frz, fzO, cellO, cellsO, dist, notPl, wb, mTup, mLst, fzs, cD, mAsg, bTup, bTps, mApp, tupD, lstD, mRev, revD, ofs_inj, ee_ii, ee_ss, ee_bb, ee_nn, ee_is, ee_si, ee_in, ee_ni, ee_tt, ee_ll, ee_maps, ee_0, ee_1, ee_2, ee_3, at_lit, at_nat, at_m1, at_m2, scD, emD, sizeLine_eq, ixN, sm_lit, mSrc, itemsD, plOf, rng1D, bNm, mSl, mPt, mNoP, slD, mPar, keepT, tmsO, setA, mFlow, zipX, enumX, itemsX, intsOf, ints_all, boolsOf, shaped_lay, lay_int, lay_bool, lay_none, lay_dict, lay_tup, lay_list, lay_ints, sortX_ints, *])
local macro_rules | `(tactic| walk_at "el") => `(tactic| simp [semF, shared, after, mSeq, mSkip, mIf, mRet, mRetN, mRetV, mSet, mSetIx, mExpr, mB, mU, mTm, mPl, mK, mVar, mOp, mCons, mNil, bor, bors, mTst, mAndT, mOrT, mNotT, mAndE, mOrE, mNotE, mIfE, mIsi, isiD, mChn, chnL, cmpD, binD, addD, subD, mulD, modD, fdivD, powD, eqD, neD, ltD, leD, gtD, geD, isD, isnD, L2.M.isNon, negD, ixD, Bf.f, Bg.f, lenD, L2.M.intD, maxD, minD, repD, strD, gmaxD, gminD, sumD, sortD, anyD, allD, mCall, frz, fzO, cellO, cellsO, dist, notPl, wb, mTup, mLst, fzs, cD, mAsg, bTup, bTps, mApp, tupD, lstD, mRev, revD, ofs_inj, ee_ii, ee_ss, ee_bb, ee_nn, ee_is, ee_si, ee_in, ee_ni, ee_tt, ee_ll, ee_maps, ee_0, ee_1, ee_2, ee_3, at_lit, at_nat, at_m1, at_m2, scD, emD, sizeLine_eq, ixN, sm_lit, mSrc, itemsD, plOf, rng1D, bNm, mSl, mPt, mNoP, slD, mPar, keepT, tmsO, setA, mFlow, zipX, enumX, itemsX, intsOf, ints_all, boolsOf, shaped_lay, lay_int, lay_bool, lay_none, lay_dict, lay_tup, lay_list, lay_ints, sortX_ints, mLc, lcL, sameC, wipeC, restC, mYes, *])
local macro_rules | `(tactic| walk_at "ef") => `(tactic| simp [semF, shared, after, mSeq, mSkip, mIf, mRet, mRetN, mRetV, mSet, mSetIx, mExpr, mB, mU, mTm, mPl, mK, mVar, mOp, mCons, mNil, bor, bors, mTst, mAndT, mOrT, mNotT, mAndE, mOrE, mNotE, mIfE, mIsi, isiD, mChn, chnL, cmpD, binD, addD, subD, mulD, modD, fdivD, powD, eqD, neD, ltD, leD, gtD, geD, isD, isnD, L2.M.isNon, negD, ixD, Bf.f, Bg.f, lenD, L2.M.intD, maxD, minD, repD, strD, gmaxD, gminD, sumD, sortD, anyD, allD, mCall, frz, fzO, cellO, cellsO, dist, notPl, wb, mTup, mLst, fzs, cD, mAsg, bTup, bTps, mApp, tupD, lstD, mRev, revD, ofs_inj, ee_ii, ee_ss, ee_bb, ee_nn, ee_is, ee_si, ee_in, ee_ni, ee_tt, ee_ll, ee_maps, ee_0, ee_1, ee_2, ee_3, at_lit, at_nat, at_m1, at_m2, scD, emD, sizeLine_eq, ixN, sm_lit, mSrc, itemsD, plOf, rng1D, bNm, mSl, mPt, mNoP, slD, mPar, keepT, tmsO, setA, mFlow, zipX, enumX, itemsX, intsOf, ints_all, boolsOf, shaped_lay, lay_int, lay_bool, lay_none, lay_dict, lay_tup, lay_list, lay_ints, sortX_ints, mFor, forL, mLc, lcL, sameC, wipeC, restC, mYes, *])
local macro_rules | `(tactic| walk_at "rg") => `(tactic| (and_intros <;> grind))
local macro_rules | `(tactic| walk_at "nx") => `(tactic| (apply wx_nx; focus (walk_at "ev"; try first | exact ⟨rfl, rfl⟩ | rfl)))
local macro_rules | `(tactic| walk_at "ns") => `(tactic| (apply wx_nx; focus (walk_at "es"; try first | exact ⟨rfl, rfl⟩ | rfl)))
local macro_rules | `(tactic| walk_at "rt") => `(tactic| (apply wx_rt; focus (walk_at "ev"; try first | exact ⟨rfl, rfl⟩ | rfl)))
local macro_rules | `(tactic| walk_at "rs") => `(tactic| (apply wx_rt; focus (walk_at "es"; try first | exact ⟨rfl, rfl⟩ | rfl)))

/-! ### what repr takes: how long its text is at most -/
structure Shw (k n : Nat) (d : PyData) : Prop where
  l : lay k d = true
  s : d.showable = true
  z : d.shown.length ≤ n
theorem Shw.mono {k k' n n' : Nat} {d : PyData} (h : Shw k n d) (hk : k ≤ k') (hn : n ≤ n') : Shw k' n' d := ⟨lay_mono hk h.l, h.s, Nat.le_trans h.z hn⟩
theorem shw_none (k : Nat) : Shw k 4 .none := ⟨lay_none k, by simp [PyData.showable], by simp only [PyData.shown]; decide⟩
theorem shw_bool (k : Nat) (b : Bool) : Shw k 5 (.bool b) := ⟨lay_bool k b, by simp [PyData.showable], by cases b <;> (simp only [PyData.shown]; decide)⟩
theorem shw_int (k : Nat) {m : Nat} {i : Int} (hm : 0 < m) (h : i.natAbs < 10 ^ m) (hm2 : m ≤ 60) : Shw k (m + 1) (.int i) := by
  have hb : i.natAbs < 10 ^ 60 := Nat.lt_of_lt_of_le h (Nat.pow_le_pow_right (by decide) hm2)
  refine ⟨lay_int k i, ?_, ?_⟩
  · have := log2_le (i := i) (by omega) (by omega)
    simp only [PyData.showable, decide_eq_true_eq]
    omega
  · simp only [PyData.shown]
    have := int_text_length_le10 hm h
    rw [PySem.ofString_length]
    exact this
theorem shw_i20 (k : Nat) {i : Int} (h1 : -(10 ^ 19) < i) (h2 : i < 10 ^ 19) : Shw k 20 (.int i) := shw_int k (m := 19) (by decide) (by omega) (by decide)
theorem shw_str (k : Nat) {s : Str} {n : Nat} (h1 : PyData.strOk s = true) (h2 : (reprText s).length ≤ n) : Shw k n (.str s) := ⟨by rw [lay_str]; exact h1, by simp [PyData.showable], by simp only [PyData.shown]; exact h2⟩
theorem text_len : ∀ (ts : List Str) (k : Nat) (acc : Str), (textFrom k acc ts).length ≤ acc.length + piled ts
  | [], k, acc => by simp [textFrom, piled]
  | t :: ts, k, acc => by
    have ih := text_len ts (k + 1) (acc ++ (if k > 0 then ", " else "" : String) ++ t)
    rw [strLen_append, strLen_append] at ih
    have hs : (Str.ofString (if k > 0 then ", " else "")).length ≤ 2 := by split <;> decide
    have e : textFrom k acc (t :: ts) = textFrom (k + 1) (acc ++ (if k > 0 then ", " else "" : String) ++ t) ts := rfl
    rw [e, piled_cons]
    omega
theorem list_len (ts : List Str) : (listText ts).length ≤ piled ts + 2 := by
  have h := text_len ts 0 "["
  have e : ("[" : Str).length = 1 := by decide
  have e2 : ("]" : Str).length = 1 := by decide
  unfold listText
  rw [strLen_append]
  omega
theorem tuple_len (ts : List Str) : (tupleText ts).length ≤ piled ts + 3 := by
  unfold tupleText
  rw [strLen_append, strLen_append]
  have e : ("(" : Str).length = 1 := by decide
  have e2 : (Str.ofString (if ts.length == 1 then ",)" else ")")).length ≤ 2 := by split <;> decide
  by_cases h : ts = []
  · subst h
    have e3 : (Str.join ", " []).length = 0 := by decide
    omega
  · have := join_length_add ts h
    omega
theorem piled_all : ∀ {k n : Nat} {ds : List PyData}, (∀ d ∈ ds, Shw k n d) → piled (PyData.shownAll ds) ≤ ds.length * (n + 2)
  | k, n, [], _ => by simp [PyData.shownAll, piled]
  | k, n, d :: ds, h => by
    have h1 := (h d List.mem_cons_self).z
    have ih := piled_all (k := k) (n := n) (ds := ds) fun d hd => h d (List.mem_cons_of_mem _ hd)
    simp only [PyData.shownAll, piled_cons, List.length_cons, Nat.add_mul, Nat.one_mul]
    omega
theorem showable_all : ∀ {k n : Nat} {ds : List PyData}, (∀ d ∈ ds, Shw k n d) → PyData.showableAll ds = true
  | k, n, [], _ => by simp [PyData.showableAll]
  | k, n, d :: ds, h => by
    have ih := showable_all (k := k) (n := n) (ds := ds) fun d hd => h d (List.mem_cons_of_mem _ hd)
    simp only [PyData.showableAll, ih, (h d List.mem_cons_self).s, Bool.and_self]
theorem shw_tup {k n : Nat} {ds : List PyData} (h : ∀ d ∈ ds, Shw k n d) : Shw (k + 1) (ds.length * (n + 2) + 3) (.tuple ds) := by
  refine ⟨?_, ?_, ?_⟩
  · rw [lay_tup _ (by omega)]
    simp only [Nat.add_sub_cancel, List.all_eq_true]
    exact fun d hd => (h d hd).l
  · simp only [PyData.showable]
    exact showable_all h
  · simp only [PyData.shown]
    have := tuple_len (PyData.shownAll ds)
    have := piled_all h
    omega
theorem shw_lst {k n : Nat} {ds : List PyData} (h : ∀ d ∈ ds, Shw k n d) : Shw (k + 1) (ds.length * (n + 2) + 3) (.list ds) := by
  refine ⟨?_, ?_, ?_⟩
  · rw [lay_list _ (by omega)]
    simp only [Nat.add_sub_cancel, List.all_eq_true]
    exact fun d hd => (h d hd).l
  · simp only [PyData.showable]
    exact showable_all h
  · simp only [PyData.shown]
    have := list_len (PyData.shownAll ds)
    have := piled_all h
    omega
theorem reprG_eq {k n : Nat} {d : PyData} (h : Shw k n d) (hk : k ≤ 64) (hn : n ≤ sizeLine) : reprG [d] = some (.sh (.str d.shown)) := by
  have h1 : SeqAt.shaped d = true := by
    rw [shaped_lay]
    exact lay_mono hk h.l
  have h2 := h.s
  have h3 := Nat.le_trans h.z hn
  simp only [reprG]
  rw [if_pos ⟨h1, h2, h3⟩]
/-- of tuples of tuples and the like: each item by its own bound -/
theorem shw_cons {k n : Nat} {d : PyData} {ds : List PyData} (h1 : Shw k n d) (h2 : ∀ d ∈ ds, Shw k n d) : ∀ x ∈ d :: ds, Shw k n x := by
  intro x hx
  rcases List.mem_cons.mp hx with rfl | hx
  · exact h1
  · exact h2 x hx
theorem shw_nil {k n : Nat} : ∀ x ∈ ([] : List PyData), Shw k n x := fun x hx => by cases hx
end KW

namespace KW
open PySem PySem.Spec PyProof.Rows L2 L2.M
local macro_rules | `(tactic| walk_at "ev") => `(tactic| simp [semF, shared, after, mSeq, mSkip, mIf, mRet, mRetN, mRetV, mSet, mSetIx, mExpr, mB, mU, mTm, mPl, mK, mVar, mOp, mCons, mNil, bor, bors, mTst, mAndT, mOrT, mNotT, mAndE, mOrE, mNotE, mIfE, mIsi, isiD, mChn, chnL, cmpD, binD, addD, subD, mulD, modD, fdivD, powD, eqD, neD, ltD, leD, gtD, geD, isD, isnD, L2.M.isNon, negD, ixD, Bf.f, Bg.f, lenD, L2.M.intD, maxD, minD, repD, strD, gmaxD, gminD, sumD, sortD, anyD, allD, mCall, frz, fzO, cellO, cellsO, dist, notPl, wb, mTup, mLst, fzs, cD, mAsg, bTup, bTps, mApp, tupD, lstD, mRev, revD, ofs_inj, ee_ii, ee_ss, ee_bb, ee_nn, ee_is, ee_si, ee_in, ee_ni, ee_tt, ee_ll, ee_maps, ee_0, ee_1, ee_2, ee_3, at_lit, at_nat, at_m1, at_m2, scD, emD, sizeLine_eq, ixN, sm_lit, mSrc, itemsD, plOf, rng1D, bNm, mSl, mPt, mNoP, slD, mPar, keepT, tmsO, setA, mFlow, zipX, enumX, itemsX, intsOf, ints_all, boolsOf, shaped_lay, lay_int, lay_bool, lay_none, lay_dict, lay_tup, lay_list, lay_ints, sortX_ints])
local macro_rules | `(tactic| walk_at "es") => `(tactic| simp [semF, shared, after, mSeq, mSkip, mIf, mRet, mRetN, mRetV, mSet, mSetIx, mExpr, mB, mU, mTm, mPl, mK, mVar, mOp, mCons, mNil, bor, bors, mTst, mAndT, mOrT, mNotT, mAndE, mOrE, mNotE, mIfE, mIsi, isiD, mChn, chnL, cmpD, binD, addD, subD, mulD, modD, fdivD, powD, eqD, neD, ltD, leD, gtD, geD, isD, isnD, L2.M.isNon, negD, ixD, Bf.f, Bg.f, lenD, L2.M.intD, maxD, minD, repD, strD, gmaxD, gminD, sumD, sortD, anyD, allD, mCall, frz, fzO, cellO, cellsO, dist, notPl, wb, mTup, mLst, fzs, cD, mAsg, bTup, bTps, mApp, tupD, lstD, mRev, revD, ofs_inj, ee_ii, ee_ss, ee_bb, ee_nn, ee_is, ee_si, ee_in, ee_ni, ee_tt, ee_ll, ee_maps, ee_0, ee_1, ee_2, ee_3, at_lit, at_nat, at_m1, at_m2, scD, emD, sizeLine_eq, ixN, sm_lit, mSrc, itemsD, plOf, rng1D, bNm, mSl, mPt, mNoP, slD, mPar, keepT, tmsO, setA, mFlow, zipX, enumX, itemsX, intsOf, ints_all, boolsOf, shaped_lay, lay_int, lay_bool, lay_none, lay_dict, lay_tup, lay_list, lay_ints, sortX_ints, *])
local macro_rules | `(tactic| walk_at "el") => `(tactic| simp [semF, shared, after, mSeq, mSkip, mIf, mRet, mRetN, mRetV, mSet, mSetIx, mExpr, mB, mU, mTm, mPl, mK, mVar, mOp, mCons, mNil, bor, bors, mTst, mAndT, mOrT, mNotT, mAndE, mOrE, mNotE, mIfE, mIsi, isiD, mChn, chnL, cmpD, binD, addD, subD, mulD, modD, fdivD, powD, eqD, neD, ltD, leD, gtD, geD, isD, isnD, L2.M.isNon, negD, ixD, Bf.f, Bg.f, lenD, L2.M.intD, maxD, minD, repD, strD, gmaxD, gminD, sumD, sortD, anyD, allD, mCall, frz, fzO, cellO, cellsO, dist, notPl, wb, mTup, mLst, fzs, cD, mAsg, bTup, bTps, mApp, tupD, lstD, mRev, revD, ofs_inj, ee_ii, ee_ss, ee_bb, ee_nn, ee_is, ee_si, ee_in, ee_ni, ee_tt, ee_ll, ee_maps, ee_0, ee_1, ee_2, ee_3, at_lit, at_nat, at_m1, at_m2, scD, emD, sizeLine_eq, ixN, sm_lit, mSrc, itemsD, plOf, rng1D, bNm, mSl, mPt, mNoP, slD, mPar, keepT, tmsO, setA, mFlow, zipX, enumX, itemsX, intsOf, ints_all, boolsOf, shaped_lay, lay_int, lay_bool, lay_none, lay_dict, lay_tup, lay_list, lay_ints, sortX_ints, mLc, lcL, sameC, wipeC, restC, mYes, *])
local macro_rules | `(tactic| walk_at "ef") => `(tactic| simp [semF, shared, after, mSeq, mSkip, mIf, mRet, mRetN, mRetV, mSet, mSetIx, mExpr, mB, mU, mTm, mPl, mK, mVar, mOp, mCons, mNil, bor, bors, mTst, mAndT, mOrT, mNotT, mAndE, mOrE, mNotE, mIfE, mIsi, isiD, mChn, chnL, cmpD, binD, addD, subD, mulD, modD, fdivD, powD, eqD, neD, ltD, leD, gtD, geD, isD, isnD, L2.M.isNon, negD, ixD, Bf.f, Bg.f, lenD, L2.M.intD, maxD, minD, repD, strD, gmaxD, gminD, sumD, sortD, anyD, allD, mCall, frz, fzO, cellO, cellsO, dist, notPl, wb, mTup, mLst, fzs, cD, mAsg, bTup, bTps, mApp, tupD, lstD, mRev, revD, ofs_inj, ee_ii, ee_ss, ee_bb, ee_nn, ee_is, ee_si, ee_in, ee_ni, ee_tt, ee_ll, ee_maps, ee_0, ee_1, ee_2, ee_3, at_lit, at_nat, at_m1, at_m2, scD, emD, sizeLine_eq, ixN, sm_lit, mSrc, itemsD, plOf, rng1D, bNm, mSl, mPt, mNoP, slD, mPar, keepT, tmsO, setA, mFlow, zipX, enumX, itemsX, intsOf, ints_all, boolsOf, shaped_lay, lay_int, lay_bool, lay_none, lay_dict, lay_tup, lay_list, lay_ints, sortX_ints, mFor, forL, mLc, lcL, sameC, wipeC, restC, mYes, *])
local macro_rules | `(tactic| walk_at "rg") => `(tactic| (and_intros <;> grind))
local macro_rules | `(tactic| walk_at "nx") => `(tactic| (apply wx_nx; focus (walk_at "ev"; try first | exact ⟨rfl, rfl⟩ | rfl)))
local macro_rules | `(tactic| walk_at "ns") => `(tactic| (apply wx_nx; focus (walk_at "es"; try first | exact ⟨rfl, rfl⟩ | rfl)))
local macro_rules | `(tactic| walk_at "rt") => `(tactic| (apply wx_rt; focus (walk_at "ev"; try first | exact ⟨rfl, rfl⟩ | rfl)))
local macro_rules | `(tactic| walk_at "rs") => `(tactic| (apply wx_rt; focus (walk_at "es"; try first | exact ⟨rfl, rfl⟩ | rfl)))

/-- what a house leaves of the time -/
def lft (t n k : Int) : Int := if 0 < t - n - k then t - n - k else 0
/-- the times at the houses that are reached -/
def tsL : List (Int × Int) → Int → List Int
  | [], _ => []
  | p :: rs, t => t :: (if t < p.1 then [] else tsL rs (lft t p.1 p.2))
/-- the house that turns it away -/
def stp : List (Int × Int) → Int → Option Nat
  | [], _ => none
  | p :: rs, t => if t < p.1 then some 0 else (stp rs (lft t p.1 p.2)).map (· + 1)
theorem lft_pos {t n k : Int} (h : 0 < t - n - k) : lft t n k = t - n - k := if_pos h
theorem lft_neg {t n k : Int} (h : ¬ 0 < t - n - k) : lft t n k = 0 := if_neg h
theorem lft_bd {t n k : Int} (h0 : 0 ≤ t) (hn : 0 ≤ n) (hk : 0 ≤ k) : 0 ≤ lft t n k ∧ lft t n k ≤ t := by
  unfold lft
  split <;> omega
theorem tsL_len : ∀ (rs : List (Int × Int)) (t : Int), (tsL rs t).length ≤ rs.length
  | [], _ => Nat.le_refl _
  | p :: rs, t => by
    have ih := tsL_len rs (lft t p.1 p.2)
    unfold tsL
    split <;> simp
    omega
theorem tsL_bd : ∀ (rs : List (Int × Int)) (t : Int), 0 ≤ t → (∀ p ∈ rs, 0 ≤ p.1 ∧ 0 ≤ p.2) → ∀ x ∈ tsL rs t, 0 ≤ x ∧ x ≤ t
  | [], _, _, _ => fun x hx => by cases hx
  | p :: rs, t, h0, h => fun x hx => by
    have hp := h p (by simp)
    have b := lft_bd h0 hp.1 hp.2
    unfold tsL at hx
    rcases List.mem_cons.mp hx with rfl | hx
    · omega
    · split at hx
      · cases hx
      · have := tsL_bd rs _ b.1 (fun q hq => h q (List.mem_cons_of_mem _ hq)) x hx
        omega
theorem stp_lt : ∀ (rs : List (Int × Int)) (t : Int) (i : Nat), stp rs t = some i → i < rs.length
  | [], _, i, h => by cases h
  | p :: rs, t, i, h => by
    unfold stp at h
    split at h
    · cases h
      simp
    · obtain ⟨j, hj, rfl⟩ := Option.map_eq_some_iff.mp h
      have := stp_lt rs _ j hj
      simp
      exact this
/-- the last time and its house tell who turned it away -/
theorem ts_last : ∀ (rs : List (Int × Int)) (t : Int), rs ≠ [] → ∃ (l : Nat) (v : Int) (p : Int × Int), (tsL rs t).length = l + 1 ∧ (tsL rs t)[l]? = some v ∧ rs[l]? = some p ∧ stp rs t = if v < p.1 then some l else none
  | [], _, h => absurd rfl h
  | [p], t, _ => by
    refine ⟨0, t, p, ?_, ?_, rfl, ?_⟩
    · unfold tsL tsL
      split <;> rfl
    · rfl
    · unfold stp stp
      split <;> rfl
  | p :: q :: rs, t, _ => by
    by_cases c : t < p.1
    · refine ⟨0, t, p, ?_, rfl, rfl, ?_⟩
      · simp [tsL, c]
      · simp [stp, c]
    · obtain ⟨l, v, r, h1, h2, h3, h4⟩ := ts_last (q :: rs) (lft t p.1 p.2) (by simp)
      refine ⟨l + 1, v, r, ?_, ?_, ?_, ?_⟩
      · rw [tsL, if_neg c, List.length_cons, h1]
      · rw [tsL, if_neg c, List.getElem?_cons_succ, h2]
      · rw [List.getElem?_cons_succ, h3]
      · rw [stp, if_neg c, h4]
        split <;> rfl
/-- the least time that goes through -/
def least : List (Int × Int) → Int
  | [] => 0
  | [p] => p.1
  | p :: q :: rs => p.1 + p.2 + least (q :: rs)
theorem least_pos : ∀ (rs : List (Int × Int)), rs ≠ [] → (∀ p ∈ rs, 1 ≤ p.1 ∧ 0 ≤ p.2) → 1 ≤ least rs
  | [], h, _ => absurd rfl h
  | [p], _, h => (h p (by simp)).1
  | p :: q :: rs, _, h => by
    have a := least_pos (q :: rs) (by simp) fun x hx => h x (List.mem_cons_of_mem _ hx)
    have b := h p (by simp)
    unfold least
    omega
theorem stp_least : ∀ (rs : List (Int × Int)) (t : Int), rs ≠ [] → (∀ p ∈ rs, 1 ≤ p.1 ∧ 0 ≤ p.2) → (stp rs t = none ↔ least rs ≤ t)
  | [], _, h, _ => absurd rfl h
  | [p], t, _, h => by
    simp only [stp, least]
    split <;> simp <;> omega
  | p :: q :: rs, t, _, h => by
    have hr : ∀ x ∈ q :: rs, 1 ≤ x.1 ∧ 0 ≤ x.2 := fun x hx => h x (List.mem_cons_of_mem _ hx)
    have hp := h p (by simp)
    have a := least_pos (q :: rs) (by simp) hr
    have ih := stp_least (q :: rs) (lft t p.1 p.2) (by simp) hr
    rw [stp, least]
    by_cases c : t < p.1
    · rw [if_pos c]
      simp
      omega
    · rw [if_neg c, Option.map_eq_none_iff, ih]
      unfold lft
      split <;> omega
theorem least_eq : ∀ (rs : List (Int × Int)) (h : rs ≠ []), least rs = (rs.map fun p => p.1 + p.2).sum - (rs.getLast h).2
  | [], h => absurd rfl h
  | [p], _ => by
    simp only [least, List.map_cons, List.map_nil, List.sum_cons, List.sum_nil, List.getLast_singleton]
    omega
  | p :: q :: rs, _ => by
    have ih := least_eq (q :: rs) (by simp)
    rw [least, ih, List.getLast_cons (List.cons_ne_nil q rs)]
    simp only [List.map_cons, List.sum_cons]
    omega
end KW

namespace KW
open PySem PySem.Spec PyProof.Rows L2 L2.M
local macro_rules | `(tactic| walk_at "ev") => `(tactic| simp [semF, shared, after, mSeq, mSkip, mIf, mRet, mRetN, mRetV, mSet, mSetIx, mExpr, mB, mU, mTm, mPl, mK, mVar, mOp, mCons, mNil, bor, bors, mTst, mAndT, mOrT, mNotT, mAndE, mOrE, mNotE, mIfE, mIsi, isiD, mChn, chnL, cmpD, binD, addD, subD, mulD, modD, fdivD, powD, eqD, neD, ltD, leD, gtD, geD, isD, isnD, L2.M.isNon, negD, ixD, Bf.f, Bg.f, lenD, L2.M.intD, maxD, minD, repD, strD, gmaxD, gminD, sumD, sortD, anyD, allD, mCall, frz, fzO, cellO, cellsO, dist, notPl, wb, mTup, mLst, fzs, cD, mAsg, bTup, bTps, mApp, tupD, lstD, mRev, revD, ofs_inj, ee_ii, ee_ss, ee_bb, ee_nn, ee_is, ee_si, ee_in, ee_ni, ee_tt, ee_ll, ee_maps, ee_0, ee_1, ee_2, ee_3, at_lit, at_nat, at_m1, at_m2, scD, emD, sizeLine_eq, ixN, sm_lit, mSrc, itemsD, plOf, rng1D, bNm, mSl, mPt, mNoP, slD, mPar, keepT, tmsO, setA, mFlow, zipX, enumX, itemsX, intsOf, ints_all, boolsOf, shaped_lay, lay_int, lay_bool, lay_none, lay_dict, lay_tup, lay_list, lay_ints, sortX_ints])
local macro_rules | `(tactic| walk_at "es") => `(tactic| simp [semF, shared, after, mSeq, mSkip, mIf, mRet, mRetN, mRetV, mSet, mSetIx, mExpr, mB, mU, mTm, mPl, mK, mVar, mOp, mCons, mNil, bor, bors, mTst, mAndT, mOrT, mNotT, mAndE, mOrE, mNotE, mIfE, mIsi, isiD, mChn, chnL, cmpD, binD, addD, subD, mulD, modD, fdivD, powD, eqD, neD, ltD, leD, gtD, geD, isD, isnD, L2.M.isNon, negD, ixD, Bf.f, Bg.f, lenD, L2.M.intD, maxD, minD, repD, strD, gmaxD, gminD, sumD, sortD, anyD, allD, mCall, frz, fzO, cellO, cellsO, dist, notPl, wb, mTup, mLst, fzs, cD, mAsg, bTup, bTps, mApp, tupD, lstD, mRev, revD, ofs_inj, ee_ii, ee_ss, ee_bb, ee_nn, ee_is, ee_si, ee_in, ee_ni, ee_tt, ee_ll, ee_maps, ee_0, ee_1, ee_2, ee_3, at_lit, at_nat, at_m1, at_m2, scD, emD, sizeLine_eq, ixN, sm_lit, mSrc, itemsD, plOf, rng1D, bNm, mSl, mPt, mNoP, slD, mPar, keepT, tmsO, setA, mFlow, zipX, enumX, itemsX, intsOf, ints_all, boolsOf, shaped_lay, lay_int, lay_bool, lay_none, lay_dict, lay_tup, lay_list, lay_ints, sortX_ints, *])
local macro_rules | `(tactic| walk_at "el") => `(tactic| simp [semF, shared, after, mSeq, mSkip, mIf, mRet, mRetN, mRetV, mSet, mSetIx, mExpr, mB, mU, mTm, mPl, mK, mVar, mOp, mCons, mNil, bor, bors, mTst, mAndT, mOrT, mNotT, mAndE, mOrE, mNotE, mIfE, mIsi, isiD, mChn, chnL, cmpD, binD, addD, subD, mulD, modD, fdivD, powD, eqD, neD, ltD, leD, gtD, geD, isD, isnD, L2.M.isNon, negD, ixD, Bf.f, Bg.f, lenD, L2.M.intD, maxD, minD, repD, strD, gmaxD, gminD, sumD, sortD, anyD, allD, mCall, frz, fzO, cellO, cellsO, dist, notPl, wb, mTup, mLst, fzs, cD, mAsg, bTup, bTps, mApp, tupD, lstD, mRev, revD, ofs_inj, ee_ii, ee_ss, ee_bb, ee_nn, ee_is, ee_si, ee_in, ee_ni, ee_tt, ee_ll, ee_maps, ee_0, ee_1, ee_2, ee_3, at_lit, at_nat, at_m1, at_m2, scD, emD, sizeLine_eq, ixN, sm_lit, mSrc, itemsD, plOf, rng1D, bNm, mSl, mPt, mNoP, slD, mPar, keepT, tmsO, setA, mFlow, zipX, enumX, itemsX, intsOf, ints_all, boolsOf, shaped_lay, lay_int, lay_bool, lay_none, lay_dict, lay_tup, lay_list, lay_ints, sortX_ints, mLc, lcL, sameC, wipeC, restC, mYes, *])
local macro_rules | `(tactic| walk_at "ef") => `(tactic| simp [semF, shared, after, mSeq, mSkip, mIf, mRet, mRetN, mRetV, mSet, mSetIx, mExpr, mB, mU, mTm, mPl, mK, mVar, mOp, mCons, mNil, bor, bors, mTst, mAndT, mOrT, mNotT, mAndE, mOrE, mNotE, mIfE, mIsi, isiD, mChn, chnL, cmpD, binD, addD, subD, mulD, modD, fdivD, powD, eqD, neD, ltD, leD, gtD, geD, isD, isnD, L2.M.isNon, negD, ixD, Bf.f, Bg.f, lenD, L2.M.intD, maxD, minD, repD, strD, gmaxD, gminD, sumD, sortD, anyD, allD, mCall, frz, fzO, cellO, cellsO, dist, notPl, wb, mTup, mLst, fzs, cD, mAsg, bTup, bTps, mApp, tupD, lstD, mRev, revD, ofs_inj, ee_ii, ee_ss, ee_bb, ee_nn, ee_is, ee_si, ee_in, ee_ni, ee_tt, ee_ll, ee_maps, ee_0, ee_1, ee_2, ee_3, at_lit, at_nat, at_m1, at_m2, scD, emD, sizeLine_eq, ixN, sm_lit, mSrc, itemsD, plOf, rng1D, bNm, mSl, mPt, mNoP, slD, mPar, keepT, tmsO, setA, mFlow, zipX, enumX, itemsX, intsOf, ints_all, boolsOf, shaped_lay, lay_int, lay_bool, lay_none, lay_dict, lay_tup, lay_list, lay_ints, sortX_ints, mFor, forL, mLc, lcL, sameC, wipeC, restC, mYes, *])
local macro_rules | `(tactic| walk_at "rg") => `(tactic| (and_intros <;> grind))
local macro_rules | `(tactic| walk_at "nx") => `(tactic| (apply wx_nx; focus (walk_at "ev"; try first | exact ⟨rfl, rfl⟩ | rfl)))
local macro_rules | `(tactic| walk_at "ns") => `(tactic| (apply wx_nx; focus (walk_at "es"; try first | exact ⟨rfl, rfl⟩ | rfl)))
local macro_rules | `(tactic| walk_at "rt") => `(tactic| (apply wx_rt; focus (walk_at "ev"; try first | exact ⟨rfl, rfl⟩ | rfl)))
local macro_rules | `(tactic| walk_at "rs") => `(tactic| (apply wx_rt; focus (walk_at "es"; try first | exact ⟨rfl, rfl⟩ | rfl)))

/-! ### any data -/
theorem at_in {α : Type} {xs : List α} {i : Int} (h0 : 0 ≤ i) (h1 : i < xs.length) : ∃ d ∈ xs, atI xs i = some d := by
  rw [at_nn h0, List.getElem?_eq_getElem (by omega)]
  exact ⟨_, List.getElem_mem _, rfl⟩
theorem at_dr {α : Type} {xs : List α} {p : Pn} {n : Int} (hn : 0 < n) (h1 : n ≤ xs.length) : ∃ d ∈ xs, atI xs (dr p n) = some d := at_in (dr_nn hn) (by have := dr_lt (p := p) hn; omega)
/-- all([w(x) for x in xs]) -/
theorem mLc_all (f : PyData → Bool) {i : Nat} {src : SM} {m : EM} {ε ε1 : Cs} {ds : List PyData} {c0 : C} {ws : List Nat} (hs : src ε = some ((ds, ws), ε1)) (h1 : ε1[i]? = some c0) (h : ∀ d ∈ ds, m (ε1.set i (.sh d)) = some (.sh (.bool (f d)), ε1.set i (.sh d))) (hn : ds.length ≤ sizeLine) (hw : ws.all (fun j => !([i] : List Nat).contains j) = true := by rfl) :
    mOp (Bg.f .all) (mCons (mTm (mLc src (bNm i) mYes m [i])) mNil) ε = some (.sh (.bool (ds.all f)), ε1) := by
  refine e_op1 (mLc_enc id (fun d => .bool (f d)) (by rw [List.map_id]; exact hs) h1 (fun d hd => ⟨_, h d hd, rfl⟩) hn hw) rfl ?_
  simp [Bg.f, allD, bools_map]
/-- a number's place, or none -/
theorem whole_int {d : PyData} (h : whole d = true) : ∃ i, d = .int i := by
  cases d <;> first | exact ⟨_, rfl⟩ | cases h
theorem all4 {ds : List PyData} (hl : ds.length = 4) (h : ds.all whole = true) : ∃ a b c d, ds = [.int a, .int b, .int c, .int d] := by
  match ds, hl with
  | [a, b, c, d], _ =>
    simp only [List.all_cons, List.all_nil, Bool.and_true, Bool.and_eq_true] at h
    obtain ⟨a, rfl⟩ := whole_int h.1
    obtain ⟨b, rfl⟩ := whole_int h.2.1
    obtain ⟨c, rfl⟩ := whole_int h.2.2.1
    obtain ⟨d, rfl⟩ := whole_int h.2.2.2
    exact ⟨_, _, _, _, rfl⟩
theorem all2 {ds : List PyData} (hl : ds.length = 2) (h : ds.all whole = true) : ∃ a b, ds = [.int a, .int b] := by
  match ds, hl with
  | [a, b], _ =>
    simp only [List.all_cons, List.all_nil, Bool.and_true, Bool.and_eq_true] at h
    obtain ⟨a, rfl⟩ := whole_int h.1
    obtain ⟨b, rfl⟩ := whole_int h.2
    exact ⟨_, _, rfl⟩
/-- a tuple, if it is one, isn't long -/
def Sml (d : PyData) : Prop := ∀ ds, d = .tuple ds → ds.length ≤ 1000
theorem sml_tup {ds : List PyData} (h : ds.length ≤ 1000) : Sml (.tuple ds) := by
  rintro _ e
  cases e
  exact h
/-- data that isn't a tuple -/
inductive NoT : PyData → Prop where
  | none : NoT .none
  | bool (b : Bool) : NoT (.bool b)
  | int (i : Int) : NoT (.int i)
  | str (s : Str) : NoT (.str s)
  | list (ds : List PyData) : NoT (.list ds)
  | dict (ds : List (PyData × PyData)) : NoT (.dict ds)
theorem tup_or (d : PyData) : (∃ ds, d = .tuple ds) ∨ NoT d := by
  cases d with
  | tuple ds => exact .inl ⟨ds, rfl⟩
  | none => exact .inr .none
  | bool b => exact .inr (.bool b)
  | int i => exact .inr (.int i)
  | str s => exact .inr (.str s)
  | list ds => exact .inr (.list ds)
  | dict ds => exact .inr (.dict ds)
theorem isi_not {d : PyData} (h : NoT d) : isiD .tuple d = false := by cases h <;> rfl
end KW

namespace KW
open PySem PySem.Spec PyProof.Rows L2 L2.M
local macro_rules | `(tactic| walk_at "ev") => `(tactic| simp [semF, shared, after, mSeq, mSkip, mIf, mRet, mRetN, mRetV, mSet, mSetIx, mExpr, mB, mU, mTm, mPl, mK, mVar, mOp, mCons, mNil, bor, bors, mTst, mAndT, mOrT, mNotT, mAndE, mOrE, mNotE, mIfE, mIsi, isiD, mChn, chnL, cmpD, binD, addD, subD, mulD, modD, fdivD, powD, eqD, neD, ltD, leD, gtD, geD, isD, isnD, L2.M.isNon, negD, ixD, Bf.f, Bg.f, lenD, L2.M.intD, maxD, minD, repD, strD, gmaxD, gminD, sumD, sortD, anyD, allD, mCall, frz, fzO, cellO, cellsO, dist, notPl, wb, mTup, mLst, fzs, cD, mAsg, bTup, bTps, mApp, tupD, lstD, mRev, revD, ofs_inj, ee_ii, ee_ss, ee_bb, ee_nn, ee_is, ee_si, ee_in, ee_ni, ee_tt, ee_ll, ee_maps, ee_0, ee_1, ee_2, ee_3, at_lit, at_nat, at_m1, at_m2, scD, emD, sizeLine_eq, ixN, sm_lit, mSrc, itemsD, plOf, rng1D, bNm, mSl, mPt, mNoP, slD, mPar, keepT, tmsO, setA, mFlow, zipX, enumX, itemsX, intsOf, ints_all, boolsOf, shaped_lay, lay_int, lay_bool, lay_none, lay_dict, lay_tup, lay_list, lay_ints, sortX_ints])
local macro_rules | `(tactic| walk_at "es") => `(tactic| simp [semF, shared, after, mSeq, mSkip, mIf, mRet, mRetN, mRetV, mSet, mSetIx, mExpr, mB, mU, mTm, mPl, mK, mVar, mOp, mCons, mNil, bor, bors, mTst, mAndT, mOrT, mNotT, mAndE, mOrE, mNotE, mIfE, mIsi, isiD, mChn, chnL, cmpD, binD, addD, subD, mulD, modD, fdivD, powD, eqD, neD, ltD, leD, gtD, geD, isD, isnD, L2.M.isNon, negD, ixD, Bf.f, Bg.f, lenD, L2.M.intD, maxD, minD, repD, strD, gmaxD, gminD, sumD, sortD, anyD, allD, mCall, frz, fzO, cellO, cellsO, dist, notPl, wb, mTup, mLst, fzs, cD, mAsg, bTup, bTps, mApp, tupD, lstD, mRev, revD, ofs_inj, ee_ii, ee_ss, ee_bb, ee_nn, ee_is, ee_si, ee_in, ee_ni, ee_tt, ee_ll, ee_maps, ee_0, ee_1, ee_2, ee_3, at_lit, at_nat, at_m1, at_m2, scD, emD, sizeLine_eq, ixN, sm_lit, mSrc, itemsD, plOf, rng1D, bNm, mSl, mPt, mNoP, slD, mPar, keepT, tmsO, setA, mFlow, zipX, enumX, itemsX, intsOf, ints_all, boolsOf, shaped_lay, lay_int, lay_bool, lay_none, lay_dict, lay_tup, lay_list, lay_ints, sortX_ints, *])
local macro_rules | `(tactic| walk_at "el") => `(tactic| simp [semF, shared, after, mSeq, mSkip, mIf, mRet, mRetN, mRetV, mSet, mSetIx, mExpr, mB, mU, mTm, mPl, mK, mVar, mOp, mCons, mNil, bor, bors, mTst, mAndT, mOrT, mNotT, mAndE, mOrE, mNotE, mIfE, mIsi, isiD, mChn, chnL, cmpD, binD, addD, subD, mulD, modD, fdivD, powD, eqD, neD, ltD, leD, gtD, geD, isD, isnD, L2.M.isNon, negD, ixD, Bf.f, Bg.f, lenD, L2.M.intD, maxD, minD, repD, strD, gmaxD, gminD, sumD, sortD, anyD, allD, mCall, frz, fzO, cellO, cellsO, dist, notPl, wb, mTup, mLst, fzs, cD, mAsg, bTup, bTps, mApp, tupD, lstD, mRev, revD, ofs_inj, ee_ii, ee_ss, ee_bb, ee_nn, ee_is, ee_si, ee_in, ee_ni, ee_tt, ee_ll, ee_maps, ee_0, ee_1, ee_2, ee_3, at_lit, at_nat, at_m1, at_m2, scD, emD, sizeLine_eq, ixN, sm_lit, mSrc, itemsD, plOf, rng1D, bNm, mSl, mPt, mNoP, slD, mPar, keepT, tmsO, setA, mFlow, zipX, enumX, itemsX, intsOf, ints_all, boolsOf, shaped_lay, lay_int, lay_bool, lay_none, lay_dict, lay_tup, lay_list, lay_ints, sortX_ints, mLc, lcL, sameC, wipeC, restC, mYes, *])
local macro_rules | `(tactic| walk_at "ef") => `(tactic| simp [semF, shared, after, mSeq, mSkip, mIf, mRet, mRetN, mRetV, mSet, mSetIx, mExpr, mB, mU, mTm, mPl, mK, mVar, mOp, mCons, mNil, bor, bors, mTst, mAndT, mOrT, mNotT, mAndE, mOrE, mNotE, mIfE, mIsi, isiD, mChn, chnL, cmpD, binD, addD, subD, mulD, modD, fdivD, powD, eqD, neD, ltD, leD, gtD, geD, isD, isnD, L2.M.isNon, negD, ixD, Bf.f, Bg.f, lenD, L2.M.intD, maxD, minD, repD, strD, gmaxD, gminD, sumD, sortD, anyD, allD, mCall, frz, fzO, cellO, cellsO, dist, notPl, wb, mTup, mLst, fzs, cD, mAsg, bTup, bTps, mApp, tupD, lstD, mRev, revD, ofs_inj, ee_ii, ee_ss, ee_bb, ee_nn, ee_is, ee_si, ee_in, ee_ni, ee_tt, ee_ll, ee_maps, ee_0, ee_1, ee_2, ee_3, at_lit, at_nat, at_m1, at_m2, scD, emD, sizeLine_eq, ixN, sm_lit, mSrc, itemsD, plOf, rng1D, bNm, mSl, mPt, mNoP, slD, mPar, keepT, tmsO, setA, mFlow, zipX, enumX, itemsX, intsOf, ints_all, boolsOf, shaped_lay, lay_int, lay_bool, lay_none, lay_dict, lay_tup, lay_list, lay_ints, sortX_ints, mFor, forL, mLc, lcL, sameC, wipeC, restC, mYes, *])
local macro_rules | `(tactic| walk_at "rg") => `(tactic| (and_intros <;> grind))
local macro_rules | `(tactic| walk_at "nx") => `(tactic| (apply wx_nx; focus (walk_at "ev"; try first | exact ⟨rfl, rfl⟩ | rfl)))
local macro_rules | `(tactic| walk_at "ns") => `(tactic| (apply wx_nx; focus (walk_at "es"; try first | exact ⟨rfl, rfl⟩ | rfl)))
local macro_rules | `(tactic| walk_at "rt") => `(tactic| (apply wx_rt; focus (walk_at "ev"; try first | exact ⟨rfl, rfl⟩ | rfl)))
local macro_rules | `(tactic| walk_at "rs") => `(tactic| (apply wx_rt; focus (walk_at "es"; try first | exact ⟨rfl, rfl⟩ | rfl)))

/-- a stretch -/
def pr (p : Int × Int) : PyData := .tuple [.int p.1, .int p.2]
def sil (st : List (Int × Int)) (b : Int) : Bool := st.any fun p => decide (p.1 ≤ b) && decide (b < p.2)
abbrev stD (st : List (Int × Int)) : PyData := .tuple (st.map pr)
theorem any_map {α : Type} (f : α → Bool) (xs : List α) : boolsOf (xs.map fun x => PyData.bool (f x)) = some (xs.map f) := by
  induction xs with
  | nil => rfl
  | cons x xs ih => simp only [List.map_cons, boolsOf, ih, Option.map_some]
/-- a loop over a story's stretches -/
theorem wx_sts {io : List Nat} {src : SM} {bind : BM} {body : XM} {ε ε1 : Cs} {st : List (Int × Int)} {Q : Fl → Cs → Prop} (J : Nat → Cs → Prop) (hs : src ε = some ((st.map pr, []), ε1)) (h0 : J 0 ε1)
    (hstep : ∀ (k : Nat) (hk : k < st.length) (ε2 : Cs), J k ε2 → ∃ ε3, bind (.tuple [.int st[k].1, .int st[k].2]) ε2 = some ε3 ∧ Wx (body ε3) fun f ε4 => match f with
      | .nx => J (k + 1) ε4
      | .ct => J (k + 1) ε4
      | .bk => Q .nx ε4
      | .rt c => Q (.rt c) ε4) (hend : ∀ ε2, J st.length ε2 → Q .nx ε2) : Wx (mFor io src bind body ε) Q := by
  refine wx_for J hs rfl h0 (fun i ε hj j hj2 => by cases hj2) (fun i d ε2 hd hj => ?_) (fun ε2 h => hend ε2 (by rwa [List.length_map] at h))
  rw [List.getElem?_map] at hd
  obtain ⟨x, hx, rfl⟩ := Option.map_eq_some_iff.mp hd
  obtain ⟨hk, rfl⟩ := List.getElem?_eq_some_iff.mp hx
  exact hstep i hk ε2 hj
/-- each stretch is one, each begins behind the end of the one ahead -/
structure Rise (st : List (Int × Int)) : Prop where
  p : ∀ x ∈ st, x.1 < x.2
  q : st.Pairwise fun x y => x.2 < y.1
theorem Rise.at {st : List (Int × Int)} (h : Rise st) {i j : Nat} (hi : i < st.length) (hj : j < st.length) (hij : i < j) : st[i].2 < st[j].1 := List.pairwise_iff_getElem.mp h.q i j hi hj hij
theorem Rise.lt {st : List (Int × Int)} (h : Rise st) {i : Nat} (hi : i < st.length) : st[i].1 < st[i].2 := h.p _ (List.getElem_mem hi)
end KW

namespace KW
open PySem PySem.Spec PyProof.Rows L2 L2.M
local macro_rules | `(tactic| walk_at "ev") => `(tactic| simp [semF, shared, after, mSeq, mSkip, mIf, mRet, mRetN, mRetV, mSet, mSetIx, mExpr, mB, mU, mTm, mPl, mK, mVar, mOp, mCons, mNil, bor, bors, mTst, mAndT, mOrT, mNotT, mAndE, mOrE, mNotE, mIfE, mIsi, isiD, mChn, chnL, cmpD, binD, addD, subD, mulD, modD, fdivD, powD, eqD, neD, ltD, leD, gtD, geD, isD, isnD, L2.M.isNon, negD, ixD, Bf.f, Bg.f, lenD, L2.M.intD, maxD, minD, repD, strD, gmaxD, gminD, sumD, sortD, anyD, allD, mCall, frz, fzO, cellO, cellsO, dist, notPl, wb, mTup, mLst, fzs, cD, mAsg, bTup, bTps, mApp, tupD, lstD, mRev, revD, ofs_inj, ee_ii, ee_ss, ee_bb, ee_nn, ee_is, ee_si, ee_in, ee_ni, ee_tt, ee_ll, ee_maps, ee_0, ee_1, ee_2, ee_3, at_lit, at_nat, at_m1, at_m2, scD, emD, sizeLine_eq, ixN, sm_lit, mSrc, itemsD, plOf, rng1D, bNm, mSl, mPt, mNoP, slD, mPar, keepT, tmsO, setA, mFlow, zipX, enumX, itemsX, intsOf, ints_all, boolsOf, shaped_lay, lay_int, lay_bool, lay_none, lay_dict, lay_tup, lay_list, lay_ints, sortX_ints])
local macro_rules | `(tactic| walk_at "es") => `(tactic| simp [semF, shared, after, mSeq, mSkip, mIf, mRet, mRetN, mRetV, mSet, mSetIx, mExpr, mB, mU, mTm, mPl, mK, mVar, mOp, mCons, mNil, bor, bors, mTst, mAndT, mOrT, mNotT, mAndE, mOrE, mNotE, mIfE, mIsi, isiD, mChn, chnL, cmpD, binD, addD, subD, mulD, modD, fdivD, powD, eqD, neD, ltD, leD, gtD, geD, isD, isnD, L2.M.isNon, negD, ixD, Bf.f, Bg.f, lenD, L2.M.intD, maxD, minD, repD, strD, gmaxD, gminD, sumD, sortD, anyD, allD, mCall, frz, fzO, cellO, cellsO, dist, notPl, wb, mTup, mLst, fzs, cD, mAsg, bTup, bTps, mApp, tupD, lstD, mRev, revD, ofs_inj, ee_ii, ee_ss, ee_bb, ee_nn, ee_is, ee_si, ee_in, ee_ni, ee_tt, ee_ll, ee_maps, ee_0, ee_1, ee_2, ee_3, at_lit, at_nat, at_m1, at_m2, scD, emD, sizeLine_eq, ixN, sm_lit, mSrc, itemsD, plOf, rng1D, bNm, mSl, mPt, mNoP, slD, mPar, keepT, tmsO, setA, mFlow, zipX, enumX, itemsX, intsOf, ints_all, boolsOf, shaped_lay, lay_int, lay_bool, lay_none, lay_dict, lay_tup, lay_list, lay_ints, sortX_ints, *])
local macro_rules | `(tactic| walk_at "el") => `(tactic| simp [semF, shared, after, mSeq, mSkip, mIf, mRet, mRetN, mRetV, mSet, mSetIx, mExpr, mB, mU, mTm, mPl, mK, mVar, mOp, mCons, mNil, bor, bors, mTst, mAndT, mOrT, mNotT, mAndE, mOrE, mNotE, mIfE, mIsi, isiD, mChn, chnL, cmpD, binD, addD, subD, mulD, modD, fdivD, powD, eqD, neD, ltD, leD, gtD, geD, isD, isnD, L2.M.isNon, negD, ixD, Bf.f, Bg.f, lenD, L2.M.intD, maxD, minD, repD, strD, gmaxD, gminD, sumD, sortD, anyD, allD, mCall, frz, fzO, cellO, cellsO, dist, notPl, wb, mTup, mLst, fzs, cD, mAsg, bTup, bTps, mApp, tupD, lstD, mRev, revD, ofs_inj, ee_ii, ee_ss, ee_bb, ee_nn, ee_is, ee_si, ee_in, ee_ni, ee_tt, ee_ll, ee_maps, ee_0, ee_1, ee_2, ee_3, at_lit, at_nat, at_m1, at_m2, scD, emD, sizeLine_eq, ixN, sm_lit, mSrc, itemsD, plOf, rng1D, bNm, mSl, mPt, mNoP, slD, mPar, keepT, tmsO, setA, mFlow, zipX, enumX, itemsX, intsOf, ints_all, boolsOf, shaped_lay, lay_int, lay_bool, lay_none, lay_dict, lay_tup, lay_list, lay_ints, sortX_ints, mLc, lcL, sameC, wipeC, restC, mYes, *])
local macro_rules | `(tactic| walk_at "ef") => `(tactic| simp [semF, shared, after, mSeq, mSkip, mIf, mRet, mRetN, mRetV, mSet, mSetIx, mExpr, mB, mU, mTm, mPl, mK, mVar, mOp, mCons, mNil, bor, bors, mTst, mAndT, mOrT, mNotT, mAndE, mOrE, mNotE, mIfE, mIsi, isiD, mChn, chnL, cmpD, binD, addD, subD, mulD, modD, fdivD, powD, eqD, neD, ltD, leD, gtD, geD, isD, isnD, L2.M.isNon, negD, ixD, Bf.f, Bg.f, lenD, L2.M.intD, maxD, minD, repD, strD, gmaxD, gminD, sumD, sortD, anyD, allD, mCall, frz, fzO, cellO, cellsO, dist, notPl, wb, mTup, mLst, fzs, cD, mAsg, bTup, bTps, mApp, tupD, lstD, mRev, revD, ofs_inj, ee_ii, ee_ss, ee_bb, ee_nn, ee_is, ee_si, ee_in, ee_ni, ee_tt, ee_ll, ee_maps, ee_0, ee_1, ee_2, ee_3, at_lit, at_nat, at_m1, at_m2, scD, emD, sizeLine_eq, ixN, sm_lit, mSrc, itemsD, plOf, rng1D, bNm, mSl, mPt, mNoP, slD, mPar, keepT, tmsO, setA, mFlow, zipX, enumX, itemsX, intsOf, ints_all, boolsOf, shaped_lay, lay_int, lay_bool, lay_none, lay_dict, lay_tup, lay_list, lay_ints, sortX_ints, mFor, forL, mLc, lcL, sameC, wipeC, restC, mYes, *])
local macro_rules | `(tactic| walk_at "rg") => `(tactic| (and_intros <;> grind))
local macro_rules | `(tactic| walk_at "nx") => `(tactic| (apply wx_nx; focus (walk_at "ev"; try first | exact ⟨rfl, rfl⟩ | rfl)))
local macro_rules | `(tactic| walk_at "ns") => `(tactic| (apply wx_nx; focus (walk_at "es"; try first | exact ⟨rfl, rfl⟩ | rfl)))
local macro_rules | `(tactic| walk_at "rt") => `(tactic| (apply wx_rt; focus (walk_at "ev"; try first | exact ⟨rfl, rfl⟩ | rfl)))
local macro_rules | `(tactic| walk_at "rs") => `(tactic| (apply wx_rt; focus (walk_at "es"; try first | exact ⟨rfl, rfl⟩ | rfl)))

theorem set_same {ε : Cs} {i : Nat} {c0 : C} (h : ε[i]? = some c0) : ε.set i c0 = ε := by
  have := set_back (c1 := c0) h
  rwa [List.set_set] at this
/-- a comprehension over items of one form, those that a test lets through -/
theorem mLc_encF {α : Type} (f e : α → PyData) (q : α → Bool) {i : Nat} {src : SM} {tests : TM} {m : EM} {ε ε1 : Cs} {xs : List α} {c0 : C} {ws : List Nat} (hs : src ε = some ((xs.map f, ws), ε1)) (h1 : ε1[i]? = some c0) (ht : ∀ x ∈ xs, tests (ε1.set i (.sh (f x))) = some (q x, ε1.set i (.sh (f x)))) (h : ∀ x ∈ xs, q x = true → ∃ c, m (ε1.set i (.sh (f x))) = some (c, ε1.set i (.sh (f x))) ∧ cD c = some (e x)) (hn : xs.length ≤ sizeLine) (hw : ws.all (fun j => !([i] : List Nat).contains j) = true := by rfl) :
    mLc src (bNm i) tests m [i] ε = some (.ls ((xs.filter q).map e), ε1) := by
  have hl : i < ε1.length := (List.getElem?_eq_some_iff.mp h1).1
  have hsm : sameC ws ε1 (ε1.set i .no) := by
    intro j hj
    have := List.all_eq_true.mp hw j hj
    have ne : i ≠ j := by
      rintro rfl
      simp at this
    rw [List.getElem?_set_ne ne]
  obtain ⟨out, ε2, e1, e2, e3⟩ := lc_rule (src := src) (bind := bNm i) (tests := tests) (elt := m) (own := [i]) (ε := ε) (fun k out ε2 => out = ((xs.take k).filter q).map e ∧ ε2 = ε1.set i .no) hs hw ⟨by simp, by simp [wipeC]⟩ (fun _ _ _ h => by rw [h.2]; exact hsm) (by simpa using hn) (by
    rintro k d out ε2 hd ⟨rfl, rfl⟩
    rw [List.getElem?_map] at hd
    obtain ⟨x, hx, rfl⟩ := Option.map_eq_some_iff.mp hd
    obtain ⟨hk, rfl⟩ := List.getElem?_eq_some_iff.mp hx
    refine ⟨ε1.set i (.sh (f xs[k])), q xs[k], _, by simp [bNm, hl], ht _ (List.getElem_mem hk), fun z => ⟨?_, ?_⟩, fun z => ?_⟩
    · rw [List.take_succ_eq_append_getElem hk, List.filter_append]
      simp [z]
    · simp [wipeC]
    · obtain ⟨c, g1, g2⟩ := h _ (List.getElem_mem hk) z
      refine ⟨c, _, _, g1, g2, ?_, ?_⟩
      · rw [List.take_succ_eq_append_getElem hk, List.filter_append]
        simp [z]
      · simp [wipeC])
  subst e3
  rw [List.length_map, List.take_of_length_le (Nat.le_refl _)] at e2
  subst e2
  rw [e1]
  simp only [restC, h1]
  rw [set_back h1]
end KW

namespace KW
open PySem PySem.Spec PyProof.Rows L2 L2.M
def top (i : Nat) : Stmt := PySem.Challenge.pw_knockpurse_k52_time_handed_on.main.body.getD i (.Pass ⟨0, 0, 0, 0⟩)
abbrev st_times_of : Stmt := top 1
def d_times_of : He.DefD := ⟨("times_of", none), "times_of", "times_of", defArgs st_times_of, defBody st_times_of, defScope st_times_of, [], []⟩
abbrev st_turned_at : Stmt := top 2
def d_turned_at : He.DefD := ⟨("turned_at", none), "turned_at", "turned_at", defArgs st_turned_at, defBody st_turned_at, defScope st_turned_at, [], []⟩
abbrev st_least_time : Stmt := top 3
def d_least_time : He.DefD := ⟨("least_time", none), "least_time", "least_time", defArgs st_least_time, defBody st_least_time, defScope st_least_time, [], []⟩
abbrev st_vain_of : Stmt := top 4
def d_vain_of : He.DefD := ⟨("vain_of", none), "vain_of", "vain_of", defArgs st_vain_of, defBody st_vain_of, defScope st_vain_of, [], []⟩
abbrev st_blind_of : Stmt := top 5
def d_blind_of : He.DefD := ⟨("blind_of", none), "blind_of", "blind_of", defArgs st_blind_of, defBody st_blind_of, defScope st_blind_of, [], []⟩
abbrev st_law_cell_at : Stmt := top 7
def d_law_cell_at : He.DefD := ⟨("_law_cell_at", none), "_law_cell_at", "_law_cell_at", defArgs st_law_cell_at, defBody st_law_cell_at, defScope st_law_cell_at, [], []⟩
abbrev st_law_next : Stmt := top 8
def d_law_next : He.DefD := ⟨("_law_next", none), "_law_next", "_law_next", defArgs st_law_next, defBody st_law_next, defScope st_law_next, [], []⟩
abbrev st_law_pen_of : Stmt := top 9
def d_law_pen_of : He.DefD := ⟨("_law_pen_of", none), "_law_pen_of", "_law_pen_of", defArgs st_law_pen_of, defBody st_law_pen_of, defScope st_law_pen_of, [], []⟩
abbrev st_law_draw : Stmt := top 10
def d_law_draw : He.DefD := ⟨("_law_draw", none), "_law_draw", "_law_draw", defArgs st_law_draw, defBody st_law_draw, defScope st_law_draw, [], []⟩
abbrev st_law_road : Stmt := top 11
def d_law_road : He.DefD := ⟨("_law_road", none), "_law_road", "_law_road", defArgs st_law_road, defBody st_law_road, defScope st_law_road, [], []⟩
abbrev st_law_due : Stmt := top 12
def d_law_due : He.DefD := ⟨("_law_due", none), "_law_due", "_law_due", defArgs st_law_due, defBody st_law_due, defScope st_law_due, [], []⟩
abbrev st_law_times : Stmt := top 13
def d_law_times : He.DefD := ⟨("_law_times", none), "_law_times", "_law_times", defArgs st_law_times, defBody st_law_times, defScope st_law_times, [], []⟩
abbrev st_law : Stmt := top 14
def d_law : He.DefD := ⟨("law", none), "law", "law", defArgs st_law, defBody st_law, defScope st_law, [], []⟩
def fn : List He.DefD := [d_times_of, d_turned_at, d_least_time, d_vain_of, d_blind_of, d_law_cell_at, d_law_next, d_law_pen_of, d_law_draw, d_law_road, d_law_due, d_law_times, d_law]
def fa : List He.Fa := [.glo "times_of", .glo "turned_at", .glo "least_time", .glo "vain_of", .glo "blind_of", .glo "_law_cell_at", .glo "_law_next", .glo "_law_pen_of", .glo "_law_draw", .glo "_law_road", .glo "_law_due", .glo "_law_times", .glo "law", .free "max", .free "len", .free "sum", .free "int", .free "range", .free "tuple", .free "enumerate", .free "repr", .free "min"]
abbrev Wd (K : PySem.W.Frag) (mg : Str → Option Value) : Prop := Wo fa fn K mg
/-! times_of: 0 road, 1 time, 2 found, 3 need, 4 keep -/
noncomputable def m_times_of : XM := mSeq (mSet [0] 2 (mLst (mNil))) (mSeq (mFor [0] (mSrc itemsD (mCons (mTm (mVar 0)) mNil)) (bTup [bNm 3, bNm 4]) (mSeq (mApp 2 (mVar 1)) (mSeq (mIf (mTst (mB (cmpD .Lt) (mPl 1) (mPl 3))) (mSeq (mRetV [0] 2) (mSkip)) (mSkip)) (mSeq (mSet [0] 1 (mOp (Bf.f .max) (mCons (mTm (mK (.int 0))) (mCons (mTm (mB (binD .Sub) (mTm (mB (binD .Sub) (mPl 1) (mPl 3))) (mPl 4))) (mNil))))) (mSkip))))) (mSeq (mRetV [0] 2) (mSkip)))
noncomputable def g_times_of : GM := semF [true, false] 5 m_times_of
/-! turned_at: 0 road, 1 time, 2 last -/
noncomputable def m_turned_at : XM := mSeq (mSet [0, 1] 2 (mB (binD .Sub) (mTm (mOp (Bf.f .len) (mCons (mTm (mCall [true, false] g_times_of (mCons (mPl 0) (mCons (mPl 1) (mNil))))) (mNil)))) (mTm (mK (.int 1))))) (mSeq (mIf (mTst (mB (cmpD .Lt) (mTm (mB ixD (mTm (mCall [true, false] g_times_of (mCons (mPl 0) (mCons (mPl 1) (mNil))))) (mPl 2))) (mTm (mB ixD (mTm (mB ixD (mPl 0) (mPl 2))) (mTm (mK (.int 0))))))) (mSeq (mRetV [0, 1] 2) (mSkip)) (mSkip)) (mSeq (mRet (mK .none)) (mSkip)))
noncomputable def g_turned_at : GM := semF [true, true] 3 m_turned_at
/-! least_time: 0 road, 1 need, 2 keep -/
noncomputable def m_least_time : XM := mSeq (mRet (mB (binD .Sub) (mTm (mOp (Bg.f .sum) (mCons (mTm (mLc (mSrc itemsD (mCons (mTm (mVar 0)) mNil)) (bTup [bNm 1, bNm 2]) (mYes) (mB (binD .Add) (mPl 1) (mPl 2)) [1, 2])) (mNil)))) (mTm (mB ixD (mTm (mB ixD (mPl 0) (mTm (mU negD (mTm (mK (.int 1))))))) (mTm (mK (.int 1))))))) (mSkip)
noncomputable def g_least_time : GM := semF [true] 3 m_least_time
/-! vain_of: 0 road, 1 time, 2 turned, 3 need, 4 keep -/
noncomputable def m_vain_of : XM := mSeq (mSet [0, 1] 2 (mCall [true, true] g_turned_at (mCons (mPl 0) (mCons (mPl 1) (mNil))))) (mSeq (mIf (mTst (mB (cmpD .Is) (mPl 2) (mTm (mK .none)))) (mSeq (mRet (mK (.int 0))) (mSkip)) (mSkip)) (mSeq (mRet (mOp (Bg.f .sum) (mCons (mTm (mLc (mSrc itemsD (mCons (mTm (mSl (mPl 0) (mNoP) (mPt (mPl 2)))) mNil)) (bTup [bNm 3, bNm 4]) (mYes) (mVar 3) [3, 4])) (mNil)))) (mSkip)))
noncomputable def g_vain_of : GM := semF [true, true] 5 m_vain_of
/-! blind_of: 0 road, 1 time, 2 total, 3 need, 4 keep -/
noncomputable def m_blind_of : XM := mSeq (mSet [0, 1] 2 (mOp (Bg.f .sum) (mCons (mTm (mLc (mSrc itemsD (mCons (mTm (mVar 0)) mNil)) (bTup [bNm 3, bNm 4]) (mYes) (mVar 3) [3, 4])) (mNil)))) (mSeq (mIf (mTst (mB (cmpD .LtE) (mPl 2) (mPl 1))) (mSeq (mRet (mK (.int 0))) (mSkip)) (mSkip)) (mSeq (mRetV [0, 1] 2) (mSkip)))
noncomputable def g_blind_of : GM := semF [true, true] 5 m_blind_of
/-! _law_cell_at: 0 _law_script, 1 _law_k -/
noncomputable def m_law_cell_at : XM := mSeq (mIf (mTst (mB (cmpD .Lt) (mPl 1) (mTm (mOp (Bf.f .len) (mCons (mPl 0) (mNil)))))) (mSeq (mRet (mB ixD (mPl 0) (mPl 1))) (mSkip)) (mSkip)) (mSeq (mRet (mK (.int 0))) (mSkip))
noncomputable def g_law_cell_at : GM := semF [true, true] 2 m_law_cell_at
/-! _law_next: 0 _law_seed -/
noncomputable def m_law_next : XM := mSeq (mSet [] 0 (mB (binD .Mod) (mTm (mB (binD .Add) (mPl 0) (mTm (mK (.int 7919))))) (mTm (mK (.int 2147483647))))) (mSeq (mRet (mB (binD .Mod) (mTm (mB (binD .Add) (mTm (mB (binD .Add) (mTm (mB (binD .Mult) (mPl 0) (mPl 0))) (mTm (mB (binD .Mult) (mTm (mK (.int 48271))) (mPl 0))))) (mTm (mK (.int 12345))))) (mTm (mK (.int 2147483629))))) (mSkip))
noncomputable def g_law_next : GM := semF [false] 1 m_law_next
/-! _law_pen_of: 0 _law_cell, 1 _law_left -/
noncomputable def m_law_pen_of : XM := mSeq (mSet [0] 1 (mOp (Bf.f .max) (mCons (mPl 0) (mCons (mTm (mB (binD .Sub) (mTm (mK (.int 0))) (mPl 0))) (mNil))))) (mSeq (mRet (mLst (mCons (mPl 1) (mCons (mTm (mOp (Bf.f .int) (mCons (mTm (mB (cmpD .GtE) (mPl 1) (mTm (mB (binD .Pow) (mTm (mK (.int 10))) (mTm (mK (.int 18))))))) (mNil)))) (mCons (mTm (mB (binD .Mod) (mPl 1) (mTm (mK (.int 1000003))))) (mNil)))))) (mSkip))
noncomputable def g_law_pen_of : GM := semF [true] 2 m_law_pen_of
/-! _law_draw: 0 _law_pen, 1 _law_many, 2 _law_found -/
noncomputable def m_law_draw : XM := mSeq (mIf (mAndT (mTst (mB (cmpD .Eq) (mTm (mB ixD (mPl 0) (mTm (mK (.int 1))))) (mTm (mK (.int 1))))) (mTst (mB (cmpD .Gt) (mTm (mB ixD (mPl 0) (mTm (mK (.int 0))))) (mTm (mK (.int 0)))))) (mSeq (mSet [0, 1] 2 (mB (binD .Mod) (mTm (mB ixD (mPl 0) (mTm (mK (.int 0))))) (mPl 1))) (mSeq (mSetIx 0 (mB (binD .FloorDiv) (mTm (mB ixD (mPl 0) (mTm (mK (.int 0))))) (mPl 1)) (mTm (mK (.int 0)))) (mSeq (mRetV [0, 1] 2) (mSkip)))) (mSkip)) (mSeq (mSetIx 0 (mCall [false] g_law_next (mCons (mTm (mB (binD .Add) (mTm (mCall [false] g_law_next (mCons (mTm (mB ixD (mPl 0) (mTm (mK (.int 2))))) (mNil)))) (mTm (mK (.int 7))))) (mNil))) (mTm (mK (.int 2)))) (mSeq (mRet (mB (binD .Mod) (mTm (mB (binD .FloorDiv) (mTm (mB ixD (mPl 0) (mTm (mK (.int 2))))) (mTm (mK (.int 64))))) (mPl 1))) (mSkip)))
noncomputable def g_law_draw : GM := semF [true, true] 3 m_law_draw
/-! _law_road: 0 _law_pen, 1 _law_many, 2 _law_wide, 3 _law_house -/
noncomputable def m_law_road : XM := mSeq (mPar [0] [1, 2] (mCons (mTm (mB (binD .Add) (mTm (mK (.int 1))) (mTm (mCall [true, true] g_law_draw (mCons (mPl 0) (mCons (mTm (mK (.int 8))) (mNil))))))) (mCons (mTm (mB ixD (mTm (mLst (mCons (mTm (mK (.int 4))) (mCons (mTm (mK (.int 30))) (mCons (mTm (mK (.int 1000))) (mNil)))))) (mTm (mCall [true, true] g_law_draw (mCons (mPl 0) (mCons (mTm (mK (.int 3))) (mNil))))))) (mNil)))) (mSeq (mRet (mOp (Bf.f .tuple) (mCons (mTm (mLc (mSrc rng1D (mCons (mTm (mVar 1)) (mNil))) (bNm 3) (mYes) (mTup (mCons (mTm (mB (binD .Add) (mTm (mK (.int 1))) (mTm (mCall [true, true] g_law_draw (mCons (mPl 0) (mCons (mPl 2) (mNil))))))) (mCons (mTm (mCall [true, true] g_law_draw (mCons (mPl 0) (mCons (mTm (mB (binD .Add) (mPl 2) (mTm (mK (.int 1))))) (mNil))))) (mNil)))) [3])) (mNil)))) (mSkip))
noncomputable def g_law_road : GM := semF [true] 4 m_law_road
/-! _law_due: 0 _law_road_here, 1 _law_time, 2 _law_left, 3 _law_found, 4 _law_worked, 5 _law_number, 6 _law_house -/
noncomputable def m_law_due : XM := mSeq (mPar [0, 1] [2, 3, 4] (mCons (mPl 1) (mCons (mTm (mLst (mNil))) (mCons (mTm (mK (.int 0))) (mNil))))) (mSeq (mFor [0, 1] (mSrc enumX (mCons (mTm (mVar 0)) mNil)) (bTup [bNm 5, bNm 6]) (mSeq (mApp 3 (mVar 2)) (mSeq (mIf (mTst (mB (cmpD .Lt) (mPl 2) (mTm (mB ixD (mPl 6) (mTm (mK (.int 0))))))) (mSeq (mRet (mLst (mCons (mPl 3) (mCons (mPl 5) (mCons (mPl 4) (mNil)))))) (mSkip)) (mSkip)) (mSeq (mSet [0, 1] 4 (mB (binD .Add) (mPl 4) (mTm (mB ixD (mPl 6) (mTm (mK (.int 0))))))) (mSeq (mSet [0, 1] 2 (mB (binD .Sub) (mTm (mB (binD .Sub) (mPl 2) (mTm (mB ixD (mPl 6) (mTm (mK (.int 0))))))) (mTm (mB ixD (mPl 6) (mTm (mK (.int 1))))))) (mSeq (mIf (mTst (mB (cmpD .Lt) (mPl 2) (mTm (mK (.int 0))))) (mSeq (mSet [0, 1] 2 (mK (.int 0))) (mSkip)) (mSkip)) (mSkip))))))) (mSeq (mRet (mLst (mCons (mPl 3) (mCons (mTm (mK .none)) (mCons (mTm (mK (.int 0))) (mNil)))))) (mSkip)))
noncomputable def g_law_due : GM := semF [true, true] 7 m_law_due
/-! _law_times: 0 _law_pen, 1 _law_road_here, 2 _law_found, 3 _law_ahead, 4 _law_need, 5 _law_keep -/
noncomputable def m_law_times : XM := mSeq (mSet [0, 1] 2 (mLst (mCons (mTm (mK (.int 0))) (mCons (mTm (mCall [true, true] g_law_draw (mCons (mPl 0) (mCons (mTm (mK (.int 60))) (mNil))))) (mCons (mTm (mCall [true, true] g_law_draw (mCons (mPl 0) (mCons (mTm (mB (binD .Add) (mTm (mB (binD .Pow) (mTm (mK (.int 10))) (mTm (mK (.int 6))))) (mTm (mK (.int 1))))) (mNil))))) (mCons (mTm (mB (binD .Pow) (mTm (mK (.int 10))) (mTm (mK (.int 6))))) (mNil))))))) (mSeq (mSet [0, 1] 3 (mK (.int 0))) (mSeq (mFor [0, 1] (mSrc itemsD (mCons (mTm (mVar 1)) mNil)) (bTup [bNm 4, bNm 5]) (mSeq (mSet [0, 1] 2 (mB (binD .Add) (mPl 2) (mTm (mLst (mCons (mTm (mB (binD .Add) (mPl 3) (mPl 4))) (mCons (mTm (mB (binD .Sub) (mTm (mB (binD .Add) (mPl 3) (mPl 4))) (mTm (mK (.int 1))))) (mCons (mTm (mB (binD .Add) (mTm (mB (binD .Add) (mPl 3) (mPl 4))) (mPl 5))) (mNil)))))))) (mSeq (mSet [0, 1] 3 (mB (binD .Add) (mTm (mB (binD .Add) (mPl 3) (mPl 4))) (mPl 5))) (mSkip)))) (mSeq (mRetV [0, 1] 2) (mSkip))))
noncomputable def g_law_times : GM := semF [true, true] 6 m_law_times
/-! law: 0 _law_script, 1 _law_cell, 2 _law_pen, 3 _law_road_here, 4 _law_through, 5 _law_time, 6 _law_total, 7 _law_need, 8 _law_keep, 9 _law_turn, 10 _law_least, 11 _law_left, 12 _law_turned, 13 _law_vain, 14 _law_told, 15 _law_found -/
noncomputable def m_law : XM := mSeq (mFor [] (mSrc itemsD (mCons (mTm (mB (binD .Add) (mTm (mLst (mCons (mTm (mCall [true, true] g_law_cell_at (mCons (mPl 0) (mCons (mTm (mK (.int 0))) (mNil))))) (mNil)))) (mTm (mSl (mPl 0) (mPt (mTm (mK (.int 1)))) (mPt (mTm (mK (.int 6)))))))) mNil)) (bNm 1) (mSeq (mSet [] 2 (mCall [true] g_law_pen_of (mCons (mPl 1) (mNil)))) (mSeq (mSet [] 3 (mCall [true] g_law_road (mCons (mPl 2) (mNil)))) (mSeq (mSet [] 4 (mLc (mSrc itemsD (mCons (mTm (mCall [true, true] g_law_times (mCons (mPl 2) (mCons (mPl 3) (mNil))))) mNil)) (bNm 5) (mTst (mB (cmpD .Is) (mTm (mB ixD (mTm (mCall [true, true] g_law_due (mCons (mPl 3) (mCons (mPl 5) (mNil))))) (mTm (mK (.int 1))))) (mTm (mK .none)))) (mVar 5) [5])) (mSeq (mSet [] 6 (mOp (Bg.f .sum) (mCons (mTm (mLc (mSrc itemsD (mCons (mTm (mVar 3)) mNil)) (bTup [bNm 7, bNm 8]) (mYes) (mVar 7) [7, 8])) (mNil)))) (mSeq (mFor [] (mSrc rng1D (mCons (mTm (mK (.int 2))) (mNil))) (bNm 9) (mSeq (mSet [] 10 (mCall [true] g_least_time (mCons (mPl 3) (mNil)))) (mSeq (mIf (mOrT (mTst (mB (cmpD .NotIn) (mPl 10) (mPl 4))) (mOrT (mTst (mB (cmpD .IsNot) (mTm (mB ixD (mTm (mCall [true, true] g_law_due (mCons (mPl 3) (mCons (mPl 10) (mNil))))) (mTm (mK (.int 1))))) (mTm (mK .none)))) (mTst (mB (cmpD .NotEq) (mPl 10) (mTm (mOp (Bg.f .minl) (mCons (mPl 4) (mNil)))))))) (mSeq (mRet (mK (.bool false))) (mSkip)) (mSkip)) (mSeq (mIf (mTst (mB (cmpD .Is) (mTm (mB ixD (mTm (mCall [true, true] g_law_due (mCons (mPl 3) (mCons (mTm (mB (binD .Sub) (mPl 10) (mTm (mK (.int 1))))) (mNil))))) (mTm (mK (.int 1))))) (mTm (mK .none)))) (mSeq (mRet (mK (.bool false))) (mSkip)) (mSkip)) (mSkip))))) (mSeq (mFor [] (mSrc itemsD (mCons (mTm (mCall [true, true] g_law_times (mCons (mPl 2) (mCons (mPl 3) (mNil))))) mNil)) (bNm 5) (mSeq (mAsgL [11, 12, 13] [] (bLst [bNm 11, bNm 12, bNm 13]) (mCall [true, true] g_law_due (mCons (mPl 3) (mCons (mPl 5) (mNil))))) (mSeq (mFor [] (mSrc rng1D (mCons (mTm (mK (.int 2))) (mNil))) (bNm 9) (mSeq (mSet [] 14 (mCall [true, false] g_times_of (mCons (mPl 3) (mCons (mPl 5) (mNil))))) (mSeq (mScope [0, 1, 2, 3, 4, 5, 6, 7, 8, 9, 10, 11, 12, 13, 14] (mSeq (mSet [0, 1, 2, 3, 4, 5, 6, 7, 8, 9, 10, 11, 12, 13, 14] 15 (mLst (mCons (mPl 14) (mCons (mTm (mCall [true, true] g_turned_at (mCons (mPl 3) (mCons (mPl 5) (mNil))))) (mCons (mTm (mCall [true, true] g_vain_of (mCons (mPl 3) (mCons (mPl 5) (mNil))))) (mCons (mTm (mCall [true, true] g_blind_of (mCons (mPl 3) (mCons (mPl 5) (mNil))))) (mNil))))))) (mSeq (mIf (mTst (mB (cmpD .NotEq) (mTm (mOp reprG (mCons (mPl 15) (mNil)))) (mTm (mOp reprG (mCons (mTm (mLst (mCons (mPl 11) (mCons (mPl 12) (mCons (mPl 13) (mCons (mTm (mIfE (mTst (mB (cmpD .Gt) (mPl 6) (mPl 5))) (mVar 6) (mK (.int 0)))) (mNil))))))) (mNil)))))) (mSeq (mRet (mK (.bool false))) (mSkip)) (mSkip)) (mSkip)))) (mSeq (mApp 14 (mK (.int 0))) (mSkip))))) (mSkip)))) (mSkip)))))))) (mSeq (mRet (mK (.bool true))) (mSkip))
noncomputable def g_law : GM := semF [false] 16 m_law
section
variable {P : Program} {w : World} {K : PySem.W.Frag} {mg : Str → Option Value} {base : Heap}
theorem sc_times_of : FnScope ["road", "time", "found", "need", "keep"] ["road", "time"] (defScope st_times_of) := ⟨rfl, rfl, rfl, by decide +kernel, rfl, by decide +kernel, by decide +kernel⟩
theorem pl_times_of : Plain d_times_of ["road", "time"] := ⟨rfl, rfl, fun _ _ _ _ _ _ us hl => match us, hl with | [_, _], _ => rfl⟩
theorem bd_times_of (W : Wd K mg) (f : Addr) (cdv : Value) (A : Around) (outer : List Env) (s : Shared) (H : Hp) (E : XK) (hr : Rm 0 (cxN P w K mg base ["road", "time", "found", "need", "keep"] d_times_of f cdv A outer s H E).A) : PSs (cxN P w K mg base ["road", "time", "found", "need", "keep"] d_times_of f cdv A outer s H E) d_times_of.body (tS K (ios [true, false]) m_times_of) :=
  have nd : (["road", "time", "found", "need", "keep"] : List Str).Nodup := sc_times_of.nd
  ms_cons (z_set 2 nd (me_lst (ma_nil))) (ms_cons (z_for (ts := [3, 4]) .never rfl (mi_any (mo_tm (me_name (pv 0)))) (Gd.imp (gd_tup rfl (gds_cons (gd_name) (gds_cons (gd_name) (gds_nil)))) (by intro j h; simpa using h)) (pg_tup rfl (pgs_cons (g_nm 3 nd) (pgs_cons (g_nm 4 nd) (pgs_nil)))) (ms_cons (z_app 2 (pv 2) (me_name (pv 1))) (ms_cons (ms_if (y_cmp hr.toRoom (mo_name (pv 1)) (mo_name (pv 3))) (ms_cons (ms_retV (pv 2)) (ms_nil)) (ms_nil)) (ms_cons (z_set 1 nd (x_bf .max rfl (W.free 13) rfl rfl (ma_cons (mo_tm (me_int)) (ma_cons (mo_tm (x_bin (mo_tm (x_bin (mo_name (pv 1)) (mo_name (pv 3)))) (mo_name (pv 4)))) (ma_nil))))) (ms_nil))))) (ms_cons (ms_retV (pv 2)) (ms_nil)))
theorem ok_times_of (W : Wd K mg)  : KnG P w K mg base 1 "times_of" ["road", "time"] (spOf K 2 g_times_of) := kng_mk W 0 0 rfl rfl rfl pl_times_of sc_times_of (bd_times_of W)
theorem sc_turned_at : FnScope ["road", "time", "last"] ["road", "time"] (defScope st_turned_at) := ⟨rfl, rfl, rfl, by decide +kernel, rfl, by decide +kernel, by decide +kernel⟩
theorem pl_turned_at : Plain d_turned_at ["road", "time"] := ⟨rfl, rfl, fun _ _ _ _ _ _ us hl => match us, hl with | [_, _], _ => rfl⟩
theorem bd_turned_at (W : Wd K mg) (f : Addr) (cdv : Value) (A : Around) (outer : List Env) (s : Shared) (H : Hp) (E : XK) (hr : Rm 1 (cxN P w K mg base ["road", "time", "last"] d_turned_at f cdv A outer s H E).A) : PSs (cxN P w K mg base ["road", "time", "last"] d_turned_at f cdv A outer s H E) d_turned_at.body (tS K (ios [true, true]) m_turned_at) :=
  have nd : (["road", "time", "last"] : List Str).Nodup := sc_turned_at.nd
  ms_cons (z_set 2 nd (x_bin (mo_tm (x_bf .len rfl (W.free 14) rfl rfl (ma_cons (mo_tm (g_call (ok_times_of W) hr (by decide) rfl (ma_cons (mo_name (pv 0)) (ma_cons (mo_name (pv 1)) (ma_nil))))) (ma_nil)))) (mo_tm (me_int)))) (ms_cons (ms_if (y_cmp hr.toRoom (mo_tm (x_ix (mo_tm (g_call (ok_times_of W) hr (by decide) rfl (ma_cons (mo_name (pv 0)) (ma_cons (mo_name (pv 1)) (ma_nil))))) (mo_name (pv 2)))) (mo_tm (x_ix (mo_tm (x_ix (mo_name (pv 0)) (mo_name (pv 2)))) (mo_tm (me_int))))) (ms_cons (ms_retV (pv 2)) (ms_nil)) (ms_nil)) (ms_cons (ms_ret (me_non)) (ms_nil)))
theorem ok_turned_at (W : Wd K mg)  : KnG P w K mg base 2 "turned_at" ["road", "time"] (spOf K 2 g_turned_at) := kng_mk W 1 1 rfl rfl rfl pl_turned_at sc_turned_at (bd_turned_at W)
theorem sc_least_time : FnScope ["road", "need", "keep"] ["road"] (defScope st_least_time) := ⟨rfl, rfl, rfl, by decide +kernel, rfl, by decide +kernel, by decide +kernel⟩
theorem pl_least_time : Plain d_least_time ["road"] := ⟨rfl, rfl, fun _ _ _ _ _ _ us hl => match us, hl with | [_], _ => rfl⟩
theorem bd_least_time (W : Wd K mg) (f : Addr) (cdv : Value) (A : Around) (outer : List Env) (s : Shared) (H : Hp) (E : XK) (hr : Rm 0 (cxN P w K mg base ["road", "need", "keep"] d_least_time f cdv A outer s H E).A) : PSs (cxN P w K mg base ["road", "need", "keep"] d_least_time f cdv A outer s H E) d_least_time.body (tS K (ios [true]) m_least_time) :=
  have nd : (["road", "need", "keep"] : List Str).Nodup := sc_least_time.nd
  ms_cons (ms_ret (x_bin (mo_tm (x_bg .sum rfl (W.free 15) rfl rfl (ma_cons (mo_tm (x_lc [("need", 1), ("keep", 2)] rfl nd (blkOk_by (by first | rfl | kernel_rfl)) (mi_any (mo_tm (me_name (pv 0)))) (Gd.imp (gd_tup rfl (gds_cons (gd_name) (gds_cons (gd_name) (gds_nil)))) (by intro j h; simpa using h)) (fun _ _ _ _ _ => pg_tup rfl (pgs_cons (g_nm 1 nd) (pgs_cons (g_nm 2 nd) (pgs_nil)))) (fun _ _ _ _ _ => pts_no) (fun _ _ _ _ _ => x_bin (mo_name (pv 1)) (mo_name (pv 2))))) (ma_nil)))) (mo_tm (x_ix (mo_tm (x_ix (mo_name (pv 0)) (mo_tm (x_neg (mo_tm (me_int)))))) (mo_tm (me_int)))))) (ms_nil)
theorem ok_least_time (W : Wd K mg)  : KnG P w K mg base 1 "least_time" ["road"] (spOf K 1 g_least_time) := kng_mk W 2 2 rfl rfl rfl pl_least_time sc_least_time (bd_least_time W)
theorem sc_vain_of : FnScope ["road", "time", "turned", "need", "keep"] ["road", "time"] (defScope st_vain_of) := ⟨rfl, rfl, rfl, by decide +kernel, rfl, by decide +kernel, by decide +kernel⟩
theorem pl_vain_of : Plain d_vain_of ["road", "time"] := ⟨rfl, rfl, fun _ _ _ _ _ _ us hl => match us, hl with | [_, _], _ => rfl⟩
theorem bd_vain_of (W : Wd K mg) (f : Addr) (cdv : Value) (A : Around) (outer : List Env) (s : Shared) (H : Hp) (E : XK) (hr : Rm 2 (cxN P w K mg base ["road", "time", "turned", "need", "keep"] d_vain_of f cdv A outer s H E).A) : PSs (cxN P w K mg base ["road", "time", "turned", "need", "keep"] d_vain_of f cdv A outer s H E) d_vain_of.body (tS K (ios [true, true]) m_vain_of) :=
  have nd : (["road", "time", "turned", "need", "keep"] : List Str).Nodup := sc_vain_of.nd
  ms_cons (z_set 2 nd (g_call (ok_turned_at W) hr (by decide) rfl (ma_cons (mo_name (pv 0)) (ma_cons (mo_name (pv 1)) (ma_nil))))) (ms_cons (ms_if (y_cmp hr.toRoom (mo_name (pv 2)) (mo_tm (me_non))) (ms_cons (ms_ret (me_int)) (ms_nil)) (ms_nil)) (ms_cons (ms_ret (x_bg .sum rfl (W.free 15) rfl rfl (ma_cons (mo_tm (x_lc [("need", 3), ("keep", 4)] rfl nd (blkOk_by (by first | rfl | kernel_rfl)) (mi_any (mo_tm (me_slice (mo_name (pv 0)) (mp_none) (mp_some (mo_name (pv 2)))))) (Gd.imp (gd_tup rfl (gds_cons (gd_name) (gds_cons (gd_name) (gds_nil)))) (by intro j h; simpa using h)) (fun _ _ _ _ _ => pg_tup rfl (pgs_cons (g_nm 3 nd) (pgs_cons (g_nm 4 nd) (pgs_nil)))) (fun _ _ _ _ _ => pts_no) (fun _ _ _ _ _ => me_name (pv 3)))) (ma_nil)))) (ms_nil)))
theorem ok_vain_of (W : Wd K mg)  : KnG P w K mg base 3 "vain_of" ["road", "time"] (spOf K 2 g_vain_of) := kng_mk W 3 3 rfl rfl rfl pl_vain_of sc_vain_of (bd_vain_of W)
theorem sc_blind_of : FnScope ["road", "time", "total", "need", "keep"] ["road", "time"] (defScope st_blind_of) := ⟨rfl, rfl, rfl, by decide +kernel, rfl, by decide +kernel, by decide +kernel⟩
theorem pl_blind_of : Plain d_blind_of ["road", "time"] := ⟨rfl, rfl, fun _ _ _ _ _ _ us hl => match us, hl with | [_, _], _ => rfl⟩
theorem bd_blind_of (W : Wd K mg) (f : Addr) (cdv : Value) (A : Around) (outer : List Env) (s : Shared) (H : Hp) (E : XK) (hr : Rm 0 (cxN P w K mg base ["road", "time", "total", "need", "keep"] d_blind_of f cdv A outer s H E).A) : PSs (cxN P w K mg base ["road", "time", "total", "need", "keep"] d_blind_of f cdv A outer s H E) d_blind_of.body (tS K (ios [true, true]) m_blind_of) :=
  have nd : (["road", "time", "total", "need", "keep"] : List Str).Nodup := sc_blind_of.nd
  ms_cons (z_set 2 nd (x_bg .sum rfl (W.free 15) rfl rfl (ma_cons (mo_tm (x_lc [("need", 3), ("keep", 4)] rfl nd (blkOk_by (by first | rfl | kernel_rfl)) (mi_any (mo_tm (me_name (pv 0)))) (Gd.imp (gd_tup rfl (gds_cons (gd_name) (gds_cons (gd_name) (gds_nil)))) (by intro j h; simpa using h)) (fun _ _ _ _ _ => pg_tup rfl (pgs_cons (g_nm 3 nd) (pgs_cons (g_nm 4 nd) (pgs_nil)))) (fun _ _ _ _ _ => pts_no) (fun _ _ _ _ _ => me_name (pv 3)))) (ma_nil)))) (ms_cons (ms_if (y_cmp hr.toRoom (mo_name (pv 2)) (mo_name (pv 1))) (ms_cons (ms_ret (me_int)) (ms_nil)) (ms_nil)) (ms_cons (ms_retV (pv 2)) (ms_nil)))
theorem ok_blind_of (W : Wd K mg)  : KnG P w K mg base 1 "blind_of" ["road", "time"] (spOf K 2 g_blind_of) := kng_mk W 4 4 rfl rfl rfl pl_blind_of sc_blind_of (bd_blind_of W)
theorem sc_law_cell_at : FnScope ["_law_script", "_law_k"] ["_law_script", "_law_k"] (defScope st_law_cell_at) := ⟨rfl, rfl, rfl, by decide +kernel, rfl, by decide +kernel, by decide +kernel⟩
theorem pl_law_cell_at : Plain d_law_cell_at ["_law_script", "_law_k"] := ⟨rfl, rfl, fun _ _ _ _ _ _ us hl => match us, hl with | [_, _], _ => rfl⟩
theorem bd_law_cell_at (W : Wd K mg) (f : Addr) (cdv : Value) (A : Around) (outer : List Env) (s : Shared) (H : Hp) (E : XK) (hr : Rm 0 (cxN P w K mg base ["_law_script", "_law_k"] d_law_cell_at f cdv A outer s H E).A) : PSs (cxN P w K mg base ["_law_script", "_law_k"] d_law_cell_at f cdv A outer s H E) d_law_cell_at.body (tS K (ios [true, true]) m_law_cell_at) :=
  have nd : (["_law_script", "_law_k"] : List Str).Nodup := sc_law_cell_at.nd
  ms_cons (ms_if (y_cmp hr.toRoom (mo_name (pv 1)) (mo_tm (x_bf .len rfl (W.free 14) rfl rfl (ma_cons (mo_name (pv 0)) (ma_nil))))) (ms_cons (ms_ret (x_ix (mo_name (pv 0)) (mo_name (pv 1)))) (ms_nil)) (ms_nil)) (ms_cons (ms_ret (me_int)) (ms_nil))
theorem ok_law_cell_at (W : Wd K mg)  : KnG P w K mg base 1 "_law_cell_at" ["_law_script", "_law_k"] (spOf K 2 g_law_cell_at) := kng_mk W 5 5 rfl rfl rfl pl_law_cell_at sc_law_cell_at (bd_law_cell_at W)
theorem sc_law_next : FnScope ["_law_seed"] ["_law_seed"] (defScope st_law_next) := ⟨rfl, rfl, rfl, by decide +kernel, rfl, by decide +kernel, by decide +kernel⟩
theorem pl_law_next : Plain d_law_next ["_law_seed"] := ⟨rfl, rfl, fun _ _ _ _ _ _ us hl => match us, hl with | [_], _ => rfl⟩
theorem bd_law_next (W : Wd K mg) (f : Addr) (cdv : Value) (A : Around) (outer : List Env) (s : Shared) (H : Hp) (E : XK) (hr : Rm 0 (cxN P w K mg base ["_law_seed"] d_law_next f cdv A outer s H E).A) : PSs (cxN P w K mg base ["_law_seed"] d_law_next f cdv A outer s H E) d_law_next.body (tS K (ios [false]) m_law_next) :=
  have nd : (["_law_seed"] : List Str).Nodup := sc_law_next.nd
  ms_cons (z_set 0 nd (x_bin (mo_tm (x_bin (mo_name (pv 0)) (mo_tm (me_int)))) (mo_tm (me_int)))) (ms_cons (ms_ret (x_bin (mo_tm (x_bin (mo_tm (x_bin (mo_tm (x_bin (mo_name (pv 0)) (mo_name (pv 0)))) (mo_tm (x_bin (mo_tm (me_int)) (mo_name (pv 0)))))) (mo_tm (me_int)))) (mo_tm (me_int)))) (ms_nil))
theorem ok_law_next (W : Wd K mg)  : KnG P w K mg base 1 "_law_next" ["_law_seed"] (spOf K 1 g_law_next) := kng_mk W 6 6 rfl rfl rfl pl_law_next sc_law_next (bd_law_next W)
theorem sc_law_pen_of : FnScope ["_law_cell", "_law_left"] ["_law_cell"] (defScope st_law_pen_of) := ⟨rfl, rfl, rfl, by decide +kernel, rfl, by decide +kernel, by decide +kernel⟩
theorem pl_law_pen_of : Plain d_law_pen_of ["_law_cell"] := ⟨rfl, rfl, fun _ _ _ _ _ _ us hl => match us, hl with | [_], _ => rfl⟩
theorem bd_law_pen_of (W : Wd K mg) (f : Addr) (cdv : Value) (A : Around) (outer : List Env) (s : Shared) (H : Hp) (E : XK) (hr : Rm 0 (cxN P w K mg base ["_law_cell", "_law_left"] d_law_pen_of f cdv A outer s H E).A) : PSs (cxN P w K mg base ["_law_cell", "_law_left"] d_law_pen_of f cdv A outer s H E) d_law_pen_of.body (tS K (ios [true]) m_law_pen_of) :=
  have nd : (["_law_cell", "_law_left"] : List Str).Nodup := sc_law_pen_of.nd
  ms_cons (z_set 1 nd (x_bf .max rfl (W.free 13) rfl rfl (ma_cons (mo_name (pv 0)) (ma_cons (mo_tm (x_bin (mo_tm (me_int)) (mo_name (pv 0)))) (ma_nil))))) (ms_cons (ms_ret (me_lst (ma_cons (mo_name (pv 1)) (ma_cons (mo_tm (x_bf .int rfl (W.free 16) rfl rfl (ma_cons (mo_tm (x_cmp hr.toRoom (mo_name (pv 1)) (mo_tm (x_bin (mo_tm (me_int)) (mo_tm (me_int)))))) (ma_nil)))) (ma_cons (mo_tm (x_bin (mo_name (pv 1)) (mo_tm (me_int)))) (ma_nil)))))) (ms_nil))
theorem ok_law_pen_of (W : Wd K mg)  : KnG P w K mg base 1 "_law_pen_of" ["_law_cell"] (spOf K 1 g_law_pen_of) := kng_mk W 7 7 rfl rfl rfl pl_law_pen_of sc_law_pen_of (bd_law_pen_of W)
theorem sc_law_draw : FnScope ["_law_pen", "_law_many", "_law_found"] ["_law_pen", "_law_many"] (defScope st_law_draw) := ⟨rfl, rfl, rfl, by decide +kernel, rfl, by decide +kernel, by decide +kernel⟩
theorem pl_law_draw : Plain d_law_draw ["_law_pen", "_law_many"] := ⟨rfl, rfl, fun _ _ _ _ _ _ us hl => match us, hl with | [_, _], _ => rfl⟩
theorem bd_law_draw (W : Wd K mg) (f : Addr) (cdv : Value) (A : Around) (outer : List Env) (s : Shared) (H : Hp) (E : XK) (hr : Rm 1 (cxN P w K mg base ["_law_pen", "_law_many", "_law_found"] d_law_draw f cdv A outer s H E).A) : PSs (cxN P w K mg base ["_law_pen", "_law_many", "_law_found"] d_law_draw f cdv A outer s H E) d_law_draw.body (tS K (ios [true, true]) m_law_draw) :=
  have nd : (["_law_pen", "_law_many", "_law_found"] : List Str).Nodup := sc_law_draw.nd
  ms_cons (ms_if (PW.pt (mt_and (y_cmp hr.toRoom (mo_tm (x_ix (mo_name (pv 0)) (mo_tm (me_int)))) (mo_tm (me_int))) (mt_and1 (y_cmp hr.toRoom (mo_tm (x_ix (mo_name (pv 0)) (mo_tm (me_int)))) (mo_tm (me_int)))))) (ms_cons (z_set 2 nd (x_bin (mo_tm (x_ix (mo_name (pv 0)) (mo_tm (me_int)))) (mo_name (pv 1)))) (ms_cons (z_ix 0 (pv 0) (mo_tm (me_int)) (x_bin (mo_tm (x_ix (mo_name (pv 0)) (mo_tm (me_int)))) (mo_name (pv 1)))) (ms_cons (ms_retV (pv 2)) (ms_nil)))) (ms_nil)) (ms_cons (z_ix 0 (pv 0) (mo_tm (me_int)) (g_call (ok_law_next W) hr (by decide) rfl (ma_cons (mo_tm (x_bin (mo_tm (g_call (ok_law_next W) hr (by decide) rfl (ma_cons (mo_tm (x_ix (mo_name (pv 0)) (mo_tm (me_int)))) (ma_nil)))) (mo_tm (me_int)))) (ma_nil)))) (ms_cons (ms_ret (x_bin (mo_tm (x_bin (mo_tm (x_ix (mo_name (pv 0)) (mo_tm (me_int)))) (mo_tm (me_int)))) (mo_name (pv 1)))) (ms_nil)))
theorem ok_law_draw (W : Wd K mg)  : KnG P w K mg base 2 "_law_draw" ["_law_pen", "_law_many"] (spOf K 2 g_law_draw) := kng_mk W 8 8 rfl rfl rfl pl_law_draw sc_law_draw (bd_law_draw W)
theorem sc_law_road : FnScope ["_law_pen", "_law_many", "_law_wide", "_law_house"] ["_law_pen"] (defScope st_law_road) := ⟨rfl, rfl, rfl, by decide +kernel, rfl, by decide +kernel, by decide +kernel⟩
theorem pl_law_road : Plain d_law_road ["_law_pen"] := ⟨rfl, rfl, fun _ _ _ _ _ _ us hl => match us, hl with | [_], _ => rfl⟩
theorem bd_law_road (W : Wd K mg) (f : Addr) (cdv : Value) (A : Around) (outer : List Env) (s : Shared) (H : Hp) (E : XK) (hr : Rm 2 (cxN P w K mg base ["_law_pen", "_law_many", "_law_wide", "_law_house"] d_law_road f cdv A outer s H E).A) : PSs (cxN P w K mg base ["_law_pen", "_law_many", "_law_wide", "_law_house"] d_law_road f cdv A outer s H E) d_law_road.body (tS K (ios [true]) m_law_road) :=
  have nd : (["_law_pen", "_law_many", "_law_wide", "_law_house"] : List Str).Nodup := sc_law_road.nd
  ms_cons (z_parN [1, 2] rfl (pgs_cons (g_nm 1 nd) (pgs_cons (g_nm 2 nd) (pgs_nil))) (ma_cons (mo_tm (x_bin (mo_tm (me_int)) (mo_tm (g_call (ok_law_draw W) hr (by decide) rfl (ma_cons (mo_name (pv 0)) (ma_cons (mo_tm (me_int)) (ma_nil))))))) (ma_cons (mo_tm (x_ix (mo_tm (me_lst (ma_cons (mo_tm (me_int)) (ma_cons (mo_tm (me_int)) (ma_cons (mo_tm (me_int)) (ma_nil)))))) (mo_tm (g_call (ok_law_draw W) hr (by decide) rfl (ma_cons (mo_name (pv 0)) (ma_cons (mo_tm (me_int)) (ma_nil))))))) (ma_nil)))) (ms_cons (ms_ret (x_bf .tuple rfl (W.free 18) rfl rfl (ma_cons (mo_tm (x_lc [("_law_house", 3)] rfl nd (blkOk_by (by first | rfl | kernel_rfl)) (z_rng1 (W.free 17) rfl (ma_cons (mo_tm (me_name (pv 1))) (ma_nil))) (Gd.imp (gd_name) (by intro j h; simpa using h)) (fun _ _ _ _ _ => g_nm 3 nd) (fun _ _ _ _ _ => pts_no) (fun _ _ _ _ _ => me_tup (ma_cons (mo_tm (x_bin (mo_tm (me_int)) (mo_tm (g_call (ok_law_draw W) hr (by decide) rfl (ma_cons (mo_name (pv 0)) (ma_cons (mo_name (pv 2)) (ma_nil))))))) (ma_cons (mo_tm (g_call (ok_law_draw W) hr (by decide) rfl (ma_cons (mo_name (pv 0)) (ma_cons (mo_tm (x_bin (mo_name (pv 2)) (mo_tm (me_int)))) (ma_nil))))) (ma_nil)))))) (ma_nil)))) (ms_nil))
theorem ok_law_road (W : Wd K mg)  : KnG P w K mg base 3 "_law_road" ["_law_pen"] (spOf K 1 g_law_road) := kng_mk W 9 9 rfl rfl rfl pl_law_road sc_law_road (bd_law_road W)
theorem sc_law_due : FnScope ["_law_road_here", "_law_time", "_law_left", "_law_found", "_law_worked", "_law_number", "_law_house"] ["_law_road_here", "_law_time"] (defScope st_law_due) := ⟨rfl, rfl, rfl, by decide +kernel, rfl, by decide +kernel, by decide +kernel⟩
theorem pl_law_due : Plain d_law_due ["_law_road_here", "_law_time"] := ⟨rfl, rfl, fun _ _ _ _ _ _ us hl => match us, hl with | [_, _], _ => rfl⟩
theorem bd_law_due (W : Wd K mg) (f : Addr) (cdv : Value) (A : Around) (outer : List Env) (s : Shared) (H : Hp) (E : XK) (hr : Rm 0 (cxN P w K mg base ["_law_road_here", "_law_time", "_law_left", "_law_found", "_law_worked", "_law_number", "_law_house"] d_law_due f cdv A outer s H E).A) : PSs (cxN P w K mg base ["_law_road_here", "_law_time", "_law_left", "_law_found", "_law_worked", "_law_number", "_law_house"] d_law_due f cdv A outer s H E) d_law_due.body (tS K (ios [true, true]) m_law_due) :=
  have nd : (["_law_road_here", "_law_time", "_law_left", "_law_found", "_law_worked", "_law_number", "_law_house"] : List Str).Nodup := sc_law_due.nd
  ms_cons (z_par3 2 3 4 rfl nd (ma_cons (mo_name (pv 1)) (ma_cons (mo_tm (me_lst (ma_nil))) (ma_cons (mo_tm (me_int)) (ma_nil))))) (ms_cons (z_for (ts := [5, 6]) .never rfl ((by refine mi_enumX (W.free 19) ?_ ?_; exact rfl; exact (mo_tm (me_name (pv 0))))) (Gd.imp (gd_tup rfl (gds_cons (gd_name) (gds_cons (gd_name) (gds_nil)))) (by intro j h; simpa using h)) (pg_tup rfl (pgs_cons (g_nm 5 nd) (pgs_cons (g_nm 6 nd) (pgs_nil)))) (ms_cons (z_app 3 (pv 3) (me_name (pv 2))) (ms_cons (ms_if (y_cmp hr.toRoom (mo_name (pv 2)) (mo_tm (x_ix (mo_name (pv 6)) (mo_tm (me_int))))) (ms_cons (ms_ret (me_lst (ma_cons (mo_name (pv 3)) (ma_cons (mo_name (pv 5)) (ma_cons (mo_name (pv 4)) (ma_nil)))))) (ms_nil)) (ms_nil)) (ms_cons (z_set 4 nd (x_bin (mo_name (pv 4)) (mo_tm (x_ix (mo_name (pv 6)) (mo_tm (me_int)))))) (ms_cons (z_set 2 nd (x_bin (mo_tm (x_bin (mo_name (pv 2)) (mo_tm (x_ix (mo_name (pv 6)) (mo_tm (me_int)))))) (mo_tm (x_ix (mo_name (pv 6)) (mo_tm (me_int)))))) (ms_cons (ms_if (y_cmp hr.toRoom (mo_name (pv 2)) (mo_tm (me_int))) (ms_cons (z_set 2 nd (me_int)) (ms_nil)) (ms_nil)) (ms_nil))))))) (ms_cons (ms_ret (me_lst (ma_cons (mo_name (pv 3)) (ma_cons (mo_tm (me_non)) (ma_cons (mo_tm (me_int)) (ma_nil)))))) (ms_nil)))
theorem ok_law_due (W : Wd K mg)  : KnG P w K mg base 1 "_law_due" ["_law_road_here", "_law_time"] (spOf K 2 g_law_due) := kng_mk W 10 10 rfl rfl rfl pl_law_due sc_law_due (bd_law_due W)
theorem sc_law_times : FnScope ["_law_pen", "_law_road_here", "_law_found", "_law_ahead", "_law_need", "_law_keep"] ["_law_pen", "_law_road_here"] (defScope st_law_times) := ⟨rfl, rfl, rfl, by decide +kernel, rfl, by decide +kernel, by decide +kernel⟩
theorem pl_law_times : Plain d_law_times ["_law_pen", "_law_road_here"] := ⟨rfl, rfl, fun _ _ _ _ _ _ us hl => match us, hl with | [_, _], _ => rfl⟩
theorem bd_law_times (W : Wd K mg) (f : Addr) (cdv : Value) (A : Around) (outer : List Env) (s : Shared) (H : Hp) (E : XK) (hr : Rm 2 (cxN P w K mg base ["_law_pen", "_law_road_here", "_law_found", "_law_ahead", "_law_need", "_law_keep"] d_law_times f cdv A outer s H E).A) : PSs (cxN P w K mg base ["_law_pen", "_law_road_here", "_law_found", "_law_ahead", "_law_need", "_law_keep"] d_law_times f cdv A outer s H E) d_law_times.body (tS K (ios [true, true]) m_law_times) :=
  have nd : (["_law_pen", "_law_road_here", "_law_found", "_law_ahead", "_law_need", "_law_keep"] : List Str).Nodup := sc_law_times.nd
  ms_cons (z_set 2 nd (me_lst (ma_cons (mo_tm (me_int)) (ma_cons (mo_tm (g_call (ok_law_draw W) hr (by decide) rfl (ma_cons (mo_name (pv 0)) (ma_cons (mo_tm (me_int)) (ma_nil))))) (ma_cons (mo_tm (g_call (ok_law_draw W) hr (by decide) rfl (ma_cons (mo_name (pv 0)) (ma_cons (mo_tm (x_bin (mo_tm (x_bin (mo_tm (me_int)) (mo_tm (me_int)))) (mo_tm (me_int)))) (ma_nil))))) (ma_cons (mo_tm (x_bin (mo_tm (me_int)) (mo_tm (me_int)))) (ma_nil))))))) (ms_cons (z_set 3 nd (me_int)) (ms_cons (z_for (ts := [4, 5]) .never rfl (mi_any (mo_tm (me_name (pv 1)))) (Gd.imp (gd_tup rfl (gds_cons (gd_name) (gds_cons (gd_name) (gds_nil)))) (by intro j h; simpa using h)) (pg_tup rfl (pgs_cons (g_nm 4 nd) (pgs_cons (g_nm 5 nd) (pgs_nil)))) (ms_cons (z_set 2 nd (x_bin (mo_name (pv 2)) (mo_tm (me_lst (ma_cons (mo_tm (x_bin (mo_name (pv 3)) (mo_name (pv 4)))) (ma_cons (mo_tm (x_bin (mo_tm (x_bin (mo_name (pv 3)) (mo_name (pv 4)))) (mo_tm (me_int)))) (ma_cons (mo_tm (x_bin (mo_tm (x_bin (mo_name (pv 3)) (mo_name (pv 4)))) (mo_name (pv 5)))) (ma_nil)))))))) (ms_cons (z_set 3 nd (x_bin (mo_tm (x_bin (mo_name (pv 3)) (mo_name (pv 4)))) (mo_name (pv 5)))) (ms_nil)))) (ms_cons (ms_retV (pv 2)) (ms_nil))))
theorem ok_law_times (W : Wd K mg)  : KnG P w K mg base 3 "_law_times" ["_law_pen", "_law_road_here"] (spOf K 2 g_law_times) := kng_mk W 11 11 rfl rfl rfl pl_law_times sc_law_times (bd_law_times W)
theorem sc_law : FnScope ["_law_script", "_law_cell", "_law_pen", "_law_road_here", "_law_through", "_law_time", "_law_total", "_law_need", "_law_keep", "_law_turn", "_law_least", "_law_left", "_law_turned", "_law_vain", "_law_told", "_law_found"] ["_law_script"] (defScope st_law) := ⟨rfl, rfl, rfl, by decide +kernel, rfl, by decide +kernel, by decide +kernel⟩
theorem pl_law : Plain d_law ["_law_script"] := ⟨rfl, rfl, fun _ _ _ _ _ _ us hl => match us, hl with | [_], _ => rfl⟩
theorem bd_law (W : Wd K mg) (f : Addr) (cdv : Value) (A : Around) (outer : List Env) (s : Shared) (H : Hp) (E : XK) (hr : Rm 3 (cxN P w K mg base ["_law_script", "_law_cell", "_law_pen", "_law_road_here", "_law_through", "_law_time", "_law_total", "_law_need", "_law_keep", "_law_turn", "_law_least", "_law_left", "_law_turned", "_law_vain", "_law_told", "_law_found"] d_law f cdv A outer s H E).A) : PSs (cxN P w K mg base ["_law_script", "_law_cell", "_law_pen", "_law_road_here", "_law_through", "_law_time", "_law_total", "_law_need", "_law_keep", "_law_turn", "_law_least", "_law_left", "_law_turned", "_law_vain", "_law_told", "_law_found"] d_law f cdv A outer s H E) d_law.body (tS K (ios [false]) m_law) :=
  have nd : (["_law_script", "_law_cell", "_law_pen", "_law_road_here", "_law_through", "_law_time", "_law_total", "_law_need", "_law_keep", "_law_turn", "_law_least", "_law_left", "_law_turned", "_law_vain", "_law_told", "_law_found"] : List Str).Nodup := sc_law.nd
  ms_cons (z_for (ts := [1]) .never rfl (mi_any (mo_tm (x_bin (mo_tm (me_lst (ma_cons (mo_tm (g_call (ok_law_cell_at W) hr (by decide) rfl (ma_cons (mo_name (pv 0)) (ma_cons (mo_tm (me_int)) (ma_nil))))) (ma_nil)))) (mo_tm (me_slice (mo_name (pv 0)) (mp_some (mo_tm (me_int))) (mp_some (mo_tm (me_int)))))))) (Gd.imp (gd_name) (by intro j h; simpa using h)) (g_nm 1 nd) (ms_cons (z_set 2 nd (g_call (ok_law_pen_of W) hr (by decide) rfl (ma_cons (mo_name (pv 1)) (ma_nil)))) (ms_cons (z_set 3 nd (g_call (ok_law_road W) hr (by decide) rfl (ma_cons (mo_name (pv 2)) (ma_nil)))) (ms_cons (z_lc 4 [("_law_time", 5)] rfl nd (blkOk_by (by first | rfl | kernel_rfl)) (mi_any (mo_tm (g_call (ok_law_times W) hr (by decide) rfl (ma_cons (mo_name (pv 2)) (ma_cons (mo_name (pv 3)) (ma_nil)))))) (Gd.imp (gd_name) (by intro j h; simpa using h)) (fun _ _ _ _ _ => g_nm 5 nd) (fun _ _ _ _ _ => pts_it (y_cmp hr.toRoom (mo_tm (x_ix (mo_tm (g_call (ok_law_due W) hr (by decide) rfl (ma_cons (mo_name (pv 3)) (ma_cons (mo_name (pv 5)) (ma_nil))))) (mo_tm (me_int)))) (mo_tm (me_non)))) (fun _ _ _ _ _ => me_name (pv 5))) (ms_cons (z_set 6 nd (x_bg .sum rfl (W.free 15) rfl rfl (ma_cons (mo_tm (x_lc [("_law_need", 7), ("_law_keep", 8)] rfl nd (blkOk_by (by first | rfl | kernel_rfl)) (mi_any (mo_tm (me_name (pv 3)))) (Gd.imp (gd_tup rfl (gds_cons (gd_name) (gds_cons (gd_name) (gds_nil)))) (by intro j h; simpa using h)) (fun _ _ _ _ _ => pg_tup rfl (pgs_cons (g_nm 7 nd) (pgs_cons (g_nm 8 nd) (pgs_nil)))) (fun _ _ _ _ _ => pts_no) (fun _ _ _ _ _ => me_name (pv 7)))) (ma_nil)))) (ms_cons (z_for (ts := [9]) .never rfl (z_rng1 (W.free 17) rfl (ma_cons (mo_tm (me_int)) (ma_nil))) (Gd.imp (gd_name) (by intro j h; simpa using h)) (g_nm 9 nd) (ms_cons (z_set 10 nd (g_call (ok_least_time W) hr (by decide) rfl (ma_cons (mo_name (pv 3)) (ma_nil)))) (ms_cons (ms_if (PW.pt (mt_or (y_cmp hr.toRoom (mo_name (pv 10)) (mo_name (pv 4))) (mt_or (y_cmp hr.toRoom (mo_tm (x_ix (mo_tm (g_call (ok_law_due W) hr (by decide) rfl (ma_cons (mo_name (pv 3)) (ma_cons (mo_name (pv 10)) (ma_nil))))) (mo_tm (me_int)))) (mo_tm (me_non))) (mt_or1 (y_cmp hr.toRoom (mo_name (pv 10)) (mo_tm (x_bg .minl rfl (W.free 21) rfl rfl (ma_cons (mo_name (pv 4)) (ma_nil))))))))) (ms_cons (ms_ret (me_bl)) (ms_nil)) (ms_nil)) (ms_cons (ms_if (y_cmp hr.toRoom (mo_tm (x_ix (mo_tm (g_call (ok_law_due W) hr (by decide) rfl (ma_cons (mo_name (pv 3)) (ma_cons (mo_tm (x_bin (mo_name (pv 10)) (mo_tm (me_int)))) (ma_nil))))) (mo_tm (me_int)))) (mo_tm (me_non))) (ms_cons (ms_ret (me_bl)) (ms_nil)) (ms_nil)) (ms_nil))))) (ms_cons (z_for (ts := [5]) .never rfl (mi_any (mo_tm (g_call (ok_law_times W) hr (by decide) rfl (ma_cons (mo_name (pv 2)) (ma_cons (mo_name (pv 3)) (ma_nil)))))) (Gd.imp (gd_name) (by intro j h; simpa using h)) (g_nm 5 nd) (ms_cons (z_asgL (Gd.imp (gd_lst rfl (gds_cons (gd_name) (gds_cons (gd_name) (gds_cons (gd_name) (gds_nil))))) (by intro j h; simpa using h)) (pg_lst rfl (pgs_cons (g_nm 11 nd) (pgs_cons (g_nm 12 nd) (pgs_cons (g_nm 13 nd) (pgs_nil))))) (g_call (ok_law_due W) hr (by decide) rfl (ma_cons (mo_name (pv 3)) (ma_cons (mo_name (pv 5)) (ma_nil))))) (ms_cons (z_for (ts := [9]) .never rfl (z_rng1 (W.free 17) rfl (ma_cons (mo_tm (me_int)) (ma_nil))) (Gd.imp (gd_name) (by intro j h; simpa using h)) (g_nm 9 nd) (ms_cons (z_set 14 nd (g_call (ok_times_of W) hr (by decide) rfl (ma_cons (mo_name (pv 3)) (ma_cons (mo_name (pv 5)) (ma_nil))))) (ms_scope2 (kp := [0, 1, 2, 3, 4, 5, 6, 7, 8, 9, 10, 11, 12, 13, 14]) (by decide) (z_set 15 nd (me_lst (ma_cons (mo_name (pv 14)) (ma_cons (mo_tm (g_call (ok_turned_at W) hr (by decide) rfl (ma_cons (mo_name (pv 3)) (ma_cons (mo_name (pv 5)) (ma_nil))))) (ma_cons (mo_tm (g_call (ok_vain_of W) hr (by decide) rfl (ma_cons (mo_name (pv 3)) (ma_cons (mo_name (pv 5)) (ma_nil))))) (ma_cons (mo_tm (g_call (ok_blind_of W) hr (by decide) rfl (ma_cons (mo_name (pv 3)) (ma_cons (mo_name (pv 5)) (ma_nil))))) (ma_nil))))))) (ms_if (y_cmp hr.toRoom (mo_tm (x_repr (W.free 20) hr rfl (ma_cons (mo_name (pv 15)) (ma_nil)))) (mo_tm (x_repr (W.free 20) hr rfl (ma_cons (mo_tm (me_lst (ma_cons (mo_name (pv 11)) (ma_cons (mo_name (pv 12)) (ma_cons (mo_name (pv 13)) (ma_cons (mo_tm (me_ife (y_cmp hr.toRoom (mo_name (pv 6)) (mo_name (pv 5))) (me_name (pv 6)) (me_int))) (ma_nil))))))) (ma_nil))))) (ms_cons (ms_ret (me_bl)) (ms_nil)) (ms_nil)) (ms_cons (z_app 14 (pv 14) (me_int)) (ms_nil))))) (ms_nil)))) (ms_nil)))))))) (ms_cons (ms_ret (me_bl)) (ms_nil))
end
end KW

namespace KW
open PySem PySem.Spec PyProof.Rows L2 L2.M
local macro_rules | `(tactic| walk_at "ev") => `(tactic| simp [semF, shared, after, mSeq, mSkip, mIf, mRet, mRetN, mRetV, mSet, mSetIx, mExpr, mB, mU, mTm, mPl, mK, mVar, mOp, mCons, mNil, bor, bors, mTst, mAndT, mOrT, mNotT, mAndE, mOrE, mNotE, mIfE, mIsi, isiD, mChn, chnL, cmpD, binD, addD, subD, mulD, modD, fdivD, powD, eqD, neD, ltD, leD, gtD, geD, isD, isnD, L2.M.isNon, negD, ixD, Bf.f, Bg.f, lenD, L2.M.intD, maxD, minD, repD, strD, gmaxD, gminD, sumD, sortD, anyD, allD, mCall, frz, fzO, cellO, cellsO, dist, notPl, wb, mTup, mLst, fzs, cD, mAsg, bTup, bTps, mApp, tupD, lstD, mRev, revD, ofs_inj, ee_ii, ee_ss, ee_bb, ee_nn, ee_is, ee_si, ee_in, ee_ni, ee_tt, ee_ll, ee_maps, ee_0, ee_1, ee_2, ee_3, at_lit, at_nat, at_m1, at_m2, scD, emD, sizeLine_eq, ixN, sm_lit, mSrc, itemsD, plOf, rng1D, bNm, mSl, mPt, mNoP, slD, mPar, keepT, tmsO, setA, mFlow, zipX, enumX, itemsX, intsOf, ints_all, boolsOf, shaped_lay, lay_int, lay_bool, lay_none, lay_dict, lay_tup, lay_list, lay_ints, sortX_ints])
local macro_rules | `(tactic| walk_at "es") => `(tactic| simp [semF, shared, after, mSeq, mSkip, mIf, mRet, mRetN, mRetV, mSet, mSetIx, mExpr, mB, mU, mTm, mPl, mK, mVar, mOp, mCons, mNil, bor, bors, mTst, mAndT, mOrT, mNotT, mAndE, mOrE, mNotE, mIfE, mIsi, isiD, mChn, chnL, cmpD, binD, addD, subD, mulD, modD, fdivD, powD, eqD, neD, ltD, leD, gtD, geD, isD, isnD, L2.M.isNon, negD, ixD, Bf.f, Bg.f, lenD, L2.M.intD, maxD, minD, repD, strD, gmaxD, gminD, sumD, sortD, anyD, allD, mCall, frz, fzO, cellO, cellsO, dist, notPl, wb, mTup, mLst, fzs, cD, mAsg, bTup, bTps, mApp, tupD, lstD, mRev, revD, ofs_inj, ee_ii, ee_ss, ee_bb, ee_nn, ee_is, ee_si, ee_in, ee_ni, ee_tt, ee_ll, ee_maps, ee_0, ee_1, ee_2, ee_3, at_lit, at_nat, at_m1, at_m2, scD, emD, sizeLine_eq, ixN, sm_lit, mSrc, itemsD, plOf, rng1D, bNm, mSl, mPt, mNoP, slD, mPar, keepT, tmsO, setA, mFlow, zipX, enumX, itemsX, intsOf, ints_all, boolsOf, shaped_lay, lay_int, lay_bool, lay_none, lay_dict, lay_tup, lay_list, lay_ints, sortX_ints, *])
local macro_rules | `(tactic| walk_at "el") => `(tactic| simp [semF, shared, after, mSeq, mSkip, mIf, mRet, mRetN, mRetV, mSet, mSetIx, mExpr, mB, mU, mTm, mPl, mK, mVar, mOp, mCons, mNil, bor, bors, mTst, mAndT, mOrT, mNotT, mAndE, mOrE, mNotE, mIfE, mIsi, isiD, mChn, chnL, cmpD, binD, addD, subD, mulD, modD, fdivD, powD, eqD, neD, ltD, leD, gtD, geD, isD, isnD, L2.M.isNon, negD, ixD, Bf.f, Bg.f, lenD, L2.M.intD, maxD, minD, repD, strD, gmaxD, gminD, sumD, sortD, anyD, allD, mCall, frz, fzO, cellO, cellsO, dist, notPl, wb, mTup, mLst, fzs, cD, mAsg, bTup, bTps, mApp, tupD, lstD, mRev, revD, ofs_inj, ee_ii, ee_ss, ee_bb, ee_nn, ee_is, ee_si, ee_in, ee_ni, ee_tt, ee_ll, ee_maps, ee_0, ee_1, ee_2, ee_3, at_lit, at_nat, at_m1, at_m2, scD, emD, sizeLine_eq, ixN, sm_lit, mSrc, itemsD, plOf, rng1D, bNm, mSl, mPt, mNoP, slD, mPar, keepT, tmsO, setA, mFlow, zipX, enumX, itemsX, intsOf, ints_all, boolsOf, shaped_lay, lay_int, lay_bool, lay_none, lay_dict, lay_tup, lay_list, lay_ints, sortX_ints, mLc, lcL, sameC, wipeC, restC, mYes, *])
local macro_rules | `(tactic| walk_at "ef") => `(tactic| simp [semF, shared, after, mSeq, mSkip, mIf, mRet, mRetN, mRetV, mSet, mSetIx, mExpr, mB, mU, mTm, mPl, mK, mVar, mOp, mCons, mNil, bor, bors, mTst, mAndT, mOrT, mNotT, mAndE, mOrE, mNotE, mIfE, mIsi, isiD, mChn, chnL, cmpD, binD, addD, subD, mulD, modD, fdivD, powD, eqD, neD, ltD, leD, gtD, geD, isD, isnD, L2.M.isNon, negD, ixD, Bf.f, Bg.f, lenD, L2.M.intD, maxD, minD, repD, strD, gmaxD, gminD, sumD, sortD, anyD, allD, mCall, frz, fzO, cellO, cellsO, dist, notPl, wb, mTup, mLst, fzs, cD, mAsg, bTup, bTps, mApp, tupD, lstD, mRev, revD, ofs_inj, ee_ii, ee_ss, ee_bb, ee_nn, ee_is, ee_si, ee_in, ee_ni, ee_tt, ee_ll, ee_maps, ee_0, ee_1, ee_2, ee_3, at_lit, at_nat, at_m1, at_m2, scD, emD, sizeLine_eq, ixN, sm_lit, mSrc, itemsD, plOf, rng1D, bNm, mSl, mPt, mNoP, slD, mPar, keepT, tmsO, setA, mFlow, zipX, enumX, itemsX, intsOf, ints_all, boolsOf, shaped_lay, lay_int, lay_bool, lay_none, lay_dict, lay_tup, lay_list, lay_ints, sortX_ints, mFor, forL, mLc, lcL, sameC, wipeC, restC, mYes, *])
local macro_rules | `(tactic| walk_at "rg") => `(tactic| (and_intros <;> grind))
local macro_rules | `(tactic| walk_at "nx") => `(tactic| (apply wx_nx; focus (walk_at "ev"; try first | exact ⟨rfl, rfl⟩ | rfl)))
local macro_rules | `(tactic| walk_at "ns") => `(tactic| (apply wx_nx; focus (walk_at "es"; try first | exact ⟨rfl, rfl⟩ | rfl)))
local macro_rules | `(tactic| walk_at "rt") => `(tactic| (apply wx_rt; focus (walk_at "ev"; try first | exact ⟨rfl, rfl⟩ | rfl)))
local macro_rules | `(tactic| walk_at "rs") => `(tactic| (apply wx_rt; focus (walk_at "es"; try first | exact ⟨rfl, rfl⟩ | rfl)))

@[simp] theorem next_eq (s : Int) : g_law_next [.sh (.int s)] = some (.sh (.int (nxt s)), [.sh (.int s)]) := by
  have h1 : sm ((s + 7919) % 2147483647) := ⟨by omega, by omega⟩
  unfold g_law_next m_law_next nxt
  walk_at "es"
theorem cell_eq (ns : List Int) (k : Nat) : g_law_cell_at [.sh (.list (ns.map PyData.int)), .sh (.int k)] = some (.sh (.int (ns.getD k 0)), [.sh (.list (ns.map PyData.int)), .sh (.int k)]) := by
  unfold g_law_cell_at m_law_cell_at
  by_cases h : k < ns.length
  · walk_at "es"
  · walk_at "es"
@[simp] theorem cell0_eq (ns : List Int) : g_law_cell_at [.sh (.list (ns.map PyData.int)), .sh (.int 0)] = some (.sh (.int (ns.getD 0 0)), [.sh (.list (ns.map PyData.int)), .sh (.int 0)]) := cell_eq ns 0
@[simp] theorem pen_eq (x : Int) : g_law_pen_of [.sh (.int x)] = some (.ls (penL (pnOf x)), [.sh (.int x)]) := by
  unfold g_law_pen_of m_law_pen_of pnOf penL
  walk_at "es"
@[simp] theorem draw_eq (p : Pn) (n : Int) (h0 : 0 < n) (h1 : sm n) : g_law_draw [.ls (penL p), .sh (.int n)] = some (.sh (.int (dr p n)), [.ls (penL (dn p n)), .sh (.int n)]) := by
  unfold g_law_draw m_law_draw dr dn penL
  by_cases hb : p.b = 1
  · by_cases hl : 0 < p.l
    · walk_at "es"
    · walk_at "es"
  · walk_at "es"
/-- the cells that a law goes through: the script's first ones -/
theorem cells_int (ns : List Int) (k : Int) (d : PyData) (h : d ∈ (PyData.int (ns.getD 0 0)) :: (L2.M.cutL ns (some 1) (some k)).map PyData.int) : ∃ x, d = .int x := by
  simp only [List.mem_cons, List.mem_map] at h
  rcases h with h | ⟨y, _, h⟩
  · exact ⟨_, h⟩
  · exact ⟨_, h.symm⟩
end KW

namespace KW
open PySem PySem.Spec PyProof.Rows L2 L2.M
local macro_rules | `(tactic| walk_at "ev") => `(tactic| simp [semF, shared, after, mSeq, mSkip, mIf, mRet, mRetN, mRetV, mSet, mSetIx, mExpr, mB, mU, mTm, mPl, mK, mVar, mOp, mCons, mNil, bor, bors, mTst, mAndT, mOrT, mNotT, mAndE, mOrE, mNotE, mIfE, mIsi, isiD, mChn, chnL, cmpD, binD, addD, subD, mulD, modD, fdivD, powD, eqD, neD, ltD, leD, gtD, geD, isD, isnD, L2.M.isNon, negD, ixD, Bf.f, Bg.f, lenD, L2.M.intD, maxD, minD, repD, strD, gmaxD, gminD, sumD, sortD, anyD, allD, mCall, frz, fzO, cellO, cellsO, dist, notPl, wb, mTup, mLst, fzs, cD, mAsg, bTup, bTps, mApp, tupD, lstD, mRev, revD, ofs_inj, ee_ii, ee_ss, ee_bb, ee_nn, ee_is, ee_si, ee_in, ee_ni, ee_tt, ee_ll, ee_maps, ee_0, ee_1, ee_2, ee_3, at_lit, at_nat, at_m1, at_m2, scD, emD, sizeLine_eq, ixN, sm_lit, mSrc, itemsD, plOf, rng1D, bNm, mSl, mPt, mNoP, slD, mPar, keepT, tmsO, setA, mFlow, zipX, enumX, itemsX, intsOf, ints_all, boolsOf, shaped_lay, lay_int, lay_bool, lay_none, lay_dict, lay_tup, lay_list, lay_ints, sortX_ints])
local macro_rules | `(tactic| walk_at "es") => `(tactic| simp [semF, shared, after, mSeq, mSkip, mIf, mRet, mRetN, mRetV, mSet, mSetIx, mExpr, mB, mU, mTm, mPl, mK, mVar, mOp, mCons, mNil, bor, bors, mTst, mAndT, mOrT, mNotT, mAndE, mOrE, mNotE, mIfE, mIsi, isiD, mChn, chnL, cmpD, binD, addD, subD, mulD, modD, fdivD, powD, eqD, neD, ltD, leD, gtD, geD, isD, isnD, L2.M.isNon, negD, ixD, Bf.f, Bg.f, lenD, L2.M.intD, maxD, minD, repD, strD, gmaxD, gminD, sumD, sortD, anyD, allD, mCall, frz, fzO, cellO, cellsO, dist, notPl, wb, mTup, mLst, fzs, cD, mAsg, bTup, bTps, mApp, tupD, lstD, mRev, revD, ofs_inj, ee_ii, ee_ss, ee_bb, ee_nn, ee_is, ee_si, ee_in, ee_ni, ee_tt, ee_ll, ee_maps, ee_0, ee_1, ee_2, ee_3, at_lit, at_nat, at_m1, at_m2, scD, emD, sizeLine_eq, ixN, sm_lit, mSrc, itemsD, plOf, rng1D, bNm, mSl, mPt, mNoP, slD, mPar, keepT, tmsO, setA, mFlow, zipX, enumX, itemsX, intsOf, ints_all, boolsOf, shaped_lay, lay_int, lay_bool, lay_none, lay_dict, lay_tup, lay_list, lay_ints, sortX_ints, *])
local macro_rules | `(tactic| walk_at "el") => `(tactic| simp [semF, shared, after, mSeq, mSkip, mIf, mRet, mRetN, mRetV, mSet, mSetIx, mExpr, mB, mU, mTm, mPl, mK, mVar, mOp, mCons, mNil, bor, bors, mTst, mAndT, mOrT, mNotT, mAndE, mOrE, mNotE, mIfE, mIsi, isiD, mChn, chnL, cmpD, binD, addD, subD, mulD, modD, fdivD, powD, eqD, neD, ltD, leD, gtD, geD, isD, isnD, L2.M.isNon, negD, ixD, Bf.f, Bg.f, lenD, L2.M.intD, maxD, minD, repD, strD, gmaxD, gminD, sumD, sortD, anyD, allD, mCall, frz, fzO, cellO, cellsO, dist, notPl, wb, mTup, mLst, fzs, cD, mAsg, bTup, bTps, mApp, tupD, lstD, mRev, revD, ofs_inj, ee_ii, ee_ss, ee_bb, ee_nn, ee_is, ee_si, ee_in, ee_ni, ee_tt, ee_ll, ee_maps, ee_0, ee_1, ee_2, ee_3, at_lit, at_nat, at_m1, at_m2, scD, emD, sizeLine_eq, ixN, sm_lit, mSrc, itemsD, plOf, rng1D, bNm, mSl, mPt, mNoP, slD, mPar, keepT, tmsO, setA, mFlow, zipX, enumX, itemsX, intsOf, ints_all, boolsOf, shaped_lay, lay_int, lay_bool, lay_none, lay_dict, lay_tup, lay_list, lay_ints, sortX_ints, mLc, lcL, sameC, wipeC, restC, mYes, *])
local macro_rules | `(tactic| walk_at "ef") => `(tactic| simp [semF, shared, after, mSeq, mSkip, mIf, mRet, mRetN, mRetV, mSet, mSetIx, mExpr, mB, mU, mTm, mPl, mK, mVar, mOp, mCons, mNil, bor, bors, mTst, mAndT, mOrT, mNotT, mAndE, mOrE, mNotE, mIfE, mIsi, isiD, mChn, chnL, cmpD, binD, addD, subD, mulD, modD, fdivD, powD, eqD, neD, ltD, leD, gtD, geD, isD, isnD, L2.M.isNon, negD, ixD, Bf.f, Bg.f, lenD, L2.M.intD, maxD, minD, repD, strD, gmaxD, gminD, sumD, sortD, anyD, allD, mCall, frz, fzO, cellO, cellsO, dist, notPl, wb, mTup, mLst, fzs, cD, mAsg, bTup, bTps, mApp, tupD, lstD, mRev, revD, ofs_inj, ee_ii, ee_ss, ee_bb, ee_nn, ee_is, ee_si, ee_in, ee_ni, ee_tt, ee_ll, ee_maps, ee_0, ee_1, ee_2, ee_3, at_lit, at_nat, at_m1, at_m2, scD, emD, sizeLine_eq, ixN, sm_lit, mSrc, itemsD, plOf, rng1D, bNm, mSl, mPt, mNoP, slD, mPar, keepT, tmsO, setA, mFlow, zipX, enumX, itemsX, intsOf, ints_all, boolsOf, shaped_lay, lay_int, lay_bool, lay_none, lay_dict, lay_tup, lay_list, lay_ints, sortX_ints, mFor, forL, mLc, lcL, sameC, wipeC, restC, mYes, *])
local macro_rules | `(tactic| walk_at "rg") => `(tactic| (and_intros <;> grind))
local macro_rules | `(tactic| walk_at "nx") => `(tactic| (apply wx_nx; focus (walk_at "ev"; try first | exact ⟨rfl, rfl⟩ | rfl)))
local macro_rules | `(tactic| walk_at "ns") => `(tactic| (apply wx_nx; focus (walk_at "es"; try first | exact ⟨rfl, rfl⟩ | rfl)))
local macro_rules | `(tactic| walk_at "rt") => `(tactic| (apply wx_rt; focus (walk_at "ev"; try first | exact ⟨rfl, rfl⟩ | rfl)))
local macro_rules | `(tactic| walk_at "rs") => `(tactic| (apply wx_rt; focus (walk_at "es"; try first | exact ⟨rfl, rfl⟩ | rfl)))

/-- a road as the law draws it -/
def roads (rs : List (Int × Int)) : Prop := 1 ≤ rs.length ∧ rs.length ≤ 8 ∧ ∀ p ∈ rs, 1 ≤ p.1 ∧ p.1 ≤ 100000 ∧ 0 ≤ p.2 ∧ p.2 ≤ 100000
def hou (p : Int × Int) : PyData := .tuple [.int p.1, .int p.2]
theorem law_road_eq (p : Pn) : Rt (g_law_road [.ls (penL p)]) fun c cs => ∃ rs q, roads rs ∧ c = .sh (.tuple (rs.map hou)) ∧ cs = [.ls (penL q)] := by
  have h3 := @pkd3
  unfold g_law_road m_law_road
  apply rt_sem rfl
  walk_at "ns"
  clear h3
  have n0 := dr_ab p 8 (by decide)
  generalize hw : gt [4, 30, 1000] _ = w
  have w0 : 1 ≤ w ∧ w ≤ 1000 := by
    rw [← hw]
    clear hw
    apply gd3 (P := fun v => 1 ≤ v ∧ v ≤ 1000)
    walk_at "rg"
  clear hw
  generalize hn : 1 + dr p 8 = n
  have n1 : 1 ≤ n ∧ n ≤ 8 := by omega
  clear hn n0
  generalize dn (dn p 8) 3 = p1
  have m1 : -4611686018427387904 ≤ n := by omega
  have m2 : n < 4611686018427387904 := by omega
  have w1 : 0 < w := by omega
  have w2 : sm w := ⟨by omega, by omega⟩
  have w3 : 0 < w + 1 := by omega
  have w4 : sm (w + 1) := ⟨by omega, by omega⟩
  have w5 : 0 ≤ w := by omega
  replace n1 := Hid.mk n1
  replace w0 := Hid.mk w0
  obtain ⟨out, ε2, e, q, rs, rfl, rfl, ho, hl⟩ := lc_rule (src := mSrc rng1D (mCons (mTm (mVar 1)) (mNil))) (bind := bNm 3) (tests := mYes) (elt := mTup (mCons (mTm (mB (binD .Add) (mTm (mK (.int 1))) (mTm (mCall [true, true] g_law_draw (mCons (mPl 0) (mCons (mPl 2) (mNil))))))) (mCons (mTm (mCall [true, true] g_law_draw (mCons (mPl 0) (mCons (mTm (mB (binD .Add) (mPl 2) (mTm (mK (.int 1))))) (mNil))))) (mNil)))) (own := [3]) (ws := []) (ε := [.ls (penL p1), .sh (.int n), .sh (.int w), .no]) (ε1 := [.ls (penL p1), .sh (.int n), .sh (.int w), .no]) (ds := rangeD 0 1 n.toNat)
    (fun i out ε => ∃ (q : Pn) (rs : List (Int × Int)), ε = [.ls (penL q), .sh (.int n), .sh (.int w), .no] ∧ out = rs.map hou ∧ (∀ p ∈ rs, 1 ≤ p.1 ∧ p.1 ≤ 100000 ∧ 0 ≤ p.2 ∧ p.2 ≤ 100000) ∧ rs.length = i) (by walk_at "es") rfl ⟨_, [], rfl, rfl, fun d hd => (by cases hd), rfl⟩ (fun _ _ _ _ => same0 _ _) (by rw [sizeLine_eq]; have := n1.get; simp [rangeD]; omega) (by
      rintro i d out ε hd ⟨q, rs, rfl, rfl, ho, hl⟩
      have d1 := dr_ab q w w1
      have d2 := dr_ab (dn q w) (w + 1) w3
      refine ⟨_, true, _, rfl, rfl, fun z => (by cases z), fun _ => ⟨.sh (hou (1 + dr q w, dr (dn q w) (w + 1))), _, [.ls (penL (dn (dn q w) (w + 1))), .sh (.int n), .sh (.int w), .sh d], ?_, rfl, _, rs ++ [(1 + dr q w, dr (dn q w) (w + 1))], rfl, by simp, ?_, by simp [hl]⟩⟩
      · unfold hou
        clear hd ho hl d1 d2
        walk_at "es"
      · intro x hx
        rcases List.mem_append.mp hx with hx | hx
        · exact ho x hx
        · simp at hx
          subst hx
          have := w0.get
          simp only
          omega)
  have n1 := n1.get
  simp [rangeD] at hl
  apply wx_rt (c := .sh (.tuple (rs.map hou))) (ε1 := [.ls (penL q), .sh (.int n), .sh (.int w), .no])
  · exact e_ret (e_op1 e rfl rfl)
  exact ⟨rs, q, ⟨by omega, by omega, ho⟩, rfl, rfl⟩
end KW

namespace KW
open PySem PySem.Spec PyProof.Rows L2 L2.M
local macro_rules | `(tactic| walk_at "ev") => `(tactic| simp [semF, shared, after, mSeq, mSkip, mIf, mRet, mRetN, mRetV, mSet, mSetIx, mExpr, mB, mU, mTm, mPl, mK, mVar, mOp, mCons, mNil, bor, bors, mTst, mAndT, mOrT, mNotT, mAndE, mOrE, mNotE, mIfE, mIsi, isiD, mChn, chnL, cmpD, binD, addD, subD, mulD, modD, fdivD, powD, eqD, neD, ltD, leD, gtD, geD, isD, isnD, L2.M.isNon, negD, ixD, Bf.f, Bg.f, lenD, L2.M.intD, maxD, minD, repD, strD, gmaxD, gminD, sumD, sortD, anyD, allD, mCall, frz, fzO, cellO, cellsO, dist, notPl, wb, mTup, mLst, fzs, cD, mAsg, bTup, bTps, mApp, tupD, lstD, mRev, revD, ofs_inj, ee_ii, ee_ss, ee_bb, ee_nn, ee_is, ee_si, ee_in, ee_ni, ee_tt, ee_ll, ee_maps, ee_0, ee_1, ee_2, ee_3, at_lit, at_nat, at_m1, at_m2, scD, emD, sizeLine_eq, ixN, sm_lit, mSrc, itemsD, plOf, rng1D, bNm, mSl, mPt, mNoP, slD, mPar, keepT, tmsO, setA, mFlow, zipX, enumX, itemsX, intsOf, ints_all, boolsOf, shaped_lay, lay_int, lay_bool, lay_none, lay_dict, lay_tup, lay_list, lay_ints, sortX_ints])
local macro_rules | `(tactic| walk_at "es") => `(tactic| simp [semF, shared, after, mSeq, mSkip, mIf, mRet, mRetN, mRetV, mSet, mSetIx, mExpr, mB, mU, mTm, mPl, mK, mVar, mOp, mCons, mNil, bor, bors, mTst, mAndT, mOrT, mNotT, mAndE, mOrE, mNotE, mIfE, mIsi, isiD, mChn, chnL, cmpD, binD, addD, subD, mulD, modD, fdivD, powD, eqD, neD, ltD, leD, gtD, geD, isD, isnD, L2.M.isNon, negD, ixD, Bf.f, Bg.f, lenD, L2.M.intD, maxD, minD, repD, strD, gmaxD, gminD, sumD, sortD, anyD, allD, mCall, frz, fzO, cellO, cellsO, dist, notPl, wb, mTup, mLst, fzs, cD, mAsg, bTup, bTps, mApp, tupD, lstD, mRev, revD, ofs_inj, ee_ii, ee_ss, ee_bb, ee_nn, ee_is, ee_si, ee_in, ee_ni, ee_tt, ee_ll, ee_maps, ee_0, ee_1, ee_2, ee_3, at_lit, at_nat, at_m1, at_m2, scD, emD, sizeLine_eq, ixN, sm_lit, mSrc, itemsD, plOf, rng1D, bNm, mSl, mPt, mNoP, slD, mPar, keepT, tmsO, setA, mFlow, zipX, enumX, itemsX, intsOf, ints_all, boolsOf, shaped_lay, lay_int, lay_bool, lay_none, lay_dict, lay_tup, lay_list, lay_ints, sortX_ints, *])
local macro_rules | `(tactic| walk_at "el") => `(tactic| simp [semF, shared, after, mSeq, mSkip, mIf, mRet, mRetN, mRetV, mSet, mSetIx, mExpr, mB, mU, mTm, mPl, mK, mVar, mOp, mCons, mNil, bor, bors, mTst, mAndT, mOrT, mNotT, mAndE, mOrE, mNotE, mIfE, mIsi, isiD, mChn, chnL, cmpD, binD, addD, subD, mulD, modD, fdivD, powD, eqD, neD, ltD, leD, gtD, geD, isD, isnD, L2.M.isNon, negD, ixD, Bf.f, Bg.f, lenD, L2.M.intD, maxD, minD, repD, strD, gmaxD, gminD, sumD, sortD, anyD, allD, mCall, frz, fzO, cellO, cellsO, dist, notPl, wb, mTup, mLst, fzs, cD, mAsg, bTup, bTps, mApp, tupD, lstD, mRev, revD, ofs_inj, ee_ii, ee_ss, ee_bb, ee_nn, ee_is, ee_si, ee_in, ee_ni, ee_tt, ee_ll, ee_maps, ee_0, ee_1, ee_2, ee_3, at_lit, at_nat, at_m1, at_m2, scD, emD, sizeLine_eq, ixN, sm_lit, mSrc, itemsD, plOf, rng1D, bNm, mSl, mPt, mNoP, slD, mPar, keepT, tmsO, setA, mFlow, zipX, enumX, itemsX, intsOf, ints_all, boolsOf, shaped_lay, lay_int, lay_bool, lay_none, lay_dict, lay_tup, lay_list, lay_ints, sortX_ints, mLc, lcL, sameC, wipeC, restC, mYes, *])
local macro_rules | `(tactic| walk_at "ef") => `(tactic| simp [semF, shared, after, mSeq, mSkip, mIf, mRet, mRetN, mRetV, mSet, mSetIx, mExpr, mB, mU, mTm, mPl, mK, mVar, mOp, mCons, mNil, bor, bors, mTst, mAndT, mOrT, mNotT, mAndE, mOrE, mNotE, mIfE, mIsi, isiD, mChn, chnL, cmpD, binD, addD, subD, mulD, modD, fdivD, powD, eqD, neD, ltD, leD, gtD, geD, isD, isnD, L2.M.isNon, negD, ixD, Bf.f, Bg.f, lenD, L2.M.intD, maxD, minD, repD, strD, gmaxD, gminD, sumD, sortD, anyD, allD, mCall, frz, fzO, cellO, cellsO, dist, notPl, wb, mTup, mLst, fzs, cD, mAsg, bTup, bTps, mApp, tupD, lstD, mRev, revD, ofs_inj, ee_ii, ee_ss, ee_bb, ee_nn, ee_is, ee_si, ee_in, ee_ni, ee_tt, ee_ll, ee_maps, ee_0, ee_1, ee_2, ee_3, at_lit, at_nat, at_m1, at_m2, scD, emD, sizeLine_eq, ixN, sm_lit, mSrc, itemsD, plOf, rng1D, bNm, mSl, mPt, mNoP, slD, mPar, keepT, tmsO, setA, mFlow, zipX, enumX, itemsX, intsOf, ints_all, boolsOf, shaped_lay, lay_int, lay_bool, lay_none, lay_dict, lay_tup, lay_list, lay_ints, sortX_ints, mFor, forL, mLc, lcL, sameC, wipeC, restC, mYes, *])
local macro_rules | `(tactic| walk_at "rg") => `(tactic| (and_intros <;> grind))
local macro_rules | `(tactic| walk_at "nx") => `(tactic| (apply wx_nx; focus (walk_at "ev"; try first | exact ⟨rfl, rfl⟩ | rfl)))
local macro_rules | `(tactic| walk_at "ns") => `(tactic| (apply wx_nx; focus (walk_at "es"; try first | exact ⟨rfl, rfl⟩ | rfl)))
local macro_rules | `(tactic| walk_at "rt") => `(tactic| (apply wx_rt; focus (walk_at "ev"; try first | exact ⟨rfl, rfl⟩ | rfl)))
local macro_rules | `(tactic| walk_at "rs") => `(tactic| (apply wx_rt; focus (walk_at "es"; try first | exact ⟨rfl, rfl⟩ | rfl)))

theorem enum_hou (rs : List (Int × Int)) (i : Nat) {d : PyData} (h : (enumFrom 0 (rs.map hou))[i]? = some d) : ∃ hi : i < rs.length, d = .tuple [.int i, .tuple [.int rs[i].1, .int rs[i].2]] := by
  rw [enum_get, List.getElem?_map] at h
  cases hx : rs[i]? with
  | none => rw [hx] at h; cases h
  | some x =>
    rw [hx] at h
    obtain ⟨hi, rfl⟩ := List.getElem?_eq_some_iff.mp hx
    refine ⟨hi, ?_⟩
    have := Option.some.inj h
    simpa [hou] using this.symm
theorem times_of_eq (rs : List (Int × Int)) (t : Int) (hl : rs.length ≤ 8) : g_times_of [.sh (.tuple (rs.map hou)), .sh (.int t)] = some (.ls ((tsL rs t).map .int), [.sh (.tuple (rs.map hou)), .sh (.int t)]) := by
  apply rt_eq
  unfold g_times_of m_times_of
  apply rt_sem rfl
  walk_at "nx"
  generalize hR : rs.map hou = R
  replace hR := Hid.mk hR
  generalize hT : tsL rs t = T
  replace hT := Hid.mk hT
  apply wx_seq
  apply wx_sts (st := rs) (ε1 := [.sh (.tuple R), .sh (.int t), .ls [], .no, .no]) (fun k ε => ∃ (cur : Int) (acc : List Int) (c3 c4 : C), ε = [.sh (.tuple R), .sh (.int cur), .ls (acc.map .int), c3, c4] ∧ acc ++ tsL (rs.drop k) cur = T ∧ acc.length = k)
  · have e := hR.get
    have e2 : rs.map pr = R := e
    rw [e2]
    clear e hl
    walk_at "ev"
  · exact ⟨t, [], _, _, rfl, hT.get, rfl⟩
  · rintro k hk ε ⟨cur, acc, c3, c4, rfl, ha, hn⟩
    rw [List.drop_eq_getElem_cons hk, tsL] at ha
    generalize rs.drop (k + 1) = rest at *
    generalize rs[k] = p at *
    obtain ⟨n, k2⟩ := p
    simp only at ha
    have hz : acc.length < 16777216 := by omega
    refine ⟨_, rfl, ?_⟩
    apply wx_nx (ε1 := [.sh (.tuple R), .sh (.int cur), .ls ((acc ++ [cur]).map .int), .sh (.int n), .sh (.int k2)])
    · clear ha hn hk hl
      walk_at "es"
    by_cases c : cur < n
    · rw [if_pos c] at ha
      rw [ha]
      clear ha hn hk hl
      walk_at "rs"
      exact ⟨rfl, rfl⟩
    · rw [if_neg c] at ha
      replace ha := Hid.mk ha
      replace hn := Hid.mk hn
      apply wx_nx (ε1 := [.sh (.tuple R), .sh (.int cur), .ls ((acc ++ [cur]).map .int), .sh (.int n), .sh (.int k2)])
      · walk_at "es"
      apply wx_nx (ε1 := [.sh (.tuple R), .sh (.int (lft cur n k2)), .ls ((acc ++ [cur]).map .int), .sh (.int n), .sh (.int k2)])
      · by_cases c2 : 0 < cur - n - k2
        · have e := lft_pos c2
          walk_at "es"
          try omega
        · have e := lft_neg c2
          walk_at "es"
          try omega
      have ha := ha.get
      have hn := hn.get
      exact wx_skip ⟨_, acc ++ [cur], _, _, rfl, by simpa using ha, by simp [hn]⟩
  · rintro ε ⟨cur, acc, c3, c4, rfl, ha, hn⟩
    rw [List.drop_length, tsL, List.append_nil] at ha
    subst ha
    clear hn hl
    walk_at "rt"
    exact ⟨rfl, rfl⟩
/-- who turned it away, as the program tells it -/
def tD : Option Nat → PyData
  | none => .none
  | some i => .int i
def wrk (rs : List (Int × Int)) : Option Nat → Int
  | none => 0
  | some i => ((rs.take i).map fun p => p.1).sum
def dueL (rs : List (Int × Int)) (t : Int) : List PyData := [.list ((tsL rs t).map .int), tD (stp rs t), .int (wrk rs (stp rs t))]
theorem law_due_eq (rs : List (Int × Int)) (t : Int) (hl : rs.length ≤ 8) : g_law_due [.sh (.tuple (rs.map hou)), .sh (.int t)] = some (.ls (dueL rs t), [.sh (.tuple (rs.map hou)), .sh (.int t)]) := by
  apply rt_eq
  unfold g_law_due m_law_due
  apply rt_sem rfl
  walk_at "nx"
  apply wx_seq
  apply wx_for (ds := enumFrom 0 (rs.map hou)) (ws := []) (ε1 := [.sh (.tuple (rs.map hou)), .sh (.int t), .sh (.int t), .ls [], .sh (.int 0), .no, .no]) (fun k ε => ∃ (cur : Int) (acc : List Int) (c5 c6 : C), ε = [.sh (.tuple (rs.map hou)), .sh (.int t), .sh (.int cur), .ls (acc.map .int), .sh (.int ((rs.take k).map fun p => p.1).sum), c5, c6] ∧ acc ++ tsL (rs.drop k) cur = tsL rs t ∧ (stp (rs.drop k) cur).map (· + k) = stp rs t ∧ acc.length = k)
  · walk_at "ev"
  · rfl
  · refine ⟨t, [], _, _, rfl, rfl, ?_, rfl⟩
    simp
  · intro i ε hj j hj2
    cases hj2
  · rintro k d ε hd ⟨cur, acc, c5, c6, rfl, ha, hs, hn⟩
    obtain ⟨hk, rfl⟩ := enum_hou rs k hd
    have et : ((rs.take (k + 1)).map fun p => p.1).sum = ((rs.take k).map fun p => p.1).sum + rs[k].1 := by
      rw [List.take_succ_eq_append_getElem hk, List.map_append, List.sum_append]
      simp only [List.map_cons, List.map_nil, List.sum_cons, List.sum_nil]
      omega
    rw [et]
    rw [List.drop_eq_getElem_cons hk, tsL] at ha
    rw [List.drop_eq_getElem_cons hk, stp] at hs
    have hz : acc.length < 16777216 := by omega
    have fin : stp rs t = some k → acc ++ [cur] = tsL rs t → endQ [true, true] [C.sh (.tuple (rs.map hou)), C.sh (.int t)] (fun c' cs' => c' = C.ls (dueL rs t) ∧ cs' = [C.sh (.tuple (rs.map hou)), C.sh (.int t)]) (.rt (.ls [.list ((acc ++ [cur]).map .int), .int k, .int ((rs.take k).map fun p => p.1).sum])) [.sh (.tuple (rs.map hou)), .sh (.int t), .sh (.int cur), .sh (.list ((acc ++ [cur]).map .int)), .sh (.int ((rs.take k).map fun p => p.1).sum), .sh (.int k), .sh (.tuple [.int rs[k].1, .int rs[k].2])] := by
      intro h1 h2
      refine ⟨?_, rfl⟩
      unfold dueL
      rw [h1, h2]
      rfl
    generalize endQ [true, true] [C.sh (.tuple (rs.map hou)), C.sh (.int t)] (fun c' cs' => c' = C.ls (dueL rs t) ∧ cs' = [C.sh (.tuple (rs.map hou)), C.sh (.int t)]) = Q at *
    generalize rs.map hou = R at *
    generalize rs.drop (k + 1) = rest at *
    generalize rs[k] = p at *
    generalize ((rs.take k).map fun p => p.1).sum = W at *
    obtain ⟨n, k2⟩ := p
    simp only at ha hs fin ⊢
    refine ⟨_, rfl, ?_⟩
    clear hd hl hk et
    apply wx_nx (ε1 := [.sh (.tuple R), .sh (.int t), .sh (.int cur), .ls ((acc ++ [cur]).map .int), .sh (.int W), .sh (.int k), .sh (.tuple [.int n, .int k2])])
    · clear ha hn hs fin
      walk_at "es"
    by_cases c : cur < n
    · rw [if_pos c] at ha hs
      replace fin := Hid.mk (fin (by rw [← hs]; simp) ha)
      clear ha hs hn
      generalize (acc ++ [cur]).map PyData.int = A at *
      walk_at "rs"
      exact fin.get
    · rw [if_neg c] at ha hs
      clear fin
      replace ha := Hid.mk ha
      replace hs := Hid.mk hs
      replace hn := Hid.mk hn
      generalize hA : (acc ++ [cur]).map PyData.int = A at *
      replace hA := Hid.mk hA
      walk_at "ns"
      walk_at "ns"
      walk_at "ns"
      by_cases c2 : 0 < cur - n - k2
      · have e := lft_pos c2
        have c3 : ¬ cur - n - k2 < 0 := by omega
        walk_at "ns"
        have ha := ha.get
        have hn := hn.get
        have hs := hs.get
        rw [e] at ha hs
        have hA := hA.get
        refine wx_skip ⟨_, acc ++ [cur], _, _, by rw [hA], by simpa using ha, ?_, by simp [hn]⟩
        rw [← hs, Option.map_map]
        congr 1
        funext x
        simp
        omega
      · have e := lft_neg c2
        have fin : ∃ (cur' : Int) (acc' : List Int) (c5 c6 : C), [C.sh (.tuple R), .sh (.int t), .sh (.int 0), .ls A, .sh (.int (W + n)), .sh (.int k), .sh (.tuple [.int n, .int k2])] = [.sh (.tuple R), .sh (.int t), .sh (.int cur'), .ls (acc'.map .int), .sh (.int (W + n)), c5, c6] ∧ acc' ++ tsL rest cur' = tsL rs t ∧ (stp rest cur').map (· + (k + 1)) = stp rs t ∧ acc'.length = k + 1 := by
          have ha := ha.get
          have hn := hn.get
          have hs := hs.get
          rw [e] at ha hs
          have hA := hA.get
          refine ⟨_, acc ++ [cur], _, _, by rw [hA], by simpa using ha, ?_, by simp [hn]⟩
          rw [← hs, Option.map_map]
          congr 1
          funext x
          simp
          omega
        by_cases c3 : cur - n - k2 < 0
        · replace fin := Hid.mk fin
          walk_at "ns"
          exact wx_skip fin.get
        · have c4 : cur - n - k2 = 0 := by omega
          rw [c4]
          replace fin := Hid.mk fin
          clear c3 c2 c4
          walk_at "ns"
          exact wx_skip fin.get
  · rintro ε ⟨cur, acc, c5, c6, rfl, ha, hs, hn⟩
    rw [enum_len, List.length_map] at ha hs hn ⊢
    rw [List.drop_length, tsL, List.append_nil] at ha
    rw [List.drop_length, stp] at hs
    have fin : dueL rs t = [.list (acc.map .int), .none, .int 0] := by
      unfold dueL
      rw [← hs, ← ha]
      rfl
    rw [fin]
    clear hn hl hs ha fin
    walk_at "rt"
    exact ⟨rfl, rfl⟩
end KW

namespace KW
open PySem PySem.Spec PyProof.Rows L2 L2.M
local macro_rules | `(tactic| walk_at "ev") => `(tactic| simp [semF, shared, after, mSeq, mSkip, mIf, mRet, mRetN, mRetV, mSet, mSetIx, mExpr, mB, mU, mTm, mPl, mK, mVar, mOp, mCons, mNil, bor, bors, mTst, mAndT, mOrT, mNotT, mAndE, mOrE, mNotE, mIfE, mIsi, isiD, mChn, chnL, cmpD, binD, addD, subD, mulD, modD, fdivD, powD, eqD, neD, ltD, leD, gtD, geD, isD, isnD, L2.M.isNon, negD, ixD, Bf.f, Bg.f, lenD, L2.M.intD, maxD, minD, repD, strD, gmaxD, gminD, sumD, sortD, anyD, allD, mCall, frz, fzO, cellO, cellsO, dist, notPl, wb, mTup, mLst, fzs, cD, mAsg, bTup, bTps, mApp, tupD, lstD, mRev, revD, ofs_inj, ee_ii, ee_ss, ee_bb, ee_nn, ee_is, ee_si, ee_in, ee_ni, ee_tt, ee_ll, ee_maps, ee_0, ee_1, ee_2, ee_3, at_lit, at_nat, at_m1, at_m2, scD, emD, sizeLine_eq, ixN, sm_lit, mSrc, itemsD, plOf, rng1D, bNm, mSl, mPt, mNoP, slD, mPar, keepT, tmsO, setA, mFlow, zipX, enumX, itemsX, intsOf, ints_all, boolsOf, shaped_lay, lay_int, lay_bool, lay_none, lay_dict, lay_tup, lay_list, lay_ints, sortX_ints])
local macro_rules | `(tactic| walk_at "es") => `(tactic| simp [semF, shared, after, mSeq, mSkip, mIf, mRet, mRetN, mRetV, mSet, mSetIx, mExpr, mB, mU, mTm, mPl, mK, mVar, mOp, mCons, mNil, bor, bors, mTst, mAndT, mOrT, mNotT, mAndE, mOrE, mNotE, mIfE, mIsi, isiD, mChn, chnL, cmpD, binD, addD, subD, mulD, modD, fdivD, powD, eqD, neD, ltD, leD, gtD, geD, isD, isnD, L2.M.isNon, negD, ixD, Bf.f, Bg.f, lenD, L2.M.intD, maxD, minD, repD, strD, gmaxD, gminD, sumD, sortD, anyD, allD, mCall, frz, fzO, cellO, cellsO, dist, notPl, wb, mTup, mLst, fzs, cD, mAsg, bTup, bTps, mApp, tupD, lstD, mRev, revD, ofs_inj, ee_ii, ee_ss, ee_bb, ee_nn, ee_is, ee_si, ee_in, ee_ni, ee_tt, ee_ll, ee_maps, ee_0, ee_1, ee_2, ee_3, at_lit, at_nat, at_m1, at_m2, scD, emD, sizeLine_eq, ixN, sm_lit, mSrc, itemsD, plOf, rng1D, bNm, mSl, mPt, mNoP, slD, mPar, keepT, tmsO, setA, mFlow, zipX, enumX, itemsX, intsOf, ints_all, boolsOf, shaped_lay, lay_int, lay_bool, lay_none, lay_dict, lay_tup, lay_list, lay_ints, sortX_ints, *])
local macro_rules | `(tactic| walk_at "el") => `(tactic| simp [semF, shared, after, mSeq, mSkip, mIf, mRet, mRetN, mRetV, mSet, mSetIx, mExpr, mB, mU, mTm, mPl, mK, mVar, mOp, mCons, mNil, bor, bors, mTst, mAndT, mOrT, mNotT, mAndE, mOrE, mNotE, mIfE, mIsi, isiD, mChn, chnL, cmpD, binD, addD, subD, mulD, modD, fdivD, powD, eqD, neD, ltD, leD, gtD, geD, isD, isnD, L2.M.isNon, negD, ixD, Bf.f, Bg.f, lenD, L2.M.intD, maxD, minD, repD, strD, gmaxD, gminD, sumD, sortD, anyD, allD, mCall, frz, fzO, cellO, cellsO, dist, notPl, wb, mTup, mLst, fzs, cD, mAsg, bTup, bTps, mApp, tupD, lstD, mRev, revD, ofs_inj, ee_ii, ee_ss, ee_bb, ee_nn, ee_is, ee_si, ee_in, ee_ni, ee_tt, ee_ll, ee_maps, ee_0, ee_1, ee_2, ee_3, at_lit, at_nat, at_m1, at_m2, scD, emD, sizeLine_eq, ixN, sm_lit, mSrc, itemsD, plOf, rng1D, bNm, mSl, mPt, mNoP, slD, mPar, keepT, tmsO, setA, mFlow, zipX, enumX, itemsX, intsOf, ints_all, boolsOf, shaped_lay, lay_int, lay_bool, lay_none, lay_dict, lay_tup, lay_list, lay_ints, sortX_ints, mLc, lcL, sameC, wipeC, restC, mYes, *])
local macro_rules | `(tactic| walk_at "ef") => `(tactic| simp [semF, shared, after, mSeq, mSkip, mIf, mRet, mRetN, mRetV, mSet, mSetIx, mExpr, mB, mU, mTm, mPl, mK, mVar, mOp, mCons, mNil, bor, bors, mTst, mAndT, mOrT, mNotT, mAndE, mOrE, mNotE, mIfE, mIsi, isiD, mChn, chnL, cmpD, binD, addD, subD, mulD, modD, fdivD, powD, eqD, neD, ltD, leD, gtD, geD, isD, isnD, L2.M.isNon, negD, ixD, Bf.f, Bg.f, lenD, L2.M.intD, maxD, minD, repD, strD, gmaxD, gminD, sumD, sortD, anyD, allD, mCall, frz, fzO, cellO, cellsO, dist, notPl, wb, mTup, mLst, fzs, cD, mAsg, bTup, bTps, mApp, tupD, lstD, mRev, revD, ofs_inj, ee_ii, ee_ss, ee_bb, ee_nn, ee_is, ee_si, ee_in, ee_ni, ee_tt, ee_ll, ee_maps, ee_0, ee_1, ee_2, ee_3, at_lit, at_nat, at_m1, at_m2, scD, emD, sizeLine_eq, ixN, sm_lit, mSrc, itemsD, plOf, rng1D, bNm, mSl, mPt, mNoP, slD, mPar, keepT, tmsO, setA, mFlow, zipX, enumX, itemsX, intsOf, ints_all, boolsOf, shaped_lay, lay_int, lay_bool, lay_none, lay_dict, lay_tup, lay_list, lay_ints, sortX_ints, mFor, forL, mLc, lcL, sameC, wipeC, restC, mYes, *])
local macro_rules | `(tactic| walk_at "rg") => `(tactic| (and_intros <;> grind))
local macro_rules | `(tactic| walk_at "nx") => `(tactic| (apply wx_nx; focus (walk_at "ev"; try first | exact ⟨rfl, rfl⟩ | rfl)))
local macro_rules | `(tactic| walk_at "ns") => `(tactic| (apply wx_nx; focus (walk_at "es"; try first | exact ⟨rfl, rfl⟩ | rfl)))
local macro_rules | `(tactic| walk_at "rt") => `(tactic| (apply wx_rt; focus (walk_at "ev"; try first | exact ⟨rfl, rfl⟩ | rfl)))
local macro_rules | `(tactic| walk_at "rs") => `(tactic| (apply wx_rt; focus (walk_at "es"; try first | exact ⟨rfl, rfl⟩ | rfl)))

theorem turned_at_eq (rs : List (Int × Int)) (t : Int) (h : rs ≠ []) (hl : rs.length ≤ 8) : g_turned_at [.sh (.tuple (rs.map hou)), .sh (.int t)] = some (.sh (tD (stp rs t)), [.sh (.tuple (rs.map hou)), .sh (.int t)]) := by
  obtain ⟨l, v, p, h1, h2, h3, h4⟩ := ts_last rs t h
  have f := times_of_eq rs t hl
  have a1 : ((tsL rs t).map PyData.int)[l]? = some (.int v) := by rw [List.getElem?_map, h2]; rfl
  have a2 : (rs.map hou)[l]? = some (.tuple [.int p.1, .int p.2]) := by rw [List.getElem?_map, h3]; rfl
  have a3 : ((tsL rs t).map PyData.int).length = l + 1 := by rw [List.length_map, h1]
  rw [h4]
  clear h1 h2 h3 h4 h hl
  generalize (tsL rs t).map PyData.int = X at *
  generalize rs.map hou = R at *
  generalize p.1 = n at *
  generalize p.2 = k at *
  apply rt_eq
  unfold g_turned_at m_turned_at
  apply rt_sem rfl
  apply wx_nx (ε1 := [.sh (.tuple R), .sh (.int t), .sh (.int l)])
  · clear a1 a2
    walk_at "es"
  clear a3
  by_cases c : v < n
  · rw [if_pos c]
    unfold tD
    walk_at "rs"
    exact ⟨rfl, rfl⟩
  · rw [if_neg c]
    unfold tD
    walk_at "ns"
    walk_at "rs"
    exact ⟨rfl, rfl⟩
theorem sum_by (g : Int × Int → Int) (rs : List (Int × Int)) : Bg.f .sum [.list (rs.map fun p => PyData.int (g p))] = some (.sh (.int (rs.map g).sum)) := by
  have e : (rs.map fun p => PyData.int (g p)) = (rs.map g).map PyData.int := by simp
  rw [e]
  simp only [Bg.f, sumD, ints_all, Option.map_some]
theorem least_time_eq (rs : List (Int × Int)) (h : rs ≠ []) (hl : rs.length ≤ 8) : g_least_time [.sh (.tuple (rs.map hou))] = some (.sh (.int (least rs)), [.sh (.tuple (rs.map hou))]) := by
  have hz : (rs.map hou).getLast? = some (.tuple [.int (rs.getLast h).1, .int (rs.getLast h).2]) := by
    rw [List.getLast?_map, List.getLast?_eq_some_getLast h]
    rfl
  rw [least_eq rs h]
  generalize (rs.getLast h).1 = u at *
  generalize (rs.getLast h).2 = v at *
  apply rt_eq
  unfold g_least_time m_least_time
  apply rt_sem rfl
  have k1 := mLc_two (α := Int × Int) (m := mB (binD .Add) (mPl 1) (mPl 2)) (src := mSrc itemsD (mCons (mTm (mVar 0)) mNil)) (i := 1) (j := 2) (c0 := .no) (c1 := .no) (ws := []) (ε := [.sh (.tuple (rs.map hou)), .no, .no]) (ε1 := [.sh (.tuple (rs.map hou)), .no, .no]) (xs := rs) (fun p => .int p.1) (fun p => .int p.2) (fun p => .int (p.1 + p.2)) (by
    show _ = some ((rs.map hou, []), _)
    generalize rs.map hou = R
    walk_at "ev") (by decide) rfl rfl (fun p _ => ⟨.sh (.int (p.1 + p.2)), by walk_at "ev", rfl⟩) (by rw [sizeLine_eq]; omega)
  have k2 : mB ixD (mTm (mB ixD (mPl 0) (mTm (mU negD (mTm (mK (.int 1))))))) (mTm (mK (.int 1))) [.sh (.tuple (rs.map hou)), .no, .no] = some (.sh (.int v), [.sh (.tuple (rs.map hou)), .no, .no]) := by
    clear k1
    generalize rs.map hou = R at *
    walk_at "es"
  apply wx_rt
  · exact e_ret (e_b2 (e_op1 k1 rfl (sum_by (fun p => p.1 + p.2) rs)) k2 rfl rfl rfl)
  exact ⟨rfl, rfl⟩
theorem need_lc (rs : List (Int × Int)) (hl : rs.length ≤ 8) {src : SM} {ε1 : Cs} {ε : Cs} (hs : src ε = some ((rs.map hou, []), ε1)) (h3 : ∃ a b c d e, ε1 = [a, b, c, d, e]) : mOp (Bg.f .sum) (mCons (mTm (mLc src (bTup [bNm 3, bNm 4]) (mYes) (mVar 3) [3, 4])) (mNil)) ε = some (.sh (.int (rs.map fun p => p.1).sum), ε1) := by
  obtain ⟨a, b, c, d, e, rfl⟩ := h3
  have k1 := mLc_two (α := Int × Int) (m := mVar 3) (src := src) (i := 3) (j := 4) (c0 := d) (c1 := e) (ws := []) (ε := ε) (ε1 := [a, b, c, d, e]) (xs := rs) (fun p => .int p.1) (fun p => .int p.2) (fun p => .int p.1) hs (by decide) rfl rfl (fun p _ => ⟨.sh (.int p.1), by walk_at "ev", rfl⟩) (by rw [sizeLine_eq]; omega)
  exact e_op1 k1 rfl (sum_by (fun p => p.1) rs)
theorem vain_of_eq (rs : List (Int × Int)) (t : Int) (h : rs ≠ []) (hl : rs.length ≤ 8) : g_vain_of [.sh (.tuple (rs.map hou)), .sh (.int t)] = some (.sh (.int (wrk rs (stp rs t))), [.sh (.tuple (rs.map hou)), .sh (.int t)]) := by
  have f := turned_at_eq rs t h hl
  apply rt_eq
  unfold g_vain_of m_vain_of
  apply rt_sem rfl
  walk_at "ns"
  clear f
  cases e : stp rs t with
  | none =>
    unfold tD
    generalize rs.map hou = R
    walk_at "rt"
    exact ⟨rfl, rfl⟩
  | some i =>
    unfold tD
    walk_at "nx"
    have k := need_lc (rs.take i) (by simp; omega) (src := mSrc itemsD (mCons (mTm (mSl (mPl 0) (mNoP) (mPt (mPl 2)))) mNil)) (ε := [.sh (.tuple (rs.map hou)), .sh (.int t), .sh (.int i), .no, .no]) (ε1 := [.sh (.tuple (rs.map hou)), .sh (.int t), .sh (.int i), .no, .no]) (by
      have c := cut_to (rs.map hou) (Int.natCast_nonneg i)
      rw [Int.toNat_natCast] at c
      rw [List.map_take]
      generalize rs.map hou = R at *
      walk_at "es") ⟨_, _, _, _, _, rfl⟩
    apply wx_rt
    · exact e_ret k
    exact ⟨rfl, rfl⟩
theorem blind_of_eq (rs : List (Int × Int)) (t : Int) (hl : rs.length ≤ 8) : g_blind_of [.sh (.tuple (rs.map hou)), .sh (.int t)] = some (.sh (.int (if t < (rs.map fun p => p.1).sum then (rs.map fun p => p.1).sum else 0)), [.sh (.tuple (rs.map hou)), .sh (.int t)]) := by
  apply rt_eq
  unfold g_blind_of m_blind_of
  apply rt_sem rfl
  have k := need_lc rs hl (src := mSrc itemsD (mCons (mTm (mVar 0)) mNil)) (ε := [.sh (.tuple (rs.map hou)), .sh (.int t), .no, .no, .no]) (ε1 := [.sh (.tuple (rs.map hou)), .sh (.int t), .no, .no, .no]) (by walk_at "ev") ⟨_, _, _, _, _, rfl⟩
  apply wx_nx
  · exact e_set k (by simp) (by simp)
  clear k
  generalize (rs.map fun p => p.1).sum = S
  generalize rs.map hou = R
  by_cases c : S ≤ t
  · have c2 : ¬ t < S := by omega
    rw [if_neg c2]
    walk_at "rs"
    exact ⟨rfl, rfl⟩
  · have c2 : t < S := by omega
    rw [if_pos c2]
    walk_at "ns"
    walk_at "rs"
    exact ⟨rfl, rfl⟩
end KW

namespace KW
open PySem PySem.Spec PyProof.Rows L2 L2.M
local macro_rules | `(tactic| walk_at "ev") => `(tactic| simp [semF, shared, after, mSeq, mSkip, mIf, mRet, mRetN, mRetV, mSet, mSetIx, mExpr, mB, mU, mTm, mPl, mK, mVar, mOp, mCons, mNil, bor, bors, mTst, mAndT, mOrT, mNotT, mAndE, mOrE, mNotE, mIfE, mIsi, isiD, mChn, chnL, cmpD, binD, addD, subD, mulD, modD, fdivD, powD, eqD, neD, ltD, leD, gtD, geD, isD, isnD, L2.M.isNon, negD, ixD, Bf.f, Bg.f, lenD, L2.M.intD, maxD, minD, repD, strD, gmaxD, gminD, sumD, sortD, anyD, allD, mCall, frz, fzO, cellO, cellsO, dist, notPl, wb, mTup, mLst, fzs, cD, mAsg, bTup, bTps, mApp, tupD, lstD, mRev, revD, ofs_inj, ee_ii, ee_ss, ee_bb, ee_nn, ee_is, ee_si, ee_in, ee_ni, ee_tt, ee_ll, ee_maps, ee_0, ee_1, ee_2, ee_3, at_lit, at_nat, at_m1, at_m2, scD, emD, sizeLine_eq, ixN, sm_lit, mSrc, itemsD, plOf, rng1D, bNm, mSl, mPt, mNoP, slD, mPar, keepT, tmsO, setA, mFlow, zipX, enumX, itemsX, intsOf, ints_all, boolsOf, shaped_lay, lay_int, lay_bool, lay_none, lay_dict, lay_tup, lay_list, lay_ints, sortX_ints])
local macro_rules | `(tactic| walk_at "es") => `(tactic| simp [semF, shared, after, mSeq, mSkip, mIf, mRet, mRetN, mRetV, mSet, mSetIx, mExpr, mB, mU, mTm, mPl, mK, mVar, mOp, mCons, mNil, bor, bors, mTst, mAndT, mOrT, mNotT, mAndE, mOrE, mNotE, mIfE, mIsi, isiD, mChn, chnL, cmpD, binD, addD, subD, mulD, modD, fdivD, powD, eqD, neD, ltD, leD, gtD, geD, isD, isnD, L2.M.isNon, negD, ixD, Bf.f, Bg.f, lenD, L2.M.intD, maxD, minD, repD, strD, gmaxD, gminD, sumD, sortD, anyD, allD, mCall, frz, fzO, cellO, cellsO, dist, notPl, wb, mTup, mLst, fzs, cD, mAsg, bTup, bTps, mApp, tupD, lstD, mRev, revD, ofs_inj, ee_ii, ee_ss, ee_bb, ee_nn, ee_is, ee_si, ee_in, ee_ni, ee_tt, ee_ll, ee_maps, ee_0, ee_1, ee_2, ee_3, at_lit, at_nat, at_m1, at_m2, scD, emD, sizeLine_eq, ixN, sm_lit, mSrc, itemsD, plOf, rng1D, bNm, mSl, mPt, mNoP, slD, mPar, keepT, tmsO, setA, mFlow, zipX, enumX, itemsX, intsOf, ints_all, boolsOf, shaped_lay, lay_int, lay_bool, lay_none, lay_dict, lay_tup, lay_list, lay_ints, sortX_ints, *])
local macro_rules | `(tactic| walk_at "el") => `(tactic| simp [semF, shared, after, mSeq, mSkip, mIf, mRet, mRetN, mRetV, mSet, mSetIx, mExpr, mB, mU, mTm, mPl, mK, mVar, mOp, mCons, mNil, bor, bors, mTst, mAndT, mOrT, mNotT, mAndE, mOrE, mNotE, mIfE, mIsi, isiD, mChn, chnL, cmpD, binD, addD, subD, mulD, modD, fdivD, powD, eqD, neD, ltD, leD, gtD, geD, isD, isnD, L2.M.isNon, negD, ixD, Bf.f, Bg.f, lenD, L2.M.intD, maxD, minD, repD, strD, gmaxD, gminD, sumD, sortD, anyD, allD, mCall, frz, fzO, cellO, cellsO, dist, notPl, wb, mTup, mLst, fzs, cD, mAsg, bTup, bTps, mApp, tupD, lstD, mRev, revD, ofs_inj, ee_ii, ee_ss, ee_bb, ee_nn, ee_is, ee_si, ee_in, ee_ni, ee_tt, ee_ll, ee_maps, ee_0, ee_1, ee_2, ee_3, at_lit, at_nat, at_m1, at_m2, scD, emD, sizeLine_eq, ixN, sm_lit, mSrc, itemsD, plOf, rng1D, bNm, mSl, mPt, mNoP, slD, mPar, keepT, tmsO, setA, mFlow, zipX, enumX, itemsX, intsOf, ints_all, boolsOf, shaped_lay, lay_int, lay_bool, lay_none, lay_dict, lay_tup, lay_list, lay_ints, sortX_ints, mLc, lcL, sameC, wipeC, restC, mYes, *])
local macro_rules | `(tactic| walk_at "ef") => `(tactic| simp [semF, shared, after, mSeq, mSkip, mIf, mRet, mRetN, mRetV, mSet, mSetIx, mExpr, mB, mU, mTm, mPl, mK, mVar, mOp, mCons, mNil, bor, bors, mTst, mAndT, mOrT, mNotT, mAndE, mOrE, mNotE, mIfE, mIsi, isiD, mChn, chnL, cmpD, binD, addD, subD, mulD, modD, fdivD, powD, eqD, neD, ltD, leD, gtD, geD, isD, isnD, L2.M.isNon, negD, ixD, Bf.f, Bg.f, lenD, L2.M.intD, maxD, minD, repD, strD, gmaxD, gminD, sumD, sortD, anyD, allD, mCall, frz, fzO, cellO, cellsO, dist, notPl, wb, mTup, mLst, fzs, cD, mAsg, bTup, bTps, mApp, tupD, lstD, mRev, revD, ofs_inj, ee_ii, ee_ss, ee_bb, ee_nn, ee_is, ee_si, ee_in, ee_ni, ee_tt, ee_ll, ee_maps, ee_0, ee_1, ee_2, ee_3, at_lit, at_nat, at_m1, at_m2, scD, emD, sizeLine_eq, ixN, sm_lit, mSrc, itemsD, plOf, rng1D, bNm, mSl, mPt, mNoP, slD, mPar, keepT, tmsO, setA, mFlow, zipX, enumX, itemsX, intsOf, ints_all, boolsOf, shaped_lay, lay_int, lay_bool, lay_none, lay_dict, lay_tup, lay_list, lay_ints, sortX_ints, mFor, forL, mLc, lcL, sameC, wipeC, restC, mYes, *])
local macro_rules | `(tactic| walk_at "rg") => `(tactic| (and_intros <;> grind))
local macro_rules | `(tactic| walk_at "nx") => `(tactic| (apply wx_nx; focus (walk_at "ev"; try first | exact ⟨rfl, rfl⟩ | rfl)))
local macro_rules | `(tactic| walk_at "ns") => `(tactic| (apply wx_nx; focus (walk_at "es"; try first | exact ⟨rfl, rfl⟩ | rfl)))
local macro_rules | `(tactic| walk_at "rt") => `(tactic| (apply wx_rt; focus (walk_at "ev"; try first | exact ⟨rfl, rfl⟩ | rfl)))
local macro_rules | `(tactic| walk_at "rs") => `(tactic| (apply wx_rt; focus (walk_at "es"; try first | exact ⟨rfl, rfl⟩ | rfl)))

theorem law_times_eq (p : Pn) (rs : List (Int × Int)) (hr : roads rs) : Rt (g_law_times [.ls (penL p), .sh (.tuple (rs.map hou))]) fun c cs => ∃ (xs : List Int) (q : Pn), least rs ∈ xs ∧ (∀ x ∈ xs, 0 ≤ x ∧ x ≤ 3000000) ∧ xs.length ≤ 28 ∧ c = .ls (xs.map .int) ∧ cs = [.ls (penL q), .sh (.tuple (rs.map hou))] := by
  obtain ⟨r1, r2, r3⟩ := hr
  have hne : rs ≠ [] := by
    intro e
    subst e
    cases r1
  have d0 := dr_ab p 60 (by decide)
  have d1 := dr_ab (dn p 60) 1000001 (by decide)
  unfold g_law_times m_law_times
  apply rt_sem rfl
  apply wx_nx (ε1 := [.ls (penL (dn (dn p 60) 1000001)), .sh (.tuple (rs.map hou)), .ls (([0, dr p 60, dr (dn p 60) 1000001, 1000000] : List Int).map .int), .no, .no, .no])
  · clear d0 d1 r1 r2 r3
    generalize rs.map hou = R
    walk_at "es"
  generalize dn (dn p 60) 1000001 = q
  generalize dr p 60 = u at *
  generalize dr (dn p 60) 1000001 = v at *
  walk_at "nx"
  generalize hR : rs.map hou = R
  have hR2 : rs.map pr = R := hR
  apply wx_seq
  apply wx_sts (st := rs) (ε1 := [.ls (penL q), .sh (.tuple R), .ls (([0, u, v, 1000000] : List Int).map .int), .sh (.int 0), .no, .no]) (fun k ε => ∃ (ahead : Int) (xs : List Int) (c4 c5 : C), ε = [.ls (penL q), .sh (.tuple R), .ls (xs.map .int), .sh (.int ahead), c4, c5] ∧ (least rs ∈ xs ∨ (ahead + least (rs.drop k) = least rs ∧ rs.drop k ≠ [])) ∧ 0 ≤ ahead ∧ ahead ≤ 200000 * k ∧ (∀ x ∈ xs, 0 ≤ x ∧ x ≤ 3000000) ∧ xs.length = 4 + 3 * k)
  · rw [hR2]
    clear hR hR2 d0 d1 r1 r2 r3
    walk_at "ev"
  · refine ⟨0, [0, u, v, 1000000], _, _, rfl, .inr ⟨by simp, by simpa using hne⟩, by omega, by omega, ?_, rfl⟩
    intro x hx
    simp only [List.mem_cons, List.not_mem_nil, or_false] at hx
    omega
  · rintro k hk ε ⟨ahead, xs, c4, c5, rfl, ho, a0, a1, hx, hn⟩
    have b := r3 rs[k] (List.getElem_mem hk)
    rw [List.drop_eq_getElem_cons hk] at ho
    generalize rs[k] = z at *
    obtain ⟨n, m⟩ := z
    simp only at b
    have hz : xs.length ≤ 16777213 := by omega
    have hz2 : xs.length + 3 ≤ 16777216 := by omega
    refine ⟨_, rfl, ?_⟩
    apply wx_nx (ε1 := [.ls (penL q), .sh (.tuple R), .ls ((xs ++ [ahead + n, ahead + n - 1, ahead + n + m]).map .int), .sh (.int ahead), .sh (.int n), .sh (.int m)])
    · clear ho a0 a1 hx hn b r1 r2 r3 d0 d1 hk hR hR2
      walk_at "es"
    apply wx_nx (ε1 := [.ls (penL q), .sh (.tuple R), .ls ((xs ++ [ahead + n, ahead + n - 1, ahead + n + m]).map .int), .sh (.int (ahead + n + m)), .sh (.int n), .sh (.int m)])
    · clear ho a0 a1 hx hn b r1 r2 r3 d0 d1 hk hR hR2 hz hz2
      walk_at "ev"
    refine wx_skip ⟨_, _, _, _, rfl, ?_, by omega, by omega, ?_, by simp [hn]; omega⟩
    · rcases ho with ho | ⟨ho, -⟩
      · exact .inl (List.mem_append_left _ ho)
      · cases hd : rs.drop (k + 1) with
        | nil =>
          rw [hd, least] at ho
          left
          rw [← ho]
          simp
        | cons y ys =>
          rw [hd, least] at ho
          right
          refine ⟨?_, by simp⟩
          rw [← ho]
          simp only
          omega
    · intro x hh
      rcases List.mem_append.mp hh with hh | hh
      · exact hx x hh
      · simp only [List.mem_cons, List.not_mem_nil, or_false] at hh
        omega
  · rintro ε ⟨ahead, xs, c4, c5, rfl, ho, a0, a1, hx, hn⟩
    have hle : least rs ∈ xs := by
      rcases ho with ho | ⟨-, ho⟩
      · exact ho
      · exact absurd List.drop_length ho
    have hn2 : xs.length ≤ 28 := by omega
    clear ho a0 a1 hn hR hR2 d0 d1 r1 r2 r3
    apply wx_rt
    · walk_at "ev"
      exact ⟨rfl, rfl⟩
    exact ⟨xs, q, hle, hx, hn2, rfl, rfl⟩
end KW

namespace KW
open PySem PySem.Spec PyProof.Rows L2 L2.M
local macro_rules | `(tactic| walk_at "ev") => `(tactic| simp [semF, shared, after, mSeq, mSkip, mIf, mRet, mRetN, mRetV, mSet, mSetIx, mExpr, mB, mU, mTm, mPl, mK, mVar, mOp, mCons, mNil, bor, bors, mTst, mAndT, mOrT, mNotT, mAndE, mOrE, mNotE, mIfE, mIsi, isiD, mChn, chnL, cmpD, binD, addD, subD, mulD, modD, fdivD, powD, eqD, neD, ltD, leD, gtD, geD, isD, isnD, L2.M.isNon, negD, ixD, Bf.f, Bg.f, lenD, L2.M.intD, maxD, minD, repD, strD, gmaxD, gminD, sumD, sortD, anyD, allD, mCall, frz, fzO, cellO, cellsO, dist, notPl, wb, mTup, mLst, fzs, cD, mAsg, bTup, bTps, mApp, tupD, lstD, mRev, revD, ofs_inj, ee_ii, ee_ss, ee_bb, ee_nn, ee_is, ee_si, ee_in, ee_ni, ee_tt, ee_ll, ee_maps, ee_0, ee_1, ee_2, ee_3, at_lit, at_nat, at_m1, at_m2, scD, emD, sizeLine_eq, ixN, sm_lit, mSrc, itemsD, plOf, rng1D, bNm, mSl, mPt, mNoP, slD, mPar, keepT, tmsO, setA, mFlow, zipX, enumX, itemsX, intsOf, ints_all, boolsOf, shaped_lay, lay_int, lay_bool, lay_none, lay_dict, lay_tup, lay_list, lay_ints, sortX_ints])
local macro_rules | `(tactic| walk_at "es") => `(tactic| simp [semF, shared, after, mSeq, mSkip, mIf, mRet, mRetN, mRetV, mSet, mSetIx, mExpr, mB, mU, mTm, mPl, mK, mVar, mOp, mCons, mNil, bor, bors, mTst, mAndT, mOrT, mNotT, mAndE, mOrE, mNotE, mIfE, mIsi, isiD, mChn, chnL, cmpD, binD, addD, subD, mulD, modD, fdivD, powD, eqD, neD, ltD, leD, gtD, geD, isD, isnD, L2.M.isNon, negD, ixD, Bf.f, Bg.f, lenD, L2.M.intD, maxD, minD, repD, strD, gmaxD, gminD, sumD, sortD, anyD, allD, mCall, frz, fzO, cellO, cellsO, dist, notPl, wb, mTup, mLst, fzs, cD, mAsg, bTup, bTps, mApp, tupD, lstD, mRev, revD, ofs_inj, ee_ii, ee_ss, ee_bb, ee_nn, ee_is, ee_si, ee_in, ee_ni, ee_tt, ee_ll, ee_maps, ee_0, ee_1, ee_2, ee_3, at_lit, at_nat, at_m1, at_m2, scD, emD, sizeLine_eq, ixN, sm_lit, mSrc, itemsD, plOf, rng1D, bNm, mSl, mPt, mNoP, slD, mPar, keepT, tmsO, setA, mFlow, zipX, enumX, itemsX, intsOf, ints_all, boolsOf, shaped_lay, lay_int, lay_bool, lay_none, lay_dict, lay_tup, lay_list, lay_ints, sortX_ints, *])
local macro_rules | `(tactic| walk_at "el") => `(tactic| simp [semF, shared, after, mSeq, mSkip, mIf, mRet, mRetN, mRetV, mSet, mSetIx, mExpr, mB, mU, mTm, mPl, mK, mVar, mOp, mCons, mNil, bor, bors, mTst, mAndT, mOrT, mNotT, mAndE, mOrE, mNotE, mIfE, mIsi, isiD, mChn, chnL, cmpD, binD, addD, subD, mulD, modD, fdivD, powD, eqD, neD, ltD, leD, gtD, geD, isD, isnD, L2.M.isNon, negD, ixD, Bf.f, Bg.f, lenD, L2.M.intD, maxD, minD, repD, strD, gmaxD, gminD, sumD, sortD, anyD, allD, mCall, frz, fzO, cellO, cellsO, dist, notPl, wb, mTup, mLst, fzs, cD, mAsg, bTup, bTps, mApp, tupD, lstD, mRev, revD, ofs_inj, ee_ii, ee_ss, ee_bb, ee_nn, ee_is, ee_si, ee_in, ee_ni, ee_tt, ee_ll, ee_maps, ee_0, ee_1, ee_2, ee_3, at_lit, at_nat, at_m1, at_m2, scD, emD, sizeLine_eq, ixN, sm_lit, mSrc, itemsD, plOf, rng1D, bNm, mSl, mPt, mNoP, slD, mPar, keepT, tmsO, setA, mFlow, zipX, enumX, itemsX, intsOf, ints_all, boolsOf, shaped_lay, lay_int, lay_bool, lay_none, lay_dict, lay_tup, lay_list, lay_ints, sortX_ints, mLc, lcL, sameC, wipeC, restC, mYes, *])
local macro_rules | `(tactic| walk_at "ef") => `(tactic| simp [semF, shared, after, mSeq, mSkip, mIf, mRet, mRetN, mRetV, mSet, mSetIx, mExpr, mB, mU, mTm, mPl, mK, mVar, mOp, mCons, mNil, bor, bors, mTst, mAndT, mOrT, mNotT, mAndE, mOrE, mNotE, mIfE, mIsi, isiD, mChn, chnL, cmpD, binD, addD, subD, mulD, modD, fdivD, powD, eqD, neD, ltD, leD, gtD, geD, isD, isnD, L2.M.isNon, negD, ixD, Bf.f, Bg.f, lenD, L2.M.intD, maxD, minD, repD, strD, gmaxD, gminD, sumD, sortD, anyD, allD, mCall, frz, fzO, cellO, cellsO, dist, notPl, wb, mTup, mLst, fzs, cD, mAsg, bTup, bTps, mApp, tupD, lstD, mRev, revD, ofs_inj, ee_ii, ee_ss, ee_bb, ee_nn, ee_is, ee_si, ee_in, ee_ni, ee_tt, ee_ll, ee_maps, ee_0, ee_1, ee_2, ee_3, at_lit, at_nat, at_m1, at_m2, scD, emD, sizeLine_eq, ixN, sm_lit, mSrc, itemsD, plOf, rng1D, bNm, mSl, mPt, mNoP, slD, mPar, keepT, tmsO, setA, mFlow, zipX, enumX, itemsX, intsOf, ints_all, boolsOf, shaped_lay, lay_int, lay_bool, lay_none, lay_dict, lay_tup, lay_list, lay_ints, sortX_ints, mFor, forL, mLc, lcL, sameC, wipeC, restC, mYes, *])
local macro_rules | `(tactic| walk_at "rg") => `(tactic| (and_intros <;> grind))
local macro_rules | `(tactic| walk_at "nx") => `(tactic| (apply wx_nx; focus (walk_at "ev"; try first | exact ⟨rfl, rfl⟩ | rfl)))
local macro_rules | `(tactic| walk_at "ns") => `(tactic| (apply wx_nx; focus (walk_at "es"; try first | exact ⟨rfl, rfl⟩ | rfl)))
local macro_rules | `(tactic| walk_at "rt") => `(tactic| (apply wx_rt; focus (walk_at "ev"; try first | exact ⟨rfl, rfl⟩ | rfl)))
local macro_rules | `(tactic| walk_at "rs") => `(tactic| (apply wx_rt; focus (walk_at "es"; try first | exact ⟨rfl, rfl⟩ | rfl)))

theorem any_int (L : List Int) (v : Int) : (L.map PyData.int).any (fun z => PyData.eqv z (.int v)) = decide (v ∈ L) := by
  induction L with
  | nil => simp
  | cons x xs ih =>
    simp only [List.map_cons, List.any_cons, ih, ee_ii]
    by_cases h : x = v <;> by_cases h2 : v ∈ xs <;> simp [h, h2, eq_comm]
    all_goals first | omega | (intro e; exact absurd e.symm h) | skip
theorem min_least {L : List Int} {v : Int} (h : v ∈ L) (h2 : ∀ x ∈ L, v ≤ x) : gminD [.list (L.map .int)] = some (.sh (.int v)) := by
  cases L with
  | nil => cases h
  | cons n ns =>
    obtain ⟨k1, k2, k3⟩ := L2.M.fold_min ns n
    have e : ns.foldl min n = v := by
      apply Int.le_antisymm
      · rcases List.mem_cons.mp h with rfl | h
        · exact k2
        · exact k3 _ h
      · rcases k1 with k | k
        · rw [k]; exact h2 _ List.mem_cons_self
        · exact h2 _ (List.mem_cons_of_mem _ k)
    simp [gminD, intsOf, ints_all, e]
theorem is_due {rs : List (Int × Int)} (hr : roads rs) {ε : Cs} {i j : Nat} {t : Int} (h3 : ε[i]? = some (.sh (.tuple (rs.map hou)))) (h5 : ε[j]? = some (.sh (.int t))) (hij : i ≠ j) : mTst (mB (cmpD .Is) (mTm (mB ixD (mTm (mCall [true, true] g_law_due (mCons (mPl i) (mCons (mPl j) (mNil))))) (mTm (mK (.int 1))))) (mTm (mK .none))) ε = some (decide (stp rs t = none), ε) := by
  have hd := law_due_eq rs t hr.2.1
  have e1 : mCall [true, true] g_law_due (mCons (mPl i) (mCons (mPl j) (mNil))) ε = some (.ls (dueL rs t), ε) := by
    simp [mCall, mCons, mPl, mNil, h3, h5, frz, cellsO, cellO, dist, hd, wb, notPl]
    rw [set_same h3, set_same h5]
  have e2 : mB ixD (mTm (mCall [true, true] g_law_due (mCons (mPl i) (mCons (mPl j) (mNil))))) (mTm (mK (.int 1))) ε = some (.sh (tD (stp rs t)), ε) := e_b2 e1 rfl rfl rfl rfl
  refine e_tst (e_b2 e2 rfl rfl rfl ?_)
  cases stp rs t <;> rfl
theorem is_dueN {rs : List (Int × Int)} (hr : roads rs) {ε : Cs} {i j : Nat} {t : Int} (h3 : ε[i]? = some (.sh (.tuple (rs.map hou)))) (h5 : ε[j]? = some (.sh (.int t))) (hij : i ≠ j) : mTst (mB (cmpD .IsNot) (mTm (mB ixD (mTm (mCall [true, true] g_law_due (mCons (mPl i) (mCons (mPl j) (mNil))))) (mTm (mK (.int 1))))) (mTm (mK .none))) ε = some (!decide (stp rs t = none), ε) := by
  have hd := law_due_eq rs t hr.2.1
  have e1 : mCall [true, true] g_law_due (mCons (mPl i) (mCons (mPl j) (mNil))) ε = some (.ls (dueL rs t), ε) := by
    simp [mCall, mCons, mPl, mNil, h3, h5, frz, cellsO, cellO, dist, hd, wb, notPl]
    rw [set_same h3, set_same h5]
  have e2 : mB ixD (mTm (mCall [true, true] g_law_due (mCons (mPl i) (mCons (mPl j) (mNil))))) (mTm (mK (.int 1))) ε = some (.sh (tD (stp rs t)), ε) := e_b2 e1 rfl rfl rfl rfl
  refine e_tst (e_b2 e2 rfl rfl rfl ?_)
  cases stp rs t <;> rfl
theorem tD_shw {rs : List (Int × Int)} (hr : roads rs) (t : Int) : Shw 0 20 (tD (stp rs t)) := by
  cases h : stp rs t with
  | none => exact (shw_none 0).mono (Nat.le_refl _) (by decide)
  | some i =>
    have := stp_lt rs t i h
    have := hr.2.1
    exact shw_i20 0 (by omega) (by omega)
theorem sum_bd {rs : List (Int × Int)} (h : ∀ p ∈ rs, 1 ≤ p.1 ∧ p.1 ≤ 100000) : 0 ≤ (rs.map fun p => p.1).sum ∧ (rs.map fun p => p.1).sum ≤ 100000 * rs.length := by
  induction rs with
  | nil => simp
  | cons p ps ih =>
    have h1 := h p List.mem_cons_self
    have h2 := ih fun q hq => h q (List.mem_cons_of_mem _ hq)
    simp only [List.map_cons, List.sum_cons, List.length_cons]
    omega
theorem wrk_bd {rs : List (Int × Int)} (hr : roads rs) (o : Option Nat) : 0 ≤ wrk rs o ∧ wrk rs o ≤ 10000000 := by
  cases o with
  | none => simp [wrk]
  | some i =>
    have := sum_bd (rs := rs.take i) fun p hp => ⟨(hr.2.2 p (List.mem_of_mem_take hp)).1, (hr.2.2 p (List.mem_of_mem_take hp)).2.1⟩
    have h2 : (rs.take i).length ≤ 8 := by
      rw [List.length_take]
      have := hr.2.1
      omega
    show 0 ≤ ((rs.take i).map fun p => p.1).sum ∧ ((rs.take i).map fun p => p.1).sum ≤ 10000000
    omega
theorem found_shw {rs : List (Int × Int)} (hr : roads rs) {t s : Int} (ht : 0 ≤ t ∧ t ≤ 3000000) (hs : 0 ≤ s ∧ s ≤ 10000000) : Shw 2 3000 (.list [.list ((tsL rs t).map .int), tD (stp rs t), .int (wrk rs (stp rs t)), .int s]) := by
  have h1 : Shw 1 300 (.list ((tsL rs t).map .int)) := by
    have := shw_lst (k := 0) (n := 20) (ds := (tsL rs t).map .int) (by
      intro d hd
      obtain ⟨x, hx, rfl⟩ := List.mem_map.mp hd
      have := tsL_bd rs t ht.1 (fun p hp => ⟨by have := (hr.2.2 p hp).1; omega, (hr.2.2 p hp).2.2.1⟩) x hx
      exact shw_i20 0 (by omega) (by omega))
    have l := tsL_len rs t
    have hz := hr.2.1
    exact this.mono (Nat.le_refl _) (by rw [List.length_map]; omega)
  have hw := wrk_bd hr (stp rs t)
  exact (shw_lst (k := 1) (n := 300) (shw_cons h1 (shw_cons ((tD_shw hr t).mono (by decide) (by decide)) (shw_cons ((shw_i20 0 (by omega) (by omega)).mono (by decide) (by decide)) (shw_cons ((shw_i20 0 (by omega) (by omega)).mono (by decide) (by decide)) shw_nil))))).mono (Nat.le_refl _) (by simp)
theorem law_true (ns : List Int) (hl : ns.length ≤ 63) : ∃ cs', semF [false] 16 m_law [.sh (.list (ns.map PyData.int))] = some (.sh (.bool true), cs') := by
  have main : Rt (semF [false] 16 m_law [.sh (.list (ns.map PyData.int))]) fun c _ => c = .sh (.bool true) := by
    unfold m_law
    apply rt_sem rfl
    apply wx_seq
    apply wx_each (ds := (PyData.int (ns.getD 0 0)) :: (L2.M.cutL ns (some 1) (some 6)).map PyData.int) (ε1 := [.sh (.list (ns.map PyData.int)), .no, .no, .no, .no, .no, .no, .no, .no, .no, .no, .no, .no, .no, .no, .no]) fun ε => ∃ c1 c2 c3 c4 c5 c6 c7 c8 c9 c10 c11 c12 c13 c14 c15, ε = [.sh (.list (ns.map PyData.int)), c1, c2, c3, c4, c5, c6, c7, c8, c9, c10, c11, c12, c13, c14, c15]
    · have hz := cut_len ns (some 1) (some 6)
      have h6 : 1 + (L2.M.cutL ns (some 1) (some 6)).length ≤ 16777216 := by omega
      have h7 : (L2.M.cutL ns (some 1) (some 6)).length + 1 ≤ 16777216 := by omega
      have h8 : (L2.M.cutL ns (some 1) (some 6)).length ≤ 16777215 := by omega
      have h9 := @cut_map
      walk_at "es"
    · exact ⟨_, _, _, _, _, _, _, _, _, _, _, _, _, _, _, rfl⟩
    · rintro d ε hd ⟨c1, c2, c3, c4, c5, c6, c7, c8, c9, c10, c11, c12, c13, c14, c15, rfl⟩
      obtain ⟨x, rfl⟩ := cells_int ns 6 d hd
      clear hd hl
      have hsc : ∃ sc, C.sh (PyData.list (ns.map PyData.int)) = .sh sc := ⟨_, rfl⟩
      obtain ⟨sc, hsc⟩ := hsc
      rw [hsc]
      clear hsc
      refine ⟨_, rfl, ?_⟩
      walk_at "nx"
      obtain ⟨_, _, e1, rs, p1, hr, rfl, rfl⟩ := law_road_eq (pnOf x)
      have hne : rs ≠ [] := by
        intro e
        have := hr.1
        rw [e] at this
        simp at this
      have hz8 := hr.2.1
      have hpos : ∀ p ∈ rs, 1 ≤ p.1 ∧ 0 ≤ p.2 := fun p hp => ⟨(hr.2.2 p hp).1, (hr.2.2 p hp).2.2.1⟩
      replace hr := Hid.mk hr
      replace hpos := Hid.mk hpos
      walk_at "ns"
      clear e1
      obtain ⟨_, _, e1, xs, p2, hx, hxb, hxl, rfl, rfl⟩ := law_times_eq p1 rs hr.get
      -- what goes through
      apply wx_nx (ε1 := [.sh sc, .sh (.int x), .ls (penL p2), .sh (.tuple (rs.map hou)), .ls ((xs.filter fun t => decide (stp rs t = none)).map .int), c5, c6, c7, c8, c9, c10, c11, c12, c13, c14, c15])
      · refine e_set (mLc_encF PyData.int PyData.int (fun t => decide (stp rs t = none)) (ws := []) (ε1 := [.sh sc, .sh (.int x), .ls (penL p2), .sh (.tuple (rs.map hou)), c4, c5, c6, c7, c8, c9, c10, c11, c12, c13, c14, c15]) (c0 := c5) (src_items (c := .ls (xs.map .int)) ?_ (.inl rfl)) rfl ?_ ?_ (by rw [sizeLine_eq]; omega)) (by simp) (by decide)
        · clear hx hxb hxl
          generalize PyData.tuple (rs.map hou) = cr at *
          walk_at "es"
        · intro t _
          exact is_due hr.get rfl rfl (by decide)
        · intro t _ _
          exact ⟨_, rfl, rfl⟩
      have ht : ∀ t ∈ xs.filter (fun t => decide (stp rs t = none)), least rs ≤ t := by
        intro t h
        have := (List.mem_filter.mp h).2
        simp only [decide_eq_true_eq] at this
        exact (stp_least rs t hne hpos.get).mp this
      have hm : least rs ∈ xs.filter (fun t => decide (stp rs t = none)) := by
        refine List.mem_filter.mpr ⟨hx, ?_⟩
        simp only [decide_eq_true_eq]
        exact (stp_least rs _ hne hpos.get).mpr (Int.le_refl _)
      have hmin := min_least hm ht
      have hany := any_int (xs.filter fun t => decide (stp rs t = none)) (least rs)
      rw [decide_eq_true hm] at hany
      generalize xs.filter (fun t => decide (stp rs t = none)) = th at *
      clear e1 hx hxb hxl xs hm ht
      -- the whole need
      have hsum := sum_by (fun p => p.1) rs
      have hsb := sum_bd (rs := rs) fun p hp => ⟨(hr.get.2.2 p hp).1, (hr.get.2.2 p hp).2.1⟩
      apply wx_nx (ε1 := [.sh sc, .sh (.int x), .ls (penL p2), .sh (.tuple (rs.map hou)), .ls (th.map .int), c5, .sh (.int (rs.map fun p => p.1).sum), c7, c8, c9, c10, c11, c12, c13, c14, c15])
      · have k0 : mOp (Bg.f .sum) (mCons (mTm (mLc (mSrc itemsD (mCons (mTm (mVar 3)) mNil)) (bTup [bNm 7, bNm 8]) (mYes) (mVar 7) [7, 8])) (mNil)) [.sh sc, .sh (.int x), .ls (penL p2), .sh (.tuple (rs.map hou)), .ls (th.map .int), c5, c6, c7, c8, c9, c10, c11, c12, c13, c14, c15] = some (.sh (.int (rs.map fun p => p.1).sum), [.sh sc, .sh (.int x), .ls (penL p2), .sh (.tuple (rs.map hou)), .ls (th.map .int), c5, c6, c7, c8, c9, c10, c11, c12, c13, c14, c15]) := by
          refine e_op1 (mLc_two (ws := []) (fun p : Int × Int => .int p.1) (fun p => .int p.2) (fun p => .int p.1) (xs := rs) (ε1 := [.sh sc, .sh (.int x), .ls (penL p2), .sh (.tuple (rs.map hou)), .ls (th.map .int), c5, c6, c7, c8, c9, c10, c11, c12, c13, c14, c15]) (src_items (c := .sh (.tuple (rs.map hou))) rfl (.inr (.inr rfl))) (by decide) rfl rfl ?_ (by rw [sizeLine_eq]; omega)) rfl hsum
          intro p _
          exact ⟨_, rfl, rfl⟩
        exact e_set k0 (by simp) (by decide)
      clear hsum
      generalize hS : (rs.map fun p => p.1).sum = S at *
      have hls := least_time_eq rs hne hz8
      have s1 : stp rs (least rs) = none := (stp_least rs _ hne hpos.get).mpr (Int.le_refl _)
      have s2 : stp rs (least rs - 1) ≠ none := fun h => by
        have := (stp_least rs _ hne hpos.get).mp h
        omega
      apply wx_seq
      apply wx_each (ds := rangeD 0 1 2) (ε1 := [.sh sc, .sh (.int x), .ls (penL p2), .sh (.tuple (rs.map hou)), .ls (th.map .int), c5, .sh (.int S), c7, c8, c9, c10, c11, c12, c13, c14, c15]) fun ε => ∃ c9 c10, ε = [.sh sc, .sh (.int x), .ls (penL p2), .sh (.tuple (rs.map hou)), .ls (th.map .int), c5, .sh (.int S), c7, c8, c9, c10, c11, c12, c13, c14, c15]
      · clear hmin hany hls hr hpos hsb
        walk_at "ev"
      · exact ⟨_, _, rfl⟩
      · rintro d ε - ⟨c9, c10, rfl⟩
        refine ⟨_, rfl, ?_⟩
        apply wx_nx (ε1 := [.sh sc, .sh (.int x), .ls (penL p2), .sh (.tuple (rs.map hou)), .ls (th.map .int), c5, .sh (.int S), c7, c8, .sh d, .sh (.int (least rs)), c11, c12, c13, c14, c15])
        · clear hmin hany hr hpos hsb s1 s2
          generalize PyData.tuple (rs.map hou) = cr at *
          walk_at "es"
        have k1 : mTst (mB (cmpD .NotIn) (mPl 10) (mPl 4)) [.sh sc, .sh (.int x), .ls (penL p2), .sh (.tuple (rs.map hou)), .ls (th.map .int), c5, .sh (.int S), c7, c8, .sh d, .sh (.int (least rs)), c11, c12, c13, c14, c15] = some (false, [.sh sc, .sh (.int x), .ls (penL p2), .sh (.tuple (rs.map hou)), .ls (th.map .int), c5, .sh (.int S), c7, c8, .sh d, .sh (.int (least rs)), c11, c12, c13, c14, c15]) := by
          have q1 : SeqAt.shaped (.int (least rs)) = true := by rw [shaped_lay, lay_int]
          have q2 : SeqAt.shaped (.list (th.map .int)) = true := by rw [shaped_lay, lay_list _ (by decide), lay_ints]
          clear hmin hls hr hpos hsb s1 s2
          generalize th.map PyData.int = L at *
          simp [mTst, mB, mPl, bor, cmpD, ninD, q1, q2, hany]
        have k2 := is_dueN (i := 3) (j := 10) (t := least rs) hr.get (ε := [.sh sc, .sh (.int x), .ls (penL p2), .sh (.tuple (rs.map hou)), .ls (th.map .int), c5, .sh (.int S), c7, c8, .sh d, .sh (.int (least rs)), c11, c12, c13, c14, c15]) rfl rfl (by decide)
        rw [s1] at k2
        have k3 : mTst (mB (cmpD .NotEq) (mPl 10) (mTm (mOp (Bg.f .minl) (mCons (mPl 4) (mNil))))) [.sh sc, .sh (.int x), .ls (penL p2), .sh (.tuple (rs.map hou)), .ls (th.map .int), c5, .sh (.int S), c7, c8, .sh d, .sh (.int (least rs)), c11, c12, c13, c14, c15] = some (false, [.sh sc, .sh (.int x), .ls (penL p2), .sh (.tuple (rs.map hou)), .ls (th.map .int), c5, .sh (.int S), c7, c8, .sh d, .sh (.int (least rs)), c11, c12, c13, c14, c15]) := by
          generalize th.map PyData.int = L at *
          simp [mTst, mB, mPl, bor, mTm, mOp, mCons, mNil, bors, Bg.f, hmin, cmpD, neD, scD, ee_ii]
        apply wx_nx (ε1 := [.sh sc, .sh (.int x), .ls (penL p2), .sh (.tuple (rs.map hou)), .ls (th.map .int), c5, .sh (.int S), c7, c8, .sh d, .sh (.int (least rs)), c11, c12, c13, c14, c15])
        · exact e_if ((e_or1 k1).trans ((e_or1 (by rw [k2]; rfl)).trans k3)) rfl
        clear k1 k2 k3
        have hd := law_due_eq rs (least rs - 1) hz8
        apply wx_nx (ε1 := [.sh sc, .sh (.int x), .ls (penL p2), .sh (.tuple (rs.map hou)), .ls (th.map .int), c5, .sh (.int S), c7, c8, .sh d, .sh (.int (least rs)), c11, c12, c13, c14, c15])
        · obtain ⟨i, hi⟩ := Option.ne_none_iff_exists'.mp s2
          unfold dueL at hd
          rw [hi] at hd
          clear hmin hany hls hr hpos hsb s1 s2
          generalize PyData.tuple (rs.map hou) = cr at *
          generalize PyData.list ((tsL rs (least rs - 1)).map .int) = tl at *
          simp only [tD] at hd
          walk_at "es"
        exact wx_skip ⟨_, _, rfl⟩
      · rintro ε ⟨c9, c10, rfl⟩
        clear hmin hany hls s1 s2
        obtain ⟨_, _, e1, ys, p3, -, hyb, -, rfl, rfl⟩ := law_times_eq p2 rs hr.get
        apply wx_seq
        apply wx_each (ds := ys.map .int) (ε1 := [.sh sc, .sh (.int x), .ls (penL p3), .sh (.tuple (rs.map hou)), .ls (th.map .int), c5, .sh (.int S), c7, c8, c9, c10, c11, c12, c13, c14, c15]) fun ε => ∃ c1 c2 c4 c5 c7 c8 c9 c10 c11 c12 c13 c14 c15, ε = [.sh sc, c1, c2, .sh (.tuple (rs.map hou)), c4, c5, .sh (.int S), c7, c8, c9, c10, c11, c12, c13, c14, c15]
        · clear hr hpos hsb hyb
          generalize PyData.tuple (rs.map hou) = cr at *
          walk_at "es"
        · exact ⟨_, _, _, _, _, _, _, _, _, _, _, _, _, rfl⟩
        · rintro d ε hd ⟨c1, c2, c4, c5, c7, c8, c9, c10, c11, c12, c13, c14, c15, rfl⟩
          obtain ⟨t, ht, rfl⟩ := List.mem_map.mp hd
          have htb := hyb t ht
          have f1 := law_due_eq rs t hz8
          have f2 := times_of_eq rs t hz8
          have f3 := turned_at_eq rs t hne hz8
          have f4 := vain_of_eq rs t hne hz8
          have f5 := blind_of_eq rs t hz8
          rw [hS] at f5
          have hbl : 0 ≤ (if t < S then S else 0) ∧ (if t < S then S else 0) ≤ 10000000 := by
            split <;> omega
          have f6 := reprG_eq (found_shw hr.get htb hbl) (by decide) (by rw [sizeLine_eq]; decide)
          have l1 := tsL_len rs t
          have l2 : (tsL rs t).length < 16777216 := by omega
          unfold dueL at f1
          generalize hT : (tsL rs t).map PyData.int = TL at *
          have l3 : TL.length < 16777216 := by rw [← hT, List.length_map]; exact l2
          clear hT l1 l2 e1 hyb ht hd hbl htb hr hpos hsb hS hne hz8
          generalize PyData.tuple (rs.map hou) = rd at *
          generalize tD (stp rs t) = td at *
          generalize wrk rs (stp rs t) = wk at *
          refine ⟨_, rfl, ?_⟩
          apply wx_nx (ε1 := [.sh sc, c1, c2, .sh rd, c4, .sh (.int t), .sh (.int S), c7, c8, c9, c10, .sh (.list TL), .sh td, .sh (.int wk), c14, c15])
          · clear f2 f3 f4 f5 f6
            simp [mAsgL, bLst, bTps, bNm, mCall, mCons, mPl, mNil, frz, cellsO, cellO, dist, f1, wb, notPl, cD]
          clear f1
          apply wx_seq
          apply wx_each (ds := rangeD 0 1 2) (ε1 := [.sh sc, c1, c2, .sh rd, c4, .sh (.int t), .sh (.int S), c7, c8, c9, c10, .sh (.list TL), .sh td, .sh (.int wk), c14, c15]) fun ε => ∃ c1 c2 c4 c7 c8 c9 c10 c14 c15, ε = [.sh sc, c1, c2, .sh rd, c4, .sh (.int t), .sh (.int S), c7, c8, c9, c10, .sh (.list TL), .sh td, .sh (.int wk), c14, c15]
          · clear f2 f3 f4 f5 f6
            walk_at "ev"
          · exact ⟨_, _, _, _, _, _, _, _, _, rfl⟩
          · rintro d ε - ⟨c1, c2, c4, c7, c8, c9, c10, c14, c15, rfl⟩
            refine ⟨_, rfl, ?_⟩
            apply wx_nx (ε1 := [.sh sc, c1, c2, .sh rd, c4, .sh (.int t), .sh (.int S), c7, c8, .sh d, c10, .sh (.list TL), .sh td, .sh (.int wk), .ls TL, c15])
            · clear f3 f4 f5 f6
              walk_at "es"
            clear f2
            apply wx_nx (ε1 := [.sh sc, c1, c2, .sh rd, c4, .sh (.int t), .sh (.int S), c7, c8, .sh d, c10, .sh (.list TL), .sh td, .sh (.int wk), .ls TL, .no])
            · have hs : ∀ c : C, frzC c = .no ∨ ∃ d, frzC c = .sh d := fun c => by
                cases c with
                | no => exact .inl rfl
                | sh d => exact .inr ⟨_, rfl⟩
                | ls ds => exact .inr ⟨_, rfl⟩
              have main2 : (mSeq (mSet [0, 1, 2, 3, 4, 5, 6, 7, 8, 9, 10, 11, 12, 13, 14] 15 (mLst (mCons (mPl 14) (mCons (mTm (mCall [true, true] g_turned_at (mCons (mPl 3) (mCons (mPl 5) (mNil))))) (mCons (mTm (mCall [true, true] g_vain_of (mCons (mPl 3) (mCons (mPl 5) (mNil))))) (mCons (mTm (mCall [true, true] g_blind_of (mCons (mPl 3) (mCons (mPl 5) (mNil))))) (mNil))))))) (mSeq (mIf (mTst (mB (cmpD .NotEq) (mTm (mOp reprG (mCons (mPl 15) (mNil)))) (mTm (mOp reprG (mCons (mTm (mLst (mCons (mPl 11) (mCons (mPl 12) (mCons (mPl 13) (mCons (mTm (mIfE (mTst (mB (cmpD .Gt) (mPl 6) (mPl 5))) (mVar 6) (mK (.int 0)))) (mNil))))))) (mNil)))))) (mSeq (mRet (mK (.bool false))) (mSkip)) (mSkip)) (mSkip))) [.sh sc, frzC c1, frzC c2, .sh rd, frzC c4, .sh (.int t), .sh (.int S), frzC c7, frzC c8, .sh d, frzC c10, .sh (.list TL), .sh td, .sh (.int wk), .sh (.list TL), frzC c15] = some (.nx, [.sh sc, frzC c1, frzC c2, .sh rd, frzC c4, .sh (.int t), .sh (.int S), frzC c7, frzC c8, .sh d, frzC c10, .sh (.list TL), .sh td, .sh (.int wk), .sh (.list TL), .ls [.list TL, td, .int wk, .int (if t < S then S else 0)]]) := by
                generalize frzC c1 = b1
                generalize frzC c2 = b2
                generalize frzC c4 = b4
                generalize frzC c7 = b7
                generalize frzC c8 = b8
                generalize frzC c10 = b10
                generalize frzC c15 = b15
                by_cases c : t < S
                · simp only [if_pos c] at f5 f6 ⊢
                  walk_at "es"
                · simp only [if_neg c] at f5 f6 ⊢
                  walk_at "es"
              unfold mScope
              simp only [List.map_cons, List.map_nil, frzC] at main2 ⊢
              rw [main2]
              rfl
            apply wx_nx
            · walk_at "es"
              exact rfl
            exact wx_skip ⟨_, _, _, _, _, _, _, _, _, rfl⟩
          · rintro ε ⟨c1, c2, c4, c7, c8, c9, c10, c14, c15, rfl⟩
            exact wx_skip ⟨_, _, _, _, _, _, _, _, _, _, _, _, _, rfl⟩
        · rintro ε ⟨c1, c2, c4, c5, c7, c8, c9, c10, c11, c12, c13, c14, c15, rfl⟩
          exact wx_skip ⟨_, _, _, _, _, _, _, _, _, _, _, _, _, _, _, rfl⟩
    rintro ε ⟨c1, c2, c3, c4, c5, c6, c7, c8, c9, c10, c11, c12, c13, c14, c15, rfl⟩
    apply wx_rt
    · walk_at "ev"
      exact ⟨rfl, rfl⟩
    exact rfl
  obtain ⟨c, cs, e, rfl⟩ := main
  exact ⟨cs, e⟩
end KW

namespace KW
open PySem PySem.Spec PyProof.Rows L2 L2.M
abbrev R : PySem.W.OpenRow := PySem.W.OpenLaw.row PySem.Challenge.rw_knockpurse_k52_time_handed_on
abbrev hk : PySem.W.Hook := He.hookD 4 fa fn
def ob (s : PySem.W.SharedT) : He.AlD := He.obsDG 4 fa fn (HandSHeadRun.getT s)
theorem ob_eq (s : PySem.W.SharedT) : ob s = hk.obs s.abs := He.obsDG_eq (HandSHeadRun.getT_eq s)
theorem run (w : World) : HandSHeadRun.RunEq R (PySem.W.view R.prog [14]) hk ob 1300 ["times_of", "turned_at", "least_time", "vain_of", "blind_of", "_law_cell_at", "_law_next", "_law_pen_of", "_law_draw", "_law_road", "_law_due", "_law_times"] w := by
  intro os
  kernel_rfl
end KW
open PySem PySem.W PySem.Calls PyProof.Rows
theorem PySem.Challenge.cw_knockpurse_k52_time_handed_on_holds : PySem.Challenge.rw_knockpurse_k52_time_handed_on.Holds := by
  w_on; o_law
  refine HandSHeadRun.head_any (r := OpenLaw.row PySem.Challenge.rw_knockpurse_k52_time_handed_on) (q := view (OpenLaw.row PySem.Challenge.rw_knockpurse_k52_time_handed_on).prog [14]) (H := KW.hk) (ob := KW.ob) (M := 1300) (loose := ["times_of", "turned_at", "least_time", "vain_of", "blind_of", "_law_cell_at", "_law_next", "_law_pen_of", "_law_draw", "_law_road", "_law_due", "_law_times"]) (d := HandSHeadRun.topDef (OpenLaw.row PySem.Challenge.rw_knockpurse_k52_time_handed_on).prog 14) (kwd := []) KW.ob_eq
    (by kernel_rfl) (fun s => by kernel_rfl) KW.run (by kernel_rfl) (by kernel_rfl) (by kernel_rfl) (by rfl) (by first | assumption | decide +kernel) (by decide +kernel) ⟨rfl, rfl, rfl, rfl, rfl, by decide +kernel⟩ ?hw ?hc
  case hw => w_witness2
  case hc =>
    refine L2.M.walkG (l := PySem.Challenge.rw_knockpurse_k52_time_handed_on) (n := 63) (k := 4) (x := "_law_script") rfl (by decide) (by kernel_rfl) ⟨⟨rfl, by decide, by decide⟩, rfl⟩ ?F
    intro w mg fa h Y G hmg0
    obtain ⟨K, KX, c⟩ := Y
    have hmg : mg ("law" : PySem.Str) = some (.ref fa) := by
      have e : (HandSHeadRun.topDef (OpenLaw.row PySem.Challenge.rw_knockpurse_k52_time_handed_on).prog 14).name = ("law" : PySem.Str) := by kernel_rfl
      rw [← e]
      exact hmg0
    obtain ⟨fd, hb, hF⟩ := L2.M.topG (P := (PySem.Challenge.rw_knockpurse_k52_time_handed_on).prog) (w := w) ⟨h, KX, G, c⟩ 12 12 (k := 3) (m := KW.m_law) rfl rfl rfl KW.pl_law KW.sc_law hmg (fun base => KW.bd_law ⟨h, KX, G, c⟩)
    exact ⟨K, fd, _, KX, hb, fun H a ns hl O hS => L2.M.sp_law O hS (KW.law_true ns hl), hF⟩

