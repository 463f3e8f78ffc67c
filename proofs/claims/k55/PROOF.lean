import PyProof.Rows.All
import Wide.All
import OpenK.AllK
import Wide.FinOn
import KE.KStateDown
import HandS.Base
import HandS.Call
import HandS.Ends
import HandS.More
import HandS.Words
import HandS.WordsExc
import HandS.Defaults
import HandS.Head0
import HandS.Head1
import HandS.Head2
import HandS.HeadEnd
import HandS.HeadHook1
import HandS.HeadHook2
import HandS.ForMost
import HandS.IsInst
import KE.KDictKeyed
import HandS.TupAny
import HandS.TupMul
import HandS.Style
import HandS.Wide
import HandS.Deep
import HandS.SortInts
import HandS.RaiseMore
import HandS.WideBits
import KE.KEqNest
import HandS.Walk
import HandS.ExcCtx
import HandS.Dict
import HandS.Zip
import KE.GoesEnum
import KE.KSortTupG
import HandS.TupSets
import HandS.Conv
import HandS.TryOnly
import HandS.Small
import HandS.ExcIs
import HandS.ExcField
import HandS.HotCalls
import HandS.ExcInit
import HandS.Flow
import HandS.SetFor
import HandS.Rev
import HandS.WordsDict
import HandS.Iter
import KE.KDictLaw
import KE.KDictCopyH
import KE.KDictDisplayH
import KE.DataCmp
import KE.DataMinMax
import KE.SortData
import KE.KDictPairs
import HandS.Text
import HandS.Steps
import HandS.Replace
import HandS.ReplaceLit
import HandS.ReplaceDef
import KE.KEqDict
import PyProof.SeqIndex
import KE.KIntText
import PySem.Challenge.RW_knockpurse_k55_schedules
set_option Elab.async false
set_option linter.all false
set_option maxRecDepth 100000
set_option maxHeartbeats 0
namespace L2.M
open PySem PySem.Spec PyProof.Rows
abbrev D := PyData
def keyD : Key → D
  | .inl i => .int i
  | .inr x => .str x
/-- a tuple, known to have no dict of its own -/
def HdT (F : Hp) (a : Addr) (xs : List V) : Prop := ∃ o : Obj, o.dict = none ∧ F a = some (.frz o (.tup xs))
theorem HdT.sq {K : PySem.W.Frag} {F : Hp} {a : Addr} {xs : List V} (h : HdT F a xs) : SqT K F a xs := by
  obtain ⟨o, _, h⟩ := h
  exact .inl (.inr ⟨o, h⟩)
theorem HdT.mono {F F' : Hp} {a : Addr} {xs : List V} (e : Same F F') (h : HdT F a xs) : HdT F' a xs := by
  obtain ⟨o, h1, h⟩ := h
  exact ⟨o, h1, e _ _ h⟩
mutual
def Rep (K : PySem.W.Frag) (F : Hp) : V → D → Prop
  | v, .none => v = .non
  | v, .bool b => v = .bl b
  | v, .int i => v = .int i
  | v, .str x => v = .str x
  | v, .list ds => ∃ a vs, v = .ref a ∧ SqL K F a vs ∧ Reps K F vs ds
  | v, .tuple ds => ∃ a vs, v = .ref a ∧ HdT F a vs ∧ Reps K F vs ds
  | v, .dict kds => ∃ a kvs, v = .ref a ∧ F a = some (.dK kvs) ∧ RepKs K F kvs kds
def Reps (K : PySem.W.Frag) (F : Hp) : List V → List D → Prop
  | vs, [] => vs = []
  | vs, d :: ds => ∃ v r, vs = v :: r ∧ Rep K F v d ∧ Reps K F r ds
def RepKs (K : PySem.W.Frag) (F : Hp) : List (Key × V) → List (D × D) → Prop
  | kvs, [] => kvs = []
  | kvs, (k, d) :: kds => ∃ key v r, kvs = (key, v) :: r ∧ k = keyD key ∧ Rep K F v d ∧ RepKs K F r kds
end
theorem sameL {K : PySem.W.Frag} {H H' : Hp} {a : Addr} {xs : List V} (e : Same H H') (h : SqL K H a xs) : SqL K H' a xs := e.seq h
theorem sameT {K : PySem.W.Frag} {H H' : Hp} {a : Addr} {xs : List V} (e : Same H H') (h : SqT K H a xs) : SqT K H' a xs := by
  rcases h with (h | ⟨o, h⟩) | h
  · exact .inl (.inl (e _ _ h))
  · exact .inl (.inr ⟨o, e _ _ h⟩)
  · exact .inr h
section
variable {K : PySem.W.Frag} {F F' : Hp}
mutual
theorem Rep.mono (e : Same F F') : ∀ (d : D) (v : V), Rep K F v d → Rep K F' v d
  | .none, v, h => h
  | .bool b, v, h => h
  | .int b, v, h => h
  | .str b, v, h => h
  | .list ds, v, ⟨a, vs, h1, h2, h3⟩ => ⟨a, vs, h1, sameL e h2, Reps.mono e ds vs h3⟩
  | .tuple ds, v, ⟨a, vs, h1, h2, h3⟩ => ⟨a, vs, h1, h2.mono e, Reps.mono e ds vs h3⟩
  | .dict kds, v, ⟨a, vs, h1, h2, h3⟩ => ⟨a, vs, h1, e _ _ h2, RepKs.mono e kds vs h3⟩
theorem Reps.mono (e : Same F F') : ∀ (ds : List D) (vs : List V), Reps K F vs ds → Reps K F' vs ds
  | [], vs, h => h
  | d :: ds, vs, ⟨v, r, h1, h2, h3⟩ => ⟨v, r, h1, Rep.mono e d v h2, Reps.mono e ds r h3⟩
theorem RepKs.mono (e : Same F F') : ∀ (ds : List (D × D)) (vs : List (Key × V)), RepKs K F vs ds → RepKs K F' vs ds
  | [], vs, h => h
  | (k, d) :: ds, vs, ⟨key, v, r, h1, h0, h2, h3⟩ => ⟨key, v, r, h1, h0, Rep.mono e d v h2, RepKs.mono e ds r h3⟩
end
theorem Reps.length : ∀ {ds : List D} {vs : List V}, Reps K F vs ds → vs.length = ds.length
  | [], vs, h => by cases (show vs = [] from h); rfl
  | d :: ds, vs, ⟨v, r, h1, h2, h3⟩ => by subst h1; simp [Reps.length h3]
theorem Reps.get : ∀ {ds : List D} {vs : List V} {i : Nat} {d : D}, Reps K F vs ds → ds[i]? = some d → ∃ v, vs[i]? = some v ∧ Rep K F v d
  | [], vs, i, d, h, e => by simp at e
  | d :: ds, vs, 0, d', ⟨v, r, h1, h2, h3⟩, e => by
    simp at e; subst e; subst h1; exact ⟨v, rfl, h2⟩
  | d :: ds, vs, i + 1, d', ⟨v, r, h1, h2, h3⟩, e => by
    subst h1
    obtain ⟨v', e1, e2⟩ := Reps.get (i := i) h3 (by simpa using e)
    exact ⟨v', by simpa using e1, e2⟩
theorem Reps.append : ∀ {ds es : List D} {vs ws : List V}, Reps K F vs ds → Reps K F ws es → Reps K F (vs ++ ws) (ds ++ es)
  | [], es, vs, ws, h, g => by cases (show vs = [] from h); exact g
  | d :: ds, es, vs, ws, ⟨v, r, h1, h2, h3⟩, g => by subst h1; exact ⟨v, r ++ ws, rfl, h2, Reps.append h3 g⟩
theorem Reps.one {v : V} {d : D} (h : Rep K F v d) : Reps K F [v] [d] := ⟨v, [], rfl, h, rfl⟩
theorem Reps.take : ∀ {ds : List D} {vs : List V} (n : Nat), Reps K F vs ds → Reps K F (vs.take n) (ds.take n)
  | _, _, 0, _ => by simp [Reps]
  | [], vs, n + 1, h => by cases (show vs = [] from h); simp [Reps]
  | d :: ds, vs, n + 1, ⟨v, r, h1, h2, h3⟩ => by subst h1; exact ⟨v, _, rfl, h2, Reps.take n h3⟩
theorem Reps.drop : ∀ {ds : List D} {vs : List V} (n : Nat), Reps K F vs ds → Reps K F (vs.drop n) (ds.drop n)
  | _, _, 0, h => h
  | [], vs, n + 1, h => by cases (show vs = [] from h); simp [Reps]
  | d :: ds, vs, n + 1, ⟨v, r, h1, h2, h3⟩ => by subst h1; exact Reps.drop n h3
theorem Reps.set {v : V} {d : D} (g : Rep K F v d) : ∀ {ds : List D} {vs : List V} (n : Nat), Reps K F vs ds → Reps K F (vs.set n v) (ds.set n d)
  | [], vs, n, h => by cases (show vs = [] from h); simp [Reps]
  | d' :: ds, vs, 0, ⟨v', r, h1, h2, h3⟩ => by subst h1; exact ⟨v, r, rfl, g, h3⟩
  | d' :: ds, vs, n + 1, ⟨v', r, h1, h2, h3⟩ => by subst h1; exact ⟨v', _, rfl, h2, Reps.set g n h3⟩
theorem Reps.erase : ∀ {ds : List D} {vs : List V} (n : Nat), Reps K F vs ds → Reps K F (vs.eraseIdx n) (ds.eraseIdx n)
  | [], vs, n, h => by cases (show vs = [] from h); simp [Reps]
  | d' :: ds, vs, 0, ⟨v', r, h1, h2, h3⟩ => by subst h1; exact h3
  | d' :: ds, vs, n + 1, ⟨v', r, h1, h2, h3⟩ => by subst h1; exact ⟨v', _, rfl, h2, Reps.erase n h3⟩
theorem Reps.reverse : ∀ {ds : List D} {vs : List V}, Reps K F vs ds → Reps K F vs.reverse ds.reverse
  | [], vs, h => by cases (show vs = [] from h); simp [Reps]
  | d :: ds, vs, ⟨v, r, h1, h2, h3⟩ => by
    subst h1
    rw [List.reverse_cons, List.reverse_cons]
    exact Reps.append (Reps.reverse h3) (Reps.one h2)
theorem Reps.replicate {ds : List D} {vs : List V} (h : Reps K F vs ds) : ∀ n : Nat, Reps K F (List.replicate n vs).flatten (List.replicate n ds).flatten
  | 0 => by simp [Reps]
  | n + 1 => by
    rw [List.replicate_succ, List.replicate_succ, List.flatten_cons, List.flatten_cons]
    exact Reps.append h (Reps.replicate h n)
end
inductive Kd where
  | ls | ins (cls : Str) (fs : List Str) | dn (ks : List D)
/-- an error on its way: its class by its name, its fields -/
structure Xn where
  cls : Str
  as : List (Str × D)
inductive C where
  | no | sh (d : D) | ls (ds : List D) | dc (k : Nat) (kvs : List (D × D)) | ob (k : Kd) (cs : List C)
  | px (a : Addr) (cls : Value) (d : Option Addr) (x : Xn)
  | fn (x : Str) | fd (kds : List (D × D))
abbrev Cs := List C
/-- what is written once and for all: the program's fragment, the world -/
abbrev Ek := PySem.W.Frag × World
abbrev _root_.L2.Cx.E (X : Cx) : Ek := (X.K, X.w)
mutual
def nKey : D → Option NestedKey
  | .none => some .none
  | .bool b => some (.num (if b = true then 1 else 0))
  | .int i => some (.num i)
  | .str x => some (.text x)
  | .tuple ds => (nKeys ds).map .tup
  | _ => none
def nKeys : List D → Option (List NestedKey)
  | [] => some []
  | d :: ds => match nKey d, nKeys ds with
    | some k, some ks => some (k :: ks)
    | _, _ => none
end
abbrev NEnt := NestedKey × Addr
def nkE (w : World) (x : NEnt × Value) : DictEntry := ⟨x.1.1.hash w, .ref x.1.2, x.2⟩
/-- a dict whose keys are tuples, nested, told by its object -/
def nkO (w : World) (a : Addr) (xs : List (NEnt × V)) : HO := .ext fun h => xs.length ≤ sizeLine ∧ (a == sysModules) = false ∧ ∃ vs : List (NEnt × Value), Paired (fun (p : NEnt × V) (q : NEnt × Value) => p.1 = q.1 ∧ RelV p.2 q.2) xs vs ∧ ∃ o es ep, h.get? a = some o ∧ o.ExactDict ∧ o.data = .dict es ep ∧ es.toList = vs.map (nkE w) ∧ (xs.map (·.1.1)).Nodup
def KeysN (K : PySem.W.Frag) (F : Hp) : List NEnt → List D → Prop
  | bs, [] => bs = []
  | bs, k :: ks => ∃ b r, bs = b :: r ∧ nKey k = some b.1 ∧ b.1.depth ≤ 8 ∧ Rep K F (.ref b.2) k ∧ KeysN K F r ks
def RepX (K : Ek) (F : Hp) (cls : Value) (d : Option Addr) (x : Xn) : Prop := cls = .ref (He.ga K.1 x.cls) ∧ ((x.as = [] ∧ d = none) ∨ ∃ dx fs, d = some dx ∧ F dx = some (.xd fs) ∧ fs.map (·.1) = x.as.map (·.1) ∧ Reps K.1 F (fs.map (·.2)) (x.as.map (·.2)))
def RepTs (K : PySem.W.Frag) (F : Hp) : List (List Key × V) → List (D × D) → Prop
  | kvs, [] => kvs = []
  | kvs, (k, d) :: kds => ∃ key v r, kvs = (key, v) :: r ∧ k = .tuple (key.map keyD) ∧ Rep K F v d ∧ RepTs K F r kds
/-- a dict of one's own -/
def DcAt (K : PySem.W.Frag) (F H : Hp) (a : Addr) : Nat → List (D × D) → Prop
  | 0, kds => ∃ kvs, H a = some (.dK kvs) ∧ RepKs K F kvs kds
  | 1, kds => ∃ kvs, H a = some (.dT kvs) ∧ RepTs K F kvs kds
  | _, _ => False
def ObAt (K : Ek) (F H : Hp) (a : Addr) (vs : List V) : Kd → Prop
  | .ls => H a = some (.lst vs)
  | .ins x fs => ∃ dx, H a = some (.ins (He.ga K.1 x) dx (fs.zip vs)) ∧ fs.length = vs.length ∧ fs.Nodup
  | .dn ks => ∃ bs : List NEnt, H a = some (nkO K.2 a (bs.zip vs)) ∧ bs.length = vs.length ∧ KeysN K.1 F bs ks ∧ (bs.map (·.1)).Nodup
def Kd.pl : Kd → Prop
  | .dn _ => False
  | _ => True
/-- .. of a thing with places -/
def ObP (K : Ek) (H : Hp) (a : Addr) (vs : List V) : Kd → Prop
  | .ls => H a = some (.lst vs)
  | .ins x fs => ∃ dx, H a = some (.ins (He.ga K.1 x) dx (fs.zip vs)) ∧ fs.length = vs.length ∧ fs.Nodup
  | .dn _ => False
theorem ObP.at {K : Ek} {F H : Hp} {a : Addr} {vs : List V} : ∀ {k : Kd}, ObP K H a vs k → ObAt K F H a vs k
  | .ls, h => h
  | .ins _ _, h => h
  | .dn _, h => h.elim
theorem ObP.pl {K : Ek} {H : Hp} {a : Addr} {vs : List V} : ∀ {k : Kd}, ObP K H a vs k → k.pl
  | .ls, h => trivial
  | .ins _ _, h => trivial
  | .dn _, h => h.elim
theorem ObAt.p {K : Ek} {F H : Hp} {a : Addr} {vs : List V} : ∀ {k : Kd}, k.pl → ObAt K F H a vs k → ObP K H a vs k
  | .ls, _, h => h
  | .ins _ _, _, h => h
  | .dn _, h, _ => h.elim
theorem ObP.frame {K : Ek} {H H' : Hp} {a : Addr} {vs : List V} (h' : H' a = H a) : ∀ {k : Kd}, ObP K H a vs k → ObP K H' a vs k
  | .ls, h => h'.trans h
  | .ins _ _, ⟨dx, h2, h3⟩ => ⟨dx, h'.trans h2, h3⟩
  | .dn _, h => h.elim
/-- a dict with nested keys that is changed no more -/
def FdAt (K : Ek) (F : Hp) (a : Addr) (kds : List (D × D)) : Prop := ∃ od bs vs, F a = some (.frz od (nkO K.2 a (bs.zip vs))) ∧ bs.length = vs.length ∧ KeysN K.1 F bs (kds.map (·.1)) ∧ Reps K.1 F vs (kds.map (·.2))
mutual
/-- a cell is held: the addresses that are its own -/
def RpC (K : Ek) (F H : Hp) : Option V → C → List Addr → Prop
  | o, .no, A => A = []
  | o, .sh d, A => A = [] ∧ ∃ v, o = some v ∧ Rep K.1 F v d
  | o, .ls ds, A => ∃ a vs, o = some (.ref a) ∧ A = [a] ∧ H a = some (.lst vs) ∧ Reps K.1 F vs ds
  | o, .dc k kds, A => ∃ a, o = some (.ref a) ∧ A = [a] ∧ DcAt K.1 F H a k kds
  | o, .px a cls d x, A => A = [] ∧ o = some (.ref a) ∧ RepX K F cls d x
  | o, .fn x, A => A = [] ∧ o = some (.ref (He.ga K.1 x))
  | o, .fd kds, A => A = [] ∧ ∃ a, o = some (.ref a) ∧ FdAt K F a kds
  | o, .ob k cs, A => ∃ a vs fs, o = some (.ref a) ∧ A = a :: fs.flatten ∧ ObAt K F H a vs k ∧ RpCs K F H (vs.map some) cs fs
def RpCs (K : Ek) (F H : Hp) : List (Option V) → List C → List (List Addr) → Prop
  | os, [], fs => os = [] ∧ fs = []
  | os, c :: cs, fs => ∃ o r f fr, os = o :: r ∧ fs = f :: fr ∧ RpC K F H o c f ∧ RpCs K F H r cs fr
end
section
variable {K : Ek} {F F' H H' : Hp}
theorem RepTs.mono (e : Same F F') : ∀ (ds : List (D × D)) (vs : List (List Key × V)), RepTs K.1 F vs ds → RepTs K.1 F' vs ds
  | [], vs, h => h
  | (k, d) :: ds, vs, ⟨key, v, r, h1, h0, h2, h3⟩ => ⟨key, v, r, h1, h0, Rep.mono e d v h2, RepTs.mono e ds r h3⟩
theorem RepX.mono {cls : Value} {d : Option Addr} {x : Xn} (e : Same F F') (h : RepX K F cls d x) : RepX K F' cls d x := by
  obtain ⟨h1, h2 | ⟨dx, fs, h2, h3, h4, h5⟩⟩ := h
  · exact ⟨h1, .inl h2⟩
  · exact ⟨h1, .inr ⟨dx, fs, h2, e _ _ h3, h4, Reps.mono e _ _ h5⟩⟩
theorem DcAt.frame (e : Same F F') {a : Addr} (h' : H' a = H a) : ∀ {k : Nat} {kds : List (D × D)}, DcAt K.1 F H a k kds → DcAt K.1 F' H' a k kds
  | 0, kds, ⟨kvs, h1, h2⟩ => ⟨kvs, h'.trans h1, RepKs.mono e _ _ h2⟩
  | 1, kds, ⟨kvs, h1, h2⟩ => ⟨kvs, h'.trans h1, RepTs.mono e _ _ h2⟩
  | _ + 2, kds, h => h
theorem DcAt.live {a : Addr} : ∀ {k : Nat} {kds : List (D × D)}, DcAt K.1 F H a k kds → H a ≠ none
  | 0, kds, ⟨kvs, h1, h2⟩ => by rw [h1]; exact fun z => nomatch z
  | 1, kds, ⟨kvs, h1, h2⟩ => by rw [h1]; exact fun z => nomatch z
  | _ + 2, kds, h => h.elim
theorem KeysN.mono (e : Same F F') : ∀ {ks : List D} {bs : List NEnt}, KeysN K.1 F bs ks → KeysN K.1 F' bs ks
  | [], bs, h => h
  | k :: ks, bs, ⟨b, r, h1, h2, h3, h4, h5⟩ => ⟨b, r, h1, h2, h3, Rep.mono e _ _ h4, KeysN.mono e h5⟩
theorem ObAt.frame (e : Same F F') {a : Addr} {vs : List V} (h' : H' a = H a) : ∀ {k : Kd}, ObAt K F H a vs k → ObAt K F' H' a vs k
  | .ls, h => h'.trans h
  | .ins _ _, ⟨dx, h2, h3⟩ => ⟨dx, h'.trans h2, h3⟩
  | .dn _, ⟨bs, h2, h3, h4, h5⟩ => ⟨bs, h'.trans h2, h3, h4.mono (K := K) e, h5⟩
theorem ObAt.live {a : Addr} {vs : List V} : ∀ {k : Kd}, ObAt K F H a vs k → H a ≠ none
  | .ls, h => by rw [show H a = _ from h]; exact fun z => nomatch z
  | .ins _ _, ⟨dx, h2, h3⟩ => by rw [h2]; exact fun z => nomatch z
  | .dn _, ⟨bs, h2, _⟩ => by rw [h2]; exact fun z => nomatch z
theorem FdAt.mono (e : Same F F') {a : Addr} {kds : List (D × D)} (h : FdAt K F a kds) : FdAt K F' a kds := by
  obtain ⟨od, bs, vs, h1, h2, h3, h4⟩ := h
  exact ⟨od, bs, vs, e _ _ h1, h2, h3.mono (K := K) e, Reps.mono e _ _ h4⟩
mutual
theorem RpC.frame (e : Same F F') : ∀ {c : C} {o : Option V} {A : List Addr}, (∀ b ∈ A, H' b = H b) → RpC K F H o c A → RpC K F' H' o c A
  | .no, o, A, k, h => h
  | .sh d, o, A, k, ⟨h1, v, h2, h3⟩ => ⟨h1, v, h2, Rep.mono e _ _ h3⟩
  | .ls ds, o, A, k, ⟨a, vs, h1, h2, h3, h4⟩ => ⟨a, vs, h1, h2, (k a (by rw [h2]; exact List.mem_cons_self)).trans h3, Reps.mono e _ _ h4⟩
  | .dc n kds, o, A, k, ⟨a, h1, h2, h3⟩ => ⟨a, h1, h2, DcAt.frame e (k a (by rw [h2]; exact List.mem_cons_self)) h3⟩
  | .px a cls d x, o, A, k, ⟨h1, h2, h3⟩ => ⟨h1, h2, h3.mono e⟩
  | .fn x, o, A, k, h => h
  | .fd kds, o, A, k, ⟨h1, a, h2, h3⟩ => ⟨h1, a, h2, h3.mono e⟩
  | .ob n cs, o, A, k, ⟨a, vs, fs, h1, h2, h3, h4⟩ => ⟨a, vs, fs, h1, h2, ObAt.frame e (k a (by rw [h2]; exact List.mem_cons_self)) h3, RpCs.frame e (fun b hb => k b (by rw [h2]; exact List.mem_cons_of_mem _ hb)) h4⟩
theorem RpCs.frame (e : Same F F') : ∀ {cs : List C} {os : List (Option V)} {fs : List (List Addr)}, (∀ b ∈ fs.flatten, H' b = H b) → RpCs K F H os cs fs → RpCs K F' H' os cs fs
  | [], os, fs, k, h => h
  | c :: cs, os, fs, k, ⟨o, r, f, fr, h1, h2, h3, h4⟩ => ⟨o, r, f, fr, h1, h2, RpC.frame e (fun b hb => k b (by rw [h2]; simp [hb])) h3, RpCs.frame e (fun b hb => k b (by rw [h2, List.flatten_cons]; exact List.mem_append_right _ hb)) h4⟩
end
mutual
theorem RpC.live : ∀ {c : C} {o : Option V} {A : List Addr}, RpC K F H o c A → ∀ b ∈ A, H b ≠ none
  | .no, o, A, h, b, hb => by rw [show A = [] from h] at hb; cases hb
  | .sh d, o, A, ⟨h1, _⟩, b, hb => by rw [h1] at hb; cases hb
  | .ls ds, o, A, ⟨a, vs, h1, h2, h3, h4⟩, b, hb => by
    rw [h2] at hb
    obtain rfl := List.mem_singleton.mp hb
    rw [h3]; exact fun z => nomatch z
  | .dc n kds, o, A, ⟨a, h1, h2, h3⟩, b, hb => by
    rw [h2] at hb
    obtain rfl := List.mem_singleton.mp hb
    exact h3.live (K := K)
  | .px a cls d x, o, A, ⟨h1, _⟩, b, hb => by rw [h1] at hb; cases hb
  | .fn x, o, A, ⟨h1, _⟩, b, hb => by rw [h1] at hb; cases hb
  | .fd kds, o, A, ⟨h1, _⟩, b, hb => by rw [h1] at hb; cases hb
  | .ob n cs, o, A, ⟨a, vs, fs, h1, h2, h3, h4⟩, b, hb => by
    rw [h2] at hb
    rcases List.mem_cons.mp hb with rfl | hb
    · exact h3.live
    · exact RpCs.live h4 b hb
theorem RpCs.live : ∀ {cs : List C} {os : List (Option V)} {fs : List (List Addr)}, RpCs K F H os cs fs → ∀ b ∈ fs.flatten, H b ≠ none
  | [], os, fs, ⟨_, h⟩, b, hb => by rw [h] at hb; cases hb
  | c :: cs, os, fs, ⟨o, r, f, fr, h1, h2, h3, h4⟩, b, hb => by
    rw [h2, List.flatten_cons] at hb
    rcases List.mem_append.mp hb with hb | hb
    · exact RpC.live h3 b hb
    · exact RpCs.live h4 b hb
end
theorem RpCs.len : ∀ {cs : List C} {os : List (Option V)} {fs : List (List Addr)}, RpCs K F H os cs fs → os.length = cs.length ∧ fs.length = cs.length
  | [], os, fs, ⟨h1, h2⟩ => by rw [h1, h2]; exact ⟨rfl, rfl⟩
  | c :: cs, os, fs, ⟨o, r, f, fr, h1, h2, h3, h4⟩ => by
    obtain ⟨e1, e2⟩ := h4.len
    rw [h1, h2]
    simp [e1, e2]
theorem RpCs.get : ∀ {cs : List C} {os : List (Option V)} {fs : List (List Addr)} {i : Nat} {c : C}, RpCs K F H os cs fs → cs[i]? = some c → ∃ o f, os[i]? = some o ∧ fs[i]? = some f ∧ RpC K F H o c f
  | [], os, fs, i, c, h, e => by simp at e
  | c :: cs, os, fs, 0, c', ⟨o, r, f, fr, h1, h2, h3, h4⟩, e => by
    simp at e; subst e h1 h2
    exact ⟨o, f, rfl, rfl, h3⟩
  | c :: cs, os, fs, i + 1, c', ⟨o, r, f, fr, h1, h2, h3, h4⟩, e => by
    subst h1 h2
    obtain ⟨o', f', e1, e2, e3⟩ := h4.get (by simpa using e)
    exact ⟨o', f', by simpa using e1, by simpa using e2, e3⟩
/-- a place rewritten -/
theorem RpCs.set {o : Option V} {c : C} {f : List Addr} (h0 : RpC K F H o c f) : ∀ {cs : List C} {os : List (Option V)} {fs : List (List Addr)} (i : Nat), RpCs K F H os cs fs → RpCs K F H (os.set i o) (cs.set i c) (fs.set i f)
  | [], os, fs, i, ⟨h1, h2⟩ => by rw [h1, h2]; exact ⟨rfl, rfl⟩
  | c' :: cs, os, fs, 0, ⟨o', r, f', fr, h1, h2, h3, h4⟩ => by rw [h1, h2]; exact ⟨o, r, f, fr, rfl, rfl, h0, h4⟩
  | c' :: cs, os, fs, i + 1, ⟨o', r, f', fr, h1, h2, h3, h4⟩ => by rw [h1, h2]; exact ⟨o', _, f', _, rfl, rfl, h3, RpCs.set h0 i h4⟩
theorem RpCs.append : ∀ {cs cs' : List C} {os os' : List (Option V)} {fs fs' : List (List Addr)}, RpCs K F H os cs fs → RpCs K F H os' cs' fs' → RpCs K F H (os ++ os') (cs ++ cs') (fs ++ fs')
  | [], cs', os, os', fs, fs', ⟨h1, h2⟩, g => by rw [h1, h2]; exact g
  | c :: cs, cs', os, os', fs, fs', ⟨o, r, f, fr, h1, h2, h3, h4⟩, g => by rw [h1, h2]; exact ⟨o, _, f, _, rfl, rfl, h3, h4.append g⟩
theorem RpCs.nos (n : Nat) (os : List (Option V)) (h : os.length = n) : RpCs K F H os (List.replicate n .no) (List.replicate n []) := by
  induction n generalizing os with
  | zero => exact ⟨List.length_eq_zero_iff.mp h, rfl⟩
  | succ n ih =>
    cases os with
    | nil => cases h
    | cons o r => exact ⟨o, r, [], _, rfl, rfl, rfl, ih r (by simpa using h)⟩
end
theorem flat_set {fs : List (List Addr)} {i : Nat} {f : List Addr} {b : Addr} (h : b ∈ (fs.set i f).flatten) : b ∈ f ∨ ∃ (j : Nat) (g : List Addr), j ≠ i ∧ fs[j]? = some g ∧ b ∈ g := by
  obtain ⟨g, hg, hb⟩ := List.mem_flatten.mp h
  obtain ⟨j, hj⟩ := List.mem_iff_getElem?.mp hg
  by_cases e : j = i
  · subst e
    by_cases hl : j < fs.length
    · rw [List.getElem?_set_self hl] at hj; cases hj; exact .inl hb
    · rw [List.getElem?_eq_none (by simpa using hl)] at hj; cases hj
  · rw [List.getElem?_set_ne (Ne.symm e)] at hj
    exact .inr ⟨j, g, e, hj, hb⟩
theorem flat_get {fs : List (List Addr)} {i : Nat} {f : List Addr} {b : Addr} (h : fs[i]? = some f) (hb : b ∈ f) : b ∈ fs.flatten := List.mem_flatten.mpr ⟨f, List.mem_of_getElem? h, hb⟩
theorem nodup_apart : ∀ {fs : List (List Addr)}, fs.flatten.Nodup → ∀ {i j : Nat} {f g : List Addr} {b : Addr}, fs[i]? = some f → fs[j]? = some g → b ∈ f → b ∈ g → i = j
  | [], _, i, j, f, g, b, h, _, _, _ => by simp at h
  | e :: fs, n, i, j, f, g, b, h1, h2, h3, h4 => by
    rw [List.flatten_cons, List.nodup_append] at n
    obtain ⟨n1, n2, n3⟩ := n
    cases i with
    | zero =>
      simp at h1; subst h1
      cases j with
      | zero => rfl
      | succ j => exact absurd rfl (n3 b h3 b (flat_get (by simpa using h2) h4))
    | succ i =>
      cases j with
      | zero =>
        simp at h2; subst h2
        exact absurd rfl (n3 b h4 b (flat_get (by simpa using h1) h3))
      | succ j => exact congrArg (· + 1) (nodup_apart n2 (by simpa using h1) (by simpa using h2) h3 h4)
theorem nodup_get : ∀ {fs : List (List Addr)} {i : Nat} {f : List Addr}, fs.flatten.Nodup → fs[i]? = some f → f.Nodup
  | [], i, f, _, h => by simp at h
  | e :: fs, 0, f, n, h => by
    simp at h; subst h
    rw [List.flatten_cons, List.nodup_append] at n
    exact n.1
  | e :: fs, i + 1, f, n, h => by
    rw [List.flatten_cons, List.nodup_append] at n
    exact nodup_get n.2.1 (by simpa using h)
theorem nodup_set {f : List Addr} (nf : f.Nodup) : ∀ {fs : List (List Addr)} {i : Nat}, fs.flatten.Nodup → (∀ (j : Nat) (g : List Addr), j ≠ i → fs[j]? = some g → ∀ b ∈ f, b ∉ g) → (fs.set i f).flatten.Nodup
  | [], i, n, h => by simp
  | e :: fs, 0, n, h => by
    rw [List.flatten_cons, List.nodup_append] at n
    show (f :: fs).flatten.Nodup
    rw [List.flatten_cons, List.nodup_append]
    refine ⟨nf, n.2.1, fun a ha b hb z => ?_⟩
    subst z
    obtain ⟨g, hg, hb⟩ := List.mem_flatten.mp hb
    obtain ⟨j, hj⟩ := List.mem_iff_getElem?.mp hg
    exact h (j + 1) g (by simp) (by simpa using hj) a ha hb
  | e :: fs, i + 1, n, h => by
    rw [List.flatten_cons, List.nodup_append] at n
    obtain ⟨n1, n2, n3⟩ := n
    show (e :: fs.set i f).flatten.Nodup
    rw [List.flatten_cons, List.nodup_append]
    refine ⟨n1, nodup_set nf n2 fun j g hj hg b hb => h (j + 1) g (by simpa using hj) (by simpa using hg) b hb, fun a ha b hb z => ?_⟩
    subst z
    rcases flat_set hb with hb | ⟨j, g, hj, hg, hb⟩
    · exact h 0 e (by simp) rfl a hb ha
    · exact n3 a ha a (flat_get hg hb) rfl
abbrev Tms := List (V × C)
structure Sep (K : Ek) (F R H : Hp) (σ : St) (ε : Cs) (T : Tms) : Prop where
  sub : Same F H
  rs : Same R H
  dis : ∀ b, F b ≠ none → R b = none
  ex : ∃ fs gs, RpCs K F H σ ε fs ∧ RpCs K F H (T.map fun p => some p.1) (T.map (·.2)) gs ∧ (fs.flatten ++ gs.flatten).Nodup ∧ ∀ b ∈ fs.flatten ++ gs.flatten, F b = none ∧ R b = none
section
variable {K : Ek} {F R H F' R' H' : Hp} {σ σ' : St} {ε ε' : Cs} {T T' : Tms} {v w : V} {c c' : C} {i : Nat} {d : D}
theorem Sep.len (s : Sep K F R H σ ε T) : σ.length = ε.length := by
  obtain ⟨_, _, _, ⟨fs, gs, h1, _⟩⟩ := s
  exact h1.len.1
/-- a temporary is dropped -/
theorem Sep.drop (s : Sep K F R H σ ε ((v, c) :: T)) : Sep K F R H σ ε T := by
  obtain ⟨a1, a2, a3, ⟨fs, gs, h1, ⟨o, r, f, fr, e1, e2, h2, h3⟩, n, m⟩⟩ := s
  subst e2
  obtain ⟨-, rfl⟩ := List.cons.inj e1
  have sl : ∀ b, b ∈ fs.flatten ++ fr.flatten → b ∈ fs.flatten ++ (f :: fr).flatten := fun b hb => by
    simp only [List.flatten_cons, List.mem_append] at hb ⊢
    rcases hb with hb | hb
    · exact .inl hb
    · exact .inr (.inr hb)
  refine ⟨a1, a2, a3, fs, fr, h1, h3, ?_, fun b hb => m b (sl b hb)⟩
  rw [List.flatten_cons, List.nodup_append] at n
  obtain ⟨n1, n2, n3⟩ := n
  rw [List.nodup_append] at n2
  rw [List.nodup_append]
  exact ⟨n1, n2.2.1, fun a ha b hb => n3 a ha b (List.mem_append_right _ hb)⟩
theorem Sep.drops : ∀ (T0 : Tms), Sep K F R H σ ε (T0 ++ T) → Sep K F R H σ ε T
  | [], s => s
  | (_, _) :: T0, s => Sep.drops T0 s.drop
/-- a temporary of no own addresses -/
theorem Sep.addSh (s : Sep K F R H σ ε T) (r : Rep K.1 F v d) : Sep K F R H σ ε ((v, .sh d) :: T) := by
  obtain ⟨a1, a2, a3, ⟨fs, gs, h1, h2, n, m⟩⟩ := s
  exact ⟨a1, a2, a3, fs, [] :: gs, h1, ⟨_, _, _, _, rfl, rfl, ⟨rfl, v, rfl, r⟩, h2⟩, by simpa using n, by simpa using m⟩
/-- the cell of a slot, read -/
theorem Sep.cell (s : Sep K F R H σ ε T) (h : ε[i]? = some c) : ∃ o f, σ[i]? = some o ∧ RpC K F H o c f := by
  obtain ⟨a1, a2, a3, ⟨fs, gs, h1, h2, n, m⟩⟩ := s
  obtain ⟨o, f, e1, e2, e3⟩ := h1.get h
  exact ⟨o, f, e1, e3⟩
theorem Sep.sh (s : Sep K F R H σ ε T) (h : ε[i]? = some (.sh d)) : ∃ v, σ[i]? = some (some v) ∧ Rep K.1 F v d := by
  obtain ⟨o, f, e1, _, v, rfl, r⟩ := s.cell h
  exact ⟨v, e1, r⟩
theorem Sep.lst {ds : List D} (s : Sep K F R H σ ε T) (h : ε[i]? = some (.ls ds)) : ∃ a vs, σ[i]? = some (some (.ref a)) ∧ H a = some (.lst vs) ∧ Reps K.1 F vs ds := by
  obtain ⟨o, f, e1, a, vs, rfl, _, h1, h2⟩ := s.cell h
  exact ⟨a, vs, e1, h1, h2⟩
theorem Sep.val (s : Sep K F R H σ ε T) (h : ε[i]? = some c) (hn : c ≠ .no) : ∃ v, σ[i]? = some (some v) := by
  obtain ⟨o, f, e1, h1⟩ := s.cell h
  cases c with
  | no => exact absurd rfl hn
  | sh d => obtain ⟨_, v, rfl, _⟩ := h1; exact ⟨v, e1⟩
  | ls d => obtain ⟨a, vs, rfl, _⟩ := h1; exact ⟨_, e1⟩
  | dc k d => obtain ⟨a, rfl, _⟩ := h1; exact ⟨_, e1⟩
  | ob k d => obtain ⟨a, vs, fs, rfl, _⟩ := h1; exact ⟨_, e1⟩
  | px _ _ _ _ => obtain ⟨_, rfl, _⟩ := h1; exact ⟨_, e1⟩
  | fn _ => obtain ⟨_, rfl⟩ := h1; exact ⟨_, e1⟩
  | fd _ => obtain ⟨_, _, rfl, _⟩ := h1; exact ⟨_, e1⟩
/-- a slot's cell is dropped -/
theorem Sep.dropAt (s : Sep K F R H σ ε T) (i : Nat) : Sep K F R H σ (ε.set i .no) T := by
  obtain ⟨a1, a2, a3, ⟨fs, gs, h1, h2, n, m⟩⟩ := s
  by_cases hi : i < ε.length
  · obtain ⟨o, f, e1, e2, e3⟩ := h1.get (List.getElem?_eq_getElem hi)
    have h1' := RpCs.set (o := o) (c := .no) (f := []) (K := K) (F := F) (H := H) rfl i h1
    have eo : σ.set i o = σ := by
      apply List.ext_getElem?
      intro j
      by_cases e : j = i
      · subst e
        rw [List.getElem?_set_self (by rw [h1.len.1]; exact hi), e1]
      · rw [List.getElem?_set_ne (Ne.symm e)]
    rw [eo] at h1'
    have sl : ∀ b, b ∈ (fs.set i []).flatten → b ∈ fs.flatten := fun b hb => by
      rcases flat_set hb with hb | ⟨j, g, _, hg, hb⟩
      · cases hb
      · exact flat_get hg hb
    rw [List.nodup_append] at n
    obtain ⟨n1, n2, n3⟩ := n
    refine ⟨a1, a2, a3, fs.set i [], gs, h1', h2, ?_, fun b hb => m b ?_⟩
    · rw [List.nodup_append]
      exact ⟨nodup_set (by simp) n1 (fun _ _ _ _ b hb => by cases hb), n2, fun a ha b hb => n3 a (sl a ha) b hb⟩
    · rcases List.mem_append.mp hb with hb | hb
      · exact List.mem_append_left _ (sl b hb)
      · exact List.mem_append_right _ hb
  · rw [List.set_eq_of_length_le (by omega)]
    exact ⟨a1, a2, a3, fs, gs, h1, h2, n, m⟩
/-- a slot's cell is taken out -/
theorem Sep.take (s : Sep K F R H σ ε T) (h : ε[i]? = some c) (hv : σ[i]? = some (some v)) : Sep K F R H σ (ε.set i .no) ((v, c) :: T) := by
  obtain ⟨a1, a2, a3, ⟨fs, gs, h1, h2, n, m⟩⟩ := s
  obtain ⟨o, f, e1, e2, e3⟩ := h1.get h
  rw [hv] at e1
  cases e1
  have hi : i < ε.length := (List.getElem?_eq_some_iff.mp h).1
  have h1' := RpCs.set (o := some v) (c := .no) (f := []) (K := K) (F := F) (H := H) rfl i h1
  have eo : σ.set i (some v) = σ := by
    apply List.ext_getElem?
    intro j
    by_cases e : j = i
    · subst e
      rw [List.getElem?_set_self (by rw [h1.len.1]; exact hi), hv]
    · rw [List.getElem?_set_ne (Ne.symm e)]
  rw [eo] at h1'
  have sl : ∀ b, b ∈ (fs.set i []).flatten → b ∈ fs.flatten ∧ b ∉ f := fun b hb => by
    rcases flat_set hb with hb | ⟨j, g, hj, hg, hb⟩
    · cases hb
    · refine ⟨flat_get hg hb, fun z => hj ?_⟩
      exact nodup_apart (List.nodup_append.mp n).1 hg e2 hb z
  rw [List.nodup_append] at n
  obtain ⟨n1, n2, n3⟩ := n
  refine ⟨a1, a2, a3, fs.set i [], f :: gs, h1', ⟨_, _, _, _, rfl, rfl, e3, h2⟩, ?_, fun b hb => m b ?_⟩
  · rw [List.flatten_cons, List.nodup_append, List.nodup_append]
    refine ⟨nodup_set (by simp) n1 (fun _ _ _ _ b hb => by cases hb), ⟨nodup_get n1 e2, n2, fun a ha b hb => n3 a (flat_get e2 ha) b hb⟩, fun a ha b hb z => ?_⟩
    subst z
    obtain ⟨k1, k2⟩ := sl a ha
    rcases List.mem_append.mp hb with hb | hb
    · exact k2 hb
    · exact n3 a k1 a hb rfl
  · simp only [List.flatten_cons, List.mem_append] at hb ⊢
    rcases hb with hb | hb | hb
    · exact .inl (sl b hb).1
    · exact .inl (flat_get e2 hb)
    · exact .inr hb
/-- a temporary is stored to a slot (the slot's value is v from then on) -/
theorem Sep.store (s : Sep K F R H σ ε ((v, c) :: T)) (i : Nat) : Sep K F R H (σ.set i (some v)) (ε.set i c) T := by
  obtain ⟨a1, a2, a3, ⟨fs, gs, h1, ⟨o, r, f, fr, e1, e2, h2, h3⟩, n, m⟩⟩ := s
  subst e2
  obtain ⟨rfl, rfl⟩ := List.cons.inj e1
  have h1' := RpCs.set h2 i h1
  rw [List.flatten_cons, List.nodup_append, List.nodup_append] at n
  obtain ⟨n1, ⟨n2, n4, n5⟩, n3⟩ := n
  refine ⟨a1, a2, a3, fs.set i f, fr, h1', h3, ?_, fun b hb => m b ?_⟩
  · rw [List.nodup_append]
    refine ⟨nodup_set n2 n1 fun j g hj hg b hb hg2 => n3 b (flat_get hg hg2) b (List.mem_append_left _ hb) rfl, n4, fun a ha b hb z => ?_⟩
    subst z
    rcases flat_set ha with ha | ⟨j, g, hj, hg, ha⟩
    · exact n5 a ha a hb rfl
    · exact n3 a (flat_get hg ha) a (List.mem_append_right _ hb) rfl
  · simp only [List.flatten_cons, List.mem_append] at hb ⊢
    rcases hb with hb | hb
    · rcases flat_set hb with hb | ⟨j, g, hj, hg, hb⟩
      · exact .inr (.inl hb)
      · exact .inl (flat_get hg hb)
    · exact .inr (.inr hb)
theorem set_same {α : Type} {xs : List α} {i : Nat} {x : α} (h : xs[i]? = some x) : xs.set i x = xs := by
  apply List.ext_getElem?
  intro j
  by_cases e : j = i
  · subst e
    rw [List.getElem?_set_self (List.getElem?_eq_some_iff.mp h).1, h]
  · rw [List.getElem?_set_ne (Ne.symm e)]
/-- .. where the slot's value is v already -/
theorem Sep.put (s : Sep K F R H σ ε ((v, c) :: T)) (hv : σ[i]? = some (some v)) : Sep K F R H σ (ε.set i c) T := by
  have := s.store i
  rwa [set_same hv] at this
theorem Sep.copy (s : Sep K F R H σ ε T) (h : ε[i]? = some (.sh d)) (hv : σ[i]? = some (some v)) : Sep K F R H σ ε ((v, .sh d) :: T) := by
  obtain ⟨w, e, r⟩ := s.sh h
  rw [hv] at e
  cases e
  exact s.addSh r
theorem Sep.repT (s : Sep K F R H σ ε ((v, .sh d) :: T)) : Rep K.1 F v d := by
  obtain ⟨a1, a2, a3, ⟨fs, gs, h1, ⟨o, r, f, fr, e1, e2, ⟨_, w, e3, h2⟩, h3⟩, n, m⟩⟩ := s
  obtain ⟨rfl, rfl⟩ := List.cons.inj e1
  cases e3
  exact h2
theorem Sep.headT (s : Sep K F R H σ ε ((v, c) :: T)) : ∃ f, RpC K F H (some v) c f ∧ ∀ b ∈ f, F b = none ∧ R b = none := by
  obtain ⟨a1, a2, a3, ⟨fs, gs, h1, ⟨o, r, f, fr, e1, e2, h2, h3⟩, n, m⟩⟩ := s
  obtain ⟨rfl, rfl⟩ := List.cons.inj e1
  exact ⟨f, h2, fun b hb => m b (by rw [e2]; simp [hb])⟩
/-- a temporary waits aside while all else goes on -/
theorem Sep.hide (s : Sep K F R H σ ε ((v, c) :: T)) : ∃ R1, Same R R1 ∧ Sep K F R1 H σ ε T ∧ ∀ F' H' σ' ε' T', Same F F' → Sep K F' R1 H' σ' ε' T' → Sep K F' R H' σ' ε' ((v, c) :: T') := by
  obtain ⟨a1, a2, a3, ⟨fs, gs, h1, ⟨o, r, f, fr, e1, e2, h2, h3⟩, n, m⟩⟩ := s
  subst e2
  obtain ⟨rfl, rfl⟩ := List.cons.inj e1
  let R1 : Hp := fun b => if b ∈ f then H b else R b
  have i1 : ∀ {b}, b ∈ f → R1 b = H b := fun {b} hb => if_pos hb
  have i2 : ∀ {b}, b ∉ f → R1 b = R b := fun {b} hb => if_neg hb
  have fin : ∀ b, b ∈ f → F b = none ∧ R b = none := fun b hb => m b (by simp [hb])
  have lv := RpC.live h2
  have sR : Same R R1 := fun b u e => by
    rw [i2 fun z => by rw [(fin b z).2] at e; cases e]; exact e
  rw [List.flatten_cons, List.nodup_append, List.nodup_append] at n
  obtain ⟨n1, ⟨n2, n4, n5⟩, n3⟩ := n
  refine ⟨R1, sR, ⟨a1, fun b u e => ?_, fun b hb => ?_, fs, fr, h1, h3, ?_, fun b hb => ?_⟩, fun F' H' σ' ε' T' fm s' => ?_⟩
  · by_cases q : b ∈ f
    · rw [i1 q] at e; exact e
    · rw [i2 q] at e; exact a2 b u e
  · rw [i2 fun z => hb (fin b z).1]; exact a3 b hb
  · rw [List.nodup_append]
    exact ⟨n1, n4, fun a ha b hb => n3 a ha b (List.mem_append_right _ hb)⟩
  · have q : b ∉ f := fun z => by
      rcases List.mem_append.mp hb with hb | hb
      · exact n3 b hb b (List.mem_append_left _ z) rfl
      · exact n5 b z b hb rfl
    rw [i2 q]
    refine m b ?_
    simp only [List.flatten_cons, List.mem_append] at hb ⊢
    rcases hb with hb | hb
    · exact .inl hb
    · exact .inr (.inr hb)
  · obtain ⟨b1, b2, b3, ⟨fs', gs', k1, k2, n', m'⟩⟩ := s'
    have live' : ∀ b, b ∈ f → R1 b ≠ none := fun b hb => by rw [i1 hb]; exact lv b hb
    have heq : ∀ b ∈ f, H' b = H b := fun b hb => by
      cases q : H b with
      | none => exact absurd q (lv b hb)
      | some u => exact b2 b u ((i1 hb).trans q)
    have fF : ∀ b ∈ f, F' b = none := fun b hb => by
      by_cases q : F' b = none
      · exact q
      · exact absurd (b3 b q) (live' b hb)
    have nf : ∀ b, b ∈ fs'.flatten ++ gs'.flatten → b ∉ f := fun b hb z => live' b z (m' b hb).2
    refine ⟨b1, fun b u e => b2 b u (sR b u e), fun b hb => ?_, fs', f :: gs', k1, ⟨_, _, _, _, rfl, rfl, RpC.frame fm heq h2, k2⟩, ?_, fun b hb => ?_⟩
    · have z := b3 b hb
      cases q : R b with
      | none => rfl
      | some u => rw [sR b u q] at z; cases z
    · rw [List.flatten_cons]
      rw [List.nodup_append] at n' ⊢
      rw [List.nodup_append]
      refine ⟨n'.1, ⟨n2, n'.2.1, fun a ha b hb z => nf b (List.mem_append_right _ hb) (z ▸ ha)⟩, fun a ha b hb z => ?_⟩
      rcases List.mem_append.mp hb with hb | hb
      · exact nf a (List.mem_append_left _ ha) (z ▸ hb)
      · exact n'.2.2 a ha b hb z
    · simp only [List.flatten_cons, List.mem_append] at hb
      rcases hb with hb | hb | hb
      · obtain ⟨z1, z2⟩ := m' b (List.mem_append_left _ hb)
        rw [i2 (nf b (List.mem_append_left _ hb))] at z2
        exact ⟨z1, z2⟩
      · exact ⟨fF b hb, (fin b hb).2⟩
      · obtain ⟨z1, z2⟩ := m' b (List.mem_append_right _ hb)
        rw [i2 (nf b (List.mem_append_right _ hb))] at z2
        exact ⟨z1, z2⟩
/-- the slots wait aside: the temporaries are a frame of their own -/
theorem Sep.enter (s : Sep K F R H σ ε T) : ∃ R1, Sep K F R1 H (T.map fun p => some p.1) (T.map (·.2)) [] ∧ ∀ F' H' cs' T', Same F F' → Sep K F' R1 H' (T.map fun p => some p.1) cs' T' → Sep K F' R H' σ ε ((T.map (·.1)).zip cs' ++ T') := by
  obtain ⟨a1, a2, a3, ⟨fs, gs, h1, h2, n, m⟩⟩ := s
  let f := fs.flatten
  let R1 : Hp := fun b => if b ∈ f then H b else R b
  have i1 : ∀ {b}, b ∈ f → R1 b = H b := fun {b} hb => if_pos hb
  have i2 : ∀ {b}, b ∉ f → R1 b = R b := fun {b} hb => if_neg hb
  have fin : ∀ b, b ∈ f → F b = none ∧ R b = none := fun b hb => m b (List.mem_append_left _ hb)
  have lv := RpCs.live h1
  have sR : Same R R1 := fun b u e => by
    rw [i2 fun z => by rw [(fin b z).2] at e; cases e]; exact e
  rw [List.nodup_append] at n
  obtain ⟨n1, n2, n3⟩ := n
  refine ⟨R1, ⟨a1, fun b u e => ?_, fun b hb => ?_, gs, [], h2, ⟨rfl, rfl⟩, by simpa using n2, fun b hb => ?_⟩, fun F' H' cs' T' fm s' => ?_⟩
  · by_cases q : b ∈ f
    · rw [i1 q] at e; exact e
    · rw [i2 q] at e; exact a2 b u e
  · rw [i2 fun z => hb (fin b z).1]; exact a3 b hb
  · have hb : b ∈ gs.flatten := by simpa using hb
    rw [i2 fun z => n3 b z b hb rfl]
    exact m b (List.mem_append_right _ hb)
  · obtain ⟨b1, b2, b3, ⟨fs', gs', k1, k2, n', m'⟩⟩ := s'
    have live' : ∀ b, b ∈ f → R1 b ≠ none := fun b hb => by rw [i1 hb]; exact lv b hb
    have heq : ∀ b ∈ fs.flatten, H' b = H b := fun b hb => by
      cases q : H b with
      | none => exact absurd q (lv b hb)
      | some u => exact b2 b u ((i1 hb).trans q)
    have fF : ∀ b ∈ f, F' b = none := fun b hb => by
      by_cases q : F' b = none
      · exact q
      · exact absurd (b3 b q) (live' b hb)
    have nf : ∀ b, b ∈ fs'.flatten ++ gs'.flatten → b ∉ f := fun b hb z => live' b z (m' b hb).2
    have lc : (T.map (·.1)).length = cs'.length := by
      have := k1.len.1
      simpa using this
    have ez1 : ((T.map (·.1)).zip cs').map (fun p => some p.1) = T.map fun p => some p.1 := by
      rw [show (fun p : V × C => some p.1) = (fun x => some x) ∘ (fun p : V × C => p.1) from rfl, ← List.map_map, List.map_fst_zip (by omega), List.map_map]
    have ez2 : ((T.map (·.1)).zip cs').map (·.2) = cs' := List.map_snd_zip (by omega)
    refine ⟨b1, fun b u e => b2 b u (sR b u e), fun b hb => ?_, fs, fs' ++ gs', RpCs.frame fm heq h1, ?_, ?_, fun b hb => ?_⟩
    · have z := b3 b hb
      cases q : R b with
      | none => rfl
      | some u => rw [sR b u q] at z; cases z
    · rw [List.map_append, List.map_append, ez1, ez2]
      exact k1.append k2
    · rw [List.flatten_append, List.nodup_append]
      exact ⟨n1, n', fun a ha b hb z => nf b hb (z ▸ ha)⟩
    · rw [List.flatten_append] at hb
      rcases List.mem_append.mp hb with hb | hb
      · exact ⟨fF b hb, (fin b hb).2⟩
      · obtain ⟨z1, z2⟩ := m' b hb
        rw [i2 (nf b hb)] at z2
        exact ⟨z1, z2⟩
end
end L2.M
namespace L2.M
open PySem PySem.Spec PyProof.Rows
def cD : C → Option D
  | .sh d => some d
  | .ls ds => some (.list ds)
  | _ => none
/-- a result of an operation, read where it came to -/
def RepC (K : PySem.W.Frag) (F H : Hp) (v : V) : C → Prop
  | .sh d => Rep K F v d
  | .ls ds => ∃ a vs, v = .ref a ∧ H a = some (.lst vs) ∧ F a = none ∧ Reps K F vs ds
  | _ => False
/-- what a pure operation leaves -/
structure Grow (K : PySem.W.Frag) (F H F' H' : Hp) (v : V) (c : C) : Prop where
  fm : Same F F'
  hm : Same H H'
  sub : Same F' H'
  ff : ∀ b, F b = none → F' b ≠ none → H b = none
  rep : RepC K F' H' v c
  new : ∀ (ds : List D) (a : Addr), c = .ls ds → v = .ref a → H a = none
/-- a heap that grew -/
structure Grw (F H F' H' : Hp) : Prop where
  fm : Same F F'
  hm : Same H H'
  sub : Same F' H'
  ff : ∀ b, F b = none → F' b ≠ none → H b = none
theorem Grow.grw {K : PySem.W.Frag} {F H F' H' : Hp} {v : V} {c : C} (g : Grow K F H F' H' v c) : Grw F H F' H' := ⟨g.fm, g.hm, g.sub, g.ff⟩
theorem Grw.refl {F H : Hp} (s : Same F H) : Grw F H F H := ⟨Same.refl F, Same.refl H, s, fun b h h' => absurd h h'⟩
theorem Grw.laid {F H : Hp} (s : Same F H) {p : Addr} {u : HO} (hp : H p = none) : Grw F H (upd F p u) (upd H p u) := by
  have fp : F p = none := s.free hp
  refine ⟨fun b x e => by rw [upd_ne (ne_of_none e fp)]; exact e, fun b x e => by rw [upd_ne (ne_of_none e hp)]; exact e, fun b x e => ?_, fun b h h' => ?_⟩
  · by_cases hb : b = p
    · subst hb; rw [upd_same] at e ⊢; exact e
    · rw [upd_ne hb] at e ⊢; exact s b x e
  · by_cases hb : b = p
    · subst hb; exact hp
    · rw [upd_ne hb] at h'; exact absurd h h'
theorem Same.ne {F F' : Hp} {a : Addr} (e : Same F F') (h : F a ≠ none) : F' a ≠ none := by
  cases q : F a with
  | none => exact absurd q h
  | some o => rw [e a o q]; exact fun z => nomatch z
section
variable {K : Ek} {F R H F' R' H' : Hp} {σ σ' : St} {ε ε' : Cs} {T T' T1 : Tms} {v w : V} {c c' : C} {i : Nat} {d : D}
theorem Sep.grow (s : Sep K F R H σ ε T) (g : Grw F H F' H') : Sep K F' R H' σ ε T := by
  obtain ⟨a1, a2, a3, ⟨fs, gs, h1, h2, n, m⟩⟩ := s
  have l1 := RpCs.live h1
  have l2 := RpCs.live h2
  have eq : ∀ b, H b ≠ none → H' b = H b := fun b hb => by
    cases q : H b with
    | none => exact absurd q hb
    | some u => exact g.hm b u q
  refine ⟨g.sub, a2.trans g.hm, fun b hb => ?_, fs, gs, RpCs.frame g.fm (fun b hb => eq b (l1 b hb)) h1, RpCs.frame g.fm (fun b hb => eq b (l2 b hb)) h2, n, fun b hb => ⟨?_, (m b hb).2⟩⟩
  · by_cases q : F b = none
    · exact a2.free (g.ff b q hb)
    · exact a3 b q
  · by_cases q : F' b = none
    · exact q
    · have z := g.ff b (m b hb).1 q
      rcases List.mem_append.mp hb with hb | hb
      · exact absurd z (l1 b hb)
      · exact absurd z (l2 b hb)
/-- what some temporaries hold, and what they may become -/
theorem Sep.opens (s : Sep K F R H σ ε (T1 ++ T)) : ∃ gs, RpCs K F H (T1.map fun p => some p.1) (T1.map (·.2)) gs ∧ gs.flatten.Nodup ∧ (∀ b ∈ gs.flatten, F b = none) ∧
    ∀ v c H' f, RpC K F H' (some v) c f → f.Nodup → (∀ b ∈ f, b ∈ gs.flatten ∨ H b = none) → (∀ b u, b ∉ gs.flatten → H b = some u → H' b = some u) → Sep K F R H' σ ε ((v, c) :: T) := by
  obtain ⟨a1, a2, a3, ⟨fs, gs, h1, h2, n, m⟩⟩ := s
  have split : ∀ (T1 : Tms) {gs : List (List Addr)}, RpCs K F H ((T1 ++ T).map fun p => some p.1) ((T1 ++ T).map (·.2)) gs → ∃ g1 g2, gs = g1 ++ g2 ∧ RpCs K F H (T1.map fun p => some p.1) (T1.map (·.2)) g1 ∧ RpCs K F H (T.map fun p => some p.1) (T.map (·.2)) g2 := by
    intro T1
    induction T1 with
    | nil => intro gs h; exact ⟨[], gs, rfl, ⟨rfl, rfl⟩, h⟩
    | cons x T1 ih =>
      intro gs h
      obtain ⟨o, r, f, fr, e1, e2, h3, h4⟩ := h
      obtain ⟨rfl, rfl⟩ := List.cons.inj e1
      obtain ⟨g1, g2, e3, h5, h6⟩ := ih h4
      exact ⟨f :: g1, g2, by rw [e2, e3]; rfl, ⟨_, _, _, _, rfl, rfl, h3, h5⟩, h6⟩
  obtain ⟨g1, g2, rfl, h3, h4⟩ := split T1 h2
  rw [List.flatten_append] at n m
  rw [List.nodup_append, List.nodup_append] at n
  obtain ⟨n1, ⟨n2, n4, n5⟩, n3⟩ := n
  refine ⟨g1, h3, n2, fun b hb => (m b (by simp [List.mem_append, hb])).1, fun v c H' f k1 k2 k3 k4 => ?_⟩
  have l1 := RpCs.live h1
  have l4 := RpCs.live h4
  have eq1 : ∀ b ∈ fs.flatten, H' b = H b := fun b hb => by
    cases q : H b with
    | none => exact absurd q (l1 b hb)
    | some u => exact k4 b u (fun z => n3 b hb b (List.mem_append_left _ z) rfl) q
  have eq2 : ∀ b ∈ g2.flatten, H' b = H b := fun b hb => by
    cases q : H b with
    | none => exact absurd q (l4 b hb)
    | some u => exact k4 b u (fun z => n5 b z b hb rfl) q
  have fin : ∀ b ∈ g1.flatten, F b = none ∧ R b = none := fun b hb => m b (by simp [List.mem_append, hb])
  refine ⟨fun b u e => k4 b u (fun z => by rw [(fin b z).1] at e; cases e) (a1 b u e), fun b u e => k4 b u (fun z => by rw [(fin b z).2] at e; cases e) (a2 b u e), a3, fs, f :: g2, RpCs.frame (Same.refl F) eq1 h1,
    ⟨_, _, _, _, rfl, rfl, k1, RpCs.frame (Same.refl F) eq2 h4⟩, ?_, fun b hb => ?_⟩
  · rw [List.flatten_cons, List.nodup_append, List.nodup_append]
    refine ⟨n1, ⟨k2, n4, fun a ha b hb z => ?_⟩, fun a ha b hb z => ?_⟩
    · subst z
      rcases k3 a ha with q | q
      · exact n5 a q a hb rfl
      · exact l4 a hb q
    · subst z
      rcases List.mem_append.mp hb with hb | hb
      · rcases k3 a hb with q | q
        · exact n3 a ha a (List.mem_append_left _ q) rfl
        · exact l1 a ha q
      · exact n3 a ha a (List.mem_append_right _ hb) rfl
  · simp only [List.flatten_cons, List.mem_append] at hb
    rcases hb with hb | hb | hb
    · exact m b (List.mem_append_left _ hb)
    · rcases k3 b hb with q | q
      · exact fin b q
      · exact ⟨a1.free q, a2.free q⟩
    · exact m b (List.mem_append_right _ (List.mem_append_right _ hb))
/-- some temporaries become one thing -/
theorem Sep.change (s : Sep K F R H σ ε (T1 ++ T)) (k : ∀ gs, RpCs K F H (T1.map fun p => some p.1) (T1.map (·.2)) gs → gs.flatten.Nodup → (∀ b ∈ gs.flatten, F b = none) → ∃ f, RpC K F H' (some v) c f ∧ f.Nodup ∧ (∀ b ∈ f, b ∈ gs.flatten ∨ H b = none) ∧ ∀ b u, b ∉ gs.flatten → H b = some u → H' b = some u) :
    Sep K F R H' σ ε ((v, c) :: T) := by
  obtain ⟨gs, g1, g2, g3, g4⟩ := s.opens
  obtain ⟨f, k1, k2, k3, k4⟩ := k gs g1 g2 g3
  exact g4 _ _ _ f k1 k2 k3 k4
/-- a new list -/
theorem Sep.newL (s : Sep K F R H σ ε T) {p : Addr} {vs : List V} {ds : List D} (hp : H p = none) (r : Reps K.1 F vs ds) : Sep K F R (upd H p (.lst vs)) σ ε ((.ref p, .ls ds) :: T) :=
  Sep.change (T1 := []) s fun gs h n _ => ⟨[p], ⟨p, vs, rfl, rfl, upd_same, r⟩, by simp, fun b hb => .inr (by rw [List.mem_singleton.mp hb]; exact hp), fun b u _ e => by rw [upd_ne (ne_of_none e hp)]; exact e⟩
theorem Sep.hd {a : Addr} {ds : List D} (s : Sep K F R H σ ε ((.ref a, .ls ds) :: T)) : ∃ vs, H a = some (.lst vs) ∧ Reps K.1 F vs ds ∧ F a = none := by
  obtain ⟨f, ⟨b, vs, e1, e2, e3, e4⟩, m⟩ := s.headT
  cases e1
  exact ⟨vs, e3, e4, (m a (by rw [e2]; exact List.mem_cons_self)).1⟩
theorem Sep.hdL {ds : List D} (s : Sep K F R H σ ε ((v, .ls ds) :: T)) : ∃ a vs, v = .ref a ∧ H a = some (.lst vs) ∧ F a = none ∧ Reps K.1 F vs ds := by
  obtain ⟨f, ⟨b, vs, e1, e2, e3, e4⟩, m⟩ := s.headT
  cases e1
  exact ⟨b, vs, rfl, e3, (m b (by rw [e2]; exact List.mem_cons_self)).1, e4⟩
/-- an own list rewritten -/
theorem Sep.wr {a : Addr} {ds es : List D} {ws : List V} (s : Sep K F R H σ ε ((.ref a, .ls ds) :: T)) (r : Reps K.1 F ws es) : Sep K F R (upd H a (.lst ws)) σ ε ((.ref a, .ls es) :: T) :=
  Sep.change (T1 := [(.ref a, .ls ds)]) s fun gs h n _ => by
    obtain ⟨o, r0, f, fr, e1, e2, ⟨b, vs, e3, e4, e5, e6⟩, h4⟩ := h
    obtain ⟨rfl, rfl⟩ := List.cons.inj e1
    cases e3
    have ha : a ∈ gs.flatten := by rw [e2, e4]; simp
    exact ⟨[a], ⟨a, ws, rfl, rfl, upd_same, r⟩, by simp, fun b hb => .inl (by rw [List.mem_singleton.mp hb]; exact ha), fun b u hb e => by rw [upd_ne (by rintro rfl; exact hb ha)]; exact e⟩
/-- what is held becomes frozen -/
theorem Sep.freeze (s : Sep K F R H σ ε ((v, c) :: T)) (h : cD c = some d) : ∃ F', Same F F' ∧ Rep K.1 F' v d ∧ Sep K F' R H σ ε T := by
  obtain ⟨a1, a2, a3, ⟨fs, gs, h1, ⟨o, r, f, fr, e1, e2, h2, h3⟩, n, m⟩⟩ := s
  subst e2
  obtain ⟨rfl, rfl⟩ := List.cons.inj e1
  let F' : Hp := fun b => if b ∈ f then H b else F b
  have i1 : ∀ {b}, b ∈ f → F' b = H b := fun {b} hb => if_pos hb
  have i2 : ∀ {b}, b ∉ f → F' b = F b := fun {b} hb => if_neg hb
  have fin : ∀ b, b ∈ f → F b = none ∧ R b = none := fun b hb => m b (by simp [hb])
  have fm : Same F F' := fun b u e => by
    rw [i2 fun z => by rw [(fin b z).1] at e; cases e]; exact e
  rw [List.flatten_cons, List.nodup_append, List.nodup_append] at n
  obtain ⟨n1, ⟨n2, n4, n5⟩, n3⟩ := n
  refine ⟨F', fm, ?_, ⟨fun b u e => ?_, a2, fun b hb => ?_, fs, fr, RpCs.frame fm (fun _ _ => rfl) h1, RpCs.frame fm (fun _ _ => rfl) h3, ?_, fun b hb => ?_⟩⟩
  · cases c with
    | no => cases h
    | sh d' =>
      cases h
      obtain ⟨_, w, e, q⟩ := h2
      cases e
      exact Rep.mono fm _ _ q
    | ls ds =>
      cases h
      obtain ⟨a, vs, e, e3, e4, e5⟩ := h2
      cases e
      exact ⟨a, vs, rfl, .inl (.inl ((i1 (by rw [e3]; exact List.mem_cons_self)).trans e4)), Reps.mono fm _ _ e5⟩
    | dc k kds => cases h
    | ob k cs => cases h
    | px _ _ _ _ => cases h
    | fn _ => cases h
    | fd _ => cases h
  · by_cases q : b ∈ f
    · rw [i1 q] at e; exact e
    · rw [i2 q] at e; exact a1 b u e
  · by_cases q : b ∈ f
    · exact (fin b q).2
    · rw [i2 q] at hb; exact a3 b hb
  · rw [List.nodup_append]
    exact ⟨n1, n4, fun a ha b hb => n3 a ha b (List.mem_append_right _ hb)⟩
  · have q : b ∉ f := fun z => by
      rcases List.mem_append.mp hb with hb | hb
      · exact n3 b hb b (List.mem_append_left _ z) rfl
      · exact n5 b z b hb rfl
    rw [i2 q]
    refine m b ?_
    simp only [List.flatten_cons, List.mem_append] at hb ⊢
    rcases hb with hb | hb
    · exact .inl hb
    · exact .inr (.inr hb)
/-- a slot's cell frozen -/
theorem Sep.freezeAt (s : Sep K F R H σ ε T) (h : ε[i]? = some c) (hd : cD c = some d) : ∃ F' v, Same F F' ∧ σ[i]? = some (some v) ∧ Rep K.1 F' v d ∧ Sep K F' R H σ (ε.set i (.sh d)) T := by
  obtain ⟨v, hv⟩ := s.val h (by rintro rfl; cases hd)
  obtain ⟨F', fm, r, s'⟩ := (s.take h hv).freeze hd
  have := (s'.addSh r).put hv
  rw [List.set_set] at this
  exact ⟨F', v, fm, hv, r, this⟩
/-- a pure operation's result is held -/
theorem Sep.res (s : Sep K F R H σ ε T) (g : Grow K.1 F H F' H' v c) : Sep K F' R H' σ ε ((v, c) :: T) := by
  have s' := s.grow g.grw
  cases c with
  | no => exact g.rep.elim
  | sh d => exact s'.addSh g.rep
  | ls ds =>
    obtain ⟨a, vs, rfl, h1, h2, h3⟩ := g.rep
    have hn := g.new ds a rfl rfl
    -- the rest does not hold a
    obtain ⟨a1, a2, a3, ⟨fs, gs, k1, k2, n, m⟩⟩ := s
    obtain ⟨b1, b2, b3, ⟨fs', gs', k1', k2', n', m'⟩⟩ := s'
    have eq : ∀ b, H b ≠ none → H' b = H b := fun b hb => by
      cases q : H b with
      | none => exact absurd q hb
      | some u => exact g.hm b u q
    have q1 := RpCs.frame g.fm (fun b hb => eq b (RpCs.live k1 b hb)) k1
    have q2 := RpCs.frame g.fm (fun b hb => eq b (RpCs.live k2 b hb)) k2
    have na1 : a ∉ fs.flatten := fun z => RpCs.live k1 a z hn
    have na2 : a ∉ gs.flatten := fun z => RpCs.live k2 a z hn
    have fF : ∀ b, b ∈ fs.flatten ++ gs.flatten → F' b = none := fun b hb => by
      by_cases q : F' b = none
      · exact q
      · have z := g.ff b (m b hb).1 q
        rcases List.mem_append.mp hb with hb | hb
        · exact absurd z (RpCs.live k1 b hb)
        · exact absurd z (RpCs.live k2 b hb)
    refine ⟨b1, b2, b3, fs, [a] :: gs, q1, ⟨_, _, _, _, rfl, rfl, ⟨a, vs, rfl, rfl, h1, h3⟩, q2⟩, ?_, fun b hb => ?_⟩
    · rw [List.nodup_append] at n
      rw [List.flatten_cons, List.nodup_append, List.nodup_append]
      refine ⟨n.1, ⟨by simp, n.2.1, fun x hx y hy z => na2 (by rw [← List.mem_singleton.mp hx, z]; exact hy)⟩, fun x hx y hy z => ?_⟩
      subst z
      rcases List.mem_append.mp hy with hy | hy
      · exact na1 (by rw [← List.mem_singleton.mp hy]; exact hx)
      · exact n.2.2 x hx x hy rfl
    · simp only [List.flatten_cons, List.mem_append, List.mem_singleton] at hb
      rcases hb with hb | rfl | hb
      · exact ⟨fF b (List.mem_append_left _ hb), (m b (List.mem_append_left _ hb)).2⟩
      · exact ⟨h2, a2.free hn⟩
      · exact ⟨fF b (List.mem_append_right _ hb), (m b (List.mem_append_right _ hb)).2⟩
  | dc k kds => exact g.rep.elim
  | ob k cs => exact g.rep.elim
  | px _ _ _ _ => exact g.rep.elim
  | fn _ => exact g.rep.elim
  | fd _ => exact g.rep.elim
end
abbrev EM := Cs → Option (C × Cs)
def tE (K : Ek) (m : EM) : TE := fun σ H Q => ∃ F R ε c ε', Sep K F R H σ ε [] ∧ m ε = some (c, ε') ∧ ∀ v F' H', Same F F' → Sep K F' R H' σ ε' [(v, c)] → Q v H'
/-- an operand: the object that a slot names (read when the operation is done), or a value of its own -/
inductive Opd where
  | pl (i : Nat) | tm (c : C)
inductive OpV (σ : St) : List V → List Opd → Prop where
  | nil : OpV σ [] []
  | pl {i : Nat} {v : V} {vs : List V} {os : List Opd} : σ[i]? = some (some v) → OpV σ vs os → OpV σ (v :: vs) (.pl i :: os)
  | tm {c : C} {v : V} {vs : List V} {os : List Opd} : OpV σ vs os → OpV σ (v :: vs) (.tm c :: os)
theorem OpV.len {σ : St} {vs : List V} {os : List Opd} (h : OpV σ vs os) : vs.length = os.length := by
  induction h with
  | nil => rfl
  | pl _ _ ih => simp [ih]
  | tm _ ih => simp [ih]
def tmO : List Opd → List V → Tms
  | .tm c :: os, v :: vs => (v, c) :: tmO os vs
  | .pl _ :: os, _ :: vs => tmO os vs
  | _, _ => []
abbrev OM := Cs → Option (Opd × Cs)
abbrev AM := Cs → Option (List Opd × Cs)
def tO (K : Ek) (m : OM) : TE := fun σ H Q => ∃ F R ε o ε', Sep K F R H σ ε [] ∧ m ε = some (o, ε') ∧ ∀ v F' H', Same F F' → OpV σ [v] [o] → Sep K F' R H' σ ε' (tmO [o] [v]) → Q v H'
def tA (K : Ek) (m : AM) : TA := fun σ H Q => ∃ F R ε os ε', Sep K F R H σ ε [] ∧ m ε = some (os, ε') ∧ ∀ vs F' H', Same F F' → OpV σ vs os → Sep K F' R H' σ ε' (tmO os vs) → Q vs H'
def mNil : AM := fun ε => some ([], ε)
def mCons (m : OM) (r : AM) : AM := fun ε => do
  let (o, ε1) ← m ε
  let (os, ε2) ← r ε1
  some (o :: os, ε2)
theorem tA_nil {K : Ek} {σ : St} {H : Hp} {Q : List V → Hp → Prop} (h : tA K mNil σ H Q) : tNil σ H Q := by
  obtain ⟨F, R, ε, os, ε', o, e, q⟩ := h
  cases e
  exact q [] F H (Same.refl F) .nil o
theorem tA_cons {K : Ek} {m : OM} {r : AM} {σ : St} {H : Hp} {Q : List V → Hp → Prop} (h : tA K (mCons m r) σ H Q) : tCons (tO K m) (tA K r) σ H Q := by
  obtain ⟨F, R, ε, os, ε', o, e, q⟩ := h
  unfold mCons at e
  cases e1 : m ε with
  | none => rw [e1] at e; cases e
  | some p =>
    obtain ⟨o1, ε1⟩ := p
    rw [e1] at e
    cases e2 : r ε1 with
    | none => simp [e2] at e
    | some p2 =>
      obtain ⟨os2, ε2⟩ := p2
      simp [e2] at e
      obtain ⟨rfl, rfl⟩ := e
      refine ⟨F, R, ε, o1, ε1, o, e1, fun v F1 H1 fm1 v1 s1 => ?_⟩
      cases v1 with
      | pl hv _ => exact ⟨F1, R, ε1, os2, ε2, s1, e2, fun vs F2 H2 fm2 v2 s2 => q (v :: vs) F2 H2 (fm1.trans fm2) (.pl hv v2) s2⟩
      | tm _ =>
        obtain ⟨R1, _, s1', back⟩ := s1.hide
        exact ⟨F1, R1, ε1, os2, ε2, s1', e2, fun vs F2 H2 fm2 v2 s2 => q (v :: vs) F2 H2 (fm1.trans fm2) (.tm v2) (back F2 H2 σ ε2 _ fm2 s2)⟩
def bor (ε : Cs) : Opd → Option D
  | .pl i => match ε[i]? with
    | some (.sh d) => some d
    | some (.ls ds) => some (.list ds)
    | _ => none
  | .tm (.sh d) => some d
  | .tm (.ls ds) => some (.list ds)
  | .tm _ => none
def bors (ε : Cs) : List Opd → Option (List D)
  | [] => some []
  | o :: os => do
    let d ← bor ε o
    let ds ← bors ε os
    some (d :: ds)
def RepB (K : PySem.W.Frag) (F H : Hp) (v : V) (d : D) : Prop := Rep K F v d ∨ ∃ a ws ds, v = .ref a ∧ d = .list ds ∧ H a = some (.lst ws) ∧ Reps K F ws ds
inductive RepBs (K : PySem.W.Frag) (F H : Hp) : List V → List D → Prop where
  | nil : RepBs K F H [] []
  | cons {v : V} {d : D} {vs : List V} {ds : List D} : RepB K F H v d → RepBs K F H vs ds → RepBs K F H (v :: vs) (d :: ds)
section
variable {K : Ek} {F R H : Hp} {σ : St} {ε : Cs} {T : Tms}
theorem Sep.repB_pl {i : Nat} {d : D} {v : V} (s : Sep K F R H σ ε T) (hv : σ[i]? = some (some v)) (e1 : bor ε (.pl i) = some d) : RepB K.1 F H v d := by
  unfold bor at e1
  cases e3 : ε[i]? with
  | none => simp [e3] at e1
  | some c =>
    cases c with
    | no => simp [e3] at e1
    | sh d' =>
      simp [e3] at e1
      subst e1
      obtain ⟨w, h1, h2⟩ := s.sh e3
      rw [hv] at h1
      cases h1
      exact .inl h2
    | ls es =>
      simp [e3] at e1
      subst e1
      obtain ⟨a, ws, h1, h2, h4⟩ := s.lst e3
      rw [hv] at h1
      cases h1
      exact .inr ⟨a, ws, es, rfl, rfl, h2, h4⟩
    | dc _ _ => simp [e3] at e1
    | ob _ _ => simp [e3] at e1
    | px _ _ _ _ => simp [e3] at e1
    | fn _ => simp [e3] at e1
    | fd _ => simp [e3] at e1
theorem Sep.repB_tm {c : C} {d : D} {v : V} (s : Sep K F R H σ ε ((v, c) :: T)) (e1 : bor ε (.tm c) = some d) : RepB K.1 F H v d := by
  cases c with
  | no => cases e1
  | sh d' => cases e1; exact .inl s.repT
  | ls es =>
    cases e1
    obtain ⟨a, vs, rfl, h1, h2, h3⟩ := s.hdL
    exact .inr ⟨a, vs, es, rfl, rfl, h1, h3⟩
  | dc _ _ => cases e1
  | ob _ _ => cases e1
  | px _ _ _ _ => cases e1
  | fn _ => cases e1
  | fd _ => cases e1
theorem bors_ok : ∀ {os : List Opd} {vs : List V} {T : Tms} {ds : List D}, Sep K F R H σ ε (tmO os vs ++ T) → OpV σ vs os → bors ε os = some ds → RepBs K.1 F H vs ds
  | [], vs, T, ds, s, h, e => by
    cases h
    cases e
    exact .nil
  | o :: os, vs, T, ds, s, h, e => by
    unfold bors at e
    cases e1 : bor ε o with
    | none => simp [e1] at e
    | some d =>
      cases e2 : bors ε os with
      | none => simp [e1, e2] at e
      | some ds2 =>
        simp [e1, e2] at e
        subst e
        cases h with
        | pl hv h2 => exact .cons (s.repB_pl hv e1) (bors_ok s h2 e2)
        | tm h2 => exact .cons (s.repB_tm e1) (bors_ok s.drop h2 e2)
end
/-- an operation by its table: f tells its answer, r is what the hand layer asks -/
def FnB (K : PySem.W.Frag) (f : List D → Option C) (r : List V → Hp → VK → Prop) : Prop :=
  ∀ F H vs ds c Q, Same F H → RepBs K F H vs ds → f ds = some c → (∀ v F' H', Grow K F H F' H' v c → Q v H') → r vs H Q
def mOp (f : List D → Option C) (ma : AM) : EM := fun ε => do
  let (os, ε1) ← ma ε
  let ds ← bors ε1 os
  let c ← f ds
  some (c, ε1)
theorem op_sem {K : Ek} {f : List D → Option C} {r : List V → Hp → VK → Prop} (hf : FnB K.1 f r) {ma : AM} {σ : St} {H : Hp} {Q : VK} (h : tE K (mOp f ma) σ H Q) : tA K ma σ H (fun vs H' => r vs H' Q) := by
  obtain ⟨F, R, ε, c, ε', o, e, q⟩ := h
  unfold mOp at e
  cases e1 : ma ε with
  | none => simp [e1] at e
  | some p =>
    obtain ⟨os, ε1⟩ := p
    cases e2 : bors ε1 os with
    | none => simp [e1, e2] at e
    | some ds =>
      cases e3 : f ds with
      | none => simp [e1, e2, e3] at e
      | some c' =>
        simp [e1, e2, e3] at e
        obtain ⟨rfl, rfl⟩ := e
        refine ⟨F, R, ε, os, ε1, o, e1, fun vs F1 H1 fm1 v1 s1 => ?_⟩
        rw [← List.append_nil (tmO os vs)] at s1
        refine hf F1 H1 vs ds c' Q s1.sub (bors_ok s1 v1 e2) e3 fun v F2 H2 g => ?_
        exact q v F2 H2 (fm1.trans g.fm) ((s1.drops _).res g)
end L2.M
namespace L2.M
open PySem PySem.Spec PyProof.Rows
section
variable {X : Cx} {e : Expr} {t t' : TE}
theorem _root_.L2.PE.weak (h : PE X e t) (w : ∀ σ H Q, t' σ H Q → t σ H Q) : PE X e t' := ⟨fun pins s σ H Q I q => h.run pins s σ H Q I (w σ H Q q)⟩
theorem _root_.L2.PT.weak {t t' : TT} (h : PT X e t) (w : ∀ σ H Q, t' σ H Q → t σ H Q) : PT X e t' := ⟨fun pins s σ H Q I q => h.run pins s σ H Q I (w σ H Q q)⟩
theorem _root_.L2.PW.weak {t t' : TT} (h : PW X e t) (w : ∀ σ H Q, t' σ H Q → t σ H Q) : PW X e t' := ⟨fun wh pins s σ H Q I q => h.run wh pins s σ H Q I (w σ H Q q)⟩
theorem _root_.L2.PA.weak {es : List Expr} {t t' : TA} (h : PA X es t) (w : ∀ σ H Q, t' σ H Q → t σ H Q) : PA X es t' := ⟨fun pos pins s σ H Q I q => h.run pos pins s σ H Q I (w σ H Q q)⟩
end
theorem tO_mono {K : Ek} {m : OM} {σ : St} {H : Hp} {Q Q' : VK} (h : tO K m σ H Q) (w : ∀ v H', Q v H' → Q' v H') : tO K m σ H Q' := by
  obtain ⟨F, R, ε, o, ε', a, b, c⟩ := h
  exact ⟨F, R, ε, o, ε', a, b, fun v F' H' fm s r => w _ _ (c v F' H' fm s r)⟩
theorem tA_mono {K : Ek} {m : AM} {σ : St} {H : Hp} {Q Q' : List V → Hp → Prop} (h : tA K m σ H Q) (w : ∀ v H', Q v H' → Q' v H') : tA K m σ H Q' := by
  obtain ⟨F, R, ε, o, ε', a, b, c⟩ := h
  exact ⟨F, R, ε, o, ε', a, b, fun v F' H' fm s r => w _ _ (c v F' H' fm s r)⟩
def mK (d : D) : EM := fun ε => some (.sh d, ε)
theorem tE_k {K : Ek} {d : D} {v : V} (r : ∀ F, Rep K.1 F v d) {σ : St} {H : Hp} {Q : VK} (h : tE K (mK d) σ H Q) : tC v σ H Q := by
  obtain ⟨F, R, ε, c, ε', o, e, q⟩ := h
  cases e
  exact q v F H (Same.refl F) (o.addSh (r F))
section
variable {X : Cx} {pos : Pos} {j : Nat}
theorem me_int {i : Int} : PE X (.Constant (.int i) j pos) (tE X.E (mK (.int i))) := pe_int.weak fun _ _ _ => tE_k (d := .int i) (v := .int i) fun _ => by simp [Rep]
theorem me_str {i : Str} : PE X (.Constant (.str i) j pos) (tE X.E (mK (.str i))) := pe_str.weak fun _ _ _ => tE_k (d := .str i) (v := .str i) fun _ => by simp [Rep]
theorem me_bl {i : Bool} : PE X (.Constant (.bool i) j pos) (tE X.E (mK (.bool i))) := pe_bl.weak fun _ _ _ => tE_k (d := .bool i) (v := .bl i) fun _ => by simp [Rep]
theorem me_non : PE X (.Constant .none j pos) (tE X.E (mK .none)) := pe_non.weak fun _ _ _ => tE_k (d := .none) (v := .non) fun _ => by simp [Rep]
end
def mPl (i : Nat) : OM := fun ε => match ε[i]? with
  | some (.sh _) => some (.pl i, ε)
  | some (.ls _) => some (.pl i, ε)
  | some (.dc _ _) => some (.pl i, ε)
  | some (.ob _ _) => some (.pl i, ε)
  | some (.px _ _ _ _) => some (.pl i, ε)
  | some (.fn _) => some (.pl i, ε)
  | some (.fd _) => some (.pl i, ε)
  | _ => none
theorem mPl_eq {i : Nat} {ε ε' : Cs} {o : Opd} (h : mPl i ε = some (o, ε')) : o = .pl i ∧ ε' = ε ∧ ∃ c, ε[i]? = some c ∧ c ≠ .no := by
  unfold mPl at h
  split at h
  · rename_i hh; cases h; exact ⟨rfl, rfl, _, hh, fun z => nomatch z⟩
  · rename_i hh; cases h; exact ⟨rfl, rfl, _, hh, fun z => nomatch z⟩
  · rename_i hh; cases h; exact ⟨rfl, rfl, _, hh, fun z => nomatch z⟩
  · rename_i hh; cases h; exact ⟨rfl, rfl, _, hh, fun z => nomatch z⟩
  · rename_i hh; cases h; exact ⟨rfl, rfl, _, hh, fun z => nomatch z⟩
  · rename_i hh; cases h; exact ⟨rfl, rfl, _, hh, fun z => nomatch z⟩
  · rename_i hh; cases h; exact ⟨rfl, rfl, _, hh, fun z => nomatch z⟩
  · cases h
theorem mo_name {X : Cx} {i : Nat} {x : Str} {pos : Pos} (h : PE X (.Name x pos) (tVar i)) : PE X (.Name x pos) (tO X.E (mPl i)) := h.weak fun σ H Q q => by
  obtain ⟨F, R, ε, o, ε', s, e, q⟩ := q
  obtain ⟨rfl, rfl, c, hc, hn⟩ := mPl_eq e
  obtain ⟨v, hv⟩ := s.val hc hn
  exact ⟨v, hv, q v F H (Same.refl F) (.pl hv .nil) s⟩
/-- a name as a value: an owned list is frozen -/
def mVar (i : Nat) : EM := fun ε => match ε[i]? with
  | some (.sh d) => some (.sh d, ε)
  | some (.ls ds) => some (.sh (.list ds), ε.set i (.sh (.list ds)))
  | _ => none
theorem Sep.frzVal {K : Ek} {F R H : Hp} {σ : St} {ε : Cs} {i : Nat} {c : C} {d : D} (s : Sep K F R H σ ε []) (h : ε[i]? = some c) (hd : cD c = some d) {Q : VK} (q : ∀ v F' H', Same F F' → Sep K F' R H' σ (ε.set i (.sh d)) [(v, .sh d)] → Q v H') : ∃ v, σ[i]? = some (some v) ∧ Q v H := by
  obtain ⟨F', v, fm, hv, r, s'⟩ := s.freezeAt h hd
  exact ⟨v, hv, q v F' H fm (s'.addSh r)⟩
theorem me_name {X : Cx} {i : Nat} {x : Str} {pos : Pos} (h : PE X (.Name x pos) (tVar i)) : PE X (.Name x pos) (tE X.E (mVar i)) := h.weak fun σ H Q q => by
  obtain ⟨F, R, ε, c, ε', s, e, q⟩ := q
  unfold mVar at e
  split at e
  · rename_i d hd
    cases e
    obtain ⟨v, h1, h2⟩ := s.sh hd
    exact ⟨v, h1, q v F H (Same.refl F) (s.addSh h2)⟩
  · rename_i ds hd
    cases e
    exact s.frzVal hd rfl q
  · cases e
def mTm (m : EM) : OM := fun ε => do
  let (c, ε1) ← m ε
  some (.tm c, ε1)
theorem tO_tm {K : Ek} {m : EM} {σ : St} {H : Hp} {Q : VK} (h : tO K (mTm m) σ H Q) : tE K m σ H Q := by
  obtain ⟨F, R, ε, o, ε', s, e, q⟩ := h
  unfold mTm at e
  cases e1 : m ε with
  | none => simp [e1] at e
  | some p =>
    obtain ⟨c, ε1⟩ := p
    simp [e1] at e
    obtain ⟨rfl, rfl⟩ := e
    exact ⟨F, R, ε, c, ε1, s, e1, fun v F' H' fm p => q v F' H' fm (.tm .nil) p⟩
theorem mo_tm {X : Cx} {e : Expr} {m : EM} (h : PE X e (tE X.E m)) : PE X e (tO X.E (mTm m)) := h.weak fun _ _ _ => tO_tm
def fzO : Opd → Cs → Option (D × Cs)
  | .pl i, ε => match ε[i]? with
    | some (.sh d) => some (d, ε)
    | some (.ls ds) => some (.list ds, ε.set i (.sh (.list ds)))
    | _ => none
  | .tm (.sh d), ε => some (d, ε)
  | .tm (.ls ds), ε => some (.list ds, ε)
  | .tm _, _ => none
def fzs : List Opd → Cs → Option (List D × Cs)
  | [], ε => some ([], ε)
  | o :: os, ε => do
    let (d, ε1) ← fzO o ε
    let (ds, ε2) ← fzs os ε1
    some (d :: ds, ε2)
section
variable {K : Ek} {F R H : Hp} {σ : St} {ε ε' : Cs} {T : Tms}
theorem fzO_pl {i : Nat} {v : V} {d : D} (s : Sep K F R H σ ε T) (hv : σ[i]? = some (some v)) (e : fzO (.pl i) ε = some (d, ε')) : ∃ F', Same F F' ∧ Rep K.1 F' v d ∧ Sep K F' R H σ ε' T := by
  have own : ∀ {c : C}, ε[i]? = some c → cD c = some d → ε' = ε.set i (.sh d) → ∃ F', Same F F' ∧ Rep K.1 F' v d ∧ Sep K F' R H σ ε' T := fun {c} h1 h2 h3 => by
    obtain ⟨F', w, fm, hw, r, s'⟩ := s.freezeAt h1 h2
    rw [hv] at hw
    cases hw
    exact ⟨F', fm, r, h3 ▸ s'⟩
  unfold fzO at e
  simp only at e
  split at e
  · rename_i d' hd
    cases e
    obtain ⟨w, h1, h2⟩ := s.sh hd
    rw [hv] at h1
    cases h1
    exact ⟨F, Same.refl F, h2, s⟩
  · rename_i ds hd
    cases e
    exact own hd rfl rfl
  · cases e
theorem fzO_tm {c : C} {v : V} {d : D} (s : Sep K F R H σ ε ((v, c) :: T)) (e : fzO (.tm c) ε = some (d, ε')) : ε' = ε ∧ ∃ F', Same F F' ∧ Rep K.1 F' v d ∧ Sep K F' R H σ ε T := by
  have h : cD c = some d ∧ ε' = ε := by
    unfold fzO at e
    split at e
    · rename_i h; cases h
    · rename_i h; cases h; cases e; exact ⟨rfl, rfl⟩
    · rename_i h; cases h; cases e; exact ⟨rfl, rfl⟩
    · cases e
  exact ⟨h.2, s.freeze h.1⟩
end
theorem fzs_ok {K : Ek} {R H : Hp} {σ : St} {T : Tms} : ∀ {os : List Opd} {vs : List V} {F : Hp} {ε ε' : Cs} {ds : List D}, Sep K F R H σ ε (tmO os vs ++ T) → OpV σ vs os → fzs os ε = some (ds, ε') → ∃ F', Same F F' ∧ Reps K.1 F' vs ds ∧ Sep K F' R H σ ε' T
  | [], vs, F, ε, ε', ds, s, h, e => by
    cases h
    cases e
    exact ⟨F, Same.refl F, rfl, s⟩
  | o :: os, vs, F, ε, ε', ds, s, h, e => by
    unfold fzs at e
    cases e1 : fzO o ε with
    | none => simp [e1] at e
    | some p =>
      obtain ⟨d, ε1⟩ := p
      cases e2 : fzs os ε1 with
      | none => simp [e1, e2] at e
      | some p2 =>
        obtain ⟨ds2, ε2⟩ := p2
        simp [e1, e2] at e
        obtain ⟨rfl, rfl⟩ := e
        cases h with
        | @pl _ v vs' _ hv h2 =>
          obtain ⟨F1, fm1, r1, s1⟩ := fzO_pl s hv e1
          obtain ⟨F2, fm2, r2, s2⟩ := fzs_ok (os := os) (vs := vs') s1 h2 e2
          exact ⟨F2, fm1.trans fm2, ⟨_, _, rfl, Rep.mono fm2 _ _ r1, r2⟩, s2⟩
        | tm h2 =>
          obtain ⟨rfl, F1, fm1, r1, s1⟩ := fzO_tm s e1
          obtain ⟨F2, fm2, r2, s2⟩ := fzs_ok s1 h2 e2
          exact ⟨F2, fm1.trans fm2, ⟨_, _, rfl, Rep.mono fm2 _ _ r1, r2⟩, s2⟩
def lend : List Opd → Cs → Option (List C × Cs)
  | [], ε => some ([], ε)
  | .pl i :: os, ε => match ε[i]? with
    | some (.sh d) => do
      let (cs, ε1) ← lend os ε
      some (.sh d :: cs, ε1)
    | some .no => none
    | none => none
    | some c => do
      let (cs, ε1) ← lend os (ε.set i .no)
      some (c :: cs, ε1)
  | .tm c :: os, ε => do
    let (cs, ε1) ← lend os ε
    some (c :: cs, ε1)
theorem lend_ok {K : Ek} {F H : Hp} {σ : St} {T : Tms} : ∀ {os : List Opd} {vs : List V} {R : Hp} {ε ε' : Cs} {cs : List C}, Sep K F R H σ ε (tmO os vs ++ T) → OpV σ vs os → lend os ε = some (cs, ε') → Sep K F R H σ ε' (vs.zip cs ++ T) ∧ cs.length = os.length
  | [], vs, R, ε, ε', cs, s, h, e => by
    cases h
    cases e
    exact ⟨s, rfl⟩
  | .tm c :: os, vs, R, ε, ε', cs, s, h, e => by
    unfold lend at e
    cases e2 : lend os ε with
    | none => simp [e2] at e
    | some p =>
      obtain ⟨cs2, ε2⟩ := p
      simp [e2] at e
      obtain ⟨rfl, rfl⟩ := e
      cases h with
      | tm h2 =>
        obtain ⟨R1, _, s1, back⟩ := s.hide
        obtain ⟨s2, l2⟩ := lend_ok s1 h2 e2
        exact ⟨back F H σ ε2 _ (Same.refl F) s2, by simp [l2]⟩
  | .pl i :: os, vs, R, ε, ε', cs, s, h, e => by
    cases h with
    | @pl _ v vs' _ hv h2 =>
      have fin : ∀ {c : C} {ε1 : Cs}, Sep K F R H σ ε1 ((v, c) :: (tmO os vs' ++ T)) → (do let (cs, ε2) ← lend os ε1; some (c :: cs, ε2)) = some (cs, ε') → Sep K F R H σ ε' ((v :: vs').zip cs ++ T) ∧ cs.length = (Opd.pl i :: os).length := fun {c ε1} s1 e => by
        cases e2 : lend os ε1 with
        | none => simp [e2] at e
        | some p =>
          obtain ⟨cs2, ε2⟩ := p
          simp [e2] at e
          obtain ⟨rfl, rfl⟩ := e
          obtain ⟨R1, _, s2, back⟩ := s1.hide
          obtain ⟨s3, l3⟩ := lend_ok s2 h2 e2
          exact ⟨back F H σ ε2 _ (Same.refl F) s3, by simp [l3]⟩
      unfold lend at e
      cases hc : ε[i]? with
      | none => simp [hc] at e
      | some c =>
        cases c with
        | no => simp [hc] at e
        | sh d => exact fin (s.copy hc hv) (by simpa [hc] using e)
        | ls ds => exact fin (s.take hc hv) (by simpa [hc] using e)
        | dc k ds => exact fin (s.take hc hv) (by simpa [hc] using e)
        | ob k ds => exact fin (s.take hc hv) (by simpa [hc] using e)
        | px _ _ _ _ => exact fin (s.take hc hv) (by simpa [hc] using e)
        | fn _ => exact fin (s.take hc hv) (by simpa [hc] using e)
        | fd _ => exact fin (s.take hc hv) (by simpa [hc] using e)
def tTupH (t : TA) : TE := fun σ H Q => t σ H fun xs H1 => xs.length ≤ sizeLine ∧ ∀ (p : Addr) (o : Obj), o.dict = none → H1 p = none → Q (.ref p) (upd H1 p (.frz o (.tup xs)))
/-- a tuple is laid, known to have no dict -/
theorem pe_tupH {X : Cx} {es : List Expr} {t : TA} {x1 : Nat} {pos : Pos} (h : PA X es t) : PE X (.Tuple es x1 pos) (tTupH t) := by
  refine ⟨fun pins s σ H Q I hq => ?_⟩
  refine wpAny_Tuple_spliced (thn (h.run pos pins s σ H _ I hq) fun us s1 ⟨xs, H1, I1, r, z, q⟩ => ⟨by rw [← r.length]; exact z, ?_⟩)
  have hf : H1 s1.heap.objs.size = none := I1.hok.fresh (Nat.le_refl _)
  refine ⟨.ref s1.heap.objs.size, upd H1 s1.heap.objs.size (.frz { cls := .type "tuple", data := .seq us.toArray } (.tup xs)), I1.laid (t' := s1.toks) (fun b u e => Heap.get?_push_of_some _ e) (Nat.le_refl _) ?_, rfl, q _ _ rfl hf⟩
  exact ⟨Heap.get?_push_size _ rfl, z, us, r, IsTup.new _ _⟩
def mTup (ma : AM) : EM := fun ε => do
  let (os, ε1) ← ma ε
  let (ds, ε2) ← fzs os ε1
  if ds.length ≤ sizeLine then some (.sh (.tuple ds), ε2) else none
def mLst (ma : AM) : EM := fun ε => do
  let (os, ε1) ← ma ε
  let (ds, ε2) ← fzs os ε1
  if ds.length ≤ sizeLine then some (.ls ds, ε2) else none
/-- a list of own things -/
def mLstN (ma : AM) : EM := fun ε => do
  let (os, ε1) ← ma ε
  let (cs, ε2) ← lend os ε1
  if cs.length ≤ sizeLine then some (.ob .ls cs, ε2) else none
theorem tE_tup {K : Ek} {ma : AM} {σ : St} {H : Hp} {Q : VK} (h : tE K (mTup ma) σ H Q) : tTupH (tA K ma) σ H Q := by
  obtain ⟨F, R, ε, c, ε', s, e, q⟩ := h
  unfold mTup at e
  cases e1 : ma ε with
  | none => simp [e1] at e
  | some p =>
    obtain ⟨os, ε1⟩ := p
    cases e2 : fzs os ε1 with
    | none => simp [e1, e2] at e
    | some p2 =>
      obtain ⟨ds, ε2⟩ := p2
      simp [e1, e2] at e
      obtain ⟨hl, rfl, rfl⟩ := e
      refine ⟨F, R, ε, os, ε1, s, e1, fun vs F1 H1 fm1 v1 s1 => ?_⟩
      rw [← List.append_nil (tmO os vs)] at s1
      obtain ⟨F2, fm2, r2, s2⟩ := fzs_ok s1 v1 e2
      refine ⟨by rw [r2.length]; exact hl, fun p o ho hp => ?_⟩
      have g := Grw.laid (u := .frz o (.tup vs)) s2.sub hp
      exact q _ _ _ ((fm1.trans fm2).trans g.fm) ((s2.grow g).addSh ⟨p, vs, rfl, ⟨o, ho, upd_same⟩, Reps.mono g.fm _ _ r2⟩)
theorem tE_lst {K : Ek} {ma : AM} {σ : St} {H : Hp} {Q : VK} (h : tE K (mLst ma) σ H Q) : tLst (tA K ma) σ H Q := by
  obtain ⟨F, R, ε, c, ε', s, e, q⟩ := h
  unfold mLst at e
  cases e1 : ma ε with
  | none => simp [e1] at e
  | some p =>
    obtain ⟨os, ε1⟩ := p
    cases e2 : fzs os ε1 with
    | none => simp [e1, e2] at e
    | some p2 =>
      obtain ⟨ds, ε2⟩ := p2
      simp [e1, e2] at e
      obtain ⟨hl, rfl, rfl⟩ := e
      refine ⟨F, R, ε, os, ε1, s, e1, fun vs F1 H1 fm1 v1 s1 => ?_⟩
      rw [← List.append_nil (tmO os vs)] at s1
      obtain ⟨F2, fm2, r2, s2⟩ := fzs_ok s1 v1 e2
      refine ⟨by rw [r2.length]; exact hl, fun p hp => ?_⟩
      exact q _ _ _ (fm1.trans fm2) (s2.newL hp r2)
section
variable {X : Cx} {es : List Expr} {m : AM} {pos : Pos} {k : Nat}
theorem me_tup (h : PA X es (tA X.E m)) : PE X (.Tuple es k pos) (tE X.E (mTup m)) := (pe_tupH h).weak fun _ _ _ => tE_tup
theorem me_lst (h : PA X es (tA X.E m)) : PE X (.List es pos) (tE X.E (mLst m)) := (pe_lst h).weak fun _ _ _ => tE_lst
theorem ma_nil : PA X [] (tA X.E mNil) := pa_nil.weak fun _ _ _ => tA_nil
end
def mU (f : D → Option C) (a : OM) : EM := fun ε => do
  let (o1, ε1) ← a ε
  let d1 ← bor ε1 o1
  let c ← f d1
  some (c, ε1)
def mB (f : D → D → Option C) (a b : OM) : EM := fun ε => do
  let (o1, ε1) ← a ε
  let (o2, ε2) ← b ε1
  let d1 ← bor ε2 o1
  let d2 ← bor ε2 o2
  let c ← f d1 d2
  some (c, ε2)
def Fn1 (K : PySem.W.Frag) (f : D → Option C) (r : V → Hp → VK → Prop) : Prop :=
  ∀ F H x d c Q, Same F H → RepB K F H x d → f d = some c → (∀ v F' H', Grow K F H F' H' v c → Q v H') → r x H Q
def Fn2 (K : PySem.W.Frag) (f : D → D → Option C) (r : V → V → Hp → VK → Prop) : Prop :=
  ∀ F H x y d e c Q, Same F H → RepB K F H x d → RepB K F H y e → f d e = some c → (∀ v F' H', Grow K F H F' H' v c → Q v H') → r x y H Q
def lf1 (f : D → Option C) : List D → Option C | [a] => f a | _ => none
def lf2 (f : D → D → Option C) : List D → Option C | [a, b] => f a b | _ => none
theorem mU_eq (f : D → Option C) (a : OM) : mU f a = mOp (lf1 f) (mCons a mNil) := by
  funext ε
  unfold mU mOp mCons mNil
  cases a ε with
  | none => rfl
  | some p =>
    obtain ⟨o, ε1⟩ := p
    simp [bors]
    cases bor ε1 o <;> rfl
theorem mB_eq (f : D → D → Option C) (a b : OM) : mB f a b = mOp (lf2 f) (mCons a (mCons b mNil)) := by
  funext ε
  unfold mB mOp mCons mNil
  cases a ε with
  | none => rfl
  | some p =>
    obtain ⟨o, ε1⟩ := p
    cases hb : b ε1 with
    | none => simp [hb]
    | some p2 =>
      obtain ⟨o2, ε2⟩ := p2
      simp [hb, bors]
      cases bor ε2 o <;> simp
      cases bor ε2 o2 <;> rfl
theorem RepBs.one {K : PySem.W.Frag} {F H : Hp} {vs : List V} {d : D} (h : RepBs K F H vs [d]) : ∃ x, vs = [x] ∧ RepB K F H x d := by
  cases h with
  | cons h t => cases t; exact ⟨_, rfl, h⟩
theorem RepBs.two {K : PySem.W.Frag} {F H : Hp} {vs : List V} {d e : D} (h : RepBs K F H vs [d, e]) : ∃ x y, vs = [x, y] ∧ RepB K F H x d ∧ RepB K F H y e := by
  cases h with
  | cons h t =>
    obtain ⟨y, rfl, h2⟩ := t.one
    exact ⟨_, y, rfl, h, h2⟩
theorem tE_u {K : Ek} {f : D → Option C} {r : V → Hp → VK → Prop} (hf : Fn1 K.1 f r) {a : OM} {σ : St} {H : Hp} {Q : VK} (h : tE K (mU f a) σ H Q) : tO K a σ H fun x H1 => r x H1 Q := by
  rw [mU_eq] at h
  have hB : FnB K.1 (lf1 f) (fun vs H Q => ∃ x, vs = [x] ∧ r x H Q) := by
    intro F H vs ds c Q s hr e q
    match ds, e with
    | [d], e =>
      obtain ⟨x, rfl, h1⟩ := hr.one
      exact ⟨x, rfl, hf F H x d c Q s h1 e q⟩
  have := tA_cons (op_sem hB h)
  refine tO_mono this fun v H' h2 => ?_
  have h3 := tA_nil h2
  obtain ⟨x, e, h4⟩ := h3
  cases e
  exact h4
theorem tE_b {K : Ek} {f : D → D → Option C} {r : R2} (hf : Fn2 K.1 f r) {a b : OM} {σ : St} {H : Hp} {Q : VK} (h : tE K (mB f a b) σ H Q) : tOp r (tO K a) (tO K b) σ H Q := by
  rw [mB_eq] at h
  have hB : FnB K.1 (lf2 f) (fun vs H Q => ∃ x y, vs = [x, y] ∧ r x y H Q) := by
    intro F H vs ds c Q s hr e q
    match ds, e with
    | [d, d2], e =>
      obtain ⟨x, y, rfl, h1, h2⟩ := hr.two
      exact ⟨x, y, rfl, hf F H x y d d2 c Q s h1 h2 e q⟩
  have := tA_cons (op_sem hB h)
  refine tO_mono this fun v H' h2 => ?_
  refine tO_mono (tA_cons h2) fun w H'' h3 => ?_
  have h4 := tA_nil h3
  obtain ⟨x, y, e, h5⟩ := h4
  cases e
  exact h5
section
variable {X : Cx} {a b : Expr} {ma mb : OM} {pos : Pos}
theorem me_bin {op : Operator} {f : D → D → Option C} {r : R2} (ho : OpR X (binaryOp op) r) (hf : Fn2 X.K f r) (ha : PE X a (tO X.E ma)) (hb : PE X b (tO X.E mb)) : PE X (.BinOp a op b pos) (tE X.E (mB f ma mb)) :=
  (pe_op ho ha hb).weak fun _ _ _ => tE_b hf
theorem me_un {op : UnaryOp} {f : D → Option C} {r : V → Hp → VK → Prop} (ho : UnR X (unaryOp op) r) (hf : Fn1 X.K f r) (ha : PE X a (tO X.E ma)) : PE X (.UnaryOp op a pos) (tE X.E (mU f ma)) :=
  (pe_un ho ha).weak fun _ _ _ => tE_u hf
theorem me_cmp {op : CmpOp} {f : D → D → Option C} {r : R2} (ho : OpR X (compareOp op) r) (hf : Fn2 X.K f r) (ha : PE X a (tO X.E ma)) (hb : PE X b (tO X.E mb)) (hm : behindInMarks op b = false) : PE X (.Compare a [op] [b] pos) (tE X.E (mB f ma mb)) :=
  (pe_cmpR ho ha hb hm).weak fun _ _ _ => tE_b hf
theorem me_ix {f : D → D → Option C} {r : R2} (ho : IxR X r) (hf : Fn2 X.K f r) (ha : PE X a (tO X.E ma)) (hb : PE X b (tO X.E mb)) (hs : PlainIx b) : PE X (.Subscript a b pos) (tE X.E (mB f ma mb)) :=
  (pe_ix ho ha hb hs).weak fun _ _ _ => tE_b hf
end
section
variable {X : Cx} {e : Expr} {es : List Expr} {m : AM} {x : Str} {p pos : Pos} {id T : String} {r : List V → Hp → VK → Prop} {f : List D → Option C}
theorem me_callB (hc : CallR X (.builtin id) r) (hf : FnB X.K f r) (hg : Gl X x) (hm : X.mg x = none) (hv : bootBuiltins x = some (.builtin id)) (ha : PA X (e :: es) (tA X.E m)) (hn : x ≠ "__name__") (hdb : (x == ("__debug__" : Str)) = false)
    (he : starEach (e :: es) X.env = (false, eval e X.env) :: starEach es X.env) (hpl : (backTo pos (starEach es X.env)).any (·.1) = false) : PE X (.Call (.Name x p) (e :: es) [] pos) (tE X.E (mOp f m)) :=
  (pe_callB hc hg hm hv ha hn hdb he hpl).weak fun _ _ _ h => op_sem hf h
theorem me_callTy (hc : CallR X (.type T) r) (hf : FnB X.K f r) (hg : Gl X x) (hm : X.mg x = none) (hv : bootBuiltins x = some (.type T)) (ha : PA X (e :: es) (tA X.E m)) (hn : x ≠ "__name__") (hdb : (x == ("__debug__" : Str)) = false)
    (he : starEach (e :: es) X.env = (false, eval e X.env) :: starEach es X.env) (hpl : (backTo pos (starEach es X.env)).any (·.1) = false) : PE X (.Call (.Name x p) (e :: es) [] pos) (tE X.E (mOp f m)) :=
  (pe_callTy hc hg hm hv ha hn hdb he hpl).weak fun _ _ _ h => op_sem hf h
end
end L2.M
namespace L2.M
open PySem PySem.Spec PyProof.Rows
abbrev TM := Cs → Option (Bool × Cs)
def tT (K : Ek) (m : TM) : TT := fun σ H Q => ∃ F R ε b ε', Sep K F R H σ ε [] ∧ m ε = some (b, ε') ∧ ∀ F' H', Same F F' → Sep K F' R H' σ ε' [] → Q b H'
def mTst (m : EM) : TM := fun ε => match m ε with
  | some (.sh (.bool b), ε') => some (b, ε')
  | _ => none
theorem Sep.boolT {K : Ek} {F R H : Hp} {σ : St} {ε : Cs} {T : Tms} {v : V} {b : Bool} (s : Sep K F R H σ ε ((v, .sh (.bool b)) :: T)) : v = .bl b := by
  have r := s.repT
  simpa only [Rep] using r
theorem Sep.addB {K : Ek} {F R H : Hp} {σ : St} {ε : Cs} {T : Tms} (s : Sep K F R H σ ε T) (b : Bool) : Sep K F R H σ ε ((.bl b, .sh (.bool b)) :: T) := s.addSh (by simp only [Rep])
section
variable {K : Ek} {σ : St} {H : Hp}
theorem tE_tst {m : EM} {Q : Bool → Hp → Prop} (h : tT K (mTst m) σ H Q) : tE K m σ H (fun x H' => ∃ k, x = .bl k ∧ Q k H') := by
  obtain ⟨F, R, ε, b, ε', o, e, q⟩ := h
  unfold mTst at e
  split at e
  · rename_i b' ε1 hm
    cases e
    exact ⟨F, R, ε, _, ε', o, hm, fun v F' H' fm p => ⟨b, p.boolT, q F' H' fm p.drop⟩⟩
  · cases e
end
section
variable {X : Cx} {a b e : Expr} {ma mb : OM} {m : EM} {pos : Pos} {rest : List Expr}
theorem mt_val (h : PE X e (tE X.E m)) (he : ∀ whole, isTrue e X.env whole = (do let v ← whole; standAt e.pos; holding [v] (truthy v))) : PT X e (tT X.E (mTst m)) :=
  (pt_val h he).weak fun _ _ _ => tE_tst
theorem mt_cmp {op : CmpOp} {f : D → D → Option C} {r : R2} (ho : OpR X (compareOp op) r) (hf : Fn2 X.K f r) (ha : PE X a (tO X.E ma)) (hb : PE X b (tO X.E mb)) (hm : behindInMarks op b = false) : PT X (.Compare a [op] [b] pos) (tT X.E (mTst (mB f ma mb))) :=
  (pt_cmpR ho ha hb hm).weak fun _ _ _ h => tE_b hf (tE_tst h)
def mNotT (m : TM) : TM := fun ε => do
  let (b, ε1) ← m ε
  some (!b, ε1)
def mAndT (m n : TM) : TM := fun ε => do
  let (b, ε1) ← m ε
  if b then n ε1 else some (false, ε1)
def mOrT (m n : TM) : TM := fun ε => do
  let (b, ε1) ← m ε
  if b then some (true, ε1) else n ε1
theorem tT_bind {K : Ek} {m : TM} {n : Bool → TM} {σ : St} {H : Hp} {Q : Bool → Hp → Prop} (h : tT K (fun ε => do let (b, ε1) ← m ε; n b ε1) σ H Q) : tT K m σ H fun b H1 => tT K (n b) σ H1 Q := by
  obtain ⟨F, R, ε, c, ε', o, e, q⟩ := h
  cases e1 : m ε with
  | none => simp [e1] at e
  | some p =>
    obtain ⟨b, ε1⟩ := p
    simp [e1] at e
    exact ⟨F, R, ε, b, ε1, o, e1, fun F1 H1 fm1 s1 => ⟨F1, R, ε1, c, ε', s1, e, fun F2 H2 fm2 s2 => q F2 H2 (fm1.trans fm2) s2⟩⟩
theorem tT_pure {K : Ek} {b : Bool} {σ : St} {H : Hp} {Q : Bool → Hp → Prop} (h : tT K (fun ε => some (b, ε)) σ H Q) : Q b H := by
  obtain ⟨F, R, ε, c, ε', o, e, q⟩ := h
  cases e
  exact q F H (Same.refl F) o
theorem tT_mono {K : Ek} {m : TM} {σ : St} {H : Hp} {Q Q' : Bool → Hp → Prop} (h : tT K m σ H Q) (w : ∀ v H', Q v H' → Q' v H') : tT K m σ H Q' := by
  obtain ⟨F, R, ε, o, ε', a, b, c⟩ := h
  exact ⟨F, R, ε, o, ε', a, b, fun F' H' fm s => w _ _ (c F' H' fm s)⟩
theorem mt_not {m : TM} (h : PT X e (tT X.E m)) : PT X (.UnaryOp .Not e pos) (tT X.E (mNotT m)) := (pt_not h).weak fun σ H Q q =>
  tT_mono (tT_bind (n := fun b ε => some (!b, ε)) q) fun _ _ z => tT_pure z
theorem mt_and {m n : TM} (h : PT X a (tT X.E m)) (g : PW X (.BoolOp .And (b :: rest) pos) (tT X.E n)) : PW X (.BoolOp .And (a :: b :: rest) pos) (tT X.E (mAndT m n)) := (pw_and h g).weak fun σ H Q q =>
  tT_mono (tT_bind (n := fun b ε => if b then n ε else some (false, ε)) q) fun b _ z => by
    cases b with
    | true => rw [if_pos rfl]; exact z
    | false => rw [if_neg Bool.false_ne_true]; exact tT_pure z
theorem mt_or {m n : TM} (h : PT X a (tT X.E m)) (g : PW X (.BoolOp .Or (b :: rest) pos) (tT X.E n)) : PW X (.BoolOp .Or (a :: b :: rest) pos) (tT X.E (mOrT m n)) := (pw_or h g).weak fun σ H Q q =>
  tT_mono (tT_bind (n := fun b ε => if b then some (true, ε) else n ε) q) fun b _ z => by
    cases b with
    | true => rw [if_pos rfl]; exact tT_pure z
    | false => rw [if_neg Bool.false_ne_true]; exact z
theorem mt_and1 {m : TM} (h : PT X a (tT X.E m)) : PW X (.BoolOp .And [a] pos) (tT X.E m) := pw_and1 h
theorem mt_or1 {m : TM} (h : PT X a (tT X.E m)) : PW X (.BoolOp .Or [a] pos) (tT X.E m) := pw_or1 h
def mNotE (m : EM) : EM := fun ε => match m ε with
  | some (.sh (.bool b), ε1) => some (.sh (.bool (!b)), ε1)
  | _ => none
def mAndE (m n : EM) : EM := fun ε => match m ε with
  | some (.sh (.bool true), ε1) => n ε1
  | some (.sh (.bool false), ε1) => some (.sh (.bool false), ε1)
  | _ => none
def mOrE (m n : EM) : EM := fun ε => match m ε with
  | some (.sh (.bool true), ε1) => some (.sh (.bool true), ε1)
  | some (.sh (.bool false), ε1) => n ε1
  | _ => none
def mIfE (t : TM) (m n : EM) : EM := fun ε => do
  let (b, ε1) ← t ε
  if b then m ε1 else n ε1
theorem me_not (h : PE X e (tE X.E m)) : PE X (.UnaryOp .Not e pos) (tE X.E (mNotE m)) := (pe_not h).weak fun σ H Q q => by
  obtain ⟨F, R, ε, c, ε', o, e, q⟩ := q
  unfold mNotE at e
  split at e
  · rename_i b ε1 hm
    cases e
    exact ⟨F, R, ε, _, ε', o, hm, fun v F' H' fm p => ⟨b, p.boolT, q _ F' H' fm (p.drop.addB _)⟩⟩
  · cases e
theorem me_and {n : EM} (h : PE X a (tE X.E m)) (g : PE X (.BoolOp .And (b :: rest) pos) (tE X.E n)) : PE X (.BoolOp .And (a :: b :: rest) pos) (tE X.E (mAndE m n)) := (pe_and h g).weak fun σ H Q q => by
  obtain ⟨F, R, ε, c, ε', o, e, q⟩ := q
  unfold mAndE at e
  split at e
  · rename_i ε1 hm
    refine ⟨F, R, ε, _, ε1, o, hm, fun v F' H' fm p => ⟨true, p.boolT, ?_⟩⟩
    rw [if_pos rfl]
    exact ⟨F', R, ε1, c, ε', p.drop, e, fun w F2 H2 fm2 p2 => q w F2 H2 (fm.trans fm2) p2⟩
  · rename_i ε1 hm
    cases e
    refine ⟨F, R, ε, _, ε', o, hm, fun v F' H' fm p => ⟨false, p.boolT, ?_⟩⟩
    rw [if_neg Bool.false_ne_true]
    exact q _ F' H' fm (p.drop.addB _)
  · cases e
theorem me_one {op : BoolOp} (h : PE X a (tE X.E m)) : PE X (.BoolOp op [a] pos) (tE X.E m) := pe_one h
theorem me_ife {c : Expr} {t : TM} {n : EM} (hc : PT X c (tT X.E t)) (h : PE X a (tE X.E m)) (g : PE X b (tE X.E n)) : PE X (.IfExp c a b pos) (tE X.E (mIfE t m n)) := (pe_ifExp hc h g).weak fun σ H Q q => by
  obtain ⟨F, R, ε, c, ε', o, e, q⟩ := q
  unfold mIfE at e
  cases e1 : t ε with
  | none => simp [e1] at e
  | some p =>
    obtain ⟨k, ε1⟩ := p
    simp [e1] at e
    refine ⟨F, R, ε, k, ε1, o, e1, fun F1 H1 fm1 s1 => ?_⟩
    cases k with
    | true =>
      rw [if_pos rfl]
      simp at e
      exact ⟨F1, R, ε1, c, ε', s1, e, fun w F2 H2 fm2 p2 => q w F2 H2 (fm1.trans fm2) p2⟩
    | false =>
      rw [if_neg Bool.false_ne_true]
      simp at e
      exact ⟨F1, R, ε1, c, ε', s1, e, fun w F2 H2 fm2 p2 => q w F2 H2 (fm1.trans fm2) p2⟩
end
abbrev GM := List C → Option (C × List C)
def spOf (K : Ek) (np : Nat) (g : GM) : Sp := fun vs H Q _ => vs.length = np ∧ ∃ F R cs c cs', Sep K F R H (vs.map some) cs [] ∧ g cs = some (c, cs') ∧ ∀ v F' H', Same F F' → Sep K F' R H' (vs.map some) cs' [(v, c)] → Q v H'
def frz : List Bool → List Opd → Cs → Option (List Opd × Cs)
  | [], [], ε => some ([], ε)
  | true :: bs, o :: os, ε => do
    let (os', ε1) ← frz bs os ε
    some (o :: os', ε1)
  | false :: bs, o :: os, ε => do
    let (d, ε1) ← fzO o ε
    let (os', ε2) ← frz bs os ε1
    some (.tm (.sh d) :: os', ε2)
  | _, _, _ => none
def wb : List Opd → List C → Cs → Cs
  | .pl i :: os, c :: cs, ε => wb os cs (ε.set i c)
  | .tm _ :: os, _ :: cs, ε => wb os cs ε
  | _, _, ε => ε
def mCall (io : List Bool) (g : GM) (ma : AM) : EM := fun ε => do
  let (os, ε1) ← ma ε
  let (os2, ε2) ← frz io os ε1
  let (cs, ε3) ← lend os2 ε2
  let (c, cs') ← g cs
  some (c, wb os2 cs' ε3)
theorem frz_ok {K : Ek} {H : Hp} {σ : St} {T : Tms} : ∀ {bs : List Bool} {os os2 : List Opd} {vs : List V} {F R : Hp} {ε ε' : Cs}, Sep K F R H σ ε (tmO os vs ++ T) → OpV σ vs os → frz bs os ε = some (os2, ε') →
    ∃ F', Same F F' ∧ Sep K F' R H σ ε' (tmO os2 vs ++ T) ∧ OpV σ vs os2 ∧ os2.length = bs.length
  | [], [], os2, vs, F, R, ε, ε', s, h, e => by
    cases h
    cases e
    exact ⟨F, Same.refl F, s, .nil, rfl⟩
  | true :: bs, o :: os, os2, vs, F, R, ε, ε', s, h, e => by
    unfold frz at e
    cases e1 : frz bs os ε with
    | none => simp [e1] at e
    | some p =>
      obtain ⟨os', ε1⟩ := p
      simp [e1] at e
      obtain ⟨rfl, rfl⟩ := e
      cases h with
      | @pl _ v vs' _ hv h2 =>
        obtain ⟨F', fm, s', v', l'⟩ := frz_ok (os := os) (vs := vs') s h2 e1
        exact ⟨F', fm, s', .pl hv v', by simp [l']⟩
      | @tm c v vs' _ h2 =>
        obtain ⟨R1, _, s1, back⟩ := Sep.hide (T := tmO os vs' ++ T) s
        obtain ⟨F', fm, s', v', l'⟩ := frz_ok s1 h2 e1
        exact ⟨F', fm, back F' H σ ε1 _ fm s', .tm v', by simp [l']⟩
  | false :: bs, o :: os, os2, vs, F, R, ε, ε', s, h, e => by
    unfold frz at e
    cases e1 : fzO o ε with
    | none => simp [e1] at e
    | some p =>
      obtain ⟨d, ε1⟩ := p
      cases e2 : frz bs os ε1 with
      | none => simp [e1, e2] at e
      | some p2 =>
        obtain ⟨os', ε2⟩ := p2
        simp [e1, e2] at e
        obtain ⟨rfl, rfl⟩ := e
        cases h with
        | @pl _ v vs' _ hv h2 =>
          obtain ⟨F1, fm1, r1, s1⟩ := fzO_pl s hv e1
          obtain ⟨F2, fm2, s2, v2, l2⟩ := frz_ok (os := os) (vs := vs') s1 h2 e2
          exact ⟨F2, fm1.trans fm2, s2.addSh (Rep.mono fm2 _ _ r1), .tm v2, by simp [l2]⟩
        | @tm c v vs' _ h2 =>
          obtain ⟨rfl, F1, fm1, r1, s1⟩ := fzO_tm (T := tmO os vs' ++ T) s e1
          obtain ⟨F2, fm2, s2, v2, l2⟩ := frz_ok s1 h2 e2
          exact ⟨F2, fm1.trans fm2, s2.addSh (Rep.mono fm2 _ _ r1), .tm v2, by simp [l2]⟩
  | [], _ :: _, _, _, _, _, _, _, _, _, e => by simp [frz] at e
  | true :: _, [], _, _, _, _, _, _, _, _, e => by simp [frz] at e
  | false :: _, [], _, _, _, _, _, _, _, _, e => by simp [frz] at e
theorem wb_ok {K : Ek} {F R H : Hp} {σ : St} {T : Tms} : ∀ {os : List Opd} {vs : List V} {cs : List C} {ε : Cs}, Sep K F R H σ ε (vs.zip cs ++ T) → OpV σ vs os → cs.length = os.length → Sep K F R H σ (wb os cs ε) T
  | [], vs, cs, ε, s, h, l => by
    cases h
    cases cs with
    | nil => exact s
    | cons _ _ => cases l
  | o :: os, vs, [], ε, s, h, l => by cases l
  | o :: os, vs, c :: cs, ε, s, h, l => by
    cases h with
    | pl hv h2 =>
      unfold wb
      exact wb_ok (Sep.put s hv) h2 (by simpa using l)
    | tm h2 =>
      unfold wb
      exact wb_ok (Sep.drop s) h2 (by simpa using l)
theorem zip_snd {α β : Type} {xs : List α} {ys : List β} (h : ys.length = xs.length) : (xs.zip ys).map (·.2) = ys := List.map_snd_zip (by omega)
theorem zip_fst {α β : Type} {xs : List α} {ys : List β} (h : ys.length = xs.length) : (xs.zip ys).map (·.1) = xs := List.map_fst_zip (by omega)
theorem zip_fsts {β : Type} {xs : List V} {ys : List β} (h : ys.length = xs.length) : (xs.zip ys).map (fun p => some p.1) = xs.map some := by
  rw [show (fun p : V × β => some p.1) = (fun x => some x) ∘ (fun p : V × β => p.1) from rfl, ← List.map_map, zip_fst h]
/-- the callee's frame, and the way back -/
theorem call_sep {K : Ek} {F R H : Hp} {σ : St} {ε3 : Cs} {os : List Opd} {vs : List V} {cs : List C} (s : Sep K F R H σ ε3 (vs.zip cs)) (ho : OpV σ vs os) (hl : cs.length = os.length) :
    ∃ R1, Sep K F R1 H (vs.map some) cs [] ∧ ∀ F' H' cs' T', Same F F' → Sep K F' R1 H' (vs.map some) cs' T' → Sep K F' R H' σ (wb os cs' ε3) T' := by
  have lv := ho.len
  obtain ⟨R1, s1, back⟩ := s.enter
  rw [zip_fsts (by omega), zip_snd (by omega)] at s1
  refine ⟨R1, s1, fun F' H' cs' T' fm s' => ?_⟩
  have lc : cs'.length = vs.length := by have := s'.len; simp at this; omega
  have := back F' H' cs' T' fm (by rw [zip_fsts (by omega)]; exact s')
  rw [zip_fst (by omega)] at this
  exact wb_ok this ho (by omega)
theorem tE_call {K : Ek} {np : Nat} {g : GM} {io : List Bool} {ma : AM} {σ : St} {H : Hp} {Q : VK} (hio : io.length = np) (h : tE K (mCall io g ma) σ H Q) : tCall (spOf K np g) [] E0 (tA K ma) σ H Q := by
  obtain ⟨F, R, ε, c, ε', ok, e, q⟩ := h
  unfold mCall at e
  cases e1 : ma ε with
  | none => simp [e1] at e
  | some p =>
    obtain ⟨os, ε1⟩ := p
    cases e2 : frz io os ε1 with
    | none => simp [e1, e2] at e
    | some p2 =>
      obtain ⟨os2, ε2⟩ := p2
      cases e3 : lend os2 ε2 with
      | none => simp [e1, e2, e3] at e
      | some p3 =>
        obtain ⟨cs, ε3⟩ := p3
        cases e4 : g cs with
        | none => simp [e1, e2, e3, e4] at e
        | some p4 =>
          obtain ⟨c', cs'⟩ := p4
          simp [e1, e2, e3, e4] at e
          obtain ⟨rfl, rfl⟩ := e
          refine ⟨F, R, ε, os, ε1, ok, e1, fun vs F1 H1 fm1 v1 s1 => ?_⟩
          rw [← List.append_nil (tmO os vs)] at s1
          obtain ⟨F2, fm2, s2, v2, l2⟩ := frz_ok s1 v1 e2
          obtain ⟨s3, l3⟩ := lend_ok s2 v2 e3
          rw [List.append_nil] at s3
          obtain ⟨R1, s4, back⟩ := call_sep s3 v2 l3
          refine ⟨by rw [List.append_nil, v2.len, l2]; exact hio, F2, R1, cs, c', cs', by rw [List.append_nil]; exact s4, e4, fun v F' H' fm p => ?_⟩
          rw [List.append_nil] at p
          exact q v F' H' ((fm1.trans fm2).trans fm) (back F' H' cs' _ fm p)
end L2.M
namespace L2.M
open PySem PySem.Spec PyProof.Rows
section
variable {K : PySem.W.Frag} {F H : Hp} {x : V}
theorem rb_non (h : RepB K F H x .none) : x = .non := by
  rcases h with h | ⟨_, _, _, _, h, _⟩
  · simpa only [Rep] using h
  · cases h
theorem rb_bool {b : Bool} (h : RepB K F H x (.bool b)) : x = .bl b := by
  rcases h with h | ⟨_, _, _, _, h, _⟩
  · simpa only [Rep] using h
  · cases h
theorem rb_int {i : Int} (h : RepB K F H x (.int i)) : x = .int i := by
  rcases h with h | ⟨_, _, _, _, h, _⟩
  · simpa only [Rep] using h
  · cases h
theorem rb_str {i : Str} (h : RepB K F H x (.str i)) : x = .str i := by
  rcases h with h | ⟨_, _, _, _, h, _⟩
  · simpa only [Rep] using h
  · cases h
theorem rb_tup {ds : List D} (s : Same F H) (h : RepB K F H x (.tuple ds)) : ∃ a vs, x = .ref a ∧ HdT F a vs ∧ SqT K H a vs ∧ Reps K F vs ds := by
  rcases h with ⟨a, vs, h1, h2, h3⟩ | ⟨_, _, _, _, h, _⟩
  · exact ⟨a, vs, h1, h2, (h2.mono s).sq, h3⟩
  · cases h
theorem rb_lst {ds : List D} (s : Same F H) (h : RepB K F H x (.list ds)) : ∃ a vs, x = .ref a ∧ SqL K H a vs ∧ Reps K F vs ds := by
  rcases h with ⟨a, vs, h1, h2, h3⟩ | ⟨a, ws, es, h1, h2, h3, h4⟩
  · exact ⟨a, vs, h1, sameL s h2, h3⟩
  · cases h2
    exact ⟨a, ws, h1, .inl (.inl h3), h4⟩
theorem rb_dct {kds : List (D × D)} (s : Same F H) (h : RepB K F H x (.dict kds)) : ∃ a kvs, x = .ref a ∧ H a = some (.dK kvs) ∧ RepKs K F kvs kds := by
  rcases h with ⟨a, vs, h1, h2, h3⟩ | ⟨_, _, _, _, h, _⟩
  · exact ⟨a, vs, h1, s _ _ h2, h3⟩
  · cases h
mutual
theorem Rep.dp (s : Same F H) : ∀ (d : D) (v : V), Rep K F v d → PyData.canLay0 d = true → Dp K H v d
  | .none, v, h, _ => by simp only [Rep] at h; subst h; exact .non
  | .bool b, v, h, _ => by simp only [Rep] at h; subst h; exact .bl b
  | .int b, v, h, _ => by simp only [Rep] at h; subst h; exact .int b
  | .str b, v, h, _ => by simp only [Rep] at h; subst h; exact .str b
  | .list ds, v, ⟨a, vs, h1, h2, h3⟩, hc => by subst h1; exact .lst (sameL s h2) (Reps.dp s ds vs h3 (by simpa [PyData.canLay0] using hc))
  | .tuple ds, v, ⟨a, vs, h1, h2, h3⟩, hc => by subst h1; exact .tup (h2.mono s).sq (Reps.dp s ds vs h3 (by simpa [PyData.canLay0] using hc))
  | .dict kds, v, _, hc => by simp [PyData.canLay0] at hc
theorem Reps.dp (s : Same F H) : ∀ (ds : List D) (vs : List V), Reps K F vs ds → PyData.canLayAll0 ds = true → DpAll K H vs ds
  | [], vs, h, _ => by cases (show vs = [] from h); exact .nil
  | d :: ds, vs, ⟨v, r, h1, h2, h3⟩, hc => by
    subst h1
    simp only [PyData.canLayAll0, Bool.and_eq_true] at hc
    exact .cons (Rep.dp s d v h2 hc.1) (Reps.dp s ds r h3 hc.2)
end
theorem rb_dp {d : D} (s : Same F H) (h : RepB K F H x d) (hc : PyData.canLay0 d = true) : Dp K H x d := by
  rcases h with h | ⟨a, ws, ds, h1, h2, h3, h4⟩
  · exact Rep.dp s d x h hc
  · subst h1 h2
    exact .lst (.inl (.inl h3)) (Reps.dp s ds ws h4 (by simpa [PyData.canLay0] using hc))
end
theorem list_mulW (l : Addr) (items : Array Value) (n : Nat) (x : Int) (u : Tok) (dd : Option Addr) (sl : Array (Option Value)) (hc0 : ¬(!Builtin.List.listFitsIndex x) = true) (hc1 : ¬items.size * x.toNat > (2 ^ 63 - 1) / 8) (hc2 : ¬Builtin.List.listTooLong (items.size * x.toNat) = true) :
    Meets (Builtin.«list.__mul__» ⟨[.ref l, .int x u], []⟩) (fun _ R s => s.heap.get? l = some { cls := .type "list", dict := dd, data := .seq items n, slots := sl } ∧ R (.ok (.ret (Value.ref s.heap.objs.size))) { s with heap := s.heap.push { cls := Value.type "list", data := Data.seq (List.foldl (fun x1 x2 => x1 ++ x2) #[] (List.replicate (if items.isEmpty = true then 0 else x.toNat) items)) }, toks := s.toks }) :=
  .of_wp fun prog w A R s h => by
    obtain ⟨hp, g, d, tk, os⟩ := s; obtain ⟨hl, h⟩ := h
    have hsz := AutoListH.joined_fits hc2
    wp_walk using wpAny_loadPart' hl; refine wpAny_ite_false (decide_eq_false (Nat.not_lt.mpr hsz)) ?_; wp_walk using wpAny_loadPart' hl; exact ⟨_, rfl, h⟩
theorem int_rmulW (a : Int) (t : Tok) (l : Addr) (items : Array Value) (n : Nat) (dd : Option Addr) (sl : Array (Option Value)) :
    Meets (Builtin.«int.__rmul__» ⟨[.int a t, .ref l], []⟩) (fun _ R s => s.heap.get? l = some { cls := .type "list", dict := dd, data := .seq items n, slots := sl } ∧ R (.ok (.ret Value.notImplemented)) s) :=
  .of_wp fun prog w A R s h => by obtain ⟨hp, g, d, tk, os⟩ := s; obtain ⟨hl, h⟩ := h; wp_walk using wpAny_loadPart' hl; exact ⟨_, rfl, h⟩
section
variable {K : PySem.W.Frag} {F H : Hp} {Q : VK}
theorem gv {v : V} {d : D} (s : Same F H) (r : Rep K F v d) (q : ∀ v F' H', Grow K F H F' H' v (.sh d) → Q v H') : Q v H :=
  q v F H ⟨Same.refl F, Same.refl H, s, fun b h h' => absurd h h', r, fun _ _ z => nomatch z⟩
theorem g_int {i : Int} (s : Same F H) (q : ∀ v F' H', Grow K F H F' H' v (.sh (.int i)) → Q v H') : Q (.int i) H := gv s (by simp only [Rep]) q
theorem g_bool {i : Bool} (s : Same F H) (q : ∀ v F' H', Grow K F H F' H' v (.sh (.bool i)) → Q v H') : Q (.bl i) H := gv s (by simp only [Rep]) q
theorem g_str {i : Str} (s : Same F H) (q : ∀ v F' H', Grow K F H F' H' v (.sh (.str i)) → Q v H') : Q (.str i) H := gv s (by simp only [Rep]) q
theorem g_tup {vs : List V} {ds : List D} (s : Same F H) (r : Reps K F vs ds) (q : ∀ v F' H', Grow K F H F' H' v (.sh (.tuple ds)) → Q v H') : ∀ (p : Addr) (o : Obj), o.dict = none → H p = none → Q (.ref p) (upd H p (.frz o (.tup vs))) := fun p o ho hp => by
  have g := Grw.laid (u := .frz o (.tup vs)) s hp
  exact q (.ref p) _ _ ⟨g.fm, g.hm, g.sub, g.ff, ⟨p, vs, rfl, ⟨o, ho, upd_same⟩, Reps.mono g.fm _ _ r⟩, fun _ _ z => nomatch z⟩
theorem g_lst {vs : List V} {ds : List D} (s : Same F H) (r : Reps K F vs ds) (q : ∀ v F' H', Grow K F H F' H' v (.ls ds) → Q v H') : ∀ p, H p = none → Q (.ref p) (upd H p (.lst vs)) := fun p hp => by
  have hm : Same H (upd H p (.lst vs)) := fun b x e => by rw [upd_ne (ne_of_none e hp)]; exact e
  exact q (.ref p) F _ ⟨Same.refl F, hm, s.trans hm, fun b h h' => absurd h h', ⟨p, vs, rfl, upd_same, s.free hp, r⟩, fun ds a _ z => by cases z; exact hp⟩
end
section
variable {X : Cx}
/-- a tuple laid behind an operation, known to have no dict -/
theorem laidH {pins : List (Addr × Obj)} {σ : St} {H : Hp} {s : Shared} {Q : VK} {ys : List V} {us : List Value} (I : Inv X pins σ H s) (r : Vals ys us) (hz : ys.length ≤ sizeLine) (q : ∀ (p : Addr) (o : Obj), o.dict = none → H p = none → Q (.ref p) (upd H p (.frz o (.tup ys)))) : EP X pins σ Q (.ref s.heap.objs.size) { s with heap := s.heap.push { cls := .type "tuple", data := .seq us.toArray } } := by
  refine ⟨.ref s.heap.objs.size, _, I.laid (t' := s.toks) (o := .frz { cls := .type "tuple", data := .seq us.toArray } (.tup ys)) (fun b ob q => Heap.get?_push_of_some _ q) (Nat.le_refl _) ?_, rfl, q _ _ rfl (I.hok.fresh (Nat.le_refl _))⟩
  exact ⟨Heap.get?_push_size _ rfl, hz, us, r, IsTup.new _ _⟩
def rCatH (K : PySem.W.Frag) : R2 := fun x y H Q => ∃ a b xs ys, x = .ref a ∧ y = .ref b ∧ SqT K H a xs ∧ SqT K H b ys ∧ xs.length + ys.length ≤ sizeLine ∧
  (xs = [] → Q (.ref b) H) ∧ (xs ≠ [] → ys = [] → Q (.ref a) H) ∧ (xs ≠ [] → ys ≠ [] → ∀ (p : Addr) (o : Obj), o.dict = none → H p = none → Q (.ref p) (upd H p (.frz o (.tup (xs ++ ys)))))
theorem op_catH : OpR X (binaryOp .Add) (rCatH X.K) := by
  rintro pins s σ H x y v u Q I rx ry ⟨a, b, xs, ys, rfl, rfl, ha, hb, hz, q0, q1, q2⟩
  cases rx
  cases ry
  obtain ⟨its, r1, p1, _⟩ := I.tuple ha
  obtain ⟨its2, r2, p2, _⟩ := I.tuple hb
  by_cases hx : xs = []
  · subst hx
    cases r1
    exact cat_tup0 p1 p2 ⟨.ref b, H, I, rfl, q0 rfl⟩
  · refine HT.cat_tup p1 p2 (fun z => hx (r1.nil_iff.mp z)) (fun z => ⟨.ref a, H, I, rfl, q1 hx (r2.nil_iff.mp z)⟩) (fun z => ?_) (by rw [← r1.length, ← r2.length]; exact hz)
    exact laidH I (r1.append r2) (by rw [List.length_append]; exact hz) (q2 hx fun w => z (r2.nil_iff.mpr w))
def rRepH (K : PySem.W.Frag) : R2 := fun x y H Q => ∃ l k xs, x = .ref l ∧ y = .int k ∧ SqT K H l xs ∧ xs ≠ [] ∧ 2 ≤ k ∧ k ≤ 1000 ∧ xs.length ≤ 1000 ∧ ∀ (p : Addr) (o : Obj), o.dict = none → H p = none → Q (.ref p) (upd H p (.frz o (.tup (List.replicate k.toNat xs).flatten)))
theorem op_repH : OpR X (binaryOp .Mult) (rRepH X.K) := by
  rintro pins s σ H x y v u Q I rx ry ⟨l, k, xs, rfl, rfl, hT, hne, h1, h2, hz, q⟩
  cases rx
  obtain ⟨t, rfl⟩ := ry
  obtain ⟨its, r, ⟨⟨cls, dd, data, sl⟩, ho, hc, n, hd⟩, hs⟩ := I.tuple hT
  cases (show cls = .type "tuple" from hc)
  cases (show data = .seq its.toArray n from hd)
  have le : its.length = xs.length := r.length.symm
  have hn : its ≠ [] := fun e => hne (r.nil_iff.mp e)
  have e0 : its.toArray.isEmpty = false := by cases its <;> simp_all
  have e1 : ((its.toArray.size : Nat) : Int) * k ≤ 1000000 := by
    rw [List.size_toArray, le]
    have : ((xs.length : Nat) : Int) * k ≤ 1000 * k := Int.mul_le_mul_of_nonneg_right (by omega) (by omega)
    omega
  have e2 : k.toNat * xs.length ≤ 1000 * 1000 := Nat.mul_le_mul (by omega) hz
  have b0 : (decide (k < -(2 ^ 63)) || decide (k ≥ 2 ^ 63)) = false := by simp; omega
  have b1 : (its.toArray.isEmpty || k == 1) = false := by rw [e0]; simp; omega
  have b2 : (decide (k ≤ 0) || its.toArray.isEmpty) = false := by rw [e0]; simp; omega
  have b3 : Builtin.Tuple.tupleTooMany (((its.toArray.size : Nat) : Int) * k) = false := by
    unfold Builtin.Tuple.tupleTooMany
    rw [sizeLine_eq]
    exact decide_eq_false (by omega)
  have z1 : (List.replicate k.toNat its).flatten.length ≤ sizeLine := by
    rw [PyProof.Rows.lm_len_rep_flat, le, sizeLine_eq]
    omega
  have z2 : (List.replicate k.toNat xs).flatten.length ≤ sizeLine := by
    rw [PyProof.Rows.lm_len_rep_flat, sizeLine_eq]
    omega
  have tis : s.TypeIs (.ref l) "tuple" := ⟨_, ho, rfl⟩
  refine wpAny_binaryOp_repeat_ref (T := "tuple") (U := "int") (by decide) tis (fun s' => typeIs_int s' k t) noFill_tuple_mul F.fills_int_mul F.slot_int_rmul repeat_tuple F.slot_int_index.lookup
    (call_meets F.slot_int_rmul (typeIs_int s k t) F.entry_int_rmul (F.args_int_rmul_2 _ _) (int_rmul_tuple k t l its.toArray n dd sl)
      ⟨ho, rfl, tis, call_meets F.slot_tuple_mul tis F.entry_tuple_mul (F.args_tuple_mul_2 _ _) (tuple_mulW l its.toArray n dd sl k t b0 b1 b2 (by omega) b3 (by rw [size_rep, List.size_toArray]; exact z1)) ⟨ho, ?_⟩⟩)
  rw [size_rep]
  exact laidH I (r.rep k.toNat) z2 q
def rCatL (K : PySem.W.Frag) : R2 := fun x y H Q => ∃ l b xs zs, x = .ref l ∧ y = .ref b ∧ SqL K H l xs ∧ SqL K H b zs ∧ xs.length + zs.length ≤ sizeLine ∧ ∀ p, H p = none → Q (.ref p) (upd H p (.lst (xs ++ zs)))
theorem op_catL : OpR X (binaryOp .Add) (rCatL X.K) := by
  intro pins s σ H x y v u Q I rx ry h
  obtain ⟨l, b, xs, zs, rfl, rfl, hH, hB, hz, q⟩ := h
  cases rx
  cases ry
  obtain ⟨its, r, ⟨o, n, e, hc, hd, hq⟩, _⟩ := I.list hH
  obtain ⟨its2, r2, ⟨o2, n2, e2, hc2, hd2, hq2⟩, _⟩ := I.list hB
  have hl := r.length
  have hl2 := r2.length
  obtain ⟨cls, dd, data, sl⟩ := o
  obtain ⟨cls2, dd2, data2, sl2⟩ := o2
  simp only at hc hd hq hc2 hd2 hq2
  subst hc hd hq hc2 hd2 hq2
  refine concat_meets ⟨_, e, rfl⟩ ⟨_, e2, rfl⟩ noFill_list_add seq_list_add F.slot_list_add F.entry_list_add (F.args_list_add_2 _ _) (list_addW l b its.toArray its2.toArray n n2 none none sl sl2 (by rw [List.size_toArray, List.size_toArray]; omega)) ⟨e, e2, ?_⟩
  have ea : its.toArray ++ its2.toArray = (its ++ its2).toArray := by simp
  rw [ea]
  exact ⟨.ref _, _, I.lnew (t' := s.toks) (r.append r2) (by rw [List.length_append]; omega), rfl, q _ I.fresh⟩
end
theorem OpR.no {X : Cx} {f : Value → Value → Sem Value} : OpR X f (fun _ _ _ _ => False) := fun _ _ _ _ _ _ _ _ _ _ _ _ h => h.elim
theorem CallR.no {X : Cx} {f : Value} : CallR X f (fun _ _ _ => False) := fun _ _ _ _ _ _ _ _ _ h => h.elim
def sm (i : Int) : Prop := -(2 ^ 200) < i ∧ i < 2 ^ 200
instance (i : Int) : Decidable (sm i) := inferInstanceAs (Decidable (_ ∧ _))
theorem sm_lit {i : Int} (h1 : -(2 ^ 200) < i) (h2 : i < 2 ^ 200) : sm i := ⟨h1, h2⟩
theorem log2_le {i : Int} (h1 : -(2 ^ 200) < i) (h2 : i < 2 ^ 200) : i.natAbs.log2 < 200 := by
  by_cases hz : i.natAbs = 0
  · rw [hz]; decide
  · exact (Nat.log2_lt hz).mpr (by omega)
def addD : D → D → Option C
  | .int i, .int j => some (.sh (.int (i + j)))
  | .str a, .str b => if a.length + b.length ≤ sizeLine then some (.sh (.str (a ++ b))) else none
  | .list a, .list b => if a.length + b.length ≤ sizeLine then some (.ls (a ++ b)) else none
  | .tuple a, .tuple b => if a.length + b.length ≤ sizeLine then some (.sh (.tuple (a ++ b))) else none
  | _, _ => none
def subD : D → D → Option C
  | .int i, .int j => some (.sh (.int (i - j)))
  | _, _ => none
def mulD : D → D → Option C
  | .int i, .int j => if sm i ∧ sm j then some (.sh (.int (i * j))) else none
  | .list a, .int k => if -(2 ^ 63) ≤ k ∧ k < 2 ^ 63 ∧ a.length * k.toNat ≤ sizeLine then some (.ls (List.replicate k.toNat a).flatten) else none
  | .tuple a, .int k => if (0 < a.length ∧ 2 ≤ k ∧ k ≤ 1000 ∧ a.length ≤ 1000) ∨ (-(2 ^ 63) ≤ k ∧ k < 2 ^ 63 ∧ (a.length = 0 ∨ k ≤ 1)) then some (.sh (.tuple (List.replicate k.toNat a).flatten)) else none
  | _, _ => none
def fdivD : D → D → Option C
  | .int i, .int j => if 0 < j ∧ sm j then some (.sh (.int (i / j))) else none
  | _, _ => none
def modD : D → D → Option C
  | .int i, .int j => if 0 < j then some (.sh (.int (i % j))) else none
  | _, _ => none
def powD : D → D → Option C
  | .int i, .int j => if 0 ≤ j ∧ j ≤ 1000000 ∧ i.natAbs < 2 ^ 64 then some (.sh (.int (i ^ j.toNat))) else none
  | _, _ => none
def shlD : D → D → Option C
  | .int i, .int j => if 0 ≤ j ∧ j ≤ 1000000 ∧ i.natAbs < 2 ^ 64 then some (.sh (.int (i * 2 ^ j.toNat))) else none
  | _, _ => none
def shrD : D → D → Option C
  | .int i, .int j => if 0 ≤ j then some (.sh (.int (i / 2 ^ j.toNat))) else none
  | _, _ => none
def andD : D → D → Option C
  | .int i, .int j => some (.sh (.int (Builtin.bitAnd i j)))
  | _, _ => none
def orD : D → D → Option C
  | .int i, .int j => some (.sh (.int (Builtin.bitOr i j)))
  | _, _ => none
def binD : Operator → D → D → Option C
  | .Add => addD
  | .Sub => subD
  | .Mult => mulD
  | .FloorDiv => fdivD
  | .Mod => modD
  | .Pow => powD
  | .LShift => shlD
  | .RShift => shrD
  | .BitAnd => andD
  | .BitOr => orD
  | _ => fun _ _ => none
section
variable {X : Cx}
/-- an operator on whole numbers -/
theorem ints_ok {f : Value → Value → Sem Value} {C0 : Int → Int → Prop} {g : Int → Int → Int} (h : OpR X f (rI C0 fun i j => .int (g i j))) {t : D → D → Option C}
    (ht : ∀ d e c, t d e = some c → ∃ i j, d = .int i ∧ e = .int j ∧ C0 i j ∧ c = .sh (.int (g i j))) : ∃ r, OpR X f r ∧ Fn2 X.K t r := by
  refine ⟨_, h, fun F H x y d e c Q s h1 h2 he q => ?_⟩
  obtain ⟨i, j, rfl, rfl, hc, rfl⟩ := ht d e c he
  exact ⟨i, j, rb_int h1, rb_int h2, hc, g_int s q⟩
theorem ints_ok0 {f : Value → Value → Sem Value} {g : Int → Int → Int} (h : OpR X f (rI0 fun i j => .int (g i j))) {t : D → D → Option C}
    (ht : ∀ d e c, t d e = some c → ∃ i j, d = .int i ∧ e = .int j ∧ c = .sh (.int (g i j))) : ∃ r, OpR X f r ∧ Fn2 X.K t r := by
  refine ⟨_, h, fun F H x y d e c Q s h1 h2 he q => ?_⟩
  obtain ⟨i, j, rfl, rfl, rfl⟩ := ht d e c he
  exact ⟨i, j, rb_int h1, rb_int h2, g_int s q⟩
theorem add_ok : ∃ r, OpR X (binaryOp .Add) r ∧ Fn2 X.K addD r := by
  refine ⟨_, op_add.or (op_add_str.or (op_catL.or op_catH)), fun F H x y d e c Q s h1 h2 he q => ?_⟩
  unfold addD at he
  split at he
  · cases he
    exact .inl ⟨_, _, rb_int h1, rb_int h2, g_int s q⟩
  · split at he
    · cases he
      exact .inr (.inl ⟨_, _, rb_str h1, rb_str h2, by assumption, g_str s q⟩)
    · cases he
  · split at he
    · rename_i hl
      cases he
      obtain ⟨a, vs, rfl, g1, g2⟩ := rb_lst s h1
      obtain ⟨b, ws, rfl, k1, k2⟩ := rb_lst s h2
      refine .inr (.inr (.inl ⟨a, b, vs, ws, rfl, rfl, g1, k1, by rw [g2.length, k2.length]; exact hl, g_lst s (g2.append k2) q⟩))
    · cases he
  · split at he
    · rename_i hl
      cases he
      obtain ⟨a, vs, rfl, g0, g1, g2⟩ := rb_tup s h1
      obtain ⟨b, ws, rfl, k0, k1, k2⟩ := rb_tup s h2
      refine .inr (.inr (.inr ⟨a, b, vs, ws, rfl, rfl, g1, k1, by rw [g2.length, k2.length]; exact hl, fun e => ?_, fun _ e => ?_, fun _ _ => g_tup s (g2.append k2) q⟩))
      · subst e
        have hz := g2.length
        have e2 : _ = [] := List.eq_nil_of_length_eq_zero hz.symm
        rw [e2] at q
        exact gv s (d := .tuple _) ⟨b, ws, rfl, k0, k2⟩ q
      · subst e
        have hz := k2.length
        have e2 : _ = [] := List.eq_nil_of_length_eq_zero hz.symm
        rw [e2, List.append_nil] at q
        exact gv s (d := .tuple _) ⟨a, vs, rfl, g0, g2⟩ q
    · cases he
  · cases he
def rRepL (K : PySem.W.Frag) : R2 := fun x y H Q => ∃ l k xs, x = .ref l ∧ y = .int k ∧ SqL K H l xs ∧ -(2 ^ 63) ≤ k ∧ k < 2 ^ 63 ∧ xs.length * k.toNat ≤ sizeLine ∧ ∀ p, H p = none → Q (.ref p) (upd H p (.lst (List.replicate k.toNat xs).flatten))
theorem op_repL : OpR X (binaryOp .Mult) (rRepL X.K) := by
  intro pins s σ H x y v u Q I rx ry h
  obtain ⟨l, k, xs, rfl, rfl, hH, h1, h2, hz, q⟩ := h
  cases rx
  obtain ⟨t, rfl⟩ := ry
  obtain ⟨its, r, ⟨o, n, e, hc, hd, hq⟩, _⟩ := I.list hH
  have hl := r.length
  obtain ⟨cls, dd, data, sl⟩ := o
  simp only at hc hd hq
  subst hc hd hq
  have hlen : its.toArray.size * k.toNat ≤ sizeLine := by rw [List.size_toArray, ← hl]; exact hz
  have hcap : ¬ its.toArray.size * k.toNat > (2 ^ 63 - 1) / 8 := by
    have : (sizeLine : Nat) ≤ (2 ^ 63 - 1) / 8 := by decide
    omega
  have hfit : ¬ (!Builtin.List.listFitsIndex k) = true := by
    rw [fitsIndex_both h1 h2]
    exact Bool.false_ne_true
  have hlong : ¬ Builtin.List.listTooLong (its.toArray.size * k.toNat) = true := by
    rw [notLongL hlen]
    exact Bool.false_ne_true
  have hnew : List.foldl (fun x1 x2 => x1 ++ x2) #[] (List.replicate (if its.toArray.isEmpty = true then 0 else k.toNat) its.toArray) = (List.replicate k.toNat its).flatten.toArray := by
    have f0 : ∀ m : Nat, List.foldl (fun x1 x2 => x1 ++ x2) #[] (List.replicate m its.toArray) = (List.replicate m its).flatten.toArray := fun m => by
      have := foldl_rep its m []
      rw [List.nil_append] at this
      exact this
    rw [f0]
    cases its with
    | nil => simp
    | cons a r' => rw [if_neg (by simp)]
  refine wpAny_binaryOp_repeat_ref (T := "list") (U := "int") (by decide) ⟨_, e, rfl⟩ (fun s' => typeIs_int s' k t) noFill_list_mul F.fills_int_mul F.slot_int_rmul repeat_list F.slot_int_index.lookup
    (call_meets F.slot_int_rmul (typeIs_int s k t) F.entry_int_rmul (F.args_int_rmul_2 _ _) (int_rmulW k t l its.toArray n none sl)
      ⟨e, rfl, ⟨_, e, rfl⟩, call_meets F.slot_list_mul ⟨_, e, rfl⟩ F.entry_list_mul (F.args_list_mul_2 _ _) (list_mulW l its.toArray n k t none sl hfit hcap hlong) ⟨e, ?_⟩⟩)
  rw [hnew]
  exact ⟨.ref _, _, I.lnew (t' := s.toks) (r.rep k.toNat) (by rw [PyProof.Rows.lm_len_rep_flat, Nat.mul_comm]; exact hz), rfl, q _ I.fresh⟩
theorem int2 {t : D → D → Option C} (hno : ∀ d e, (∀ i j, d = .int i → e = .int j → False) → t d e = none) {P : Int → Int → C → Prop} (hi : ∀ i j c, t (.int i) (.int j) = some c → P i j c) : ∀ d e c, t d e = some c → ∃ i j, d = .int i ∧ e = .int j ∧ P i j c := by
  intro d e c h
  by_cases hd : ∃ i, d = .int i
  · obtain ⟨i, rfl⟩ := hd
    by_cases he : ∃ j, e = .int j
    · obtain ⟨j, rfl⟩ := he
      exact ⟨i, j, rfl, rfl, hi i j c h⟩
    · rw [hno _ _ fun i' j _ z => he ⟨j, z⟩] at h
      cases h
  · rw [hno _ _ fun i j z _ => hd ⟨i, z⟩] at h
    cases h
theorem tuple_mul1 (l : Addr) (items : Array Value) (n : Nat) (dd : Option Addr) (sl : Array (Option Value)) (x : Int) (u : Tok) (c0 : (decide (x < -(2 ^ 63)) || decide (x ≥ 2 ^ 63)) = false) (c1 : (items.isEmpty || x == 1) = true) :
    Meets (Builtin.«tuple.__mul__» ⟨[.ref l, .int x u], []⟩) (fun _ R s => s.heap.get? l = some { cls := .type "tuple", dict := dd, data := .seq items n, slots := sl } ∧ R (.ok (.ret (Value.ref l))) s) := .of_wp fun prog w A R ⟨hp, g, d, tk, os⟩ ⟨hl, h⟩ => by
  have f1 := AutoSeq1.idx_int; wp_walk using wpAny_loadPart' hl
  repeat (first | (refine wpAny_ite_false (decide_eq_false (by rw [c0]; decide)) ?_; wp_walk using wpAny_loadPart' hl) | (refine wpAny_ite_true (decide_eq_true c1) ?_; wp_walk using wpAny_loadPart' hl))
  exact ⟨_, rfl, h⟩
theorem tuple_mul0 (l : Addr) (items : Array Value) (n : Nat) (dd : Option Addr) (sl : Array (Option Value)) (x : Int) (u : Tok) (c0 : (decide (x < -(2 ^ 63)) || decide (x ≥ 2 ^ 63)) = false) (c1 : (items.isEmpty || x == 1) = false) (c2 : (decide (x ≤ 0) || items.isEmpty) = true) :
    Meets (Builtin.«tuple.__mul__» ⟨[.ref l, .int x u], []⟩) (fun _ R s => s.heap.get? l = some { cls := .type "tuple", dict := dd, data := .seq items n, slots := sl } ∧ R (.ok (.ret (Value.ref s.heap.objs.size))) { s with heap := s.heap.push { cls := Value.type "tuple", data := Data.seq #[] } }) := .of_wp fun prog w A R ⟨hp, g, d, tk, os⟩ ⟨hl, h⟩ => by
  have f1 := AutoSeq1.idx_int; wp_walk using wpAny_loadPart' hl
  repeat (first | (refine wpAny_ite_false (decide_eq_false (by rw [c0]; decide)) ?_; wp_walk using wpAny_loadPart' hl) | (refine wpAny_ite_false (decide_eq_false (by rw [c1]; decide)) ?_; wp_walk using wpAny_loadPart' hl) | (refine wpAny_ite_true (decide_eq_true c2) ?_; wp_walk using wpAny_loadPart' hl))
  exact ⟨_, rfl, h⟩
def rRepT1 (K : PySem.W.Frag) : R2 := fun x y H Q => ∃ l k xs, x = .ref l ∧ y = .int k ∧ SqT K H l xs ∧ -(2 ^ 63) ≤ k ∧ k < 2 ^ 63 ∧ ((xs = [] ∨ k = 1) ∧ Q (.ref l) H ∨ xs ≠ [] ∧ k ≤ 0 ∧ ∀ (p : Addr) (o : Obj), o.dict = none → H p = none → Q (.ref p) (upd H p (.frz o (.tup []))))
theorem op_repT1 {X : Cx} : OpR X (binaryOp .Mult) (rRepT1 X.K) := by
  rintro pins s σ H x y v u Q I rx ry ⟨l, k, xs, rfl, rfl, hT, k0, k1, q⟩
  cases rx
  obtain ⟨t, rfl⟩ := ry
  obtain ⟨its, r, ⟨⟨cls, dd, data, sl⟩, ho, hc, n, hd⟩, hs⟩ := I.tuple hT
  cases (show cls = .type "tuple" from hc)
  cases (show data = .seq its.toArray n from hd)
  have le : its.length = xs.length := r.length.symm
  have b0 : (decide (k < -(2 ^ 63)) || decide (k ≥ 2 ^ 63)) = false := by simp; omega
  have tis : s.TypeIs (.ref l) "tuple" := ⟨_, ho, rfl⟩
  have road := fun (Q0 : Value → Shared → Prop) (E : Value → Shared → Prop) (m : wpAny (model X.prog X.w) X.A (call (.builtin "tuple.__mul__") [.ref l, .int k t]) Q0 E s) => wpAny_binaryOp_repeat_ref (T := "tuple") (U := "int") (by decide) tis (fun s' => typeIs_int s' k t) noFill_tuple_mul F.fills_int_mul F.slot_int_rmul repeat_tuple F.slot_int_index.lookup
    (call_meets F.slot_int_rmul (typeIs_int s k t) F.entry_int_rmul (F.args_int_rmul_2 _ _) (int_rmul_tuple k t l its.toArray n dd sl) ⟨ho, rfl, tis, m⟩)
  rcases q with ⟨hx, q⟩ | ⟨hx, hk, q⟩
  · have c1 : (its.toArray.isEmpty || k == 1) = true := by
      rcases hx with rfl | rfl
      · have : its = [] := List.eq_nil_of_length_eq_zero (by simpa using le)
        subst this
        rfl
      · simp
    exact road _ _ (call_meets F.slot_tuple_mul tis F.entry_tuple_mul (F.args_tuple_mul_2 _ _) (tuple_mul1 l its.toArray n dd sl k t b0 c1) ⟨ho, .ref l, H, I, rfl, q⟩)
  · have ne : its ≠ [] := by
      rintro rfl
      exact hx (List.eq_nil_of_length_eq_zero (by simpa using le.symm))
    have c1 : (its.toArray.isEmpty || k == 1) = false := by
      cases its with
      | nil => exact absurd rfl ne
      | cons a as => simp; omega
    have c2 : (decide (k ≤ 0) || its.toArray.isEmpty) = true := by simp [hk]
    refine road _ _ (call_meets F.slot_tuple_mul tis F.entry_tuple_mul (F.args_tuple_mul_2 _ _) (tuple_mul0 l its.toArray n dd sl k t b0 c1 c2) ⟨ho, laidH (us := []) I .nil (by simp) q⟩)
theorem mul_ok : ∃ r, OpR X (binaryOp .Mult) r ∧ Fn2 X.K mulD r := by
  refine ⟨_, op_mulW.or (op_repL.or (op_repH.or op_repT1)), fun F H x y d e c Q s h1 h2 he q => ?_⟩
  unfold mulD at he
  split at he
  · split at he
    · cases he
      rename_i hb
      exact .inl ⟨_, _, rb_int h1, rb_int h2, by have a := log2_le hb.1.1 hb.1.2; have b := log2_le hb.2.1 hb.2.2; show _ < _; omega, g_int s q⟩
    · cases he
  · split at he
    · rename_i hk
      cases he
      obtain ⟨a, vs, rfl, g1, g2⟩ := rb_lst s h1
      exact .inr (.inl ⟨a, _, vs, rfl, rb_int h2, g1, hk.1, hk.2.1, by rw [g2.length]; exact hk.2.2, g_lst s (Reps.replicate g2 _) q⟩)
    · cases he
  · split at he
    · rename_i hk
      cases he
      obtain ⟨a, vs, rfl, gF, g1, g2⟩ := rb_tup s h1
      have le := g2.length
      rcases hk with hk | ⟨k0, k1, hk⟩
      · refine .inr (.inr (.inl ⟨a, _, vs, rfl, rb_int h2, g1, ?_, hk.2.1, hk.2.2.1, by rw [le]; exact hk.2.2.2, g_tup s (Reps.replicate g2 _) q⟩))
        rintro rfl
        have := hk.1
        simp at le
        omega
      · refine .inr (.inr (.inr ⟨a, _, vs, rfl, rb_int h2, g1, k0, k1, ?_⟩))
        rename_i as z
        by_cases e : vs = [] ∨ z = 1
        · refine .inl ⟨e, ?_⟩
          have e2 : (List.replicate z.toNat as).flatten = as := by
            rcases e with rfl | rfl
            · have : as = [] := List.eq_nil_of_length_eq_zero (by simpa using le.symm)
              subst this
              simp
            · simp
          rw [e2] at q
          exact gv (d := .tuple as) s (show Rep X.K F (.ref a) (.tuple as) from ⟨a, vs, rfl, gF, g2⟩) q
        · simp only [not_or] at e
          have hz : z ≤ 0 := by
            rcases hk with hk | hk
            · exact absurd (List.eq_nil_of_length_eq_zero (by omega)) e.1
            · have := e.2
              omega
          have e2 : (List.replicate z.toNat as).flatten = [] := by
            have : z.toNat = 0 := by omega
            rw [this]
            simp
          rw [e2] at q
          exact .inr ⟨e.1, hz, g_tup (vs := []) (ds := []) s (by simp [Reps]) q⟩
    · cases he
  · cases he
theorem bin_ok (op : Operator) : ∃ r, OpR X (binaryOp op) r ∧ Fn2 X.K (binD op) r := by
  have no : ∀ op', binD op' = (fun _ _ => none) → ∃ r, OpR X (binaryOp op') r ∧ Fn2 X.K (binD op') r := fun op' h => ⟨_, OpR.no, fun F H x y d e c Q s _ _ he _ => by rw [h] at he; cases he⟩
  cases op with
  | Add => exact add_ok
  | Sub => exact ints_ok0 op_sub (int2 (fun d e h => by cases d <;> cases e <;> first | rfl | exact (h _ _ rfl rfl).elim) fun i j c h => by cases h; rfl)
  | Mult => exact mul_ok
  | FloorDiv => exact ints_ok op_fdivW (int2 (fun d e h => by cases d <;> cases e <;> first | rfl | exact (h _ _ rfl rfl).elim) fun i j c h => by
      simp only [binD, fdivD] at h
      split at h
      · rename_i hb
        cases h
        exact ⟨⟨hb.1, by have := log2_le hb.2.1 hb.2.2; omega⟩, rfl⟩
      · cases h)
  | Mod => exact ints_ok op_mod (int2 (fun d e h => by cases d <;> cases e <;> first | rfl | exact (h _ _ rfl rfl).elim) fun i j c h => by
      simp only [binD, modD] at h
      split at h
      · cases h; exact ⟨by assumption, rfl⟩
      · cases h)
  | Pow => exact ints_ok op_pow (int2 (fun d e h => by cases d <;> cases e <;> first | rfl | exact (h _ _ rfl rfl).elim) fun i j c h => by
      simp only [binD, powD] at h
      split at h
      · cases h; exact ⟨by assumption, rfl⟩
      · cases h)
  | LShift => exact ints_ok op_shl (int2 (fun d e h => by cases d <;> cases e <;> first | rfl | exact (h _ _ rfl rfl).elim) fun i j c h => by
      simp only [binD, shlD] at h
      split at h
      · cases h; exact ⟨by assumption, rfl⟩
      · cases h)
  | RShift => exact ints_ok op_shr (int2 (fun d e h => by cases d <;> cases e <;> first | rfl | exact (h _ _ rfl rfl).elim) fun i j c h => by
      simp only [binD, shrD] at h
      split at h
      · cases h; exact ⟨by assumption, rfl⟩
      · cases h)
  | BitAnd => exact ints_ok0 op_and (int2 (fun d e h => by cases d <;> cases e <;> first | rfl | exact (h _ _ rfl rfl).elim) fun i j c h => by cases h; rfl)
  | BitOr => exact ints_ok0 op_or (int2 (fun d e h => by cases d <;> cases e <;> first | rfl | exact (h _ _ rfl rfl).elim) fun i j c h => by cases h; rfl)
  | BitXor => exact no _ rfl
  | Div => exact no _ rfl
  | MatMult => exact no _ rfl
end
end L2.M
namespace L2.M
open PySem PySem.Spec PyProof.Rows
def scD : D → D → Bool
  | .none, .none => true
  | .none, .int _ => true
  | .none, .bool _ => true
  | .none, .str _ => true
  | .int _, .none => true
  | .int _, .int _ => true
  | .int _, .str _ => true
  | .bool _, .none => true
  | .bool _, .bool _ => true
  | .bool _, .str _ => true
  | .str _, .none => true
  | .str _, .int _ => true
  | .str _, .bool _ => true
  | .str _, .str _ => true
  | _, _ => false
/-- two tuples, one of them empty -/
def emD : D → D → Bool
  | .tuple ds, .tuple es => ds.isEmpty || es.isEmpty
  | _, _ => false
def eqD : D → D → Option C := fun d e => if scD d e || emD d e || (SeqAt.shaped d && SeqAt.shaped e) then some (.sh (.bool (PyData.eqv d e))) else none
def neD : D → D → Option C := fun d e => if scD d e || (SeqAt.shaped d && SeqAt.shaped e) then some (.sh (.bool (!PyData.eqv d e))) else none
def ltD : D → D → Option C
  | .int i, .int j => some (.sh (.bool (decide (i < j))))
  | .str i, .str j => some (.sh (.bool (decide (i.cps.toList < j.cps.toList))))
  | _, _ => none
def leD : D → D → Option C
  | .int i, .int j => some (.sh (.bool (decide (i ≤ j))))
  | _, _ => none
def gtD : D → D → Option C
  | .int i, .int j => some (.sh (.bool (decide (j < i))))
  | _, _ => none
def geD : D → D → Option C
  | .int i, .int j => some (.sh (.bool (decide (j ≤ i))))
  | _, _ => none
def isNon : D → Bool
  | .none => true
  | _ => false
def isD : D → D → Option C
  | d, .none => some (.sh (.bool (isNon d)))
  | .bool a, .bool b => some (.sh (.bool (decide (a = b))))
  | _, _ => none
def isnD : D → D → Option C
  | d, .none => some (.sh (.bool (!isNon d)))
  | .bool a, .bool b => some (.sh (.bool (!decide (a = b))))
  | _, _ => none
def inD : D → D → Option C := fun d e => match e with
  | .list ds => if SeqAt.shaped d && SeqAt.shaped (.list ds) then some (.sh (.bool (ds.any fun z => PyData.eqv z d))) else none
  | .tuple ds => if SeqAt.shaped d && SeqAt.shaped (.tuple ds) then some (.sh (.bool (ds.any fun z => PyData.eqv z d))) else none
  | _ => none
def ninD : D → D → Option C := fun d e => match e with
  | .list ds => if SeqAt.shaped d && SeqAt.shaped (.list ds) then some (.sh (.bool (!ds.any fun z => PyData.eqv z d))) else none
  | .tuple ds => if SeqAt.shaped d && SeqAt.shaped (.tuple ds) then some (.sh (.bool (!ds.any fun z => PyData.eqv z d))) else none
  | _ => none
def cmpD : CmpOp → D → D → Option C
  | .Eq => eqD
  | .NotEq => neD
  | .Lt => ltD
  | .LtE => leD
  | .Gt => gtD
  | .GtE => geD
  | .Is => isD
  | .IsNot => isnD
  | .In => inD
  | .NotIn => ninD
section
variable {X : Cx}
theorem isNon_ok {K : PySem.W.Frag} {F H : Hp} {x : V} {d : D} (h : RepB K F H x d) : decide (x = .non) = isNon d := by
  cases d with
  | none => rw [rb_non h]; rfl
  | bool b => rw [rb_bool h]; rfl
  | int b => rw [rb_int h]; rfl
  | str b => rw [rb_str h]; rfl
  | list b =>
    rcases h with ⟨a, vs, rfl, _⟩ | ⟨a, ws, es, rfl, _⟩ <;> rfl
  | tuple b =>
    rcases h with ⟨a, vs, rfl, _⟩ | ⟨a, ws, es, rfl, _⟩ <;> rfl
  | dict b =>
    rcases h with ⟨a, vs, rfl, _⟩ | ⟨a, ws, es, rfl, _⟩ <;> rfl
theorem sc_ok {K : PySem.W.Frag} {F H : Hp} {x y : V} {d e : D} (h1 : RepB K F H x d) (h2 : RepB K F H y e) (h : scD d e = true) : scal x y = true ∧ decide (x = y) = PyData.eqv d e := by
  have sb : ∀ {x : V} {d : D}, RepB K F H x d → (d = .none → x = .non) ∧ (∀ i, d = .int i → x = .int i) ∧ (∀ i, d = .bool i → x = .bl i) ∧ ∀ i, d = .str i → x = .str i := fun {x d} h =>
    ⟨fun e => rb_non (e ▸ h), fun i e => rb_int (e ▸ h), fun i e => rb_bool (e ▸ h), fun i e => rb_str (e ▸ h)⟩
  obtain ⟨a1, a2, a3, a4⟩ := sb h1
  obtain ⟨b1, b2, b3, b4⟩ := sb h2
  cases d <;> cases e <;> (try cases h) <;> first
    | (rw [a1 rfl, b1 rfl]; exact ⟨rfl, rfl⟩)
    | (rw [a1 rfl, b2 _ rfl]; exact ⟨rfl, rfl⟩)
    | (rw [a1 rfl, b3 _ rfl]; exact ⟨rfl, rfl⟩)
    | (rw [a1 rfl, b4 _ rfl]; exact ⟨rfl, rfl⟩)
    | (rw [a2 _ rfl, b1 rfl]; exact ⟨rfl, rfl⟩)
    | (rw [a2 _ rfl, b2 _ rfl]; exact ⟨rfl, by simp only [PyData.eqv]; exact dec_int⟩)
    | (rw [a2 _ rfl, b4 _ rfl]; exact ⟨rfl, rfl⟩)
    | (rw [a3 _ rfl, b1 rfl]; exact ⟨rfl, rfl⟩)
    | (rw [a3 _ rfl, b3 _ rfl]; exact ⟨rfl, by simp only [PyData.eqv]; exact dec_bl⟩)
    | (rw [a3 _ rfl, b4 _ rfl]; exact ⟨rfl, rfl⟩)
    | (rw [a4 _ rfl, b1 rfl]; exact ⟨rfl, rfl⟩)
    | (rw [a4 _ rfl, b2 _ rfl]; exact ⟨rfl, rfl⟩)
    | (rw [a4 _ rfl, b3 _ rfl]; exact ⟨rfl, rfl⟩)
    | (rw [a4 _ rfl, b4 _ rfl]; exact ⟨rfl, by simp only [PyData.eqv]; exact dec_str⟩)
def rEqE (K : PySem.W.Frag) : R2 := fun x y H Q => ∃ l b xs ys, x = .ref l ∧ y = .ref b ∧ SqT K H l xs ∧ SqT K H b ys ∧ (xs = [] ∨ ys = []) ∧ Q (.bl (xs.isEmpty && ys.isEmpty)) H
theorem op_eqE (hu : X.A.units + 64 < cLine) : OpR X (compareOp .Eq) (rEqE X.K) := by
  rintro pins s σ H x y v u Q I rx ry ⟨l, b, xs, ys, rfl, rfl, h1, h2, he, q⟩
  cases rx
  cases ry
  obtain ⟨is, r1, p1, _⟩ := I.tuple h1
  obtain ⟨js, r2, p2, _⟩ := I.tuple h2
  have l1 := r1.length
  have l2 := r2.length
  refine PySem.W.eq_tuplesT (n := 0) (e := fun _ => true) p1 p2 (fun j a c => ?_) (by omega) ⟨.bl (xs.isEmpty && ys.isEmpty), H, I, ?_, q⟩
  · exfalso
    simp at a c
    rcases he with rfl | rfl
    · simp at l1; omega
    · simp at l2; omega
  · have : ((List.range (min is.toArray.size js.toArray.size)).all (fun _ => true) && is.toArray.size == js.toArray.size) = (xs.isEmpty && ys.isEmpty) := by
      rcases he with rfl | rfl
      · have : is = [] := List.eq_nil_of_length_eq_zero (by simpa using l1.symm)
        subst this
        cases ys with
        | nil =>
          have : js = [] := List.eq_nil_of_length_eq_zero (by simpa using l2.symm)
          subst this
          rfl
        | cons y ys =>
          cases js with
          | nil => simp at l2
          | cons z zs => simp
      · have : js = [] := List.eq_nil_of_length_eq_zero (by simpa using l2.symm)
        subst this
        cases xs with
        | nil =>
          have : is = [] := List.eq_nil_of_length_eq_zero (by simpa using l1.symm)
          subst this
          rfl
        | cons y ys =>
          cases is with
          | nil => simp at l1
          | cons z zs => simp
    rw [this]
    exact rfl
theorem em_ok {K : PySem.W.Frag} {F H : Hp} {x y : V} {d e : D} (s : Same F H) (h1 : RepB K F H x d) (h2 : RepB K F H y e) (h : emD d e = true) : ∃ l b xs ys, x = .ref l ∧ y = .ref b ∧ SqT K H l xs ∧ SqT K H b ys ∧ (xs = [] ∨ ys = []) ∧ (xs.isEmpty && ys.isEmpty) = PyData.eqv d e := by
  have main : ∀ ds es : List D, d = .tuple ds → e = .tuple es → (ds = [] ∨ es = []) → ∃ l b xs ys, x = .ref l ∧ y = .ref b ∧ SqT K H l xs ∧ SqT K H b ys ∧ (xs = [] ∨ ys = []) ∧ (xs.isEmpty && ys.isEmpty) = PyData.eqv d e := by
    rintro ds es rfl rfl hh
    obtain ⟨a, vs, rfl, _, g1, r1⟩ := rb_tup s h1
    obtain ⟨b, ws, rfl, _, g2, r2⟩ := rb_tup s h2
    have l1 := r1.length
    have l2 := r2.length
    refine ⟨a, b, vs, ws, rfl, rfl, g1, g2, ?_, ?_⟩
    · rcases hh with rfl | rfl
      · exact .inl (List.eq_nil_of_length_eq_zero (by simpa using l1))
      · exact .inr (List.eq_nil_of_length_eq_zero (by simpa using l2))
    · have e1 : vs.isEmpty = ds.isEmpty := by cases vs <;> cases ds <;> simp_all
      have e2 : ws.isEmpty = es.isEmpty := by cases ws <;> cases es <;> simp_all
      rw [e1, e2]
      simp only [PyData.eqv]
      rcases hh with rfl | rfl
      · cases es <;> simp [PyData.eqvAll]
      · cases ds <;> simp [PyData.eqvAll]
  match d, e, h with
  | .tuple ds, .tuple es, h => exact main _ _ rfl rfl (by simpa [emD] using h)
theorem eq_ok (hu : X.A.units + 64 < cLine) : ∃ r, OpR X (compareOp .Eq) r ∧ Fn2 X.K eqD r := by
  refine ⟨_, (op_eqD hu).or ((op_eqE hu).or op_eq), fun F H x y d e c Q s h1 h2 he q => ?_⟩
  unfold eqD at he
  split at he
  · rename_i h
    simp only [Bool.or_eq_true, Bool.and_eq_true] at h
    cases he
    rcases h with (h | h) | h
    · obtain ⟨k1, k2⟩ := sc_ok h1 h2 h
      refine .inr (.inr ⟨k1, ?_⟩)
      rw [k2]
      exact g_bool s q
    · obtain ⟨l, b, xs, ys, rfl, rfl, g1, g2, g3, g4⟩ := em_ok s h1 h2 h
      refine .inr (.inl ⟨l, b, xs, ys, rfl, rfl, g1, g2, g3, ?_⟩)
      rw [g4]
      exact g_bool s q
    · exact .inl ⟨d, e, rb_dp s h1 (SeqAt.canLay_of_shaped h.1), rb_dp s h2 (SeqAt.canLay_of_shaped h.2), h.1, h.2, g_bool s q⟩
  · cases he
theorem ne_ok (hu : X.A.units + 64 < cLine) : ∃ r, OpR X (compareOp .NotEq) r ∧ Fn2 X.K neD r := by
  refine ⟨_, (op_neD hu).or op_ne, fun F H x y d e c Q s h1 h2 he q => ?_⟩
  unfold neD at he
  split at he
  · rename_i h
    simp only [Bool.or_eq_true, Bool.and_eq_true] at h
    cases he
    rcases h with h | h
    · obtain ⟨k1, k2⟩ := sc_ok h1 h2 h
      refine .inr ⟨k1, ?_⟩
      rw [k2]
      exact g_bool s q
    · exact .inl ⟨d, e, rb_dp s h1 (SeqAt.canLay_of_shaped h.1), rb_dp s h2 (SeqAt.canLay_of_shaped h.2), h.1, h.2, g_bool s q⟩
  · cases he
theorem lt_ok : ∃ r, OpR X (compareOp .Lt) r ∧ Fn2 X.K ltD r := by
  refine ⟨_, op_lt.or op_lt_str, fun F H x y d e c Q s h1 h2 he q => ?_⟩
  unfold ltD at he
  split at he
  · cases he; exact .inl ⟨_, _, rb_int h1, rb_int h2, g_bool s q⟩
  · cases he; exact .inr ⟨_, _, rb_str h1, rb_str h2, g_bool s q⟩
  · cases he
theorem is_ok : ∃ r, OpR X (compareOp .Is) r ∧ Fn2 X.K isD r := by
  refine ⟨_, op_isN.or op_isBl, fun F H x y d e c Q s h1 h2 he q => ?_⟩
  unfold isD at he
  split at he
  · cases he
    refine .inl ⟨rb_non h2, ?_⟩
    rw [isNon_ok h1]
    exact g_bool s q
  · cases he
    exact .inr ⟨_, _, rb_bool h1, rb_bool h2, g_bool s q⟩
  · cases he
theorem isn_ok : ∃ r, OpR X (compareOp .IsNot) r ∧ Fn2 X.K isnD r := by
  refine ⟨_, op_notN.or op_notBl, fun F H x y d e c Q s h1 h2 he q => ?_⟩
  unfold isnD at he
  split at he
  · cases he
    refine .inl ⟨rb_non h2, ?_⟩
    rw [isNon_ok h1]
    exact g_bool s q
  · cases he
    exact .inr ⟨_, _, rb_bool h1, rb_bool h2, g_bool s q⟩
  · cases he
def rAnyIn (K : PySem.W.Frag) : R2 := fun x y H Q => ∃ d ds, Dp K H x d ∧ (Dp K H y (.list ds) ∨ Dp K H y (.tuple ds)) ∧ SeqAt.shaped d = true ∧ (SeqAt.shaped (.list ds) = true ∨ SeqAt.shaped (.tuple ds) = true) ∧ Q (.bl (ds.any fun z => PyData.eqv z d)) H
theorem op_anyIn (hu : X.A.units + 65 < cLine) : OpR X (compareOp .In) (rAnyIn X.K) := by
  intro pins s σ H x y v u Q I rx ry h
  obtain ⟨d, ds, hd, he, sd, se, q⟩ := h
  obtain ⟨as, r1⟩ := Dp.reads I d x v hd rx
  have sa : PyData.canLayAll0 ds = true := se.elim (fun h => SeqAt.canLay_of_shaped h) (fun h => SeqAt.canLay_of_shaped h)
  rcases he with he | he
  · obtain ⟨bs, r2⟩ := Dp.reads I (.list ds) y u he ry
    exact SeqAt.in_list_reads r2 r1 sa (SeqAt.canLay_of_shaped sd) (room_in_shaped sd hu) ⟨.bl _, H, I, rfl, q⟩
  · obtain ⟨bs, r2⟩ := Dp.reads I (.tuple ds) y u he ry
    exact SeqAt.in_tuple_reads r2 r1 sa (SeqAt.canLay_of_shaped sd) (room_in_shaped sd hu) ⟨.bl _, H, I, rfl, q⟩
theorem in_ok (hu : X.A.units + 65 < cLine) : ∃ r, OpR X (compareOp .In) r ∧ Fn2 X.K inD r := by
  refine ⟨_, op_anyIn hu, fun F H x y d e c Q s h1 h2 he q => ?_⟩
  unfold inD at he
  split at he
  · split at he
    · rename_i h
      simp only [Bool.and_eq_true] at h
      cases he
      exact ⟨d, _, rb_dp s h1 (SeqAt.canLay_of_shaped h.1), .inl (rb_dp s h2 (SeqAt.canLay_of_shaped h.2)), h.1, .inl h.2, g_bool s q⟩
    · cases he
  · split at he
    · rename_i h
      simp only [Bool.and_eq_true] at h
      cases he
      exact ⟨d, _, rb_dp s h1 (SeqAt.canLay_of_shaped h.1), .inr (rb_dp s h2 (SeqAt.canLay_of_shaped h.2)), h.1, .inr h.2, g_bool s q⟩
    · cases he
  · cases he
def rAnyNotIn (K : PySem.W.Frag) : R2 := fun x y H Q => ∃ d ds, Dp K H x d ∧ (Dp K H y (.list ds) ∨ Dp K H y (.tuple ds)) ∧ SeqAt.shaped d = true ∧ (SeqAt.shaped (.list ds) = true ∨ SeqAt.shaped (.tuple ds) = true) ∧ Q (.bl (!ds.any fun z => PyData.eqv z d)) H
theorem op_anyNotIn (hu : X.A.units + 65 < cLine) : OpR X (compareOp .NotIn) (rAnyNotIn X.K) := by
  intro pins s σ H x y v u Q I rx ry h
  obtain ⟨d, ds, hd, he, sd, se, q⟩ := h
  obtain ⟨as, r1⟩ := Dp.reads I d x v hd rx
  have sa : PyData.canLayAll0 ds = true := se.elim (fun h => SeqAt.canLay_of_shaped h) (fun h => SeqAt.canLay_of_shaped h)
  rcases he with he | he
  · obtain ⟨bs, r2⟩ := Dp.reads I (.list ds) y u he ry
    exact SeqAt.notIn_list_reads r2 r1 sa (SeqAt.canLay_of_shaped sd) (room_in_shaped sd hu) ⟨.bl _, H, I, rfl, q⟩
  · obtain ⟨bs, r2⟩ := Dp.reads I (.tuple ds) y u he ry
    exact SeqAt.notIn_tuple_reads r2 r1 sa (SeqAt.canLay_of_shaped sd) (room_in_shaped sd hu) ⟨.bl _, H, I, rfl, q⟩
theorem nin_ok (hu : X.A.units + 65 < cLine) : ∃ r, OpR X (compareOp .NotIn) r ∧ Fn2 X.K ninD r := by
  refine ⟨_, op_anyNotIn hu, fun F H x y d e c Q s h1 h2 he q => ?_⟩
  unfold ninD at he
  split at he
  · split at he
    · rename_i h
      simp only [Bool.and_eq_true] at h
      cases he
      exact ⟨d, _, rb_dp s h1 (SeqAt.canLay_of_shaped h.1), .inl (rb_dp s h2 (SeqAt.canLay_of_shaped h.2)), h.1, .inl h.2, g_bool s q⟩
    · cases he
  · split at he
    · rename_i h
      simp only [Bool.and_eq_true] at h
      cases he
      exact ⟨d, _, rb_dp s h1 (SeqAt.canLay_of_shaped h.1), .inr (rb_dp s h2 (SeqAt.canLay_of_shaped h.2)), h.1, .inr h.2, g_bool s q⟩
    · cases he
  · cases he
theorem bools_ok {f : Value → Value → Sem Value} {g : Int → Int → Bool} (h : OpR X f (rI0 fun i j => .bl (g i j))) {t : D → D → Option C}
    (ht : ∀ d e c, t d e = some c → ∃ i j, d = .int i ∧ e = .int j ∧ c = .sh (.bool (g i j))) : ∃ r, OpR X f r ∧ Fn2 X.K t r := by
  refine ⟨_, h, fun F H x y d e c Q s h1 h2 he q => ?_⟩
  obtain ⟨i, j, rfl, rfl, rfl⟩ := ht d e c he
  exact ⟨i, j, rb_int h1, rb_int h2, g_bool s q⟩
theorem cmp_ok (hu : X.A.units + 65 < cLine) (op : CmpOp) : ∃ r, OpR X (compareOp op) r ∧ Fn2 X.K (cmpD op) r := by
  have hu' : X.A.units + 64 < cLine := by omega
  cases op with
  | Eq => exact eq_ok hu'
  | NotEq => exact ne_ok hu'
  | Lt => exact lt_ok
  | LtE => exact bools_ok op_le (int2 (fun d e h => by cases d <;> cases e <;> first | rfl | exact (h _ _ rfl rfl).elim) fun i j c h => by cases h; rfl)
  | Gt => exact bools_ok op_gt (int2 (fun d e h => by cases d <;> cases e <;> first | rfl | exact (h _ _ rfl rfl).elim) fun i j c h => by cases h; rfl)
  | GtE => exact bools_ok op_ge (int2 (fun d e h => by cases d <;> cases e <;> first | rfl | exact (h _ _ rfl rfl).elim) fun i j c h => by cases h; rfl)
  | Is => exact is_ok
  | IsNot => exact isn_ok
  | In => exact in_ok hu
  | NotIn => exact nin_ok hu
def negD : D → Option C
  | .int i => some (.sh (.int (-i)))
  | _ => none
theorem neg_ok : ∃ r, UnR X (unaryOp .USub) r ∧ Fn1 X.K negD r := by
  refine ⟨_, un_neg, fun F H x d c Q s h1 he q => ?_⟩
  unfold negD at he
  split at he
  · cases he; exact ⟨_, rb_int h1, g_int s q⟩
  · cases he
def ixD : D → D → Option C
  | .list ds, .int i => (atI ds i).map .sh
  | .tuple ds, .int i => (atI ds i).map .sh
  | .str z, .int i => if z.length ≤ sizeLine then (atI z.cps.toList i).map fun c => .sh (.str ⟨#[c]⟩) else none
  | _, _ => none
theorem Reps.atI {K : PySem.W.Frag} {F : Hp} {vs : List V} {ds : List D} {i : Int} {d : D} (h : Reps K F vs ds) (e : L2.atI ds i = some d) : ∃ v, L2.atI vs i = some v ∧ Rep K F v d := by
  unfold L2.atI at e ⊢
  rw [h.length]
  cases e1 : ixN ds.length i with
  | none => rw [e1] at e; cases e
  | some j =>
    rw [e1] at e
    exact h.get e
theorem ix_ok : ∃ r, IxR X r ∧ Fn2 X.K ixD r := by
  refine ⟨_, ix_seq, fun F H x y d e c Q s h1 h2 he q => ?_⟩
  unfold ixD at he
  split at he
  · simp only [Option.map_eq_some_iff] at he
    obtain ⟨d, hd, rfl⟩ := he
    obtain ⟨a, vs, rfl, g1, g2⟩ := rb_lst s h1
    rename_i ds i
    have hg : ∃ v, L2.atI vs i = some v ∧ Q v H := by
      obtain ⟨v, e1, e2⟩ := g2.atI hd
      exact ⟨v, e1, gv s e2 q⟩
    obtain ⟨v, e1, e2⟩ := hg
    exact .inl ⟨a, vs, _, v, rfl, rb_int h2, g1, e1, e2⟩
  · simp only [Option.map_eq_some_iff] at he
    obtain ⟨d, hd, rfl⟩ := he
    obtain ⟨a, vs, rfl, g0, g1, g2⟩ := rb_tup s h1
    obtain ⟨v, e1, e2⟩ := g2.atI hd
    exact .inr (.inl ⟨a, vs, _, v, rfl, rb_int h2, g1, e1, gv s e2 q⟩)
  · split at he
    · simp only [Option.map_eq_some_iff] at he
      obtain ⟨d, hd, rfl⟩ := he
      exact .inr (.inr ⟨_, _, _, rb_str h1, rb_int h2, by assumption, hd, g_str s q⟩)
    · cases he
  · cases he
def cutL {α : Type} (xs : List α) (lo hi : Option Int) : List α := (xs.drop (HT.sIx xs.length 0 lo)).take (HT.sIx xs.length xs.length hi - HT.sIx xs.length 0 lo)
def slD : D → Option Int → Option Int → Option C
  | .list ds, lo, hi => some (.ls (cutL ds lo hi))
  | .tuple ds, lo, hi => some (.sh (.tuple (cutL ds lo hi)))
  | .str z, lo, hi => if z.length ≤ sizeLine then some (.sh (.str (cutS z lo hi))) else none
  | _, _, _ => none
abbrev PM := Cs → Option (Option Int × Cs)
def mNoP : PM := fun ε => some (none, ε)
def mPt (m : OM) : PM := fun ε => do
  let (o, ε1) ← m ε
  let d ← bor ε1 o
  match d with
    | .int i => some (some i, ε1)
    | _ => none
def tP (K : Ek) (m : PM) : TO := fun σ H Q => ∃ F R ε o ε', Sep K F R H σ ε [] ∧ m ε = some (o, ε') ∧ ∀ F' H', Same F F' → Sep K F' R H' σ ε' [] → Q o H'
theorem _root_.L2.PO.weak {e : Option Expr} {t t' : TO} (h : PO X e t) (w : ∀ σ H Q, t' σ H Q → t σ H Q) : PO X e t' := ⟨fun pins s σ H Q I q => h.run pins s σ H Q I (w σ H Q q)⟩
theorem mp_none : PO X none (tP X.E mNoP) := po_none.weak fun σ H Q h => by
  obtain ⟨F, R, ε, o, ε', ok, e, q⟩ := h
  cases e
  exact q F H (Same.refl F) ok
theorem mp_some {e : Expr} {m : OM} (h : PE X e (tO X.E m)) : PO X (some e) (tP X.E (mPt m)) := (po_some h).weak fun σ H Q h => by
  obtain ⟨F, R, ε, o, ε', ok, e, q⟩ := h
  unfold mPt at e
  cases e1 : m ε with
  | none => simp [e1] at e
  | some p =>
    obtain ⟨o1, ε1⟩ := p
    cases e2 : bor ε1 o1 with
    | none => simp [e1, e2] at e
    | some d =>
      simp only [e1, e2, Option.bind_eq_bind, Option.bind_some] at e
      split at e
      · rename_i i
        cases e
        refine ⟨F, R, ε, o1, _, ok, e1, fun v F1 H1 fm1 v1 s1 => ?_⟩
        have hb : bors ε' [o1] = some [.int i] := by simp [bors, e2]
        rw [← List.append_nil (tmO [o1] [v])] at s1
        obtain ⟨x, ex, rx⟩ := (bors_ok s1 v1 hb).one
        cases ex
        exact ⟨i, rb_int rx, q F1 H1 fm1 (s1.drops _)⟩
      · cases e
/-- the value is looked at behind the parts: it must be frozen, or a list of its own -/
def mSl (m : OM) (lo hi : PM) : EM := fun ε => do
  let (o, ε1) ← m ε
  let (l, ε2) ← lo ε1
  let (h, ε3) ← hi ε2
  let d ← bor ε3 o
  let c ← slD d l h
  some (c, ε3)
theorem Reps.cut {K : PySem.W.Frag} {F : Hp} {vs : List V} {ds : List D} (h : Reps K F vs ds) (lo hi : Option Int) : Reps K F (cutV vs lo hi) (cutL ds lo hi) := by
  unfold cutV cutL
  rw [h.length]
  exact Reps.take _ (Reps.drop _ h)
theorem cut_whole {α : Type} {xs : List α} {lo hi : Option Int} (h : HT.sIx xs.length 0 lo = 0 ∧ HT.sIx xs.length xs.length hi = xs.length) : cutL xs lo hi = xs := by
  unfold cutL
  rw [h.1, h.2]
  simp
def rSlH (K : PySem.W.Frag) : V → Option Int → Option Int → Hp → VK → Prop := fun x lo hi H Q => ∃ a xs, x = .ref a ∧ SqT K H a xs ∧
  (HT.sIx xs.length 0 lo = 0 ∧ HT.sIx xs.length xs.length hi = xs.length → Q (.ref a) H) ∧ (¬ (HT.sIx xs.length 0 lo = 0 ∧ HT.sIx xs.length xs.length hi = xs.length) → ∀ (p : Addr) (o : Obj), o.dict = none → H p = none → Q (.ref p) (upd H p (.frz o (.tup (cutV xs lo hi)))))
theorem sl_tupH : SlR X (rSlH X.K) := by
  rintro pins s σ H x v vl vu lo hi sl Q I rx hs pl pu ⟨a, xs, rfl, hx, q1, q2⟩
  cases rx
  obtain ⟨its, r, ht, hz⟩ := I.tuple hx
  have le : its.toArray.size = xs.length := by rw [List.size_toArray]; exact r.length.symm
  refine ⟨"tuple", _, PyProof.Rows.slot_tuple_getitem.lookup, ht.typeIs, ?_⟩
  by_cases hw : HT.sIx xs.length 0 lo = 0 ∧ HT.sIx xs.length xs.length hi = xs.length
  · exact getItem_tuple_whole ht hs pl pu (by rw [le]; exact hw) ⟨.ref a, H, I, rfl, q1 hw⟩
  · refine HT.getItem_tuple_cut ht hs pl pu (by rw [le]; exact hw) ?_ (by rw [le]; exact hz)
    rw [le]
    exact laidH I ((r.drop (HT.sIx xs.length 0 lo)).take (HT.sIx xs.length xs.length hi - HT.sIx xs.length 0 lo)) (Nat.le_trans (cutV_length xs lo hi) hz) (q2 hw)
def slR (K : PySem.W.Frag) : V → Option Int → Option Int → Hp → VK → Prop := fun x lo hi H Q => rSlL K x lo hi H Q ∨ rSlH K x lo hi H Q ∨ rSlS x lo hi H Q
theorem sl_fn {K : PySem.W.Frag} {F H : Hp} {x : V} {d : D} {c : C} {lo hi : Option Int} {Q : VK} (s : Same F H) (h1 : RepB K F H x d) (he : slD d lo hi = some c) (q : ∀ v F' H', Grow K F H F' H' v c → Q v H') : slR K x lo hi H Q := by
  unfold slD at he
  split at he
  · cases he
    obtain ⟨a, vs, rfl, g1, g2⟩ := rb_lst s h1
    exact .inl ⟨a, vs, rfl, g1, g_lst s (g2.cut _ _) q⟩
  · cases he
    obtain ⟨a, vs, rfl, g0, g1, g2⟩ := rb_tup s h1
    refine .inr (.inl ⟨a, vs, rfl, g1, fun hw => ?_, fun _ => g_tup s (g2.cut _ _) q⟩)
    rw [g2.length] at hw
    rw [cut_whole hw] at q
    exact gv s (d := .tuple _) ⟨a, vs, rfl, g0, g2⟩ q
  · split at he
    · cases he
      exact .inr (.inr ⟨_, rb_str h1, by assumption, g_str s q⟩)
    · cases he
  · cases he
/-- the operands wait aside -/
theorem Sep.hides {K : Ek} {H : Hp} {σ : St} {ε : Cs} : ∀ {T0 : Tms} {F R : Hp}, Sep K F R H σ ε T0 → ∃ R1, Sep K F R1 H σ ε [] ∧ ∀ F' H' σ' ε' T', Same F F' → Sep K F' R1 H' σ' ε' T' → Sep K F' R H' σ' ε' (T0 ++ T')
  | [], F, R, s => ⟨R, s, fun F' H' σ' ε' T' _ s' => s'⟩
  | (v, c) :: T0, F, R, s => by
    obtain ⟨R1, _, s1, b1⟩ := s.hide
    obtain ⟨R2, s2, b2⟩ := Sep.hides s1
    exact ⟨R2, s2, fun F' H' σ' ε' T' fm s' => b1 F' H' σ' ε' _ fm (b2 F' H' σ' ε' T' fm s')⟩
theorem me_slice {e : Expr} {lo hi : Option Expr} {m : OM} {ml mh : PM} {p2 pos : Pos} (he : PE X e (tO X.E m)) (hl : PO X lo (tP X.E ml)) (hh : PO X hi (tP X.E mh)) : PE X (.Subscript e (.Slice lo hi none p2) pos) (tE X.E (mSl m ml mh)) :=
  (pe_slice (sl_list.or (sl_tupH.or sl_str)) he hl hh).weak fun σ H Q h => by
    obtain ⟨F, R, ε, c, ε', ok, e, q⟩ := h
    unfold mSl at e
    cases e1 : m ε with
    | none => simp [e1] at e
    | some p =>
      obtain ⟨o, ε1⟩ := p
      cases e2 : ml ε1 with
      | none => simp [e1, e2] at e
      | some p2 =>
        obtain ⟨l, ε2⟩ := p2
        cases e3 : mh ε2 with
        | none => simp [e1, e2, e3] at e
        | some p3 =>
          obtain ⟨u, ε3⟩ := p3
          cases e4 : bor ε3 o with
          | none => simp [e1, e2, e3, e4] at e
          | some d =>
            cases e5 : slD d l u with
            | none => simp [e1, e2, e3, e4, e5] at e
            | some c' =>
              simp [e1, e2, e3, e4, e5] at e
              obtain ⟨rfl, rfl⟩ := e
              refine ⟨F, R, ε, o, ε1, ok, e1, fun v F1 H1 fm1 v1 s1 => ?_⟩
              obtain ⟨R1, s1', back⟩ := s1.hides
              refine ⟨F1, R1, ε1, l, ε2, s1', e2, fun F2 H2 fm2 s2 => ⟨F2, R1, ε2, u, ε3, s2, e3, fun F3 H3 fm3 s3 => ?_⟩⟩
              have s3' := back F3 H3 σ ε3 [] (fm2.trans fm3) s3
              have hb : bors ε3 [o] = some [d] := by simp [bors, e4]
              obtain ⟨x, ex, rx⟩ := (bors_ok s3' v1 hb).one
              cases ex
              refine sl_fn s3'.sub rx e5 fun w F4 H4 g => ?_
              exact q w F4 H4 (((fm1.trans fm2).trans fm3).trans g.fm) ((s3'.drops _).res g)
def lenD : List D → Option C
  | [.list ds] => some (.sh (.int ds.length))
  | [.tuple ds] => some (.sh (.int ds.length))
  | [.str z] => if z.length ≤ sizeLine then some (.sh (.int z.length)) else none
  | _ => none
theorem len_ok : ∃ r, CallR X (.builtin "len") r ∧ FnB X.K lenD r := by
  refine ⟨_, call_len, fun F H vs ds c Q s hr he q => ?_⟩
  match ds, he, hr with
  | [.list ds], he, hr =>
    cases he
    obtain ⟨x, rfl, h1⟩ := hr.one
    obtain ⟨a, vs, rfl, g1, g2⟩ := rb_lst s h1
    refine ⟨_, ds.length, rfl, .inl ⟨vs, g1, g2.length.symm⟩, g_int s q⟩
  | [.tuple ds], he, hr =>
    cases he
    obtain ⟨x, rfl, h1⟩ := hr.one
    obtain ⟨a, vs, rfl, g0, g1, g2⟩ := rb_tup s h1
    refine ⟨_, ds.length, rfl, .inr ⟨vs, g1, g2.length.symm⟩, g_int s q⟩
  | [.str z], he, hr =>
    simp only [lenD] at he
    split at he
    · rename_i hz
      cases he
      obtain ⟨x, rfl, h1⟩ := hr.one
      rw [rb_str h1]
      exact ⟨_, z.length, rfl, ⟨hz, rfl⟩, g_int s q⟩
    · cases he
def intD : List D → Option C
  | [.int i] => some (.sh (.int i))
  | [.bool k] => some (.sh (.int (if k then 1 else 0)))
  | _ => none
theorem int_ok : ∃ r, CallR X (.type "int") r ∧ FnB X.K intD r := by
  refine ⟨_, call_int1, fun F H vs ds c Q s hr he q => ?_⟩
  match ds, he, hr with
  | [.int i], he, hr =>
    cases he
    obtain ⟨x, rfl, h1⟩ := hr.one
    rw [rb_int h1]
    exact .inl ⟨i, rfl, g_int s q⟩
  | [.bool k], he, hr =>
    cases he
    obtain ⟨x, rfl, h1⟩ := hr.one
    rw [rb_bool h1]
    exact .inr ⟨k, rfl, g_int s q⟩
def maxD : List D → Option C
  | [.int i, .int j] => some (.sh (.int (if j > i then j else i)))
  | _ => none
theorem max_ok (hc : X.calm = true) : ∃ r, CallR X (.builtin "max") r ∧ FnB X.K maxD r := by
  refine ⟨_, call_max2 hc, fun F H vs ds c Q s hr he q => ?_⟩
  match ds, he, hr with
  | [.int i, .int j], he, hr =>
    cases he
    obtain ⟨x, y, rfl, h1, h2⟩ := hr.two
    rw [rb_int h1, rb_int h2]
    exact ⟨i, j, rfl, g_int s q⟩
def minD : List D → Option C
  | [.int i, .int j] => some (.sh (.int (if j < i then j else i)))
  | _ => none
theorem min_ok (hc : X.calm = true) : ∃ r, CallR X (.builtin "min") r ∧ FnB X.K minD r := by
  refine ⟨_, call_min2 hc, fun F H vs ds c Q s hr he q => ?_⟩
  match ds, he, hr with
  | [.int i, .int j], he, hr =>
    cases he
    obtain ⟨x, y, rfl, h1, h2⟩ := hr.two
    rw [rb_int h1, rb_int h2]
    exact ⟨i, j, rfl, g_int s q⟩
def absD : List D → Option C
  | [.int i] => some (.sh (.int (if i < 0 then -i else i)))
  | _ => none
theorem abs_ok : ∃ r, CallR X (.builtin "abs") r ∧ FnB X.K absD r := by
  refine ⟨_, call_abs, fun F H vs ds c Q s hr he q => ?_⟩
  match ds, he, hr with
  | [.int i], he, hr =>
    cases he
    obtain ⟨x, rfl, h1⟩ := hr.one
    rw [rb_int h1]
    exact ⟨i, rfl, g_int s q⟩
def tupD : List D → Option C
  | [.list ds] => some (.sh (.tuple ds))
  | [.tuple ds] => some (.sh (.tuple ds))
  | _ => none
theorem call_tupleH : CallR X (.type "tuple") (fun xs H Q => ∃ p ys, xs = [.ref p] ∧ ((SqL X.K H p ys ∧ ∀ (l : Addr) (o : Obj), o.dict = none → H l = none → Q (.ref l) (upd H l (.frz o (.tup ys)))) ∨ (SqT X.K H p ys ∧ Q (.ref p) H))) := by
  rintro pins s σ H xs us Q I r ⟨p, ys, rfl, h⟩
  obtain ⟨u, rfl, rx⟩ := vals1 r
  cases rx
  rcases h with ⟨hq, q⟩ | ⟨hq, q⟩
  · obtain ⟨its, r', pl, hz⟩ := I.list hq
    have le := r'.length
    refine call_tuple_list pl.isList (fun h' kp => ?_) (by simp only [List.size_toArray] <;> omega)
    have I1 : Inv X pins σ H { s with heap := h' } := I.kept (t' := s.toks) kp
    exact laidH I1 r' hz q
  · obtain ⟨its, r', pl, hz⟩ := I.tuple hq
    exact call_tuple_same pl ⟨.ref p, H, I, rfl, q⟩
theorem tup_ok : ∃ r, CallR X (.type "tuple") r ∧ FnB X.K tupD r := by
  refine ⟨_, call_tupleH, fun F H vs ds c Q s hr he q => ?_⟩
  match ds, he, hr with
  | [.list ds], he, hr =>
    cases he
    obtain ⟨x, rfl, h1⟩ := hr.one
    obtain ⟨a, vs, rfl, g1, g2⟩ := rb_lst s h1
    exact ⟨a, vs, rfl, .inl ⟨g1, g_tup s g2 q⟩⟩
  | [.tuple ds], he, hr =>
    cases he
    obtain ⟨x, rfl, h1⟩ := hr.one
    obtain ⟨a, vs, rfl, g0, g1, g2⟩ := rb_tup s h1
    exact ⟨a, vs, rfl, .inr ⟨g1, gv s (d := .tuple _) ⟨a, vs, rfl, g0, g2⟩ q⟩⟩
def lstD : List D → Option C
  | [.list ds] => some (.ls ds)
  | [.tuple ds] => some (.ls ds)
  | _ => none
theorem lst_ok : ∃ r, CallR X (.type "list") r ∧ FnB X.K lstD r := by
  refine ⟨_, call_list_of, fun F H vs ds c Q s hr he q => ?_⟩
  match ds, he, hr with
  | [.list ds], he, hr =>
    cases he
    obtain ⟨x, rfl, h1⟩ := hr.one
    obtain ⟨a, vs, rfl, g1, g2⟩ := rb_lst s h1
    exact ⟨a, vs, rfl, .inl g1, g_lst s g2 q⟩
  | [.tuple ds], he, hr =>
    cases he
    obtain ⟨x, rfl, h1⟩ := hr.one
    obtain ⟨a, vs, rfl, g0, g1, g2⟩ := rb_tup s h1
    exact ⟨a, vs, rfl, .inr g1, g_lst s g2 q⟩
def repD : List D → Option C
  | [.none] => some (.sh (.str "None"))
  | [.bool b] => some (.sh (.str (if b then "True" else "False")))
  | [.int i] => if sm i then some (.sh (.str (toString i))) else none
  | _ => none
theorem rep_ok : ∃ r, CallR X (.builtin "repr") r ∧ FnB X.K repD r := by
  refine ⟨fun xs H Q => (xs = [.non] ∧ Q (.str "None") H) ∨ (∃ b, xs = [.bl b] ∧ Q (.str (if b then "True" else "False")) H) ∨ (∃ i, xs = [.int i] ∧ i.natAbs.log2 < 1920 ∧ Q (.str (toString i)) H), ?_, fun F H vs ds c Q s hr he q => ?_⟩
  · intro pins s σ H xs us Q I r h
    rcases h with ⟨rfl, q⟩ | ⟨b, rfl, q⟩ | ⟨i, rfl, hz, q⟩
    · obtain ⟨u, rfl, h⟩ := vals1 r
      cases h
      exact PySem.P.repr_of_none ⟨.str _, H, I.tok _, ⟨_, rfl⟩, q⟩
    · obtain ⟨u, rfl, h⟩ := vals1 r
      cases h
      exact PySem.P.repr_of_bool ⟨.str _, H, I.tok _, ⟨_, rfl⟩, q⟩
    · obtain ⟨u, rfl, t, rfl⟩ := vals1 r
      exact PySem.P.repr_of_int hz ⟨.str _, H, I.tok _, ⟨_, rfl⟩, q⟩
  match ds, he, hr with
  | [.none], he, hr =>
    cases he
    obtain ⟨x, rfl, h1⟩ := hr.one
    rw [rb_non h1]
    exact .inl ⟨rfl, g_str s q⟩
  | [.bool b], he, hr =>
    cases he
    obtain ⟨x, rfl, h1⟩ := hr.one
    rw [rb_bool h1]
    exact .inr (.inl ⟨b, rfl, g_str s q⟩)
  | [.int i], he, hr =>
    simp only [repD] at he
    split at he
    · rename_i hz
      cases he
      obtain ⟨x, rfl, h1⟩ := hr.one
      rw [rb_int h1]
      exact .inr (.inr ⟨i, rfl, by have := log2_le hz.1 hz.2; omega, g_str s q⟩)
    · cases he
end
end L2.M
namespace L2.M
open PySem PySem.Spec PyProof.Rows
abbrev BM := D → Cs → Option Cs
def bNm (i : Nat) : BM := fun d ε => if i < ε.length then some (ε.set i (.sh d)) else none
def bTps : List BM → List D → Cs → Option Cs
  | [], [], ε => some ε
  | b :: bs, d :: ds, ε => do
    let ε1 ← b d ε
    bTps bs ds ε1
  | _, _, _ => none
def bTup (bs : List BM) : BM := fun d ε => match d with
  | .tuple ds => if ds.length = bs.length then bTps bs ds ε else none
  | _ => none
/-- what a target leaves: the slots but S stay -/
structure Bnd (K : Ek) (F R H : Hp) (S : Nat → Prop) (σ : St) (ε : Cs) (H' : Hp) (σ' : St) (ε' : Cs) : Prop where
  sep : Sep K F R H' σ' ε' []
  st : ∀ i : Nat, ¬ S i → σ'[i]? = σ[i]?
  ln : σ'.length = σ.length
def Gd (K : Ek) (g : TG) (b : BM) (S : Nat → Prop) : Prop :=
  ∀ F R H σ ε x d ε' (Q : St → Hp → Prop), Sep K F R H σ ε [] → Rep K.1 F x d → b d ε = some ε' → (∀ H' σ', Bnd K F R H S σ ε H' σ' ε' → Q σ' H') → g x σ H Q
def Gds (K : Ek) (g : TGs) (b : List D → Cs → Option Cs) (S : Nat → Prop) : Prop :=
  ∀ F R H σ ε xs ds ε' (Q : St → Hp → Prop), Sep K F R H σ ε [] → Reps K.1 F xs ds → b ds ε = some ε' → (∀ H' σ', Bnd K F R H S σ ε H' σ' ε' → Q σ' H') → g xs σ H Q
section
variable {K : Ek} {F R H H1 H2 : Hp} {σ σ1 σ2 : St} {ε ε1 ε2 : Cs} {S S' : Nat → Prop}
theorem Bnd.trans (a : Bnd K F R H S σ ε H1 σ1 ε1) (b : Bnd K F R H1 S σ1 ε1 H2 σ2 ε2) : Bnd K F R H S σ ε H2 σ2 ε2 :=
  ⟨b.sep, fun i h => (b.st i h).trans (a.st i h), b.ln.trans a.ln⟩
theorem Bnd.imp (a : Bnd K F R H S σ ε H1 σ1 ε1) (h : ∀ i, S i → S' i) : Bnd K F R H S' σ ε H1 σ1 ε1 := ⟨a.sep, fun i n => a.st i fun z => n (h i z), a.ln⟩
theorem gd_name {i : Nat} : Gd K (gName i) (bNm i) (· = i) := by
  intro F R H σ ε x d ε' Q o r e q
  unfold bNm at e
  split at e
  · cases e
    exact q H _ ⟨(o.addSh r).store i, fun j h => List.getElem?_set_ne (Ne.symm h), by simp⟩
  · cases e
theorem gds_nil : Gds K gNil (bTps []) (fun _ => False) := by
  intro F R H σ ε xs ds ε' Q o r e q
  cases ds with
  | nil =>
    cases e
    exact ⟨r, q H σ ⟨o, fun _ _ => rfl, rfl⟩⟩
  | cons _ _ => simp [bTps] at e
theorem gds_cons {t : TG} {u : TGs} {b : BM} {bs : List BM} (h1 : Gd K t b S) (h2 : Gds K u (bTps bs) S') : Gds K (gCons t u) (bTps (b :: bs)) (fun i => S i ∨ S' i) := by
  intro F R H σ ε xs ds ε' Q o r e q
  cases ds with
  | nil => simp [bTps] at e
  | cons d ds =>
    obtain ⟨v, vr, rfl, r1, r2⟩ := r
    unfold bTps at e
    cases e1 : b d ε with
    | none => simp [e1] at e
    | some ε1 =>
      simp [e1] at e
      refine ⟨v, vr, rfl, h1 F R H σ ε v d ε1 _ o r1 e1 fun H1 σ1 b1 => ?_⟩
      exact h2 F R H1 σ1 ε1 vr ds ε' Q b1.sep r2 e fun H2 σ2 b2 => q H2 σ2 ((b1.imp fun _ z => .inl z).trans (b2.imp fun _ z => .inr z))
theorem gd_tup {t : TGs} {bs : List BM} {n : Nat} (hn : n = bs.length) (h : Gds K t (bTps bs) S) : Gd K (gTup K.1 n t) (bTup bs) S := by
  intro F R H σ ε x d ε' Q o r e q
  unfold bTup at e
  split at e
  · rename_i ds
    split at e
    · rename_i hl
      obtain ⟨a, vs, rfl, h1, h2⟩ := r
      exact ⟨a, vs, rfl, sameT o.sub h1.sq, by rw [h2.length, hl, hn], h F R H σ ε vs ds ε' Q o h2 e q⟩
    · cases e
  · cases e
end
def Src (K : Ek) (F R H : Hp) (σ : St) (ε : Cs) (J : It) (ds : List D) (ws : List Nat) : Prop :=
  ∃ G Y, Walk J ds.length G Y ∧ ∀ F2 H2 σ2 ε2, Same F F2 → Sep K F2 R H2 σ2 ε2 [] → (∀ i ∈ ws, σ2[i]? = σ[i]? ∧ ε2[i]? = ε[i]?) →
    G H2 ∧ ∀ i x H3, i < ds.length → Y i H2 x H3 → ∃ F3 d, ds[i]? = some d ∧ Rep K.1 F3 x d ∧ Grw F2 H2 F3 H3
/-- what waits aside comes back -/
def Back (K : Ek) (F R1 R : Hp) : Prop := ∀ F' H' σ' ε' T', Same F F' → Sep K F' R1 H' σ' ε' T' → Sep K F' R H' σ' ε' T'
abbrev SM := Cs → Option ((List D × List Nat) × Cs)
def tI (K : Ek) (m : SM) : TI := fun σ H Q => ∃ F R ε ds ws ε', Sep K F R H σ ε [] ∧ m ε = some ((ds, ws), ε') ∧ ∀ F' R' H' J, Same F F' → Sep K F' R' H' σ ε' [] → Back K F' R' R → Src K F' R' H' σ ε' J ds ws → Q J H'
def plOf : List Opd → List Nat
  | [] => []
  | .pl i :: os => i :: plOf os
  | .tm _ :: os => plOf os
def mSrc (kind : List D → Option (List D)) (ma : AM) : SM := fun ε => do
  let (os, ε1) ← ma ε
  let ds ← bors ε1 os
  let out ← kind ds
  some ((out, plOf os), ε1)
/-- the operands, looked at later -/
def Later (K : Ek) (F R : Hp) (σ : St) (ε : Cs) (ws : List Nat) (vs : List V) (ds : List D) : Prop := ∀ F2 H2 σ2 ε2, Same F F2 → Sep K F2 R H2 σ2 ε2 [] → (∀ i ∈ ws, σ2[i]? = σ[i]? ∧ ε2[i]? = ε[i]?) → RepBs K.1 F2 H2 vs ds
theorem opv_to {σ σ2 : St} : ∀ {os : List Opd} {vs : List V}, OpV σ vs os → (∀ i ∈ plOf os, σ2[i]? = σ[i]?) → OpV σ2 vs os
  | [], vs, h, k => by cases h; exact .nil
  | _ :: os, vs, h, k => by
    cases h with
    | pl hv h2 => exact .pl ((k _ (by simp [plOf])).trans hv) (opv_to h2 fun i hi => k i (by simp [plOf, hi]))
    | tm h2 => exact .tm (opv_to h2 k)
theorem bors_to {ε ε2 : Cs} : ∀ {os : List Opd} {ds : List D}, bors ε os = some ds → (∀ i ∈ plOf os, ε2[i]? = ε[i]?) → bors ε2 os = some ds
  | [], ds, h, k => h
  | o :: os, ds, h, k => by
    unfold bors at h ⊢
    have e1 : bor ε2 o = bor ε o := by
      cases o with
      | pl i => simp only [bor, k i (by simp [plOf])]
      | tm c => cases c <;> rfl
    have hk : ∀ i ∈ plOf os, ε2[i]? = ε[i]? := fun i hi => k i (by
      cases o with
      | pl j => simp [plOf, hi]
      | tm c => exact hi)
    rw [e1]
    cases e2 : bor ε o with
    | none => simp [e2] at h
    | some d =>
      cases e3 : bors ε os with
      | none => simp [e2, e3] at h
      | some ds2 =>
        rw [bors_to e3 hk]
        simpa [e2, e3] using h
theorem later_ok {K : Ek} {F R H : Hp} {σ : St} {ε : Cs} {os : List Opd} {vs : List V} {ds : List D} (s : Sep K F R H σ ε (tmO os vs)) (h : OpV σ vs os) (e : bors ε os = some ds) :
    ∃ R1, Sep K F R1 H σ ε [] ∧ Back K F R1 R ∧ Later K F R1 σ ε (plOf os) vs ds := by
  obtain ⟨R1, s1, back⟩ := s.hides
  refine ⟨R1, s1, fun F' H' σ' ε' T' fm s' => (back F' H' σ' ε' T' fm s').drops _, fun F2 H2 σ2 ε2 fm s2 k => ?_⟩
  exact bors_ok (back F2 H2 σ2 ε2 [] fm s2) (opv_to h fun i hi => (k i hi).1) (bors_to e fun i hi => (k i hi).2)
def itemsD : List D → Option (List D)
  | [.list ds] => some ds
  | [.tuple ds] => some ds
  | [.str z] => some (z.cps.toList.map fun c => .str ⟨#[c]⟩)
  | _ => none
def rangeD (lo c : Int) (n : Nat) : List D := (List.range n).map fun i => PyData.int (lo + (i : Nat) * c)
def rng1D : List D → Option (List D)
  | [.int j] => if -(2 ^ 62) ≤ j ∧ j < 2 ^ 62 then some (rangeD 0 1 j.toNat) else none
  | _ => none
theorem _root_.L2.PI.or {X : Cx} {tg e : Expr} {w1 w2 : TI} (a : PI X tg e w1) (b : PI X tg e w2) : PI X tg e (fun σ H R => w1 σ H R ∨ w2 σ H R) :=
  ⟨fun pins s σ H R I h => h.elim (a.run pins s σ H R I) (b.run pins s σ H R I)⟩
theorem _root_.L2.PI.weak {X : Cx} {tg e : Expr} {w1 w2 : TI} (a : PI X tg e w1) (h : ∀ σ H R, w2 σ H R → w1 σ H R) : PI X tg e w2 := ⟨fun pins s σ H R I q => a.run pins s σ H R I (h σ H R q)⟩
theorem src_parts {K : Ek} {kind : List D → Option (List D)} {ma : AM} {σ : St} {H : Hp} {Q : It → Hp → Prop} (h : tI K (mSrc kind ma) σ H Q) : tA K ma σ H fun vs H1 => ∃ F R ε ws ds out, Sep K F R H1 σ ε [] ∧ Later K F R σ ε ws vs ds ∧ kind ds = some out ∧
    ∀ F' H' J, Same F F' → Sep K F' R H' σ ε [] → Src K F' R H' σ ε J out ws → Q J H' := by
  obtain ⟨F, R, ε, ds, ws, ε', o, e, q⟩ := h
  unfold mSrc at e
  cases e1 : ma ε with
  | none => simp [e1] at e
  | some p =>
    obtain ⟨os, ε1⟩ := p
    cases e2 : bors ε1 os with
    | none => simp [e1, e2] at e
    | some ds' =>
      cases e3 : kind ds' with
      | none => simp [e1, e2, e3] at e
      | some out =>
        simp [e1, e2, e3] at e
        obtain ⟨⟨rfl, rfl⟩, rfl⟩ := e
        refine ⟨F, R, ε, os, ε1, o, e1, fun vs F1 H1 fm1 v1 s1 => ?_⟩
        obtain ⟨R1, s2, bk, lt⟩ := later_ok s1 v1 e2
        exact ⟨F1, R1, ε1, plOf os, ds', out, s2, lt, e3, fun F' H' J fm s' sr => q F' R1 H' J (fm1.trans fm) s' (fun F2 H2 σ2 ε2 T2 fm2 => bk F2 H2 σ2 ε2 T2 (fm.trans fm2)) sr⟩
theorem Later.to {K : Ek} {F F' R : Hp} {σ : St} {ε : Cs} {ws : List Nat} {vs : List V} {ds : List D} (l : Later K F R σ ε ws vs ds) (fm : Same F F') : Later K F' R σ ε ws vs ds := fun F2 H2 σ2 ε2 fm2 => l F2 H2 σ2 ε2 (fm.trans fm2)
theorem Later.now {K : Ek} {F R H : Hp} {σ : St} {ε : Cs} {ws : List Nat} {vs : List V} {ds : List D} (l : Later K F R σ ε ws vs ds) (s : Sep K F R H σ ε []) : RepBs K.1 F H vs ds := l F H σ ε (Same.refl F) s fun _ _ => ⟨rfl, rfl⟩
theorem walkL {K : PySem.W.Frag} {a : Addr} {n : Nat} : Walk (Itl K a) n (fun H => ∃ vs, SqL K H a vs ∧ vs.length = n) (fun i H x H' => H' = H ∧ ∀ vs, SqL K H a vs → vs[i]? = some x) :=
  ⟨fun i _ hi ⟨vs, q, e⟩ => ⟨vs, vs[i]'(by omega), q, by simp [show i < vs.length by omega]⟩, fun _ ⟨vs, q, e⟩ => ⟨vs, q, by omega⟩, fun _ _ _ _ _ _ y => y⟩
theorem RepBs.inj1 {K : PySem.W.Frag} {F H : Hp} {x : V} {d : D} (h : RepBs K F H [x] [d]) : RepB K F H x d := by
  cases h with
  | cons h _ => exact h
section
variable {X : Cx} {tg e : Expr} {m : OM} {ma : AM}
/-- for x in e, e a list, a tuple or a text -/
theorem mi_any (h : PE X e (tO X.E m)) : PI X tg e (tI X.E (mSrc itemsD (mCons m mNil))) := by
  refine ((pi_list h).or ((pi_tup h).or (pi_str h))).weak fun σ H Q q => ?_
  -- the data of the operand is told ahead
  obtain ⟨F0, R0, ε0, ds0, ws0, ε0', s0, e0, q0⟩ := q
  unfold mSrc mCons mNil at e0
  cases em : m ε0 with
  | none => simp [em] at e0
  | some p =>
    obtain ⟨o0, εm⟩ := p
    cases eb : bor εm o0 with
    | none => simp [em, bors, eb] at e0
    | some d =>
      cases ek : itemsD [d] with
      | none => simp [em, bors, eb, ek] at e0
      | some out =>
        simp [em, bors, eb, ek] at e0
        obtain ⟨⟨rfl, rfl⟩, rfl⟩ := e0
        have hb : bors εm [o0] = some [d] := by simp [bors, eb]
        have go : ∀ v F' H', Same F0 F' → OpV σ [v] [o0] → Sep X.E F' R0 H' σ εm (tmO [o0] [v]) → ∃ R1, Sep X.E F' R1 H' σ εm [] ∧ Later X.E F' R1 σ εm (plOf [o0]) [v] [d] ∧ ∀ J, Src X.E F' R1 H' σ εm J out (plOf [o0]) → Q J H' := fun v F' H' fm v1 s1 => by
          obtain ⟨R1, s2, bk, lt⟩ := later_ok s1 v1 hb
          exact ⟨R1, s2, lt, fun J sr => q0 F' R1 H' J fm s2 bk sr⟩
        match d, ek with
        | .list ds, ek =>
          cases ek
          refine .inl ⟨F0, R0, ε0, o0, εm, s0, em, fun v F1 H1 fm1 v1 s1 => ?_⟩
          obtain ⟨R1, s2, lt, q3⟩ := go v F1 H1 fm1 v1 s1
          obtain ⟨a, vs, rfl, g1, g2⟩ := rb_lst s2.sub (lt.now s2).inj1
          refine ⟨a, rfl, ⟨vs, g1⟩, q3 _ ⟨_, _, walkL, fun F2 H2 σ2 ε2 fm2 s3 hw => ?_⟩⟩
          obtain ⟨a', us, ea, k1, k2⟩ := rb_lst s3.sub (lt F2 H2 σ2 ε2 fm2 s3 hw).inj1
          cases ea
          refine ⟨⟨us, k1, k2.length⟩, fun i x H3 hi y => ?_⟩
          obtain ⟨rfl, y⟩ := y
          obtain ⟨w, j1, j2⟩ := k2.get (List.getElem?_eq_getElem hi)
          rw [y us k1] at j1
          cases j1
          exact ⟨F2, _, List.getElem?_eq_getElem hi, j2, Grw.refl s3.sub⟩
        | .tuple ds, ek =>
          cases ek
          refine .inr (.inl ⟨F0, R0, ε0, o0, εm, s0, em, fun v F1 H1 fm1 v1 s1 => ?_⟩)
          obtain ⟨R1, s2, lt, q3⟩ := go v F1 H1 fm1 v1 s1
          obtain ⟨a, vs, rfl, h2, _, h3⟩ := rb_tup s2.sub (lt.now s2).inj1
          refine ⟨a, rfl, ⟨vs, sameT s2.sub h2.sq⟩, q3 _ ⟨_, _, (show Walk (Itt X.K a) out.length (fun H => SqT X.K H a vs) (YAt vs) by rw [← h3.length]; exact walk_tup), fun F2 H2 σ2 ε2 fm2 s3 hw => ?_⟩⟩
          refine ⟨sameT s3.sub (sameT fm2 h2.sq), fun i x H3 hi y => ?_⟩
          obtain ⟨rfl, y⟩ := y
          obtain ⟨w, k1, k2⟩ := h3.get (List.getElem?_eq_getElem hi)
          rw [y] at k1
          cases k1
          exact ⟨F2, _, List.getElem?_eq_getElem hi, Rep.mono fm2 _ _ k2, Grw.refl s3.sub⟩
        | .str z, ek =>
          cases ek
          refine .inr (.inr ⟨F0, R0, ε0, o0, εm, s0, em, fun v F1 H1 fm1 v1 s1 => ?_⟩)
          obtain ⟨R1, s2, lt, q3⟩ := go v F1 H1 fm1 v1 s1
          refine ⟨z, rb_str (lt.now s2).inj1, q3 _ ⟨_, _, (show Walk (Its z) (z.cps.toList.map fun c => PyData.str ⟨#[c]⟩).length _ _ by rw [List.length_map, Array.length_toList]; exact walk_str), fun F2 H2 σ2 ε2 fm2 s3 hw => ?_⟩⟩
          refine ⟨trivial, fun i x H3 hi y => ?_⟩
          obtain ⟨rfl, c, y1, rfl⟩ := y
          refine ⟨F2, .str ⟨#[c]⟩, ?_, by simp [Rep], Grw.refl s3.sub⟩
          rw [List.getElem?_map, Array.getElem?_toList, y1]
          rfl
theorem src_range {K : Ek} {F R H : Hp} {σ : St} {ε : Cs} {lo : Int} {n : Nat} {ws : List Nat} : Src K F R H σ ε (Itr lo n) (rangeD lo 1 n) ws := by
  refine ⟨_, _, (show Walk (Itr lo n) (rangeD lo 1 n).length (fun _ => True) (YFn fun i => .int (lo + i)) by simp only [rangeD, List.length_map, List.length_range]; exact walk_range), fun F2 H2 σ2 ε2 fm2 s2 _ => ⟨trivial, fun i x H3 hi y => ?_⟩⟩
  obtain ⟨rfl, rfl⟩ := y
  refine ⟨F2, .int (lo + i), ?_, by simp [Rep], Grw.refl s2.sub⟩
  simp only [rangeD, List.length_map, List.length_range] at hi
  simp [rangeD, hi]
theorem mi_range1 {a : Expr} {p pos : Pos} (hg : Gl X "range") (hm : X.mg "range" = none) (ha : PA X [a] (tA X.E ma)) (hs : starEach [a] X.env = [(false, eval a X.env)]) : PI X tg (.Call (.Name "range" p) [a] [] pos) (tI X.E (mSrc rng1D ma)) := by
  refine (pi_range1 hg hm ha hs).weak fun σ H Q q => tA_mono (src_parts q) fun vs H1 h => ?_
  obtain ⟨F, R, ε, ws, ds, out, s, lt, ek, q⟩ := h
  have rb := lt.now s
  match ds, ek, rb with
  | [.int j], ek, rb =>
    simp only [rng1D] at ek
    split at ek
    · rename_i hj
      cases ek
      obtain ⟨x, rfl, h1⟩ := rb.one
      exact ⟨j, by rw [rb_int h1], hj.1, hj.2, q F H1 _ (Same.refl F) s src_range⟩
    · cases ek
end
end L2.M
namespace L2.M
open PySem PySem.Spec PyProof.Rows
def wipeC (ε : Cs) : List Nat → Cs
  | [] => ε
  | v :: vs => (wipeC ε vs).set v .no
def restC (ε ε1 : Cs) : List Nat → Cs
  | [] => ε
  | v :: vs => match ε1[v]? with
    | some c => (restC ε ε1 vs).set v c
    | none => restC ε ε1 vs
def sameC (ws : List Nat) (ε0 ε : Cs) : Prop := ∀ i ∈ ws, ε[i]? = ε0[i]?
open Classical in
noncomputable def lcL (ws : List Nat) (ε0 : Cs) (bind : BM) (tests : TM) (elt : EM) (own : List Nat) : List D → Nat → Cs → Option (List D × Cs)
  | [], _, ε => if sameC ws ε0 ε then some ([], ε) else none
  | d :: ds, n, ε => if sameC ws ε0 ε then do
      let ε1 ← bind d ε
      let (b, ε2) ← tests ε1
      if b then do
        let (c, ε3) ← elt ε2
        let e ← cD c
        if n < sizeLine then do
          let (r, ε4) ← lcL ws ε0 bind tests elt own ds (n + 1) (wipeC ε3 own)
          some (e :: r, ε4)
        else none
      else lcL ws ε0 bind tests elt own ds n (wipeC ε2 own)
    else none
noncomputable def mLc (src : SM) (bind : BM) (tests : TM) (elt : EM) (own : List Nat) : EM := fun ε => do
  let ((ds, ws), ε1) ← src ε
  if ws.all (fun i => !own.contains i) then do
    let (out, ε2) ← lcL ws ε1 bind tests elt own ds 0 (wipeC ε1 own)
    some (.ls out, restC ε2 ε1 own)
  else none
def mYes : TM := fun ε => some (true, ε)
section
variable {K : Ek} {F R H H' : Hp} {σ : St} {ε : Cs} {T : Tms} {v : V} {c : C} {a : Addr}
theorem rpcs_sh : ∀ {ds : List D} {vs : List V}, Reps K.1 F vs ds → RpCs K F H (vs.map some) (ds.map .sh) (List.replicate ds.length [])
  | [], vs, h => by cases (show vs = [] from h); exact ⟨rfl, rfl⟩
  | d :: ds, vs, ⟨v, r, h1, h2, h3⟩ => by
    subst h1
    exact ⟨some v, r.map some, [], _, rfl, rfl, ⟨rfl, v, rfl, h2⟩, rpcs_sh h3⟩
theorem flat_rep (n : Nat) : (List.replicate n ([] : List Addr)).flatten = [] := by
  induction n with
  | zero => rfl
  | succ n ih => rw [List.replicate_succ, List.flatten_cons, ih]; rfl
theorem rpcs_sh' : ∀ {ds : List D} {vs : List V} {fs : List (List Addr)}, RpCs K F H (vs.map some) (ds.map .sh) fs → Reps K.1 F vs ds ∧ fs.flatten = []
  | [], vs, fs, ⟨h1, h2⟩ => by
    rw [h2]
    exact ⟨show vs = [] by simpa using h1, rfl⟩
  | d :: ds, vs, fs, ⟨o, r, f, fr, h1, h2, ⟨h3, w, h4, h5⟩, h6⟩ => by
    cases vs with
    | nil => cases h1
    | cons v vs =>
      obtain ⟨rfl, rfl⟩ := List.cons.inj h1
      cases h4
      obtain ⟨k1, k2⟩ := rpcs_sh' h6
      exact ⟨⟨_, vs, rfl, h5, k1⟩, by rw [h2, List.flatten_cons, h3, k2]; rfl⟩
theorem rpc_toN {ds : List D} {o : Option V} {A : List Addr} (h : RpC K F H o (.ls ds) A) : RpC K F H o (.ob .ls (ds.map .sh)) A := by
  obtain ⟨a, vs, h1, h2, h3, h4⟩ := h
  exact ⟨a, vs, _, h1, by rw [flat_rep]; exact h2, h3, rpcs_sh h4⟩
theorem rpc_ofN {ds : List D} {o : Option V} {A : List Addr} (h : RpC K F H o (.ob .ls (ds.map .sh)) A) : RpC K F H o (.ls ds) A := by
  obtain ⟨a, vs, fs, h1, h2, h3, h4⟩ := h
  obtain ⟨k1, k2⟩ := rpcs_sh' h4
  exact ⟨a, vs, h1, by rw [h2, k2], h3, k1⟩
/-- a temporary's cell told otherwise -/
theorem Sep.recell {c' : C} (s : Sep K F R H σ ε ((v, c) :: T)) (h : ∀ A, RpC K F H (some v) c A → RpC K F H (some v) c' A) : Sep K F R H σ ε ((v, c') :: T) :=
  Sep.change (T1 := [(v, c)]) s fun gs k n _ => by
    obtain ⟨o, r, f, fr, e1, e2, k1, k2, k3⟩ := k
    obtain ⟨rfl, rfl⟩ := List.cons.inj e1
    subst e2 k3
    have e : ([f] : List (List Addr)).flatten = f := by simp
    rw [e] at n ⊢
    exact ⟨f, h f k1, n, fun b hb => .inl hb, fun b u _ e => e⟩
/-- one thing more in a list of own things -/
theorem Sep.appN {acc : List C} (s : Sep K F R H σ ε ((v, c) :: (.ref a, .ob .ls acc) :: T)) : ∃ ws, H a = some (.lst ws) ∧ ws.length = acc.length ∧ Sep K F R (upd H a (.lst (ws ++ [v]))) σ ε ((.ref a, .ob .ls (acc ++ [c])) :: T) := by
  obtain ⟨f0, ⟨a0, ws, fs0, e0, _, h0, r0⟩, _⟩ := s.drop.headT
  cases e0
  have h0 : H a = some (.lst ws) := h0
  refine ⟨ws, h0, by simpa using r0.len.1, ?_⟩
  refine Sep.change (T1 := [(v, c), (.ref a, .ob .ls acc)]) s fun gs k n _ => ?_
  obtain ⟨o, r, f, fr, e1, e2, k1, o', r', f', fr', e1', e2', k2, k3, k4⟩ := k
  obtain ⟨rfl, rfl⟩ := List.cons.inj e1
  obtain ⟨rfl, rfl⟩ := List.cons.inj e1'
  subst e2' e2 k4
  obtain ⟨b, us, fs, g1, g2, g3, g4⟩ := k2
  cases g1
  have g3 : H a = some (.lst us) := g3
  rw [h0] at g3
  cases g3
  have e : ([f, f'] : List (List Addr)).flatten = f ++ a :: fs.flatten := by simp [g2]
  rw [e] at n ⊢
  rw [List.nodup_append] at n
  obtain ⟨n1, n2, n3⟩ := n
  rw [List.nodup_cons] at n2
  have m1 : ∀ b ∈ f, b ≠ a := fun b hb => n3 b hb a List.mem_cons_self
  have m2 : ∀ b ∈ fs.flatten, b ≠ a := fun b hb z => n2.1 (z ▸ hb)
  refine ⟨a :: (fs ++ [f]).flatten, ⟨a, ws ++ [v], fs ++ [f], rfl, rfl, upd_same, ?_⟩, ?_, fun b hb => ?_, fun b u hb e => ?_⟩
  · rw [List.map_append]
    refine RpCs.append (RpCs.frame (Same.refl F) (fun b hb => upd_ne (m2 b hb)) g4) ⟨some v, [], f, [], rfl, rfl, RpC.frame (Same.refl F) (fun b hb => upd_ne (m1 b hb)) k1, rfl, rfl⟩
  · rw [List.flatten_append, List.nodup_cons, List.nodup_append]
    refine ⟨fun z => ?_, n2.2, by simpa using n1, fun x hx y hy z => ?_⟩
    · rcases List.mem_append.mp z with z | z
      · exact n2.1 z
      · exact m1 a (by simpa using z) rfl
    · have hy : y ∈ f := by simpa using hy
      exact n3 y hy x (List.mem_cons_of_mem _ hx) z.symm
  · left
    simp only [List.mem_cons, List.flatten_append, List.mem_append, List.flatten_cons, List.flatten_nil, List.append_nil] at hb ⊢
    rcases hb with hb | hb | hb
    · exact .inr (.inl hb)
    · exact .inr (.inr hb)
    · exact .inl hb
  · rw [upd_ne]
    · exact e
    · rintro rfl
      exact hb (by simp)
end
section
variable {K : Ek} {F R H : Hp} {σ : St} {ε : Cs} {T : Tms}
/-- a slot of which nothing is told may hold anything -/
theorem Sep.free (s : Sep K F R H σ ε T) {i : Nat} (h : ε[i]? = some .no) (o : Option V) : Sep K F R H (σ.set i o) ε T := by
  obtain ⟨a1, a2, a3, ⟨fs, gs, h1, h2, n, m⟩⟩ := s
  obtain ⟨o', f, e1, e2, e3⟩ := h1.get h
  have h1' := RpCs.set (o := o) (c := .no) (f := f) (K := K) (F := F) (H := H) e3 i h1
  rw [set_same h, set_same e2] at h1'
  exact ⟨a1, a2, a3, fs, gs, h1', h2, n, m⟩
theorem Sep.wipe1 (s : Sep K F R H σ ε T) (i : Nat) : Sep K F R H (σ.set i none) (ε.set i .no) T := by
  by_cases hi : i < ε.length
  · exact (s.dropAt i).free (by rw [List.getElem?_set_self hi]) none
  · have l := s.len
    rw [List.set_eq_of_length_le (by omega), List.set_eq_of_length_le (by omega)]
    exact s
theorem Sep.wipe (s : Sep K F R H σ ε T) : ∀ own : List Nat, Sep K F R H (L2.wipe σ own) (wipeC ε own) T
  | [] => s
  | i :: own => by
    unfold L2.wipe wipeC
    exact (Sep.wipe s own).wipe1 i
theorem Sep.hideAt (s : Sep K F R H σ ε []) (i : Nat) : ∃ R1, Sep K F R1 H (σ.set i none) (ε.set i .no) [] ∧ ∀ F' H' ε2 T', ε2.length = ε.length → Same F F' → Sep K F' R1 H' (σ.set i none) ε2 T' → Sep K F' R H' σ (match ε[i]? with | some c => ε2.set i c | none => ε2) T' := by
  have l := s.len
  cases hc : ε[i]? with
  | none =>
    have hi : ε.length ≤ i := List.getElem?_eq_none_iff.mp hc
    refine ⟨R, s.wipe1 i, fun F' H' ε2 T' _ fm s' => ?_⟩
    rw [List.set_eq_of_length_le (by omega)] at s'
    exact s'
  | some c =>
    have hi : i < ε.length := (List.getElem?_eq_some_iff.mp hc).1
    by_cases hn : c = .no
    · subst hn
      refine ⟨R, s.wipe1 i, fun F' H' ε2 T' l2 fm s' => ?_⟩
      have := (s'.dropAt i).free (i := i) (by rw [List.getElem?_set_self (by omega)]) σ[i]
      rw [List.set_set, set_same (List.getElem?_eq_getElem (by omega))] at this
      exact this
    · obtain ⟨v, hv⟩ := s.val hc hn
      obtain ⟨R1, _, s1, back⟩ := (s.take hc hv).hide
      refine ⟨R1, s1.free (by rw [List.getElem?_set_self hi]) none, fun F' H' ε2 T' l2 fm s' => ?_⟩
      have h1 := (s'.dropAt i).free (i := i) (by rw [List.getElem?_set_self (by omega)]) (some v)
      rw [List.set_set, set_same hv] at h1
      have h2 := (back F' H' _ _ _ fm h1).put hv
      rw [List.set_set] at h2
      exact h2
end
theorem wipe_get (σ : St) (i : Nat) : ∀ vs : List Nat, (wipe σ vs)[i]? = if i ∈ vs ∧ i < σ.length then some none else σ[i]?
  | [] => by simp [wipe]
  | v :: vs => by
    unfold wipe
    by_cases e : v = i
    · subst e
      by_cases h : v < σ.length
      · rw [List.getElem?_set_self (by rw [wipe_length]; exact h)]
        simp [h]
      · rw [List.getElem?_eq_none (by rw [List.length_set, wipe_length]; omega), if_neg (by simp [h]), List.getElem?_eq_none (by omega)]
    · rw [List.getElem?_set_ne e, wipe_get σ i vs]
      have : (i ∈ v :: vs) = (i ∈ vs) := by simp [Ne.symm e]
      simp only [this]
theorem wipeC_length (ε : Cs) : ∀ vs : List Nat, (wipeC ε vs).length = ε.length
  | [] => rfl
  | v :: vs => by unfold wipeC; rw [List.length_set, wipeC_length ε vs]
theorem wipeC_get (ε : Cs) (i : Nat) : ∀ vs : List Nat, (wipeC ε vs)[i]? = if i ∈ vs ∧ i < ε.length then some .no else ε[i]?
  | [] => by simp [wipeC]
  | v :: vs => by
    unfold wipeC
    by_cases e : v = i
    · subst e
      by_cases h : v < ε.length
      · rw [List.getElem?_set_self (by rw [wipeC_length]; exact h)]
        simp [h]
      · rw [List.getElem?_eq_none (by rw [List.length_set, wipeC_length]; omega), if_neg (by simp [h]), List.getElem?_eq_none (by omega)]
    · rw [List.getElem?_set_ne e, wipeC_get ε i vs]
      have : (i ∈ v :: vs) = (i ∈ vs) := by simp [Ne.symm e]
      simp only [this]
theorem restC_length (ε ε1 : Cs) : ∀ vs : List Nat, (restC ε ε1 vs).length = ε.length
  | [] => rfl
  | v :: vs => by
    unfold restC
    split
    · rw [List.length_set, restC_length ε ε1 vs]
    · exact restC_length ε ε1 vs
theorem restC_get (ε ε1 : Cs) (hl : ε.length = ε1.length) (i : Nat) : ∀ vs : List Nat, (restC ε ε1 vs)[i]? = if i ∈ vs then ε1[i]? else ε[i]?
  | [] => by simp [restC]
  | v :: vs => by
    unfold restC
    by_cases e : v = i
    · subst e
      split
      · rename_i c hc
        have hv : v < ε1.length := (List.getElem?_eq_some_iff.mp hc).1
        rw [List.getElem?_set_self (by rw [restC_length, hl]; exact hv)]
        simp [hc]
      · rename_i hc
        have hv : ¬ v < ε1.length := fun z => by rw [List.getElem?_eq_getElem z] at hc; cases hc
        rw [List.getElem?_eq_none (by rw [restC_length]; omega)]
        simp [hc]
    · have : (i ∈ v :: vs) = (i ∈ vs) := by simp [Ne.symm e]
      split
      · rw [List.getElem?_set_ne e, restC_get ε ε1 hl i vs]
        simp only [this]
      · rw [restC_get ε ε1 hl i vs]
        simp only [this]
section
variable {K : Ek} {F R H : Hp} {σ σ' : St} {ε ε1 : Cs} {T : Tms} {own : List Nat}
theorem Sep.hideOwn (s : Sep K F R H σ ε1 []) : ∀ own : List Nat, ∃ R1, Sep K F R1 H (L2.wipe σ own) (wipeC ε1 own) [] ∧ ∀ F' H' ε2 T', ε2.length = ε1.length → Same F F' → Sep K F' R1 H' (L2.wipe σ own) ε2 T' → Sep K F' R H' σ (restC ε2 ε1 own) T'
  | [] => ⟨R, s, fun F' H' ε2 T' _ _ s' => s'⟩
  | v :: vs => by
    obtain ⟨R1, s1, b1⟩ := Sep.hideOwn s vs
    obtain ⟨R2, s2, b2⟩ := s1.hideAt v
    refine ⟨R2, s2, fun F' H' ε2 T' l2 fm s' => ?_⟩
    have h1 := b2 F' H' ε2 T' (by rw [wipeC_length]; exact l2) fm s'
    have h2 := b1 F' H' _ T' (by split <;> simp [l2]) fm h1
    have e : restC (match (wipeC ε1 vs)[v]? with | some c => ε2.set v c | none => ε2) ε1 vs = restC ε2 ε1 (v :: vs) := by
      apply List.ext_getElem?
      intro j
      rw [restC_get _ _ (by split <;> simp [l2]), restC_get _ _ l2]
      by_cases hj : j ∈ vs
      · rw [if_pos hj, if_pos (by simp [hj])]
      · rw [if_neg hj]
        by_cases e : j = v
        · subst e
          rw [if_pos List.mem_cons_self, wipeC_get, if_neg fun z => hj z.1]
          cases q : ε1[j]? with
          | none =>
            have : ε1.length ≤ j := List.getElem?_eq_none_iff.mp q
            simp only
            exact List.getElem?_eq_none (by omega)
          | some c =>
            have : j < ε1.length := (List.getElem?_eq_some_iff.mp q).1
            simp only
            rw [List.getElem?_set_self (by omega)]
        · rw [if_neg (by simp [e, hj])]
          split
          · rw [List.getElem?_set_ne (Ne.symm e)]
          · rfl
    rw [e] at h2
    exact h2
theorem wipe_of_bnd {S : Nat → Prop} (hS : ∀ i, S i → i ∈ own) (h : ∀ i : Nat, ¬ S i → σ'[i]? = σ[i]?) (hl : σ'.length = σ.length) : L2.wipe σ' own = L2.wipe σ own := by
  apply List.ext_getElem?
  intro i
  rw [wipe_get, wipe_get, hl]
  by_cases hi : i ∈ own ∧ i < σ.length
  · rw [if_pos hi, if_pos hi]
  · rw [if_neg hi, if_neg hi]
    by_cases hs : S i
    · have := hS i hs
      have hn : ¬ i < σ.length := fun z => hi ⟨this, z⟩
      rw [List.getElem?_eq_none (by omega), List.getElem?_eq_none (by omega)]
    · exact h i hs
theorem wipe_wipe (σ : St) (own : List Nat) : L2.wipe (L2.wipe σ own) own = L2.wipe σ own := by
  apply List.ext_getElem?
  intro i
  rw [wipe_get, wipe_length, wipe_get]
  split <;> rfl
end
open Classical in
/-- .. by what becomes of an element -/
noncomputable def lcG (k : C → Option C) (ws : List Nat) (ε0 : Cs) (bind : BM) (tests : TM) (elt : EM) (own : List Nat) : List D → Nat → Cs → Option (List C × Cs)
  | [], _, ε => if sameC ws ε0 ε then some ([], ε) else none
  | d :: ds, n, ε => if sameC ws ε0 ε then do
      let ε1 ← bind d ε
      let (b, ε2) ← tests ε1
      if b then do
        let (c, ε3) ← elt ε2
        let e ← k c
        if n < sizeLine then do
          let (r, ε4) ← lcG k ws ε0 bind tests elt own ds (n + 1) (wipeC ε3 own)
          some (e :: r, ε4)
        else none
      else lcG k ws ε0 bind tests elt own ds n (wipeC ε2 own)
    else none
def frzC (c : C) : Option C := (cD c).map C.sh
theorem lcL_G {ws : List Nat} {ε0 : Cs} {bind : BM} {tests : TM} {elt : EM} {own : List Nat} : ∀ {ds : List D} {n : Nat} {ε : Cs} {out : List D} {ε' : Cs}, lcL ws ε0 bind tests elt own ds n ε = some (out, ε') → lcG frzC ws ε0 bind tests elt own ds n ε = some (out.map .sh, ε')
  | [], n, ε, out, ε', h => by
    unfold lcL at h
    unfold lcG
    split at h
    · rename_i hs
      cases h
      rw [if_pos hs]
      rfl
    · cases h
  | d :: ds, n, ε, out, ε', h => by
    unfold lcL at h
    unfold lcG
    split at h
    · rename_i hs
      rw [if_pos hs]
      cases e1 : bind d ε with
      | none => simp [e1] at h
      | some ε1 =>
        simp only [e1, Option.bind_eq_bind, Option.bind_some] at h ⊢
        cases e2 : tests ε1 with
        | none => simp [e2] at h
        | some p =>
          obtain ⟨b, ε2⟩ := p
          simp only [e2, Option.bind_some] at h ⊢
          cases b with
          | false =>
            simp only [Bool.false_eq_true, if_false] at h ⊢
            exact lcL_G h
          | true =>
            simp only [if_true] at h ⊢
            cases e3 : elt ε2 with
            | none => simp [e3] at h
            | some p3 =>
              obtain ⟨c, ε3⟩ := p3
              simp only [e3, Option.bind_some] at h ⊢
              cases e4 : cD c with
              | none => simp [e4] at h
              | some e =>
                simp only [e4, Option.bind_some] at h
                simp only [frzC, e4, Option.map_some, Option.bind_some]
                split at h
                · rename_i hn
                  rw [if_pos hn]
                  cases e5 : lcL ws ε0 bind tests elt own ds (n + 1) (wipeC ε3 own) with
                  | none => simp [e5] at h
                  | some p5 =>
                    obtain ⟨r, ε4⟩ := p5
                    simp [e5] at h
                    obtain ⟨rfl, rfl⟩ := h
                    rw [lcL_G e5]
                    rfl
                · cases h
    · cases h
/-- what may become of an element -/
def KpC (K : Ek) (k : C → Option C) : Prop := ∀ F R H σ ε T v c c', Sep K F R H σ ε ((v, c) :: T) → k c = some c' → ∃ F', Same F F' ∧ Sep K F' R H σ ε ((v, c') :: T)
theorem kp_frz {K : Ek} : KpC K frzC := fun F R H σ ε T v c c' s h => by
  unfold frzC at h
  cases e : cD c with
  | none => simp [e] at h
  | some d =>
    simp [e] at h
    subst h
    obtain ⟨F', fm, r, s'⟩ := s.freeze e
    exact ⟨F', fm, s'.addSh r⟩
section
variable {K : Ek}
theorem tE_lcG {k : C → Option C} (hk : KpC K k) {src : SM} {bind : BM} {tests : TM} {elt : EM} {own : List Nat} {g : TG} {S : Nat → Prop} (hg : Gd K g bind S) (hS : ∀ i, S i → i ∈ own) {σ : St} {H : Hp} {Q : VK}
    (h : ∃ F R ε ds ws ε1 out ε2, Sep K F R H σ ε [] ∧ src ε = some ((ds, ws), ε1) ∧ (∀ i ∈ ws, i ∉ own) ∧ lcG k ws ε1 bind tests elt own ds 0 (wipeC ε1 own) = some (out, ε2) ∧ ∀ v F' H', Same F F' → Sep K F' R H' σ (restC ε2 ε1 own) [(v, .ob .ls out)] → Q v H') :
    tLc (tI K src) g (tT K tests) (tE K elt) own σ H Q := by
  obtain ⟨F, R, ε, ds, ws, ε1, out, ε2, o, e1, hws, e2, q⟩ := h
  refine ⟨F, R, ε, ds, ws, ε1, o, e1, fun F1 R1 H1 J fm1 s1 bk sr Da hDa => ?_⟩
  obtain ⟨G, Y, w, hw⟩ := sr
  obtain ⟨R2, s2, bk2⟩ := s1.hideOwn own
  -- the walked thing is looked at from within: all of R1 stands in what R2 holds
  have look : ∀ {F2 H2 ε2' T'}, ε2'.length = ε1.length → Same F1 F2 → Sep K F2 R2 H2 (L2.wipe σ own) ε2' T' → (∀ i ∈ ws, ε2'[i]? = ε1[i]?) → G H2 ∧ ∀ i x H3, i < ds.length → Y i H2 x H3 → ∃ F3 d, ds[i]? = some d ∧ Rep K.1 F3 x d ∧ Grw F2 H2 F3 H3 := by
    intro F2 H2 ε2' T' l2 fm s' hq
    have s3 := (bk2 F2 H2 ε2' T' l2 fm s')
    have s4 : Sep K F2 R1 H2 σ (restC ε2' ε1 own) [] := by
      have := Sep.drops (T := []) T' (by simpa using s3)
      exact this
    refine hw F2 H2 σ _ fm s4 fun i hi => ⟨rfl, ?_⟩
    rw [restC_get _ _ l2, if_neg (hws i hi)]
    exact hq i hi
  refine lc_it w (fun i H2 => ∃ F2 ε2' acc rest, Same F1 F2 ∧ ε2'.length = ε1.length ∧ Sep K F2 R2 H2 (L2.wipe σ own) ε2' [(.ref Da, .ob .ls acc)] ∧ lcG k ws ε1 bind tests elt own (ds.drop i) acc.length ε2' = some (rest, ε2) ∧ acc ++ rest = out) ?_ ?_ ?_ ?_
  · -- the start
    refine ⟨F1, wipeC ε1 own, [], out, Same.refl F1, wipeC_length _ _, ?_, e2, rfl⟩
    exact (s2.newL (vs := []) (ds := []) hDa rfl).recell fun A h => rpc_toN h
  · -- what is walked stands
    rintro i H2 _ ⟨F2, ε2', acc, rest, fm, l2, s3, C1, C2⟩
    have hsame : sameC ws ε1 ε2' := by
      cases hd : ds.drop i with
      | nil =>
        rw [hd] at C1
        unfold lcG at C1
        split at C1
        · assumption
        · cases C1
      | cons d r =>
        rw [hd] at C1
        unfold lcG at C1
        split at C1
        · assumption
        · cases C1
    exact (look l2 fm s3 hsame).1
  · -- one turn
    rintro i x H2 H3 hi ⟨F2, ε2', acc, rest, fm, l2, s3, C1, C2⟩ y
    have hd : ds.drop i = ds[i] :: ds.drop (i + 1) := by rw [List.drop_eq_getElem_cons hi]
    rw [hd] at C1
    unfold lcG at C1
    split at C1
    · rename_i hsame
      obtain ⟨_, hy⟩ := look l2 fm s3 hsame
      obtain ⟨F3, d, hdi, rd, gr⟩ := hy i x H3 hi y
      rw [List.getElem?_eq_getElem hi] at hdi
      cases hdi
      have s4 := s3.grow gr
      obtain ⟨R3, _, s5, b5⟩ := s4.hide
      have fm3 := fm.trans gr.fm
      cases eb : bind ds[i] ε2' with
      | none => simp [eb] at C1
      | some εb =>
        refine hg F3 R3 H3 _ ε2' x _ εb _ s5 rd eb fun H4 σ2 bd => ?_
        have hwp : L2.wipe σ2 own = L2.wipe σ own := by rw [wipe_of_bnd hS bd.st bd.ln, wipe_wipe]
        refine ⟨hwp, ?_⟩
        have lb : εb.length = ε1.length := by rw [← bd.sep.len, bd.ln, s5.len]; exact l2
        cases et : tests εb with
        | none => simp [eb, et] at C1
        | some pt =>
          obtain ⟨b, εt⟩ := pt
          refine ⟨F3, R3, εb, b, εt, bd.sep, et, fun F5 H5 fm5 s6 => ?_⟩
          have lt : εt.length = ε1.length := by rw [← s6.len, bd.sep.len]; exact lb
          simp only [eb, et, Option.bind_eq_bind, Option.bind_some] at C1
          cases b with
          | false =>
            simp only [Bool.false_eq_true, if_false] at C1 ⊢
            have s7 := s6.wipe own
            rw [hwp] at s7
            exact ⟨F5, wipeC εt own, acc, rest, fm3.trans fm5, by rw [wipeC_length]; exact lt, b5 F5 H5 _ _ _ fm5 s7, C1, C2⟩
          | true =>
            simp only [if_true] at C1 ⊢
            cases ee : elt εt with
            | none => simp [ee] at C1
            | some pe =>
              obtain ⟨ce, εe⟩ := pe
              refine ⟨F5, R3, εt, ce, εe, s6, ee, fun v F6 H6 fm6 s7 => ?_⟩
              have le : εe.length = ε1.length := by rw [← s7.len, s6.len]; exact lt
              simp only [ee, Option.bind_some] at C1
              cases ec : k ce with
              | none => simp [ec] at C1
              | some c' =>
                simp only [ec, Option.bind_some] at C1
                split at C1
                · rename_i hsz
                  cases er : lcG k ws ε1 bind tests elt own (ds.drop (i + 1)) (acc.length + 1) (wipeC εe own) with
                  | none => simp [er] at C1
                  | some pr =>
                    obtain ⟨rr, εr⟩ := pr
                    simp [er] at C1
                    obtain ⟨rfl, rfl⟩ := C1
                    obtain ⟨F7, fm7, s8⟩ := hk _ _ _ _ _ _ _ _ _ s7 ec
                    have s9 := s8.wipe own
                    rw [hwp] at s9
                    -- the element waits aside while the list is fetched
                    have s10 : Sep K F7 R2 H6 (L2.wipe σ own) (wipeC εe own) ((v, c') :: (.ref Da, .ob .ls acc) :: []) := by
                      have := b5 F7 H6 _ _ [(v, c')] (fm5.trans (fm6.trans fm7)) s9
                      obtain ⟨a1, a2, a3, ⟨fs, gs, h1, ⟨o1, r1, f1, fr1, e1, e2, k1, ⟨o2, r2, f2, fr2, e3, e4, k2, k3, k4⟩⟩, n, m⟩⟩ := this
                      obtain ⟨rfl, rfl⟩ := List.cons.inj e1
                      obtain ⟨rfl, rfl⟩ := List.cons.inj e3
                      subst e2 e4 k4
                      have ef : ([f1, f2] : List (List Addr)).flatten = f1 ++ f2 := by simp
                      have ef2 : ([f2, f1] : List (List Addr)).flatten = f2 ++ f1 := by simp
                      rw [ef] at n m
                      refine ⟨a1, a2, a3, fs, [f2, f1], h1, ⟨_, _, _, _, rfl, rfl, k2, ⟨_, _, _, _, rfl, rfl, k1, rfl, rfl⟩⟩, ?_, fun b hb => m b ?_⟩
                      · rw [ef2]
                        rw [List.nodup_append, List.nodup_append] at n ⊢
                        refine ⟨n.1, ⟨n.2.1.2.1, n.2.1.1, fun a ha b hb => Ne.symm (n.2.1.2.2 b hb a ha)⟩, fun a ha b hb => n.2.2 a ha b ?_⟩
                        simp only [List.mem_append] at hb ⊢
                        exact hb.symm
                      · rw [ef2] at hb
                        simp only [List.mem_append] at hb ⊢
                        rcases hb with hb | hb | hb
                        · exact .inl hb
                        · exact .inr (.inr hb)
                        · exact .inr (.inl hb)
                    obtain ⟨ws', g1, g2, s11⟩ := s10.appN
                    refine ⟨ws', g1, by omega, F7, wipeC εe own, acc ++ [c'], rr, (fm3.trans fm5).trans (fm6.trans fm7), by rw [wipeC_length]; exact le, s11, by rw [List.length_append]; exact er, by simpa using C2⟩
                · cases C1
    · cases C1
  · -- the end
    rintro H2 ⟨F2, ε2', acc, rest, fm, l2, s3, C1, C2⟩
    rw [List.drop_length] at C1
    unfold lcG at C1
    split at C1
    · cases C1
      rw [List.append_nil] at C2
      subst C2
      exact q _ F2 H2 (fm1.trans fm) (bk F2 H2 σ _ _ fm (bk2 F2 H2 ε2 _ l2 fm s3))
    · cases C1
theorem tE_lc {src : SM} {bind : BM} {tests : TM} {elt : EM} {own : List Nat} {g : TG} {S : Nat → Prop} (hg : Gd K g bind S) (hS : ∀ i, S i → i ∈ own) {σ : St} {H : Hp} {Q : VK} (h : tE K (mLc src bind tests elt own) σ H Q) :
    tLc (tI K src) g (tT K tests) (tE K elt) own σ H Q := by
  obtain ⟨F, R, ε, c, ε', o, e, q⟩ := h
  unfold mLc at e
  cases e1 : src ε with
  | none => simp [e1] at e
  | some p =>
    obtain ⟨⟨ds, ws⟩, ε1⟩ := p
    simp only [e1, Option.bind_eq_bind, Option.bind_some] at e
    split at e
    · rename_i hws
      cases e2 : lcL ws ε1 bind tests elt own ds 0 (wipeC ε1 own) with
      | none => simp [e2] at e
      | some p2 =>
        obtain ⟨out, ε2⟩ := p2
        simp [e2] at e
        obtain ⟨rfl, rfl⟩ := e
        exact tE_lcG kp_frz hg hS ⟨F, R, ε, ds, ws, ε1, _, ε2, o, e1, by simpa using hws, lcL_G e2, fun v F' H' fm s => q v F' H' fm (s.recell fun A h => rpc_ofN h)⟩
    · cases e
end
end L2.M
namespace L2.M
open PySem PySem.Spec PyProof.Rows
abbrev Xw := Value → Option Addr → St → Hp → Prop
inductive Fl where
  | nx | bk | ct | rt (c : C) | xc (x : Xn)
abbrev XM := Cs → Option (Fl × Cs)
/-- the slots in io stay -/
structure StS (io : List Nat) (σ σ' : St) : Prop where
  st : ∀ i ∈ io, σ'[i]? = σ[i]?
  ln : σ'.length = σ.length
theorem StS.refl {io : List Nat} (σ : St) : StS io σ σ := ⟨fun _ _ => rfl, rfl⟩
theorem StS.trans {io : List Nat} {σ σ1 σ2 : St} (a : StS io σ σ1) (b : StS io σ1 σ2) : StS io σ σ2 := ⟨fun i h => (b.st i h).trans (a.st i h), b.ln.trans a.ln⟩
theorem StS.imp {io io' : List Nat} {σ σ1 : St} (a : StS io' σ σ1) (h : ∀ i ∈ io, i ∈ io') : StS io σ σ1 := ⟨fun i hi => a.st i (h i hi), a.ln⟩
theorem StS.set {io : List Nat} {σ : St} {i : Nat} {o : Option V} (h : i ∉ io) : StS io σ (σ.set i o) := ⟨fun j hj => List.getElem?_set_ne (by rintro rfl; exact h hj), by simp⟩
theorem Bnd.sts {K : Ek} {F R H H1 : Hp} {S : Nat → Prop} {σ σ1 : St} {ε ε1 : Cs} {io : List Nat} (b : Bnd K F R H S σ ε H1 σ1 ε1) (h : ∀ i, S i → i ∉ io) : StS io σ σ1 := ⟨fun i hi => b.st i fun z => h i z hi, b.ln⟩
def Fin (K : Ek) (R : Hp) (De : Ends) (W : Xw) (F' H' : Hp) (σ' : St) (ε' : Cs) : Fl → Prop
  | .nx => Sep K F' R H' σ' ε' [] → De.nx σ' H'
  | .bk => Sep K F' R H' σ' ε' [] → De.bk σ' H'
  | .ct => Sep K F' R H' σ' ε' [] → De.ct σ' H'
  | .rt c => ∀ v, Sep K F' R H' σ' ε' [(v, c)] → De.rt v H'
  | .xc x => ∀ cls d, Sep K F' R H' σ' ε' [] → RepX K F' cls d x → W cls d σ' H'
def tS (K : Ek) (W : Xw) (io : List Nat) (m : XM) : TS := fun De σ H => ∃ F R ε f ε', Sep K F R H σ ε [] ∧ m ε = some (f, ε') ∧ ∀ F' H' σ', Same F F' → StS io σ σ' → Fin K R De W F' H' σ' ε' f
theorem Fin.back {K : Ek} {F1 R R1 : Hp} {De : Ends} {W : Xw} {F' H' : Hp} {σ' : St} {ε' : Cs} {f : Fl} (bk : Back K F1 R1 R) (fm : Same F1 F') (h : Fin K R De W F' H' σ' ε' f) : Fin K R1 De W F' H' σ' ε' f := by
  cases f with
  | nx => exact fun s => h (bk F' H' σ' ε' [] fm s)
  | bk => exact fun s => h (bk F' H' σ' ε' [] fm s)
  | ct => exact fun s => h (bk F' H' σ' ε' [] fm s)
  | rt c => exact fun v s => h v (bk F' H' σ' ε' _ fm s)
  | xc x => exact fun cls d s => h cls d (bk F' H' σ' ε' _ fm s)
def mSkip : XM := fun ε => some (.nx, ε)
def mSeq (m n : XM) : XM := fun ε => match m ε with
  | some (.nx, ε1) => n ε1
  | r => r
section
variable {X : Cx} {W : Xw} {io : List Nat} {st : Stmt} {rest : List Stmt} {m n : XM} {e : Expr} {pos : Pos}
theorem ms_nil : PSs X [] (tS X.E W io mSkip) := ⟨fun pins s σ H De I h => by
  obtain ⟨F, R, ε, f, ε', o, e, q⟩ := h
  cases e
  exact pss_nil.run pins s σ H De I (q F H σ (Same.refl F) (StS.refl σ) o)⟩
theorem ms_cons (h1 : PS X st (tS X.E W io m)) (h2 : PSs X rest (tS X.E W io n)) : PSs X (st :: rest) (tS X.E W io (mSeq m n)) := ⟨fun pins s σ H De I h => by
  obtain ⟨F, R, ε, f, ε', o, e, q⟩ := h
  refine (pss_cons h1 h2).run pins s σ H De I ?_
  unfold mSeq at e
  split at e
  · rename_i ε1 e1
    exact ⟨F, R, ε, .nx, ε1, o, e1, fun F1 H1 σ1 fm1 t1 s1 => ⟨F1, R, ε1, f, ε', s1, e, fun F2 H2 σ2 fm2 t2 => q F2 H2 σ2 (fm1.trans fm2) (t1.trans t2)⟩⟩
  · rename_i r hr
    refine ⟨F, R, ε, f, ε', o, e, fun F1 H1 σ1 fm1 t1 => ?_⟩
    have := q F1 H1 σ1 fm1 t1
    cases f with
    | nx => exact (hr ε' e).elim
    | _ => exact this⟩
def mFlow (f : Fl) : XM := fun ε => some (f, ε)
theorem _root_.L2.PS.weak {t t' : TS} (h : PS X st t) (w : ∀ De σ H, t' De σ H → t De σ H) : PS X st t' := ⟨fun pins s σ H De I q => h.run pins s σ H De I (w De σ H q)⟩
def mExpr (m : EM) : XM := fun ε => do
  let (_, ε1) ← m ε
  some (.nx, ε1)
def mRet (m : EM) : XM := fun ε => do
  let (c, ε1) ← m ε
  some (.rt c, ε1)
theorem ms_ret {m : EM} (he : PE X e (tE X.E m)) : PS X (.Return (some e) pos) (tS X.E W io (mRet m)) := (ps_ret he).weak fun De σ H h => by
  obtain ⟨F, R, ε, f, ε', o, e, q⟩ := h
  unfold mRet at e
  cases e1 : m ε with
  | none => simp [e1] at e
  | some p =>
    obtain ⟨c, ε1⟩ := p
    simp [e1] at e
    obtain ⟨rfl, rfl⟩ := e
    exact ⟨F, R, ε, c, ε1, o, e1, fun v F1 H1 fm p => q F1 H1 σ fm (StS.refl σ) v p⟩
def mRetN : XM := fun ε => some (.rt (.sh .none), ε)
/-- return name: an own thing is handed out -/
def mRetV (io : List Nat) (i : Nat) : XM := fun ε => match ε[i]? with
  | some (.sh d) => some (.rt (.sh d), ε)
  | some (.ls ds) => if io.contains i then some (.rt (.sh (.list ds)), ε.set i (.sh (.list ds))) else some (.rt (.ls ds), ε.set i .no)
  | some (.dc k ds) => some (.rt (.dc k ds), ε.set i .no)
  | some (.ob k cs) => some (.rt (.ob k cs), ε.set i .no)
  | _ => none
theorem ms_retV {i : Nat} {x : Str} {p : Pos} (h : PE X (.Name x p) (tVar i)) : PS X (.Return (some (.Name x p)) pos) (tS X.E W io (mRetV io i)) := (ps_ret h).weak fun De σ H h => by
  obtain ⟨F, R, ε, f, ε', o, e, q⟩ := h
  have mv : ∀ {c : C}, ε[i]? = some c → c ≠ .no → f = .rt c → ε' = ε.set i .no → ∃ v, σ[i]? = some (some v) ∧ De.rt v H := fun {c} h1 h2 h3 h4 => by
    obtain ⟨v, hv⟩ := o.val h1 h2
    subst h3 h4
    exact ⟨v, hv, q F H σ (Same.refl F) (StS.refl σ) v (o.take h1 hv)⟩
  unfold mRetV at e
  split at e
  · rename_i d hd
    cases e
    obtain ⟨v, h1, h2⟩ := o.sh hd
    exact ⟨v, h1, q F H σ (Same.refl F) (StS.refl σ) v (o.addSh h2)⟩
  · rename_i ds hd
    split at e
    · cases e
      exact o.frzVal hd rfl fun v F' H' fm s => q F' H' σ fm (StS.refl σ) v s
    · cases e
      exact mv hd (fun z => nomatch z) rfl rfl
  · rename_i hd
    cases e
    exact mv hd (fun z => nomatch z) rfl rfl
  · rename_i hd
    cases e
    exact mv hd (fun z => nomatch z) rfl rfl
  · cases e
def mIf (t : TM) (m n : XM) : XM := fun ε => do
  let (b, ε1) ← t ε
  if b then m ε1 else n ε1
theorem ms_if {c : Expr} {a b : List Stmt} {t : TM} (hc : PT X c (tT X.E t)) (ha : PSs X a (tS X.E W io m)) (hb : PSs X b (tS X.E W io n)) : PS X (.If c a b pos) (tS X.E W io (mIf t m n)) := (ps_if hc ha hb).weak fun De σ H h => by
  obtain ⟨F, R, ε, f, ε', o, e, q⟩ := h
  unfold mIf at e
  cases e1 : t ε with
  | none => simp [e1] at e
  | some p =>
    obtain ⟨k, ε1⟩ := p
    simp [e1] at e
    refine ⟨F, R, ε, k, ε1, o, e1, fun F1 H1 fm1 s1 => ?_⟩
    cases k with
    | true =>
      simp at e
      exact iteT ⟨F1, R, ε1, f, ε', s1, e, fun F2 H2 σ2 fm2 t2 => q F2 H2 σ2 (fm1.trans fm2) t2⟩
    | false =>
      simp at e
      exact iteF ⟨F1, R, ε1, f, ε', s1, e, fun F2 H2 σ2 fm2 t2 => q F2 H2 σ2 (fm1.trans fm2) t2⟩
def mSet (io : List Nat) (i : Nat) (m : EM) : XM := fun ε => do
  let (c, ε1) ← m ε
  if i < ε1.length ∧ i ∉ io then some (.nx, ε1.set i c) else none
theorem tS_set {K : Ek} {i : Nat} {m : EM} {De : Ends} {σ : St} {H : Hp} (h : tS K W io (mSet io i m) De σ H) : tAsg (tE K m) (gName i) De σ H := by
  obtain ⟨F, R, ε, f, ε', o, e, q⟩ := h
  unfold mSet at e
  cases e1 : m ε with
  | none => simp [e1] at e
  | some p =>
    obtain ⟨c, ε1⟩ := p
    simp [e1] at e
    obtain ⟨⟨hi, hio⟩, rfl, rfl⟩ := e
    exact ⟨F, R, ε, c, ε1, o, e1, fun v F1 H1 fm p => q F1 H1 _ fm (StS.set hio) (p.store i)⟩
theorem ms_set {i : Nat} {x : Str} {m : EM} {p : Pos} (hN : X.N.Nodup) (hi : X.N[i]? = some x) (hx : Loc X.env.scope x) (he : PE X e (tE X.E m)) (hs : swapsWith e (some (.Name x p)) pos.line X.env = pure false) (hf : X.fn x = true ∨ X.env.scope.names.lookup x = some .local) :
    PS X (.Assign [.Name x p] e pos) (tS X.E W io (mSet io i m)) := (ps_set hN hi hx he hs hf).weak fun De σ H h => tS_set h
/-- a target of several names: the value is frozen data -/
def mAsg (ts io : List Nat) (b : BM) (m : EM) : XM := fun ε => do
  let (c, ε1) ← m ε
  let d ← (match c with | .sh d => some d | _ => none)
  let ε2 ← b d ε1
  if ts.all (fun i => !io.contains i) then some (.nx, ε2) else none
theorem tS_asg {K : Ek} {ts : List Nat} {b : BM} {g : TG} {m : EM} (hg : Gd K g b (· ∈ ts)) {De : Ends} {σ : St} {H : Hp} (h : tS K W io (mAsg ts io b m) De σ H) : tAsg (tE K m) g De σ H := by
  obtain ⟨F, R, ε, f, ε', o, e, q⟩ := h
  unfold mAsg at e
  cases e1 : m ε with
  | none => simp [e1] at e
  | some p =>
    obtain ⟨c, ε1⟩ := p
    cases c with
    | sh d =>
      cases e2 : b d ε1 with
      | none => simp [e1, e2] at e
      | some ε2 =>
        simp only [e1, e2, Option.bind_eq_bind, Option.bind_some] at e
        split at e
        · rename_i hts
          cases e
          have hts : ∀ i ∈ ts, i ∉ io := by simpa using hts
          refine ⟨F, R, ε, .sh d, ε1, o, e1, fun v F1 H1 fm p => ?_⟩
          refine hg F1 R H1 σ ε1 v d ε' _ p.drop p.repT e2 fun H2 σ2 bd => ?_
          exact q F1 H2 σ2 fm (bd.sts hts) bd.sep
        · cases e
    | no => simp [e1] at e
    | ls ds => simp [e1] at e
    | dc k ds => simp [e1] at e
    | ob k ds => simp [e1] at e
    | px _ _ _ _ => simp [e1] at e
    | fn _ => simp [e1] at e
    | fd _ => simp [e1] at e
theorem ms_asg {tg : Expr} {ts : List Nat} {b : BM} {g : TG} {m : EM} (hg : Gd X.E g b (· ∈ ts)) (he : PE X e (tE X.E m)) (hp : PG X tg g) (hs : swapsWithSole [tg] e pos.line X.env = pure false) (hw : swappedStores [tg] e X.env = pure none)
    (h1 : (assignEach [tg] X.env).map (·.2) = [assign tg X.env]) : PS X (.Assign [tg] e pos) (tS X.E W io (mAsg ts io b m)) := (ps_asg he hp hs hw h1).weak fun De σ H h => tS_asg hg h
end
section
variable {K : Ek} {F R H : Hp} {σ : St} {ε : Cs} {T : Tms}
/-- an own list in a slot: what stands there, and how it is rewritten -/
theorem Sep.atL {i : Nat} {ds : List D} (s : Sep K F R H σ ε T) (h : ε[i]? = some (.ls ds)) : ∃ a vs, σ[i]? = some (some (.ref a)) ∧ H a = some (.lst vs) ∧ Reps K.1 F vs ds ∧ ∀ ws es, Reps K.1 F ws es → Sep K F R (upd H a (.lst ws)) σ (ε.set i (.ls es)) T := by
  obtain ⟨a, vs, h1, h2, h3⟩ := s.lst h
  refine ⟨a, vs, h1, h2, h3, fun ws es r => ?_⟩
  have := ((s.take h h1).wr r).put h1
  rw [List.set_set] at this
  exact this
end
/-- xs.append(e) -/
def mApp (i : Nat) (m : EM) : XM := fun ε => match ε[i]? with
  | some (.ls _) => do
    let (c, ε1) ← m ε
    let d ← cD c
    match ε1[i]? with
      | some (.ls xs) => if xs.length < sizeLine then some (.nx, ε1.set i (.ls (xs ++ [d]))) else none
      | _ => none
  | _ => none
/-- .. to a list of own things -/
def mAppN (i : Nat) (m : EM) : XM := fun ε => match ε[i]? with
  | some (.ob .ls _) => do
    let (c, ε1) ← m ε
    match ε1[i]? with
      | some (.ob .ls cs) => if cs.length < sizeLine then some (.nx, ε1.set i (.ob .ls (cs ++ [c]))) else none
      | _ => none
  | _ => none
section
variable {X : Cx} {W : Xw} {io : List Nat} {pos : Pos}
theorem ms_app {i : Nat} {m : EM} {e : Expr} {x : Str} {p p2 p3 : Pos} (hv : PE X (.Name x p) (tVar i)) (he : PE X e (tE X.E m))
    (hbm : ∀ {to : TE} {t : TA}, PE X (.Name x p) to → PA X [e] t → PE X (.Call (.Attribute (.Name x p) "append" p2) [e] [] p3) (tBM X.K "list" rAppend to t)) (hst : starEach [e] X.env = [(false, eval e X.env)])
    (hs : swapsWith (.Call (.Attribute (.Name x p) "append" p2) [e] [] p3) none pos.line X.env = pure false) : PS X (.Expr (.Call (.Attribute (.Name x p) "append" p2) [e] [] p3) pos) (tS X.E W io (mApp i m)) :=
  (ps_expr (hbm hv (pa_cons he pa_nil hst)) hs).weak fun De σ H h => by
    obtain ⟨F, R, ε, f, ε', o, e, q⟩ := h
    unfold mApp at e
    split at e
    · rename_i xs0 hx0
      cases e1 : m ε with
      | none => simp [e1] at e
      | some p =>
        obtain ⟨c, ε1⟩ := p
        cases ec : cD c with
        | none => simp [e1, ec] at e
        | some d =>
          simp only [e1, ec, Option.bind_eq_bind, Option.bind_some] at e
          split at e
          · rename_i xs hx
            split at e
            · rename_i hl
              cases e
              obtain ⟨a, vs, h1, h2, h3⟩ := o.lst hx0
              refine ⟨_, h1, .inl ⟨rfl, vs, .inl (.inl h2)⟩, F, R, ε, c, ε1, o, e1, fun v F1 H1 fm p => ?_⟩
              obtain ⟨F2, fm2, r2, s2⟩ := p.freeze ec
              obtain ⟨a', vs', g1, g2, g4, wr⟩ := s2.atL hx
              rw [h1] at g1
              cases g1
              refine ⟨a, vs', v, rfl, rfl, g2, by rw [g4.length]; exact hl, ?_⟩
              exact q F2 _ σ (fm.trans fm2) (StS.refl σ) (wr _ _ (g4.append (Reps.one r2)))
            · cases e
          · cases e
    · cases e
/-- xs[k] = e -/
def mSetIx (i : Nat) (m : EM) (ix : OM) : XM := fun ε => do
  let (c, ε1) ← m ε
  let d ← cD c
  match ε1[i]? with
  | some (.ls _) => do
    let (p, ε2) ← ix ε1
    let k ← bor ε2 p
    match k, ε2[i]? with
      | .int k, some (.ls xs) => do
        let j ← ixN xs.length k
        some (.nx, ε2.set i (.ls (xs.set j d)))
      | _, _ => none
  | _ => none
theorem ms_setIx {i : Nat} {m : EM} {ix : OM} {e k : Expr} {x : Str} {p p2 : Pos} (hv : PE X (.Name x p) (tVar i)) (he : PE X e (tE X.E m)) (hk : PE X k (tO X.E ix))
    (ha : ∀ v, assign (.Subscript (.Name x p) k p2) X.env v = (do
      let ov ← holding [v] (eval (.Name x p) X.env)
      let iv ← holding [v, ov] (eval k X.env)
      standAt p2
      holding [v, ov, iv] (setItem ov iv v)
      release [v, ov, iv] []))
    (hs : swapsWithSole [.Subscript (.Name x p) k p2] e pos.line X.env = pure false) (hw : swappedStores [.Subscript (.Name x p) k p2] e X.env = pure none)
    (h1 : (assignEach [.Subscript (.Name x p) k p2] X.env).map (·.2) = [assign (.Subscript (.Name x p) k p2) X.env]) : PS X (.Assign [.Subscript (.Name x p) k p2] e pos) (tS X.E W io (mSetIx i m ix)) :=
  (ps_asg he (pg_sub hv hk set_list ha) hs hw h1).weak fun De σ H h => by
    obtain ⟨F, R, ε, f, ε', o, e, q⟩ := h
    unfold mSetIx at e
    cases e1 : m ε with
    | none => simp [e1] at e
    | some p =>
      obtain ⟨c, ε1⟩ := p
      cases ec : cD c with
      | none => simp [e1, ec] at e
      | some d =>
        simp only [e1, ec, Option.bind_eq_bind, Option.bind_some] at e
        split at e
        · rename_i xs0 hx0
          cases e2 : ix ε1 with
          | none => simp [e2] at e
          | some p2 =>
            obtain ⟨p, ε2⟩ := p2
            cases e3 : bor ε2 p with
            | none => simp [e2, e3] at e
            | some kd =>
              simp only [e2, e3, Option.bind_some] at e
              split at e
              · rename_i k xs hx
                cases e4 : ixN xs.length k with
                | none => simp [e4] at e
                | some j =>
                  simp [e4] at e
                  obtain ⟨rfl, rfl⟩ := e
                  refine ⟨F, R, ε, c, ε1, o, e1, fun v F1 H1 fm1 p1 => ?_⟩
                  obtain ⟨F2, fm2, r2, s2⟩ := p1.freeze ec
                  obtain ⟨w, hw⟩ := s2.val hx0 fun z => nomatch z
                  refine ⟨w, hw, F2, R, ε1, p, ε2, s2, e2, fun kv F3 H3 fm3 v3 s3 => ?_⟩
                  rw [← List.append_nil (tmO [p] [kv])] at s3
                  have rb := bors_ok (ds := [.int k]) s3 v3 (by simp [bors, e3])
                  obtain ⟨x', ex, hx'⟩ := rb.one
                  cases ex
                  rw [rb_int hx']
                  obtain ⟨a, vs, g1, g2, g4, wr⟩ := (s3.drops _).atL hx
                  rw [hw] at g1
                  cases g1
                  refine ⟨a, vs, k, j, rfl, rfl, g2, by rw [g4.length]; exact e4, ?_⟩
                  exact q F3 _ σ ((fm1.trans fm2).trans fm3) (StS.refl σ) (wr _ _ (Reps.set (Rep.mono fm3 _ _ r2) j g4))
              · cases e
        · cases e
def whileN (t : TM) (b : XM) : Nat → XM
  | 0, _ => none
  | n + 1, ε => do
    let (k, ε1) ← t ε
    if k then do
      let (f, ε2) ← b ε1
      match f with
        | .nx => whileN t b n ε2
        | .ct => whileN t b n ε2
        | .bk => some (.nx, ε2)
        | .rt c => some (.rt c, ε2)
        | .xc x => some (.xc x, ε2)
    else some (.nx, ε1)
theorem whileN_succ {t : TM} {b : XM} : ∀ {n : Nat} {ε : Cs} {r : Fl × Cs}, whileN t b n ε = some r → whileN t b (n + 1) ε = some r
  | 0, ε, r, h => by cases h
  | n + 1, ε, r, h => by
    unfold whileN at h ⊢
    cases e1 : t ε with
    | none => simp [e1] at h
    | some p =>
      obtain ⟨k, ε1⟩ := p
      simp only [e1, Option.bind_eq_bind, Option.bind_some] at h ⊢
      cases k with
      | false => exact h
      | true =>
        simp only [if_true] at h ⊢
        cases e2 : b ε1 with
        | none => simp [e2] at h
        | some p2 =>
          obtain ⟨f, ε2⟩ := p2
          simp only [e2, Option.bind_some] at h ⊢
          cases f with
          | nx => exact whileN_succ h
          | ct => exact whileN_succ h
          | bk => exact h
          | rt c => exact h
          | xc x => exact h
theorem whileN_le {t : TM} {b : XM} {n m : Nat} {ε : Cs} {r : Fl × Cs} (h : whileN t b n ε = some r) (hm : n ≤ m) : whileN t b m ε = some r := by
  induction hm with
  | refl => exact h
  | step _ ih => exact whileN_succ ih
open Classical in
noncomputable def mWhile (t : TM) (b : XM) : XM := fun ε => if h : ∃ n, (whileN t b n ε).isSome then whileN t b h.choose ε else none
theorem mWhile_of {t : TM} {b : XM} {n : Nat} {ε : Cs} {r : Fl × Cs} (h : whileN t b n ε = some r) : mWhile t b ε = some r := by
  have hx : ∃ n, (whileN t b n ε).isSome := ⟨n, by rw [h]; rfl⟩
  unfold mWhile
  rw [dif_pos hx]
  obtain ⟨r', hr⟩ := Option.isSome_iff_exists.mp hx.choose_spec
  have h1 := whileN_le h (Nat.le_max_left n hx.choose)
  have h2 := whileN_le hr (Nat.le_max_right n hx.choose)
  rw [hr, ← h1, h2]
theorem mWhile_to {t : TM} {b : XM} {ε : Cs} {r : Fl × Cs} (h : mWhile t b ε = some r) : ∃ n, whileN t b n ε = some r := by
  unfold mWhile at h
  split at h
  · exact ⟨_, h⟩
  · cases h
theorem ms_while {c : Expr} {body : List Stmt} {t : TM} {b : XM} (hp : PassesOwn (model X.prog X.w) X.A X.env X.xe) (hc : PT X c (tT X.E t)) (hb : PSs X body (tS X.E W io b)) : PS X (.While c body [] pos) (tS X.E W io (mWhile t b)) :=
  (ps_while hp hc hb).weak fun De σ H h => by
    obtain ⟨F, R, ε, f, ε', o, e, q⟩ := h
    obtain ⟨n, e⟩ := mWhile_to e
    refine ⟨fun n σ2 H2 => ∃ F2 ε2, Same F F2 ∧ StS io σ σ2 ∧ Sep X.E F2 R H2 σ2 ε2 [] ∧ whileN t b n ε2 = some (f, ε'), ⟨n, F, ε, Same.refl F, StS.refl σ, o, e⟩, ?_⟩
    rintro n σ2 H2 ⟨F2, ε2, fm2, t2, s2, e2⟩
    cases n with
    | zero => cases e2
    | succ n =>
      unfold whileN at e2
      cases e3 : t ε2 with
      | none => simp [e3] at e2
      | some p =>
        obtain ⟨k, ε3⟩ := p
        simp only [e3, Option.bind_eq_bind, Option.bind_some] at e2
        refine ⟨F2, R, ε2, k, ε3, s2, e3, fun F3 H3 fm3 s3 => ?_⟩
        cases k with
        | false =>
          simp only [Bool.false_eq_true, if_false] at e2
          cases e2
          exact iteF (q F3 H3 σ2 (fm2.trans fm3) t2 s3)
        | true =>
          simp only [if_true] at e2
          refine iteT ⟨fun σ' H' => ∃ F4 ε4, Same F F4 ∧ StS io σ σ' ∧ Sep X.E F4 R H' σ' ε4 [] ∧ whileN t b n ε4 = some (f, ε'), fun σ' H' hN => ⟨n, Nat.lt_succ_self n, hN⟩, ?_⟩
          cases e4 : b ε3 with
          | none => simp [e4] at e2
          | some p4 =>
            obtain ⟨g, ε4⟩ := p4
            simp only [e4, Option.bind_some] at e2
            refine ⟨F3, R, ε3, g, ε4, s3, e4, fun F4 H4 σ4 fm4 t4 => ?_⟩
            have fm := (fm2.trans fm3).trans fm4
            have tt := t2.trans t4
            cases g with
            | nx => exact fun s4 => ⟨F4, ε4, fm, tt, s4, e2⟩
            | ct => exact fun s4 => ⟨F4, ε4, fm, tt, s4, e2⟩
            | bk => cases e2; exact fun s4 => q F4 H4 σ4 fm tt s4
            | rt c => cases e2; exact q F4 H4 σ4 fm tt
            | xc x => cases e2; exact q F4 H4 σ4 fm tt
open Classical in
noncomputable def forL (ws : List Nat) (ε0 : Cs) (bind : BM) (body : XM) : List M.D → XM
  | [], ε => if sameC ws ε0 ε then some (.nx, ε) else none
  | d :: ds, ε => if sameC ws ε0 ε then do
      let ε1 ← bind d ε
      let (f, ε2) ← body ε1
      match f with
        | .nx => forL ws ε0 bind body ds ε2
        | .ct => forL ws ε0 bind body ds ε2
        | .bk => some (.nx, ε2)
        | .rt c => some (.rt c, ε2)
        | .xc x => some (.xc x, ε2)
    else none
noncomputable def mFor (io' : List Nat) (src : SM) (bind : BM) (body : XM) : XM := fun ε => do
  let ((ds, ws), ε1) ← src ε
  if ws.all (fun i => io'.contains i) then forL ws ε1 bind body ds ε1 else none
theorem ms_for {iter tg : Expr} {body : List Stmt} {io' ts : List Nat} {src : SM} {g : TG} {bind : BM} {b : XM} (hp : PassesOwn (model X.prog X.w) X.A X.env X.xe) (hc : X.calm = true) (hi : PI X tg iter (tI X.E src)) (hg : PG X tg g) (hgd : Gd X.E g bind (· ∈ ts))
    (hb : PSs X body (tS X.E W io' b)) (hio : ∀ i ∈ io, i ∈ io') (hts : ∀ i ∈ ts, i ∉ io') (hs : ∀ x, foldedSetIterable iter X.env x = pure x) : PS X (.For tg iter body [] pos) (tS X.E W io (mFor io' src bind b)) :=
  (ps_for hp hc hi hg hb hs).weak fun De σ H h => by
    obtain ⟨F, R, ε, f, ε', o, e, q⟩ := h
    unfold mFor at e
    cases e1 : src ε with
    | none => simp [e1] at e
    | some p =>
      obtain ⟨⟨ds, ws⟩, ε1⟩ := p
      simp only [e1, Option.bind_eq_bind, Option.bind_some] at e
      split at e
      · rename_i hws
        have hws : ∀ i ∈ ws, i ∈ io' := by simpa using hws
        refine ⟨F, R, ε, ds, ws, ε1, o, e1, fun F1 R1 H1 J fm1 s1 bk sr => ?_⟩
        obtain ⟨G, Y, w, hw⟩ := sr
        have same : ∀ {l : List M.D} {ε2 : Cs} {r : Fl × Cs}, forL ws ε1 bind b l ε2 = some r → sameC ws ε1 ε2 := fun {l ε2 r} h => by
          cases l with
          | nil =>
            unfold forL at h
            split at h
            · assumption
            · cases h
          | cons d l =>
            unfold forL at h
            split at h
            · assumption
            · cases h
        have q1 : ∀ F' H' σ', Same F1 F' → StS io' σ σ' → Fin X.E R1 De W F' H' σ' ε' f := fun F' H' σ' fm t => (q F' H' σ' (fm1.trans fm) (t.imp hio)).back bk fm
        refine for_it w (fun i σ2 H2 => ∃ F2 ε2, Same F1 F2 ∧ StS io' σ σ2 ∧ Sep X.E F2 R1 H2 σ2 ε2 [] ∧ forL ws ε1 bind b (ds.drop i) ε2 = some (f, ε')) ⟨F1, ε1, Same.refl F1, StS.refl σ, s1, e⟩ ?_ ?_ ?_
        · rintro i σ2 H2 _ ⟨F2, ε2, fm2, t2, s2, C1⟩
          exact (hw F2 H2 σ2 ε2 fm2 s2 fun j hj => ⟨t2.st j (hws j hj), same C1 j hj⟩).1
        · rintro i x σ2 H2 H3 hi ⟨F2, ε2, fm2, t2, s2, C1⟩ y
          obtain ⟨_, hy⟩ := hw F2 H2 σ2 ε2 fm2 s2 fun j hj => ⟨t2.st j (hws j hj), same C1 j hj⟩
          obtain ⟨F3, d, hdi, rd, gr⟩ := hy i x H3 hi y
          rw [List.getElem?_eq_getElem hi] at hdi
          cases hdi
          have s3 := s2.grow gr
          have hd : ds.drop i = ds[i] :: ds.drop (i + 1) := by rw [List.drop_eq_getElem_cons hi]
          rw [hd] at C1
          unfold forL at C1
          split at C1
          · cases eb : bind ds[i] ε2 with
            | none => simp [eb] at C1
            | some εb =>
              refine hgd F3 R1 H3 σ2 ε2 x _ εb _ s3 rd eb fun H4 σ4 bd => ?_
              have t4 := t2.trans (bd.sts (io := io') fun j hj => hts j hj)
              simp only [eb, Option.bind_eq_bind, Option.bind_some] at C1
              cases e5 : b εb with
              | none => simp [e5] at C1
              | some p5 =>
                obtain ⟨g, ε5⟩ := p5
                simp only [e5, Option.bind_some] at C1
                refine ⟨F3, R1, εb, g, ε5, bd.sep, e5, fun F5 H5 σ5 fm5 t5 => ?_⟩
                have fm := (fm2.trans gr.fm).trans fm5
                have tt := t4.trans t5
                cases g with
                | nx => exact fun s5 => ⟨F5, ε5, fm, tt, s5, C1⟩
                | ct => exact fun s5 => ⟨F5, ε5, fm, tt, s5, C1⟩
                | bk => cases C1; exact fun s5 => q1 F5 H5 σ5 fm tt s5
                | rt c => cases C1; exact q1 F5 H5 σ5 fm tt
                | xc x => cases C1; exact q1 F5 H5 σ5 fm tt
          · cases C1
        · rintro σ2 H2 ⟨F2, ε2, fm2, t2, s2, C1⟩
          rw [List.drop_length] at C1
          unfold forL at C1
          split at C1
          · cases C1
            exact q1 F2 H2 σ2 fm2 t2 s2
          · cases C1
      · cases e
end
end L2.M
namespace L2.M
open PySem PySem.Spec PyProof.Rows
def chnL : Opd → List ((D → D → Option C) × OM) → EM
  | _, [], _ => none
  | o, [(f, m)], ε => do
    let (p, ε1) ← m ε
    let d ← bor ε1 o
    let e ← bor ε1 p
    let c ← f d e
    some (c, ε1)
  | o, (f, m) :: x :: l, ε => do
    let (p, ε1) ← m ε
    let d ← bor ε1 o
    let e ← bor ε1 p
    match f d e with
      | some (.sh (.bool true)) => chnL p (x :: l) ε1
      | some (.sh (.bool false)) => some (.sh (.bool false), ε1)
      | _ => none
def mChn (m : OM) (l : List ((D → D → Option C) × OM)) : EM := fun ε => do
  let (o, ε1) ← m ε
  chnL o l ε1
inductive Chn (X : Cx) : List CmpOp → List Expr → List ((D → D → Option C) × OM) → Prop where
  | one {op : CmpOp} {e : Expr} {f : D → D → Option C} {m : OM} {r : R2} : OpR X (compareOp op) r → Fn2 X.K f r → PE X e (tO X.E m) → Chn X [op] [e] [(f, m)]
  | cons {op : CmpOp} {e : Expr} {f : D → D → Option C} {m : OM} {r : R2} {op' : CmpOp} {ops : List CmpOp} {e' : Expr} {es : List Expr} {x : (D → D → Option C) × OM} {l : List ((D → D → Option C) × OM)} :
      OpR X (compareOp op) r → Fn2 X.K f r → PE X e (tO X.E m) → Chn X (op' :: ops) (e' :: es) (x :: l) → Chn X (op :: op' :: ops) (e :: e' :: es) ((f, m) :: x :: l)
section
variable {X : Cx}
/-- two operands, the first one waiting while the second is reckoned -/
structure Two (X : Cx) (F R H : Hp) (σ : St) (ε : Cs) (x : V) (o : Opd) : Prop where
  ov : OpV σ [x] [o]
  sep : Sep X.E F R H σ ε (tmO [o] [x])
theorem Two.borne {F R H : Hp} {σ : St} {ε : Cs} {x : V} {o : Opd} {d : D} (t : Two X F R H σ ε x o) (e : bor ε o = some d) : RepB X.K F H x d := by
  have s := t.sep
  rw [← List.append_nil (tmO [o] [x])] at s
  exact (bors_ok s t.ov (by simp [bors, e])).inj1
/-- behind the second operand -/
theorem Two.next {F R H : Hp} {σ : St} {ε ε1 : Cs} {x : V} {o p : Opd} {m : OM} (t : Two X F R H σ ε x o) (em : m ε = some (p, ε1)) {Q : VK}
    (k : ∀ y F1 H1, Same F F1 → Two X F1 R H1 σ ε1 x o → (∀ F2 H2, Same F1 F2 → Sep X.E F2 R H2 σ ε1 (tmO [o] [x] ++ tmO [p] [y]) → Two X F2 R H2 σ ε1 y p) → OpV σ [y] [p] → Sep X.E F1 R H1 σ ε1 (tmO [o] [x] ++ tmO [p] [y]) → Q y H1) : tO X.E m σ H Q := by
  obtain ⟨R1, s1, bk⟩ := t.sep.hides
  refine ⟨F, R1, ε, p, ε1, s1, em, fun y F1 H1 fm vy sy => ?_⟩
  have s2 := bk F1 H1 σ ε1 _ fm sy
  refine k y F1 H1 fm ⟨t.ov, ?_⟩ (fun F2 H2 fm2 s3 => ⟨vy, s3.drops _⟩) vy s2
  have s3 := s1.grow (Grw.refl s1.sub)
  -- the first one alone
  have ov := t.ov
  cases o with
  | pl i => exact Sep.drops (T := []) (tmO [p] [y]) (by simpa [tmO] using s2)
  | tm c =>
    obtain ⟨R2, _, s4, bk2⟩ := Sep.hide (T := tmO [p] [y]) s2
    exact bk2 F1 H1 σ ε1 [] (Same.refl F1) (Sep.drops (T := []) (tmO [p] [y]) (by simpa using s4))
theorem tst_run : ∀ {ops : List CmpOp} {es : List Expr} {l : List ((D → D → Option C) × OM)}, Chn X ops es l → ∀ {pins : List (Addr × Obj)} {s : Shared} {σ : St} {F R H : Hp} {ε : Cs} {o : Opd} {x : V} {v : Value} {b : Bool} {ε' : Cs} {pos : Pos} {Q : Bool → Hp → Prop}, Two X F R H σ ε x o →
    Inv X pins σ H s → RelV x v → chnL o l ε = some (.sh (.bool b), ε') → (∀ F' H', Same F F' → Sep X.E F' R H' σ ε' [] → Q b H') →
    wpAny (model X.prog X.w) X.A (testChain pos v ops (evalEach es X.env)) (fun k s' => ∃ H', Inv X pins σ H' s' ∧ Q k H') X.xe s := by
  intro ops es l h
  induction h with
  | one ho hf he =>
    intro pins s σ F R H ε o x v b ε' pos Q tw I rx e q
    rename_i op ex f m rr
    simp only [chnL] at e
    cases e1 : m ε with
    | none => simp [e1] at e
    | some p =>
      obtain ⟨p, ε1⟩ := p
      cases e2 : bor ε1 o with
      | none => simp [e1, e2] at e
      | some d =>
        cases e3 : bor ε1 p with
        | none => simp [e1, e2, e3] at e
        | some d2 =>
          cases e4 : f d d2 with
          | none => simp [e1, e2, e3, e4] at e
          | some c' =>
            simp [e1, e2, e3, e4] at e
            obtain ⟨rfl, rfl⟩ := e
            refine test_last (thn (he.run pins s σ H (fun y H1 => rr x y H1 fun z H2 => z = .bl b ∧ Q b H2) I (tw.next e1 fun y F1 H1 fm t1 t2 vy s1 => ?_)) fun u s4 ⟨y, H4, I4, r4, q4⟩ =>
              thn (ho pins s4 σ H4 x y v u _ I4 rx r4 q4) fun dd s5 ⟨z, H5, I5, r5, ez, q5⟩ => ?_)
            · refine hf F1 H1 x y d d2 _ _ s1.sub (t1.borne e2) ((t2 F1 H1 (Same.refl F1) s1).borne e3) e4 fun w F2 H2 g => ?_
              have hw : w = .bl b := by
                have r := g.rep
                simpa only [RepC, Rep] using r
              exact ⟨hw, q F2 H2 (fm.trans g.fm) (Sep.drops (T := []) (tmO [o] [x] ++ tmO [p] [y]) (by simpa using s1.grow g.grw))⟩
            · subst ez
              cases r5
              exact wpAny_truthy_bool ⟨H5, I5, q5⟩
  | cons ho hf he hr ih =>
    intro pins s σ F R H ε o x v b ε' pos Q tw I rx e q
    rename_i op ex f m rr op' ops e' es y0 l
    simp only [chnL] at e
    cases e1 : m ε with
    | none => simp [e1] at e
    | some p =>
      obtain ⟨p, ε1⟩ := p
      cases e2 : bor ε1 o with
      | none => simp [e1, e2] at e
      | some d =>
        cases e3 : bor ε1 p with
        | none => simp [e1, e2, e3] at e
        | some d2 =>
          simp only [e1, e2, e3, Option.bind_eq_bind, Option.bind_some] at e
          refine test_link (thn (he.run pins s σ H (fun y H1 => rr x y H1 fun z H2 => ∃ k F2, z = .bl k ∧ f d d2 = some (.sh (.bool k)) ∧ Same F F2 ∧ Two X F2 R H2 σ ε1 y p) I (tw.next e1 fun y F1 H1 fm t1 t2 vy s1 => ?_))
            fun u s4 ⟨y, H4, I4, r4, q4⟩ => thn (ho pins s4 σ H4 x y v u _ I4 rx r4 q4) fun dd s5 ⟨z, H5, I5, r5, k, F5, ez, ek, fm5, T5⟩ => ?_)
          · have fin : ∀ k, f d d2 = some (.sh (.bool k)) → rr x y H1 fun z H2 => ∃ k F2, z = .bl k ∧ f d d2 = some (.sh (.bool k)) ∧ Same F F2 ∧ Two X F2 R H2 σ ε1 y p := fun k ek => by
              refine hf F1 H1 x y d d2 _ _ s1.sub (t1.borne e2) ((t2 F1 H1 (Same.refl F1) s1).borne e3) ek fun w F2 H2 g => ?_
              have hw : w = .bl k := by
                have r := g.rep
                simpa only [RepC, Rep] using r
              exact ⟨k, F2, hw, ek, fm.trans g.fm, t2 F2 H2 g.fm (s1.grow g.grw)⟩
            split at e
            · exact fin true (by assumption)
            · exact fin false (by assumption)
            · cases e
          · subst ez
            cases r5
            refine wpAny_truthy_bool ?_
            cases k with
            | false =>
              rw [ek] at e
              cases e
              exact ite_ff ⟨H5, I5, q F5 H5 fm5 (Sep.drops (T := []) (tmO [p] [y]) (by simpa using T5.sep))⟩
            | true =>
              rw [ek] at e
              exact ite_tt (ih T5 I5 r4 e fun F' H' fm => q F' H' (fm5.trans fm))
variable {a e1 e2 : Expr} {es : List Expr} {op1 op2 : CmpOp} {ops : List CmpOp} {m : OM} {l : List ((D → D → Option C) × OM)} {pos : Pos}
theorem mt_chain (ha : PE X a (tO X.E m)) (h : Chn X (op1 :: op2 :: ops) (e1 :: e2 :: es) l) (hm : lastMarks (op1 :: op2 :: ops) (e1 :: e2 :: es) = false) : PT X (.Compare a (op1 :: op2 :: ops) (e1 :: e2 :: es) pos) (tT X.E (mTst (mChn m l))) :=
  ⟨fun pins s σ H Q I hh => by
    obtain ⟨F, R, ε, b, ε', ok, e, q⟩ := hh
    unfold mTst at e
    split at e
    · rename_i b' ε1 e'
      cases e
      unfold mChn at e'
      cases e0 : m ε with
      | none => simp [e0] at e'
      | some p =>
        obtain ⟨o, ε1⟩ := p
        simp only [e0, Option.bind_eq_bind, Option.bind_some] at e'
        refine isTrue_chain (thn (ha.run pins s σ H (fun x H1 => ∃ F1, Same F F1 ∧ Two X F1 R H1 σ ε1 x o) I ⟨F, R, ε, o, ε1, ok, e0, fun v F1 H1 fm v1 s1 => ⟨F1, fm, v1, s1⟩⟩) fun v s1 ⟨x, H1, I1, r1, F1, fm1, T1⟩ => ?_) hm
        exact tst_run h T1 I1 r1 e' fun F' H' fm => q F' H' (fm1.trans fm)
    · cases e⟩
end
def tyS : D → String
  | .none => "NoneType"
  | .bool _ => "bool"
  | .int _ => "int"
  | .str _ => "str"
  | .list _ => "list"
  | .tuple _ => "tuple"
  | .dict _ => "dict"
inductive Ty where
  | int | bool | str | list | tuple | dict
def Ty.nm : Ty → String
  | .int => "int"
  | .bool => "bool"
  | .str => "str"
  | .list => "list"
  | .tuple => "tuple"
  | .dict => "dict"
def isiD : Ty → D → Bool
  | .int, .int _ => true
  | .int, .bool _ => true
  | .bool, .bool _ => true
  | .str, .str _ => true
  | .list, .list _ => true
  | .tuple, .tuple _ => true
  | .dict, .dict _ => true
  | _, _ => false
theorem isi_kit : ∀ (T : Ty) (d : D), kitB (tyS d) T.nm = some (isiD T d) := by
  intro T d
  cases T <;> cases d <;> (simp only [tyS, Ty.nm, isiD]; decide +kernel)
theorem rb_ty {K : PySem.W.Frag} {F H : Hp} {x : V} {d : D} (s : Same F H) (h : RepB K F H x d) : TyX K H x (.type (tyS d)) := by
  cases d with
  | none => rw [rb_non h]; exact .base .non
  | bool b => rw [rb_bool h]; exact .base (.bl b)
  | int b => rw [rb_int h]; exact .base (.int b)
  | str b => rw [rb_str h]; exact .base (.str b)
  | list b =>
    obtain ⟨a, vs, rfl, g1, _⟩ := rb_lst s h
    rcases g1 with (g1 | ⟨o, g1⟩) | ⟨o, its, n, hk, hc, _⟩
    · exact .base (.lst g1)
    · exact .base (.frz g1)
    · exact .kList hk hc
  | tuple b =>
    obtain ⟨a, vs, rfl, _, g1, _⟩ := rb_tup s h
    rcases g1 with (g1 | ⟨o, g1⟩) | ⟨o, its, n, hk, hc, _⟩
    · exact .base (.tup g1)
    · exact .fTuple g1
    · exact .kTuple hk hc
  | dict b =>
    obtain ⟨a, kvs, rfl, g1, _⟩ := rb_dct s h
    exact .base (.dK g1)
def mIsi (T : Ty) (m : OM) : EM := mU (fun d => some (.sh (.bool (isiD T d)))) m
section
variable {X : Cx} {e : Expr} {m : OM} {x p pos : Pos}
theorem me_isi {T : Ty} {y : Str} (hm : X.mg "isinstance" = none) (hmT : X.mg y = none) (hg : Gl X "isinstance") (hgT : Gl X y) (hv : bootBuiltins y = some (.type T.nm)) (he : PE X e (tO X.E m)) (hn : y ≠ "__name__") (hdb : (y == ("__debug__" : Str)) = false)
    (hs : starEach [e, .Name y p] X.env = (false, eval e X.env) :: starEach [.Name y p] X.env) (hs2 : starEach [.Name y p] X.env = [(false, eval (.Name y p) X.env)]) (hpl : (backTo pos (starEach [.Name y p] X.env)).any (·.1) = false) :
    PE X (.Call (.Name "isinstance" x) [e, .Name y p] [] pos) (tE X.E (mIsi T m)) :=
  (pe_callB call_isi hg hm boot_isinstance (pa_cons he (pa_cons (pe_bltn (v := .ty T.nm) hgT hmT hv rfl hn hdb) pa_nil hs2) hs) (by decide) (by decide) hs hpl).weak fun σ H Q h => by
    have h2 := tE_u (r := fun x H Q => rIsi X.K [x, .ty T.nm] H Q) (fun F H x d c Q s h1 he q => by
      cases he
      exact ⟨x, .ty T.nm, _, _, isiD T d, rfl, .ty _, rb_ty s h1, kit_ty (isi_kit T d), g_bool s q⟩) h
    refine tO_mono h2 fun v H' q => ?_
    exact q
end
end L2.M
namespace L2.M
open PySem PySem.Spec PyProof.Rows
def keepT : List Opd → List Bool
  | [] => []
  | .pl _ :: os => false :: keepT os
  | .tm _ :: os => true :: keepT os
def tmsO : List Opd → Option (List C)
  | [] => some []
  | .tm (.sh d) :: os => (tmsO os).map (C.sh d :: ·)
  | .tm (.ls ds) :: os => (tmsO os).map (C.ls ds :: ·)
  | .tm (.dc k ds) :: os => (tmsO os).map (C.dc k ds :: ·)
  | .tm (.ob k cs) :: os => (tmsO os).map (C.ob k cs :: ·)
  | _ => none
theorem tmsO_zip : ∀ {os : List Opd} {vs : List V} {cs : List C}, os.length = vs.length → tmsO os = some cs → tmO os vs = vs.zip cs ∧ cs.length = os.length
  | [], vs, cs, l, e => by
    cases e
    cases vs with
    | nil => exact ⟨rfl, rfl⟩
    | cons _ _ => cases l
  | o :: os, [], cs, l, e => by cases l
  | .pl i :: os, v :: vs, cs, l, e => by cases e
  | .tm c :: os, v :: vs, cs, l, e => by
    have one : ∀ {c : C}, (tmsO os).map (c :: ·) = some cs → tmO (.tm c :: os) (v :: vs) = (v :: vs).zip cs ∧ cs.length = (Opd.tm c :: os).length := fun {c} e => by
      obtain ⟨cs2, e2, rfl⟩ := Option.map_eq_some_iff.mp e
      obtain ⟨h1, h2⟩ := tmsO_zip (vs := vs) (by simpa using l) e2
      exact ⟨by simp [tmO, h1], by simp [h2]⟩
    cases c with
    | no => cases e
    | sh d => exact one e
    | ls d => exact one e
    | dc k d => exact one e
    | ob k d => exact one e
    | px _ _ _ _ => cases e
    | fn _ => cases e
    | fd _ => cases e
def setA : List Nat → List C → Cs → Cs
  | i :: is, c :: cs, ε => setA is cs (ε.set i c)
  | _, _, ε => ε
def setV : List Nat → List V → St → St
  | i :: is, v :: vs, σ => setV is vs (σ.set i (some v))
  | _, _, σ => σ
theorem putAll {K : Ek} {F R H : Hp} {T : Tms} : ∀ {is : List Nat} {vs : List V} {cs : List C} {σ : St} {ε : Cs}, Sep K F R H σ ε (vs.zip cs ++ T) → is.length = vs.length → cs.length = vs.length → Sep K F R H (setV is vs σ) (setA is cs ε) T
  | [], [], [], σ, ε, s, _, _ => s
  | i :: is, v :: vs, c :: cs, σ, ε, s, l1, l2 => putAll (is := is) (Sep.store s i) (by simpa using l1) (by simpa using l2)
  | [], v :: vs, cs, σ, ε, s, l1, l2 => by cases l1
  | i :: is, [], cs, σ, ε, s, l1, l2 => by cases l1
  | [], [], c :: cs, σ, ε, s, l1, l2 => by cases l2
  | i :: is, v :: vs, [], σ, ε, s, l1, l2 => by cases l2
theorem setV_sts {io : List Nat} : ∀ {is : List Nat} {vs : List V} {σ : St}, (∀ i ∈ is, i ∉ io) → StS io σ (setV is vs σ)
  | [], vs, σ, h => StS.refl σ
  | i :: is, [], σ, h => StS.refl σ
  | i :: is, v :: vs, σ, h => (StS.set (h i List.mem_cons_self)).trans (setV_sts fun j hj => h j (List.mem_cons_of_mem _ hj))
/-- a, b, .. = x, y, .. (names that no other def holds on to) -/
def mPar (io is : List Nat) (ma : AM) : XM := fun ε => do
  let (os, ε1) ← ma ε
  let (os2, ε2) ← frz (keepT os) os ε1
  let cs ← tmsO os2
  if cs.length = is.length ∧ cs.length ≤ sizeLine ∧ (∀ i ∈ is, i < ε2.length ∧ i ∉ io) then some (.nx, setA is cs ε2) else none
theorem Grw.junk {F H : Hp} (s : Same F H) {p : Addr} {u : HO} (hp : H p = none) : Grw F H F (upd H p u) :=
  ⟨Same.refl F, fun b x e => by rw [upd_ne (ne_of_none e hp)]; exact e, fun b x e => by rw [upd_ne (ne_of_none (s b x e) hp)]; exact s b x e, fun b h h' => absurd h h'⟩
theorem tS_par {K : Ek} {W : Xw} {io is : List Nat} {ma : AM} {De : Ends} {σ : St} {H : Hp} (h : tS K W io (mPar io is ma) De σ H) :
    tA K ma σ H fun vs H1 => vs.length = is.length ∧ vs.length ≤ sizeLine ∧ De.nx (setV is vs σ) H1 ∧ ∀ p, H1 p = none → De.nx (setV is vs σ) (upd H1 p (.tup vs)) := by
  obtain ⟨F, R, ε, f, ε', o, e, q⟩ := h
  unfold mPar at e
  cases e1 : ma ε with
  | none => simp [e1] at e
  | some p =>
    obtain ⟨os, ε1⟩ := p
    cases e2 : frz (keepT os) os ε1 with
    | none => simp [e1, e2] at e
    | some p2 =>
      obtain ⟨os2, ε2⟩ := p2
      cases e3 : tmsO os2 with
      | none => simp [e1, e2, e3] at e
      | some cs =>
        simp only [e1, e2, e3, Option.bind_eq_bind, Option.bind_some] at e
        split at e
        · rename_i hc
          cases e
          obtain ⟨hc1, hc2, hc3⟩ := hc
          refine ⟨F, R, ε, os, ε1, o, e1, fun vs F1 H1 fm1 v1 s1 => ?_⟩
          rw [← List.append_nil (tmO os vs)] at s1
          obtain ⟨F2, fm2, s2, v2, l2⟩ := frz_ok s1 v1 e2
          have lv := v2.len
          obtain ⟨z1, z2⟩ := tmsO_zip lv.symm e3
          rw [z1] at s2
          have vl : vs.length = is.length := by omega
          have t := setV_sts (vs := vs) (σ := σ) fun i hi => (hc3 i hi).2
          have s3 := putAll (is := is) s2 vl.symm (by omega)
          exact ⟨vl, by omega, q F2 H1 _ (fm1.trans fm2) t s3, fun p hp => q F2 _ _ (fm1.trans fm2) t (s3.grow (Grw.junk s3.sub hp))⟩
        · cases e
section
variable {X : Cx} {W : Xw} {io : List Nat} {ma : AM}
theorem ms_par2 {i j : Nat} {x y : Str} {a b : Expr} {px py pt pos : Pos} {kt k2 pt2} (hc : X.calm = true) (hN : X.N.Nodup) (hi : X.N[i]? = some x) (hj : X.N[j]? = some y) (hij : i ≠ j) (hx : X.env.scope.names.lookup x = some .local) (hy : X.env.scope.names.lookup y = some .local)
    (ha : PA X [a, b] (tA X.E ma)) (hw : swappedStores [.Tuple [.Name x px, .Name y py] kt pt] (.Tuple [a, b] k2 pt2) X.env = pure (some [x, y]))
    (hs : swapsWithSole [.Tuple [.Name x px, .Name y py] kt pt] (.Tuple [a, b] k2 pt2) pos.line X.env = pure false) :
    PS X (.Assign [.Tuple [.Name x px, .Name y py] kt pt] (.Tuple [a, b] k2 pt2) pos) (tS X.E W io (mPar io [i, j] ma)) := (ps_par hc hN hi hj hij hx hy ha hw hs).weak fun De σ H h => by
  refine tA_mono (tS_par h) fun vs H1 q => ?_
  obtain ⟨hl, _, q, _⟩ := q
  match vs, hl, q with
  | [u, v], _, q => exact ⟨u, v, rfl, q⟩
theorem ms_par3 {i j l : Nat} {x y z : Str} {a b c : Expr} {px py pz pt pos : Pos} {kt k2 pt2} (hc : X.calm = true) (hN : X.N.Nodup) (hi : X.N[i]? = some x) (hj : X.N[j]? = some y) (hl : X.N[l]? = some z) (hij : i ≠ j) (hil : i ≠ l) (hjl : j ≠ l)
    (hx : X.env.scope.names.lookup x = some .local) (hy : X.env.scope.names.lookup y = some .local) (hz : X.env.scope.names.lookup z = some .local) (ha : PA X [a, b, c] (tA X.E ma))
    (hw : swappedStores [.Tuple [.Name x px, .Name y py, .Name z pz] kt pt] (.Tuple [a, b, c] k2 pt2) X.env = pure (some [x, y, z]))
    (hs : swapsWithSole [.Tuple [.Name x px, .Name y py, .Name z pz] kt pt] (.Tuple [a, b, c] k2 pt2) pos.line X.env = pure false) :
    PS X (.Assign [.Tuple [.Name x px, .Name y py, .Name z pz] kt pt] (.Tuple [a, b, c] k2 pt2) pos) (tS X.E W io (mPar io [i, j, l] ma)) := (ps_par3 hc hN hi hj hl hij hil hjl hx hy hz ha hw hs).weak fun De σ H h => by
  refine tA_mono (tS_par h) fun vs H1 q => ?_
  obtain ⟨hl, _, q, _⟩ := q
  match vs, hl, q with
  | [u, v, w], _, q => exact ⟨u, v, w, rfl, q⟩
end
def shared : List Bool → List C → Bool
  | [], [] => true
  | true :: bs, c :: cs => shared bs cs
  | false :: bs, .sh _ :: cs => shared bs cs
  | _, _ => false
/-- what the caller's cells are behind the call -/
def after : List Bool → List C → Cs → List C
  | true :: bs, _ :: cs, e :: ε => e :: after bs cs ε
  | false :: bs, c :: cs, _ :: ε => c :: after bs cs ε
  | _, _, _ => []
def iosAt (k : Nat) : List Bool → List Nat
  | [] => []
  | true :: bs => k :: iosAt (k + 1) bs
  | false :: bs => iosAt (k + 1) bs
abbrev ios (bs : List Bool) : List Nat := iosAt 0 bs
def semF (io : List Bool) (ns : Nat) (m : XM) : GM := fun cs =>
  if shared io cs then
    match m (cs ++ List.replicate (ns - cs.length) .no) with
    | some (.rt c, ε') => some (c, after io cs ε')
    | some (.nx, ε') => some (.sh .none, after io cs ε')
    | _ => none
  else none
theorem mem_ios : ∀ {bs : List Bool} {k j : Nat}, j ∈ iosAt k bs ↔ k ≤ j ∧ bs[j - k]? = some true
  | [], k, j => by simp [iosAt]
  | true :: bs, k, j => by
    unfold iosAt
    rw [List.mem_cons, mem_ios]
    constructor
    · rintro (rfl | ⟨h1, h2⟩)
      · simp
      · refine ⟨by omega, ?_⟩
        rw [show j - k = (j - (k + 1)) + 1 by omega, List.getElem?_cons_succ]
        exact h2
    · rintro ⟨h1, h2⟩
      by_cases e : j = k
      · exact .inl e
      · refine .inr ⟨by omega, ?_⟩
        rw [show j - k = (j - (k + 1)) + 1 by omega, List.getElem?_cons_succ] at h2
        exact h2
  | false :: bs, k, j => by
    unfold iosAt
    rw [mem_ios]
    constructor
    · rintro ⟨h1, h2⟩
      refine ⟨by omega, ?_⟩
      rw [show j - k = (j - (k + 1)) + 1 by omega, List.getElem?_cons_succ]
      exact h2
    · rintro ⟨h1, h2⟩
      by_cases e : j = k
      · subst e
        simp at h2
      · refine ⟨by omega, ?_⟩
        rw [show j - k = (j - (k + 1)) + 1 by omega, List.getElem?_cons_succ] at h2
        exact h2
theorem mem_ios0 {bs : List Bool} {j : Nat} : j ∈ ios bs ↔ bs[j]? = some true := by
  unfold ios
  rw [mem_ios]
  simp
theorem leaveA {K : Ek} {F F' H H' : Hp} (fm : Same F F') : ∀ {bs : List Bool} {vs : List V} {cs : List C} {σ : St} {ε : Cs} {f0 fs : List (List Addr)}, RpCs K F H (vs.map some) cs f0 → RpCs K F' H' σ ε fs → shared bs cs = true → (∀ j : Nat, bs[j]? = some true → σ[j]? = (vs.map some)[j]?) → cs.length ≤ ε.length →
    ∃ f2, RpCs K F' H' (vs.map some) (after bs cs ε) f2 ∧ f2.flatten.Sublist fs.flatten
  | [], vs, [], σ, ε, f0, fs, h0, h, hs, hj, hl => ⟨[], by simpa [after] using ⟨h0.1, rfl⟩, by simp⟩
  | [], vs, c :: cs, σ, ε, f0, fs, h0, h, hs, hj, hl => by simp [shared] at hs
  | true :: bs, vs, [], σ, ε, f0, fs, h0, h, hs, hj, hl => by simp [shared] at hs
  | false :: bs, vs, [], σ, ε, f0, fs, h0, h, hs, hj, hl => by simp [shared] at hs
  | b :: bs, vs, c :: cs, σ, [], f0, fs, h0, h, hs, hj, hl => by simp at hl
  | b :: bs, vs, c :: cs, σ, e :: ε, f0, fs, h0, h, hs, hj, hl => by
    obtain ⟨o, r, f, fr, e1, e2, k1, k2⟩ := h0
    obtain ⟨o', r', f', fr', e1', e2', k1', k2'⟩ := h
    cases vs with
    | nil => cases e1
    | cons v vs =>
      obtain ⟨rfl, rfl⟩ := List.cons.inj e1
      subst e1' e2'
      have hs' : shared bs cs = true := by cases b <;> cases c <;> simp_all [shared]
      obtain ⟨f2, g1, g2⟩ := leaveA fm (bs := bs) k2 k2' hs' (fun j h => by simpa using hj (j + 1) (by simpa using h)) (by simpa using hl)
      cases b with
      | true =>
        have ho : o' = some v := by simpa using hj 0 rfl
        subst ho
        exact ⟨f' :: f2, ⟨_, _, _, _, rfl, rfl, k1', g1⟩, by rw [List.flatten_cons, List.flatten_cons]; exact List.Sublist.append (List.Sublist.refl _) g2⟩
      | false =>
        cases c with
        | sh d =>
          obtain ⟨_, w, ew, rw⟩ := k1
          refine ⟨[] :: f2, ⟨_, _, _, _, rfl, rfl, ⟨rfl, w, ew, Rep.mono fm _ _ rw⟩, g1⟩, ?_⟩
          rw [List.flatten_cons, List.flatten_cons, List.nil_append]
          exact g2.trans (List.sublist_append_right _ _)
        | no => simp [shared] at hs
        | ls d => simp [shared] at hs
        | dc k d => simp [shared] at hs
        | ob k d => simp [shared] at hs
        | px _ _ _ _ => simp [shared] at hs
        | fn _ => simp [shared] at hs
        | fd _ => simp [shared] at hs
/-- the callee's frame at its begin -/
theorem Sep.ext {K : Ek} {F R H : Hp} {σ : St} {ε : Cs} (s : Sep K F R H σ ε []) (n : Nat) : Sep K F R H (σ ++ List.replicate n none) (ε ++ List.replicate n .no) [] := by
  obtain ⟨a1, a2, a3, ⟨fs, gs, h1, h2, n1, m1⟩⟩ := s
  have e : (fs ++ List.replicate n ([] : List Addr)).flatten = fs.flatten := by rw [List.flatten_append, flat_rep, List.append_nil]
  exact ⟨a1, a2, a3, fs ++ List.replicate n [], gs, h1.append (RpCs.nos n _ (by simp)), h2, by rw [e]; exact n1, by rw [e]; exact m1⟩
/-- .. and at its end -/
theorem Sep.leave {K : Ek} {F R H F' R' H' : Hp} {vs : List V} {cs : List C} {n : Nat} {io : List Bool} {σ' : St} {ε' : Cs} {T : Tms} (s : Sep K F R' H (vs.map some) cs []) (hs : shared io cs = true) (fm : Same F F') (t : StS (ios io) (vs.map some ++ List.replicate n none) σ')
    (s' : Sep K F' R H' σ' ε' T) : Sep K F' R H' (vs.map some) (after io cs ε') T := by
  have l0 := s.len
  have l1 := s'.len
  have l2 := t.ln
  rw [List.length_append, List.length_replicate, List.length_map] at l2
  rw [List.length_map] at l0
  obtain ⟨_, _, _, ⟨f0, _, k0, _⟩⟩ := s
  obtain ⟨a1, a2, a3, ⟨fs, gs, h1, h2, n1, m1⟩⟩ := s'
  have lb : ∀ {bs : List Bool} {cs : List C}, shared bs cs = true → bs.length = cs.length := by
    intro bs
    induction bs with
    | nil => intro cs h; cases cs <;> simp_all [shared]
    | cons b bs ih => intro cs h; cases cs with
      | nil => cases b <;> simp [shared] at h
      | cons c cs =>
        have : shared bs cs = true := by cases b <;> cases c <;> simp_all [shared]
        simp [ih this]
  obtain ⟨f2, g1, g2⟩ := leaveA fm k0 h1 hs (fun j hj => by
    have hlt : j < vs.length := by
      have := (List.getElem?_eq_some_iff.mp hj).1
      have := lb hs
      omega
    rw [t.st j (mem_ios0.mpr hj), List.getElem?_append_left (by simpa using hlt)]) (by omega)
  have sb := List.Sublist.append g2 (List.Sublist.refl gs.flatten)
  exact ⟨a1, a2, a3, f2, gs, g1, h2, sb.nodup n1, fun b hb => m1 b (sb.subset hb)⟩
theorem sem_run {K : Ek} {W : Xw} {np ns : Nat} {io : List Bool} {m : XM} {vs : List V} {H : Hp} {Q : VK} {E : XK} (h : spOf K np (semF io ns m) vs H Q E) :
    tS K W (ios io) m { nx := fun _ H' => Q .non H', rt := Q } (vs.map some ++ List.replicate (ns - vs.length) none) H := by
  obtain ⟨hl, F, R, cs, c, cs', s, e, q⟩ := h
  have lc : cs.length = vs.length := by rw [← s.len, List.length_map]
  unfold semF at e
  split at e
  · rename_i hs
    rw [lc] at e
    generalize hn : ns - vs.length = n at e ⊢
    have s2 := s.ext n
    split at e
    · rename_i c1 ε' hm
      cases e
      exact ⟨F, R, _, _, ε', s2, hm, fun F' H' σ' fm t v s' => q v F' H' fm (s.leave hs fm t s')⟩
    · rename_i ε' hm
      cases e
      exact ⟨F, R, _, _, ε', s2, hm, fun F' H' σ' fm t s' => q .non F' H' fm ((s.leave hs fm t s').addSh (by simp only [Rep]))⟩
    · cases e
  · cases e
end L2.M
namespace L2.M
open PySem PySem.Spec PyProof.Rows
section
variable {X : Cx} {a b c e : Expr} {es rest : List Expr} {ma mb mo : OM} {m n : EM} {mr : AM} {t t1 t2 : TM} {pos p x : Pos} {k : Nat}
theorem ma_cons (h1 : PE X e (tO X.E mo)) (h2 : PA X es (tA X.E mr)) (hs : starEach (e :: es) X.env = (false, eval e X.env) :: starEach es X.env := by rfl) : PA X (e :: es) (tA X.E (mCons mo mr)) :=
  (pa_cons h1 h2 hs).weak fun _ _ _ h => tA_cons h
theorem x_bin {op : Operator} (ha : PE X a (tO X.E ma)) (hb : PE X b (tO X.E mb)) : PE X (.BinOp a op b pos) (tE X.E (mB (binD op) ma mb)) :=
  let ⟨_, h1, h2⟩ := bin_ok op
  me_bin h1 h2 ha hb
theorem x_cmp {op : CmpOp} (hr : Room k X.A) (ha : PE X a (tO X.E ma)) (hb : PE X b (tO X.E mb)) (hm : behindInMarks op b = false := by rfl) : PE X (.Compare a [op] [b] pos) (tE X.E (mB (cmpD op) ma mb)) :=
  let ⟨_, h1, h2⟩ := cmp_ok (by have := hr.un; omega) op
  me_cmp h1 h2 ha hb hm
theorem y_cmp {op : CmpOp} (hr : Room k X.A) (ha : PE X a (tO X.E ma)) (hb : PE X b (tO X.E mb)) (hm : behindInMarks op b = false := by rfl) : PT X (.Compare a [op] [b] pos) (tT X.E (mTst (mB (cmpD op) ma mb))) :=
  let ⟨_, h1, h2⟩ := cmp_ok (by have := hr.un; omega) op
  mt_cmp h1 h2 ha hb hm
theorem x_neg (ha : PE X a (tO X.E ma)) : PE X (.UnaryOp .USub a pos) (tE X.E (mU negD ma)) :=
  let ⟨_, h1, h2⟩ := neg_ok
  me_un h1 h2 ha
theorem x_ix (ha : PE X a (tO X.E ma)) (hb : PE X b (tO X.E mb)) (hs : PlainIx b := by exact fun _ _ => rfl) : PE X (.Subscript a b pos) (tE X.E (mB ixD ma mb)) :=
  let ⟨_, h1, h2⟩ := ix_ok
  me_ix h1 h2 ha hb hs
theorem ch_one {op : CmpOp} (hr : Room k X.A) (hb : PE X b (tO X.E mb)) : Chn X [op] [b] [(cmpD op, mb)] :=
  let ⟨_, h1, h2⟩ := cmp_ok (by have := hr.un; omega) op
  .one h1 h2 hb
theorem ch_cons {op op' : CmpOp} {ops : List CmpOp} {e' : Expr} {z : (D → D → Option C) × OM} {l : List ((D → D → Option C) × OM)} (hr : Room k X.A) (hb : PE X b (tO X.E mb)) (h : Chn X (op' :: ops) (e' :: es) (z :: l)) : Chn X (op :: op' :: ops) (b :: e' :: es) ((cmpD op, mb) :: z :: l) :=
  let ⟨_, h1, h2⟩ := cmp_ok (by have := hr.un; omega) op
  .cons h1 h2 hb h
theorem y_chain {op1 op2 : CmpOp} {ops : List CmpOp} {l : List ((D → D → Option C) × OM)} (ha : PE X a (tO X.E ma)) (h : Chn X (op1 :: op2 :: ops) (b :: c :: es) l) (hm : lastMarks (op1 :: op2 :: ops) (b :: c :: es) = false := by rfl) : PT X (.Compare a (op1 :: op2 :: ops) (b :: c :: es) pos) (tT X.E (mTst (mChn ma l))) := mt_chain ha h hm
theorem y_val (h : PE X e (tE X.E m)) (he : ∀ whole, isTrue e X.env whole = (do let v ← whole; standAt e.pos; holding [v] (truthy v)) := by intro _; rfl) : PT X e (tT X.E (mTst m)) := mt_val h he
/-- a built-in function's call -/
inductive Bf where
  | len | int | max | min | abs | tuple | list | repr
def Bf.nm : Bf → Str
  | .len => "len"
  | .int => "int"
  | .max => "max"
  | .min => "min"
  | .abs => "abs"
  | .tuple => "tuple"
  | .list => "list"
  | .repr => "repr"
def Bf.f : Bf → List D → Option C
  | .len => lenD
  | .int => intD
  | .max => maxD
  | .min => minD
  | .abs => absD
  | .tuple => tupD
  | .list => lstD
  | .repr => repD
theorem boot_abs : bootBuiltins "abs" = some (.builtin "abs") := by decide +kernel
theorem x_bf (q : Bf) {y : Str} (hy : y = q.nm) (hm : X.mg q.nm = none) (hc : X.calm = true) (hg : Gl X y) (ha : PA X (e :: es) (tA X.E mr)) (he : starEach (e :: es) X.env = (false, eval e X.env) :: starEach es X.env := by rfl) (hpl : (backTo pos (starEach es X.env)).any (·.1) = false := by rfl) :
    PE X (.Call (.Name y p) (e :: es) [] pos) (tE X.E (mOp q.f mr)) := by
  subst hy
  cases q with
  | len => exact let ⟨_, h1, h2⟩ := len_ok; me_callB h1 h2 hg hm boot_len ha (by decide) (by decide) he hpl
  | int => exact let ⟨_, h1, h2⟩ := int_ok; me_callTy h1 h2 hg hm boot_int ha (by decide) (by decide) he hpl
  | max => exact let ⟨_, h1, h2⟩ := max_ok hc; me_callB h1 h2 hg hm boot_max ha (by decide) (by decide) he hpl
  | min => exact let ⟨_, h1, h2⟩ := min_ok hc; me_callB h1 h2 hg hm boot_min ha (by decide) (by decide) he hpl
  | abs => exact let ⟨_, h1, h2⟩ := abs_ok; me_callB h1 h2 hg hm boot_abs ha (by decide) (by decide) he hpl
  | tuple => exact let ⟨_, h1, h2⟩ := tup_ok; me_callTy h1 h2 hg hm boot_tuple ha (by decide) (by decide) he hpl
  | list => exact let ⟨_, h1, h2⟩ := lst_ok; me_callTy h1 h2 hg hm boot_list ha (by decide) (by decide) he hpl
  | repr => exact let ⟨_, h1, h2⟩ := rep_ok; me_callB h1 h2 hg hm boot_repr ha (by decide) (by decide) he hpl
theorem Ty.boot : ∀ T : Ty, bootBuiltins T.nm = some (.type T.nm) := fun T => by
  cases T with
  | int => exact boot_int
  | bool => exact boot_bool
  | str => exact boot_str
  | list => exact boot_list
  | tuple => exact boot_tuple
  | dict => exact boot_dict
theorem x_isi (T : Ty) {y : Str} (hy : y = T.nm) (hm : X.mg "isinstance" = none) (hmT : X.mg T.nm = none) (hg : Gl X "isinstance") (hgT : Gl X y) (he : PE X e (tO X.E mo)) (hs : starEach [e, .Name y p] X.env = (false, eval e X.env) :: starEach [.Name y p] X.env := by rfl) :
    PE X (.Call (.Name "isinstance" x) [e, .Name y p] [] pos) (tE X.E (mIsi T mo)) := by
  subst hy
  exact me_isi (T := T) hm hmT hg hgT T.boot he (by cases T <;> decide) (by cases T <;> decide) hs rfl rfl
/-- {} that is never changed -/
theorem x_dct : PE X (.Dict [] [] pos) (tE X.E (mK (.dict []))) := pe_dnewK.weak fun σ H Q h => by
  obtain ⟨F, R, ε, c, ε', ok, e, q⟩ := h
  cases e
  refine fun q1 hq => ?_
  have g := Grw.laid (u := .dK []) ok.sub hq
  exact q _ _ _ g.fm ((ok.grow g).addSh ⟨q1, [], rfl, upd_same, rfl⟩)
end
section
variable {X : Cx} {W : Xw} {io : List Nat} {pos p p2 p3 : Pos} {e : Expr} {m : EM}
theorem z_set (i : Nat) {y : Str} (hN : X.N.Nodup) (he : PE X e (tE X.E m)) (hi : X.N[i]? = some y := by rfl) (hx : Loc X.env.scope y := by first | exact .inl rfl | exact .inr rfl) (hf : X.fn y = true ∨ X.env.scope.names.lookup y = some .local := by first | exact .inr rfl | exact .inl rfl) (hs : swapsWith e (some (.Name y p)) pos.line X.env = pure false := by rfl) : PS X (.Assign [.Name y p] e pos) (tS X.E W io (mSet io i m)) :=
  ms_set hN hi hx he hs hf
theorem z_asg {tg : Expr} {ts : List Nat} {g : TG} {bd : BM} (hg : Gd X.E g bd (· ∈ ts)) (hp : PG X tg g) (he : PE X e (tE X.E m)) (hs : swapsWithSole [tg] e pos.line X.env = pure false := by rfl) (hw : swappedStores [tg] e X.env = pure none := by rfl)
    (h1 : (assignEach [tg] X.env).map (·.2) = [assign tg X.env] := by rfl) : PS X (.Assign [tg] e pos) (tS X.E W io (mAsg ts io bd m)) := ms_asg hg he hp hs hw h1
theorem Gd.imp {K : Ek} {g : TG} {b : BM} {S S' : Nat → Prop} (h : Gd K g b S) (i : ∀ j, S j → S' j) : Gd K g b S' := fun F R H σ ε x d ε' Q o r e q => h F R H σ ε x d ε' Q o r e fun H' σ' bd => q H' σ' (bd.imp i)
theorem g_nm (i : Nat) {y : Str} (hN : X.N.Nodup) (hi : X.N[i]? = some y := by rfl) (hx : Loc X.env.scope y := by first | exact .inl rfl | exact .inr rfl) (hf : X.fn y = true ∨ X.env.scope.names.lookup y = some .local := by first | exact .inr rfl | exact .inl rfl) : PG X (.Name y p) (gName i) := pg_name hN hi hx hf
theorem z_app (i : Nat) {y : Str} (hv : PE X (.Name y p) (tVar i)) (he : PE X e (tE X.E m)) (hbase : attributeBase (.Name y p) "append" X.env (eval (.Name y p) X.env) = eval (.Name y p) X.env := by rfl)
    (hfew : ((backTo p3 (starEach [e] X.env)).all (fun x => !x.1) && (backToKw p3 (keywordEach [] X.env)).all (fun x => x.1.isSome) && decide ([e].length + ([] : List Keyword).length + (if ([] : List Keyword).isEmpty then 0 else 1) < 30)) = true := by rfl)
    (hline : (p2.endLine == p3.line) = true := by rfl) (hs : starEach [e] X.env = (false, eval e X.env) :: starEach [] X.env := by rfl) (hplain : (backTo p3 (starEach [] X.env)).any (·.1) = false := by rfl) (hst : starEach [e] X.env = [(false, eval e X.env)] := by rfl)
    (hsw : swapsWith (.Call (.Attribute (.Name y p) "append" p2) [e] [] p3) none pos.line X.env = pure false := by rfl) : PS X (.Expr (.Call (.Attribute (.Name y p) "append" p2) [e] [] p3) pos) (tS X.E W io (mApp i m)) :=
  ms_app hv he (fun {to t} h1 h2 => pe_bm PySem.F.plainAttrs_list PySem.F.slot_list_append PySem.F.type_list_append mt_append h1 h2 hbase hfew hline hs hplain) hst hsw
theorem z_ix (i : Nat) {y : Str} {kx : Expr} {ix : OM} (hv : PE X (.Name y p) (tVar i)) (hk : PE X kx (tO X.E ix)) (he : PE X e (tE X.E m))
    (ha : ∀ v, assign (.Subscript (.Name y p) kx p2) X.env v = (do
      let ov ← holding [v] (eval (.Name y p) X.env)
      let iv ← holding [v, ov] (eval kx X.env)
      standAt p2
      holding [v, ov, iv] (setItem ov iv v)
      release [v, ov, iv] []) := by intro _; rfl)
    (hs : swapsWithSole [.Subscript (.Name y p) kx p2] e pos.line X.env = pure false := by rfl) (hw : swappedStores [.Subscript (.Name y p) kx p2] e X.env = pure none := by rfl)
    (h1 : (assignEach [.Subscript (.Name y p) kx p2] X.env).map (·.2) = [assign (.Subscript (.Name y p) kx p2) X.env] := by rfl) : PS X (.Assign [.Subscript (.Name y p) kx p2] e pos) (tS X.E W io (mSetIx i m ix)) := ms_setIx hv he hk ha hs hw h1
theorem z_par2 (i j : Nat) {y z : Str} {a b : Expr} {kt k2 : Nat} {pt pt2 py pz : Pos} {ma : AM} (hc : X.calm = true) (hN : X.N.Nodup) (ha : PA X [a, b] (tA X.E ma)) (hi : X.N[i]? = some y := by rfl) (hj : X.N[j]? = some z := by rfl) (hij : i ≠ j := by decide)
    (hx : X.env.scope.names.lookup y = some .local := by rfl) (hy : X.env.scope.names.lookup z = some .local := by rfl)
    (hw : swappedStores [.Tuple [.Name y py, .Name z pz] kt pt] (.Tuple [a, b] k2 pt2) X.env = pure (some [y, z]) := by rfl)
    (hs : swapsWithSole [.Tuple [.Name y py, .Name z pz] kt pt] (.Tuple [a, b] k2 pt2) pos.line X.env = pure false := by rfl) :
    PS X (.Assign [.Tuple [.Name y py, .Name z pz] kt pt] (.Tuple [a, b] k2 pt2) pos) (tS X.E W io (mPar io [i, j] ma)) := ms_par2 hc hN hi hj hij hx hy ha hw hs
theorem z_par3 (i j l : Nat) {y z w : Str} {a b c : Expr} {kt k2 : Nat} {pt pt2 py pz pw : Pos} {ma : AM} (hc : X.calm = true) (hN : X.N.Nodup) (ha : PA X [a, b, c] (tA X.E ma)) (hi : X.N[i]? = some y := by rfl) (hj : X.N[j]? = some z := by rfl) (hl : X.N[l]? = some w := by rfl) (hij : i ≠ j := by decide) (hil : i ≠ l := by decide) (hjl : j ≠ l := by decide)
    (hx : X.env.scope.names.lookup y = some .local := by rfl) (hy : X.env.scope.names.lookup z = some .local := by rfl) (hz : X.env.scope.names.lookup w = some .local := by rfl)
    (hw : swappedStores [.Tuple [.Name y py, .Name z pz, .Name w pw] kt pt] (.Tuple [a, b, c] k2 pt2) X.env = pure (some [y, z, w]) := by rfl)
    (hs : swapsWithSole [.Tuple [.Name y py, .Name z pz, .Name w pw] kt pt] (.Tuple [a, b, c] k2 pt2) pos.line X.env = pure false := by rfl) :
    PS X (.Assign [.Tuple [.Name y py, .Name z pz, .Name w pw] kt pt] (.Tuple [a, b, c] k2 pt2) pos) (tS X.E W io (mPar io [i, j, l] ma)) := ms_par3 hc hN hi hj hl hij hil hjl hx hy hz ha hw hs
theorem z_for {iter tg : Expr} {body : List Stmt} {io' ts : List Nat} {src : SM} {g : TG} {bind : BM} {b : XM} (hp : PassesOwn (model X.prog X.w) X.A X.env X.xe) (hc : X.calm = true) (hi : PI X tg iter (tI X.E src)) (hgd : Gd X.E g bind (· ∈ ts)) (hg : PG X tg g)
    (hb : PSs X body (tS X.E W io' b)) (hio : ∀ i ∈ io, i ∈ io' := by decide) (hts : ∀ i ∈ ts, i ∉ io' := by decide) (hs : ∀ x, foldedSetIterable iter X.env x = pure x := by intro _; rfl) : PS X (.For tg iter body [] pos) (tS X.E W io (mFor io' src bind b)) := ms_for hp hc hi hg hgd hb hio hts hs
theorem z_rng1 {tg a : Expr} {ma : AM} (hm : X.mg "range" = none) (hg : Gl X "range") (ha : PA X [a] (tA X.E ma)) (hs : starEach [a] X.env = [(false, eval a X.env)] := by rfl) : PI X tg (.Call (.Name "range" p) [a] [] pos) (tI X.E (mSrc rng1D ma)) := mi_range1 hg hm ha hs
end
def Wo (fa : List He.Fa) (fn : List He.DefD) (K : PySem.W.Frag) (mg : Str → Option Value) : Prop := ∃ h : Heap, K.In h ∧ h.Ns mainGlobals mg ∧ He.SaysD fa fn K
section
variable {fa : List He.Fa} {fn : List He.DefD} {K : PySem.W.Frag} {mg : Str → Option Value}
theorem Wo.free (W : Wo fa fn K mg) (i : Nat) {x : Str} (h : fa[i]? = some (.free x) := by rfl) : mg x = none :=
  let ⟨_, X, G, c⟩ := W
  He.free_ok X G (c.fact i h)
theorem Wo.int (W : Wo fa fn K mg) (i : Nat) {x : Str} {n : Int} (h : fa[i]? = some (.int x n) := by rfl) : ∃ t, mg x = some (.int n t) :=
  let ⟨_, X, G, c⟩ := W
  He.int_ok X G (c.fact i h)
theorem Wo.str (W : Wo fa fn K mg) (i : Nat) {x z : Str} (h : fa[i]? = some (.str x z) := by rfl) : ∃ t, mg x = some (.str z t) :=
  let ⟨_, X, G, c⟩ := W
  He.str_ok X G (c.fact i h)
end
def Plain (d : He.DefD) (ps : List Str) : Prop := d.dfl = [] ∧ d.kwd = [] ∧ ∀ (kV doc pm : Value) (an : Option Addr) (cdv ct : Value) (us : List Value), us.length = ps.length → bindArgs (PySem.W.fnOf d.name d.qual d.params d.body d.scope .none kV doc pm an cdv ct) ⟨us, []⟩ = pure (ps.zip us)
abbrev cxN (P : Program) (w : World) (K : PySem.W.Frag) (mg : Str → Option Value) (base : Heap) (N : List Str) (d : He.DefD) (f : Addr) (cdv : Value) (A : Around) (outer : List Env) (s : Shared) (H : Hp) (E : XK) : Cx := (cxOf CX0 P w K mg base N d.qual d.scope f cdv A outer s H E).nox
/-- nothing is raised -/
abbrev W0 : Xw := fun _ _ _ _ => False
/-- a script in the first heap: read as frozen data -/
theorem sp_law {K : Ek} {m : XM} {n : Nat} {H : Hp} {a : Addr} {ns : List Int} (O : Only H) (h : SqL K.1 H a (ns.map V.int)) (hm : ∃ cs', semF [false] n m [.sh (.list (ns.map PyData.int))] = some (.sh (.bool true), cs')) :
    spOf K 1 (semF [false] n m) [.ref a] H (fun v _ => v = .bl true) fun _ _ _ => False := by
  obtain ⟨cs', hm⟩ := hm
  have reps : ∀ ns : List Int, Reps K.1 H (ns.map V.int) (ns.map PyData.int) := fun ns => by
    induction ns with
    | nil => rfl
    | cons x r ih => exact ⟨_, _, rfl, by simp only [Rep], ih⟩
  refine ⟨rfl, H, fun _ => none, [.sh (.list (ns.map PyData.int))], _, _, ⟨Same.refl H, fun b u z => (nomatch z), fun b _ => rfl, [[]], [], ⟨_, _, _, _, rfl, rfl, ⟨rfl, _, rfl, a, _, rfl, h, reps ns⟩, rfl, rfl⟩, ⟨rfl, rfl⟩, by simp, fun b hb => by simp at hb⟩, hm, fun v F' H' fm p => p.boolT⟩
end L2.M
namespace L2.M
open PySem PySem.Spec PyProof.Rows
section
variable {X : Cx} {pos p : Pos}
theorem pts_no : PTs X [] (tT X.E mYes) := ⟨fun pins s σ H Q I q => pts_nil.run pins s σ H Q I (tT_pure q)⟩
theorem pts_it {c : Expr} {t : TM} (h : PT X c (tT X.E t)) : PTs X [c] (tT X.E t) := pts_one h
theorem x_lc {elt tg iter : Expr} {ifs : List Expr} {scope : Scope} {src : SM} {bd : BM} {g : TG} {tt : TM} {m : EM} (own : List (Str × Nat)) (hc : X.calm = true) (hN : X.N.Nodup) (hok : BlkOk X.N X.env.scope scope own) (hsrc : PI X tg iter (tI X.E src)) (hgd : Gd X.E g bd (· ∈ own.map (·.2)))
    (hg : ∀ (s : Shared) (H : Hp) (c0 : Addr) (cl : List (Str × Addr)) (fp : List Addr), PG (X.blk s H scope (compEnvC scope cl c0 X.env) fp) tg g) (ht : ∀ (s : Shared) (H : Hp) (c0 : Addr) (cl : List (Str × Addr)) (fp : List Addr), PTs (X.blk s H scope (compEnvC scope cl c0 X.env) fp) ifs (tT X.E tt))
    (he : ∀ (s : Shared) (H : Hp) (c0 : Addr) (cl : List (Str × Addr)) (fp : List Addr), PE (X.blk s H scope (compEnvC scope cl c0 X.env) fp) elt (tE X.E m)) (hs : ∀ x, foldedSetIterable iter X.env x = pure x := by intro _; rfl) :
    PE X (.ListComp elt [⟨tg, iter, ifs, 0⟩] scope pos) (tE X.E (mLc src bd tt m (own.map (·.2)))) := (pe_lc hc hN hsrc hok hg ht he hs).weak fun _ _ _ h => tE_lc hgd (fun _ h => h) h
theorem z_lc {W : Xw} {io : List Nat} {y : Str} {spos : Pos} {elt tg iter : Expr} {ifs : List Expr} {scope : Scope} {src : SM} {bd : BM} {g : TG} {tt : TM} {m : EM} (i : Nat) (own : List (Str × Nat)) (hc : X.calm = true) (hN : X.N.Nodup) (hok : BlkOk X.N X.env.scope scope own) (hsrc : PI X tg iter (tI X.E src)) (hgd : Gd X.E g bd (· ∈ own.map (·.2)))
    (hg : ∀ (s : Shared) (H : Hp) (c0 : Addr) (cl : List (Str × Addr)) (fp : List Addr), PG (X.blk s H scope (compEnvC scope cl c0 X.env) fp) tg g) (ht : ∀ (s : Shared) (H : Hp) (c0 : Addr) (cl : List (Str × Addr)) (fp : List Addr), PTs (X.blk s H scope (compEnvC scope cl c0 X.env) fp) ifs (tT X.E tt))
    (he : ∀ (s : Shared) (H : Hp) (c0 : Addr) (cl : List (Str × Addr)) (fp : List Addr), PE (X.blk s H scope (compEnvC scope cl c0 X.env) fp) elt (tE X.E m)) (hy : X.N[i]? = some y := by rfl) (hyl : X.env.scope.names.lookup y = some .local := by rfl)
    (hsw : swapsWith (.ListComp elt [⟨tg, iter, ifs, 0⟩] scope pos) (some (.Name y p)) spos.line X.env = pure true := by rfl) (hs : ∀ x, foldedSetIterable iter X.env x = pure x := by intro _; rfl) :
    PS X (.Assign [.Name y p] (.ListComp elt [⟨tg, iter, ifs, 0⟩] scope pos) spos) (tS X.E W io (mSet io i (mLc src bd tt m (own.map (·.2))))) := (ps_setLc hc hN hy hyl hsw hsrc hok hg ht he hs).weak fun De σ H h => by
  exact tE_lc hgd (fun _ h => h) (tS_set h)
def revD : D → Option C
  | .list ds => some (.ls ds.reverse)
  | .tuple ds => some (.sh (.tuple ds.reverse))
  | _ => none
end
section
variable {prog : Program} {w : World} {A : Around} {E : Value → Shared → Prop} {s : Shared}
theorem places_back (n : Nat) : Builtin.Slice.slicePlaces ((n : Int) - 1) (-1) (-1) = n := by
  unfold Builtin.Slice.slicePlaces
  have h1 : ¬ ((-1 : Int) > 0) := by decide
  have h2 : -(-1 : Int) = 1 := by decide
  simp only [h1, if_false, h2, Int.ediv_one]
  split <;> omega
theorem pick_back (xs : Array Value) : ((List.range xs.size).filterMap fun (m : Nat) => xs[(((xs.size : Int) - 1) + (m : Int) * (-1)).toNat]?).toArray = xs.toList.reverse.toArray := by
  congr 1
  have e : (fun (m : Nat) => xs[(((xs.size : Int) - 1) + (m : Int) * (-1)).toNat]?) = fun (m : Nat) => xs[((xs.size : Int) - 1 - (m : Int)).toNat]? := by
    funext m
    congr 2
    omega
  rw [e]
  apply List.ext_getElem?
  intro i
  obtain ⟨l⟩ := xs
  simp only [List.size_toArray, List.getElem?_toArray]
  have key : ∀ (n : Nat), n ≤ l.length → (List.range n).filterMap (fun (m : Nat) => l[((l.length : Int) - 1 - (m : Int)).toNat]?) = l.reverse.take n := by
    intro n
    induction n with
    | zero => intro _; simp
    | succ n ih =>
      intro hn
      rw [List.range_succ, List.filterMap_append, ih (by omega), List.take_add_one]
      congr 1
      have h1 : ((l.length : Int) - 1 - n).toNat = l.length - 1 - n := by omega
      rw [List.getElem?_reverse (by omega)]
      simp only [List.filterMap_cons, List.filterMap_nil, h1]
      have h2 : l.length - 1 - n < l.length := by omega
      rw [List.getElem?_eq_getElem h2]
      rfl
  rw [key l.length (Nat.le_refl _), ← List.length_reverse, List.take_length]
theorem applied_back {b : Addr} {v1 v2 v3 : Value} {n : Nat} {Q : Int × Int × Nat → Shared → Prop} (h0 : s.heap.IsSliceOf b v1 v2 v3) (h1 : IsPart v1 none) (h2 : IsPart v2 none) (h3 : IsPart v3 (some (-1))) (q : Q ((n : Int) - 1, -1, n) s) :
    wpAny (model prog w) A (Builtin.Slice.sliceApplied (.ref b) (pure (n : Int))) Q E s := by
  obtain ⟨o2, e2, c2, d2⟩ := id h0
  unfold Builtin.Slice.sliceApplied Builtin.Slice.sliceFields
  refine wpAny_bind (wpAny_bind (wpAny_field e2 d2 (x := v1) rfl (wpAny_bind (wpAny_field e2 d2 (x := v2) rfl (wpAny_bind (wpAny_field e2 d2 (x := v3) rfl (wpAny_pure ?_)))))))
  refine wpAny_bind (HT.slicePart_ h3 ?_)
  show wpAny _ _ (if ((-1 : Int) == 0) = true then _ else _) _ _ s
  rw [if_neg (by decide)]
  refine wpAny_bind (HT.slicePart_ h1 (wpAny_bind (HT.slicePart_ h2 (wpAny_bind (wpAny_pure ?_)))))
  show wpAny _ _ (pure ((n : Int) - 1, (-1 : Int), Builtin.Slice.slicePlaces ((n : Int) - 1) (-1) (-1))) _ _ s
  rw [places_back]
  exact wpAny_pure q
theorem item_back {t b : Addr} {xs : Array Value} {v1 v2 v3 : Value} {Q : Value → Shared → Prop} (h : IsTup s.heap t xs) (h0 : s.heap.IsSliceOf b v1 v2 v3) (h1 : IsPart v1 none) (h2 : IsPart v2 none) (h3 : IsPart v3 (some (-1))) (hz : xs.size ≤ sizeLine)
    (q : Q (.ref s.heap.objs.size) { s with heap := s.heap.push { cls := .type "tuple", data := .seq xs.toList.reverse.toArray } }) : wpAny (model prog w) A (getItem (.ref t) (.ref b)) Q E s := by
  have fits : sizeOk (.seq xs.toList.reverse.toArray) := by
    show xs.toList.reverse.toArray.size ≤ sizeLine
    simpa using hz
  obtain ⟨o2, e2, c2, d2⟩ := id h0
  have ty2 : s.TypeIs (.ref b) "slice" := ⟨o2, e2, c2⟩
  unfold getItem
  try with_reducible refine wpAny_holding ?_
  first | refine wpAny_bind (wpAny_pure ?_) | skip
  refine wpAny_bind (wpAny_sequenceKey h.typeIs (by decide) ?_)
  refine wpAny_bind (wpAny_callSpecial?_slot (name := Str.ofString "__getitem__") h.typeIs PyProof.Rows.slot_tuple_getitem (wpAny_call_entry PyProof.Rows.slot_tuple_getitem h.typeIs entry_tuple_getitem ?_ (args_tuple_getitem _ _)))
  show wpAny _ _ (Builtin.Tuple.tupleItemsOf (.ref t) >>= _) _ _ s
  refine wpAny_bind (tupleItemsOf_ h ?_)
  refine wpAny_bind (wpAny_typeOf ty2 ?_)
  rw [if_pos (by decide)]
  refine wpAny_bind (applied_back h0 h1 h2 h3 ?_)
  have no : ¬ (((((xs.size : Nat) : Int) - 1 == 0) && ((-1 : Int) == 1) && (xs.size == xs.size)) = true) := by simp
  show wpAny _ _ (if ((((xs.size : Nat) : Int) - 1 == 0) && ((-1 : Int) == 1) && (xs.size == xs.size)) = true then _ else _) _ _ s
  rw [if_neg no, pick_back]
  first
    | exact wpAny_bind (m := Builtin.Tuple.tupleExact _) (wpAny_newObj_type (wpAny_pure ⟨_, rfl, wpAny_pure q⟩) fits)
    | exact wpAny_bind (m := Builtin.Tuple.tupleExact _) (wpAny_newObj_type (wpAny_bind (wpAny_pure (wpAny_pure ⟨_, rfl, wpAny_pure q⟩))) fits)
    | exact wpAny_bind (wpAny_bind (m := Builtin.Tuple.tupleExact _) (wpAny_newObj_type (wpAny_pure (wpAny_pure ⟨_, rfl, wpAny_pure q⟩)) fits))
    | exact wpAny_bind (wpAny_bind (m := Builtin.Tuple.tupleExact _) (wpAny_newObj_type (wpAny_pure ⟨_, rfl, wpAny_pure q⟩) fits))
end
def tRevA (K : PySem.W.Frag) (te : TE) : TE := fun σ H Q => te σ H fun x H1 => (∃ a xs, x = .ref a ∧ SqL K H1 a xs ∧ ∀ p, H1 p = none → Q (.ref p) (upd H1 p (.lst xs.reverse))) ∨ ∃ a xs, x = .ref a ∧ SqT K H1 a xs ∧ ∀ (p : Addr) (o : Obj), o.dict = none → H1 p = none → Q (.ref p) (upd H1 p (.frz o (.tup xs.reverse)))
section
variable {X : Cx} {e : Expr} {k : Nat} {p1 p2 p3 pos : Pos}
theorem pe_back {te : TE} (he : PE X e te) : PE X (.Subscript e (.Slice none none (some (.UnaryOp .USub (.Constant (.int 1) k p1) p2)) p3) pos) (tRevA X.K te) := by
  refine ⟨fun pins s σ H Q I h => ?_⟩
  refine Subscript_ (thn (he.run pins s σ H _ I h) fun v s1 ⟨x, H1, I1, r1, q1⟩ => ?_)
  have back : PO X (some (.UnaryOp .USub (.Constant (.int 1) k p1) p2)) (tPart (tUn (rU fun i => .int (-i)) (tC (.int 1)))) := po_some (pe_un un_neg pe_int)
  refine wpAny_Slice (thn (po_none.run pins s1 σ H1 (fun o Ha => o = none ∧ Ha = H1) I1 ⟨rfl, rfl⟩) fun vl s2 ⟨o1, H2, I2, pl, g1, g2⟩ => ?_)
  subst g1 g2
  refine thn (po_none.run pins s2 σ H2 (fun o Ha => o = none ∧ Ha = H2) I2 ⟨rfl, rfl⟩) fun vu s3 ⟨o2, H3, I3, pu, g1, g2⟩ => ?_
  subst g1 g2
  refine thn (back.run pins s3 σ H3 (fun o Ha => o = some (-1) ∧ Ha = H3) I3 ⟨1, rfl, -1, rfl, rfl, rfl⟩) fun vs s4 ⟨o3, H4, I4, ps, g1, g2⟩ => ?_
  subst g1 g2
  have I5 : Inv X pins σ H4 { s4 with heap := s4.heap.push { cls := .type "slice", data := .fields #[vl, vu, vs] } } := I4.kept (t' := s4.toks) fun b ob z => Heap.get?_push_of_some _ z
  rcases q1 with ⟨a, xs, ex, hx, q⟩ | ⟨a, xs, ex, hx, q⟩
  · subst ex
    cases r1
    obtain ⟨its, r, hL, hz⟩ := I5.list hx
    have hn := r.length
    show wpAny (model X.prog X.w) X.A (subscriptTail e (.Slice none none (some (.UnaryOp .USub (.Constant (.int 1) k p1) p2)) p3) (.ref a) (.ref s4.heap.objs.size)) (EP X pins σ Q) X.xe _
    refine tail_any (ops := [.ref a, .ref s4.heap.objs.size]) hL.isList.typeIs (PySem.slot_list_getitem.lookup) ?_ (by with_unfolding_all rfl)
    refine wpAny_getItem_list_slice hL.isList (Heap.IsSliceOf.new _ vl vu vs) pl pu ps (by decide) ?_ (by rw [List.size_toArray]; omega)
    rw [PySem.W.krv_pick]
    refine ⟨.ref _, _, I5.laid (t' := s4.toks) (o := .lst xs.reverse) (fun b ob z => Heap.get?_push_of_some _ z) (Nat.le_refl _) ?_, rfl, q _ (I5.hok.fresh (Nat.le_refl _))⟩
    exact ⟨by rw [List.length_reverse]; exact hz, _, 0, r.reverse, Heap.get?_push_size _ rfl⟩
  · subst ex
    cases r1
    obtain ⟨its, r, hT, hz⟩ := I5.tuple hx
    have hn := r.length
    show wpAny (model X.prog X.w) X.A (subscriptTail e (.Slice none none (some (.UnaryOp .USub (.Constant (.int 1) k p1) p2)) p3) (.ref a) (.ref s4.heap.objs.size)) (EP X pins σ Q) X.xe _
    refine tail_any (ops := [.ref a, .ref s4.heap.objs.size]) hT.typeIs PyProof.Rows.slot_tuple_getitem.lookup ?_ (by with_unfolding_all rfl)
    refine item_back hT (Heap.IsSliceOf.new _ vl vu vs) pl pu ps (by rw [List.size_toArray]; omega) ?_
    exact laidH I5 r.reverse (by rw [List.length_reverse]; exact hz) q
def mRev (m : OM) : EM := mU revD m
theorem x_rev {m : OM} (he : PE X e (tO X.E m)) : PE X (.Subscript e (.Slice none none (some (.UnaryOp .USub (.Constant (.int 1) k p1) p2)) p3) pos) (tE X.E (mRev m)) := (pe_back he).weak fun σ H Q h => by
  have := tE_u (r := fun x H1 Q => (∃ a xs, x = .ref a ∧ SqL X.K H1 a xs ∧ ∀ p, H1 p = none → Q (.ref p) (upd H1 p (.lst xs.reverse))) ∨ ∃ a xs, x = .ref a ∧ SqT X.K H1 a xs ∧ ∀ (p : Addr) (o : Obj), o.dict = none → H1 p = none → Q (.ref p) (upd H1 p (.frz o (.tup xs.reverse)))) (fun F H x d c Q s h1 he q => by
    unfold revD at he
    split at he
    · cases he
      obtain ⟨a, vs, rfl, g1, g2⟩ := rb_lst s h1
      exact .inl ⟨a, vs, rfl, g1, g_lst s g2.reverse q⟩
    · cases he
      obtain ⟨a, vs, rfl, g0, g1, g2⟩ := rb_tup s h1
      exact .inr ⟨a, vs, rfl, g1, g_tup s g2.reverse q⟩
    · cases he) h
  exact this
end
end L2.M
namespace L2.M
open PySem PySem.Spec PyProof.Rows
def intsOf : List D → Option (List Int)
  | [] => some []
  | .int i :: ds => (intsOf ds).map (i :: ·)
  | _ => none
def boolsOf : List D → Option (List Bool)
  | [] => some []
  | .bool i :: ds => (boolsOf ds).map (i :: ·)
  | _ => none
theorem ints_reps {K : PySem.W.Frag} {F : Hp} : ∀ {ds : List D} {vs : List V} {ns : List Int}, Reps K F vs ds → intsOf ds = some ns → vs = ns.map V.int
  | [], vs, ns, h, e => by cases e; exact h
  | .int i :: ds, vs, ns, ⟨v, r, h1, h2, h3⟩, e => by
    simp only [intsOf, Option.map_eq_some_iff] at e
    obtain ⟨ms, e1, rfl⟩ := e
    subst h1
    simp only [Rep] at h2
    rw [h2, ints_reps h3 e1]
    rfl
  | .none :: ds, vs, ns, h, e => by cases e
  | .bool _ :: ds, vs, ns, h, e => by cases e
  | .str _ :: ds, vs, ns, h, e => by cases e
  | .list _ :: ds, vs, ns, h, e => by cases e
  | .tuple _ :: ds, vs, ns, h, e => by cases e
  | .dict _ :: ds, vs, ns, h, e => by cases e
theorem bools_reps {K : PySem.W.Frag} {F : Hp} : ∀ {ds : List D} {vs : List V} {ns : List Bool}, Reps K F vs ds → boolsOf ds = some ns → vs = ns.map V.bl
  | [], vs, ns, h, e => by cases e; exact h
  | .bool i :: ds, vs, ns, ⟨v, r, h1, h2, h3⟩, e => by
    simp only [boolsOf, Option.map_eq_some_iff] at e
    obtain ⟨ms, e1, rfl⟩ := e
    subst h1
    simp only [Rep] at h2
    rw [h2, bools_reps h3 e1]
    rfl
  | .none :: ds, vs, ns, h, e => by cases e
  | .int _ :: ds, vs, ns, h, e => by cases e
  | .str _ :: ds, vs, ns, h, e => by cases e
  | .list _ :: ds, vs, ns, h, e => by cases e
  | .tuple _ :: ds, vs, ns, h, e => by cases e
  | .dict _ :: ds, vs, ns, h, e => by cases e
theorem reps_ints {K : PySem.W.Frag} {F : Hp} : ∀ ns : List Int, Reps K F (ns.map V.int) (ns.map PyData.int)
  | [] => rfl
  | n :: ns => ⟨_, _, rfl, by simp only [Rep], reps_ints ns⟩
def anyD : List D → Option C
  | [.list ds] => (boolsOf ds).map fun bs => .sh (.bool (bs.any id))
  | _ => none
def allD : List D → Option C
  | [.list ds] => (boolsOf ds).map fun bs => .sh (.bool (bs.all id))
  | _ => none
def sumD : List D → Option C
  | [.list ds] => (intsOf ds).map fun ns => .sh (.int ns.sum)
  | _ => none
def isort (ns : List Int) : List Int := ns.mergeSort fun a b => decide (a ≤ b)
def sortD : List D → Option C
  | [.list ds] => (intsOf ds).map fun ns => .ls ((isort ns).map PyData.int)
  | _ => none
def strD : List D → Option C
  | [.int i] => if sm i then some (.sh (.str (toString i))) else none
  | _ => none
def gmaxD : List D → Option C
  | [.list ds] => match intsOf ds with
    | some (n :: ns) => some (.sh (.int (ns.foldl max n)))
    | _ => none
  | _ => none
def gminD : List D → Option C
  | [.list ds] => match intsOf ds with
    | some (n :: ns) => some (.sh (.int (ns.foldl min n)))
    | _ => none
  | _ => none
theorem isort_of {ns ms : List Int} (p : ms.Perm ns) (s : ms.Pairwise (· ≤ ·)) : ms = isort ns := by
  have h1 : (isort ns).Perm ns := List.mergeSort_perm ns _
  have h2 : (isort ns).Pairwise (fun a b => decide (a ≤ b) = true) := List.pairwise_mergeSort (by intro a b c; simp; omega) (by intro a b; simp; omega) ns
  have h3 : (isort ns).Pairwise (· ≤ ·) := h2.imp fun h => by simpa using h
  exact (p.trans h1.symm).eq_of_pairwise (fun a b _ _ h k => Int.le_antisymm h k) s h3
section
variable {X : Cx}
theorem any_ok (hc : X.calm = true) : ∃ r, CallR X (.builtin "any") r ∧ FnB X.K anyD r := by
  refine ⟨_, cr_any hc, fun F H vs ds c Q s hr he q => ?_⟩
  match ds, he, hr with
  | [.list ds], he, hr =>
    simp only [anyD, Option.map_eq_some_iff] at he
    obtain ⟨bs, e1, rfl⟩ := he
    obtain ⟨x, rfl, h1⟩ := hr.one
    obtain ⟨a, vs, rfl, g1, g2⟩ := rb_lst s h1
    rw [bools_reps g2 e1] at g1
    exact ⟨a, bs, rfl, g1, g_bool s q⟩
theorem all_ok (hc : X.calm = true) : ∃ r, CallR X (.builtin "all") r ∧ FnB X.K allD r := by
  refine ⟨_, cr_all hc, fun F H vs ds c Q s hr he q => ?_⟩
  match ds, he, hr with
  | [.list ds], he, hr =>
    simp only [allD, Option.map_eq_some_iff] at he
    obtain ⟨bs, e1, rfl⟩ := he
    obtain ⟨x, rfl, h1⟩ := hr.one
    obtain ⟨a, vs, rfl, g1, g2⟩ := rb_lst s h1
    rw [bools_reps g2 e1] at g1
    exact ⟨a, bs, rfl, g1, g_bool s q⟩
theorem sum_ok (hc : X.calm = true) : ∃ r, CallR X (.builtin "sum") r ∧ FnB X.K sumD r := by
  refine ⟨_, cr_sum hc, fun F H vs ds c Q s hr he q => ?_⟩
  match ds, he, hr with
  | [.list ds], he, hr =>
    simp only [sumD, Option.map_eq_some_iff] at he
    obtain ⟨bs, e1, rfl⟩ := he
    obtain ⟨x, rfl, h1⟩ := hr.one
    obtain ⟨a, vs, rfl, g1, g2⟩ := rb_lst s h1
    rw [ints_reps g2 e1] at g1
    exact ⟨a, bs, rfl, g1, g_int s q⟩
theorem sort_ok : ∃ r, CallR X (.builtin "sorted") r ∧ FnB X.K sortD r := by
  refine ⟨_, cr_sortedI, fun F H vs ds c Q s hr he q => ?_⟩
  match ds, he, hr with
  | [.list ds], he, hr =>
    simp only [sortD, Option.map_eq_some_iff] at he
    obtain ⟨bs, e1, rfl⟩ := he
    obtain ⟨x, rfl, h1⟩ := hr.one
    obtain ⟨a, vs, rfl, g1, g2⟩ := rb_lst s h1
    rw [ints_reps g2 e1] at g1
    refine ⟨a, bs, rfl, g1, fun ms p hp hs hq => ?_⟩
    rw [isort_of hp hs]
    exact g_lst s (reps_ints _) q p hq
theorem str_ok : ∃ r, CallR X (.type "str") r ∧ FnB X.K strD r := by
  refine ⟨_, call_str_int, fun F H vs ds c Q s hr he q => ?_⟩
  match ds, he, hr with
  | [.int i], he, hr =>
    simp only [strD] at he
    split at he
    · rename_i hz
      cases he
      obtain ⟨x, rfl, h1⟩ := hr.one
      rw [rb_int h1]
      exact ⟨i, rfl, by have := log2_le hz.1 hz.2; omega, g_str s q⟩
    · cases he
theorem fold_max : ∀ (ns : List Int) (n : Int), (ns.foldl max n = n ∨ ns.foldl max n ∈ ns) ∧ n ≤ ns.foldl max n ∧ ∀ y ∈ ns, y ≤ ns.foldl max n
  | [], n => ⟨.inl rfl, Int.le_refl _, fun y h => by cases h⟩
  | m :: ns, n => by
    obtain ⟨h1, h2, h3⟩ := fold_max ns (max n m)
    simp only [List.foldl_cons]
    refine ⟨?_, by omega, fun y hy => ?_⟩
    · rcases h1 with h | h
      · rw [h]
        by_cases k : n ≤ m
        · right; rw [Int.max_eq_right k]; exact List.mem_cons_self
        · left; exact Int.max_eq_left (by omega)
      · exact .inr (List.mem_cons_of_mem _ h)
    · rcases List.mem_cons.mp hy with rfl | hy
      · omega
      · exact h3 y hy
theorem fold_min : ∀ (ns : List Int) (n : Int), (ns.foldl min n = n ∨ ns.foldl min n ∈ ns) ∧ ns.foldl min n ≤ n ∧ ∀ y ∈ ns, ns.foldl min n ≤ y
  | [], n => ⟨.inl rfl, Int.le_refl _, fun y h => by cases h⟩
  | m :: ns, n => by
    obtain ⟨h1, h2, h3⟩ := fold_min ns (min n m)
    simp only [List.foldl_cons]
    refine ⟨?_, by omega, fun y hy => ?_⟩
    · rcases h1 with h | h
      · rw [h]
        by_cases k : n ≤ m
        · left; exact Int.min_eq_left k
        · right; rw [Int.min_eq_right (by omega)]; exact List.mem_cons_self
      · exact .inr (List.mem_cons_of_mem _ h)
    · rcases List.mem_cons.mp hy with rfl | hy
      · omega
      · exact h3 y hy
theorem gmax_ok (hc : X.calm = true) : ∃ r, CallR X (.builtin "max") r ∧ FnB X.K gmaxD r := by
  refine ⟨_, cr_max hc, fun F H vs ds c Q s hr he q => ?_⟩
  match ds, he, hr with
  | [.list ds], he, hr =>
    simp only [gmaxD] at he
    split at he
    · rename_i n ns e1
      cases he
      obtain ⟨x, rfl, h1⟩ := hr.one
      obtain ⟨a, vs, rfl, g1, g2⟩ := rb_lst s h1
      rw [ints_reps g2 e1] at g1
      refine ⟨a, n :: ns, rfl, g1, by simp, fun m hm hy => ?_⟩
      obtain ⟨k1, k2, k3⟩ := fold_max ns n
      have e : m = ns.foldl max n := by
        apply Int.le_antisymm
        · rcases List.mem_cons.mp hm with rfl | h
          · exact k2
          · exact k3 _ h
        · rcases k1 with h | h
          · rw [h]; exact hy _ List.mem_cons_self
          · exact hy _ (List.mem_cons_of_mem _ h)
      rw [e]
      exact g_int s q
    · cases he
theorem gmin_ok (hc : X.calm = true) : ∃ r, CallR X (.builtin "min") r ∧ FnB X.K gminD r := by
  refine ⟨_, cr_min hc, fun F H vs ds c Q s hr he q => ?_⟩
  match ds, he, hr with
  | [.list ds], he, hr =>
    simp only [gminD] at he
    split at he
    · rename_i n ns e1
      cases he
      obtain ⟨x, rfl, h1⟩ := hr.one
      obtain ⟨a, vs, rfl, g1, g2⟩ := rb_lst s h1
      rw [ints_reps g2 e1] at g1
      refine ⟨a, n :: ns, rfl, g1, by simp, fun m hm hy => ?_⟩
      obtain ⟨k1, k2, k3⟩ := fold_min ns n
      have e : m = ns.foldl min n := by
        apply Int.le_antisymm
        · rcases k1 with h | h
          · rw [h]; exact hy _ List.mem_cons_self
          · exact hy _ (List.mem_cons_of_mem _ h)
        · rcases List.mem_cons.mp hm with rfl | h
          · exact k2
          · exact k3 _ h
      rw [e]
      exact g_int s q
    · cases he
end
/-- more built-in functions of one list -/
inductive Bg where
  | any | all | sum | sorted | str | maxl | minl
def Bg.nm : Bg → Str
  | .any => "any"
  | .all => "all"
  | .sum => "sum"
  | .sorted => "sorted"
  | .str => "str"
  | .maxl => "max"
  | .minl => "min"
def Bg.f : Bg → List D → Option C
  | .any => anyD
  | .all => allD
  | .sum => sumD
  | .sorted => sortD
  | .str => strD
  | .maxl => gmaxD
  | .minl => gminD
theorem boot_any1 : bootBuiltins "any" = some (.builtin "any") := by decide +kernel
theorem boot_all1 : bootBuiltins "all" = some (.builtin "all") := by decide +kernel
theorem boot_sum1 : bootBuiltins "sum" = some (.builtin "sum") := by decide +kernel
theorem boot_sorted1 : bootBuiltins "sorted" = some (.builtin "sorted") := by decide +kernel
section
variable {X : Cx} {e : Expr} {es : List Expr} {mr : AM} {p pos : Pos}
theorem x_bg (q : Bg) {y : Str} (hy : y = q.nm) (hm : X.mg q.nm = none) (hc : X.calm = true) (hg : Gl X y) (ha : PA X (e :: es) (tA X.E mr)) (he : starEach (e :: es) X.env = (false, eval e X.env) :: starEach es X.env := by rfl) (hpl : (backTo pos (starEach es X.env)).any (·.1) = false := by rfl) :
    PE X (.Call (.Name y p) (e :: es) [] pos) (tE X.E (mOp q.f mr)) := by
  subst hy
  cases q with
  | any => exact let ⟨_, h1, h2⟩ := any_ok hc; me_callB h1 h2 hg hm boot_any1 ha (by decide) (by decide) he hpl
  | all => exact let ⟨_, h1, h2⟩ := all_ok hc; me_callB h1 h2 hg hm boot_all1 ha (by decide) (by decide) he hpl
  | sum => exact let ⟨_, h1, h2⟩ := sum_ok hc; me_callB h1 h2 hg hm boot_sum1 ha (by decide) (by decide) he hpl
  | sorted => exact let ⟨_, h1, h2⟩ := sort_ok; me_callB h1 h2 hg hm boot_sorted1 ha (by decide) (by decide) he hpl
  | str => exact let ⟨_, h1, h2⟩ := str_ok; me_callTy h1 h2 hg hm boot_str ha (by decide) (by decide) he hpl
  | maxl => exact let ⟨_, h1, h2⟩ := gmax_ok hc; me_callB h1 h2 hg hm boot_max ha (by decide) (by decide) he hpl
  | minl => exact let ⟨_, h1, h2⟩ := gmin_ok hc; me_callB h1 h2 hg hm boot_min ha (by decide) (by decide) he hpl
def enumFrom (k : Nat) : List D → List D
  | [] => []
  | d :: ds => .tuple [.int (k : Int), d] :: enumFrom (k + 1) ds
theorem enum_get : ∀ (ds : List D) (k i : Nat), (enumFrom k ds)[i]? = ds[i]?.map fun d => .tuple [.int ((k + i : Nat) : Int), d]
  | [], k, i => by simp [enumFrom]
  | d :: ds, k, 0 => by simp [enumFrom]
  | d :: ds, k, i + 1 => by
    simp only [enumFrom, List.getElem?_cons_succ]
    rw [enum_get ds (k + 1) i]
    have : k + 1 + i = k + (i + 1) := by omega
    rw [this]
theorem enum_len : ∀ (ds : List D) (k : Nat), (enumFrom k ds).length = ds.length
  | [], k => rfl
  | d :: ds, k => by simp [enumFrom, enum_len ds (k + 1)]
end
end L2.M
namespace L2.M
open PySem PySem.Spec PyProof.Rows
structure Rm (k : Nat) (A : Around) : Prop extends Room k A where
  gd : A.guards = some []
theorem Rm.mono {j k : Nat} {A : Around} (r : Rm k A) (h : j ≤ k) : Rm j A := ⟨r.toRoom.mono h, r.gd⟩
structure FnG (P : Program) (w : World) (K : PySem.W.Frag) (mg : Str → Option Value) (base : Heap) (CX : CXT) (k : Nat) (f : Addr) (fd : FuncData) (ps : List Str) (sp : Sp) : Prop where
  len : ∀ vs H Q E, sp vs H Q E → vs.length = ps.length
  run : ∀ (A : Around) (outer : List Env) (s : Shared) (H : Hp) (args : Args) (us : List Value) (vs : List V) (Q : VK) (E : XK), Rm k A → Env0 P w K mg base A outer s H → BindsTo s fd args (ps.zip us) → Vals vs us → sp vs H Q E →
    codeAny (model P w) A (.call (.ref f) args) (CR CX outer P w H s Q E) s
section
variable {P : Program} {w : World} {K : PySem.W.Frag} {mg : Str → Option Value} {base : Heap} {CX : CXT}
theorem FnG.mono {j k : Nat} {f : Addr} {fd : FuncData} {ps : List Str} {sp : Sp} (F : FnG P w K mg base CX j f fd ps sp) (h : j ≤ k) : FnG P w K mg base CX k f fd ps sp :=
  ⟨F.len, fun A outer s H args us vs Q E hr => F.run A outer s H args us vs Q E (hr.mono h)⟩
/-- a def's body, run where the guards are known -/
theorem fnG_of {N ps : List Str} {k : Nat} {sp : Sp} {f : Addr} {name qual : Str} {params : Arguments} {body : List Stmt} {scope : Scope} {dV kV doc pm cdv ct oc : Value} {an od : Option Addr} {osl : Array (Option Value)}
    (l0 : K.lookup f = some ⟨oc, od, .func (PySem.W.fnOf name qual params body scope dV kV doc pm an cdv ct), osl⟩) (c0 : PySem.W.codeIn K cdv qual = true) (S : FnScope N ps scope) (len : ∀ vs H Q E, sp vs H Q E → vs.length = ps.length)
    (hb : ∀ (A : Around) (outer : List Env) (s : Shared) (H : Hp) (vs : List V) (Q : VK) (E : XK), Rm k (A.deeper (envOfC qual scope s.heap.objs.size f cdv)) → sp vs H Q E →
      ∃ t, PSs (cxOf CX P w K mg base N qual scope f cdv A outer s H E) body t ∧ t { nx := fun _ H' => Q .non H', rt := Q } (start N vs) H) :
    FnG P w K mg base CX (k + 1) f (PySem.W.fnOf name qual params body scope dV kV doc pm an cdv ct) ps sp := by
  refine ⟨len, fun A outer s H args us vs Q E r0 env0 bd rv h0 => ?_⟩
  have inK : K.In s.heap := env0.mod.kin.keeps fun b o z => (env0.bs b o z).1
  have nl : s.heap.NoLimit := env0.mod.nolimit.keeps fun b o z => (env0.bs b o z).1
  have kinds : ∀ y ∈ ps.zip us, scope.names.lookup y.1 = some .local ∨ (scope.names.lookup y.1 = some .cell ∧ ((cellsFrom (s.heap.objs.size + 1) scope.names []).lookup y.1).isSome = true) := by
    rintro ⟨n, v⟩ hy
    have hn := S.par n (List.of_mem_zip hy).1
    rcases hn with z | z
    · exact .inl z
    · exact .inr ⟨z, PySem.W.cellsFrom_some _ _ _ (.inl z)⟩
  refine codeAny_call_function r0.toRoom.depth (inK _ _ l0) rfl S.co S.gen rfl (PySem.W.codeRec_of inK c0) (bd _ _ _ _ ?_)
  refine wpAny_newFunctionEnv_cells S.kind kinds fun env ee s2 x2 => ?_
  subst ee
  refine ⟨nl.keeps x2.toInCall.keep, codeAny_func ?_⟩
  obtain ⟨t, ht, hq⟩ := hb A outer s H vs Q E ⟨r0.toRoom.deeper _, r0.gd⟩ h0
  have J : Inv (cxOf CX P w K mg base N qual scope f cdv A outer s H E) [] (start N vs) H s2 := inv_start S r0.hd env0 (len _ _ _ _ h0) rv x2
  refine wpAny_mono (ht.run [] s2 (start N vs) H _ J hq) (fun fl s' z => ?_) fun e s' z => z
  cases fl with
  | ret u =>
    obtain ⟨v, σ', H', I, r, q⟩ := z
    exact ⟨v, H', I.os, I.bare, I.base, I.hok, r, q⟩
  | next =>
    obtain ⟨σ', H', I, q⟩ := z
    exact ⟨.non, H', I.os, I.bare, I.base, I.hok, rfl, q⟩
  | brk =>
    obtain ⟨_, _, _, q⟩ := z
    exact q.elim
  | cont =>
    obtain ⟨_, _, _, q⟩ := z
    exact q.elim
end
/-- a def that keeps its promise there, by its name -/
structure KnG (P : Program) (w : World) (K : PySem.W.Frag) (mg : Str → Option Value) (base : Heap) (k : Nat) (x : Str) (ps : List Str) (sp : Sp) : Prop where
  ex : ∃ (f : Addr) (fd : FuncData), mg x = some (.ref f) ∧ PySem.W.keepIn K (.ref f) = true ∧ Binds K fd ps [] ∧ FnG P w K mg base CX0 k f fd ps sp
section
variable {fa : List He.Fa} {fn : List He.DefD} {K : PySem.W.Frag} {mg : Str → Option Value} {P : Program} {w : World} {base : Heap}
theorem defG {N ps : List Str} {d : He.DefD} {k : Nat} {io : List Bool} {m : XM} {f : Addr} {fd : FuncData} {dvs : List V} {kws : List (Str × V)} (F : FunD K d.name d.qual d.params d.body d.scope dvs kws f fd) (S : FnScope N ps d.scope)
    (hb : ∀ (f : Addr) (cdv : Value) (A : Around) (outer : List Env) (s : Shared) (H : Hp) (E : XK), Rm k (cxN P w K mg base N d f cdv A outer s H E).A → PSs (cxN P w K mg base N d f cdv A outer s H E) d.body (tS (K, w) W0 (ios io) m)) :
    FnG P w K mg base CX0 (k + 1) f fd ps (spOf (K, w) ps.length (semF io N.length m)) := by
  obtain ⟨oc, od, dV, kV, doc, pm, an, cdv, ct, osl, rfl, l0, c0, _, _⟩ := F.ex
  exact fnG_of l0 c0 S (fun vs H Q E h => h.1) fun A outer s H vs Q E hr h => ⟨tS (K, w) W0 (ios io) m, PSs.nox (hb f cdv A outer s H E hr), sem_run h⟩
theorem kng_mk (W : Wo fa fn K mg) (i j : Nat) {N ps : List Str} {d : He.DefD} {k : Nat} {io : List Bool} {m : XM} {x : Str} (hd : fn[i]? = some d) (hx : d.at_ = (x, none)) (hf : fa[j]? = some (.glo x)) (pl : Plain d ps) (S : FnScope N ps d.scope)
    (hb : ∀ (f : Addr) (cdv : Value) (A : Around) (outer : List Env) (s : Shared) (H : Hp) (E : XK), Rm k (cxN P w K mg base N d f cdv A outer s H E).A → PSs (cxN P w K mg base N d f cdv A outer s H E) d.body (tS (K, w) W0 (ios io) m)) :
    KnG P w K mg base (k + 1) x ps (spOf (K, w) ps.length (semF io N.length m)) := by
  obtain ⟨h, X, G, c⟩ := W
  obtain ⟨fd, F⟩ := c.def_ i hd
  have g := He.glo_ok X G (c.fact j hf)
  have eD : d.dvs K = [] := by unfold He.DefD.dvs; rw [pl.1]; rfl
  have eA : He.fAd K d.at_ = He.ga K x := by rw [hx]; rfl
  rw [eD, eA] at F
  exact ⟨⟨_, fd, g, F.kp, F.bindsN pl.2.2, defG F S hb⟩⟩
/-- the callee runs, the guards known -/
theorem runG {X : Cx} {pins : List (Addr × Obj)} {σ : St} {H : Hp} {s : Shared} {Q : VK} {us : List Value} {vs : List V} {k : Nat} {f : Addr} {fd : FuncData} {ps : List Str} {sp : Sp} (F : FnG X.prog X.w X.K X.mg X.base CX0 k f fd ps sp) (hr : Rm k X.A) (hb : Binds X.K fd ps []) (I : Inv X pins σ H s) (r : Vals vs us) (h : sp vs H Q E0) :
    wpAny (model X.prog X.w) X.A (call (.ref f) us) (EP X pins σ Q) X.xe s := by
  have hl : us.length = ps.length := by rw [← r.length]; exact F.len _ _ _ _ h
  have bd := hb s us I.kIn (by rw [List.append_nil]; exact hl)
  rw [List.append_nil] at bd
  refine wpAny_call (codeAny_mono (F.run X.A X.stack s H ⟨us, []⟩ us vs Q E0 hr I.env0 bd r h) fun res s' hq => ?_)
  cases res with
  | error e => exact hq.elim
  | ok fl =>
    cases fl with
    | ret u => exact I.after hq
    | next => exact False.elim hq
    | brk => exact False.elim hq
    | cont => exact False.elim hq
theorem g_call {X : Cx} {k k' np : Nat} {x : Str} {ps : List Str} {g : GM} {io : List Bool} {ma : AM} {e : Expr} {es : List Expr} {p pos : Pos} (h : KnG X.prog X.w X.K X.mg X.base k x ps (spOf X.E np g)) (hr : Rm k' X.A) (hk : k ≤ k') (hg : Gl X x) (ha : PA X (e :: es) (tA X.E ma)) (hio : io.length = np := by rfl)
    (hdb : (x == ("__debug__" : Str)) = false := by decide) (he : starEach (e :: es) X.env = (false, eval e X.env) :: starEach es X.env := by rfl) (hpl : (backTo pos (starEach es X.env)).any (·.1) = false := by rfl) : PE X (.Call (.Name x p) (e :: es) [] pos) (tE X.E (mCall io g ma)) := by
  obtain ⟨f, fd, hm, hkp, hbi, F⟩ := h.ex
  refine ⟨fun pins s σ H Q I q => ?_⟩
  have q2 := tE_call hio q
  refine wpAny_Call_Name_kw (ld_glob I hg hm ?_ hdb)
  refine PySem.W.callWith_K (h₀ := X.base) I.ok.mod.kin hkp (thn (ha.run pos pins s σ H _ I q2) fun us s1 ⟨vs, H1, I1, r, q3⟩ => ⟨I1.kIn, ?_⟩) he hpl
  have q3 : spOf X.E np g (vs ++ []) H1 Q E0 := q3
  rw [List.append_nil] at q3
  exact runG (F.mono hk) hr hbi I1 r q3
end
section
variable {P : Program} {w : World} {K : PySem.W.Frag} {mg mb : Str → Option Value} {k : Nat} {fA a : Addr} {fd : FuncData} {x : Str} {sp : Sp} {s : Shared} {vs : List Value} {ns : List Int}
abbrev LawEnd (s : Shared) (r : Result) (s' : Shared) : Prop := r = .ok (.ret (.bool true)) ∧ OldK s.heap s'.heap ∧ s'.os = s.os ∧ AllBare s'.gens
theorem top_core {H : Hp} (inK : K.In s.heap) (n1 : s.heap.Ns mainGlobals mg) (n2 : s.heap.Ns builtinsNs mb) (bb : ∀ y : Str, y ≠ "__name__" → mb y = bootBuiltins y) (nl : s.heap.NoLimit) (g0 : s.gens = #[])
    (ea : s.heap.get? a = some { cls := .type "list", data := .seq vs.toArray }) (hr : Rm k callerA) (F : ∀ base : Heap, K.In base → base.Ns mainGlobals mg → FnG P w K mg base CX0 k fA fd [x] sp) (bd : ∀ (s : Shared) (u : Value), BindsTo s fd ⟨[u], []⟩ [(x, u)])
    (h0 : sp [.ref a] H (fun v _ => v = .bl true) fun _ _ _ => False) (hO : Only H) (hok : HOk P w H s.heap) (hA : ∀ b, H b ≠ none → b = a) (hK : H a ≠ none → K.lookup a = none) : codeAny (model P w) callerA (.call (.ref fA) ⟨[.ref a], []⟩) (LawEnd s) s := by
  have untr : ∀ {b : Addr} {o : Obj}, s.heap.get? b = some o → (b = a → o.data ≠ .seq vs.toArray → False) → (b = a → False) → H b = none := fun {b o} _ _ no => by
    by_cases z : H b = none
    · exact z
    · exact (no (hA b z)).elim
  have dictN : ∀ {b : Addr} {o : Obj} {es : Array DictEntry} {ep : Nat}, s.heap.get? b = some o → o.data = .dict es ep → H b = none := fun {b o es ep} e d => by
    refine untr e (fun _ _ => ?_) fun eb => ?_
    · rename_i eb ne
      subst eb
      rw [ea] at e
      cases e
      exact ne rfl
    · subst eb
      rw [ea] at e
      cases e
      have d2 : Data.seq vs.toArray _ = Data.dict es ep := d
      cases d2
  have ns2 : ∀ {b : Addr} {m : Str → Option Value}, s.heap.Ns b m → (hidT s.heap H).Ns b m := by
    rintro b m ⟨o, es, ep, e, d, r⟩
    exact ⟨o, es, ep, hidT_get e (dictN e d), d, r⟩
  have inB : K.In (hidT s.heap H) := by
    intro b o e
    refine hidT_get (inK b o e) ?_
    by_cases z : H b = none
    · exact z
    · have eb := hA b z
      subst eb
      rw [hK z] at e
      cases e
  obtain ⟨mc, l1, l2⟩ := nl
  have md : Mod K mg (hidT s.heap H) := ⟨inB, ns2 n1, ⟨mb, ns2 n2, bb⟩, ⟨mc, ns2 l1, l2⟩⟩
  have ev : Env0 P w K mg (hidT s.heap H) callerA [] s H := ⟨rfl, md, fun b o z => of_hidT z, Nat.le_of_eq (hidT_size _ _), trivial, fun b z => absurd (show b ∈ ([] : List Addr) from z) (by simp), hok, .of_eq g0⟩
  refine codeAny_mono ((F _ inB (ns2 n1)).run callerA [] s H ⟨[.ref a], []⟩ [.ref a] [.ref a] _ _ hr ev (bd s (.ref a)) (.cons rfl .nil) h0) fun r s' z => ?_
  match r, z with
  | .error e, z => exact z.elim
  | .ok .next, z => exact z.elim
  | .ok .brk, z => exact z.elim
  | .ok .cont, z => exact z.elim
  | .ok (.ret u), ⟨v, H', os, bare, un, hok2, rv, q⟩ =>
    have q : v = .bl true := q
    subst q
    obtain rfl : u = Value.bool true := rv
    refine ⟨rfl, OldK.of_keep fun b o e => ?_, os, bare⟩
    cases z : H b with
    | none => exact un.keep b o e z (fun y => absurd (show b ∈ ([] : List Addr) from y) (by simp)) (by simp)
    | some t =>
      rcases hO b with y | ⟨ob, xs, y⟩
      · rw [z] at y; cases y
      · obtain ⟨e1, _⟩ := hok b _ y
        obtain ⟨e2, _⟩ := hok2 b _ (un.frzs b ob _ y)
        rw [e] at e1
        cases e1
        exact e2
theorem top_call (inK : K.In s.heap) (n1 : s.heap.Ns mainGlobals mg) (n2 : s.heap.Ns builtinsNs mb) (bb : ∀ y : Str, y ≠ "__name__" → mb y = bootBuiltins y) (nl : s.heap.NoLimit) (g0 : s.gens = #[])
    (ea : s.heap.get? a = some { cls := .type "list", data := .seq vs.toArray }) (hi : IntsAre vs ns) (hl : ns.length ≤ sizeLine) (hr : Rm k callerA) (F : ∀ base : Heap, K.In base → base.Ns mainGlobals mg → FnG P w K mg base CX0 k fA fd [x] sp) (bd : ∀ (s : Shared) (u : Value), BindsTo s fd ⟨[u], []⟩ [(x, u)])
    (h0 : ∀ H : Hp, Only H → SqL K H a (ns.map V.int) → sp [.ref a] H (fun v _ => v = .bl true) fun _ _ _ => False) : codeAny (model P w) callerA (.call (.ref fA) ⟨[.ref a], []⟩) (LawEnd s) s := by
  have rv := vals_ints hi
  have len := hi.length
  by_cases hk : ∃ o, K.lookup a = some o
  · obtain ⟨o, hk⟩ := hk
    have e := inK a o hk
    rw [ea] at e
    cases e
    have sq : SqL K (fun _ => none) a (ns.map V.int) := .inr ⟨_, vs.toArray, _, hk, rfl, rfl, rfl, by rw [List.size_toArray, len]; exact hl, by simpa using rv⟩
    exact top_core inK n1 n2 bb nl g0 ea hr F bd (h0 _ (fun _ => .inl rfl) sq) (fun _ => .inl rfl) (fun b u z => by have z2 : (none : Option HO) = some u := z; cases z2) (fun b z => absurd rfl z) fun z => absurd rfl z
  · have hk : K.lookup a = none := by
      cases z : K.lookup a with
      | none => rfl
      | some o => exact absurd ⟨o, z⟩ hk
    let Hs : Hp := fun b => if b = a then some (.frz { cls := .type "list", data := .seq vs.toArray } (.lst (ns.map V.int))) else none
    have at1 : Hs a = some (.frz { cls := .type "list", data := .seq vs.toArray } (.lst (ns.map V.int))) := if_pos rfl
    have at2 : ∀ {b : Addr}, b ≠ a → Hs b = none := fun {b} n => if_neg n
    have on : Only Hs := fun b => by
      by_cases eb : b = a
      · subst eb; exact .inr ⟨_, _, at1⟩
      · exact .inl (at2 eb)
    refine top_core (H := Hs) inK n1 n2 bb nl g0 ea hr F bd (h0 Hs on (.inl (.inr ⟨_, at1⟩))) on (fun b u z => ?_) (fun b z => ?_) fun _ => hk
    · by_cases eb : b = a
      · subst eb
        rw [at1] at z
        cases z
        exact ⟨ea, by rw [List.length_map]; exact hl, vs, _, rv, ea⟩
      · rw [at2 eb] at z; cases z
    · by_cases eb : b = a
      · exact eb
      · exact absurd (at2 eb) z
end
theorem walkG {l : PySem.W.OpenLaw} {n k : Nat} {q : Program} {loose : List Str} {XP : (Str → Option Value) → Heap → Prop} {YP : World → Heap → Prop} {d : DefRec} {x : Str} (hn : l.most = some n) (h2 : n ≤ sizeLine) (h3 : d.params.defaults = []) (hr : Rm k callerA)
    (F : ∀ (w : World) (mg : Str → Option Value) (fA : Addr) (h : Heap), YP w h → h.Ns mainGlobals mg → mg d.name = some (.ref fA) → ∃ (K : PySem.W.Frag) (fd : FuncData) (sp : Sp), K.In h ∧ (∀ (s : Shared) (u : Value), BindsTo s fd ⟨[u], []⟩ [(x, u)]) ∧
      (∀ (H : Hp) (a : Addr) (ns : List Int), ns.length ≤ n → Only H → SqL K H a (ns.map V.int) → sp [.ref a] H (fun v _ => v = .bl true) fun _ _ _ => False) ∧ ∀ base : Heap, K.In base → base.Ns mainGlobals mg → FnG l.prog w K mg base CX0 k fA fd [x] sp) :
    PySem.W.WalkO q loose XP YP l.row.toRowW d [] (fun f vs => PySem.call f vs) := by
  refine Att.attach_call hn h3 fun w s0 s1 mg mb fA o pm cd doc a vs ns G Y ho hd hcd hmg hobj hints hlen hg => ?_
  obtain ⟨K, fd, sp, KX, hb, h0, hF⟩ := F w mg fA _ Y G.T.g hmg
  exact top_call KX G.T.g G.T.b G.T.builtins G.T.nolimit hg hobj hints (Nat.le_trans hlen h2) hr hF hb fun H hO hS => h0 H a ns hlen hO hS
theorem topG {fa : List He.Fa} {fn : List He.DefD} {K : PySem.W.Frag} {mg : Str → Option Value} {P : Program} {w : World} (W : Wo fa fn K mg) (i j : Nat) {N : List Str} {d : He.DefD} {k : Nat} {m : XM} {x f0 : Str} (hd : fn[i]? = some d) (hx : d.at_ = (f0, none)) (hf : fa[j]? = some (.glo f0)) (pl : Plain d [x]) (S : FnScope N [x] d.scope) {fA : Addr} (hfa : mg f0 = some (.ref fA))
    (hb : ∀ (base : Heap) (f : Addr) (cdv : Value) (A : Around) (outer : List Env) (s : Shared) (H : Hp) (E : XK), Rm k (cxN P w K mg base N d f cdv A outer s H E).A → PSs (cxN P w K mg base N d f cdv A outer s H E) d.body (tS (K, w) W0 (ios [false]) m)) :
    ∃ fd : FuncData, (∀ (s : Shared) (v : Value), BindsTo s fd ⟨[v], []⟩ [(x, v)]) ∧ ∀ base : Heap, K.In base → base.Ns mainGlobals mg → FnG P w K mg base CX0 (k + 1) fA fd [x] (spOf (K, w) 1 (semF [false] N.length m)) := by
  obtain ⟨h, X, G, c⟩ := W
  obtain ⟨fd, F⟩ := c.def_ i hd
  have g := He.glo_ok X G (c.fact j hf)
  have eD : d.dvs K = [] := by unfold He.DefD.dvs; rw [pl.1]; rfl
  have eA : He.fAd K d.at_ = He.ga K f0 := by rw [hx]; rfl
  have e := hfa.symm.trans g
  cases e
  rw [eD, eA] at F
  exact ⟨fd, fun s v => FunD.bindsA F pl.2.2 s [v] rfl, fun base _ _ => defG F S (hb base)⟩
def reprG : List D → Option C
  | [d] => if SeqAt.shaped d = true ∧ PyData.showable d = true ∧ d.shown.length ≤ sizeLine then some (.sh (.str d.shown)) else none
  | _ => none
section
variable {X : Cx}
theorem reprG_ok {k : Nat} (hr : Rm k X.A) : ∃ r, CallR X (.builtin "repr") r ∧ FnB X.K reprG r := by
  refine ⟨fun xs H Q => ∃ x d, xs = [x] ∧ Dp X.K H x d ∧ SeqAt.shaped d = true ∧ PyData.showable d = true ∧ d.shown.length ≤ sizeLine ∧ Q (.str d.shown) H, ?_, fun F H vs ds c Q s hrb he q => ?_⟩
  · rintro pins s σ H xs us Q I r ⟨x, d, rfl, dp, hs, hw, hz, q⟩
    obtain ⟨u, rfl, ru⟩ := vals1 r
    obtain ⟨as, rd⟩ := Dp.reads I d x u dp ru
    have fin : ∀ (t tk : Tok), EP X pins σ Q (.str d.shown t) { s with toks := tk } := fun t tk => ⟨.str d.shown, H, I.tok tk, ⟨t, rfl⟩, q⟩
    have big : ∀ {a : Addr}, Reads s.heap (.ref a) d as → wpAny (model X.prog X.w) X.A (call (.builtin "repr") [.ref a]) (EP X pins σ Q) X.xe s := fun {a} rd => by
      have hd := SeqAt.depth_of_shaped hs
      have hu := hr.un
      exact repr_of_reads' rd hw (PyData.noDict_hsm (PyData.hasDict_of_canLay d (SeqAt.canLay_of_shaped hs))) hr.gd (by omega) (fun _ _ e => e) (fun h' u tk hk => ⟨.str d.shown, H, I.kept (h' := h') (t' := tk) hk, ⟨u, rfl⟩, q⟩) hz
    cases rd with
    | none => exact PySem.P.repr_of_none (by have := fin s.toks (s.toks + 1); simp only [PyData.shown] at this; exact this)
    | bool b => exact PySem.P.repr_of_bool (by have := fin s.toks (s.toks + 1); simp only [PyData.shown] at this; exact this)
    | int i t => exact PySem.P.repr_of_int (by simpa [PyData.showable] using hw) (by have := fin s.toks (s.toks + 1); simp only [PyData.shown] at this; exact this)
    | str z t => exact PySem.P.repr_of_str (by have := fin s.toks (s.toks + 1); simp only [PyData.shown] at this; exact this) (by simpa only [PyData.shown] using hz)
    | list h1 h2 h3 h4 => exact big (.list h1 h2 h3 h4)
    | tuple h1 h2 h3 h4 => exact big (.tuple h1 h2 h3 h4)
    | dict h1 h2 h3 h4 h5 => exact big (.dict h1 h2 h3 h4 h5)
  · match ds, he, hrb with
    | [d], he, hrb =>
      simp only [reprG] at he
      split at he
      · rename_i h
        cases he
        obtain ⟨x, rfl, h1⟩ := hrb.one
        exact ⟨x, d, rfl, rb_dp s h1 (SeqAt.canLay_of_shaped h.1), h.1, h.2.1, h.2.2, g_str s q⟩
      · cases he
theorem x_repr {k : Nat} {e : Expr} {es : List Expr} {mr : AM} {p pos : Pos} (hm : X.mg "repr" = none) (hr : Rm k X.A) (hg : Gl X "repr") (ha : PA X (e :: es) (tA X.E mr)) (he : starEach (e :: es) X.env = (false, eval e X.env) :: starEach es X.env := by rfl) (hpl : (backTo pos (starEach es X.env)).any (·.1) = false := by rfl) :
    PE X (.Call (.Name "repr" p) (e :: es) [] pos) (tE X.E (mOp reprG mr)) :=
  let ⟨_, h1, h2⟩ := reprG_ok hr
  me_callB h1 h2 hg hm boot_repr ha (by decide) (by decide) he hpl
end
end L2.M
namespace L2.M
open PySem PySem.Spec PyProof.Rows
theorem bools_map (f : PyData → Bool) : ∀ ds : List PyData, boolsOf (ds.map fun d => PyData.bool (f d)) = some (ds.map f)
  | [] => rfl
  | d :: ds => by
    simp only [List.map_cons, boolsOf, bools_map f ds, Option.map_some]
theorem ints_all : ∀ ns : List Int, intsOf (ns.map PyData.int) = some ns
  | [] => rfl
  | d :: ds => by
    simp only [List.map_cons, intsOf, ints_all ds, Option.map_some]
inductive Sk where
  | l | t
def SqX : Sk → PySem.W.Frag → Hp → Addr → List V → Prop
  | .l => SqL
  | .t => SqT
def itX : Sk → Heap → Addr → Addr → Nat → Prop
  | .l => fun h it a i => h.IsListIter it a i
  | .t => fun h it a i => h.IsTupleIter it a i
def isX : Sk → Heap → Addr → Array Value → Prop
  | .l => fun h a xs => h.IsList a xs
  | .t => fun h a xs => h.IsTuple a xs
def newX : Sk → Addr → Obj
  | .l => fun a => { cls := .type "list_iterator", data := .fields #[.ref a, .int 0 0] }
  | .t => fun a => { cls := .type "tuple_iterator", data := .fields #[.ref a, .int 0 0] }
theorem begX : ∀ (k : Sk) (a : Addr) (xs : Array Value), Begins (.ref a) (newX k a) fun h => isX k h a xs
  | .l, a, xs => begins_list a xs
  | .t, a, xs => begins_tuple a xs
theorem drwX {prog : Program} {w : World} {A : Around} (hh : A.handled = none) (it a : Addr) (ne : a ≠ it) (xs : Array Value) : ∀ k : Sk, Draws prog w A it [it, a] xs.size (fun i v => xs[i]? = some v) fun i h => itX k h it a i ∧ isX k h a xs
  | .l => .list hh it a ne xs
  | .t => .tuple hh it a ne xs
theorem itX.new {k : Sk} {h : Heap} {it a : Addr} (g : h.get? it = some (newX k a)) : itX k h it a 0 := by
  cases k <;> exact ⟨_, g, rfl, rfl⟩
theorem itX.at {k : Sk} {h h' : Heap} {it a : Addr} {i : Nat} (g : itX k h it a i) (e : ∀ o, h.get? it = some o → h'.get? it = some o) : itX k h' it a i := by
  cases k
  · exact Heap.IsListIter.at g e
  · exact Heap.IsTupleIter.at g e
theorem itX.obj {k : Sk} {h : Heap} {it a : Addr} {i : Nat} (g : itX k h it a i) : ∃ o, h.get? it = some o ∧ ∀ v, o.data ≠ .cell v := by
  cases k
  · obtain ⟨o, e, _, d⟩ := g
    exact ⟨o, e, fun v q => by rw [d] at q; cases q⟩
  · obtain ⟨o, e, _, d⟩ := g
    exact ⟨o, e, fun v q => by rw [d] at q; cases q⟩
theorem invX {X : Cx} {pins : List (Addr × Obj)} {σ : L2.St} {H : Hp} {s : Shared} (I : Inv X pins σ H s) {k : Sk} {a : Addr} {xs : List V} (h : SqX k X.K H a xs) : ∃ its : List Value, Vals xs its ∧ isX k s.heap a its.toArray ∧ a < s.heap.objs.size := by
  cases k
  · obtain ⟨its, r, p, _⟩ := I.list h
    exact ⟨its, r, p.isList, p.lt⟩
  · obtain ⟨its, r, p, _⟩ := I.tuple h
    obtain ⟨o, ho, _⟩ := id p
    exact ⟨its, r, p, Heap.lt_size ho⟩
theorem injX {X : Cx} {pins : List (Addr × Obj)} {σ : L2.St} {H : Hp} {s : Shared} (I : Inv X pins σ H s) {k : Sk} {a : Addr} {xs ys : List V} (h : SqX k X.K H a xs) (g : SqX k X.K H a ys) : xs = ys := by
  cases k
  · exact I.list_inj h g
  · exact I.tuple_inj h g
def ItzX (K : PySem.W.Frag) (k l : Sk) (a b : Addr) : It :=
  ⟨fun i H => ∃ xs ys x y, SqX k K H a xs ∧ SqX l K H b ys ∧ xs[i]? = some x ∧ ys[i]? = some y,
   fun i H v H' => ∃ T x y, v = .ref T ∧ H T = none ∧ (∃ o : Obj, o.dict = none ∧ H' = upd H T (.frz o (.tup [x, y]))) ∧ (∀ xs, SqX k K H a xs → xs[i]? = some x) ∧ (∀ ys, SqX l K H b ys → ys[i]? = some y),
   fun i H => ∃ xs ys, SqX k K H a xs ∧ SqX l K H b ys ∧ i = min xs.length ys.length⟩
theorem five {P : Addr → Prop} {a b c d e : Addr} (ha : P a) (hb : P b) (hc : P c) (hd : P d) (he : P e) : ∀ x ∈ [a, b, c, d, e], P x := by
  simp only [List.forall_mem_cons]
  exact ⟨ha, hb, hc, hd, he, fun x h => (by cases h)⟩
theorem turnX {P : Program} {w : World} {K : PySem.W.Frag} {elts : List Expr} {kk : Nat} {tpos : Pos} {k l : Sk} {a b z TI TO p q : Addr} (S : ZipSep2 z TI TO p q [p, a] [q, b]) (na : a ≠ p) (nb : b ≠ q) :
    Turn P w K (.Tuple elts kk tpos) (ItzX K k l a b) [z, TI, TO, p, q] z (fun i h => IsZip h z TI TO .none ∧ IsTupOf2 h TI (.ref p) (.ref q) ∧ (∃ x y, IsTupOf2 h TO x y) ∧ itX k h p a i ∧ itX l h q b i) where
  mem := List.mem_cons_self
  obj := fun i h ⟨hz, hI, ⟨x, y, hO⟩, g1, g2⟩ => five ⟨_, hz, fun v e => nomatch e⟩ ⟨_, hI, fun v e => nomatch e⟩ ⟨_, hO, fun v e => nomatch e⟩ g1.obj g2.obj
  keep := fun i h h' ⟨hz, hI, ⟨x, y, hO⟩, g1, g2⟩ kp => ⟨kp z (by simp) _ hz, kp TI (by simp) _ hI, ⟨x, y, kp TO (by simp) _ hO⟩, g1.at fun o e => kp p (by simp) o e, g2.at fun o e => kp q (by simp) o e⟩
  item := by
    rintro X rfl rfl rfl calm i pins s σ H E I fresh ⟨hz, hI, ⟨x0, y0, hO⟩, g1, g2⟩ ⟨xs, ys, x, y, sx, sy, hx, hy⟩
    obtain ⟨us, rx, ix, la⟩ := invX I sx
    obtain ⟨vs, ry, iy, lb⟩ := invX I sy
    obtain ⟨u, hu, ru⟩ := rx.get hx
    obtain ⟨v, hv, rv⟩ := ry.get hy
    have lu : i < us.toArray.size := by simpa using (List.getElem?_eq_some_iff.mp hu).1
    have lv : i < vs.toArray.size := by simpa using (List.getElem?_eq_some_iff.mp hv).1
    have hh := I.ok.hd calm
    refine wpAny_pyNext_zipD2_item S (drwX (A := X.A.in1) hh p a na us.toArray k) (drwX (A := X.A.in1) hh q b nb vs.toArray l) hz hI hO ⟨g1, ix⟩ ⟨g2, iy⟩ lu lv fun c1 c2 h1 tk e1 e2 z1 o1 n1 n2 t1 sz kp => ?_
    have e1 : u = c1 := by
      have : us.toArray[i]? = some u := by simpa using hu
      rw [this] at e1
      exact Option.some.inj e1
    have e2 : v = c2 := by
      have : vs.toArray[i]? = some v := by simpa using hv
      rw [this] at e2
      exact Option.some.inj e2
    subst e1 e2
    refine ⟨_, rfl, wpAny_letOwnedTupleGo_zip (s := { s with heap := h1, toks := tk }) z1 fun h2 z2 sb => ?_⟩
    have lz : z < s.heap.objs.size := Heap.lt_size hz
    have lt : ∀ c ∈ [z, TI, TO, p, q], c < s.heap.objs.size := by
      refine five lz (Heap.lt_size hI) (Heap.lt_size hO) ?_ ?_
      · obtain ⟨_, e, _⟩ := g1.obj
        exact Heap.lt_size e
      · obtain ⟨_, e, _⟩ := g2.obj
        exact Heap.lt_size e
    have tT : h2.get? s.heap.objs.size = some { cls := .type "tuple", data := .seq #[u, v] } := (sb.2 _ (Nat.ne_of_gt lz)).trans t1
    have laid : ObjOk X.prog X.w (upd H s.heap.objs.size (.frz { cls := .type "tuple", data := .seq #[u, v] } (.tup [x, y]))) h2 s.heap.objs.size (.frz { cls := .type "tuple", data := .seq #[u, v] } (.tup [x, y])) :=
      ⟨tT, show 2 ≤ sizeLine by decide, [u, v], .cons ru (.cons rv .nil), ⟨_, tT, rfl, _, rfl⟩⟩
    have kept : ∀ (c : Addr) (o : Obj), c ∉ [z, TI, TO, p, q] → s.heap.get? c = some o → h2.get? c = some o := by
      intro c o nc e
      simp only [List.mem_cons, List.not_mem_nil, or_false, not_or] at nc
      exact (sb.2 c nc.1).trans (kp c o nc.1 nc.2.2.1 nc.2.2.2.1 nc.2.2.2.2 e)
    refine ⟨.ref s.heap.objs.size, _, I.turnedNew (t' := tk) (ch := [z, TI, TO, p, q]) kept fresh (Nat.le_refl _) laid, rfl, ⟨_, x, y, rfl, I.hok.fresh (Nat.le_refl _), ⟨_, rfl, rfl⟩, fun zs e => by rw [injX I e sx]; exact hx, fun zs e => by rw [injX I e sy]; exact hy⟩, ⟨z2, ?_, ⟨u, v, ?_⟩, ?_, ?_⟩, fun c hc => ?_⟩
    · exact (sb.2 TI S.TIz).trans (kp TI _ S.TIz S.TITO S.TIi1 S.TIi2 hI)
    · exact (sb.2 TO S.TOz).trans o1
    · exact n1.1.at fun o e => (sb.2 p (fun e => S.zf1 (by rw [e]; simp))).trans e
    · exact n2.1.at fun o e => (sb.2 q (fun e => S.zf2 (by rw [e]; simp))).trans e
    · rw [upd_ne (Nat.ne_of_lt (lt c hc))]
      exact (fresh c hc).1
  done := by
    rintro X rfl rfl rfl calm i pins s σ H E I fresh ⟨hz, hI, ⟨x0, y0, hO⟩, g1, g2⟩ ⟨xs, ys, sx, sy, he⟩
    obtain ⟨us, rx, ix, la⟩ := invX I sx
    obtain ⟨vs, ry, iy, lb⟩ := invX I sy
    have hh := I.ok.hd calm
    have l1 := rx.length
    have l2 := ry.length
    refine wpAny_pyNext_zipD2_end S (drwX (A := X.A.in1) hh p a na us.toArray k) (drwX (A := X.A.in1) hh q b nb vs.toArray l) hz hI hO ⟨g1, ix⟩ ⟨g2, iy⟩ (by simp; omega) (by simp; omega) (by simp; omega) fun h1 tk kp => ⟨rfl, I.turnedL (t' := tk) (ch := [z, TI, TO, p, q]) (fun c o nc e => ?_) fresh⟩
    simp only [List.mem_cons, List.not_mem_nil, or_false, not_or] at nc
    exact kp c o nc.1 nc.2.2.1 nc.2.2.2.1 nc.2.2.2.2 e
  self := fun A i s Q E ⟨hz, _⟩ h => wpAny_pyIter_zip hz h
def iZipX (K : PySem.W.Frag) (ta : TA) : TI := fun σ H R => ta σ H fun vs H1 => ∃ k l a b xs ys, vs = [.ref a, .ref b] ∧ SqX k K H1 a xs ∧ SqX l K H1 b ys ∧ R (ItzX K k l a b) H1
theorem pi_zipX {X : Cx} {e f : Expr} {ta : TA} {p pos tpos : Pos} {elts : List Expr} {kk : Nat} (hg : Gl X "zip") (hm : X.mg "zip" = none) (ha : PA X [e, f] ta)
    (hs : starEach [e, f] X.env = (false, eval e X.env) :: starEach [f] X.env) (hpl : (backTo pos (starEach [f] X.env)).any (·.1) = false) :
    PI X (.Tuple elts kk tpos) (.Call (.Name "zip" p) [e, f] [] pos) (iZipX X.K ta) := by
  refine ⟨fun pins s σ H R I h => Call_ (ld_blt I hg hm PyProof.Rows.boot_zip (PyProof.Rows.callWith_type1 (thn (ha.run pos pins s σ H _ I h) fun us s1 ⟨vs, H1, I1, r1, k, l, a, b, xs, ys, ev, sx, sy, q⟩ => ?_) hs hpl))⟩
  subst ev
  rcases r1 with _ | ⟨r, _ | ⟨r', rr⟩⟩
  cases rr
  cases r
  cases r'
  obtain ⟨is, _, ix, la⟩ := invX I1 sx
  obtain ⟨js, _, iy, lb⟩ := invX I1 sy
  refine zip_begins2 (begX k a is.toArray) (begX l b js.toArray) ix iy fun h1 hz hI hO g1 g2 _ kp => wpAny_pyIter_zip hz ?_
  have S := zip_sep2 (N := s1.heap.objs.size) (fp1 := [a]) (fp2 := [b]) (by simpa using la) (by simpa using lb)
  have fresh : ∀ c ∈ [s1.heap.objs.size + 4, s1.heap.objs.size + 2, s1.heap.objs.size + 3, s1.heap.objs.size, s1.heap.objs.size + 1], FpOk X pins H1 c := by
    have one : ∀ c, s1.heap.objs.size ≤ c → FpOk X pins H1 c := fun c hc => I1.fpOk hc (I1.hok.fresh hc)
    exact five (one _ (Nat.le_add_right _ _)) (one _ (Nat.le_add_right _ _)) (one _ (Nat.le_add_right _ _)) (one _ (Nat.le_refl _)) (one _ (Nat.le_add_right _ _))
  exact ⟨_, _, _, _, H1, rfl, I1.kept (t' := s1.toks) kp, turnX (K := X.K) (k := k) (l := l) S (Nat.ne_of_lt la) (Nat.ne_of_lt (Nat.lt_succ_of_lt lb)), ⟨hz, hI, ⟨_, _, hO⟩, itX.new g1, itX.new g2⟩, fresh, q⟩
theorem meets_enumX {v : Value} {o : Obj} {H : Heap → Prop} (B : Begins v o H) : Meets (Builtin.«enumerate.__new__» ⟨[.type "enumerate", v], []⟩) (fun _ R s => H s.heap ∧
      R (.ok (.ret (.ref (s.heap.push o).objs.size))) { s with heap := (s.heap.push o).push { cls := .type "enumerate", data := .fields #[.none, .bool false, .ref s.heap.objs.size, rawInt 0, .none, .none] } }) := .of_wp fun prog w A R s h => by
  obtain ⟨hp, g, d, tk, os⟩ := s
  obtain ⟨h0, h⟩ := h
  have hsub := sub_enumerate
  have begun : ∀ {A' : Around} {E Q : Value → Shared → Prop}, Q (.ref hp.objs.size) ⟨hp.push o, g, d, tk, os⟩ → wpAny (model prog w) A' (pyIter v) Q E ⟨hp, g, d, tk, os⟩ := fun q => B.iter prog w _ _ ⟨hp, g, d, tk, os⟩ _ h0 q
  wp_walk using begun
  refine wpAny_stack_any fun st => wpAny_pure ?_
  split
  · rename_i c _ _ _ _ _
    cases (c == Value.type "enumerate") <;> (wp_walk using begun; exact ⟨_, rfl, h⟩)
  · wp_walk using begun
    exact ⟨_, rfl, h⟩
theorem call_enumX {prog : Program} {w : World} {A : Around} {E : Value → Shared → Prop} {s : Shared} {v : Value} {o : Obj} {H : Heap → Prop} {Q : Value → Shared → Prop} (B : Begins v o H) (h1 : H s.heap)
    (h : ∀ h', IsEnum h' (s.heap.objs.size + 1) s.heap.objs.size 0 .none → h'.get? s.heap.objs.size = some o → (∀ b u, s.heap.get? b = some u → h'.get? b = some u) → Q (.ref (s.heap.objs.size + 1)) { s with heap := h' }) :
    wpAny (model prog w) A (call (.type "enumerate") [v]) Q E s := by
  have hz : (s.heap.push o).objs.size = s.heap.objs.size + 1 := by rw [Heap.size_push]
  have g := Heap.get?_push_size (s.heap.push o) (o := { cls := .type "enumerate", data := .fields #[.none, .bool false, .ref s.heap.objs.size, rawInt 0, .none, .none] }) rfl
  rw [hz] at g
  refine callType_new F.called_enumerate (by decide) (F.typeCall_enumerate_1 _) (F.newCall_enumerate_1 _) (fun obj => F.args_object_init_2 obj _) F.entry_enumerate_new (meets_enumX B) ⟨h1, ?_⟩
  rw [hz]
  exact ⟨⟨_, g, rfl⟩, h _ g (Heap.get?_push_of_some _ (Heap.get?_push_size _ B.free)) fun b u e => Heap.get?_push_of_some _ (Heap.get?_push_of_some _ e)⟩
def IteX (K : PySem.W.Frag) (k : Sk) (a : Addr) : It :=
  ⟨fun i H => ∃ xs x, SqX k K H a xs ∧ xs[i]? = some x,
   fun i H v H' => ∃ T x, v = .ref T ∧ H T = none ∧ (∃ o : Obj, o.dict = none ∧ H' = upd H T (.frz o (.tup [.int (i : Nat), x]))) ∧ (∀ xs, SqX k K H a xs → xs[i]? = some x),
   fun i H => ∃ xs, SqX k K H a xs ∧ i = xs.length⟩
theorem two {P : Addr → Prop} {a b : Addr} (ha : P a) (hb : P b) : ∀ x ∈ [a, b], P x := by
  simp only [List.forall_mem_cons]
  exact ⟨ha, hb, fun x h => (by cases h)⟩
theorem turnE {P : Program} {w : World} {K : PySem.W.Frag} {elts : List Expr} {kk : Nat} {tpos : Pos} {k : Sk} {a e p : Addr} (ne : e ≠ p) (na : a ≠ p) (nea : e ≠ a) :
    Turn P w K (.Tuple elts kk tpos) (IteX K k a) [e, p] e (fun i h => (∃ old, IsEnum h e p ((i : Nat) : Int) old) ∧ itX k h p a i) where
  mem := List.mem_cons_self
  obj := fun i h ⟨⟨_, he⟩, g⟩ => two ⟨_, he, fun v q => nomatch q⟩ g.obj
  keep := fun i h h' ⟨⟨old, he⟩, g⟩ kp => ⟨⟨old, kp e (by simp) _ he⟩, g.at fun o q => kp p (by simp) o q⟩
  item := by
    rintro X rfl rfl rfl calm i pins s σ H E I fresh ⟨⟨old, he⟩, g⟩ ⟨xs, x, sx, hx⟩
    obtain ⟨us, rx, ix, la⟩ := invX I sx
    obtain ⟨u, hu, ru⟩ := rx.get hx
    have lu : i < us.toArray.size := by simpa using (List.getElem?_eq_some_iff.mp hu).1
    have le : e < s.heap.objs.size := Heap.lt_size he
    have lp : p < s.heap.objs.size := by
      obtain ⟨_, q, _⟩ := g.obj
      exact Heap.lt_size q
    refine wpAny_pyNext_enum_itemD (fp := [p, a]) (drwX (A := X.A.in1) (I.ok.hd calm) p a na us.toArray k) he ⟨g, ix⟩ lu ne (by simp [ne, nea]) fun c h1 tk e1 z1 n1 t1 sz kp => ?_
    have e1 : u = c := by
      have : us.toArray[i]? = some u := by simpa using hu
      rw [this] at e1
      exact Option.some.inj e1
    subst e1
    refine ⟨_, rfl, wpAny_letOwnedTupleGo_enum (s := { s with heap := h1, toks := tk + 1 }) z1 fun h2 z2 sb => ?_⟩
    have tT : h2.get? s.heap.objs.size = some { cls := .type "tuple", data := .seq #[.int i tk, u] } := (sb.2 _ (Nat.ne_of_gt le)).trans t1
    have laid : ObjOk X.prog X.w (upd H s.heap.objs.size (.frz { cls := .type "tuple", data := .seq #[.int i tk, u] } (.tup [.int (i : Nat), x]))) h2 s.heap.objs.size (.frz { cls := .type "tuple", data := .seq #[.int i tk, u] } (.tup [.int (i : Nat), x])) :=
      ⟨tT, show 2 ≤ sizeLine by decide, [.int i tk, u], .cons ⟨_, rfl⟩ (.cons ru .nil), ⟨_, tT, rfl, _, rfl⟩⟩
    have kept : ∀ (c : Addr) (o : Obj), c ∉ [e, p] → s.heap.get? c = some o → h2.get? c = some o := by
      intro c o nc q
      simp only [List.mem_cons, List.not_mem_nil, or_false, not_or] at nc
      exact (sb.2 c nc.1).trans (kp c o nc.1 nc.2 q)
    have es : ((i + 1 : Nat) : Int) = (i : Int) + 1 := by omega
    refine ⟨.ref s.heap.objs.size, _, I.turnedNew (t' := tk + 1) (ch := [e, p]) kept fresh (Nat.le_refl _) laid, rfl, ⟨_, x, rfl, I.hok.fresh (Nat.le_refl _), ⟨_, rfl, rfl⟩, fun zs q => by rw [injX I q sx]; exact hx⟩, ⟨⟨u, by rw [es]; exact z2⟩, n1.1.at fun o q => (sb.2 p (Ne.symm ne)).trans q⟩, two ?_ ?_⟩
    · rw [upd_ne (Nat.ne_of_lt le)]
      exact (fresh e (by simp)).1
    · rw [upd_ne (Nat.ne_of_lt lp)]
      exact (fresh p (by simp)).1
  done := by
    rintro X rfl rfl rfl calm i pins s σ H E I fresh ⟨⟨old, he⟩, g⟩ ⟨xs, sx, hx⟩
    obtain ⟨us, rx, ix, la⟩ := invX I sx
    have l1 := rx.length
    have ei : i = us.toArray.size := by simp; omega
    rw [ei] at g
    obtain ⟨f0, f1, f2, f3, f4, f5⟩ := fresh p (by simp)
    exact wpAny_pyNext_enum_endD (drwX (A := X.A.in1) (I.ok.hd calm) p a na us.toArray k) he ⟨g, ix⟩ fun h1 kp => ⟨rfl, I.turned (t' := s.toks) (fun b o nb q => kp b o nb q) f0 f1 f3 f4 f5⟩
  self := fun A i s Q E ⟨⟨_, he⟩, _⟩ h => wpAny_pyIter_enum he h
def iEnumX (K : PySem.W.Frag) (ta : TA) : TI := fun σ H R => ta σ H fun vs H1 => ∃ k a xs, vs = [.ref a] ∧ SqX k K H1 a xs ∧ R (IteX K k a) H1
theorem pi_enumX {X : Cx} {e : Expr} {ta : TA} {p pos tpos : Pos} {elts : List Expr} {kk : Nat} (hg : Gl X "enumerate") (hm : X.mg "enumerate" = none) (ha : PA X [e] ta) (hs : starEach [e] X.env = [(false, eval e X.env)]) :
    PI X (.Tuple elts kk tpos) (.Call (.Name "enumerate" p) [e] [] pos) (iEnumX X.K ta) := by
  refine ⟨fun pins s σ H R I h => Call_ (ld_blt I hg hm boot_enumerate (PyProof.Rows.callWith_type1 (thn (ha.run pos pins s σ H _ I h) fun us s1 ⟨vs, H1, I1, r1, k, a, xs, ev, sx, q⟩ => ?_) hs rfl))⟩
  subst ev
  rcases r1 with _ | ⟨r, rr⟩
  cases rr
  cases r
  obtain ⟨is, _, ix, la⟩ := invX I1 sx
  refine call_enumX (begX k a is.toArray) ix fun h1 he g1 kp => wpAny_pyIter_enum he ?_
  have one : ∀ c, s1.heap.objs.size ≤ c → FpOk X pins H1 c := fun c hc => I1.fpOk hc (I1.hok.fresh hc)
  exact ⟨_, _, _, _, H1, rfl, I1.kept (t' := s1.toks) kp, turnE (K := X.K) (k := k) (Nat.succ_ne_self _) (Nat.ne_of_lt la) (Nat.ne_of_gt (Nat.lt_succ_of_lt la)), ⟨⟨.none, he⟩, itX.new g1⟩, two (one _ (Nat.le_add_right _ _)) (one _ (Nat.le_refl _)), q⟩
def itemsX : D → Option (Sk × List D)
  | .list ds => some (.l, ds)
  | .tuple ds => some (.t, ds)
  | _ => none
theorem repB_X {K : PySem.W.Frag} {F H : Hp} {v : V} {d : D} {k : Sk} {ds : List D} (s : Same F H) (h : RepB K F H v d) (hx : itemsX d = some (k, ds)) : ∃ a vs, v = .ref a ∧ SqX k K H a vs ∧ Reps K F vs ds := by
  cases d <;> simp only [itemsX, Option.some.injEq, Prod.mk.injEq, reduceCtorEq] at hx
  · obtain ⟨rfl, rfl⟩ := hx
    exact rb_lst s h
  · obtain ⟨rfl, rfl⟩ := hx
    obtain ⟨a, vs, e, g0, g1, g2⟩ := rb_tup s h
    exact ⟨a, vs, e, g1, g2⟩
def zipX : List D → Option (List D)
  | [d, e] => do
    let (_, ds) ← itemsX d
    let (_, es) ← itemsX e
    some (List.zipWith (fun a b => .tuple [a, b]) ds es)
  | _ => none
def enumX : List D → Option (List D)
  | [d] => (itemsX d).map fun p => enumFrom 0 p.2
  | _ => none
theorem walkZX {K : PySem.W.Frag} {k l : Sk} {a b : Addr} {n : Nat} : Walk (ItzX K k l a b) n (fun H => ∃ vs ws, SqX k K H a vs ∧ SqX l K H b ws ∧ n = min vs.length ws.length) (fun i H x H' => ∃ t y z, x = .ref t ∧ H t = none ∧ (∃ o : Obj, o.dict = none ∧ H' = upd H t (.frz o (.tup [y, z]))) ∧ (∀ vs, SqX k K H a vs → vs[i]? = some y) ∧ ∀ vs, SqX l K H b vs → vs[i]? = some z) := by
  refine ⟨fun i H hi ⟨vs, ws, h, g, hl⟩ => ?_, fun H h => h, fun i H x H' _ _ y => y⟩
  have h1 : i < vs.length := by omega
  have h2 : i < ws.length := by omega
  exact ⟨vs, ws, vs[i], ws[i], h, g, by simp [h1], by simp [h2]⟩
theorem walkEX {K : PySem.W.Frag} {k : Sk} {a : Addr} {n : Nat} : Walk (IteX K k a) n (fun H => ∃ vs, SqX k K H a vs ∧ n = vs.length) (fun i H x H' => ∃ t z, x = .ref t ∧ H t = none ∧ (∃ o : Obj, o.dict = none ∧ H' = upd H t (.frz o (.tup [.int (i : Nat), z]))) ∧ ∀ vs, SqX k K H a vs → vs[i]? = some z) := by
  refine ⟨fun i H hi ⟨vs, h, hl⟩ => ?_, fun H h => h, fun i H x H' _ _ y => y⟩
  have h1 : i < vs.length := by omega
  exact ⟨vs, vs[i], h, by simp [h1]⟩
section
variable {X : Cx} {e a b : Expr} {p pos : Pos}
theorem mi_zipX {elts : List Expr} {kk : Nat} {tpos : Pos} (hm : X.mg "zip" = none) (hg : Gl X "zip") {m n : OM} (h1 : PE X a (tO X.E m)) (h2 : PE X b (tO X.E n)) (hs : starEach [a, b] X.env = (false, eval a X.env) :: starEach [b] X.env := by rfl) (hs2 : starEach [b] X.env = [(false, eval b X.env)] := by rfl)
    (hpl : (backTo pos (starEach [b] X.env)).any (·.1) = false := by rfl) : PI X (.Tuple elts kk tpos) (.Call (.Name "zip" p) [a, b] [] pos) (tI X.E (mSrc zipX (mCons m (mCons n mNil)))) := by
  refine (pi_zipX hg hm (ma_cons h1 (ma_cons h2 ma_nil hs2) hs) hs hpl).weak fun σ H Q q => tA_mono (src_parts q) fun vs H1 h => ?_
  obtain ⟨F, R, ε, ws, ds, out, s, lt, ek, q⟩ := h
  have rb := lt.now s
  match ds, ek, rb, lt with
  | [d, e], ek, rb, lt =>
    simp only [zipX] at ek
    cases x1 : itemsX d with
    | none => simp [x1] at ek
    | some kd =>
      obtain ⟨k, ds⟩ := kd
      cases x2 : itemsX e with
      | none => simp [x1, x2] at ek
      | some le =>
        obtain ⟨l, es⟩ := le
        simp [x1, x2] at ek
        subst ek
        obtain ⟨x, y, rfl, r1, r2⟩ := rb.two
        obtain ⟨a1, vs, rfl, k2, _⟩ := repB_X s.sub r1 x1
        obtain ⟨b1, ws2, rfl, l2, _⟩ := repB_X s.sub r2 x2
        refine ⟨k, l, a1, b1, vs, ws2, rfl, k2, l2, q F H1 _ (Same.refl F) s ?_⟩
        refine ⟨_, _, (walkZX (n := (List.zipWith (fun a b => PyData.tuple [a, b]) ds es).length)), fun F2 H2 σ2 ε2 fm2 s2 st => ?_⟩
        obtain ⟨x', y', ex, r1', r2'⟩ := (lt F2 H2 σ2 ε2 fm2 s2 st).two
        cases ex
        obtain ⟨a1', us, e1, g1, g2⟩ := repB_X s2.sub r1' x1
        obtain ⟨b1', ts, e2, g3, g4⟩ := repB_X s2.sub r2' x2
        cases e1
        cases e2
        refine ⟨⟨us, ts, g1, g3, by simp [g2.length, g4.length]⟩, fun i x H3 hi y => ?_⟩
        have hi2 : i < ds.length ∧ i < es.length := by simpa [Nat.lt_min] using hi
        obtain ⟨t, y1, z1, rfl, ht, ⟨ob, hob, rfl⟩, hy1, hz1⟩ := y
        have d1 : ds[i]? = some (ds[i]'hi2.1) := List.getElem?_eq_getElem hi2.1
        have d2 : es[i]? = some (es[i]'hi2.2) := List.getElem?_eq_getElem hi2.2
        obtain ⟨w, hw, rw1⟩ := g2.get d1
        obtain ⟨w2, hw2, rw2⟩ := g4.get d2
        rw [hy1 us g1] at hw
        rw [hz1 ts g3] at hw2
        cases hw
        cases hw2
        have gl := Grw.laid (u := .frz ob (.tup [y1, z1])) s2.sub ht
        refine ⟨_, .tuple [ds[i]'hi2.1, es[i]'hi2.2], by rw [List.getElem?_zipWith, d1, d2], ⟨t, _, rfl, ⟨ob, hob, upd_same⟩, ?_⟩, gl⟩
        exact ⟨_, _, rfl, Rep.mono gl.fm _ _ rw1, _, _, rfl, Rep.mono gl.fm _ _ rw2, rfl⟩
theorem mi_enumX {elts : List Expr} {kk : Nat} {tpos : Pos} (hm : X.mg "enumerate" = none) (hg : Gl X "enumerate") {m : OM} (h : PE X e (tO X.E m)) (hs : starEach [e] X.env = [(false, eval e X.env)] := by rfl) :
    PI X (.Tuple elts kk tpos) (.Call (.Name "enumerate" p) [e] [] pos) (tI X.E (mSrc enumX (mCons m mNil))) := by
  refine (pi_enumX hg hm (ma_cons h ma_nil hs) hs).weak fun σ H Q q => tA_mono (src_parts q) fun vs H1 h => ?_
  obtain ⟨F, R, ε, ws, ds, out, s, lt, ek, q⟩ := h
  have rb := lt.now s
  match ds, ek, rb, lt with
  | [d], ek, rb, lt =>
    simp only [enumX, Option.map_eq_some_iff] at ek
    obtain ⟨⟨k, ds⟩, x1, rfl⟩ := ek
    obtain ⟨x, rfl, r1⟩ := rb.one
    obtain ⟨a1, vs, rfl, k2, _⟩ := repB_X s.sub r1 x1
    refine ⟨k, a1, vs, rfl, k2, q F H1 _ (Same.refl F) s ?_⟩
    refine ⟨_, _, (walkEX (n := (enumFrom 0 ds).length)), fun F2 H2 σ2 ε2 fm2 s2 st => ?_⟩
    obtain ⟨x', ex, r1'⟩ := (lt F2 H2 σ2 ε2 fm2 s2 st).one
    cases ex
    obtain ⟨a1', us, e1, g1, g2⟩ := repB_X s2.sub r1' x1
    cases e1
    refine ⟨⟨us, g1, by rw [enum_len, g2.length]⟩, fun i x H3 hi y => ?_⟩
    rw [enum_len] at hi
    obtain ⟨t, z1, rfl, ht, ⟨ob, hob, rfl⟩, hz1⟩ := y
    have d1 : ds[i]? = some (ds[i]'hi) := List.getElem?_eq_getElem hi
    obtain ⟨w, hw, rw1⟩ := g2.get d1
    rw [hz1 us g1] at hw
    cases hw
    have gl := Grw.laid (u := .frz ob (.tup [.int (i : Nat), z1])) s2.sub ht
    refine ⟨_, .tuple [.int (i : Nat), ds[i]'hi], by rw [enum_get, d1]; simp, ⟨t, _, rfl, ⟨ob, hob, upd_same⟩, ?_⟩, gl⟩
    exact ⟨_, _, rfl, rfl, _, _, rfl, Rep.mono gl.fm _ _ rw1, rfl⟩
/-- {i: j} -/
theorem x_dctI {i j : Int} {ki kj : Nat} {pi pj : Pos} : PE X (.Dict [some (.Constant (.int i) ki pi)] [.Constant (.int j) kj pj] pos) (tE X.E (mK (.dict [(.int i, .int j)]))) := (pe_disp (pps_cons pe_int pe_int pps_nil) rfl rfl (by simp) (by simp)).weak fun σ H Q h => by
  obtain ⟨F, R, ε, c, ε', ok, e, q⟩ := h
  cases e
  intro q1 hq
  refine ⟨upd_same, [(.inl i, .int j)], rfl, by simp, ?_⟩
  have g := Grw.laid (u := .dK [(.inl i, .int j)]) ok.sub hq
  have e : upd (upd H q1 (.dK [])) q1 (.dK (mergeK [] [(.inl i, .int j)])) = upd H q1 (.dK [(.inl i, .int j)]) := by
    funext b
    by_cases hb : b = q1
    · subst hb; rw [upd_same, upd_same]; rfl
    · rw [upd_ne hb, upd_ne hb, upd_ne hb]
  rw [e]
  exact q _ _ _ g.fm ((ok.grow g).addSh ⟨q1, _, rfl, upd_same, ⟨_, _, _, rfl, rfl, rfl, rfl⟩⟩)
end
end L2.M
namespace L2.M
open PySem PySem.Spec PyProof.Rows
abbrev Lk := List (Int ⊕ List Nat)
def dItems (sh : Nat → Bool) : Nat → List D → Option Lk
  | _, [] => some []
  | i, .int n :: r => if sh i = true then none else (dItems sh (i + 1) r).map (Sum.inl n :: ·)
  | i, .str x :: r => if sh i = true then (dItems sh (i + 1) r).map (Sum.inr x.cps.toList :: ·) else none
  | _, _ :: _ => none
def dKey (sh : Nat → Bool) : D → Option Lk
  | .tuple (d :: ds) => dItems sh 0 (d :: ds)
  | _ => none
/-- at which places the first one has texts -/
def shp : List D → Nat → Bool
  | .tuple es :: _ => fun i => match es[i]? with
    | some (.str _) => true
    | _ => false
  | _ => fun _ => false
def kLe (a b : Lk) : Bool := !lexLt itemOrd b a
def tle (sh : Nat → Bool) (d e : D) : Bool := kLe ((dKey sh d).getD []) ((dKey sh e).getD [])
def tsort (ds : List D) : List D := ds.mergeSort (tle (shp ds))
def tups (ds : List D) : Bool := ds.all fun d => (dKey (shp ds) d).isSome
def sortX : List D → Option C
  | [.list ds] => match intsOf ds with
    | some ns => some (.ls ((isort ns).map PyData.int))
    | none => if tups ds then some (.ls (tsort ds)) else none
  | _ => none
theorem cps_inj {x y : Str} (h : x.cps.toList = y.cps.toList) : x = y := by
  cases x; cases y
  simp at h
  rw [h]
theorem dItems_inj {sh : Nat → Bool} : ∀ {ds es : List D} {i : Nat} {k : Lk}, dItems sh i ds = some k → dItems sh i es = some k → ds = es
  | [], es, i, k, h, g => by
    cases h
    cases es with
    | nil => rfl
    | cons e es =>
      cases e <;> simp [dItems] at g
  | d :: ds, es, i, k, h, g => by
    cases es with
    | nil =>
      cases g
      cases d <;> simp [dItems] at h
    | cons e es =>
      cases d <;> cases e <;> simp [dItems] at h g
      · obtain ⟨_, a, h1, rfl⟩ := h
        obtain ⟨_, b, h2, e2⟩ := g
        simp at e2
        obtain ⟨rfl, rfl⟩ := e2
        rw [dItems_inj h1 h2]
      · rw [g.1] at h
        exact absurd h.1 (by simp)
      · rw [g.1] at h
        exact absurd h.1 (by simp)
      · obtain ⟨_, a, h1, rfl⟩ := h
        obtain ⟨_, b, h2, e2⟩ := g
        simp at e2
        obtain ⟨e3, rfl⟩ := e2
        have : dItems sh (i + 1) ds = dItems sh (i + 1) es := by rw [h1, h2]
        rw [dItems_inj h1 h2]
        congr 2
        apply cps_inj
        simp [e3]
theorem dKey_inj {sh : Nat → Bool} {d e : D} {k : Lk} (h : dKey sh d = some k) (g : dKey sh e = some k) : d = e := by
  cases d with
  | tuple ds =>
    cases e with
    | tuple es =>
      cases ds with
      | nil => cases h
      | cons d ds =>
        cases es with
        | nil => cases g
        | cons e es => rw [dItems_inj h g]
    | _ => cases g
  | _ => cases h
theorem kLe_trans {a b c : Lk} (h1 : kLe a b = true) (h2 : kLe b c = true) : kLe a c = true := by
  simp only [kLe, Bool.not_eq_true'] at *
  cases q : lexLt itemOrd c a with
  | false => rfl
  | true =>
    rcases (listOrd itemOrd).negTrans c b a q with h | h
    · exact absurd (h2.symm.trans h) (by decide)
    · exact absurd (h1.symm.trans h) (by decide)
theorem kLe_total (a b : Lk) : (kLe a b || kLe b a) = true := by
  simp only [kLe]
  cases q : lexLt itemOrd b a with
  | false => rfl
  | true =>
    cases q2 : lexLt itemOrd a b with
    | false => rfl
    | true =>
      have := (listOrd itemOrd).trans a b a q2 q
      have i := (listOrd itemOrd).irrefl a
      exact absurd (i.symm.trans this) (by decide)
theorem kLe_anti {a b : Lk} (h1 : kLe a b = true) (h2 : kLe b a = true) : a = b := by
  simp only [kLe, Bool.not_eq_true'] at *
  exact (listOrd itemOrd).total a b h2 h1
theorem tsort_perm (ds : List D) : (tsort ds).Perm ds := List.mergeSort_perm ds _
theorem tsort_sorted (ds : List D) : (tsort ds).Pairwise fun d e => tle (shp ds) d e = true :=
  List.pairwise_mergeSort (le := tle (shp ds)) (fun a b c h1 h2 => kLe_trans h1 h2) (fun a b => kLe_total _ _) ds
theorem tsort_of {ds es : List D} (ht : tups ds = true) (p : es.Perm ds) (s : es.Pairwise fun d e => tle (shp ds) d e = true) : es = tsort ds := by
  refine (p.trans (tsort_perm ds).symm).eq_of_pairwise (le := fun d e => tle (shp ds) d e = true) (fun a b ha hb h1 h2 => ?_) s (tsort_sorted ds)
  have hk : ∀ d ∈ ds, ∃ k, dKey (shp ds) d = some k := fun d hd => Option.isSome_iff_exists.mp (List.all_eq_true.mp ht d hd)
  obtain ⟨k1, e1⟩ := hk a (p.mem_iff.mp ha)
  obtain ⟨k2, e2⟩ := hk b ((tsort_perm ds).mem_iff.mp hb)
  have := kLe_anti h1 h2
  rw [e1, e2] at this
  simp at this
  subst this
  exact dKey_inj e1 e2
section
variable {K : PySem.W.Frag} {F H : Hp}
theorem Reps.perm {xs ys : List V} {ds : List D} (h : Reps K F xs ds) (p : ys.Perm xs) : ∃ es, Reps K F ys es ∧ es.Perm ds := by
  induction p generalizing ds with
  | nil => exact ⟨ds, h, List.Perm.refl _⟩
  | cons x p ih =>
    cases ds with
    | nil => cases (show _ :: _ = [] from h)
    | cons d ds =>
      obtain ⟨v, r, e, h1, h2⟩ := h
      cases e
      obtain ⟨es, e1, e2⟩ := ih h2
      exact ⟨d :: es, ⟨_, _, rfl, h1, e1⟩, e2.cons d⟩
  | swap x y l =>
    cases ds with
    | nil => cases (show _ :: _ = [] from h)
    | cons d ds =>
      obtain ⟨v, r, e, h1, h2⟩ := h
      cases e
      cases ds with
      | nil => cases (show _ :: _ = [] from h2)
      | cons d2 ds =>
        obtain ⟨v2, r2, e, h3, h4⟩ := h2
        cases e
        exact ⟨d2 :: d :: ds, ⟨_, _, rfl, h3, _, _, rfl, h1, h4⟩, .swap _ _ _⟩
  | trans p1 p2 ih1 ih2 =>
    obtain ⟨es, e1, e2⟩ := ih2 h
    obtain ⟨es2, e3, e4⟩ := ih1 e1
    exact ⟨es2, e3, e4.trans e2⟩
theorem items_at {sh : Nat → Bool} : ∀ {es : List D} {ws : List V} {its : List Value} {i : Nat} {k : Lk}, Reps K F ws es → Vals ws its → dItems sh i es = some k → tupItems sh i its = some k
  | [], ws, its, i, k, h, r, e => by
    cases (show ws = [] from h)
    cases r
    cases e
    rfl
  | d :: es, ws, its, i, k, h, r, e => by
    obtain ⟨v, rs, rfl, h1, h2⟩ := h
    cases r with
    | cons rv r =>
      cases d with
      | int n =>
        simp only [Rep] at h1
        subst h1
        obtain ⟨t, rfl⟩ := rv
        simp only [dItems] at e
        split at e
        · cases e
        · rename_i hs
          obtain ⟨a, e1, rfl⟩ := Option.map_eq_some_iff.mp e
          have ih := items_at h2 r e1
          simp only [tupItems, if_neg hs, ih, Option.map_some]
      | str x =>
        simp only [Rep] at h1
        subst h1
        obtain ⟨t, rfl⟩ := rv
        simp only [dItems] at e
        split at e
        · rename_i hs
          obtain ⟨a, e1, rfl⟩ := Option.map_eq_some_iff.mp e
          have ih := items_at h2 r e1
          simp only [tupItems, if_pos hs, ih, Option.map_some]
        · cases e
      | _ => simp [dItems] at e
variable {X : Cx} {pins : List (Addr × Obj)} {σ : L2.St} {s : Shared}
theorem key_at (I : Inv X pins σ H s) (sf : Same F H) {sh : Nat → Bool} {v : V} {d : D} {k : Lk} (h : Rep X.K F v d) (e : dKey sh d = some k) : ∃ a f, v = .ref a ∧ G.tupKeyC s.heap sh (.ref a) = some k ∧ TupOf s.heap sh (.ref a) f := by
  cases d with
  | tuple ds =>
    cases ds with
    | nil => cases e
    | cons d ds =>
      obtain ⟨a, vs, rfl, h1, h2⟩ := h
      obtain ⟨its, r, ⟨o, ho, hc, n, hd⟩, _⟩ := I.tuple (sameT sf h1.sq)
      have e1 := items_at h2 r e
      have hI : G.isTupObj s.heap (.ref a) = true := by
        simp only [G.isTupObj, ho, hc]
        rfl
      have hk : tupKey s.heap sh (.ref a) = some k := by
        simp only [tupKey, ho, hd]
        exact e1
      cases its with
      | nil =>
        obtain ⟨v, rs, e2, _⟩ := h2
        subst e2
        cases r
      | cons u its =>
        refine ⟨a, u, rfl, by rw [G.tupKeyC, if_pos hI, hk], a, o, _, n, rfl, ho, hc, hd, rfl, fun hs => ?_, fun hs => ?_⟩
        · cases u with
          | int n t => exact ⟨n, t, rfl⟩
          | str x t => simp [tupItems, hs] at e1
          | _ => simp [tupItems] at e1
        · cases u with
          | int n t => simp [tupItems, hs] at e1
          | str x t => exact ⟨x, t, rfl⟩
          | _ => simp [tupItems] at e1
  | _ => cases e
def rSortG (K : PySem.W.Frag) : List V → Hp → VK → Prop := fun vs H Q => ∃ (F : Hp) (a : Addr) (xs : List V) (ds : List D) (sh : Nat → Bool), vs = [V.ref a] ∧ Same F H ∧ SqL K H a xs ∧ Reps K F xs ds ∧ (∀ d ∈ ds, (dKey sh d).isSome = true) ∧
  ∀ (ys : List V) (es : List D) (p : Addr), Reps K F ys es → es.Perm ds → (es.Pairwise fun d e => tle sh d e = true) → H p = none → Q (.ref p) (upd H p (.lst ys))
theorem keys_at (I : Inv X pins σ H s) (sf : Same F H) {sh : Nat → Bool} : ∀ {ds : List D} {xs : List V} {its : List Value}, Reps X.K F xs ds → Vals xs its → (∀ d ∈ ds, (dKey sh d).isSome = true) →
    (∃ fs, TupsOf s.heap sh its fs) ∧ (∀ v ∈ its, ∃ l, G.tupKeyC s.heap sh v = some l) ∧ ∀ x ∈ xs, ∃ a, x = V.ref a
  | [], xs, its, h, r, _ => by
    cases (show xs = [] from h)
    cases r
    exact ⟨⟨[], .nil⟩, fun v hv => (by cases hv), fun v hv => (by cases hv)⟩
  | d :: ds, xs, its, h, r, hk => by
    obtain ⟨v, rs, rfl, h1, h2⟩ := h
    cases r with
    | cons rv r =>
      obtain ⟨k, e⟩ := Option.isSome_iff_exists.mp (hk d List.mem_cons_self)
      obtain ⟨a, f, rfl, e1, e2⟩ := key_at I sf h1 e
      cases (show _ = Value.ref a from rv)
      obtain ⟨⟨fs, g1⟩, g2, g3⟩ := keys_at I sf h2 r fun d hd => hk d (List.mem_cons_of_mem _ hd)
      refine ⟨⟨f :: fs, .cons e2 g1⟩, fun v hv => ?_, fun x hx => ?_⟩
      · rcases List.mem_cons.mp hv with rfl | hv
        · exact ⟨k, e1⟩
        · exact g2 v hv
      · rcases List.mem_cons.mp hx with rfl | hx
        · exact ⟨a, rfl⟩
        · exact g3 x hx
/-- sorted(xs), xs a list of tuples of numbers and texts -/
theorem cr_sortG : CallR X (.builtin "sorted") (rSortG X.K) := by
  intro pins s σ H vs us Q I r h
  obtain ⟨F, a, xs, ds, sh, rfl, sf, hs, hr, hk, q⟩ := h
  obtain ⟨its, rv, hl, hz⟩ := I.list hs
  rw [Vals.ref1 r]
  obtain ⟨⟨fs, g1⟩, g2, g3⟩ := keys_at I sf hr rv hk
  obtain ⟨e1, e2⟩ := bkV_refs rv g3
  refine G.sorted_tups hl.isList g1 g2 (by rw [← rv.length]; exact hz) fun st' h1 h2 _ => ?_
  obtain ⟨ep, he⟩ := sortedAll_at s.heap its ((arrOf st').map (·.2))
  have pz : ((arrOf st').map (·.2)).toList.Perm its := by
    have := (h1.toList).map (·.2)
    rw [pairsOf_toList] at this
    simpa [List.map_snd_zip] using this
  have h3 : ∀ u ∈ ((arrOf st').map (·.2)).toList, ∃ a, u = Value.ref a := fun u hu => e2 u (pz.mem_iff.mp hu)
  have hp : (((arrOf st').map (·.2)).toList.map bkV).Perm xs := by
    rw [e1]
    exact pz.map bkV
  have hlen : (((arrOf st').map (·.2)).toList.map bkV).length ≤ sizeLine := by
    rw [hp.length_eq]
    exact hz
  obtain ⟨es, r1, r2⟩ := hr.perm hp
  have hes : ∀ d ∈ es, (dKey sh d).isSome = true := fun d hd => hk d (r2.mem_iff.mp hd)
  refine ⟨.ref _, upd H (s.heap.objs.size + 1) (.lst (((arrOf st').map (·.2)).toList.map bkV)), I.laid (t' := s.toks) (fun _ _ => sortedAll_old) (Nat.le_succ _) ⟨hlen, _, ep, bkV_vals h3, he⟩, rfl, q _ es _ r1 r2 ?_ (I.hok.fresh (Nat.le_succ _))⟩
  rw [List.pairwise_iff_getElem]
  intro i j hi hj hij
  have hsz : es.length = (arrOf st').size := by rw [← r1.length]; simp
  have h4 := h2 i j (by omega) (by rw [← h1.size_eq]; omega)
  have key : ∀ (i : Nat) (hi : i < es.length), KK (G.tupKindC s.heap sh) (arrOf st') i = (dKey sh es[i]).getD [] := by
    intro i hi
    have hi2 : i < (arrOf st').size := by omega
    obtain ⟨k, e⟩ := Option.isSome_iff_exists.mp (hes _ (List.getElem_mem hi))
    obtain ⟨v, e3, e4⟩ := r1.get (List.getElem?_eq_getElem hi)
    obtain ⟨b, f, rfl, e5, _⟩ := key_at I sf e4 e
    have hm : (arrOf st')[i] ∈ (pairsOf its).toList := (h1.mem_iff).mp (Array.getElem_mem hi2) |> Array.mem_toList_iff.mpr
    rw [pairsOf_toList] at hm
    obtain ⟨q1, _⟩ := mem_zip_self hm
    have e6 : ((arrOf st')[i]).2 = .ref b := by
      have : bkV ((arrOf st')[i]).2 = .ref b := by
        simpa [List.getElem?_map, Array.getElem?_eq_getElem hi2] using e3
      exact bkV_ref this
    unfold KK
    rw [Array.getElem?_eq_getElem hi2]
    simp only [q1, e6]
    rw [e]
    show Option.getD (G.tupKeyC s.heap sh (.ref b)) [] = _
    rw [e5]
  rw [show (KK (G.tupKindC s.heap sh) (arrOf st') i) = _ from key i hi, show (KK (G.tupKindC s.heap sh) (arrOf st') j) = _ from key j hj] at h4
  simp only [tle, kLe, Bool.not_eq_true']
  exact h4
theorem sortX_ok : ∃ r, CallR X (.builtin "sorted") r ∧ FnB X.K sortX r := by
  obtain ⟨r1, h1, k1⟩ := sort_ok (X := X)
  refine ⟨fun vs H Q => r1 vs H Q ∨ rSortG X.K vs H Q, ?_, fun F H vs ds c Q s hr he q => ?_⟩
  · intro pins s σ H vs us Q I r h
    rcases h with h | h
    · exact h1 _ _ _ _ _ _ _ I r h
    · exact cr_sortG _ _ _ _ _ _ _ I r h
  · match ds, he, hr with
    | [.list ds], he, hr =>
      simp only [sortX] at he
      split at he
      · rename_i ns e1
        left
        exact k1 F H vs _ c Q s hr (by simp only [sortD, e1, Option.map_some]; exact he) q
      · split at he
        · rename_i ht
          right
          cases he
          obtain ⟨x, rfl, g⟩ := hr.one
          obtain ⟨a, vs, rfl, g1, g2⟩ := rb_lst s g
          refine ⟨F, a, vs, ds, shp ds, rfl, s, g1, g2, fun d hd => List.all_eq_true.mp ht d hd, fun ys es p r1 r2 r3 hp => ?_⟩
          rw [tsort_of ht r2 r3] at r1
          exact g_lst s r1 q p hp
        · cases he
end
theorem sortX_ints (ns : List Int) : sortX [.list (ns.map PyData.int)] = some (.ls ((isort ns).map PyData.int)) := by
  have : ∀ ns : List Int, intsOf (ns.map PyData.int) = some ns := fun ns => by
    induction ns with
    | nil => rfl
    | cons n ns ih => simp [intsOf, ih]
  simp only [sortX, this]
end L2.M
namespace L2.M
open PySem PySem.Spec PyProof.Rows
def mM (f : List D → Option C) (kind : D → Bool) (mo : OM) (ma : AM) : EM := fun ε => do
  let (o, ε1) ← mo ε
  let d0 ← bor ε1 o
  if kind d0 then
    let (os, ε2) ← ma ε1
    let ds ← bors ε2 (o :: os)
    let c ← f ds
    some (c, ε2)
  else none
def isL : D → Bool
  | .list _ => true
  | _ => false
def isS : D → Bool
  | .str _ => true
  | _ => false
def mLrg (m : EM) : EM := fun ε => do
  let (c, ε1) ← m ε
  match c with
  | .sh (.int n) => if 0 ≤ n ∧ n ≤ 16777216 then some (.ls (rangeD 0 1 n.toNat), ε1) else none
  | _ => none
theorem reps_rg (K : PySem.W.Frag) (F : Hp) (n : Int) : Reps K F (rgV 0 n) (rangeD 0 1 n.toNat) := by
  unfold rgV rangeD
  rw [Int.sub_zero]
  generalize List.range n.toNat = L
  induction L with
  | nil => simp [Reps]
  | cons x xs ih => exact ⟨_, _, rfl, by simp [Rep], ih⟩
theorem tE_lrg {K : Ek} {m : EM} {σ : St} {H : Hp} {Q : VK} (h : tE K (mLrg m) σ H Q) : tLstRg (tRg1 (tE K m)) σ H Q := by
  obtain ⟨F, R, ε, c, ε', o, e, q⟩ := h
  unfold mLrg at e
  cases e1 : m ε with
  | none => simp [e1] at e
  | some p =>
    obtain ⟨c1, ε1⟩ := p
    simp only [e1, Option.bind_eq_bind, Option.bind_some] at e
    split at e
    · rename_i n
      split at e
      · rename_i hn
        cases e
        refine ⟨F, R, ε, _, ε', o, e1, fun v F1 H1 fm p => ⟨n, by have := p.repT; simpa [Rep] using this, RgOk.of_le (by decide) hn.2 (by decide) hn.1, fun a ha => ?_⟩⟩
        exact q _ _ _ fm (p.drop.newL ha (reps_rg _ _ n))
      · cases e
    · cases e
theorem x_lrg {X : Cx} {a : Expr} {m : EM} {p p2 pos pos2 : Pos} (hc : X.calm = true) (hm : X.mg "list" = none) (hm2 : X.mg "range" = none) (hg : Gl X "list") (hg2 : Gl X "range") (ha : PE X a (tE X.E m)) (na : starEach [a] X.env = (false, eval a X.env) :: starEach [] X.env := by rfl)
    (nb : starEach [.Call (.Name "range" p2) [a] [] pos2] X.env = (false, eval (.Call (.Name "range" p2) [a] [] pos2) X.env) :: starEach [] X.env := by rfl) : PE X (.Call (.Name "list" p) [.Call (.Name "range" p2) [a] [] pos2] [] pos) (tE X.E (mLrg m)) :=
  (pe_listRg hc hg hm (prg_1 hg2 hm2 ha na) nb).weak fun _ _ _ h => tE_lrg h
end L2.M
namespace L2.M
open PySem PySem.Spec PyProof.Rows
theorem ObP.set {K : Ek} {H : Hp} {a : Addr} {vs : List V} {k : Nat} {v : V} (hv : vs[k]? = some v) : ∀ {kd : Kd}, ObP K H a vs kd → ObP K H a (vs.set k v) kd := fun {kd} h => by rw [set_same hv]; exact h
def PlV (K : Ek) (H : Hp) (σ : St) (ε : Cs) (i k : Nat) (v : V) : Prop := ∃ a kd cs vs, σ[i]? = some (some (.ref a)) ∧ ε[i]? = some (.ob kd cs) ∧ ObP K H a vs kd ∧ vs[k]? = some v ∧ vs.length = cs.length
section
variable {K : Ek} {F R H : Hp} {σ : St} {ε : Cs} {T : Tms} {i k : Nat} {v : V} {c : C} {kd : Kd} {cs : List C}
theorem ObP.inj {a : Addr} {vs us : List V} : ∀ {kd : Kd}, ObP K H a vs kd → ObP K H a us kd → vs = us
  | .dn _, h, _ => h.elim
  | .ls, h, g => by
    have h : H a = _ := h
    have g : H a = _ := g
    rw [h] at g
    cases g
    rfl
  | .ins x fs, ⟨dx, h1, h2, _⟩, ⟨dy, g1, g2, _⟩ => by
    rw [h1] at g1
    injection g1 with g1
    injection g1 with _ _ g1
    have := congrArg (List.map (·.2)) g1
    rwa [List.map_snd_zip (by omega), List.map_snd_zip (by omega)] at this
theorem PlV.heap {H' : Hp} (p : PlV K H σ ε i k v) (h : ∀ a, σ[i]? = some (some (.ref a)) → H' a = H a) : PlV K H' σ ε i k v := by
  obtain ⟨a, kd, cs, vs, p1, p2, p3, p4, p5⟩ := p
  exact ⟨a, kd, cs, vs, p1, p2, ObP.frame (h a p1) p3, p4, p5⟩
end
end L2.M
namespace L2.M
open PySem PySem.Spec PyProof.Rows
abbrev PlM := Cs → Option ((Nat × Nat) × Cs)
/-- x.f -/
def mPlF (i k : Nat) (x f : Str) : PlM := fun ε => match ε[i]? with
  | some (.ob (.ins y fs) cs) => if y = x ∧ fs[k]? = some f ∧ k < cs.length then some ((i, k), ε) else none
  | _ => none
/-- x[e] -/
def mPlI (i : Nat) (ix : OM) : PlM := fun ε => match ε[i]? with
  | some (.ob .ls _) => do
    let (o, ε1) ← ix ε
    let d ← bor ε1 o
    match d, ε1[i]? with
      | .int z, some (.ob .ls cs) => do
        let j ← ixN cs.length z
        some ((i, j), ε1)
      | _, _ => none
  | _ => none
/-- the value there: an own list is frozen -/
def mRd (m : PlM) : EM := fun ε => do
  let ((i, k), ε1) ← m ε
  match ε1[i]? with
  | some (.ob kd cs) => match cs[k]? with
    | some (.sh d) => some (.sh d, ε1)
    | some (.ls ds) => some (.sh (.list ds), ε1.set i (.ob kd (cs.set k (.sh (.list ds)))))
    | _ => none
  | _ => none
/-- an operation of one, on what stands there -/
def mPU (f : List D → Option C) (m : PlM) : EM := fun ε => do
  let ((i, k), ε1) ← m ε
  match ε1[i]? with
  | some (.ob _ cs) => do
    let c0 ← cs[k]?
    let d ← cD c0
    let c ← f [d]
    some (c, ε1)
  | _ => none
/-- an operation of two, the first one there -/
def mPB (f : D → D → Option C) (m : PlM) (b : OM) : EM := fun ε => do
  let ((i, k), ε1) ← m ε
  match ε1[i]? with
  | some (.ob kd cs) => do
    let c0 ← cs[k]?
    let d ← cD c0
    let (o, ε2) ← b (ε1.set i .no)
    let e ← bor ε2 o
    let c ← f d e
    some (c, ε2.set i (.ob kd cs))
  | _ => none
end L2.M
namespace L2.M
open PySem PySem.Spec PyProof.Rows
section
variable {K : Ek} {F R H H' : Hp} {σ : St} {ε : Cs} {T : Tms} {i k : Nat} {y : V} {c : C} {kd kd' : Kd} {cs : List C}
/-- a part stored (or a new one behind the others), the object itself rewritten -/
theorem Sep.part (s : Sep K F R H σ ε ((y, c) :: T)) (h : ε[i]? = some (.ob kd cs)) : ∃ a vs, σ[i]? = some (some (.ref a)) ∧ ObAt K F H a vs kd ∧ vs.length = cs.length ∧ ∀ o us ds, (∀ gg f, RpCs K F H (vs.map some) cs gg → RpC K F H (some y) c f → (gg.flatten ++ f).Nodup → ∃ g2, RpCs K F H (us.map some) ds g2 ∧ g2.flatten.Nodup ∧ ∀ b ∈ g2.flatten, b ∈ gg.flatten ++ f) →
    ObAt K F (upd H a o) a us kd' → Sep K F R (upd H a o) σ (ε.set i (.ob kd' ds)) T := by
  obtain ⟨o0, f0, e1, h0⟩ := s.cell h
  obtain ⟨w, hw⟩ := s.val h fun z => nomatch z
  have s1 := s.take h hw
  obtain ⟨gs, q, n, nf, close⟩ := Sep.opens (T1 := [(w, .ob kd cs), (y, c)]) s1
  obtain ⟨o', r, f, fr, q1, q2, ⟨a, vs, gg, g1, g2, g3, g4⟩, o2, r2, f2, fr2, q3, q4, g5, g6, g7⟩ := q
  obtain ⟨rfl, rfl⟩ := List.cons.inj q1
  obtain ⟨rfl, rfl⟩ := List.cons.inj q3
  cases g1
  have l := g4.len
  rw [List.length_map] at l
  subst q4 q2 g7
  have e : ([f, f2] : List (List Addr)).flatten = a :: (gg.flatten ++ f2) := by simp [g2]
  rw [e] at n close
  rw [List.nodup_cons] at n
  refine ⟨a, vs, hw, g3, l.1, fun o us ds k1 k2 => ?_⟩
  obtain ⟨g8, m1, m2, m3⟩ := k1 gg f2 g4 g5 n.2
  have na : ∀ b ∈ g8.flatten, b ≠ a := fun b hb z => n.1 (by rw [← z]; exact m3 b hb)
  have s2 : Sep K F R (upd H a o) σ (ε.set i .no) ((.ref a, .ob kd' ds) :: T) := by
    refine close _ _ _ (a :: g8.flatten) ⟨a, us, g8, rfl, rfl, k2, RpCs.frame (Same.refl F) (fun b hb => upd_ne (na b hb)) m1⟩ (List.nodup_cons.mpr ⟨fun z => na a z rfl, m2⟩) (fun b hb => ?_) (fun b u hb e => ?_)
    · left
      rcases List.mem_cons.mp hb with rfl | hb
      · exact List.mem_cons_self
      · exact List.mem_cons_of_mem _ (m3 b hb)
    · rw [upd_ne]
      · exact e
      · rintro rfl
        exact hb List.mem_cons_self
  have s3 := s2.put hw
  rw [List.set_set] at s3
  exact s3
theorem part_set {vs : List V} {gg : List (List Addr)} {f : List Addr} {k : Nat} (g : RpCs K F H (vs.map some) cs gg) (r : RpC K F H (some y) c f) (n : (gg.flatten ++ f).Nodup) : ∃ g2, RpCs K F H ((vs.set k y).map some) (cs.set k c) g2 ∧ g2.flatten.Nodup ∧ ∀ b ∈ g2.flatten, b ∈ gg.flatten ++ f := by
  rw [List.nodup_append] at n
  refine ⟨gg.set k f, by rw [List.map_set]; exact RpCs.set r k g, nodup_set n.2.1 n.1 fun j x hj hx b hb hb2 => n.2.2 b (flat_get hx hb2) b hb rfl, fun b hb => ?_⟩
  rcases flat_set hb with hb | ⟨j, x, _, hx, hb⟩
  · exact List.mem_append_right _ hb
  · exact List.mem_append_left _ (flat_get hx hb)
theorem part_add {vs : List V} {gg : List (List Addr)} {f : List Addr} (g : RpCs K F H (vs.map some) cs gg) (r : RpC K F H (some y) c f) (n : (gg.flatten ++ f).Nodup) : ∃ g2, RpCs K F H ((vs ++ [y]).map some) (cs ++ [c]) g2 ∧ g2.flatten.Nodup ∧ ∀ b ∈ g2.flatten, b ∈ gg.flatten ++ f := by
  have e : (gg ++ [f]).flatten = gg.flatten ++ f := by simp
  refine ⟨gg ++ [f], by rw [List.map_append]; exact g.append ⟨_, _, _, _, rfl, rfl, r, rfl, rfl⟩, by rw [e]; exact n, fun b hb => by rw [e] at hb; exact hb⟩
end
/-- x.f = e -/
def mFSet (i k : Nat) (x f : Str) (m : EM) : XM := fun ε => do
  let (c, ε1) ← m ε
  match ε1[i]? with
  | some (.ob (.ins y fs) cs) =>
    if y = x ∧ fs[k]? = some f ∧ k < cs.length ∧ cs.length < 1000 then some (.nx, ε1.set i (.ob (.ins y fs) (cs.set k c)))
    else none
  | _ => none
/-- .. for the first time -/
def mFNew (i : Nat) (x f : Str) (m : EM) : XM := fun ε => do
  let (c, ε1) ← m ε
  match ε1[i]? with
  | some (.ob (.ins y fs) cs) =>
    if y = x ∧ f ∉ fs ∧ cs.length < 1000 then some (.nx, ε1.set i (.ob (.ins y (fs ++ [f])) (cs ++ [c])))
    else none
  | _ => none
/-- x[ix] = e, x a list of own things -/
def mNSet (i : Nat) (m : EM) (ix : OM) : XM := fun ε => do
  let (c, ε1) ← m ε
  match ε1[i]? with
  | some (.ob .ls _) => do
    let (p, ε2) ← ix ε1
    let k ← bor ε2 p
    match k, ε2[i]? with
      | .int k, some (.ob .ls cs) => do
        let j ← ixN cs.length k
        some (.nx, ε2.set i (.ob .ls (cs.set j c)))
      | _, _ => none
  | _ => none
/-- p.append(e) -/
def mPApp (m : PlM) (e : EM) : XM := fun ε => do
  let ((i, k), ε1) ← m ε
  match ε1[i]? with
  | some (.ob kd cs) => match cs[k]? with
    | some (.ls ds) => do
      let (c, ε2) ← e (ε1.set i .no)
      let d ← cD c
      if ds.length < sizeLine then some (.nx, ε2.set i (.ob kd (cs.set k (.ls (ds ++ [d]))))) else none
    | _ => none
  | _ => none
/-- p[ix] = e -/
def mPSetIx (m : PlM) (e : EM) (ix : OM) : XM := fun ε => do
  let (c, ε0) ← e ε
  let d ← cD c
  let ((i, k), ε1) ← m ε0
  match ε1[i]? with
  | some (.ob kd cs) => match cs[k]? with
    | some (.ls ds) => do
      let (o, ε2) ← ix (ε1.set i .no)
      let z ← bor ε2 o
      match z with
        | .int z => do
          let j ← ixN ds.length z
          some (.nx, ε2.set i (.ob kd (cs.set k (.ls (ds.set j d)))))
        | _ => none
    | _ => none
  | _ => none
/-- p.pop() -/
def mPPop (m : PlM) : EM := fun ε => do
  let ((i, k), ε1) ← m ε
  match ε1[i]? with
  | some (.ob kd cs) => match cs[k]? with
    | some (.ls ds) => do
      let d ← ds.getLast?
      some (.sh d, ε1.set i (.ob kd (cs.set k (.ls ds.dropLast))))
    | _ => none
  | _ => none
end L2.M
namespace L2.M
open PySem PySem.Spec PyProof.Rows
def cellO (ε : Cs) : Opd → Option C
  | .pl i => ε[i]?
  | .tm c => some c
/-- an object of the class x that has no attribute m of its own -/
def isIns (x m : Str) : Option C → Bool
  | some (.ob (.ins y fs) _) => decide (y = x ∧ m ∉ fs)
  | _ => false
def mMeth (x m : Str) (io : List Bool) (g : GM) (mo : OM) (ma : AM) : EM := fun ε => do
  let (o, ε1) ← mo ε
  if isIns x m (cellO ε1 o) = true then do
    let (os, ε2) ← ma ε1
    let (os2, ε3) ← frz io (o :: os) ε2
    let (cs, ε4) ← lend os2 ε3
    let (c, cs') ← g cs
    some (c, wb os2 cs' ε4)
  else none
def mNew (x : Str) (io : List Bool) (g : GM) (ma : AM) : EM := fun ε => do
  let (os, ε1) ← ma ε
  let (os2, ε2) ← frz io os ε1
  let (cs, ε3) ← lend os2 ε2
  match g (.ob (.ins x []) [] :: cs) with
  | some (.sh .none, c :: cs') => some (c, wb os2 cs' ε3)
  | _ => none
section
variable {fa : List He.Fa} {fn : List He.DefD} {K : PySem.W.Frag} {mg : Str → Option Value} {P : Program} {w : World} {base : Heap}
theorem Wo.cls (W : Wo fa fn K mg) (i : Nat) {x : Str} (h : fa[i]? = some (.cls x) := by rfl) : Cls K (He.ga K x) := let ⟨_, _, _, c⟩ := W; He.cls_ok (c.fact i h)
theorem Wo.glo (W : Wo fa fn K mg) (i : Nat) {x : Str} (h : fa[i]? = some (.glo x) := by rfl) : mg x = some (.ref (He.ga K x)) := let ⟨_, X, G, c⟩ := W; He.glo_ok X G (c.fact i h)
end
end L2.M
namespace L2.M
open PySem PySem.Spec PyProof.Rows
def mAddN (a : OM) (b : EM) : EM := fun ε => do
  let (o, ε1) ← a ε
  let (c, ε2) ← b ε1
  let d ← bor ε2 o
  match d, c with
    | .list ds, .ob .ls cs => if ds.length + cs.length ≤ sizeLine then some (.ob .ls (ds.map .sh ++ cs), ε2) else none
    | _, _ => none
end L2.M
namespace L2.M
open PySem PySem.Spec PyProof.Rows
end L2.M
namespace L2.M
open PySem PySem.Spec PyProof.Rows
section
variable {X : Cx}
def mRaise (x : Str) : XM := fun ε => some (.xc ⟨x, []⟩, ε)
end
abbrev GX := List C → Option ((C ⊕ Xn) × List C)
abbrev EXM := Cs → Option ((C ⊕ Xn) × Cs)
def semX (io : List Bool) (ns : Nat) (m : XM) : GX := fun cs =>
  if shared io cs then
    match m (cs ++ List.replicate (ns - cs.length) .no) with
    | some (.rt c, ε') => some (.inl c, after io cs ε')
    | some (.nx, ε') => some (.inl (.sh .none), after io cs ε')
    | some (.xc x, ε') => some (.inr x, after io cs ε')
    | _ => none
  else none
/-- what comes of an expression that may raise -/
def FinX (K : Ek) (R : Hp) (σ : St) (Q : VK) (E : XK) (F' H' : Hp) (ε' : Cs) : C ⊕ Xn → Prop
  | .inl c => ∀ v, Sep K F' R H' σ ε' [(v, c)] → Q v H'
  | .inr x => ∀ cls d, Sep K F' R H' σ ε' [] → RepX K F' cls d x → E cls d H'
def spX (K : Ek) (np : Nat) (g : GX) : Sp := fun vs H Q E => vs.length = np ∧ ∃ F R cs r cs', Sep K F R H (vs.map some) cs [] ∧ g cs = some (r, cs') ∧ ∀ F' H', Same F F' → FinX K R (vs.map some) Q E F' H' cs' r
/-- a call of a def that raises -/
def mCallX (io : List Bool) (g : GX) (ma : AM) : EXM := fun ε => do
  let (os, ε1) ← ma ε
  let (os2, ε2) ← frz io os ε1
  let (cs, ε3) ← lend os2 ε2
  let (r, cs') ← g cs
  some (r, wb os2 cs' ε3)
section
variable {X : Cx} {W : Xw} {io : List Nat} {pos : Pos} {e : Expr} {m : EXM}
def xRet (m : EXM) : XM := fun ε => do
  let (r, ε1) ← m ε
  match r with
  | .inl c => some (.rt c, ε1)
  | .inr x => some (.xc x, ε1)
def xExpr (m : EXM) : XM := fun ε => do
  let (r, ε1) ← m ε
  match r with
  | .inl _ => some (.nx, ε1)
  | .inr x => some (.xc x, ε1)
def xSet (io : List Nat) (i : Nat) (m : EXM) : XM := fun ε => do
  let (r, ε1) ← m ε
  match r with
  | .inl c => if i < ε1.length ∧ i ∉ io then some (.nx, ε1.set i c) else none
  | .inr x => some (.xc x, ε1)
end
/-- a def that may raise, by its name -/
structure KnX (P : Program) (w : World) (K : PySem.W.Frag) (mg : Str → Option Value) (base : Heap) (k : Nat) (x : Str) (ps : List Str) (sp : Sp) : Prop where
  ex : ∃ (f : Addr) (fd : FuncData), mg x = some (.ref f) ∧ PySem.W.keepIn K (.ref f) = true ∧ Binds K fd ps [] ∧ FnG P w K mg base (L2N.CX P w) k f fd ps sp
end L2.M
namespace L2.M
open PySem PySem.Spec PyProof.Rows
def mTold (io : List Nat) (i : Nat) (ref : Xn → Option D) (m : EXM) : XM := fun ε => do
  let (r, ε1) ← m ε
  match r with
  | .inl c => some (.rt c, ε1)
  | .inr x => match ε1[i]? with
    | some .no => if i ∉ io then (ref x).map fun d => (.rt (.sh d), ε1) else none
    | _ => none
end L2.M
namespace L2.M
open PySem PySem.Spec PyProof.Rows
abbrev Ck := PySem.W.Frag → Bool
/-- isinstance of an x, asked of the class y of the module -/
def kitB (x y : Str) (b : Bool) : Ck := fun K => decide (PySem.W.kitOne K (.ref (He.ga K x)) (.ref (He.ga K y)) = some b)
end L2.M
namespace L2.M
open PySem PySem.Spec PyProof.Rows PySem.Calls
open PySem.W (findIn specialIn subIn hasDictIn takesIn mroIn clsIn findObj looks_findIn looks_find looks_subIn any_some class_get KitX kitOne kitAny kia_one kia_tup)
end L2.M
namespace L2.M
open PySem PySem.Spec PyProof.Rows
def XdAt (H : Hp) (d : Option Addr) : Prop := d = none ∨ ∃ dd fs, d = some dd ∧ H dd = some (.xd fs)
theorem RepX.at_ {K : Ek} {F H : Hp} {cls : Value} {d : Option Addr} {x : Xn} (s : Same F H) (h : RepX K F cls d x) : XdAt H d := by
  obtain ⟨_, ⟨_, h2⟩ | ⟨dx, fs, h2, h3, _⟩⟩ := h
  · exact .inl h2
  · exact .inr ⟨dx, fs, h2, s _ _ h3⟩
end L2.M
namespace L2.M
open PySem PySem.Spec PyProof.Rows
end L2.M
namespace L2.M
open PySem PySem.Spec PyProof.Rows
end L2.M
namespace L2.M
open PySem PySem.Spec PyProof.Rows
end L2.M
namespace L2.M
open PySem PySem.Spec PyProof.Rows
end L2.M
namespace L2.M
open PySem PySem.Spec PyProof.Rows
end L2.M
namespace L2.M
open PySem PySem.Spec PyProof.Rows
end L2.M
namespace L2.M
open PySem PySem.Spec PyProof.Rows
section
variable {X : Cx} {e : Expr} {es : List Expr} {ta : TA} {p pos : Pos}
/-- plain values: the fields of the exceptions here -/
def scal : D → Bool
  | .none => true
  | .bool _ => true
  | .int _ => true
  | .str _ => true
  | _ => false
end
end L2.M
namespace L2.M
open PySem PySem.Spec PyProof.Rows
end L2.M
namespace L2.M
open PySem PySem.Spec PyProof.Rows
end L2.M
namespace L2.M
open PySem PySem.Spec PyProof.Rows
def truD : D → Option Bool
  | .none => some false
  | .bool b => some b
  | .tuple ds => some (!ds.isEmpty)
  | .list ds => some (!ds.isEmpty)
  | _ => none
def mOrV (m n : EM) : EM := fun ε => match m ε with
  | some (.sh d, ε1) => (match truD d with
    | some true => some (.sh d, ε1)
    | some false => n ε1
    | none => none)
  | _ => none
end L2.M
namespace L2.M
open PySem PySem.Spec PyProof.Rows
/-- neighbours that are alike fall together -/
def once : List Int → List Int
  | [] => []
  | [a] => [a]
  | a :: b :: r => if a = b then once (b :: r) else a :: once (b :: r)
def dsort (ns : List Int) : List Int := once (isort ns)
theorem once_mem : ∀ (l : List Int) (k : Int), k ∈ once l ↔ k ∈ l
  | [], _ => by simp [once]
  | [a], _ => by simp [once]
  | a :: b :: r, k => by
    have ih := once_mem (b :: r) k
    simp only [once]
    split
    · rename_i e
      subst e
      rw [ih]
      simp
    · simp only [List.mem_cons] at ih ⊢
      rw [ih]
theorem once_ris : ∀ l : List Int, l.Pairwise (· ≤ ·) → (once l).Pairwise (· < ·)
  | [], _ => by simp [once]
  | [a], _ => by simp [once]
  | a :: b :: r, h => by
    obtain ⟨h1, h2⟩ := List.pairwise_cons.mp h
    have ih := once_ris (b :: r) h2
    simp only [once]
    split
    · exact ih
    · rename_i ne
      refine List.pairwise_cons.mpr ⟨fun y hy => ?_, ih⟩
      rw [once_mem] at hy
      have hb := h1 b List.mem_cons_self
      rcases List.mem_cons.mp hy with rfl | hy
      · omega
      · have := (List.pairwise_cons.mp h2).1 y hy
        omega
theorem isort_perm (ns : List Int) : (isort ns).Perm ns := List.mergeSort_perm ns _
theorem isort_le (ns : List Int) : (isort ns).Pairwise (· ≤ ·) :=
  (List.pairwise_mergeSort (le := fun a b : Int => decide (a ≤ b)) (by intro a b c; simp; omega) (by intro a b; simp; omega) ns).imp fun h => by simpa using h
theorem dsort_mem (ns : List Int) (k : Int) : k ∈ dsort ns ↔ k ∈ ns := by rw [dsort, once_mem, (isort_perm ns).mem_iff]
theorem dsort_ris (ns : List Int) : (dsort ns).Pairwise (· < ·) := once_ris _ (isort_le ns)
section
variable {P : Program} {w : World} {A : Around} {E : Value → Shared → Prop} {s : Shared}
/-- the object of an empty set -/
abbrev eSet (w : World) : Obj := { cls := .type "set", dict := none, data := .set #[] 0 (.fresh 0 0 (!w.params.followText "set-order")) }
theorem ints_get {its : Array Value} {ns : List Int} (h : IntsAre its.toList ns) (hz : its.size = ns.length) : ∀ (i : Nat) (v : Value), its[i]? = some v → ∃ k t, ns[i]? = some k ∧ v = .int k t := fun i v hv => by
  obtain ⟨hi, -⟩ := Array.getElem?_eq_some_iff.mp hv
  rw [hz] at hi
  obtain ⟨t, e⟩ := h.int_at i v ((Array.getElem?_toList ..).trans hv)
  exact ⟨_, t, List.getElem?_eq_getElem hi, by rw [e, List.getD_eq_getElem?_getD, List.getElem?_eq_getElem hi]; rfl⟩
/-- set(xs) of a list of numbers -/
theorem call_set_lstI {l : Addr} {its : Array Value} (ns : List Int) {Q : Value → Shared → Prop} (hh : A.handled = none) (hl : s.heap.IsList l its) (hit : IntsAre its.toList ns) (hb : ns.length + 1 < scanBound)
    (h : ∀ (h' : Heap) (tk c : Nat), SetR w h' s.heap.objs.size (fun j => decide (j ∈ ns)) c → c ≤ ns.length → (∀ b o, s.heap.get? b = some o → h'.get? b = some o) → Q (.ref s.heap.objs.size) { s with heap := h', toks := tk }) :
    wpAny (model P w) A (call (.type "set") [.ref l]) Q E s := by
  have hz : its.size = ns.length := (Array.length_toList (xs := its)) ▸ IntsAre.length hit
  have ⟨cm, tl, hmro⟩ := F.called_set.mro
  have hmade := F.called_set.made; have hsub := F.called_set.sub
  refine wpAny_call (codeAny_of_tree (show wpAny _ _ (callAny (.type "set") _) _ _ _ from wpAny_pure ⟨Code.quiet_builtin _ (by decide +kernel), codeAny_builtin F.entry_type_call (by
    rw [Around.under_plain (weight_type_call_type "set" [.ref l] []) rfl]
    have a1 := F.called_set.notType; have a2 := F.called_set.canCreate; have a3 := F.typeCall_set_1 (.ref l)
    repeat (any_goals (first | assumption | wp_step))
    refine codeAny_mono (code_set_led1 (.ref l) (E := E) (Q₁ := fun v t => v = .ref s.heap.objs.size ∧ t = { s with heap := s.heap.push (eSet w) }) ⟨rfl, rfl⟩) fun r t hr => ?_
    rcases r with e | fl
    · exact hr
    rcases fl with ⟨⟩ | v
    any_goals exact hr.elim
    obtain ⟨rfl, rfl⟩ := hr
    have hS : (s.heap.push (eSet w)).get? s.heap.objs.size = some (eSet w) := Heap.get?_push_size _ rfl
    have hT : Shared.TypeIs { s with heap := s.heap.push (eSet w) } (.ref s.heap.objs.size) "set" := ⟨_, hS, rfl⟩
    have b1 := F.called_set.init.lookup; have b2 := F.called_set.init.bind (.ref s.heap.objs.size)
    repeat (any_goals (first | assumption | wp_step))
    have hl1 : (s.heap.push (eSet w)).IsList l its := hl.push _
    obtain ⟨ol, hol, hcl, -⟩ := id hl
    have hlS : l < s.heap.objs.size := Heap.lt_size hol
    have hz1 : (s.heap.push (eSet w)).objs.size = s.heap.objs.size + 1 := Heap.size_push ..
    refine codeAny_mono (codeAny_call_builtin (R := wants (fun v t => v = .none ∧ ∃ h' tk c, t = { s with heap := h', toks := tk } ∧ SetR w h' s.heap.objs.size (fun j => decide (j ∈ ns)) c ∧ c ≤ ns.length ∧ (∀ b o, s.heap.get? b = some o → h'.get? b = some o)) E)
      F.called_set.init.plain F.entry_set_init (check_set_init_1 hT ?_)) fun r2 t2 hr2 => ?_
    · have c1 := F.sub_list_set; have c2 := F.sub_list_frozenset
      have c3 : (Value.type "list" == Value.type "dict") = false := by decide
      have hol2 : (s.heap.push (eSet w)).get? l = some ol := Heap.get?_push_of_some _ hol
      obtain ⟨ocls, odict, odata, oslots⟩ := ol
      simp only at hcl
      subst hcl
      unfold Builtin.«set.__init__» noKeywords Builtin.Frozenset.updateFrom
      generalize hPI : pyIter = PI
      wp_walk
      subst hPI
      refine wpAny_pyIter_list hl1 (wpAny_bind (wpAny_runValue ?_))
      have hh3 : A.in1.in1.in1.handled = none := by simp [hh]
      have n1 : l ≠ (s.heap.push (eSet w)).objs.size := by rw [hz1]; exact Nat.ne_of_lt (Nat.lt_succ_of_lt hlS)
      have n2 : s.heap.objs.size ∉ [(s.heap.push (eSet w)).objs.size, l] := by
        rw [hz1]
        intro hm
        rcases List.mem_cons.mp hm with e | hm
        · omega
        · rw [List.mem_singleton] at hm
          exact Nat.lt_irrefl _ (hm ▸ hlS)
      have hI : ((s.heap.push (eSet w)).push { cls := .type "list_iterator", data := .fields #[.ref l, .int 0 0] }).get? s.heap.objs.size = some (eSet w) := Heap.get?_push_of_some _ hS
      refine set_update_ints (Walks.list hh3 _ l n1 its).toS _ n2 ns hz hb (ints_get hit hz) (its.size - 0) 0 _ (by omega) (Nat.zero_le _) ⟨⟨_, Heap.get?_push_size _ rfl, rfl, rfl⟩, hl1.push _⟩ ⟨0, Nat.le_refl 0, setR_new_at hI⟩ fun t3 c3 hm hc3 hR => ?_
      obtain ⟨h3, g3, d3, k3, o3⟩ := t3
      obtain rfl : g3 = s.gens := hm.gens
      obtain rfl : d3 = s.drawn := hm.drawn
      obtain rfl : o3 = s.os := hm.os
      refine wpAny_pure (show wpAny _ _ (ret Value.none) _ _ _ from wpAny_pure ⟨rfl, h3, k3, c3, rfl, hR, by omega, fun b o e => ?_⟩)
      have lt : b < s.heap.objs.size := Heap.lt_size e
      refine hm.heap b o (fun hmem => ?_) (Heap.get?_push_of_some _ (Heap.get?_push_of_some _ e))
      rcases List.mem_cons.mp hmem with e | hmem
      · exact Nat.ne_of_lt lt e
      · rw [List.mem_singleton] at hmem
        rw [hmem, hz1] at lt
        exact absurd lt (Nat.not_lt.mpr (Nat.le_succ _))
    · rcases r2 with e | fl2
      · exact hr2
      rcases fl2 with ⟨⟩ | v2
      any_goals exact hr2.elim
      obtain ⟨rfl, h3, k3, c3, rfl, hR, hc3, hk3⟩ := hr2
      repeat (any_goals (first | assumption | wp_step))
      exact h _ _ _ hR hc3 hk3)⟩))
end
end L2.M
namespace L2.M
open PySem PySem.Spec PyProof.Rows
end L2.M
namespace L2.M
open PySem PySem.Spec PyProof.Rows
end L2.M
namespace L2.M
open PySem PySem.Spec PyProof.Rows
end L2.M
namespace L2.M
open PySem PySem.Spec PyProof.Rows
end L2.M
namespace L2.M
open PySem PySem.Spec PyProof.Rows
end L2.M
namespace L2.M
open PySem PySem.Spec PyProof.Rows
def kyD : D → Option Key
  | .int i => some (.inl i)
  | .str x => some (.inr x)
  | _ => none
def dLk (kds : List (D × D)) (k : D) : Option D := (kds.find? fun p => PyData.eqv p.1 k).map (·.2)
def dPt (kds : List (D × D)) (k d : D) : List (D × D) := if (kds.any fun p => PyData.eqv p.1 k) = true then kds.map (fun p => if PyData.eqv p.1 k = true then (p.1, d) else p) else kds ++ [(k, d)]
def mDNew : EM := fun ε => some (.dc 0 [], ε)
def mDIn (n : Bool) (i : Nat) (m : OM) : EM := fun ε => do
  let (o, ε1) ← m ε
  let k ← bor ε1 o
  let _ ← kyD k
  match ε1[i]? with
  | some (.dc 0 kds) => some (.sh (.bool (if n then !(dLk kds k).isSome else (dLk kds k).isSome)), ε1)
  | _ => none
def mDGet (i : Nat) (m : OM) : EM := fun ε => match ε[i]? with
  | some (.dc _ _) => do
    let (o, ε1) ← m ε
    let k ← bor ε1 o
    let _ ← kyD k
    match ε1[i]? with
      | some (.dc 0 kds) => do
        let d ← dLk kds k
        some (.sh d, ε1)
      | _ => none
  | _ => none
def mDLen (i : Nat) : EM := fun ε => match ε[i]? with
  | some (.dc 0 kds) => some (.sh (.int kds.length), ε)
  | _ => none
def mDPut (i : Nat) (m : EM) (ix : OM) : XM := fun ε => do
  let (c, ε1) ← m ε
  let d ← cD c
  match ε1[i]? with
  | some (.dc 0 _) => do
    let (p, ε2) ← ix ε1
    let k ← bor ε2 p
    let _ ← kyD k
    match ε2[i]? with
      | some (.dc 0 kds) => if kds.length < sizeLine then some (.nx, ε2.set i (.dc 0 (dPt kds k d))) else none
      | _ => none
  | _ => none
end L2.M
namespace L2.M
open PySem PySem.Spec PyProof.Rows
section
variable {P : Program} {w : World} {K : PySem.W.Frag} {F H : Hp} {h : Heap}
mutual
theorem nk_is (fs : Same F H) (ok : HOk P w H h) : ∀ (d : D) (v : V) (k : NestedKey) (u : Value), nKey d = some k → Rep K F v d → RelV v u → NestedIs h k u
  | .none, v, k, u, e, r, q => by
    cases e
    cases (show v = .non from r)
    cases (show u = Value.none from q)
    exact .none
  | .bool b, v, k, u, e, r, q => by
    cases e
    cases (show v = .bl b from r)
    cases (show u = Value.bool b from q)
    exact .bool rfl
  | .int i, v, k, u, e, r, q => by
    cases e
    cases (show v = .int i from r)
    obtain ⟨t, rfl⟩ := (show ∃ t, u = Value.int i t from q)
    exact .int _ _
  | .str x, v, k, u, e, r, q => by
    cases e
    cases (show v = .str x from r)
    obtain ⟨t, rfl⟩ := (show ∃ t, u = Value.str x t from q)
    exact .text _ _
  | .list ds, v, k, u, e, r, q => by cases e
  | .dict ds, v, k, u, e, r, q => by cases e
  | .tuple ds, v, k, u, e, r, q => by
    obtain ⟨a, vs, rfl, ⟨o, hn, hF⟩, r2⟩ := r
    cases (show u = Value.ref a from q)
    unfold nKey at e
    obtain ⟨ks, e2, rfl⟩ := Option.map_eq_some_iff.mp e
    obtain ⟨hg, _, its, rel, o', h1, h2, n, h3⟩ := ok a _ (fs _ _ hF)
    exact .tup h1 h2 h3 (by simpa using nks_are fs ok ds vs ks its e2 r2 rel)
theorem nks_are (fs : Same F H) (ok : HOk P w H h) : ∀ (ds : List D) (vs : List V) (ks : List NestedKey) (us : List Value), nKeys ds = some ks → Reps K F vs ds → Vals vs us → NestedAll h ks us
  | [], vs, ks, us, e, r, q => by
    cases e
    cases (show vs = [] from r)
    cases q
    exact .nil
  | d :: ds, vs, ks, us, e, r, q => by
    obtain ⟨v, vr, rfl, r1, r2⟩ := r
    cases q with
    | cons q1 q2 =>
      unfold nKeys at e
      split at e
      · rename_i k kr e1 e2
        cases e
        exact .cons (nk_is fs ok d v k _ e1 r1 q1) (nks_are fs ok ds vr kr _ e2 r2 q2)
      · cases e
end
end
theorem nk_ref {K : PySem.W.Frag} {F : Hp} {v : V} {ds : List D} (r : Rep K F v (.tuple ds)) : ∃ b, v = .ref b := by
  obtain ⟨a, vs, rfl, _⟩ := r
  exact ⟨a, rfl⟩
def NVal (w : World) : NEnt × Value → NestedKey × Addr × Value := fun x => (x.1.1, x.1.2, x.2)
abbrev NX := List (NEnt × V)
abbrev nkR (p : NEnt × V) (q : NEnt × Value) : Prop := p.1 = q.1 ∧ RelV p.2 q.2
/-- the keys stand as told -/
def NkIs (h : Heap) (bs : List NEnt) : Prop := ∀ b ∈ bs, NestedIs h b.1 (.ref b.2) ∧ b.1.depth ≤ 8
section
variable {P : Program} {w : World} {H : Hp} {h : Heap} {a : Addr} {xs : NX}
theorem nk_of (ok : HOk P w H h) (e : H a = some (nkO w a xs) ∨ ∃ od, H a = some (.frz od (nkO w a xs))) : xs.length ≤ sizeLine ∧ (a == sysModules) = false ∧ ∃ vs : List (NEnt × Value), Paired nkR xs vs ∧ ∃ o es ep, h.get? a = some o ∧ o.ExactDict ∧ o.data = .dict es ep ∧ es.toList = vs.map (nkE w) ∧ (xs.map (·.1.1)).Nodup := by
  rcases e with e | ⟨od, e⟩
  · exact (show ObjOk P w H h a (nkO w a xs) from ok a _ e).1
  · exact (show ObjOk P w H h a (nkO w a xs) from (ok a _ e).2).1
theorem nkr_keys : ∀ {xs : NX} {vs : List (NEnt × Value)}, Paired nkR xs vs → vs.map (·.1) = xs.map (·.1)
  | _, _, .nil => rfl
  | _, _, .cons q r => by simp only [List.map_cons, nkr_keys r, q.1]
theorem nk_dict {vs : List (NEnt × Value)} (hk : NkIs h (xs.map (·.1))) (pr : Paired nkR xs vs) (r : ∃ o es ep, h.get? a = some o ∧ o.ExactDict ∧ o.data = .dict es ep ∧ es.toList = vs.map (nkE w) ∧ (xs.map (·.1.1)).Nodup) : h.DictOfH (nestedKind P w) a (vs.map (NVal w)) := by
  obtain ⟨o, es, ep, h1, h2, h3, h4, h5⟩ := r
  have ek := nkr_keys pr
  refine ⟨o, es, ep, h1, h2, h3, ?_, fun x hx => ?_, ?_⟩
  · rw [h4, List.map_map]
    rfl
  · obtain ⟨y, hy, rfl⟩ := List.mem_map.mp hx
    exact hk y.1 (by rw [← ek]; exact List.mem_map_of_mem hy)
  · rw [List.map_map]
    have : (xs.map (·.1.1)) = vs.map (fun y => y.1.1) := by
      have := congrArg (List.map (·.1)) ek
      rw [List.map_map, List.map_map] at this
      exact this.symm
    have e2 : ((fun x : NestedKey × Addr × Value => x.1) ∘ NVal w) = fun y : NEnt × Value => y.1.1 := rfl
    rw [e2, ← this]
    exact h5
/-- a new or changed dict is such -/
theorem nk_mk {H' : Hp} {h' : Heap} {vs : List (NEnt × Value)} (hz : xs.length ≤ sizeLine) (hd : (a == sysModules) = false) (pr : Paired nkR xs vs) (dd : h'.DictOfH (nestedKind P w) a (vs.map (NVal w))) : ObjOk P w H' h' a (nkO w a xs) := by
  obtain ⟨o, es, ep, h1, h2, h3, h4, h5, h6⟩ := dd
  have ek := nkr_keys pr
  have h4 : es.toList = vs.map (nkE w) := by
    rw [h4, List.map_map]
    rfl
  have h6 : (xs.map (·.1.1)).Nodup := by
    have : (xs.map (·.1.1)) = vs.map (fun y => y.1.1) := by
      have := congrArg (List.map (·.1)) ek
      rw [List.map_map, List.map_map] at this
      exact this.symm
    rw [this]
    rw [List.map_map] at h6
    exact h6
  refine ⟨⟨hz, hd, vs, pr, o, es, ep, h1, h2, h3, h4, h6⟩, ⟨o, h1⟩, fun g1 g2 p k => ?_⟩
  obtain ⟨p1, p2, ws, p3, o', es', ep', q1, q2, q3, q4, q5⟩ := p
  exact ⟨p1, p2, ws, p3, o', es', ep', k _ q1, q2, q3, q4, q5⟩
end
def lkN (xs : NX) (k : NestedKey) : Option V := (xs.find? fun x => decide (x.1.1 = k)).map (·.2)
def ptN (xs : NX) (b : NEnt) (v : V) : NX := if (lkN xs b.1).isSome then xs.map (fun x => if x.1.1 = b.1 then (x.1, v) else x) else xs ++ [(b, v)]
section
variable {w : World}
theorem lk_val : ∀ {xs : NX} {vs : List (NEnt × Value)} {k : NestedKey}, Paired nkR xs vs → RelO (lkN xs k) ((atKey (vs.map (NVal w)) k).map (·.2))
  | _, _, k, .nil => by simp [lkN, atKey, RelO]
  | x :: xs, y :: vs, k, .cons q r => by
    obtain ⟨q1, q2⟩ := q
    by_cases c : x.1.1 = k
    · have c2 : (NVal w y).1 = k := by show y.1.1 = k; rw [← q1]; exact c
      have e1 : lkN (x :: xs) k = some x.2 := by simp [lkN, c]
      have e2 : (atKey ((y :: vs).map (NVal w)) k).map (·.2) = some y.2 := by
        unfold atKey
        rw [List.map_cons, List.find?_cons_of_pos (by simpa using c2)]
        rfl
      rw [e1, e2]
      exact q2
    · have c2 : ¬ (NVal w y).1 = k := by show ¬ y.1.1 = k; rw [← q1]; exact c
      have e1 : lkN (x :: xs) k = lkN xs k := by simp [lkN, c]
      have e2 : (atKey ((y :: vs).map (NVal w)) k).map (·.2) = (atKey (vs.map (NVal w)) k).map (·.2) := by simp [atKey, c2]
      rw [e1, e2]
      exact lk_val r
theorem lk_some {xs : NX} {vs : List (NEnt × Value)} {k : NestedKey} (r : Paired nkR xs vs) : (atKey (vs.map (NVal w)) k).isSome = (lkN xs k).isSome := by
  have := (lk_val (w := w) (k := k) r).isSome_eq
  rw [Option.isSome_map] at this
  exact this.symm
theorem pt_val {xs : NX} {vs : List (NEnt × Value)} {b : NEnt} {v : V} {u : Value} (r : Paired nkR xs vs) (rv : RelV v u) : ∃ ws, Paired nkR (ptN xs b v) ws ∧ storedH (vs.map (NVal w)) b.1 b.2 u = ws.map (NVal w) := by
  unfold ptN storedH
  rw [lk_some r]
  by_cases c : (lkN xs b.1).isSome = true
  · rw [if_pos c, if_pos c]
    refine ⟨vs.map fun y => if y.1.1 = b.1 then (y.1, u) else y, ?_, ?_⟩
    · clear c
      induction r with
      | nil => exact .nil
      | @cons x y xs vs q r ih =>
        obtain ⟨q1, q2⟩ := q
        simp only [List.map_cons]
        refine .cons ?_ ih
        by_cases c : x.1.1 = b.1
        · rw [if_pos c, if_pos (by rw [← q1]; exact c)]
          exact ⟨q1, rv⟩
        · rw [if_neg c, if_neg (by rw [← q1]; exact c)]
          exact ⟨q1, q2⟩
    · rw [List.map_map, List.map_map]
      refine List.map_congr_left fun y _ => ?_
      show putAt b.1 u (NVal w y) = NVal w (if y.1.1 = b.1 then (y.1, u) else y)
      unfold putAt
      by_cases c3 : y.1.1 = b.1
      · rw [if_pos c3, if_pos (show (NVal w y).1 = b.1 from c3)]
        rfl
      · rw [if_neg c3, if_neg (show ¬ (NVal w y).1 = b.1 from c3)]
  · rw [if_neg c, if_neg c]
    refine ⟨vs ++ [(b, u)], Paired.snoc r ⟨rfl, rv⟩, ?_⟩
    rw [List.map_append]
    rfl
theorem pt_len (xs : NX) (b : NEnt) (v : V) : (ptN xs b v).length ≤ xs.length + 1 := by
  unfold ptN
  split
  · rw [List.length_map]; omega
  · rw [List.length_append]; exact Nat.le_refl _
end
section
variable {X : Cx} {pins : List (Addr × Obj)} {σ : St} {H : Hp} {s : Shared} {a : Addr} {A : Around} {E : Value → Shared → Prop} {xs : NX}
def NkAt (w : World) (H : Hp) (a : Addr) (xs : NX) : Prop := H a = some (nkO w a xs) ∨ ∃ od, H a = some (.frz od (nkO w a xs))
/-- the key y is told -/
def NkKey (P : Program) (w : World) (H : Hp) (y : V) (k : NestedKey) : Prop := (∃ b, y = .ref b) ∧ k.depth ≤ 8 ∧ ∀ h, HOk P w H h → ∀ u, RelV y u → NestedIs h k u
def NkKeys (P : Program) (w : World) (H : Hp) (bs : List NEnt) : Prop := ∀ b ∈ bs, NkKey P w H (.ref b.2) b.1
theorem NkKeys.are {P : Program} {w : World} {h : Heap} {bs : List NEnt} (k : NkKeys P w H bs) (ok : HOk P w H h) : NkIs h bs := fun b hb => ⟨(k b hb).2.2 h ok _ rfl, (k b hb).2.1⟩
theorem nroom (hu : A.units + 9 < cLine) : (nestedKind X.prog X.w).room A.in1 := by
  show A.units + 1 + 8 < cLine
  omega
theorem n_dict (I : Inv X pins σ H s) (g : NkAt X.w H a xs) (hk : NkKeys X.prog X.w H (xs.map (·.1))) : xs.length ≤ sizeLine ∧ (a == sysModules) = false ∧ ∃ vs : List (NEnt × Value), Paired nkR xs vs ∧ s.heap.DictOfH (nestedKind X.prog X.w) a (vs.map (NVal X.w)) := by
  obtain ⟨z, hd, vs, pr, r⟩ := nk_of I.hok g
  exact ⟨z, hd, vs, pr, nk_dict (hk.are I.hok) pr r⟩
theorem n_getItem {y v : V} {u : Value} {k : NestedKey} {Q : Value → Shared → Prop} (hu : A.units + 9 < cLine) (I : Inv X pins σ H s) (g : NkAt X.w H a xs) (hk : NkKeys X.prog X.w H (xs.map (·.1))) (hy : NkKey X.prog X.w H y k) (hv : lkN xs k = some v) (ry : RelV y u) (h : ∀ w' s', Inv X pins σ H s' → RelV v w' → Q w' s') :
    wpAny (model X.prog X.w) A (getItem (.ref a) u) Q E s := by
  obtain ⟨z, hd, vs, pr, dd⟩ := n_dict I g hk
  obtain ⟨⟨b, rfl⟩, k8, kis⟩ := hy
  cases (show u = Value.ref b from ry)
  obtain ⟨w', hw, rw'⟩ := RelO.some_of (v := v) (o := (atKey (vs.map (NVal X.w)) k).map (·.2)) (by rw [← hv]; exact lk_val pr)
  obtain ⟨p, hp, hp2⟩ := Option.map_eq_some_iff.mp hw
  refine wpAny_getItem_heap (nroom hu) ⟨kis _ I.hok _ rfl, k8⟩ dd hp ?_
  rw [hp2]
  exact h w' _ (I.tok _) rw'
theorem n_notIn {y : V} {u : Value} {k : NestedKey} {Q : Value → Shared → Prop} (hu : A.units + 9 < cLine) (I : Inv X pins σ H s) (g : NkAt X.w H a xs) (hk : NkKeys X.prog X.w H (xs.map (·.1))) (hy : NkKey X.prog X.w H y k) (ry : RelV y u) (h : ∀ s', Inv X pins σ H s' → Q (.bool (!(lkN xs k).isSome)) s') :
    wpAny (model X.prog X.w) A (compareOp .NotIn u (.ref a)) Q E s := by
  obtain ⟨z, hd, vs, pr, dd⟩ := n_dict I g hk
  obtain ⟨⟨b, rfl⟩, k8, kis⟩ := hy
  cases (show u = Value.ref b from ry)
  refine wpAny_notIn_heap (nroom hu) ⟨kis _ I.hok _ rfl, k8⟩ hd dd ?_
  rw [lk_some pr]
  exact h _ (I.tok _)
theorem n_setItem {b : Addr} {v : V} {r : Value} {k : NestedKey} {Q : Unit → Shared → Prop} (hu : A.units + 9 < cLine) (I : Inv X pins σ H s) (g : H a = some (nkO X.w a xs)) (hk : NkKeys X.prog X.w H (xs.map (·.1))) (hy : NkKey X.prog X.w H (.ref b) k) (hl : xs.length < sizeLine) (rv : RelV v r) (h : ∀ s', Inv X pins σ (upd H a (nkO X.w a (ptN xs (k, b) v))) s' → Q () s') :
    wpAny (model X.prog X.w) A (setItem (.ref a) (.ref b) r) Q E s := by
  obtain ⟨z, hd, vs, pr, dd⟩ := n_dict I (.inl g) hk
  obtain ⟨_, k8, kis⟩ := hy
  have hz : (vs.map (NVal X.w)).length ≤ sizeLine := by rw [List.length_map, ← Paired.length pr]; exact z
  refine wpAny_setItem_heap (nroom hu) ⟨kis _ I.hok _ rfl, k8⟩ dd (fun h' dd' hs => ?_) hz
  obtain ⟨ws, pr', e⟩ := pt_val (w := X.w) (b := (k, b)) pr rv
  rw [e] at dd'
  have he : ∃ q, h'.get? a = some q := let ⟨o, _, _, q, _⟩ := dd'; ⟨o, q⟩
  refine h _ (d_write I (by rw [g]; exact True.intro) hs he (nk_mk ?_ hd pr' dd'))
  have := pt_len xs (k, b) v
  omega
theorem n_typeIs (I : Inv X pins σ H s) (g : NkAt X.w H a xs) : s.TypeIs (.ref a) "dict" := by
  obtain ⟨_, _, vs, _, o, es, ep, h1, h2, _⟩ := nk_of I.hok g
  exact ⟨o, h1, h2.1⟩
end
section
variable {X : Cx} {o i e value : Expr} {pos pos' tpos : Pos} {td ty tv : TE}
def NGet (P : Program) (w : World) (H : Hp) (a : Addr) (y : V) (r : Option V) : Prop := ∃ xs k, NkAt w H a xs ∧ NkKeys P w H (xs.map (·.1)) ∧ NkKey P w H y k ∧ r = lkN xs k
def tNGet (P : Program) (w : World) (td ty : TE) : TE := fun σ H Q => td σ H fun x H1 => ty σ H1 fun y H2 => ∃ a v, x = .ref a ∧ NGet P w H2 a y (some v) ∧ Q v H2
def tNIn (P : Program) (w : World) (n : Bool) (ty td : TE) : TE := fun σ H Q => ty σ H fun y H1 => td σ H1 fun x H2 => ∃ a o, x = .ref a ∧ NGet P w H2 a y o ∧ Q (.bl (if n then !o.isSome else o.isSome)) H2
def sNPut (P : Program) (w : World) (td ty tv : TE) : TS := fun D σ H => tv σ H fun v H1 => td σ H1 fun x H2 => ty σ H2 fun y H3 => ∃ a xs b k, x = .ref a ∧ y = .ref b ∧ H3 a = some (nkO w a xs) ∧ NkKeys P w H3 (xs.map (·.1)) ∧ NkKey P w H3 (.ref b) k ∧ xs.length < sizeLine ∧ D.nx σ (upd H3 a (nkO w a (ptN xs (k, b) v)))
theorem pe_nget (hu : X.A.units + 9 < cLine) (ho : PE X o td) (hi : PE X i ty) (hs : NoSl i) : PE X (.Subscript o i pos) (tNGet X.prog X.w td ty) := by
  refine ⟨fun pins s σ H Q I h => ?_⟩
  refine subD_of PySem.F.slot_dict_getitem.lookup hs (thn (ho.run pins s σ H _ I h) fun u s1 ⟨x, H1, I1, rx, q1⟩ => thn (hi.run pins s1 σ H1 _ I1 q1) fun iv s2 ⟨y, H2, I2, ry, a, v, ex, g, q2⟩ => ?_)
  subst ex
  obtain rfl : u = Value.ref a := rx
  obtain ⟨xs, k, g1, g2, g3, g4⟩ := g
  exact ⟨n_typeIs I2 g1, n_getItem hu I2 g1 g2 g3 g4.symm ry fun w' s3 I3 rw' => ⟨v, H2, I3, rw', q2⟩⟩
theorem pc_nnin (hu : X.A.units + 9 < cLine) (hi : PE X i ty) (ho : PE X o td) : PC X .NotIn i o (tNIn X.prog X.w true ty td) := by
  refine ⟨fun pins s σ H Q I h => ?_⟩
  refine thn (hi.run pins s σ H _ I h) fun iv s1 ⟨y, H1, I1, ry, q1⟩ => thn (ho.run pins s1 σ H1 _ I1 q1) fun u s2 ⟨x, H2, I2, rx, a, ov, ex, g, q2⟩ => ?_
  subst ex
  obtain rfl : u = Value.ref a := rx
  obtain ⟨xs, k, g1, g2, g3, rfl⟩ := g
  exact n_notIn hu I2 g1 g2 g3 ry fun s3 I3 => ⟨.bl _, H2, I3, rfl, q2⟩
theorem ps_nput (hu : X.A.units + 9 < cLine) (ho : PE X o td) (hi : PE X i ty) (hv : PE X value tv) (hs : swapsWith value (some (.Subscript o i pos')) pos.line X.env = pure false) :
    PS X (.Assign [.Subscript o i pos'] value pos) (sNPut X.prog X.w td ty tv) := by
  refine ⟨fun pins s σ H D I h => ?_⟩
  refine wpAny_Assign_Subscript (thn (hv.run pins s σ H _ I h) fun r s1 ⟨v, H1, I1, rv, q1⟩ => thn (ho.run pins s1 σ H1 _ I1 q1) fun u s2 ⟨x, H2, I2, rx, q2⟩ => thn (hi.run pins s2 σ H2 _ I2 q2) fun iv s3 ⟨y, H3, I3, ry, a, xs, b, k, ex, ey, g1, g2, g3, g4, q3⟩ => ?_) hs
  subst ex ey
  obtain rfl : u = Value.ref a := rx
  obtain rfl : iv = Value.ref b := ry
  exact n_setItem hu I3 g1 g2 g3 g4 rv fun s4 I4 => ⟨σ, _, I4, q3⟩
/-- {}, to be such a dict -/
def tNNew (w : World) : TE := fun _ H Q => ∀ p, H p = none → Q (.ref p) (upd H p (nkO w p []))
theorem pe_nnew : PE X (.Dict [] [] pos) (tNNew X.w) := ⟨fun pins s σ H Q I h =>
  wpAny_Dict_empty ⟨.ref s.heap.objs.size, _, I.laid (a := s.heap.objs.size) (o := nkO X.w s.heap.objs.size []) (t' := s.toks) (fun _ _ q => Heap.get?_push_of_some _ q) (Nat.le_refl _)
    (nk_mk (P := X.prog) (vs := []) (Nat.zero_le _) (beq_eq_false_iff_ne.mpr (Ne.symm (Nat.ne_of_lt I.big))) .nil ⟨_, #[], 0, Heap.get?_push_size _ rfl, ⟨rfl, rfl, rfl⟩, rfl, rfl, (fun x hx => by cases hx), List.nodup_nil⟩), rfl, h _ (I.hok.fresh (Nat.le_refl _))⟩⟩
end
end L2.M
namespace L2.M
open PySem PySem.Spec PyProof.Rows
def okKey : D → Option NestedKey
  | .tuple ds => (nKey (.tuple ds)).bind fun n => if n.depth ≤ 8 then some n else none
  | _ => none
def idxN (ks : List D) (key : NestedKey) : Option Nat := ks.findIdx? fun k => decide (nKey k = some key)
def nKs : C → Option (List D)
  | .ob (.dn ks) _ => some ks
  | .fd kds => some (kds.map (·.1))
  | _ => none
def nVl : C → Nat → Option D
  | .ob (.dn _) cs, j => match cs[j]? with
    | some (.sh d) => some d
    | _ => none
  | .fd kds, j => (kds[j]?).map (·.2)
  | _, _ => none
section
variable {K : Ek} {F R H : Hp} {σ : St} {ε : Cs} {T : Tms} {i : Nat} {c : C} {ks : List D} {bs : List NEnt} {vs : List V} {key : NestedKey}
theorem KeysN.len : ∀ {ks : List D} {bs : List NEnt}, KeysN K.1 F bs ks → bs.length = ks.length
  | [], bs, h => by cases (show bs = [] from h); rfl
  | k :: ks, bs, ⟨b, r, h1, _, _, _, h5⟩ => by rw [h1, List.length_cons, List.length_cons, KeysN.len h5]
theorem KeysN.nk {P : Program} {w : World} (fs : Same F H) : ∀ {ks : List D} {bs : List NEnt}, KeysN K.1 F bs ks → NkKeys P w H bs
  | [], bs, h => by
    cases (show bs = [] from h)
    intro b hb
    cases hb
  | k :: ks, bs, ⟨b, r, h1, h2, h3, h4, h5⟩ => by
    subst h1
    intro b' hb
    rcases List.mem_cons.mp hb with rfl | hb
    · exact ⟨⟨_, rfl⟩, h3, fun h ok u q => nk_is fs ok k _ _ u h2 h4 q⟩
    · exact KeysN.nk fs h5 b' hb
theorem KeysN.idx (key : NestedKey) : ∀ {ks : List D} {bs : List NEnt}, KeysN K.1 F bs ks → (bs.findIdx? fun b => decide (b.1 = key)) = idxN ks key
  | [], bs, h => by
    cases (show bs = [] from h)
    rfl
  | k :: ks, bs, ⟨b, r, h1, h2, h3, h4, h5⟩ => by
    subst h1
    have ih := KeysN.idx key h5
    unfold idxN at ih ⊢
    rw [List.findIdx?_cons, List.findIdx?_cons, ih, h2]
    have e : decide (b.1 = key) = decide (some b.1 = some key) := by
      by_cases c : b.1 = key
      · simp [c]
      · simp [c]
    rw [e]
theorem KeysN.app {b : NEnt} {k : D} (h1 : nKey k = some b.1) (h2 : b.1.depth ≤ 8) (h3 : Rep K.1 F (.ref b.2) k) : ∀ {ks : List D} {bs : List NEnt}, KeysN K.1 F bs ks → KeysN K.1 F (bs ++ [b]) (ks ++ [k])
  | [], bs, h => by
    cases (show bs = [] from h)
    exact ⟨b, [], rfl, h1, h2, h3, rfl⟩
  | k' :: ks, bs, ⟨b', r, g1, g2, g3, g4, g5⟩ => by
    subst g1
    exact ⟨b', r ++ [b], rfl, g2, g3, g4, KeysN.app h1 h2 h3 g5⟩
theorem lk_zip {key : NestedKey} : ∀ {bs : List NEnt} {vs : List V}, bs.length = vs.length → lkN (bs.zip vs) key = (bs.findIdx? fun b => decide (b.1 = key)).bind fun j => vs[j]?
  | [], [], _ => rfl
  | [], _ :: _, h => by cases h
  | _ :: _, [], h => by cases h
  | b :: bs, v :: vs, h => by
    have ih := lk_zip (key := key) (bs := bs) (vs := vs) (by simpa using h)
    rw [List.findIdx?_cons]
    by_cases c : b.1 = key
    · simp [lkN, c]
    · rw [if_neg (by simpa using c)]
      have e : lkN ((b :: bs).zip (v :: vs)) key = lkN (bs.zip vs) key := by simp [lkN, c]
      rw [e, ih, Option.bind_map]
      rfl
theorem nVl_ob {ks : List D} {cs : List C} {j : Nat} {d : D} (h : nVl (.ob (.dn ks) cs) j = some d) : cs[j]? = some (.sh d) := by
  have h : (match cs[j]? with
    | some (.sh d) => some d
    | _ => none) = some d := h
  split at h
  · rename_i d' hc
    cases h
    exact hc
  · cases h
theorem Sep.nview (s : Sep K F R H σ ε T) (h : ε[i]? = some c) (hk : nKs c = some ks) : ∃ a bs vs, σ[i]? = some (some (.ref a)) ∧ NkAt K.2 H a (bs.zip vs) ∧ bs.length = vs.length ∧ KeysN K.1 F bs ks ∧ ∀ j d, nVl c j = some d → ∃ v, vs[j]? = some v ∧ Rep K.1 F v d := by
  obtain ⟨o, f, e1, h1⟩ := s.cell h
  match c, hk, h1 with
  | .ob (.dn ks') cs, hk, h1 =>
    cases hk
    obtain ⟨a, vs, fs, rfl, e2, ⟨bs, g1, g2, g3, _⟩, h4⟩ := h1
    refine ⟨a, bs, vs, e1, .inl g1, g2, g3, fun j d hd => ?_⟩
    have hc : cs[j]? = some (.sh d) := nVl_ob hd
    obtain ⟨o', f', k1, k2, _, v, rfl, r⟩ := h4.get hc
    rw [List.getElem?_map] at k1
    obtain ⟨v', hv, e⟩ := Option.map_eq_some_iff.mp k1
    injection e with e
    subst e
    exact ⟨_, hv, r⟩
  | .fd kds, hk, h1 =>
    cases hk
    obtain ⟨_, a, rfl, od, bs, vs, g1, g2, g3, g4⟩ := h1
    refine ⟨a, bs, vs, e1, .inr ⟨od, s.sub _ _ g1⟩, g2, g3, fun j d hd => ?_⟩
    have hd : (kds.map (·.2))[j]? = some d := by rw [List.getElem?_map]; exact hd
    exact g4.get hd
theorem nlk (hl : bs.length = vs.length) (hk : KeysN K.1 F bs ks) (key : NestedKey) : lkN (bs.zip vs) key = (idxN ks key).bind fun j => vs[j]? := by
  rw [lk_zip hl, hk.idx]
theorem nlk_some (hl : bs.length = vs.length) (hk : KeysN K.1 F bs ks) (key : NestedKey) : (lkN (bs.zip vs) key).isSome = (idxN ks key).isSome := by
  rw [nlk hl hk]
  cases e : idxN ks key with
  | none => rfl
  | some j =>
    unfold idxN at e
    have hj := (List.findIdx?_eq_some_iff_findIdx_eq.mp e).1
    have : j < vs.length := by rw [← hl, hk.len]; exact hj
    simp [this]
theorem okKey_rep {P : Program} {w : World} {d : D} {v : V} (fs : Same F H) (h : okKey d = some key) (r : RepB K.1 F H v d) : NkKey P w H v key ∧ Rep K.1 F v d ∧ nKey d = some key ∧ key.depth ≤ 8 := by
  unfold okKey at h
  split at h
  · rename_i ds
    cases e : nKey (.tuple ds) with
    | none => simp [e] at h
    | some n =>
      simp only [e, Option.bind_some] at h
      split at h
      · rename_i hn
        cases h
        have rr : Rep K.1 F v (.tuple ds) := by
          rcases r with r | ⟨a, ws, ds', _, hq, _⟩
          · exact r
          · cases hq
        exact ⟨⟨nk_ref rr, hn, fun h ok u q => nk_is fs ok _ _ _ u e rr q⟩, rr, rfl, hn⟩
      · cases h
  · cases h
end
def mNNew : EM := fun ε => some (.ob (.dn []) [], ε)
def mNIn (n : Bool) (i : Nat) (m : OM) : EM := fun ε => do
  let (o, ε1) ← m ε
  let k ← bor ε1 o
  let key ← okKey k
  let c ← ε1[i]?
  let ks ← nKs c
  some (.sh (.bool (if n then !(idxN ks key).isSome else (idxN ks key).isSome)), ε1)
def mNGet (i : Nat) (m : OM) : EM := fun ε => do
  let c0 ← ε[i]?
  let _ ← nKs c0
  let (o, ε1) ← m ε
  let k ← bor ε1 o
  let key ← okKey k
  let c ← ε1[i]?
  let ks ← nKs c
  let j ← idxN ks key
  let d ← nVl c j
  some (.sh d, ε1)
/-- d[k] = e -/
def mNPut (i : Nat) (m : EM) (ix : OM) : XM := fun ε => do
  let (c, ε1) ← m ε
  match ε1[i]? with
  | some (.ob (.dn _) _) => do
    let (p, ε2) ← ix ε1
    let k ← bor ε2 p
    let key ← okKey k
    match ε2[i]? with
      | some (.ob (.dn ks) cs) => if cs.length < sizeLine then some (.nx, ε2.set i (match idxN ks key with
          | some j => .ob (.dn ks) (cs.set j c)
          | none => .ob (.dn (ks ++ [k])) (cs ++ [c]))) else none
      | _ => none
  | _ => none
section
variable {X : Cx} {W : Xw} {io : List Nat} {e kx : Expr} {y : Str} {p p2 pos : Pos} {m : OM} {i k : Nat}
theorem nkey {K : Ek} {P : Program} {w : World} {σ : St} {H : Hp} {m : OM} {ε ε1 : Cs} {o : Opd} {F R : Hp} {kd : D} {key : NestedKey} {Q : V → Hp → Prop} (s : Sep K F R H σ ε []) (e1 : m ε = some (o, ε1)) (e2 : bor ε1 o = some kd) (e3 : okKey kd = some key)
    (h : ∀ F1 H1 v, Same F F1 → Sep K F1 R H1 σ ε1 [] → NkKey P w H1 v key → Q v H1) : tO K m σ H Q := by
  refine ⟨F, R, ε, o, ε1, s, e1, fun v F1 H1 fm v1 s1 => ?_⟩
  rw [← List.append_nil (tmO [o] [v])] at s1
  have rb := (bors_ok s1 v1 (by simp [bors, e2] : bors ε1 [o] = some [kd])).inj1
  have s2 := s1.drops _
  exact h F1 H1 v fm s2 (okKey_rep s2.sub e3 rb).1
theorem nin_core {K : Ek} {P : Program} {σ : St} {H : Hp} {Q : VK} {n : Bool} (h : tE K (mNIn n i m) σ H Q) : tO K m σ H fun y H1 => tVar i σ H1 fun x H2 => ∃ a o, x = .ref a ∧ NGet P K.2 H2 a y o ∧ Q (.bl (if n then !o.isSome else o.isSome)) H2 := by
  obtain ⟨F, R, ε, c, ε', s, e, q⟩ := h
  unfold mNIn at e
  cases e1 : m ε with
  | none => simp [e1] at e
  | some p =>
    obtain ⟨o, ε1⟩ := p
    cases e2 : bor ε1 o with
    | none => simp [e1, e2] at e
    | some kd =>
      cases e3 : okKey kd with
      | none => simp [e1, e2, e3] at e
      | some key =>
        cases e4 : ε1[i]? with
        | none => simp [e1, e2, e3, e4] at e
        | some c1 =>
          cases e5 : nKs c1 with
          | none => simp [e1, e2, e3, e4, e5] at e
          | some ks =>
            simp only [e1, e2, e3, e4, e5, Option.bind_eq_bind, Option.bind_some] at e
            cases e
            refine nkey (P := P) (w := K.2) s e1 e2 e3 fun F1 H1 v fm s2 nk => ?_
            obtain ⟨a, bs, vs, g1, g2, g3, g4, _⟩ := s2.nview e4 e5
            refine ⟨_, g1, a, lkN (bs.zip vs) key, rfl, ⟨_, key, g2, ?_, nk, rfl⟩, ?_⟩
            · rw [List.map_fst_zip (by omega)]
              exact g4.nk s2.sub
            · rw [nlk_some g3 g4]
              exact q _ F1 H1 fm (s2.addSh rfl)
theorem y_nnin (hr : Room k X.A) (hv : PE X (.Name y p) (tVar i)) (he : PE X e (tO X.E m)) (hm : behindInMarks .NotIn (.Name y p) = false := by rfl) : PT X (.Compare e [.NotIn] [.Name y p] pos) (tT X.E (mTst (mNIn true i m))) :=
  (pt_cmp (pc_nnin (by have := hr.un; omega) he hv) hm).weak fun σ H Q h => nin_core (tE_tst h)
theorem x_nget (hr : Room k X.A) (hv : PE X (.Name y p) (tVar i)) (he : PE X kx (tO X.E m)) (hs : NoSl kx := by exact fun _ _ => rfl) : PE X (.Subscript (.Name y p) kx pos) (tE X.E (mNGet i m)) :=
  (pe_nget (by have := hr.un; omega) hv he hs).weak fun σ H Q h => by
    obtain ⟨F, R, ε, c, ε', s, e, q⟩ := h
    unfold mNGet at e
    cases e0 : ε[i]? with
    | none => simp [e0] at e
    | some c0 =>
      cases e00 : nKs c0 with
      | none => simp [e0, e00] at e
      | some ks0 =>
        cases e1 : m ε with
        | none => simp [e0, e00, e1] at e
        | some p =>
          obtain ⟨o, ε1⟩ := p
          cases e2 : bor ε1 o with
          | none => simp [e0, e00, e1, e2] at e
          | some kd =>
            cases e3 : okKey kd with
            | none => simp [e0, e00, e1, e2, e3] at e
            | some key =>
              cases e4 : ε1[i]? with
              | none => simp [e0, e00, e1, e2, e3, e4] at e
              | some c1 =>
                cases e5 : nKs c1 with
                | none => simp [e0, e00, e1, e2, e3, e4, e5] at e
                | some ks =>
                  cases e6 : idxN ks key with
                  | none => simp [e0, e00, e1, e2, e3, e4, e5, e6] at e
                  | some j =>
                    cases e7 : nVl c1 j with
                    | none => simp [e0, e00, e1, e2, e3, e4, e5, e6, e7] at e
                    | some d =>
                      simp only [e0, e00, e1, e2, e3, e4, e5, e6, e7, Option.bind_eq_bind, Option.bind_some] at e
                      cases e
                      obtain ⟨a0, _, _, hw, _⟩ := s.nview e0 e00
                      refine ⟨_, hw, nkey (P := X.prog) (w := X.w) s e1 e2 e3 fun F1 H1 v fm s2 nk => ?_⟩
                      obtain ⟨a, bs, vs, g1, g2, g3, g4, g5⟩ := s2.nview e4 e5
                      rw [hw] at g1
                      cases g1
                      obtain ⟨v', hv', r⟩ := g5 j d e7
                      refine ⟨_, v', rfl, ⟨_, key, g2, ?_, nk, ?_⟩, q _ F1 H1 fm (s2.addSh r)⟩
                      · rw [List.map_fst_zip (by omega)]
                        exact g4.nk s2.sub
                      · rw [nlk g3 g4, e6]
                        exact hv'.symm
theorem x_nnew : PE X (.Dict [] [] pos) (tE X.E mNNew) := pe_nnew.weak fun σ H Q h => by
  obtain ⟨F, R, ε, c, ε', s, e, q⟩ := h
  cases e
  intro p hp
  refine q _ _ _ (Same.refl F) ?_
  exact Sep.change (T1 := []) s fun gs h n _ => ⟨[p], ⟨p, [], [], rfl, rfl, ⟨[], upd_same, rfl, rfl, List.nodup_nil⟩, rfl, rfl⟩, by simp, fun b hb => .inr (by rw [List.mem_singleton.mp hb]; exact hp), fun b u _ e => by rw [upd_ne (ne_of_none e hp)]; exact e⟩
theorem pt_zip {key : NestedKey} {b : Addr} {v : V} {bs : List NEnt} {vs : List V} (hl : bs.length = vs.length) (nd : (bs.map (·.1)).Nodup) :
    (∀ j, (bs.findIdx? fun b => decide (b.1 = key)) = some j → ptN (bs.zip vs) (key, b) v = bs.zip (vs.set j v)) ∧ ((bs.findIdx? fun b => decide (b.1 = key)) = none → ptN (bs.zip vs) (key, b) v = (bs ++ [(key, b)]).zip (vs ++ [v])) := by
  refine ⟨fun j hj => ?_, fun hj => ?_⟩
  · have e1 : (lkN (bs.zip vs) key).isSome = true := by
      rw [lk_zip hl, hj]
      have := (List.findIdx?_eq_some_iff_findIdx_eq.mp hj).1
      have : j < vs.length := by omega
      simp [this]
    unfold ptN
    rw [if_pos e1]
    clear e1
    induction bs generalizing vs j with
    | nil => cases hj
    | cons c bs ih =>
      cases vs with
      | nil => cases hl
      | cons u vs =>
        rw [List.map_cons, List.nodup_cons] at nd
        rw [List.findIdx?_cons] at hj
        rw [List.zip_cons_cons, List.map_cons]
        by_cases hc : c.1 = key
        · rw [if_pos (by simpa using hc)] at hj
          cases hj
          rw [if_pos hc, List.set_cons_zero, List.zip_cons_cons]
          refine congrArg _ ?_
          conv => rhs; rw [← List.map_id (bs.zip vs)]
          refine List.map_congr_left fun x hx => ?_
          have hx : x.1 ∈ bs := (List.of_mem_zip hx).1
          rw [if_neg fun z => nd.1 (by have z : x.1.1 = key := z; rw [hc, ← z]; exact List.mem_map_of_mem hx)]
          rfl
        · rw [if_neg (by simpa using hc)] at hj
          obtain ⟨j', hj', rfl⟩ := Option.map_eq_some_iff.mp hj
          rw [if_neg hc, List.set_cons_succ, List.zip_cons_cons]
          exact congrArg _ (ih (by simpa using hl) nd.2 j' hj')
  · have e1 : (lkN (bs.zip vs) key).isSome = false := by
      rw [lk_zip hl, hj]
      rfl
    unfold ptN
    rw [if_neg (by rw [e1]; simp), List.zip_append hl]
    rfl
theorem z_nput (hr : Room k X.A) (i : Nat) {m : EM} {ix : OM} (hv : PE X (.Name y p) (tVar i)) (he : PE X e (tE X.E m)) (hk : PE X kx (tO X.E ix)) (hs : swapsWith e (some (.Subscript (.Name y p) kx p2)) pos.line X.env = pure false := by rfl) :
    PS X (.Assign [.Subscript (.Name y p) kx p2] e pos) (tS X.E W io (mNPut i m ix)) :=
  (ps_nput (by have := hr.un; omega) hv hk he hs).weak fun De σ H h => by
    obtain ⟨F, R, ε, f, ε', s, e, q⟩ := h
    unfold mNPut at e
    cases e1 : m ε with
    | none => simp [e1] at e
    | some p =>
      obtain ⟨c, ε1⟩ := p
      simp only [e1, Option.bind_eq_bind, Option.bind_some] at e
      split at e
      · rename_i ks0 cs0 hx0
        cases e2 : ix ε1 with
        | none => simp [e2] at e
        | some p2 =>
          obtain ⟨o, ε2⟩ := p2
          cases e3 : bor ε2 o with
          | none => simp [e2, e3] at e
          | some kd =>
            cases e4 : okKey kd with
            | none => simp [e2, e3, e4] at e
            | some key =>
              simp only [e2, e3, e4, Option.bind_some] at e
              split at e
              · rename_i ks cs hx
                split at e
                · rename_i hl
                  cases e
                  refine ⟨F, R, ε, c, ε1, s, e1, fun v F1 H1 fm1 p1 => ?_⟩
                  obtain ⟨w, hw⟩ := p1.val hx0 fun z => nomatch z
                  obtain ⟨R1, _, p2, bk⟩ := p1.hide
                  refine ⟨w, hw, F1, R1, ε1, o, ε2, p2, e2, fun kv F3 H3 fm3 v3 s3 => ?_⟩
                  rw [← List.append_nil (tmO [o] [kv])] at s3
                  have rb := (bors_ok s3 v3 (by simp [bors, e3] : bors ε2 [o] = some [kd])).inj1
                  have s4 := bk F3 H3 σ ε2 [] fm3 (s3.drops _)
                  obtain ⟨nk, rk, n1, n2⟩ := okKey_rep (P := X.prog) (w := X.w) s4.sub e4 rb
                  obtain ⟨⟨b, rfl⟩, _, _⟩ := id nk
                  have key2 : ∀ kd', ∃ a vs, σ[i]? = some (some (.ref a)) ∧ ObAt X.E F3 H3 a vs (.dn ks) ∧ vs.length = cs.length ∧ ∀ o us ds, (∀ gg f, RpCs X.E F3 H3 (vs.map some) cs gg → RpC X.E F3 H3 (some v) c f → (gg.flatten ++ f).Nodup → ∃ g2, RpCs X.E F3 H3 (us.map some) ds g2 ∧ g2.flatten.Nodup ∧ ∀ b ∈ g2.flatten, b ∈ gg.flatten ++ f) →
                      ObAt X.E F3 (upd H3 a o) a us kd' → Sep X.E F3 R (upd H3 a o) σ (ε2.set i (.ob kd' ds)) [] := fun kd' => s4.part (kd' := kd') hx
                  have z1 : ∀ (vs : List V) (ds : List C) (us : List V) (o : HO) (a : Addr), True := fun _ _ _ _ _ => trivial
                  cases e6 : idxN ks key with
                  | some j =>
                    obtain ⟨a, vs, g1, ⟨bs, g2, g3, g4, g5⟩, g6, k1⟩ := key2 (.dn ks)
                    rw [hw] at g1
                    cases g1
                    have hz : (bs.zip vs).length < sizeLine := by rw [List.length_zip]; omega
                    refine ⟨a, bs.zip vs, b, key, rfl, rfl, g2, ?_, nk, hz, ?_⟩
                    · rw [List.map_fst_zip (by omega)]
                      exact g4.nk s4.sub
                    · have pz := (pt_zip (key := key) (b := b) (v := v) g3 g5).1 j (by rw [g4.idx, e6])
                      rw [pz]
                      refine q F3 _ σ (fm1.trans fm3) (StS.refl σ) ?_
                      simp only [e6]
                      exact k1 _ (vs.set j v) (cs.set j c) (fun gg f g r n => part_set g r n) ⟨bs, upd_same, by rw [List.length_set]; exact g3, g4, g5⟩
                  | none =>
                    obtain ⟨a, vs, g1, ⟨bs, g2, g3, g4, g5⟩, g6, k1⟩ := key2 (.dn (ks ++ [kd]))
                    rw [hw] at g1
                    cases g1
                    have hz : (bs.zip vs).length < sizeLine := by rw [List.length_zip]; omega
                    refine ⟨a, bs.zip vs, b, key, rfl, rfl, g2, ?_, nk, hz, ?_⟩
                    · rw [List.map_fst_zip (by omega)]
                      exact g4.nk s4.sub
                    · have hj : (bs.findIdx? fun b => decide (b.1 = key)) = none := by rw [g4.idx, e6]
                      have pz := (pt_zip (key := key) (b := b) (v := v) g3 g5).2 hj
                      rw [pz]
                      refine q F3 _ σ (fm1.trans fm3) (StS.refl σ) ?_
                      simp only [e6]
                      refine k1 _ (vs ++ [v]) (cs ++ [c]) (fun gg f g r n => part_add g r n) ⟨bs ++ [(key, b)], upd_same, by simp [g3], g4.app n1 n2 rk, ?_⟩
                      rw [List.map_append, List.nodup_append]
                      refine ⟨g5, by simp, fun x hx y hy z => ?_⟩
                      rw [List.mem_singleton.mp hy] at z
                      obtain ⟨b', hb', rfl⟩ := List.mem_map.mp hx
                      rw [List.findIdx?_eq_none_iff] at hj
                      have := hj b' hb'
                      simp at this
                      exact this z
                · cases e
              · cases e
      · cases e
end
end L2.M
namespace L2.M
open PySem PySem.Spec PyProof.Rows
def Itn (a : Addr) (o : Obj) (u : HO) (xs : NX) : It :=
  ⟨fun i H => H a = some (.frz o u) ∧ i < xs.length, fun i H x H' => H' = H ∧ ∃ b v, xs[i]? = some (b, v) ∧ x = .ref b.2, fun i H => H a = some (.frz o u) ∧ xs.length ≤ i⟩
section
variable {X : Cx} {pins : List (Addr × Obj)} {σ : L2.St} {H : Hp} {s : Shared} {a : Addr} {o : Obj} {xs : NX}
theorem nkr_get : ∀ {xs : NX} {vs : List (NEnt × Value)} {i : Nat} {x : NEnt × V}, Paired nkR xs vs → xs[i]? = some x → ∃ y, vs[i]? = some y ∧ nkR x y
  | _, _, i, _, .nil, e => by simp at e
  | _, _, 0, _, .cons q r, e => by
    simp at e
    subst e
    exact ⟨_, rfl, q⟩
  | _, _, i + 1, x, .cons q r, e => by
    obtain ⟨y, h1, h2⟩ := nkr_get (i := i) r (by simpa using e)
    exact ⟨y, by simpa using h1, h2⟩
theorem nk_ents (I : Inv X pins σ H s) (g : NkAt X.w H a xs) : (a == sysModules) = false ∧ ∃ (o : Obj) (es : Array DictEntry) (ep : Nat), s.heap.get? a = some o ∧ o.ExactDict ∧ o.data = .dict es ep ∧ es.size = xs.length ∧ xs.length ≤ sizeLine ∧
    ∀ (i : Nat) (b : NEnt) (v : V), xs[i]? = some (b, v) → ∃ en : DictEntry, es[i]? = some en ∧ en.key = .ref b.2 ∧ RelV v en.val := by
  obtain ⟨z, hd, vs, pr, o, es, ep, h1, h2, h3, h4, h5⟩ := nk_of I.hok g
  have l1 : es.size = vs.length := by
    have := congrArg List.length h4
    rw [List.length_map, Array.length_toList] at this
    exact this
  refine ⟨hd, o, es, ep, h1, h2, h3, by rw [l1]; exact (Paired.length pr).symm, z, fun i b v e => ?_⟩
  obtain ⟨y, hy, q1, q2⟩ := nkr_get pr e
  refine ⟨nkE X.w y, ?_, ?_, q2⟩
  · rw [← Array.getElem?_toList, h4, List.getElem?_map, hy]
    rfl
  · show Value.ref y.1.2 = _
    rw [← q1]
theorem nk_frz (I : Inv X pins σ H s) (g : H a = some (.frz o (nkO X.w a xs))) : (a == sysModules) = false ∧ s.heap.get? a = some o ∧ o.ExactDict ∧ ∃ (es : Array DictEntry) (ep : Nat), o.data = .dict es ep ∧ es.size = xs.length ∧
    ∀ (i : Nat) (b : NEnt) (v : V), xs[i]? = some (b, v) → ∃ en : DictEntry, es[i]? = some en ∧ en.key = .ref b.2 ∧ RelV v en.val := by
  obtain ⟨hd, o', es, ep, h1, h2, h3, h4, _, h5⟩ := nk_ents I (.inr ⟨o, g⟩)
  have h0 : s.heap.get? a = some o := (I.hok a _ g).1
  rw [h0] at h1
  cases h1
  exact ⟨hd, h0, h2, es, ep, h3, h4, h5⟩
end
theorem turn_keysN {P : Program} {w : World} {K : PySem.W.Frag} {tg : Expr} {d : Addr} {o : Obj} {es : Array DictEntry} {ep : Nat} {xs : NX} (it : Addr) (hod : o.data = .dict es ep) : Turn P w K tg (Itn d o (nkO w d xs) xs) [it] it (fun i h => h.IsKeyIter it d i xs.length ep) where
  mem := by simp
  obj := fun i h st b hb => by
    have e : b = it := by simpa using hb
    subst e
    obtain ⟨oi, e, c, dd⟩ := st
    exact ⟨oi, e, fun v z => by rw [dd] at z; cases z⟩
  keep := fun i h h' st k => st.at fun oi e => k it (by simp) oi e
  item := by
    intro X hP hw hK hc i pins s σ H E I hf st hg
    subst hP hw hK
    obtain ⟨hd, hi⟩ := hg
    obtain ⟨f0, f1, f2, f3, f4, f5⟩ := hf it (by simp)
    obtain ⟨hs, hgd, hx, es', ep', hdt, hsz, ent⟩ := nk_frz I hd
    obtain ⟨rfl, rfl⟩ := dict_ep hod hdt
    obtain ⟨⟨k, v⟩, hkv⟩ : ∃ p, xs[i]? = some p := ⟨xs[i], List.getElem?_eq_getElem hi⟩
    obtain ⟨en, hen, hkey, hq⟩ := ent i k v hkv
    refine next_key_item st hgd hdt hsz hen fun h' st' sb => ?_
    have I1 : Inv X pins σ H { s with heap := h' } := I.turned (t' := s.toks) (fun b ob hb e => (sb.2 b hb).trans e) f0 f1 f3 f4 f5
    obtain ⟨oi, e, c, dd⟩ := id st'
    exact ⟨en.key, rfl, go_of (s := { s with heap := h' }) e c dd (by decide) ⟨.ref k.2, H, I1, hkey, ⟨rfl, k, v, hkv, rfl⟩, st', fun b hb => (hf b hb).1⟩⟩
  done := by
    intro X hP hw hK hc i pins s σ H E I hf st hg
    subst hP hw hK
    obtain ⟨hd, hi⟩ := hg
    obtain ⟨f0, f1, f2, f3, f4, f5⟩ := hf it (by simp)
    obtain ⟨hs, hgd, hx, es', ep', hdt, hsz, ent⟩ := nk_frz I hd
    obtain ⟨rfl, rfl⟩ := dict_ep hod hdt
    exact next_key_end (I.ok.hd hc) st hgd hdt hsz hi fun h' eb => ⟨rfl, I.turned (t' := s.toks) (fun b ob hb e => eb b ob hb e) f0 f1 f3 f4 f5⟩
  self := fun A i s Q E st h => wpAny_pyIter_keyiter st h
def iKeysN (w : World) (td : TE) : TI := fun σ H R => td σ H fun x H1 => ∃ d xs, x = .ref d ∧ ((∃ o, H1 d = some (.frz o (nkO w d xs)) ∧ R (Itn d o (nkO w d xs) xs) H1) ∨ (H1 d = some (nkO w d xs) ∧ ∀ o, R (Itn d o (nkO w d xs) xs) (upd H1 d (.frz o (nkO w d xs)))))
theorem pi_keysN {X : Cx} {tg e : Expr} {td : TE} (he : PE X e td) : PI X tg e (iKeysN X.w td) := by
  refine ⟨fun pins s σ H R I h => ?_⟩
  refine thn (he.run pins s σ H _ I h) fun u s1 ⟨x, H1, I1, rx, d, xs, ex, q⟩ => ?_
  subst ex
  obtain rfl : u = Value.ref d := rx
  obtain ⟨H2, I2, o, hd, q⟩ : ∃ H2, Inv X pins σ H2 s1 ∧ ∃ o, H2 d = some (.frz o (nkO X.w d xs)) ∧ R (Itn d o (nkO X.w d xs) xs) H2 := by
    rcases q with ⟨o, hd, q⟩ | ⟨hd, q⟩
    · exact ⟨H1, I1, o, hd, q⟩
    · obtain ⟨o, I2⟩ := I1.lock hd True.intro
      exact ⟨_, I2, o, upd_same, q o⟩
  obtain ⟨hs, hgd, hx, es, ep, hdt, hsz, ent⟩ := nk_frz I2 hd
  refine iter_keys hs hgd hx hdt (pi_one (tk := s1.toks) I2 _ (turn_keysN _ hdt) ⟨_, Heap.get?_push_size _ rfl, rfl, ?_⟩ q)
  rw [hsz] <;> rfl
/-- own things as data -/
def cF : C → Option D
  | .sh d => some d
  | .ls ds => some (.list ds)
  | .dc 0 kds => some (.dict kds)
  | _ => none
def cFs : List C → Option (List D)
  | [] => some []
  | c :: cs => match cF c, cFs cs with
    | some d, some ds => some (d :: ds)
    | _, _ => none
section
variable {K : Ek} {F F' R H : Hp} {σ : L2.St} {ε : Cs} {T : Tms} {i : Nat}
theorem cF_rep (fm : Same F F') {c : C} {d : D} {v : V} {f : List Addr} (h : RpC K F H (some v) c f) (e : cF c = some d) (hf : ∀ b ∈ f, F' b = H b) : Rep K.1 F' v d := by
  cases c with
  | no => cases e
  | sh d' =>
    cases e
    obtain ⟨_, w, hw, r⟩ := h
    cases hw
    exact r.mono fm
  | ls ds =>
    cases e
    obtain ⟨a, vs, hw, h1, h2, h3⟩ := h
    cases hw
    exact ⟨a, vs, rfl, .inl (.inl ((hf a (by rw [h1]; exact List.mem_cons_self)).trans h2)), Reps.mono fm _ _ h3⟩
  | dc k kds =>
    cases k with
    | zero =>
      cases e
      obtain ⟨a, hw, h1, kvs, h2, h3⟩ := h
      cases hw
      exact ⟨a, kvs, rfl, (hf a (by rw [h1]; exact List.mem_cons_self)).trans h2, RepKs.mono fm _ _ h3⟩
    | succ k => cases e
  | ob _ _ => cases e
  | px _ _ _ _ => cases e
  | fn _ => cases e
  | fd _ => cases e
theorem cFs_reps (fm : Same F F') : ∀ {cs : List C} {ds : List D} {vs : List V} {gg : List (List Addr)}, RpCs K F H (vs.map some) cs gg → cFs cs = some ds → (∀ b ∈ gg.flatten, F' b = H b) → Reps K.1 F' vs ds
  | [], ds, vs, gg, h, e, _ => by
    cases e
    obtain ⟨h1, _⟩ := h
    cases vs with
    | nil => rfl
    | cons v vs => simp at h1
  | c :: cs, ds, vs, gg, h, e, hf => by
    obtain ⟨o, r, f, fr, e1, e2, h1, h2⟩ := h
    subst e2
    cases vs with
    | nil => simp at e1
    | cons v vs =>
      simp only [List.map_cons, List.cons.injEq] at e1
      obtain ⟨rfl, rfl⟩ := e1
      unfold cFs at e
      split at e
      · rename_i d es g1 g2
        cases e
        exact ⟨v, vs, rfl, cF_rep fm h1 g1 fun b hb => hf b (by rw [List.flatten_cons]; exact List.mem_append_left _ hb), cFs_reps fm h2 g2 fun b hb => hf b (by rw [List.flatten_cons]; exact List.mem_append_right _ hb)⟩
      · cases e
theorem cFs_len : ∀ {cs : List C} {ds : List D}, cFs cs = some ds → ds.length = cs.length
  | [], ds, e => by cases e; rfl
  | c :: cs, ds, e => by
    unfold cFs at e
    split at e
    · rename_i d es g1 g2
      cases e
      simp [cFs_len g2]
    · cases e
/-- a temporary of no own addresses, any -/
theorem Sep.addE {v : V} {c : C} (s : Sep K F R H σ ε T) (r : RpC K F H (some v) c []) : Sep K F R H σ ε ((v, c) :: T) := by
  obtain ⟨a1, a2, a3, ⟨fs, gs, h1, h2, n, m⟩⟩ := s
  exact ⟨a1, a2, a3, fs, [] :: gs, h1, ⟨_, _, _, _, rfl, rfl, r, h2⟩, by simpa using n, by simpa using m⟩
theorem Sep.lockN {ks : List D} {cs : List C} {ds : List D} (s : Sep K F R H σ ε T) (h : ε[i]? = some (.ob (.dn ks) cs)) (hd : cFs cs = some ds) : ∃ a bs vs, σ[i]? = some (some (.ref a)) ∧ H a = some (nkO K.2 a (bs.zip vs)) ∧ bs.length = vs.length ∧
    ∀ od, ∃ F', Same F F' ∧ FdAt K F' a (ks.zip ds) ∧ F' a = some (.frz od (nkO K.2 a (bs.zip vs))) ∧ KeysN K.1 F' bs ks ∧ Sep K F' R (upd H a (.frz od (nkO K.2 a (bs.zip vs)))) σ (ε.set i (.fd (ks.zip ds))) T := by
  obtain ⟨w, hv⟩ := s.val h fun z => nomatch z
  obtain ⟨a1, a2, a3, ⟨fs, gs, h1, ⟨o0, r, f, fr, e1, e2, h2, h3⟩, n, m⟩⟩ := s.take h hv
  obtain ⟨rfl, rfl⟩ := List.cons.inj e1
  subst e2
  obtain ⟨a, vs, gg, g1, g2, ⟨bs, k1, k2, k3, k4⟩, g4⟩ := h2
  cases g1
  refine ⟨a, bs, vs, hv, k1, k2, fun od => ?_⟩
  generalize hu : HO.frz od (nkO K.2 a (bs.zip vs)) = u
  let H' : Hp := upd H a u
  let F' : Hp := fun b => if b ∈ f then H' b else F b
  have i1 : ∀ {b}, b ∈ f → F' b = H' b := fun {b} hb => if_pos hb
  have i2 : ∀ {b}, b ∉ f → F' b = F b := fun {b} hb => if_neg hb
  have fin : ∀ b, b ∈ f → F b = none ∧ R b = none := fun b hb => m b (by simp [hb])
  have fm : Same F F' := fun b x e => by
    rw [i2 fun z => by rw [(fin b z).1] at e; cases e]; exact e
  rw [List.flatten_cons, List.nodup_append, List.nodup_append] at n
  obtain ⟨n1, ⟨n2, n4, n5⟩, n3⟩ := n
  have haf : a ∈ f := by rw [g2]; exact List.mem_cons_self
  have ha : F' a = some u := (i1 haf).trans upd_same
  have fr1 : ∀ b ∈ fs.flatten, H' b = H b := fun b hb => upd_ne fun z => n3 b hb b (List.mem_append_left _ (by rw [z]; exact haf)) rfl
  have fr2 : ∀ b ∈ fr.flatten, H' b = H b := fun b hb => upd_ne fun z => n5 b (by rw [z]; exact haf) b hb rfl
  have k3' : KeysN K.1 F' bs ks := k3.mono (K := K) fm
  have reps : Reps K.1 F' vs ds := cFs_reps fm g4 hd fun b hb => by
    have hb2 : b ∈ f := by rw [g2]; exact List.mem_cons_of_mem _ hb
    have ne : b ≠ a := fun z => by
      rw [g2, List.nodup_cons] at n2
      exact n2.1 (by rw [← z]; exact hb)
    rw [i1 hb2]
    exact upd_ne ne
  have lks : bs.length = ks.length := k3.len (K := K)
  have lds : ds.length = cs.length := cFs_len hd
  have lvs : vs.length = cs.length := by
    have := g4.len.1
    rwa [List.length_map] at this
  have fd : FdAt K F' a (ks.zip ds) := ⟨od, bs, vs, by rw [hu]; exact ha, k2, by rw [List.map_fst_zip (by omega)]; exact k3', by rw [List.map_snd_zip (by omega)]; exact reps⟩
  have s1 : Sep K F' R H' σ (ε.set i .no) T := by
    refine ⟨fun b x e => ?_, fun b x e => ?_, fun b hb => ?_, fs, fr, RpCs.frame fm fr1 h1, RpCs.frame fm fr2 h3, ?_, fun b hb => ?_⟩
    · by_cases q : b ∈ f
      · rw [i1 q] at e; exact e
      · rw [i2 q] at e
        show H' b = some x
        rw [show H' b = H b from upd_ne fun z => q (by rw [z]; exact haf)]
        exact a1 b x e
    · show H' b = some x
      rw [show H' b = H b from upd_ne fun z => by rw [z, (fin a haf).2] at e; cases e]
      exact a2 b x e
    · by_cases q : b ∈ f
      · exact (fin b q).2
      · rw [i2 q] at hb; exact a3 b hb
    · rw [List.nodup_append]
      exact ⟨n1, n4, fun x hx y hy => n3 x hx y (List.mem_append_right _ hy)⟩
    · have q : b ∉ f := fun z => by
        rcases List.mem_append.mp hb with hb | hb
        · exact n3 b hb b (List.mem_append_left _ z) rfl
        · exact n5 b z b hb rfl
      rw [i2 q]
      refine m b ?_
      simp only [List.flatten_cons, List.mem_append] at hb ⊢
      rcases hb with hb | hb
      · exact .inl hb
      · exact .inr (.inr hb)
  have s2 := (s1.addE (v := .ref a) (c := .fd (ks.zip ds)) ⟨rfl, a, rfl, fd⟩).put hv
  rw [List.set_set] at s2
  exact ⟨F', fm, fd, ha, k3', s2⟩
theorem KeysN.get {F : Hp} : ∀ {ks : List D} {bs : List NEnt} {i : Nat} {b : NEnt}, KeysN K.1 F bs ks → bs[i]? = some b → ∃ k, ks[i]? = some k ∧ Rep K.1 F (.ref b.2) k
  | [], bs, i, b, h, e => by
    cases (show bs = [] from h)
    simp at e
  | k :: ks, bs, 0, b, ⟨b', r, h1, _, _, h4, _⟩, e => by
    subst h1
    simp at e
    subst e
    exact ⟨k, rfl, h4⟩
  | k :: ks, bs, i + 1, b, ⟨b', r, h1, _, _, h4, h5⟩, e => by
    subst h1
    obtain ⟨k', q1, q2⟩ := KeysN.get (i := i) h5 (by simpa using e)
    exact ⟨k', by simpa using q1, q2⟩
theorem walkN {a : Addr} {o : Obj} {u : HO} {xs : NX} : Walk (Itn a o u xs) xs.length (fun H => H a = some (.frz o u)) (fun i H x H' => H' = H ∧ ∃ b v, xs[i]? = some (b, v) ∧ x = .ref b.2) :=
  ⟨fun i _ hi h => ⟨h, hi⟩, fun _ h => ⟨h, Nat.le_refl _⟩, fun _ _ _ _ _ _ y => y⟩
theorem src_keysN {a : Addr} {od : Obj} {bs : List NEnt} {vs : List V} {ks : List D} {ws : List Nat} {w : World} (hF : F a = some (.frz od (nkO w a (bs.zip vs)))) (hl : bs.length = vs.length) (hk : KeysN K.1 F bs ks) : Src K F R H σ ε (Itn a od (nkO w a (bs.zip vs)) (bs.zip vs)) ks ws := by
  have l1 : (bs.zip vs).length = ks.length := by
    have := hk.len (K := K)
    rw [List.length_zip]
    omega
  refine ⟨_, _, (show Walk (Itn a od (nkO w a (bs.zip vs)) (bs.zip vs)) ks.length _ _ by rw [← l1]; exact walkN), fun F2 H2 σ2 ε2 fm s2 _ => ⟨s2.sub _ _ (fm _ _ hF), fun i x H3 hi y => ?_⟩⟩
  obtain ⟨rfl, b, v, y1, rfl⟩ := y
  have y2 : bs[i]? = some b := by
    rw [List.getElem?_zip_eq_some] at y1
    exact y1.1
  obtain ⟨k, q1, q2⟩ := hk.get (K := K) y2
  exact ⟨F2, k, q1, q2.mono fm, Grw.refl s2.sub⟩
end
/-- the keys, walked: the dict is changed no more -/
def mNSrc (i : Nat) : SM := fun ε => match ε[i]? with
  | some (.fd kds) => some ((kds.map (·.1), []), ε)
  | some (.ob (.dn ks) cs) => (cFs cs).map fun ds => ((ks, []), ε.set i (.fd (ks.zip ds)))
  | _ => none
section
variable {X : Cx} {tg e : Expr} {y : Str} {p p2 pos : Pos} {i k : Nat}
theorem mi_nkeys (hv : PE X (.Name y p) (tVar i)) : PI X tg (.Name y p) (tI X.E (mNSrc i)) := (pi_keysN hv).weak fun σ H Q q => by
  obtain ⟨F, R, ε, ds, ws, ε', s, e, q⟩ := q
  unfold mNSrc at e
  split at e
  · rename_i kds hx
    cases e
    obtain ⟨o, f, e1, _, a, rfl, od, bs, vs, g1, g2, g3, g4⟩ := s.cell hx
    exact ⟨_, e1, a, _, rfl, .inl ⟨od, s.sub _ _ g1, q F R H _ (Same.refl F) s (fun _ _ _ _ _ _ z => z) (src_keysN g1 g2 g3)⟩⟩
  · rename_i ks cs hx
    cases hd : cFs cs with
    | none => simp [hd] at e
    | some ds2 =>
      simp only [hd, Option.map_some, Option.some.injEq, Prod.mk.injEq] at e
      obtain ⟨⟨rfl, rfl⟩, rfl⟩ := e
      obtain ⟨a, bs, vs, h1, h2, h3, k1⟩ := s.lockN hx hd
      refine ⟨_, h1, a, _, rfl, .inr ⟨h2, fun od => ?_⟩⟩
      obtain ⟨F', fm, fd, ha, hk, s2⟩ := k1 od
      exact q F' R _ _ fm s2 (fun _ _ _ _ _ _ z => z) (src_keysN ha h3 hk)
  · cases e
theorem vals_refs2 : ∀ (bs : List NEnt), Vals (bs.map fun b => V.ref b.2) (bs.map fun b => Value.ref b.2)
  | [] => .nil
  | _ :: r => .cons rfl (vals_refs2 r)
theorem call_list_N (hc : X.calm = true) : CallR X (.type "list") (fun xs H Q => ∃ d ys, xs = [V.ref d] ∧ NkAt X.w H d ys ∧ ∀ p, H p = none → Q (.ref p) (upd H p (.lst (ys.map fun x => V.ref x.1.2)))) := by
  intro pins s σ H xs us Q I r h
  obtain ⟨d, ys, rfl, hd, q⟩ := h
  obtain ⟨u, rfl, rx⟩ := r.one
  cases rx
  obtain ⟨hs, o, es, ep, ho, hx, hdt, hsz, z, ent⟩ := nk_ents I hd
  refine PySem.W.kdl_call (kdl_raw hs hx hdt) (I.ok.hd hc) ho (by omega) fun h' tk acc' c' kp e it => ?_
  have ea : acc'.toList = ys.map fun x => Value.ref x.1.2 := by
    have hl : acc'.toList.length = ys.length := by rw [Array.length_toList, it.1]; exact hsz
    apply List.ext_getElem?
    intro j
    rw [List.getElem?_map]
    cases hj : acc'.toList[j]? with
    | none =>
      have h1 := List.getElem?_eq_none_iff.mp hj
      rw [List.getElem?_eq_none (by omega)]
      all_goals rfl
    | some v =>
      obtain ⟨en, hen, hv⟩ := it.2 j v (by rw [← Array.getElem?_toList]; exact hj)
      have hlt : j < ys.length := by
        have := (Array.getElem?_eq_some_iff.mp hen).1
        omega
      obtain ⟨en', h1, h2, _⟩ := ent j ys[j].1 ys[j].2 (List.getElem?_eq_getElem hlt)
      rw [hen] at h1
      cases h1
      rw [List.getElem?_eq_getElem hlt, hv, h2]
      all_goals rfl
  have eb : acc'.toList = (ys.map (·.1)).map fun b => Value.ref b.2 := by rw [ea, List.map_map]; all_goals rfl
  have ec : (ys.map fun x => V.ref x.1.2) = (ys.map (·.1)).map fun b => V.ref b.2 := by rw [List.map_map]; rfl
  have rv : Vals (ys.map fun x => V.ref x.1.2) acc'.toList := by rw [eb, ec]; exact vals_refs2 _
  refine ⟨.ref s.heap.objs.size, _, I.laid (t' := tk) (o := .lst (ys.map fun x => V.ref x.1.2)) kp (Nat.le_refl _) ?_, rfl, q _ (I.hok.fresh (Nat.le_refl _))⟩
  exact ⟨by rw [List.length_map]; exact z, acc'.toList, c', rv, by rw [Array.toArray_toList]; exact e⟩
end
end L2.M
namespace L2.M
open PySem PySem.Spec PyProof.Rows
def mNList (i : Nat) : EM := fun ε => do
  let c ← ε[i]?
  let ks ← nKs c
  some (.ls ks, ε)
def shs : List C → Option (List D)
  | [] => some []
  | .sh d :: cs => (shs cs).map (d :: ·)
  | _ => none
def nVs : C → Option (List D)
  | .ob (.dn _) cs => shs cs
  | .fd kds => some (kds.map (·.2))
  | _ => none
def mNVals (i : Nat) : EM := fun ε => do
  let c ← ε[i]?
  let ds ← nVs c
  some (.ls ds, ε)
section
variable {K : Ek} {F R H : Hp} {σ : L2.St} {ε : Cs} {T : Tms} {i : Nat} {c : C} {ks ds : List D} {bs : List NEnt} {vs : List V}
theorem KeysN.reps : ∀ {ks : List D} {bs : List NEnt}, KeysN K.1 F bs ks → Reps K.1 F (bs.map fun b => V.ref b.2) ks
  | [], bs, h => by cases (show bs = [] from h); rfl
  | k :: ks, bs, ⟨b, r, h1, _, _, h4, h5⟩ => by
    subst h1
    exact ⟨_, _, rfl, h4, KeysN.reps h5⟩
end
section
variable {X : Cx} {W : Xw} {io : List Nat} {e kx vx : Expr} {y : Str} {p p2 pos apos cpos : Pos} {m : OM} {i k : Nat}
theorem x_nlist (hm : X.mg "list" = none) (hc : X.calm = true) (hg : Gl X "list") (hv : PE X (.Name y p) (tVar i)) (he : starEach [.Name y p] X.env = (false, eval (.Name y p) X.env) :: starEach [] X.env := by rfl) (hpl : (backTo pos (starEach [] X.env)).any (·.1) = false := by rfl) : PE X (.Call (.Name "list" p2) [.Name y p] [] pos) (tE X.E (mNList i)) :=
  (pe_callTy (call_list_N hc) hg hm boot_list (pa_cons hv pa_nil he) (by decide) (by decide) he hpl).weak fun σ H Q h => by
    obtain ⟨F, R, ε, c, ε', s, e, q⟩ := h
    unfold mNList at e
    cases e1 : ε[i]? with
    | none => simp [e1] at e
    | some c1 =>
      cases e2 : nKs c1 with
      | none => simp [e1, e2] at e
      | some ks =>
        simp only [e1, e2, Option.bind_eq_bind, Option.bind_some] at e
        cases e
        obtain ⟨a, bs, vs, h1, h2, h3, h4, _⟩ := s.nview e1 e2
        refine ⟨_, h1, a, _, rfl, h2, fun p hp => ?_⟩
        have ez : ((bs.zip vs).map fun x => V.ref x.1.2) = bs.map fun b => V.ref b.2 := by
          have := List.map_fst_zip (l₁ := bs) (l₂ := vs) (by omega)
          conv => rhs; rw [← this]
          rw [List.map_map]
          rfl
        rw [ez]
        exact q _ F _ (Same.refl F) (s.newL hp h4.reps)
def mN1 (mk mv : EM) : EM := fun ε => do
  let (ck, ε1) ← mk ε
  let kd ← cD ck
  let _ ← okKey kd
  let (cv, ε2) ← mv ε1
  some (.ob (.dn [kd]) [cv], ε2)
def tND1 (P : Program) (w : World) (tk tv : TE) : TE := fun σ H Q => ∀ p, H p = none → tk σ (upd H p (nkO w p [])) fun x H1 => tv σ H1 fun z H2 => ∃ b key, x = .ref b ∧ NkKey P w H2 (.ref b) key ∧ H2 p = some (nkO w p []) ∧ Q (.ref p) (upd H2 p (nkO w p [((key, b), z)]))
theorem pe_nd1 {tk tv : TE} (hu : X.A.units + 8 < cLine) (hk : PE X kx tk) (hv : PE X vx tv) : PE X (.Dict [some kx] [vx] pos) (tND1 X.prog X.w tk tv) := by
  refine ⟨fun pins s σ H Q I q => ?_⟩
  have hn := I.hok.fresh (Nat.le_refl s.heap.objs.size)
  have hsm : (s.heap.objs.size == sysModules) = false := beq_eq_false_iff_ne.mpr (Ne.symm (Nat.ne_of_lt I.big))
  have I1 := I.laid (a := s.heap.objs.size) (o := nkO X.w s.heap.objs.size []) (h' := s.heap.push { cls := .type "dict", data := .dict #[] }) (t' := s.toks) (fun _ _ q => Heap.get?_push_of_some _ q) (Nat.le_refl _)
    (nk_mk (P := X.prog) (vs := []) (Nat.zero_le _) hsm .nil ⟨_, #[], 0, Heap.get?_push_size _ rfl, ⟨rfl, rfl, rfl⟩, rfl, rfl, (fun x hx => by cases hx), List.nodup_nil⟩)
  have hshape : (evalEachOpt [some kx] X.env).zip ((evalEach [vx] X.env).map fun v => do let x ← v; standAt pos; pure x) = (pairTrees [some kx] [vx] X.env pos).map fun p => (some p.1, p.2) := by rfl
  have h0 : pairTrees [some kx] [vx] X.env pos ≠ [] := fun z => nomatch z
  have hlen : (pairTrees [some kx] [vx] X.env pos).length ≤ 15 := by show 1 ≤ 15; omega
  rw [arm_eval_Dict, hshape, dictDisplay_pairs _ h0 (by omega)]
  refine wpAny_bind (wpAny_standAt (wpAny_bind (wpAny_subDictH (knd := nestedKind X.prog X.w) (Q := fun d s' => wpAny (model X.prog X.w) X.A (pure (Value.ref d)) (EP X pins σ Q) X.xe s') hu hlen ?_)))
  refine pairTrees_cons_walk (thn (hk.run pins _ σ _ _ I1 (q _ hn)) fun u s1 ⟨x, H1, I2, rx, q1⟩ => thn (hv.run pins s1 σ H1 _ I2 q1) fun w2 s2 ⟨z, H2, I3, rz, b, key, ex, nk, hp, q2⟩ => pairTrees_nil_walk ?_)
  subst ex
  obtain rfl : u = Value.ref b := rx
  obtain ⟨_, _, vs0, pr, dd⟩ := n_dict I3 (.inl hp) (fun b hb => by cases hb)
  cases pr
  refine ⟨[(key, b, w2)], ⟨rfl, rfl, ⟨nk.2.2 _ I3.hok _ rfl, nk.2.1⟩, trivial⟩, dd, fun h' tk dd' hs => wpAny_pure ⟨.ref s.heap.objs.size, _, ?_, rfl, q2⟩⟩
  have dd'' : h'.DictOfH (nestedKind X.prog X.w) s.heap.objs.size ([((key, b), w2)].map (NVal X.w)) := dd'
  have he : ∃ q, h'.get? s.heap.objs.size = some q := let ⟨q, _, _, hq, _⟩ := dd'; ⟨q, hq⟩
  exact d_write I3 (by rw [hp]; exact True.intro) hs he (nk_mk (xs := [((key, b), z)]) (by rw [sizeLine_eq]; show 1 ≤ 16777216; omega) hsm (.cons ⟨rfl, rz⟩ .nil) dd'')
theorem x_nd1 {mk mv : EM} (hr : Room k X.A) (hk : PE X kx (tE X.E mk)) (hv : PE X vx (tE X.E mv)) : PE X (.Dict [some kx] [vx] pos) (tE X.E (mN1 mk mv)) :=
  (pe_nd1 (by have := hr.un; omega) hk hv).weak fun σ H Q h => by
    obtain ⟨F, R, ε, c, ε', s, e, q⟩ := h
    unfold mN1 at e
    cases e1 : mk ε with
    | none => simp [e1] at e
    | some p1 =>
      obtain ⟨ck, ε1⟩ := p1
      cases e2 : cD ck with
      | none => simp [e1, e2] at e
      | some kd =>
        cases e3 : okKey kd with
        | none => simp [e1, e2, e3] at e
        | some key =>
          cases e4 : mv ε1 with
          | none => simp [e1, e2, e3, e4] at e
          | some p4 =>
            obtain ⟨cv, ε2⟩ := p4
            simp only [e1, e2, e3, e4, Option.bind_eq_bind, Option.bind_some] at e
            cases e
            intro p hp
            have s1 : Sep X.E F R (upd H p (nkO X.w p [])) σ ε ((.ref p, .ob (.dn []) []) :: []) := Sep.change (T1 := []) s fun gs h n _ => ⟨[p], ⟨p, [], [], rfl, rfl, ⟨[], upd_same, rfl, rfl, List.nodup_nil⟩, rfl, rfl⟩, by simp, fun b hb => .inr (by rw [List.mem_singleton.mp hb]; exact hp), fun b u _ e => by rw [upd_ne (ne_of_none e hp)]; exact e⟩
            obtain ⟨R1, _, s2, bk⟩ := s1.hide
            refine ⟨F, R1, ε, ck, ε1, s2, e1, fun x F1 H1 fm1 s3 => ?_⟩
            obtain ⟨F2, fm2, r2, s4⟩ := s3.freeze e2
            refine ⟨F2, R1, ε1, cv, ε', s4, e4, fun z F3 H3 fm3 s5 => ?_⟩
            have s6 := bk F3 H3 σ ε' [(z, cv)] ((fm1.trans fm2).trans fm3) s5
            obtain ⟨nk, rk, n1, n2⟩ := okKey_rep (P := X.prog) (w := X.w) s6.sub e3 (.inl (r2.mono fm3))
            obtain ⟨⟨b, rfl⟩, _, _⟩ := id nk
            obtain ⟨gs, g1, g2, g3, close⟩ := Sep.opens (T1 := [(.ref p, .ob (.dn []) []), (z, cv)]) s6
            obtain ⟨o', r, f, fr, q1, q2, ⟨a, vs, gg, k1, k2, ⟨bs, k3, k4, k5, _⟩, k6⟩, o2, r2', f2, fr2, q3, q4, k7, k8, k9⟩ := g1
            obtain ⟨rfl, rfl⟩ := List.cons.inj q1
            obtain ⟨rfl, rfl⟩ := List.cons.inj q3
            cases k1
            subst q2 q4 k9
            cases (show bs = [] from k5)
            have hvs : vs = [] := List.eq_nil_of_length_eq_zero k4.symm
            subst hvs
            obtain ⟨-, rfl⟩ := k6
            have k2 : f = [p] := k2
            subst k2
            have en : ([[p], f2] : List (List Addr)).flatten = p :: f2 := by simp
            rw [en] at g2 close
            rw [List.nodup_cons] at g2
            have nf : ∀ b ∈ f2, b ≠ p := fun b hb z => g2.1 (by rw [← z]; exact hb)
            refine ⟨b, key, rfl, nk, k3, q _ F3 _ ((fm1.trans fm2).trans fm3) ?_⟩
            refine close (.ref p) (.ob (.dn [kd]) [cv]) _ (p :: f2) ⟨p, [z], [f2], rfl, by simp, ⟨[(key, b)], upd_same, rfl, ⟨_, _, rfl, n1, n2, rk, rfl⟩, by simp⟩, ⟨_, _, _, _, rfl, rfl, RpC.frame (Same.refl F3) (fun b hb => upd_ne (nf b hb)) k7, rfl, rfl⟩⟩ (List.nodup_cons.mpr g2) (fun b hb => .inl hb) (fun b u hb e => ?_)
            rw [upd_ne (fun z => hb (by rw [z]; exact List.mem_cons_self))]
            exact e
def mFnV (x : Str) : EM := fun ε => some (.fn x, ε)
def mCallF (i : Nat) (io : List Bool) (cands : List (Str × GM)) (ma : AM) : EM := fun ε => match ε[i]? with
  | some (.fn x) => match cands.lookup x with
    | some g => mCall io g ma ε
    | none => none
  | _ => none
/-- a slot's thing taken out -/
def mTake (i : Nat) : EM := fun ε => match ε[i]? with
  | some .no => none
  | some c => some (c, ε.set i .no)
  | none => none
theorem x_take (hv : PE X (.Name y p) (tVar i)) : PE X (.Name y p) (tE X.E (mTake i)) := hv.weak fun σ H Q h => by
  obtain ⟨F, R, ε, c, ε', s, e, q⟩ := h
  unfold mTake at e
  split at e
  · cases e
  · rename_i c1 hn hx
    cases e
    obtain ⟨w, hw⟩ := s.val hx (fun z => hn (by rw [z]))
    exact ⟨w, hw, q w F H (Same.refl F) (s.take hx hw)⟩
  · cases e
def alikeB (ds : List D) : Bool := ds.all fun a => (match a with | .tuple _ => true | _ => false) && ds.all fun b => PySem.W.alike a b
def minT : List D → Option C
  | [.list (x :: xs)] => if SeqAt.shaped (.list (x :: xs)) = true ∧ alikeB (x :: xs) = true then some (.sh (PySem.W.minD x xs)) else none
  | _ => none
theorem alikeB_ok {ds : List D} (h : alikeB ds = true) : PySem.W.AlikeAll ds := by
  unfold alikeB at h
  rw [List.all_eq_true] at h
  refine ⟨fun a ha b hb => ?_, fun a ha z => ?_⟩
  · have := h a ha
    rw [Bool.and_eq_true, List.all_eq_true] at this
    exact this.2 b hb
  · have := h a ha
    rw [z] at this
    simp at this
theorem minD_mem (x : D) : ∀ xs : List D, PySem.W.minD x xs ∈ x :: xs := by
  intro xs
  unfold PySem.W.minD
  induction xs generalizing x with
  | nil => exact List.mem_cons_self
  | cons y ys ih =>
    rw [List.foldl_cons]
    rcases List.mem_cons.mp (ih (if PySem.W.dataLt y x = true then y else x)) with e | e
    · rw [e]
      split
      · exact List.mem_cons_of_mem _ List.mem_cons_self
      · exact List.mem_cons_self
    · exact List.mem_cons_of_mem _ (List.mem_cons_of_mem _ e)
def rMinT (K : PySem.W.Frag) : List V → Hp → VK → Prop := fun vs H Q => ∃ (a : Addr) (xs : List V) (d : D) (ds : List D), vs = [V.ref a] ∧ SqL K H a xs ∧ DpAll K H xs (d :: ds) ∧ SeqAt.shaped (.list (d :: ds)) = true ∧ PySem.W.AlikeAll (d :: ds) ∧ ∀ (i : Nat) (v : V), xs[i]? = some v → (d :: ds)[i]? = some (PySem.W.minD d ds) → Q v H
theorem cr_minT (hc : X.calm = true) (hu : X.A.units + 66 < cLine) : CallR X (.builtin "min") (rMinT X.K) := by
  intro pins s σ H xs us Q I r h
  obtain ⟨a, ys, d, ds, rfl, hl, dp, sh, al, q⟩ := h
  obtain ⟨u, rfl, rx⟩ := r.one
  cases rx
  obtain ⟨its, rv, ⟨o, n, e1, e2, e3, e4⟩, z⟩ := I.list hl
  obtain ⟨as, rs⟩ := Dp.readsAll I (d :: ds) ys its dp rv
  have dpt : PyData.depthAll (d :: ds) ≤ 64 := by
    have := SeqAt.depth_of_shaped sh
    have e : (PyData.list (d :: ds)).depth = PyData.depthAll (d :: ds) + 1 := by rw [PyData.depth]
    omega
  refine PySem.W.min_list_data (vs := its.toArray) (I.ok.hd hc) ⟨o, e1, e2, n, e4⟩ (by simpa using rs) al (by omega) fun i v h' tk bs hi rd hk => ?_
  have hi : its[i]? = some v := by simpa using hi
  obtain ⟨bs2, r2, hlt, hmem, _⟩ := PySem.W.readsAll_at rs i v hi
  have r3 : ∃ bs3, Reads h' v ((d :: ds).getD i .none) bs3 := ⟨_, PyProof.Rows.Reads.keeps (fun b o e => hk b o e) r2⟩
  obtain ⟨bs3, r3⟩ := r3
  have em := PySem.W.alike_unique _ _ v _ _ (al.1 _ hmem _ (minD_mem d ds)) r3 rd
  obtain ⟨x, hx, rx⟩ : ∃ x, ys[i]? = some x ∧ RelV x v := by
    have hl2 : i < ys.length := by
      rw [rv.length]
      exact (List.getElem?_eq_some_iff.mp hi).1
    obtain ⟨w, hw, rw'⟩ := rv.get (List.getElem?_eq_getElem hl2)
    rw [hi] at hw
    cases hw
    exact ⟨_, List.getElem?_eq_getElem hl2, rw'⟩
  refine ⟨x, H, I.kept (h' := h') (t' := tk) hk, rx, q i x hx ?_⟩
  rw [← em, List.getElem?_eq_getElem hlt, List.getD_eq_getElem?_getD, List.getElem?_eq_getElem hlt]
  rfl
theorem minT_ok (hc : X.calm = true) (hu : X.A.units + 66 < cLine) : ∃ r, CallR X (.builtin "min") r ∧ FnB X.K minT r := by
  refine ⟨_, cr_minT hc hu, fun F H vs ds c Q s hr he q => ?_⟩
  match ds, he, hr with
  | [.list (d :: ds)], he, hr =>
    simp only [minT] at he
    split at he
    · rename_i hh
      cases he
      obtain ⟨x, rfl, h1⟩ := hr.one
      obtain ⟨a, vs, rfl, g1, g2⟩ := rb_lst s h1
      have hcl : PyData.canLayAll0 (d :: ds) = true := by
        have := SeqAt.canLay_of_shaped hh.1
        simpa [PyData.canLay0] using this
      refine ⟨a, vs, d, ds, rfl, g1, Reps.dp s _ _ g2 hcl, hh.1, alikeB_ok hh.2, fun i v hv hd => ?_⟩
      obtain ⟨w, hw, rw'⟩ := g2.get hd
      rw [hv] at hw
      cases hw
      exact gv s rw' q
    · cases he
  | [.list []], he, hr => cases he
  | [.tuple _], he, hr => cases he
  | [.none], he, hr => cases he
  | [.int _], he, hr => cases he
  | [.bool _], he, hr => cases he
  | [.str _], he, hr => cases he
  | [.dict _], he, hr => cases he
  | [], he, hr => cases he
  | _ :: _ :: _, he, hr => simp [minT] at he
theorem x_minT {e : Expr} {es : List Expr} {mr : AM} {p pos : Pos} (hm : X.mg "min" = none) (hr : Rm k X.A) (hc : X.calm = true) (hg : Gl X "min") (ha : PA X (e :: es) (tA X.E mr)) (he : starEach (e :: es) X.env = (false, eval e X.env) :: starEach es X.env := by rfl) (hpl : (backTo pos (starEach es X.env)).any (·.1) = false := by rfl) :
    PE X (.Call (.Name "min" p) (e :: es) [] pos) (tE X.E (mOp minT mr)) :=
  let ⟨_, h1, h2⟩ := minT_ok hc (by have := hr.un; omega)
  me_callB h1 h2 hg hm boot_min ha (by decide) (by decide) he hpl
end
end L2.M
namespace L2.M
open PySem PySem.Spec PyProof.Rows
end L2.M
namespace L2.M
open PySem PySem.Spec PyProof.Rows
end L2.M
namespace L2.M
open PySem PySem.Spec PyProof.Rows
end L2.M
namespace L2.M
open PySem PySem.Spec PyProof.Rows
end L2.M
namespace L2.M
open PySem PySem.Spec PyProof.Rows
end L2.M
namespace L2.M
open PySem PySem.Spec PyProof.Rows
end L2.M
namespace L2.M
open PySem PySem.Spec PyProof.Rows
end L2.M
namespace L2.M
open PySem PySem.Spec PyProof.Rows
end L2.M
namespace L2.M
open PySem PySem.Spec PyProof.Rows
end L2.M
namespace L2.M
open PySem PySem.Spec PyProof.Rows
inductive SelOk (X : Cx) (k' np : Nat) : List Expr → List V → List GX → Prop where
  | nil : SelOk X k' np [] [] []
  | cons {x : Str} {p : Pos} {g : GX} {k : Nat} {ps : List Str} {es : List Expr} {vs : List V} {gs : List GX} (h : KnX X.prog X.w X.K X.mg X.base k x ps (spX X.E np g)) (hk : k ≤ k') (hg : Gl X x) (hm : X.mg x = some (.ref (He.ga X.K x))) (hd : (x == ("__debug__" : Str)) = false) (hs : starEach (.Name x p :: es) X.env = (false, eval (.Name x p) X.env) :: starEach es X.env) (r : SelOk X k' np es vs gs) : SelOk X k' np (.Name x p :: es) (.ref (He.ga X.K x) :: vs) (g :: gs)
section
variable {X : Cx} {k' np : Nat}
theorem SelOk.len : ∀ {es : List Expr} {vs : List V} {gs : List GX}, SelOk X k' np es vs gs → vs.length = gs.length ∧ es.length = gs.length
  | _, _, _, .nil => ⟨rfl, rfl⟩
  | _, _, _, .cons _ _ _ _ _ _ r => ⟨congrArg (· + 1) r.len.1, congrArg (· + 1) r.len.2⟩
theorem SelOk.get : ∀ {es : List Expr} {vs : List V} {gs : List GX}, SelOk X k' np es vs gs → ∀ (j : Nat) (g : GX), gs[j]? = some g → ∃ x k ps, vs[j]? = some (.ref (He.ga X.K x)) ∧ k ≤ k' ∧ KnX X.prog X.w X.K X.mg X.base k x ps (spX X.E np g) ∧ X.mg x = some (.ref (He.ga X.K x))
  | _, _, _, .nil, j, g, e => by cases e
  | _, _, _, .cons (x := x) (k := k) (ps := ps) h hk hg hm hd hs r, 0, g, e => by
    cases e
    exact ⟨x, k, ps, rfl, hk, h, hm⟩
  | _, _, _, .cons h hk hg hm hd hs r, j + 1, g, e => r.get j g e
end
end L2.M
namespace L2.M
open PySem PySem.Spec PyProof.Rows
end L2.M
namespace L2.M
open PySem PySem.Spec PyProof.Rows
end L2.M
namespace L2.M
open PySem PySem.Spec PyProof.Rows
open PySem.Builtin PySem.Builtin.Str
section
variable {P : Program} {w : World} {K : PySem.W.Frag} {mg : Str → Option Value} {base : Heap} {CX : CXT}
theorem PSsT.nox {X : Cx} {st : List Stmt} {t : TS} (h : PSsT X.nox st t) : PSsT X st t := fun pins s σ H D h0 I hw =>
  wpAny_mono (h pins s σ H D h0 (I.wish _) hw) (fun _ _ q => q.unwish) fun _ _ z => False.elim z
end
end L2.M
namespace L2.M
open PySem PySem.Spec PyProof.Rows
end L2.M
namespace L2.M
open PySem PySem.Spec PyProof.Rows
end L2.M
namespace L2.M
open PySem PySem.Spec PyProof.Rows
theorem Sep.hdSh {K : Ek} {F R H : Hp} {σ : L2.St} {ε : Cs} {T : Tms} {v : V} {d : D} (s : Sep K F R H σ ε ((v, .sh d) :: T)) : Rep K.1 F v d := by
  obtain ⟨f, ⟨_, w, e1, r⟩, m⟩ := s.headT
  cases e1
  exact r
def mDGetD (i : Nat) (m n : EM) : EM := fun ε => match ε[i]? with
  | some (.dc 0 _) => do
    let (c1, ε1) ← m ε
    let (c2, ε2) ← n ε1
    match c1, c2, ε2[i]? with
      | .sh kd, .sh d, some (.dc 0 kds) => if (kyD kd).isSome = true then some (.sh ((dLk kds kd).getD d), ε2) else none
      | _, _, _ => none
  | _ => none
def mDList (i : Nat) : EM := fun ε => match ε[i]? with
  | some (.dc 0 kds) => some (.ls (kds.map (·.1)), ε)
  | _ => none
end L2.M
namespace L2.M
open PySem PySem.Spec PyProof.Rows
end L2.M
namespace L2.M
open PySem PySem.Spec PyProof.Rows
def mPopAt (i : Nat) (m : EM) : EM := fun ε => match ε[i]? with
  | some (.ls _) => do
    let (c, ε1) ← m ε
    match c, ε1[i]? with
      | .sh (.int k), some (.ls xs) => if 0 ≤ k ∧ k < xs.length ∧ xs.length ≤ sizeLine then (xs[k.toNat]?).map fun d => (.sh d, ε1.set i (.ls (xs.eraseIdx k.toNat))) else none
      | _, _ => none
  | _ => none
section
variable {X : Cx}
theorem x_popat (i : Nat) {m : EM} {e : Expr} {x : Str} {p p2 p3 : Pos} (hv : PE X (.Name x p) (tVar i)) (he : PE X e (tE X.E m)) (hbase : attributeBase (.Name x p) "pop" X.env (eval (.Name x p) X.env) = eval (.Name x p) X.env := by rfl)
    (hfew : ((backTo p3 (starEach [e] X.env)).all (fun x => !x.1) && (backToKw p3 (keywordEach [] X.env)).all (fun x => x.1.isSome) && decide ([e].length + ([] : List Keyword).length + (if ([] : List Keyword).isEmpty then 0 else 1) < 30)) = true := by rfl)
    (hline : (p2.endLine == p3.line) = true := by rfl) (hs : starEach [e] X.env = (false, eval e X.env) :: starEach [] X.env := by rfl) (hplain : (backTo p3 (starEach [] X.env)).any (·.1) = false := by rfl) :
    PE X (.Call (.Attribute (.Name x p) "pop" p2) [e] [] p3) (tE X.E (mPopAt i m)) :=
  (pe_bm PySem.F.plainAttrs_list PySem.F.slot_list_pop PySem.F.type_list_pop mt_popAt hv (pa_cons he pa_nil hs) hbase hfew hline hs hplain).weak fun σ H Q h => by
    obtain ⟨F, R, ε, c, ε', o, e, q⟩ := h
    unfold mPopAt at e
    split at e
    · rename_i xs0 hx0
      cases e1 : m ε with
      | none => simp [e1] at e
      | some p =>
        obtain ⟨c1, ε1⟩ := p
        simp only [e1, Option.bind_eq_bind, Option.bind_some] at e
        split at e
        · rename_i k xs hx
          split at e
          · rename_i hl
            cases e2 : xs[k.toNat]? with
            | none => simp [e2] at e
            | some d =>
              simp only [e2, Option.map_some] at e
              cases e
              obtain ⟨a, vs, h1, h2, h3⟩ := o.lst hx0
              refine ⟨_, h1, .inl ⟨rfl, vs, .inl (.inl h2)⟩, F, R, ε, _, ε1, o, e1, fun v F1 H1 fm p => ?_⟩
              have hk : v = .int k := by simpa [Rep] using p.hdSh
              subst hk
              obtain ⟨a', vs', g1, g2, g4, wr⟩ := p.drop.atL hx
              rw [h1] at g1
              cases g1
              obtain ⟨y, k1, k2⟩ := g4.get e2
              have hsz : xs.length ≤ 16777216 := by have := hl.2.2; rw [sizeLine_eq] at this; exact this
              refine ⟨a, vs', k, k.toNat, y, rfl, rfl, g2, by omega, by omega, ?_, k1, ?_⟩
              · rw [g4.length]
                unfold seqIndex?
                simp
                omega
              · exact q y F1 _ fm ((wr _ _ (g4.erase k.toNat)).addSh k2)
          · cases e
        · cases e
    · cases e
end
end L2.M
namespace L2.M
open PySem PySem.Spec PyProof.Rows
section
variable {P : Program} {w : World} {A : Around} {E : Value → Shared → Prop} {s : Shared}
theorem sort_tupI {t : Addr} {its : List Value} {ns : List Int} {Q : Value → Shared → Prop} (hT : IsTup s.heap t its.toArray) (hI : IntsAre its ns) (hz : its.length ≤ sizeLine)
    (hQ : ∀ (h1 h' : Heap) (out : Array Value) (ms : List Int) (c : Nat), (∀ b o, s.heap.get? b = some o → h1.get? b = some o) → (∀ b o, h1.get? b = some o → h'.get? b = some o) → h'.get? h1.objs.size = some (seqObj "list" out c) →
      IntsAre out.toList ms → ms.Perm ns → ms.Pairwise (· ≤ ·) → Q (.ref h1.objs.size) { s with heap := h' }) : wpAny (model P w) A (call (.builtin "sorted") [.ref t]) Q E s := by
  obtain ⟨o, ho, hc, n, hd⟩ := hT
  refine Calls.call_function_entry kind_sorted plain_sorted entry_sorted (args_sorted1 _) (by
    unfold Builtin.«sorted»
    refine wpAny_bind (m := checkCount "sorted" 1 1 _) (wpAny_pure (wpAny_bind (wpAny_collect_seq (A := A.in1) t (.inr rfl) ho hc hd (fun h1 k1 => ?_) (by simpa using hz))))
    have el : its.toArray.toList = its := by simp
    rw [el]
    have hL : (h1.push (seqObj "list" its.toArray 0)).get? h1.objs.size = some (seqObj "list" its.toArray 0) := Heap.get?_push_size _ rfl
    refine wpAny_bind (wpAny_newList (wpAny_bind (wpAny_holding (wpAny_call_entry slot_list_sort ⟨_, hL, rfl⟩ entry_list_sort (list_sort_treeAny hL hI hz fun out ms a1 a2 a3 => ⟨_, rfl, ?_⟩) (args_list_sort _)))) hz)
    obtain ⟨c, hc⟩ := sortedHeap_at (vs := its) (out := out) hL
    refine wpAny_pure ⟨_, rfl, hQ h1 _ out ms c k1 (fun b u q => ?_) hc a1 a2 a3⟩
    have lt := Heap.lt_size q
    exact (sortedHeap_old (Nat.ne_of_lt lt) (Nat.lt_succ_of_lt lt |> fun z => by rw [size_push']; exact z)).trans (Heap.get?_push_of_some _ q))
end
section
variable {X : Cx}
def rSortTI (K : PySem.W.Frag) : List V → Hp → VK → Prop := fun vs H Q => ∃ (a : Addr) (ns : List Int), vs = [V.ref a] ∧ SqT K H a (ns.map V.int) ∧ ∀ p, H p = none → Q (.ref p) (upd H p (.lst ((isort ns).map V.int)))
theorem cr_sortTI : CallR X (.builtin "sorted") (rSortTI X.K) := by
  intro pins s σ H vs us Q I r h
  obtain ⟨a, ns, rfl, hs, q⟩ := h
  obtain ⟨its, rv, hl, hz⟩ := I.tuple hs
  rw [Vals.ref1 r]
  have hi : IntsAre its ns := by simpa using rv.ints
  refine sort_tupI hl hi (by rw [← rv.length]; exact hz) fun h1 h' out ms c k1 k2 he a1 a2 a3 => ?_
  have e : ms = isort ns := List.Perm.eq_of_pairwise (le := fun a b : Int => a ≤ b) (fun a b _ _ h1 h2 => by omega) a3 (isort_le ns) (a2.trans (isort_perm ns).symm)
  subst e
  have I1 : Inv X pins σ H { s with heap := h1 } := I.kept (t' := s.toks) k1
  have hlen : ((isort ns).map V.int).length ≤ sizeLine := by
    rw [List.length_map, (isort_perm ns).length_eq]
    simpa using hz
  exact ⟨.ref _, upd H h1.objs.size (.lst ((isort ns).map V.int)), I1.laid (h' := h') (t' := s.toks) k2 (Nat.le_refl _) ⟨hlen, out.toList, c, vals_of_ints a1, he⟩, rfl, q _ (I1.hok.fresh (Nat.le_refl _))⟩
/-- sorted of a list, or of a tuple of numbers -/
def sortZ : List D → Option C
  | [.tuple ds] => (intsOf ds).map fun ns => .ls ((isort ns).map PyData.int)
  | ds => sortX ds
theorem sortZ_ok : ∃ r, CallR X (.builtin "sorted") r ∧ FnB X.K sortZ r := by
  obtain ⟨r1, h1, k1⟩ := sortX_ok (X := X)
  refine ⟨fun vs H Q => r1 vs H Q ∨ rSortTI X.K vs H Q, ?_, fun F H vs ds c Q s hr he q => ?_⟩
  · intro pins s σ H vs us Q I r h
    rcases h with h | h
    · exact h1 _ _ _ _ _ _ _ I r h
    · exact cr_sortTI _ _ _ _ _ _ _ I r h
  · by_cases c1 : ∃ ts, ds = [.tuple ts]
    · obtain ⟨ts, rfl⟩ := c1
      simp only [sortZ] at he
      cases e1 : intsOf ts with
      | none => simp [e1] at he
      | some ns =>
        simp only [e1, Option.map_some] at he
        cases he
        right
        obtain ⟨x, rfl, g⟩ := hr.one
        obtain ⟨a, vs, rfl, _, g1, g2⟩ := rb_tup s g
        rw [ints_reps g2 e1] at g1
        exact ⟨a, ns, rfl, g1, fun p hp => g_lst s (reps_ints _) q p hp⟩
    · left
      refine k1 F H vs ds c Q s hr ?_ q
      rw [← he]
      unfold sortZ
      split
      · rename_i ts
        exact absurd ⟨ts, rfl⟩ c1
      · rfl
variable {e : Expr} {es : List Expr} {mr : AM} {p pos : Pos}
theorem x_sortZ (hm : X.mg "sorted" = none) (hg : Gl X "sorted") (ha : PA X (e :: es) (tA X.E mr)) (he : starEach (e :: es) X.env = (false, eval e X.env) :: starEach es X.env := by rfl) (hpl : (backTo pos (starEach es X.env)).any (·.1) = false := by rfl) :
    PE X (.Call (.Name "sorted" p) (e :: es) [] pos) (tE X.E (mOp sortZ mr)) :=
  let ⟨_, h1, h2⟩ := sortZ_ok
  me_callB h1 h2 hg hm boot_sorted1 ha (by decide) (by decide) he hpl
end
end L2.M
namespace L2.M
open PySem PySem.Spec PyProof.Rows
def lsD (ds : List D) : Option C := match intsOf ds with
  | some ns => if ns.length < 4000 then some (.sh (.int ((dsort ns).length : Nat))) else none
  | none => none
def lsT : List D → Option C
  | [.tuple ds] => lsD ds
  | [.list ds] => lsD ds
  | _ => none
def rLST (K : PySem.W.Frag) : List V → Hp → VK → Prop := fun vs H Q => ∃ (a : Addr) (ns : List Int), vs = [V.ref a] ∧ (SqT K H a (ns.map V.int) ∨ SqL K H a (ns.map V.int)) ∧ ns.length < 4000 ∧ Q (.int ((dsort ns).length : Nat)) H
theorem lsT_b {K : PySem.W.Frag} : FnB K lsT (rLST K) := by
  intro F H vs ds c Q s hr he q
  have key : ∀ ds : List D, lsD ds = some c → ∃ ns : List Int, intsOf ds = some ns ∧ ns.length < 4000 ∧ c = .sh (.int ((dsort ns).length : Nat)) := fun ds he => by
    unfold lsD at he
    split at he
    · rename_i ns e1
      split at he
      · rename_i h64
        cases he
        exact ⟨ns, e1, h64, rfl⟩
      · cases he
    · cases he
  match ds, he, hr with
  | [.tuple ds], he, hr =>
    obtain ⟨ns, e1, h64, rfl⟩ := key ds he
    obtain ⟨x, rfl, h1⟩ := hr.one
    obtain ⟨a, vs, rfl, _, g1, g2⟩ := rb_tup s h1
    rw [ints_reps g2 e1] at g1
    exact ⟨a, ns, rfl, .inl g1, h64, g_int s q⟩
  | [.list ds], he, hr =>
    obtain ⟨ns, e1, h64, rfl⟩ := key ds he
    obtain ⟨x, rfl, h1⟩ := hr.one
    obtain ⟨a, vs, rfl, g1, g2⟩ := rb_lst s h1
    rw [ints_reps g2 e1] at g1
    exact ⟨a, ns, rfl, .inr g1, h64, g_int s q⟩
section
variable {X : Cx}
theorem ls_fin {pins : List (Addr × Obj)} {σ : L2.St} {H : Hp} {s : Shared} {ns : List Int} {Q : VK} (I : Inv X pins σ H s) (q : Q (.int ((dsort ns).length : Nat)) H)
    (h' : Heap) (tk c : Nat) (R : SetR X.w h' s.heap.objs.size (fun j => decide (j ∈ ns)) c) (hk : ∀ b o, s.heap.get? b = some o → h'.get? b = some o) (hl4 : ns.length < 4000) (hc' : c ≤ ns.length) :
    wpAny (model X.prog X.w) X.A (call (.builtin "len") [.ref s.heap.objs.size]) (EP X pins σ Q) X.xe { s with heap := h', toks := tk } := by
  have I2 : Inv X pins σ H { s with heap := h', toks := tk } := I.kept fun b o e => hk b o e
  obtain ⟨o, es, ep, t, ho, hex, hd, _, hnd, hm, _, hf, hn, _⟩ := R
  have e : es.size = (dsort ns).length := by
    have nd : (dsort ns).Nodup := (dsort_ris ns).imp fun {a b} h => by omega
    have p : (es.toList.map keyOf).Perm (dsort ns) := (List.perm_ext_iff_of_nodup hnd nd).mpr fun k => by
      rw [← hm k, dsort_mem]
      simp
    have := p.length_eq
    simpa using this
  rw [← e] at q
  exact call_len_set ho hex hd hf (by omega) ⟨.int es.size, H, I2.tok _, ⟨_, rfl⟩, q⟩
variable {a : Expr} {m : AM} {p p2 q pos : Pos}
theorem x_ls (hm : X.mg "len" = none) (hg : Gl X "len") (hm2 : X.mg "set" = none) (hg2 : Gl X "set") (hc : X.calm = true) (ha : PA X [a] (tA X.E m))
    (na : starEach [a] X.env = (false, eval a X.env) :: starEach [] X.env := by rfl)
    (nb : starEach [Expr.Call (.Name "set" p2) [a] [] q] X.env = (false, eval (Expr.Call (.Name "set" p2) [a] [] q) X.env) :: starEach [] X.env := by rfl) :
    PE X (.Call (.Name "len" p) [.Call (.Name "set" p2) [a] [] q] [] pos) (tE X.E (mOp lsT m)) := by
  refine PE.weak (t := fun σ H Q => tA X.E m σ H fun vs H' => rLST X.K vs H' Q) ⟨fun pins s σ H Q I h => ?_⟩ fun _ _ _ h => op_sem lsT_b h
  refine wpAny_Call_Name_kw (ld_blt I hg hm boot_len ?_ (by decide) (by decide))
  refine PyProof.Rows.callWith_builtin1 (PyProof.Rows.args_cons ?_ nb) nb rfl
  refine wpAny_Call_Name_kw (ld_blt I hg2 hm2 boot_set ?_ (by decide) (by decide))
  refine PyProof.Rows.callWith_type1 (thn (ha.run q pins s σ H _ I h) fun us s1 ⟨vs, H1, I1, r1, q1⟩ => ?_) na rfl
  obtain ⟨l, ns, rfl, hq, h64, q1⟩ := q1
  rw [Vals.ref1 r1]
  have hb : ns.length + 1 < scanBound := by unfold scanBound; omega
  rcases hq with hq | hq
  · obtain ⟨its, rv, pl, hz⟩ := I1.tuple hq
    exact call_set_tupI ns (I1.ok.hd hc) pl (by simpa using RZ.intsAre_vals rv) hb fun h' tk c R hc' hk => PyProof.Rows.args_nil (ls_fin I1 q1 h' tk c R hk h64 hc')
  · obtain ⟨its, rv, pl, hz⟩ := I1.list hq
    exact call_set_lstI ns (I1.ok.hd hc) pl.isList (by simpa using RZ.intsAre_vals rv) hb fun h' tk c R hc' hk => PyProof.Rows.args_nil (ls_fin I1 q1 h' tk c R hk h64 hc')
end
section
variable {prog : Program} {w : World} {A : Around} {E : Value → Shared → Prop} {s : Shared}
theorem ne_same {nm : String} {a b : Addr} {oa ob : Obj} {es es' : Array DictEntry} {ep ep' : Nat} {Q : Bool → Shared → Prop} (ha : (a == sysModules) = false) (hb : (b == sysModules) = false)
    (hoa : s.heap.get? a = some oa) (hda : oa.data = .dict es ep) (hob : s.heap.get? b = some ob) (hdb : ob.data = .dict es' ep') (h0 : es'.size = 0) (h : Q (es.size == 0) s) : wpAny (model prog w) A (Builtin.Dict.samePairs nm a b) Q E s := by
  unfold Builtin.Dict.samePairs Builtin.Dict.showsAll
  rw [if_neg (show ¬ (a == sysModules) = true by rw [ha]; exact Bool.false_ne_true), if_neg (show ¬ (b == sysModules) = true by rw [hb]; exact Bool.false_ne_true)]
  refine wpAny_bind (wpAny_pure (wpAny_bind (wpAny_pure ?_)))
  refine wpAny_bind (wpAny_dictEntries hoa hda ?_)
  dsimp only
  refine wpAny_bind (wpAny_dictEntries hob hdb ?_)
  by_cases hsz : es.size = es'.size
  case neg =>
    rw [if_pos (by simpa using hsz)]
    have hbf : (es.size == 0) = false := by
      rw [h0] at hsz
      simpa using hsz
    rw [hbf] at h
    exact wpAny_bind (wpAny_rule (wpAny_pure h))
  case pos =>
    have e0 : es.size = 0 := by omega
    rw [if_neg (by rw [hsz]; simp)]
    refine wpAny_bind (wpAny_dictEpoch hoa hda ?_)
    refine wpAny_bind ?_
    rw [Std.Legacy.Range.forIn_eq_forIn_range']
    simp only [Std.Legacy.Range.size, Nat.sub_zero, Nat.add_sub_cancel, Nat.div_one]
    rw [e0] at h ⊢
    exact wpAny_pure (wpAny_pure h)
theorem dict_ne0 {a b : Addr} {oa ob : Obj} {es es' : Array DictEntry} {ep ep' : Nat} {Q : Value → Shared → Prop} (ha : (a == sysModules) = false) (hb : (b == sysModules) = false)
    (hoa : s.heap.get? a = some oa) (xa : oa.ExactDict) (hda : oa.data = .dict es ep) (hob : s.heap.get? b = some ob) (xb : ob.ExactDict) (hdb : ob.data = .dict es' ep') (h0 : es'.size = 0) (hu : A.units < cLine) (h : Q (.bool (!(es.size == 0))) s) :
    wpAny (model prog w) A (compareOp .NotEq (.ref a) (.ref b)) Q E s := by
  have ta : Shared.TypeIs s (.ref a) "dict" := ⟨oa, hoa, xa.1⟩
  have tb : Shared.TypeIs s (.ref b) "dict" := ⟨ob, hob, xb.1⟩
  refine wpAny_richCompare_same_room (op := .NotEq) ta tb PySem.F.slot_dict_ne (wpAny_call_entry PySem.F.slot_dict_ne ta PySem.F.entry_dict_ne ?_ (PySem.F.args_dict_ne_2 _ _)) hu
  show wpAny _ _ (Builtin.Dict.dictSlotArgs "__ne__" ⟨[.ref a, .ref b], []⟩ >>= _) _ _ s
  refine wpAny_bind ?_
  unfold Builtin.Dict.dictSlotArgs
  refine wpAny_bind (wpAny_notOrdered_dict ta ?_)
  show wpAny _ _ (pure (Value.ref a, Value.ref b)) _ _ s
  refine wpAny_pure ?_
  refine wpAny_bind (wpAny_isInstance (T := "dict") tb PySem.F.sub_dict_dict ?_)
  simp only [Bool.not_true, Bool.false_eq_true, if_false]
  refine wpAny_bind (wpAny_pure (wpAny_bind (wpAny_pure ?_)))
  refine wpAny_bind (ne_same ha hb hoa hda hob hdb h0 ?_)
  refine wpAny_pure ⟨_, rfl, ?_, ?_⟩
  · exact fun x => nomatch x
  · simpa using h
end
/-- a dict is not empty -/
def mNNe (i : Nat) : EM := fun ε => match ε[i]? with
  | some c => (nKs c).map fun ks => (.sh (.bool (!ks.isEmpty)), ε)
  | none => none
section
variable {X : Cx} {y : Str} {p q pos : Pos} {i k : Nat}
def tNNe (w : World) (td : TE) : TE := fun σ H Q => td σ H fun x H1 => ∃ (a : Addr) (xs : NX), x = .ref a ∧ NkAt w H1 a xs ∧ ∀ l, H1 l = none → Q (.bl (!xs.isEmpty)) (upd H1 l (nkO w l []))
theorem pc_nne {o : Expr} {td : TE} (hu : X.A.units < cLine) (ho : PE X o td) : PC X .NotEq o (.Dict [] [] q) (tNNe X.w td) := by
  refine ⟨fun pins s σ H Q I h => ?_⟩
  refine thn (ho.run pins s σ H _ I h) fun u s1 ⟨x, H1, I1, rx, a, xs, ex, g, q1⟩ => ?_
  refine thn (pe_nnew.run pins s1 σ H1 (fun v H2 => ∃ l, v = .ref l ∧ H1 l = none ∧ H2 = upd H1 l (nkO X.w l [])) I1 fun l hl => ⟨l, rfl, hl, rfl⟩) fun v s2 ⟨z, H2, I2, rz, l, ez, hl, e2⟩ => ?_
  subst ex ez e2
  obtain rfl : u = Value.ref a := rx
  obtain rfl : v = Value.ref l := rz
  have hal : a ≠ l := fun e => by
    subst e
    rcases g with g | ⟨_, g⟩ <;> (rw [hl] at g; cases g)
  have g2 : NkAt X.w (upd H1 l (nkO X.w l [])) a xs := by
    unfold NkAt upd at *
    simpa [hal] using g
  have g3 : NkAt X.w (upd H1 l (nkO X.w l [])) l [] := .inl (by simp [upd])
  obtain ⟨hd1, o1, es1, ep1, a1, a2, a3, a4, _⟩ := nk_ents I2 g2
  obtain ⟨hd2, o2, es2, ep2, b1, b2, b3, b4, _⟩ := nk_ents I2 g3
  refine dict_ne0 hd1 hd2 a1 a2 a3 b1 b2 b3 (by simpa using b4) hu ?_
  have e : (!(es1.size == 0)) = !xs.isEmpty := by
    rw [a4]
    cases xs <;> rfl
  rw [e]
  exact ⟨.bl _, _, I2, rfl, q1 l hl⟩
theorem nne_core {K : Ek} {σ : St} {H : Hp} {Q : VK} (h : tE K (mNNe i) σ H Q) : tNNe K.2 (tVar i) σ H Q := by
  obtain ⟨F, R, ε, c, ε', s, e, qq⟩ := h
  unfold mNNe at e
  cases e4 : ε[i]? with
  | none => simp [e4] at e
  | some c1 =>
    cases e5 : nKs c1 with
    | none => simp [e4, e5] at e
    | some ks =>
      simp only [e4, e5, Option.map_some] at e
      cases e
      obtain ⟨a, bs, vs, g1, g2, g3, g4, _⟩ := s.nview e4 e5
      refine ⟨_, g1, a, bs.zip vs, rfl, g2, fun l hl => ?_⟩
      have hz : (!(bs.zip vs).isEmpty) = !ks.isEmpty := by
        have l1 := g4.len
        cases ks with
        | nil =>
          have : bs = [] := List.length_eq_zero_iff.mp (by simpa using l1)
          simp [this]
        | cons k ks =>
          cases bs with
          | nil => simp at l1
          | cons b bs =>
            cases vs with
            | nil => simp at g3
            | cons v vs => simp
      rw [hz]
      have s2 : Sep K F R (upd H l (nkO K.2 l [])) σ ε ([(.ref l, .ob (.dn []) [])] ++ []) := Sep.change (T1 := []) s fun gs h n _ => ⟨[l], ⟨l, [], [], rfl, rfl, ⟨[], upd_same, rfl, rfl, List.nodup_nil⟩, rfl, rfl⟩, by simp, fun b hb => .inr (by rw [List.mem_singleton.mp hb]; exact hl), fun b u _ e => by rw [upd_ne (ne_of_none e hl)]; exact e⟩
      exact qq _ _ _ (Same.refl F) ((s2.drops _).addSh rfl)
theorem y_nne (hr : Room k X.A) (hv : PE X (.Name y p) (tVar i)) (hm : behindInMarks .NotEq (.Dict [] [] q) = false := by rfl) : PT X (.Compare (.Name y p) [.NotEq] [.Dict [] [] q] pos) (tT X.E (mTst (mNNe i))) :=
  (pt_cmp (pc_nne (by have := hr.un; omega) hv) hm).weak fun σ H Q h => nne_core (tE_tst h)
end
end L2.M
namespace L2.M
open PySem PySem.Spec PyProof.Rows
end L2.M
namespace L2.M
open PySem PySem.Spec PyProof.Rows
def mPop (i : Nat) : EM := fun ε => match ε[i]? with
  | some (.ls xs) => xs.getLast?.map fun d => (.sh d, ε.set i (.ls xs.dropLast))
  | _ => none
section
variable {X : Cx}
theorem x_pop (i : Nat) {x : Str} {p p2 p3 : Pos} (hv : PE X (.Name x p) (tVar i)) (hbase : attributeBase (.Name x p) "pop" X.env (eval (.Name x p) X.env) = eval (.Name x p) X.env := by rfl) (hline : (p2.endLine == p3.line) = true := by rfl) :
    PE X (.Call (.Attribute (.Name x p) "pop" p2) [] [] p3) (tE X.E (mPop i)) :=
  (pe_bm0 PySem.F.plainAttrs_list PySem.F.slot_list_pop PySem.F.type_list_pop mt_pop hv hbase hline).weak fun σ H Q h => by
    obtain ⟨F, R, ε, c, ε', o, e, q⟩ := h
    unfold mPop at e
    split at e
    · rename_i xs hx
      cases e2 : xs.getLast? with
      | none => simp [e2] at e
      | some d =>
        simp only [e2, Option.map_some] at e
        cases e
        obtain ⟨a, vs, h1, h2, h3, wr⟩ := o.atL hx
        refine ⟨_, h1, .inl ⟨rfl, vs, .inl (.inl h2)⟩, ?_⟩
        rw [List.getLast?_eq_getElem?] at e2
        obtain ⟨y, k1, k2⟩ := h3.get e2
        refine ⟨a, vs, y, rfl, rfl, h2, by rw [h3.length]; exact k1, ?_⟩
        have dl : Reps X.K F vs.dropLast xs.dropLast := by
          rw [List.dropLast_eq_take, List.dropLast_eq_take, h3.length]
          exact Reps.take _ h3
        exact q y F _ (Same.refl F) ((wr _ _ dl).addSh k2)
    · cases e
end
end L2.M
namespace KW
open PySem PySem.Spec PyProof.Rows L2 L2.M
theorem at_nn {α : Type} {xs : List α} {i : Int} (h : 0 ≤ i) : atI xs i = xs[i.toNat]? := by
  unfold atI ixN
  rw [if_pos h]
  by_cases k : i.toNat < xs.length
  · rw [if_pos (by omega)]; rfl
  · rw [if_neg (by omega)]
    rw [List.getElem?_eq_none (by omega)]
    rfl
theorem at_lit {α : Type} {xs : List α} {n : Nat} : atI xs (no_index (OfNat.ofNat n) : Int) = xs[n]? := at_nn (Int.natCast_nonneg n)
theorem at_nat {α : Type} {xs : List α} {n : Nat} : atI xs (n : Int) = xs[n]? := at_nn (Int.natCast_nonneg n)
theorem at_neg {α : Type} {xs : List α} {n : Nat} (h : 0 < n) : atI xs (-(n : Int)) = if n ≤ xs.length then xs[xs.length - n]? else none := by
  unfold atI ixN
  rw [if_neg (by omega)]
  by_cases k : n ≤ xs.length
  · rw [if_pos (by omega), if_pos k]
    have : (-(n : Int) + (xs.length : Int)).toNat = xs.length - n := by omega
    simp [this]
  · rw [if_neg (by omega), if_neg k]
    rfl
theorem at_m1 {α : Type} {xs : List α} : atI xs (-1) = xs.getLast? := by
  have := at_neg (xs := xs) (n := 1) (by decide)
  rw [show (-1 : Int) = -((1 : Nat) : Int) by rfl, this]
  cases xs with
  | nil => rfl
  | cons x xs => simp [List.getLast?_eq_getElem?]
theorem at_m2 {α : Type} {xs : List α} : atI xs (-2) = if 2 ≤ xs.length then xs[xs.length - 2]? else none := by
  rw [show (-2 : Int) = -((2 : Nat) : Int) by rfl, at_neg (by decide)]
theorem bq_int (i j : Int) : (i == j) = decide (i = j) := by
  by_cases h : i = j <;> simp [h]
theorem bq_str (i j : Str) : (i == j) = decide (i = j) := by
  by_cases h : i = j <;> simp [h]
theorem ofs_inj (a b : String) : (Str.ofString a = Str.ofString b) = (a = b) := by
  apply propext
  constructor
  · intro h
    rw [Str.ofString_eq_toList, Str.ofString_eq_toList] at h
    have h1 : (a.toList.map Char.toNat).toArray = (b.toList.map Char.toNat).toArray := congrArg Str.cps h
    have h2 : a.toList.map Char.toNat = b.toList.map Char.toNat := by simpa using h1
    have h3 : a.toList = b.toList := List.map_inj_right (fun x y h => Char.toNat_inj.mp h) |>.mp h2
    exact String.toList_inj.mp h3
  · rintro rfl
    rfl
theorem ee_ii (i j : Int) : PyData.eqv (.int i) (.int j) = decide (i = j) := by simp only [PyData.eqv]; exact bq_int i j
theorem ee_ss (i j : Str) : PyData.eqv (.str i) (.str j) = decide (i = j) := by simp only [PyData.eqv]; exact bq_str i j
theorem ee_bb (i j : Bool) : PyData.eqv (.bool i) (.bool j) = decide (i = j) := by cases i <;> cases j <;> rfl
theorem ee_nn : PyData.eqv .none .none = true := rfl
theorem ee_is (i : Int) (j : Str) : PyData.eqv (.int i) (.str j) = false := rfl
theorem ee_si (i : Int) (j : Str) : PyData.eqv (.str j) (.int i) = false := rfl
theorem ee_in (i : Int) : PyData.eqv (.int i) .none = false := rfl
theorem ee_ni (i : Int) : PyData.eqv .none (.int i) = false := rfl
theorem ee_tt (xs ys : List PyData) : PyData.eqv (.tuple xs) (.tuple ys) = PyData.eqvAll xs ys := by simp only [PyData.eqv]
theorem ee_ll (xs ys : List PyData) : PyData.eqv (.list xs) (.list ys) = PyData.eqvAll xs ys := by simp only [PyData.eqv]
theorem ee_0 : PyData.eqvAll [] [] = true := rfl
theorem ee_1 (x y : PyData) (xs ys : List PyData) : PyData.eqvAll (x :: xs) (y :: ys) = (PyData.eqv x y && PyData.eqvAll xs ys) := by simp only [PyData.eqvAll]
theorem ee_2 (x : PyData) (xs : List PyData) : PyData.eqvAll (x :: xs) [] = false := rfl
theorem ee_3 (x : PyData) (xs : List PyData) : PyData.eqvAll [] (x :: xs) = false := rfl
theorem ee_maps (xs ys : List Int) : PyData.eqvAll (xs.map .int) (ys.map .int) = decide (xs = ys) := by
  induction xs generalizing ys with
  | nil => cases ys <;> simp [ee_0, ee_3]
  | cons x xs ih => cases ys <;> simp [ee_1, ee_2, ih, ee_ii]
/-- a fact kept out of a simplifier's way -/
structure Hid (p : Prop) : Prop where
  get : p
structure Pn where
  l : Int
  b : Int
  s : Int
def penL (p : Pn) : List PyData := [.int p.l, .int p.b, .int p.s]
def nxt (s : Int) : Int := ((s + 7919) % 2147483647 * ((s + 7919) % 2147483647) + 48271 * ((s + 7919) % 2147483647) + 12345) % 2147483629
def pnOf (x : Int) : Pn := ⟨if 0 - x > x then 0 - x else x, if (10 : Int) ^ 18 ≤ (if 0 - x > x then 0 - x else x) then 1 else 0, (if 0 - x > x then 0 - x else x) % 1000003⟩
def dr (p : Pn) (n : Int) : Int := if p.b = 1 ∧ 0 < p.l then p.l % n else nxt (nxt p.s + 7) / 64 % n
def dn (p : Pn) (n : Int) : Pn := if p.b = 1 ∧ 0 < p.l then ⟨p.l / n, p.b, p.s⟩ else ⟨p.l, p.b, nxt (nxt p.s + 7)⟩
theorem dr_nn {p : Pn} {n : Int} (h : 0 < n) : 0 ≤ dr p n := by
  unfold dr
  split <;> exact Int.emod_nonneg _ (by omega)
theorem dr_lt {p : Pn} {n : Int} (h : 0 < n) : dr p n < n := by
  unfold dr
  split <;> exact Int.emod_lt_of_pos _ h
theorem dr_ab (p : Pn) (n : Int) (h : 0 < n) : 0 ≤ dr p n ∧ dr p n < n := ⟨dr_nn h, dr_lt h⟩
theorem dr_a2 (p : Pn) (n : Int) : 0 < n → 0 ≤ dr p n ∧ dr p n < n := fun h => ⟨dr_nn h, dr_lt h⟩
grind_pattern dr_a2 => dr p n
/-- the item of a list of whole numbers -/
def gt (xs : List Int) (i : Int) : Int := xs.getD i.toNat 0
theorem gt_mem {xs : List Int} {i : Int} (h0 : 0 ≤ i) (h1 : i < xs.length) : gt xs i ∈ xs := by
  unfold gt
  rw [List.getD_eq_getElem?_getD, List.getElem?_eq_getElem (by omega)]
  simp
theorem pk {xs : List Int} {ds : List PyData} {i : Int} (e : ds = xs.map PyData.int) (h0 : 0 ≤ i) (h1 : i < xs.length) : atI ds i = some (.int (gt xs i)) := by
  subst e
  have : i.toNat < xs.length := by omega
  rw [at_nn h0]
  simp [gt, this]
theorem pk3 {a b c i : Int} (h0 : 0 ≤ i) (h1 : i < 3) : atI ([.int a, .int b, .int c] : List PyData) i = some (.int (gt [a, b, c] i)) := pk rfl h0 h1
theorem pkd3 {a b c : Int} {p : Pn} : atI ([.int a, .int b, .int c] : List PyData) (dr p 3) = some (.int (gt [a, b, c] (dr p 3))) := pk3 (dr_nn (by decide)) (dr_lt (by decide))
theorem gd3 {a b c : Int} {p : Pn} {P : Int → Prop} (H : P a ∧ P b ∧ P c) : P (gt [a, b, c] (dr p 3)) := by
  have m := gt_mem (xs := [a, b, c]) (i := dr p 3) (dr_nn (by decide)) (dr_lt (by decide))
  simp only [List.mem_cons, List.not_mem_nil, or_false] at m
  obtain ⟨h0, h1, h2⟩ := H
  rcases m with e | e | e <;> (rw [e]; assumption)
def Wx (x : Option (Fl × Cs)) (Q : Fl → Cs → Prop) : Prop := ∃ f ε, x = some (f, ε) ∧ Q f ε
def Rt (x : Option (C × List C)) (P : C → List C → Prop) : Prop := ∃ c cs, x = some (c, cs) ∧ P c cs
def endQ (io : List Bool) (cs : List C) (P : C → List C → Prop) : Fl → Cs → Prop
  | .rt c, ε => P c (after io cs ε)
  | .nx, ε => P (.sh .none) (after io cs ε)
  | _, _ => False
theorem rt_eq {x : Option (C × List C)} {c : C} {cs : List C} (h : Rt x fun c' cs' => c' = c ∧ cs' = cs) : x = some (c, cs) := by
  obtain ⟨_, _, e, rfl, rfl⟩ := h
  exact e
theorem wx_nx {m n : XM} {ε ε1 : Cs} {Q : Fl → Cs → Prop} (h : m ε = some (.nx, ε1)) (h2 : Wx (n ε1) Q) : Wx (mSeq m n ε) Q := by
  unfold mSeq
  rw [h]
  exact h2
theorem wx_rt {m n : XM} {ε ε1 : Cs} {c : C} {Q : Fl → Cs → Prop} (h : m ε = some (.rt c, ε1)) (h2 : Q (.rt c) ε1) : Wx (mSeq m n ε) Q := by
  unfold mSeq
  rw [h]
  exact ⟨_, _, rfl, h2⟩
theorem wx_fl {m n : XM} {ε ε1 : Cs} {f : Fl} {Q : Fl → Cs → Prop} (h : m ε = some (f, ε1)) (hf : f ≠ .nx) (h2 : Q f ε1) : Wx (mSeq m n ε) Q := by
  unfold mSeq
  rw [h]
  cases f with
  | nx => exact absurd rfl hf
  | bk => exact ⟨_, _, rfl, h2⟩
  | ct => exact ⟨_, _, rfl, h2⟩
  | rt c => exact ⟨_, _, rfl, h2⟩
  | xc x => exact ⟨_, _, rfl, h2⟩
theorem wx_seq {m n : XM} {ε : Cs} {Q : Fl → Cs → Prop} (h : Wx (m ε) fun f ε1 => match f with | .nx => Wx (n ε1) Q | f => Q f ε1) : Wx (mSeq m n ε) Q := by
  obtain ⟨f, ε1, e, q⟩ := h
  unfold mSeq
  rw [e]
  cases f with
  | nx => exact q
  | bk => exact ⟨_, _, rfl, q⟩
  | ct => exact ⟨_, _, rfl, q⟩
  | rt c => exact ⟨_, _, rfl, q⟩
  | xc x => exact ⟨_, _, rfl, q⟩
theorem wx_skip {ε : Cs} {Q : Fl → Cs → Prop} (h : Q .nx ε) : Wx (mSkip ε) Q := ⟨_, _, rfl, h⟩
/-- an if ahead of the rest -/
theorem wx_ifs {t : TM} {m n r : XM} {ε ε1 : Cs} {b : Bool} {Q : Fl → Cs → Prop} (h : t ε = some (b, ε1)) (h1 : b = true → Wx (mSeq m r ε1) Q) (h2 : b = false → Wx (mSeq n r ε1) Q) : Wx (mSeq (mIf t m n) r ε) Q := by
  have e : mIf t m n ε = if b then m ε1 else n ε1 := by
    unfold mIf
    rw [h]
    rfl
  unfold mSeq
  rw [e]
  cases b with
  | true => exact h1 rfl
  | false => exact h2 rfl
theorem wx_in {m n r : XM} {ε : Cs} {Q : Fl → Cs → Prop} (h : Wx (mSeq m (mSeq n r) ε) Q) : Wx (mSeq (mSeq m n) r ε) Q := by
  unfold mSeq at h ⊢
  revert h
  cases m ε with
  | none => exact id
  | some p =>
    obtain ⟨f, ε1⟩ := p
    cases f <;> exact id
theorem wx_sk {r : XM} {ε : Cs} {Q : Fl → Cs → Prop} (h : Wx (r ε) Q) : Wx (mSeq mSkip r ε) Q := h
theorem rt_sem {io : List Bool} {ns : Nat} {m : XM} {cs : List C} {P : C → List C → Prop} (hs : shared io cs = true) (h : Wx (m (cs ++ List.replicate (ns - cs.length) .no)) (endQ io cs P)) : Rt (semF io ns m cs) P := by
  obtain ⟨f, ε, e, q⟩ := h
  unfold semF
  rw [if_pos hs, e]
  cases f with
  | nx => exact ⟨_, _, rfl, q⟩
  | bk => exact q.elim
  | ct => exact q.elim
  | rt c => exact ⟨_, _, rfl, q⟩
  | xc x => exact q.elim
/-- a loop, by what holds ahead of each round -/
theorem wx_for {io : List Nat} {src : SM} {bind : BM} {body : XM} {ε ε1 : Cs} {ds : List PyData} {ws : List Nat} {Q : Fl → Cs → Prop} (J : Nat → Cs → Prop) (hs : src ε = some ((ds, ws), ε1)) (hw : ws.all (fun i => io.contains i) = true)
    (h0 : J 0 ε1) (hJ : ∀ i ε2, J i ε2 → sameC ws ε1 ε2) (hstep : ∀ i d ε2, ds[i]? = some d → J i ε2 → ∃ ε3, bind d ε2 = some ε3 ∧ Wx (body ε3) fun f ε4 => match f with
      | .nx => J (i + 1) ε4
      | .ct => J (i + 1) ε4
      | .bk => Q .nx ε4
      | .rt c => Q (.rt c) ε4
      | .xc x => Q (.xc x) ε4) (hend : ∀ ε2, J ds.length ε2 → Q .nx ε2) : Wx (mFor io src bind body ε) Q := by
  unfold mFor
  simp only [hs, Option.bind_eq_bind, Option.bind_some, hw, if_true]
  have main : ∀ (l : List PyData) (i : Nat) (ε2 : Cs), ds.drop i = l → i ≤ ds.length → J i ε2 → Wx (forL ws ε1 bind body l ε2) Q := by
    intro l
    induction l with
    | nil =>
      intro i ε2 hl hi hj
      unfold forL
      rw [if_pos (hJ i ε2 hj)]
      have : i = ds.length := by
        have := List.drop_eq_nil_iff.mp hl
        omega
      subst this
      exact ⟨_, _, rfl, hend _ hj⟩
    | cons d l ih =>
      intro i ε2 hl hi hj
      unfold forL
      rw [if_pos (hJ i ε2 hj)]
      have hd : ds[i]? = some d := by
        have := congrArg (fun x => x[0]?) hl
        simpa using this
      obtain ⟨ε3, e3, f, ε4, e4, q⟩ := hstep i d ε2 hd hj
      have hi' : i + 1 ≤ ds.length := (List.getElem?_eq_some_iff.mp hd).1
      have hl' : ds.drop (i + 1) = l := by
        rw [← List.drop_drop, hl]
        rfl
      simp only [e3, e4, Option.bind_eq_bind, Option.bind_some]
      cases f with
      | nx => exact ih (i + 1) ε4 hl' hi' q
      | ct => exact ih (i + 1) ε4 hl' hi' q
      | bk => exact ⟨_, _, rfl, q⟩
      | rt c => exact ⟨_, _, rfl, q⟩
      | xc x => exact ⟨_, _, rfl, q⟩
  exact main ds 0 ε1 rfl (Nat.zero_le _) h0
/-- a loop whose source is no locked list: each item is known by its membership -/
theorem wx_each {io : List Nat} {src : SM} {bind : BM} {body : XM} {ε ε1 : Cs} {ds : List PyData} {Q : Fl → Cs → Prop} (J : Cs → Prop) (hs : src ε = some ((ds, []), ε1))
    (h0 : J ε1) (hstep : ∀ d ε2, d ∈ ds → J ε2 → ∃ ε3, bind d ε2 = some ε3 ∧ Wx (body ε3) fun f ε4 => match f with
      | .nx => J ε4
      | .ct => J ε4
      | .bk => Q .nx ε4
      | .rt c => Q (.rt c) ε4
      | .xc x => Q (.xc x) ε4) (hend : ∀ ε2, J ε2 → Q .nx ε2) : Wx (mFor io src bind body ε) Q :=
  wx_for (fun _ => J) hs rfl h0 (fun i ε hj j hj2 => by cases hj2) (fun i d ε2 hd hj => hstep d ε2 (List.mem_of_getElem? hd) hj) hend
/-- while, by a measure -/
theorem wx_while {t : TM} {b : XM} {ε : Cs} {Q : Fl → Cs → Prop} (J : Nat → Cs → Prop) (n : Nat) (h0 : J n ε)
    (hstep : ∀ n ε2, J n ε2 → ∃ k ε3, t ε2 = some (k, ε3) ∧ (k = false → Q .nx ε3) ∧ (k = true → Wx (b ε3) fun f ε4 => match f with
      | .nx => ∃ n', n' < n ∧ J n' ε4
      | .ct => ∃ n', n' < n ∧ J n' ε4
      | .bk => Q .nx ε4
      | .rt c => Q (.rt c) ε4
      | .xc x => Q (.xc x) ε4)) : Wx (mWhile t b ε) Q := by
  have main : ∀ (n : Nat) (ε : Cs), J n ε → ∃ m r, whileN t b m ε = some r ∧ Q r.1 r.2 := by
    intro n
    induction n using Nat.strongRecOn with
    | ind n ih =>
      intro ε hj
      obtain ⟨k, ε3, e3, hf, ht⟩ := hstep n ε hj
      cases k with
      | false => exact ⟨1, (.nx, ε3), by simp [whileN, e3], hf rfl⟩
      | true =>
        obtain ⟨f, ε4, e4, q⟩ := ht rfl
        cases f with
        | nx =>
          obtain ⟨n', hn, hj'⟩ := q
          obtain ⟨m, r, e5, q5⟩ := ih n' hn ε4 hj'
          exact ⟨m + 1, r, by simp [whileN, e3, e4, e5], q5⟩
        | ct =>
          obtain ⟨n', hn, hj'⟩ := q
          obtain ⟨m, r, e5, q5⟩ := ih n' hn ε4 hj'
          exact ⟨m + 1, r, by simp [whileN, e3, e4, e5], q5⟩
        | bk => exact ⟨1, (.nx, ε4), by simp [whileN, e3, e4], q⟩
        | rt c => exact ⟨1, (.rt c, ε4), by simp [whileN, e3, e4], q⟩
        | xc x => exact ⟨1, (.xc x, ε4), by simp [whileN, e3, e4], q⟩
  obtain ⟨m, r, e, q⟩ := main n ε h0
  exact ⟨r.1, r.2, mWhile_of e, q⟩
/-- a comprehension, by what holds ahead of each item -/
theorem lc_rule {src : SM} {bind : BM} {tests : TM} {elt : EM} {own ws : List Nat} {ε ε1 : Cs} {ds : List PyData} (J : Nat → List PyData → Cs → Prop) (hs : src ε = some ((ds, ws), ε1)) (hw : ws.all (fun i => !own.contains i) = true)
    (h0 : J 0 [] (wipeC ε1 own)) (hJ : ∀ i out ε2, J i out ε2 → sameC ws ε1 ε2) (hn : ds.length ≤ sizeLine)
    (hstep : ∀ i d out ε2, ds[i]? = some d → J i out ε2 → ∃ ε3 b ε4, bind d ε2 = some ε3 ∧ tests ε3 = some (b, ε4) ∧ (b = false → J (i + 1) out (wipeC ε4 own)) ∧
      (b = true → ∃ c e ε5, elt ε4 = some (c, ε5) ∧ cD c = some e ∧ J (i + 1) (out ++ [e]) (wipeC ε5 own))) :
    ∃ out ε2, mLc src bind tests elt own ε = some (.ls out, restC ε2 ε1 own) ∧ J ds.length out ε2 := by
  have main : ∀ (l : List PyData) (i : Nat) (acc : List PyData) (ε2 : Cs), ds.drop i = l → i ≤ ds.length → acc.length ≤ i → J i acc ε2 → ∃ out ε3, lcL ws ε1 bind tests elt own l acc.length ε2 = some (out, ε3) ∧ J ds.length (acc ++ out) ε3 := by
    intro l
    induction l with
    | nil =>
      intro i acc ε2 hl hi ha hj
      have : i = ds.length := by
        have := List.drop_eq_nil_iff.mp hl
        omega
      subst this
      refine ⟨[], ε2, ?_, by simpa using hj⟩
      unfold lcL
      rw [if_pos (hJ _ _ _ hj)]
    | cons d l ih =>
      intro i acc ε2 hl hi ha hj
      have hd : ds[i]? = some d := by
        have := congrArg (fun x => x[0]?) hl
        simpa using this
      have hi' : i + 1 ≤ ds.length := (List.getElem?_eq_some_iff.mp hd).1
      have hl' : ds.drop (i + 1) = l := by
        rw [← List.drop_drop, hl]
        rfl
      obtain ⟨ε3, b, ε4, e3, e4, hf, ht⟩ := hstep i d acc ε2 hd hj
      unfold lcL
      rw [if_pos (hJ _ _ _ hj)]
      cases b with
      | false =>
        obtain ⟨out, ε6, e6, j6⟩ := ih (i + 1) acc _ hl' hi' (by omega) (hf rfl)
        exact ⟨out, ε6, by simp [e3, e4, e6], j6⟩
      | true =>
        obtain ⟨c, e, ε5, e5, ec, j5⟩ := ht rfl
        obtain ⟨out, ε6, e6, j6⟩ := ih (i + 1) (acc ++ [e]) _ hl' hi' (by simp; omega) j5
        refine ⟨e :: out, ε6, ?_, by simpa using j6⟩
        have hlt : acc.length < sizeLine := by omega
        have e6' : lcL ws ε1 bind tests elt own l (acc.length + 1) (wipeC ε5 own) = some (out, ε6) := by simpa using e6
        simp [e3, e4, e5, ec, hlt, e6']
  obtain ⟨out, ε3, e, j⟩ := main ds 0 [] _ rfl (Nat.zero_le _) (Nat.le_refl _) h0
  refine ⟨out, ε3, ?_, by simpa using j⟩
  unfold mLc
  have e' : lcL ws ε1 bind tests elt own ds 0 (wipeC ε1 own) = some (out, ε3) := by simpa using e
  simp only [hs, Option.bind_eq_bind, Option.bind_some, hw, if_true, e']
theorem cut_map {α β : Type} (f : α → β) (xs : List α) (lo hi : Option Int) : L2.M.cutL (xs.map f) lo hi = (L2.M.cutL xs lo hi).map f := by
  unfold L2.M.cutL
  simp [List.map_take, List.map_drop]
theorem cut_to {α : Type} (xs : List α) {i : Int} (h : 0 ≤ i) : L2.M.cutL xs none (some i) = xs.take i.toNat := by
  unfold L2.M.cutL HT.sIx
  simp only [if_neg (show ¬ i < 0 by omega), List.drop_zero, Nat.sub_zero]
  by_cases k : i.toNat ≤ xs.length
  · rw [Nat.min_eq_left k]
  · rw [Nat.min_eq_right (by omega), List.take_length, List.take_of_length_le (by omega)]
theorem cut_from {α : Type} (xs : List α) {i : Int} (h : 0 ≤ i) : L2.M.cutL xs (some i) none = xs.drop i.toNat := by
  unfold L2.M.cutL HT.sIx
  simp only [if_neg (show ¬ i < 0 by omega)]
  by_cases k : i.toNat ≤ xs.length
  · rw [Nat.min_eq_left k, List.take_of_length_le (by simp)]
  · rw [Nat.min_eq_right (by omega)]
    simp only [List.drop_length, List.take_nil]
    rw [List.drop_eq_nil_of_le (by omega)]
theorem cut_len {α : Type} (xs : List α) (lo hi : Option Int) : (L2.M.cutL xs lo hi).length ≤ xs.length := by
  unfold L2.M.cutL
  simp only [List.length_take, List.length_drop]
  omega
@[simp] def whole : PyData → Bool
  | .int _ => true
  | _ => false
def num (d : PyData) (lo hi : Int) : Bool := match d with
  | .int i => decide (lo ≤ i) && decide (i ≤ hi)
  | _ => false
def lay (n : Nat) (d : PyData) : Bool := d.canLay0 && decide (d.depth ≤ n)
theorem shaped_lay (d : PyData) : SeqAt.shaped d = lay 64 d := rfl
theorem lay_int (n : Nat) (i : Int) : lay n (.int i) = true := by simp [lay, PyData.canLay0, PyData.depth]
theorem lay_bool (n : Nat) (i : Bool) : lay n (.bool i) = true := by simp [lay, PyData.canLay0, PyData.depth]
theorem lay_none (n : Nat) : lay n .none = true := by simp [lay, PyData.canLay0, PyData.depth]
theorem lay_dict (n : Nat) (s : List (PyData × PyData)) : lay n (.dict s) = false := by simp [lay, PyData.canLay0]
theorem lay_all (n : Nat) : ∀ ds : List PyData, (PyData.canLayAll0 ds && decide (PyData.depthAll ds ≤ n)) = ds.all (lay n)
  | [] => by simp [PyData.canLayAll0, PyData.depthAll]
  | d :: ds => by
    have ih := lay_all n ds
    simp only [PyData.canLayAll0, PyData.depthAll, List.all_cons, ← ih, lay]
    by_cases h1 : d.canLay0 = true <;> by_cases h2 : PyData.canLayAll0 ds = true <;> by_cases h3 : d.depth ≤ n <;> by_cases h4 : PyData.depthAll ds ≤ n <;> simp [h1, h2, h3, h4, Nat.max_le]
theorem lay_tup {n : Nat} (ds : List PyData) (h : 0 < n) : lay n (.tuple ds) = ds.all (lay (n - 1)) := by
  rw [← lay_all]
  simp only [lay, PyData.canLay0, PyData.depth]
  have : (PyData.depthAll ds + 1 ≤ n) = (PyData.depthAll ds ≤ n - 1) := by
    apply propext
    omega
  simp only [this]
theorem lay_list {n : Nat} (ds : List PyData) (h : 0 < n) : lay n (.list ds) = ds.all (lay (n - 1)) := by
  rw [← lay_all]
  simp only [lay, PyData.canLay0, PyData.depth]
  have : (PyData.depthAll ds + 1 ≤ n) = (PyData.depthAll ds ≤ n - 1) := by
    apply propext
    omega
  simp only [this]
theorem lay_ints (n : Nat) (ns : List Int) : (ns.map PyData.int).all (lay n) = true := by
  simp [List.all_map, lay_int]
theorem lay_mono {n m : Nat} {d : PyData} (h : n ≤ m) (l : lay n d = true) : lay m d = true := by
  simp only [lay, Bool.and_eq_true, decide_eq_true_eq] at l ⊢
  exact ⟨l.1, Nat.le_trans l.2 h⟩
end KW
namespace KW
open PySem PySem.Spec PyProof.Rows L2 L2.M
local macro_rules | `(tactic| walk_at "ev") => `(tactic| simp [semF, shared, after, mSeq, mSkip, mIf, mRet, mRetN, mRetV, mSet, mSetIx, mExpr, mB, mU, mTm, mPl, mK, mVar, mOp, mCons, mNil, bor, bors, mTst, mAndT, mOrT, mNotT, mAndE, mOrE, mNotE, mIfE, mIsi, isiD, mChn, chnL, cmpD, binD, addD, subD, mulD, modD, fdivD, powD, eqD, neD, ltD, leD, gtD, geD, isD, isnD, L2.M.isNon, negD, ixD, Bf.f, Bg.f, lenD, L2.M.intD, maxD, minD, repD, strD, gmaxD, gminD, sumD, sortD, anyD, allD, mCall, frz, fzO, lend, wb, mTup, mLst, fzs, cD, mAsg, bTup, bTps, mApp, tupD, lstD, mRev, revD, ofs_inj, ee_ii, ee_ss, ee_bb, ee_nn, ee_is, ee_si, ee_in, ee_ni, ee_tt, ee_ll, ee_maps, ee_0, ee_1, ee_2, ee_3, at_lit, at_nat, at_m1, at_m2, scD, emD, sizeLine_eq, ixN, sm_lit, mSrc, itemsD, plOf, rng1D, bNm, mSl, mPt, mNoP, slD, mPar, keepT, tmsO, setA, mFlow, zipX, enumX, itemsX, intsOf, ints_all, boolsOf, shaped_lay, lay_int, lay_bool, lay_none, lay_dict, lay_tup, lay_list, lay_ints, sortX_ints, mPlF, mPlI, mRd, mPU, mPB, mFSet, mFNew, mNSet, mPApp, mPSetIx, mPPop, mMeth, mNew, isIns, cellO, mLstN, mAddN, mAppN, semX, mTold, mCallX, xRet, xExpr, xSet, mRaise, mM, isL, isS, mOrV, truD])
local macro_rules | `(tactic| walk_at "es") => `(tactic| simp [semF, shared, after, mSeq, mSkip, mIf, mRet, mRetN, mRetV, mSet, mSetIx, mExpr, mB, mU, mTm, mPl, mK, mVar, mOp, mCons, mNil, bor, bors, mTst, mAndT, mOrT, mNotT, mAndE, mOrE, mNotE, mIfE, mIsi, isiD, mChn, chnL, cmpD, binD, addD, subD, mulD, modD, fdivD, powD, eqD, neD, ltD, leD, gtD, geD, isD, isnD, L2.M.isNon, negD, ixD, Bf.f, Bg.f, lenD, L2.M.intD, maxD, minD, repD, strD, gmaxD, gminD, sumD, sortD, anyD, allD, mCall, frz, fzO, lend, wb, mTup, mLst, fzs, cD, mAsg, bTup, bTps, mApp, tupD, lstD, mRev, revD, ofs_inj, ee_ii, ee_ss, ee_bb, ee_nn, ee_is, ee_si, ee_in, ee_ni, ee_tt, ee_ll, ee_maps, ee_0, ee_1, ee_2, ee_3, at_lit, at_nat, at_m1, at_m2, scD, emD, sizeLine_eq, ixN, sm_lit, mSrc, itemsD, plOf, rng1D, bNm, mSl, mPt, mNoP, slD, mPar, keepT, tmsO, setA, mFlow, zipX, enumX, itemsX, intsOf, ints_all, boolsOf, shaped_lay, lay_int, lay_bool, lay_none, lay_dict, lay_tup, lay_list, lay_ints, sortX_ints, mPlF, mPlI, mRd, mPU, mPB, mFSet, mFNew, mNSet, mPApp, mPSetIx, mPPop, mMeth, mNew, isIns, cellO, mLstN, mAddN, mAppN, semX, mTold, mCallX, xRet, xExpr, xSet, mRaise, mM, isL, isS, mOrV, truD, *])
local macro_rules | `(tactic| walk_at "el") => `(tactic| simp [semF, shared, after, mSeq, mSkip, mIf, mRet, mRetN, mRetV, mSet, mSetIx, mExpr, mB, mU, mTm, mPl, mK, mVar, mOp, mCons, mNil, bor, bors, mTst, mAndT, mOrT, mNotT, mAndE, mOrE, mNotE, mIfE, mIsi, isiD, mChn, chnL, cmpD, binD, addD, subD, mulD, modD, fdivD, powD, eqD, neD, ltD, leD, gtD, geD, isD, isnD, L2.M.isNon, negD, ixD, Bf.f, Bg.f, lenD, L2.M.intD, maxD, minD, repD, strD, gmaxD, gminD, sumD, sortD, anyD, allD, mCall, frz, fzO, lend, wb, mTup, mLst, fzs, cD, mAsg, bTup, bTps, mApp, tupD, lstD, mRev, revD, ofs_inj, ee_ii, ee_ss, ee_bb, ee_nn, ee_is, ee_si, ee_in, ee_ni, ee_tt, ee_ll, ee_maps, ee_0, ee_1, ee_2, ee_3, at_lit, at_nat, at_m1, at_m2, scD, emD, sizeLine_eq, ixN, sm_lit, mSrc, itemsD, plOf, rng1D, bNm, mSl, mPt, mNoP, slD, mPar, keepT, tmsO, setA, mFlow, zipX, enumX, itemsX, intsOf, ints_all, boolsOf, shaped_lay, lay_int, lay_bool, lay_none, lay_dict, lay_tup, lay_list, lay_ints, sortX_ints, mPlF, mPlI, mRd, mPU, mPB, mFSet, mFNew, mNSet, mPApp, mPSetIx, mPPop, mMeth, mNew, isIns, cellO, mLstN, mAddN, mAppN, semX, mTold, mCallX, xRet, xExpr, xSet, mRaise, mM, isL, isS, mOrV, truD, mLc, lcL, sameC, wipeC, restC, mYes, *])
local macro_rules | `(tactic| walk_at "ef") => `(tactic| simp [semF, shared, after, mSeq, mSkip, mIf, mRet, mRetN, mRetV, mSet, mSetIx, mExpr, mB, mU, mTm, mPl, mK, mVar, mOp, mCons, mNil, bor, bors, mTst, mAndT, mOrT, mNotT, mAndE, mOrE, mNotE, mIfE, mIsi, isiD, mChn, chnL, cmpD, binD, addD, subD, mulD, modD, fdivD, powD, eqD, neD, ltD, leD, gtD, geD, isD, isnD, L2.M.isNon, negD, ixD, Bf.f, Bg.f, lenD, L2.M.intD, maxD, minD, repD, strD, gmaxD, gminD, sumD, sortD, anyD, allD, mCall, frz, fzO, lend, wb, mTup, mLst, fzs, cD, mAsg, bTup, bTps, mApp, tupD, lstD, mRev, revD, ofs_inj, ee_ii, ee_ss, ee_bb, ee_nn, ee_is, ee_si, ee_in, ee_ni, ee_tt, ee_ll, ee_maps, ee_0, ee_1, ee_2, ee_3, at_lit, at_nat, at_m1, at_m2, scD, emD, sizeLine_eq, ixN, sm_lit, mSrc, itemsD, plOf, rng1D, bNm, mSl, mPt, mNoP, slD, mPar, keepT, tmsO, setA, mFlow, zipX, enumX, itemsX, intsOf, ints_all, boolsOf, shaped_lay, lay_int, lay_bool, lay_none, lay_dict, lay_tup, lay_list, lay_ints, sortX_ints, mPlF, mPlI, mRd, mPU, mPB, mFSet, mFNew, mNSet, mPApp, mPSetIx, mPPop, mMeth, mNew, isIns, cellO, mLstN, mAddN, mAppN, semX, mTold, mCallX, xRet, xExpr, xSet, mRaise, mM, isL, isS, mOrV, truD, mFor, forL, mLc, lcL, sameC, wipeC, restC, mYes, *])
local macro_rules | `(tactic| walk_at "rg") => `(tactic| (and_intros <;> grind))
local macro_rules | `(tactic| walk_at "nx") => `(tactic| (apply wx_nx; focus (walk_at "ev"; try first | exact ⟨rfl, rfl⟩ | rfl)))
local macro_rules | `(tactic| walk_at "ns") => `(tactic| (apply wx_nx; focus (walk_at "es"; try first | exact ⟨rfl, rfl⟩ | rfl)))
local macro_rules | `(tactic| walk_at "rt") => `(tactic| (apply wx_rt; focus (walk_at "ev"; try first | exact ⟨rfl, rfl⟩ | rfl)))
local macro_rules | `(tactic| walk_at "rs") => `(tactic| (apply wx_rt; focus (walk_at "es"; try first | exact ⟨rfl, rfl⟩ | rfl)))
local macro_rules | `(tactic| walk_at "ed") => `(tactic| simp [semF, shared, after, mSeq, mSkip, mIf, mRet, mRetN, mRetV, mSet, mSetIx, mExpr, mB, mU, mTm, mPl, mK, mVar, mOp, mCons, mNil, bor, bors, mTst, mAndT, mOrT, mNotT, mAndE, mOrE, mNotE, mIfE, mIsi, isiD, mChn, chnL, cmpD, binD, addD, subD, mulD, modD, fdivD, powD, eqD, neD, ltD, leD, gtD, geD, isD, isnD, L2.M.isNon, negD, ixD, Bf.f, Bg.f, lenD, L2.M.intD, maxD, minD, repD, strD, gmaxD, gminD, sumD, sortD, anyD, allD, mCall, frz, fzO, lend, wb, mTup, mLst, fzs, cD, mAsg, bTup, bTps, mApp, tupD, lstD, mRev, revD, ofs_inj, ee_ii, ee_ss, ee_bb, ee_nn, ee_is, ee_si, ee_in, ee_ni, ee_tt, ee_ll, ee_maps, ee_0, ee_1, ee_2, ee_3, at_lit, at_nat, at_m1, at_m2, scD, emD, sizeLine_eq, ixN, sm_lit, mSrc, itemsD, plOf, rng1D, bNm, mSl, mPt, mNoP, slD, mPar, keepT, tmsO, setA, mFlow, zipX, enumX, itemsX, intsOf, ints_all, boolsOf, shaped_lay, lay_int, lay_bool, lay_none, lay_dict, lay_tup, lay_list, lay_ints, sortX_ints, mPlF, mPlI, mRd, mPU, mPB, mFSet, mFNew, mNSet, mPApp, mPSetIx, mPPop, mMeth, mNew, isIns, cellO, mLstN, mAddN, mAppN, semX, mTold, mCallX, xRet, xExpr, xSet, mRaise, mM, isL, isS, mOrV, truD, mDNew, mDIn, mDGet, mDLen, mDPut, kyD, mNNew, mN1, mTake, mFnV, mCallF, mNIn, mNGet, mNPut, mNVals, mNList, nKs, mDGetD, mDList, mNNe, *])
section
variable {m n : EM} {ε ε1 ε2 : Cs} {c c1 c2 c' : C} {d d1 d2 : PyData} {io : List Nat} {i : Nat} {b : Bool}
theorem e_ret (h : m ε = some (c, ε1)) : mRet m ε = some (.rt c, ε1) := by simp [mRet, h]
theorem e_set (h : m ε = some (c, ε1)) (hi : i < ε1.length) (hio : i ∉ io) : mSet io i m ε = some (.nx, ε1.set i c) := by simp [mSet, h, hi, hio]
theorem e_op1 {f : List PyData → Option C} (h : m ε = some (c, ε1)) (hd : cD c = some d) (hf : f [d] = some c') : mOp f (mCons (mTm m) mNil) ε = some (c', ε1) := by
  cases c <;> simp [cD] at hd <;> subst hd <;> simp [mOp, mCons, mTm, mNil, h, bors, bor, hf]
end
theorem set_back {ε : Cs} {i : Nat} {c0 c1 : C} (h : ε[i]? = some c0) : (ε.set i c1).set i c0 = ε := by
  rw [List.set_set]
  apply List.ext_getElem?
  intro j
  by_cases ej : i = j
  · subst ej
    rw [List.getElem?_set_self (List.getElem?_eq_some_iff.mp h).1, h]
  · rw [List.getElem?_set_ne ej]
/-- a comprehension over items of one form -/
theorem mLc_enc {α : Type} (f e : α → PyData) {i : Nat} {src : SM} {m : EM} {ε ε1 : Cs} {xs : List α} {c0 : C} {ws : List Nat} (hs : src ε = some ((xs.map f, ws), ε1)) (h1 : ε1[i]? = some c0) (h : ∀ x ∈ xs, ∃ c, m (ε1.set i (.sh (f x))) = some (c, ε1.set i (.sh (f x))) ∧ cD c = some (e x)) (hn : xs.length ≤ sizeLine) (hw : ws.all (fun j => !([i] : List Nat).contains j) = true := by rfl) :
    mLc src (bNm i) mYes m [i] ε = some (.ls (xs.map e), ε1) := by
  have hl : i < ε1.length := (List.getElem?_eq_some_iff.mp h1).1
  have hsm : sameC ws ε1 (ε1.set i .no) := by
    intro j hj
    have := List.all_eq_true.mp hw j hj
    have ne : i ≠ j := by
      rintro rfl
      simp at this
    rw [List.getElem?_set_ne ne]
  obtain ⟨out, ε2, e1, e2, e3⟩ := lc_rule (src := src) (bind := bNm i) (tests := mYes) (elt := m) (own := [i]) (ε := ε) (fun k out ε2 => out = (xs.take k).map e ∧ ε2 = ε1.set i .no) hs hw ⟨by simp, by simp [wipeC]⟩ (fun _ _ _ h => by rw [h.2]; exact hsm) (by simpa using hn) (by
    rintro k d out ε2 hd ⟨rfl, rfl⟩
    rw [List.getElem?_map] at hd
    obtain ⟨x, hx, rfl⟩ := Option.map_eq_some_iff.mp hd
    obtain ⟨hk, rfl⟩ := List.getElem?_eq_some_iff.mp hx
    obtain ⟨c, g1, g2⟩ := h _ (List.getElem_mem hk)
    refine ⟨ε1.set i (.sh (f xs[k])), true, _, by simp [bNm, hl], rfl, fun z => (by cases z), fun _ => ⟨c, _, _, g1, g2, ?_, ?_⟩⟩
    · rw [List.take_succ_eq_append_getElem hk, List.map_append]
      rfl
    · simp [wipeC])
  subst e3
  rw [List.length_map, List.take_of_length_le (Nat.le_refl _)] at e2
  subst e2
  rw [e1]
  simp only [restC, h1]
  rw [set_back h1]
/-- a comprehension over pairs, taken apart -/
theorem mLc_two {α : Type} (f1 f2 e : α → PyData) {i j : Nat} {src : SM} {m : EM} {ε ε1 : Cs} {xs : List α} {c0 c1 : C} {ws : List Nat} (hs : src ε = some ((xs.map fun x => PyData.tuple [f1 x, f2 x], ws), ε1)) (hij : i ≠ j) (h0 : ε1[i]? = some c0) (h1 : ε1[j]? = some c1) (h : ∀ x ∈ xs, ∃ c, m ((ε1.set i (.sh (f1 x))).set j (.sh (f2 x))) = some (c, (ε1.set i (.sh (f1 x))).set j (.sh (f2 x))) ∧ cD c = some (e x)) (hn : xs.length ≤ sizeLine) (hw : ws.all (fun k => !([i, j] : List Nat).contains k) = true := by rfl) :
    mLc src (bTup [bNm i, bNm j]) mYes m [i, j] ε = some (.ls (xs.map e), ε1) := by
  have hl : i < ε1.length := (List.getElem?_eq_some_iff.mp h0).1
  have hl2 : j < ε1.length := (List.getElem?_eq_some_iff.mp h1).1
  have hsm : sameC ws ε1 ((ε1.set j .no).set i .no) := by
    intro k hk
    have := List.all_eq_true.mp hw k hk
    simp at this
    rw [List.getElem?_set_ne (by omega), List.getElem?_set_ne (by omega)]
  obtain ⟨out, ε2, e1, e2, e3⟩ := lc_rule (src := src) (bind := bTup [bNm i, bNm j]) (tests := mYes) (elt := m) (own := [i, j]) (ε := ε) (fun k out ε2 => out = (xs.take k).map e ∧ ε2 = (ε1.set j .no).set i .no) hs hw ⟨by simp, by simp [wipeC]⟩ (fun _ _ _ h => by rw [h.2]; exact hsm) (by simpa using hn) (by
    rintro k d out ε2 hd ⟨rfl, rfl⟩
    rw [List.getElem?_map] at hd
    obtain ⟨x, hx, rfl⟩ := Option.map_eq_some_iff.mp hd
    obtain ⟨hk, rfl⟩ := List.getElem?_eq_some_iff.mp hx
    obtain ⟨c, g1, g2⟩ := h _ (List.getElem_mem hk)
    refine ⟨(ε1.set i (.sh (f1 xs[k]))).set j (.sh (f2 xs[k])), true, _, by simp [bTup, bTps, bNm, hl, hl2]; rw [List.set_comm _ _ (show j ≠ i by omega), List.set_set], rfl, fun z => (by cases z), fun _ => ⟨c, _, _, g1, g2, ?_, ?_⟩⟩
    · rw [List.take_succ_eq_append_getElem hk, List.map_append]
      rfl
    · simp only [wipeC, List.set_set]
      rw [List.set_comm _ _ hij, List.set_set, List.set_comm _ _ (show j ≠ i by omega)])
  subst e3
  rw [List.length_map, List.take_of_length_le (Nat.le_refl _)] at e2
  subst e2
  rw [e1]
  simp only [restC, h0, h1]
  congr 2
  rw [List.set_comm _ _ (show j ≠ i by omega), List.set_set, List.set_comm _ _ hij, List.set_set]
  apply List.ext_getElem?
  intro k
  by_cases ej : i = k
  · subst ej
    rw [List.getElem?_set_self (by simpa using hl), h0]
  · rw [List.getElem?_set_ne ej]
    by_cases ej2 : j = k
    · subst ej2
      rw [List.getElem?_set_self hl2, h1]
    · rw [List.getElem?_set_ne ej2]
theorem src_items {m : EM} {ε ε1 : Cs} {c : C} {ds : List PyData} (h : m ε = some (c, ε1)) (hc : c = .ls ds ∨ c = .sh (.list ds) ∨ c = .sh (.tuple ds)) : mSrc itemsD (mCons (mTm m) mNil) ε = some ((ds, []), ε1) := by
  rcases hc with rfl | rfl | rfl <;> simp [mSrc, mCons, mTm, mNil, h, bors, bor, itemsD, plOf]
end KW
namespace KW
open PySem PySem.Spec PyProof.Rows L2 L2.M
local macro_rules | `(tactic| walk_at "ev") => `(tactic| simp [semF, shared, after, mSeq, mSkip, mIf, mRet, mRetN, mRetV, mSet, mSetIx, mExpr, mB, mU, mTm, mPl, mK, mVar, mOp, mCons, mNil, bor, bors, mTst, mAndT, mOrT, mNotT, mAndE, mOrE, mNotE, mIfE, mIsi, isiD, mChn, chnL, cmpD, binD, addD, subD, mulD, modD, fdivD, powD, eqD, neD, ltD, leD, gtD, geD, isD, isnD, L2.M.isNon, negD, ixD, Bf.f, Bg.f, lenD, L2.M.intD, maxD, minD, repD, strD, gmaxD, gminD, sumD, sortD, anyD, allD, mCall, frz, fzO, lend, wb, mTup, mLst, fzs, cD, mAsg, bTup, bTps, mApp, tupD, lstD, mRev, revD, ofs_inj, ee_ii, ee_ss, ee_bb, ee_nn, ee_is, ee_si, ee_in, ee_ni, ee_tt, ee_ll, ee_maps, ee_0, ee_1, ee_2, ee_3, at_lit, at_nat, at_m1, at_m2, scD, emD, sizeLine_eq, ixN, sm_lit, mSrc, itemsD, plOf, rng1D, bNm, mSl, mPt, mNoP, slD, mPar, keepT, tmsO, setA, mFlow, zipX, enumX, itemsX, intsOf, ints_all, boolsOf, shaped_lay, lay_int, lay_bool, lay_none, lay_dict, lay_tup, lay_list, lay_ints, sortX_ints, mPlF, mPlI, mRd, mPU, mPB, mFSet, mFNew, mNSet, mPApp, mPSetIx, mPPop, mMeth, mNew, isIns, cellO, mLstN, mAddN, mAppN, semX, mTold, mCallX, xRet, xExpr, xSet, mRaise, mM, isL, isS, mOrV, truD])
local macro_rules | `(tactic| walk_at "es") => `(tactic| simp [semF, shared, after, mSeq, mSkip, mIf, mRet, mRetN, mRetV, mSet, mSetIx, mExpr, mB, mU, mTm, mPl, mK, mVar, mOp, mCons, mNil, bor, bors, mTst, mAndT, mOrT, mNotT, mAndE, mOrE, mNotE, mIfE, mIsi, isiD, mChn, chnL, cmpD, binD, addD, subD, mulD, modD, fdivD, powD, eqD, neD, ltD, leD, gtD, geD, isD, isnD, L2.M.isNon, negD, ixD, Bf.f, Bg.f, lenD, L2.M.intD, maxD, minD, repD, strD, gmaxD, gminD, sumD, sortD, anyD, allD, mCall, frz, fzO, lend, wb, mTup, mLst, fzs, cD, mAsg, bTup, bTps, mApp, tupD, lstD, mRev, revD, ofs_inj, ee_ii, ee_ss, ee_bb, ee_nn, ee_is, ee_si, ee_in, ee_ni, ee_tt, ee_ll, ee_maps, ee_0, ee_1, ee_2, ee_3, at_lit, at_nat, at_m1, at_m2, scD, emD, sizeLine_eq, ixN, sm_lit, mSrc, itemsD, plOf, rng1D, bNm, mSl, mPt, mNoP, slD, mPar, keepT, tmsO, setA, mFlow, zipX, enumX, itemsX, intsOf, ints_all, boolsOf, shaped_lay, lay_int, lay_bool, lay_none, lay_dict, lay_tup, lay_list, lay_ints, sortX_ints, mPlF, mPlI, mRd, mPU, mPB, mFSet, mFNew, mNSet, mPApp, mPSetIx, mPPop, mMeth, mNew, isIns, cellO, mLstN, mAddN, mAppN, semX, mTold, mCallX, xRet, xExpr, xSet, mRaise, mM, isL, isS, mOrV, truD, *])
local macro_rules | `(tactic| walk_at "el") => `(tactic| simp [semF, shared, after, mSeq, mSkip, mIf, mRet, mRetN, mRetV, mSet, mSetIx, mExpr, mB, mU, mTm, mPl, mK, mVar, mOp, mCons, mNil, bor, bors, mTst, mAndT, mOrT, mNotT, mAndE, mOrE, mNotE, mIfE, mIsi, isiD, mChn, chnL, cmpD, binD, addD, subD, mulD, modD, fdivD, powD, eqD, neD, ltD, leD, gtD, geD, isD, isnD, L2.M.isNon, negD, ixD, Bf.f, Bg.f, lenD, L2.M.intD, maxD, minD, repD, strD, gmaxD, gminD, sumD, sortD, anyD, allD, mCall, frz, fzO, lend, wb, mTup, mLst, fzs, cD, mAsg, bTup, bTps, mApp, tupD, lstD, mRev, revD, ofs_inj, ee_ii, ee_ss, ee_bb, ee_nn, ee_is, ee_si, ee_in, ee_ni, ee_tt, ee_ll, ee_maps, ee_0, ee_1, ee_2, ee_3, at_lit, at_nat, at_m1, at_m2, scD, emD, sizeLine_eq, ixN, sm_lit, mSrc, itemsD, plOf, rng1D, bNm, mSl, mPt, mNoP, slD, mPar, keepT, tmsO, setA, mFlow, zipX, enumX, itemsX, intsOf, ints_all, boolsOf, shaped_lay, lay_int, lay_bool, lay_none, lay_dict, lay_tup, lay_list, lay_ints, sortX_ints, mPlF, mPlI, mRd, mPU, mPB, mFSet, mFNew, mNSet, mPApp, mPSetIx, mPPop, mMeth, mNew, isIns, cellO, mLstN, mAddN, mAppN, semX, mTold, mCallX, xRet, xExpr, xSet, mRaise, mM, isL, isS, mOrV, truD, mLc, lcL, sameC, wipeC, restC, mYes, *])
local macro_rules | `(tactic| walk_at "ef") => `(tactic| simp [semF, shared, after, mSeq, mSkip, mIf, mRet, mRetN, mRetV, mSet, mSetIx, mExpr, mB, mU, mTm, mPl, mK, mVar, mOp, mCons, mNil, bor, bors, mTst, mAndT, mOrT, mNotT, mAndE, mOrE, mNotE, mIfE, mIsi, isiD, mChn, chnL, cmpD, binD, addD, subD, mulD, modD, fdivD, powD, eqD, neD, ltD, leD, gtD, geD, isD, isnD, L2.M.isNon, negD, ixD, Bf.f, Bg.f, lenD, L2.M.intD, maxD, minD, repD, strD, gmaxD, gminD, sumD, sortD, anyD, allD, mCall, frz, fzO, lend, wb, mTup, mLst, fzs, cD, mAsg, bTup, bTps, mApp, tupD, lstD, mRev, revD, ofs_inj, ee_ii, ee_ss, ee_bb, ee_nn, ee_is, ee_si, ee_in, ee_ni, ee_tt, ee_ll, ee_maps, ee_0, ee_1, ee_2, ee_3, at_lit, at_nat, at_m1, at_m2, scD, emD, sizeLine_eq, ixN, sm_lit, mSrc, itemsD, plOf, rng1D, bNm, mSl, mPt, mNoP, slD, mPar, keepT, tmsO, setA, mFlow, zipX, enumX, itemsX, intsOf, ints_all, boolsOf, shaped_lay, lay_int, lay_bool, lay_none, lay_dict, lay_tup, lay_list, lay_ints, sortX_ints, mPlF, mPlI, mRd, mPU, mPB, mFSet, mFNew, mNSet, mPApp, mPSetIx, mPPop, mMeth, mNew, isIns, cellO, mLstN, mAddN, mAppN, semX, mTold, mCallX, xRet, xExpr, xSet, mRaise, mM, isL, isS, mOrV, truD, mFor, forL, mLc, lcL, sameC, wipeC, restC, mYes, *])
local macro_rules | `(tactic| walk_at "rg") => `(tactic| (and_intros <;> grind))
local macro_rules | `(tactic| walk_at "nx") => `(tactic| (apply wx_nx; focus (walk_at "ev"; try first | exact ⟨rfl, rfl⟩ | rfl)))
local macro_rules | `(tactic| walk_at "ns") => `(tactic| (apply wx_nx; focus (walk_at "es"; try first | exact ⟨rfl, rfl⟩ | rfl)))
local macro_rules | `(tactic| walk_at "rt") => `(tactic| (apply wx_rt; focus (walk_at "ev"; try first | exact ⟨rfl, rfl⟩ | rfl)))
local macro_rules | `(tactic| walk_at "rs") => `(tactic| (apply wx_rt; focus (walk_at "es"; try first | exact ⟨rfl, rfl⟩ | rfl)))
local macro_rules | `(tactic| walk_at "ed") => `(tactic| simp [semF, shared, after, mSeq, mSkip, mIf, mRet, mRetN, mRetV, mSet, mSetIx, mExpr, mB, mU, mTm, mPl, mK, mVar, mOp, mCons, mNil, bor, bors, mTst, mAndT, mOrT, mNotT, mAndE, mOrE, mNotE, mIfE, mIsi, isiD, mChn, chnL, cmpD, binD, addD, subD, mulD, modD, fdivD, powD, eqD, neD, ltD, leD, gtD, geD, isD, isnD, L2.M.isNon, negD, ixD, Bf.f, Bg.f, lenD, L2.M.intD, maxD, minD, repD, strD, gmaxD, gminD, sumD, sortD, anyD, allD, mCall, frz, fzO, lend, wb, mTup, mLst, fzs, cD, mAsg, bTup, bTps, mApp, tupD, lstD, mRev, revD, ofs_inj, ee_ii, ee_ss, ee_bb, ee_nn, ee_is, ee_si, ee_in, ee_ni, ee_tt, ee_ll, ee_maps, ee_0, ee_1, ee_2, ee_3, at_lit, at_nat, at_m1, at_m2, scD, emD, sizeLine_eq, ixN, sm_lit, mSrc, itemsD, plOf, rng1D, bNm, mSl, mPt, mNoP, slD, mPar, keepT, tmsO, setA, mFlow, zipX, enumX, itemsX, intsOf, ints_all, boolsOf, shaped_lay, lay_int, lay_bool, lay_none, lay_dict, lay_tup, lay_list, lay_ints, sortX_ints, mPlF, mPlI, mRd, mPU, mPB, mFSet, mFNew, mNSet, mPApp, mPSetIx, mPPop, mMeth, mNew, isIns, cellO, mLstN, mAddN, mAppN, semX, mTold, mCallX, xRet, xExpr, xSet, mRaise, mM, isL, isS, mOrV, truD, mDNew, mDIn, mDGet, mDLen, mDPut, kyD, mNNew, mN1, mTake, mFnV, mCallF, mNIn, mNGet, mNPut, mNVals, mNList, nKs, mDGetD, mDList, mNNe, *])
structure Shw (k n : Nat) (d : PyData) : Prop where
  l : lay k d = true
  s : d.showable = true
  z : d.shown.length ≤ n
theorem Shw.mono {k k' n n' : Nat} {d : PyData} (h : Shw k n d) (hk : k ≤ k') (hn : n ≤ n') : Shw k' n' d := ⟨lay_mono hk h.l, h.s, Nat.le_trans h.z hn⟩
theorem shw_bool (k : Nat) (b : Bool) : Shw k 5 (.bool b) := ⟨lay_bool k b, by simp [PyData.showable], by cases b <;> (simp only [PyData.shown]; decide)⟩
theorem shw_int (k : Nat) {m : Nat} {i : Int} (hm : 0 < m) (h : i.natAbs < 10 ^ m) (hm2 : m ≤ 60) : Shw k (m + 1) (.int i) := by
  have hb : i.natAbs < 10 ^ 60 := Nat.lt_of_lt_of_le h (Nat.pow_le_pow_right (by decide) hm2)
  refine ⟨lay_int k i, ?_, ?_⟩
  · have := log2_le (i := i) (by omega) (by omega)
    simp only [PyData.showable, decide_eq_true_eq]
    omega
  · simp only [PyData.shown]
    have := int_text_length_le10 hm h
    rw [PySem.ofString_length]
    exact this
theorem shw_i20 (k : Nat) {i : Int} (h1 : -(10 ^ 19) < i) (h2 : i < 10 ^ 19) : Shw k 20 (.int i) := shw_int k (m := 19) (by decide) (by omega) (by decide)
theorem text_len : ∀ (ts : List Str) (k : Nat) (acc : Str), (textFrom k acc ts).length ≤ acc.length + piled ts
  | [], k, acc => by simp [textFrom, piled]
  | t :: ts, k, acc => by
    have ih := text_len ts (k + 1) (acc ++ (if k > 0 then ", " else "" : String) ++ t)
    rw [strLen_append, strLen_append] at ih
    have hs : (Str.ofString (if k > 0 then ", " else "")).length ≤ 2 := by split <;> decide
    have e : textFrom k acc (t :: ts) = textFrom (k + 1) (acc ++ (if k > 0 then ", " else "" : String) ++ t) ts := rfl
    rw [e, piled_cons]
    omega
theorem list_len (ts : List Str) : (listText ts).length ≤ piled ts + 2 := by
  have h := text_len ts 0 "["
  have e : ("[" : Str).length = 1 := by decide
  have e2 : ("]" : Str).length = 1 := by decide
  unfold listText
  rw [strLen_append]
  omega
theorem piled_all : ∀ {k n : Nat} {ds : List PyData}, (∀ d ∈ ds, Shw k n d) → piled (PyData.shownAll ds) ≤ ds.length * (n + 2)
  | k, n, [], _ => by simp [PyData.shownAll, piled]
  | k, n, d :: ds, h => by
    have h1 := (h d List.mem_cons_self).z
    have ih := piled_all (k := k) (n := n) (ds := ds) fun d hd => h d (List.mem_cons_of_mem _ hd)
    simp only [PyData.shownAll, piled_cons, List.length_cons, Nat.add_mul, Nat.one_mul]
    omega
theorem showable_all : ∀ {k n : Nat} {ds : List PyData}, (∀ d ∈ ds, Shw k n d) → PyData.showableAll ds = true
  | k, n, [], _ => by simp [PyData.showableAll]
  | k, n, d :: ds, h => by
    have ih := showable_all (k := k) (n := n) (ds := ds) fun d hd => h d (List.mem_cons_of_mem _ hd)
    simp only [PyData.showableAll, ih, (h d List.mem_cons_self).s, Bool.and_self]
theorem shw_lst {k n : Nat} {ds : List PyData} (h : ∀ d ∈ ds, Shw k n d) : Shw (k + 1) (ds.length * (n + 2) + 3) (.list ds) := by
  refine ⟨?_, ?_, ?_⟩
  · rw [lay_list _ (by omega)]
    simp only [Nat.add_sub_cancel, List.all_eq_true]
    exact fun d hd => (h d hd).l
  · simp only [PyData.showable]
    exact showable_all h
  · simp only [PyData.shown]
    have := list_len (PyData.shownAll ds)
    have := piled_all h
    omega
theorem reprG_eq {k n : Nat} {d : PyData} (h : Shw k n d) (hk : k ≤ 64) (hn : n ≤ sizeLine) : reprG [d] = some (.sh (.str d.shown)) := by
  have h1 : SeqAt.shaped d = true := by
    rw [shaped_lay]
    exact lay_mono hk h.l
  have h2 := h.s
  have h3 := Nat.le_trans h.z hn
  simp only [reprG]
  rw [if_pos ⟨h1, h2, h3⟩]
/-- of tuples of tuples and the like: each item by its own bound -/
theorem shw_cons {k n : Nat} {d : PyData} {ds : List PyData} (h1 : Shw k n d) (h2 : ∀ d ∈ ds, Shw k n d) : ∀ x ∈ d :: ds, Shw k n x := by
  intro x hx
  rcases List.mem_cons.mp hx with rfl | hx
  · exact h1
  · exact h2 x hx
theorem shw_nil {k n : Nat} : ∀ x ∈ ([] : List PyData), Shw k n x := fun x hx => by cases hx
end KW
namespace KW
open PySem PySem.Spec PyProof.Rows L2 L2.M
local macro_rules | `(tactic| walk_at "ev") => `(tactic| simp [semF, shared, after, mSeq, mSkip, mIf, mRet, mRetN, mRetV, mSet, mSetIx, mExpr, mB, mU, mTm, mPl, mK, mVar, mOp, mCons, mNil, bor, bors, mTst, mAndT, mOrT, mNotT, mAndE, mOrE, mNotE, mIfE, mIsi, isiD, mChn, chnL, cmpD, binD, addD, subD, mulD, modD, fdivD, powD, eqD, neD, ltD, leD, gtD, geD, isD, isnD, L2.M.isNon, negD, ixD, Bf.f, Bg.f, lenD, L2.M.intD, maxD, minD, repD, strD, gmaxD, gminD, sumD, sortD, anyD, allD, mCall, frz, fzO, lend, wb, mTup, mLst, fzs, cD, mAsg, bTup, bTps, mApp, tupD, lstD, mRev, revD, ofs_inj, ee_ii, ee_ss, ee_bb, ee_nn, ee_is, ee_si, ee_in, ee_ni, ee_tt, ee_ll, ee_maps, ee_0, ee_1, ee_2, ee_3, at_lit, at_nat, at_m1, at_m2, scD, emD, sizeLine_eq, ixN, sm_lit, mSrc, itemsD, plOf, rng1D, bNm, mSl, mPt, mNoP, slD, mPar, keepT, tmsO, setA, mFlow, zipX, enumX, itemsX, intsOf, ints_all, boolsOf, shaped_lay, lay_int, lay_bool, lay_none, lay_dict, lay_tup, lay_list, lay_ints, sortX_ints, mPlF, mPlI, mRd, mPU, mPB, mFSet, mFNew, mNSet, mPApp, mPSetIx, mPPop, mMeth, mNew, isIns, cellO, mLstN, mAddN, mAppN, semX, mTold, mCallX, xRet, xExpr, xSet, mRaise, mM, isL, isS, mOrV, truD])
local macro_rules | `(tactic| walk_at "es") => `(tactic| simp [semF, shared, after, mSeq, mSkip, mIf, mRet, mRetN, mRetV, mSet, mSetIx, mExpr, mB, mU, mTm, mPl, mK, mVar, mOp, mCons, mNil, bor, bors, mTst, mAndT, mOrT, mNotT, mAndE, mOrE, mNotE, mIfE, mIsi, isiD, mChn, chnL, cmpD, binD, addD, subD, mulD, modD, fdivD, powD, eqD, neD, ltD, leD, gtD, geD, isD, isnD, L2.M.isNon, negD, ixD, Bf.f, Bg.f, lenD, L2.M.intD, maxD, minD, repD, strD, gmaxD, gminD, sumD, sortD, anyD, allD, mCall, frz, fzO, lend, wb, mTup, mLst, fzs, cD, mAsg, bTup, bTps, mApp, tupD, lstD, mRev, revD, ofs_inj, ee_ii, ee_ss, ee_bb, ee_nn, ee_is, ee_si, ee_in, ee_ni, ee_tt, ee_ll, ee_maps, ee_0, ee_1, ee_2, ee_3, at_lit, at_nat, at_m1, at_m2, scD, emD, sizeLine_eq, ixN, sm_lit, mSrc, itemsD, plOf, rng1D, bNm, mSl, mPt, mNoP, slD, mPar, keepT, tmsO, setA, mFlow, zipX, enumX, itemsX, intsOf, ints_all, boolsOf, shaped_lay, lay_int, lay_bool, lay_none, lay_dict, lay_tup, lay_list, lay_ints, sortX_ints, mPlF, mPlI, mRd, mPU, mPB, mFSet, mFNew, mNSet, mPApp, mPSetIx, mPPop, mMeth, mNew, isIns, cellO, mLstN, mAddN, mAppN, semX, mTold, mCallX, xRet, xExpr, xSet, mRaise, mM, isL, isS, mOrV, truD, *])
local macro_rules | `(tactic| walk_at "el") => `(tactic| simp [semF, shared, after, mSeq, mSkip, mIf, mRet, mRetN, mRetV, mSet, mSetIx, mExpr, mB, mU, mTm, mPl, mK, mVar, mOp, mCons, mNil, bor, bors, mTst, mAndT, mOrT, mNotT, mAndE, mOrE, mNotE, mIfE, mIsi, isiD, mChn, chnL, cmpD, binD, addD, subD, mulD, modD, fdivD, powD, eqD, neD, ltD, leD, gtD, geD, isD, isnD, L2.M.isNon, negD, ixD, Bf.f, Bg.f, lenD, L2.M.intD, maxD, minD, repD, strD, gmaxD, gminD, sumD, sortD, anyD, allD, mCall, frz, fzO, lend, wb, mTup, mLst, fzs, cD, mAsg, bTup, bTps, mApp, tupD, lstD, mRev, revD, ofs_inj, ee_ii, ee_ss, ee_bb, ee_nn, ee_is, ee_si, ee_in, ee_ni, ee_tt, ee_ll, ee_maps, ee_0, ee_1, ee_2, ee_3, at_lit, at_nat, at_m1, at_m2, scD, emD, sizeLine_eq, ixN, sm_lit, mSrc, itemsD, plOf, rng1D, bNm, mSl, mPt, mNoP, slD, mPar, keepT, tmsO, setA, mFlow, zipX, enumX, itemsX, intsOf, ints_all, boolsOf, shaped_lay, lay_int, lay_bool, lay_none, lay_dict, lay_tup, lay_list, lay_ints, sortX_ints, mPlF, mPlI, mRd, mPU, mPB, mFSet, mFNew, mNSet, mPApp, mPSetIx, mPPop, mMeth, mNew, isIns, cellO, mLstN, mAddN, mAppN, semX, mTold, mCallX, xRet, xExpr, xSet, mRaise, mM, isL, isS, mOrV, truD, mLc, lcL, sameC, wipeC, restC, mYes, *])
local macro_rules | `(tactic| walk_at "ef") => `(tactic| simp [semF, shared, after, mSeq, mSkip, mIf, mRet, mRetN, mRetV, mSet, mSetIx, mExpr, mB, mU, mTm, mPl, mK, mVar, mOp, mCons, mNil, bor, bors, mTst, mAndT, mOrT, mNotT, mAndE, mOrE, mNotE, mIfE, mIsi, isiD, mChn, chnL, cmpD, binD, addD, subD, mulD, modD, fdivD, powD, eqD, neD, ltD, leD, gtD, geD, isD, isnD, L2.M.isNon, negD, ixD, Bf.f, Bg.f, lenD, L2.M.intD, maxD, minD, repD, strD, gmaxD, gminD, sumD, sortD, anyD, allD, mCall, frz, fzO, lend, wb, mTup, mLst, fzs, cD, mAsg, bTup, bTps, mApp, tupD, lstD, mRev, revD, ofs_inj, ee_ii, ee_ss, ee_bb, ee_nn, ee_is, ee_si, ee_in, ee_ni, ee_tt, ee_ll, ee_maps, ee_0, ee_1, ee_2, ee_3, at_lit, at_nat, at_m1, at_m2, scD, emD, sizeLine_eq, ixN, sm_lit, mSrc, itemsD, plOf, rng1D, bNm, mSl, mPt, mNoP, slD, mPar, keepT, tmsO, setA, mFlow, zipX, enumX, itemsX, intsOf, ints_all, boolsOf, shaped_lay, lay_int, lay_bool, lay_none, lay_dict, lay_tup, lay_list, lay_ints, sortX_ints, mPlF, mPlI, mRd, mPU, mPB, mFSet, mFNew, mNSet, mPApp, mPSetIx, mPPop, mMeth, mNew, isIns, cellO, mLstN, mAddN, mAppN, semX, mTold, mCallX, xRet, xExpr, xSet, mRaise, mM, isL, isS, mOrV, truD, mFor, forL, mLc, lcL, sameC, wipeC, restC, mYes, *])
local macro_rules | `(tactic| walk_at "rg") => `(tactic| (and_intros <;> grind))
local macro_rules | `(tactic| walk_at "nx") => `(tactic| (apply wx_nx; focus (walk_at "ev"; try first | exact ⟨rfl, rfl⟩ | rfl)))
local macro_rules | `(tactic| walk_at "ns") => `(tactic| (apply wx_nx; focus (walk_at "es"; try first | exact ⟨rfl, rfl⟩ | rfl)))
local macro_rules | `(tactic| walk_at "rt") => `(tactic| (apply wx_rt; focus (walk_at "ev"; try first | exact ⟨rfl, rfl⟩ | rfl)))
local macro_rules | `(tactic| walk_at "rs") => `(tactic| (apply wx_rt; focus (walk_at "es"; try first | exact ⟨rfl, rfl⟩ | rfl)))
local macro_rules | `(tactic| walk_at "ed") => `(tactic| simp [semF, shared, after, mSeq, mSkip, mIf, mRet, mRetN, mRetV, mSet, mSetIx, mExpr, mB, mU, mTm, mPl, mK, mVar, mOp, mCons, mNil, bor, bors, mTst, mAndT, mOrT, mNotT, mAndE, mOrE, mNotE, mIfE, mIsi, isiD, mChn, chnL, cmpD, binD, addD, subD, mulD, modD, fdivD, powD, eqD, neD, ltD, leD, gtD, geD, isD, isnD, L2.M.isNon, negD, ixD, Bf.f, Bg.f, lenD, L2.M.intD, maxD, minD, repD, strD, gmaxD, gminD, sumD, sortD, anyD, allD, mCall, frz, fzO, lend, wb, mTup, mLst, fzs, cD, mAsg, bTup, bTps, mApp, tupD, lstD, mRev, revD, ofs_inj, ee_ii, ee_ss, ee_bb, ee_nn, ee_is, ee_si, ee_in, ee_ni, ee_tt, ee_ll, ee_maps, ee_0, ee_1, ee_2, ee_3, at_lit, at_nat, at_m1, at_m2, scD, emD, sizeLine_eq, ixN, sm_lit, mSrc, itemsD, plOf, rng1D, bNm, mSl, mPt, mNoP, slD, mPar, keepT, tmsO, setA, mFlow, zipX, enumX, itemsX, intsOf, ints_all, boolsOf, shaped_lay, lay_int, lay_bool, lay_none, lay_dict, lay_tup, lay_list, lay_ints, sortX_ints, mPlF, mPlI, mRd, mPU, mPB, mFSet, mFNew, mNSet, mPApp, mPSetIx, mPPop, mMeth, mNew, isIns, cellO, mLstN, mAddN, mAppN, semX, mTold, mCallX, xRet, xExpr, xSet, mRaise, mM, isL, isS, mOrV, truD, mDNew, mDIn, mDGet, mDLen, mDPut, kyD, mNNew, mN1, mTake, mFnV, mCallF, mNIn, mNGet, mNPut, mNVals, mNList, nKs, mDGetD, mDList, mNNe, *])
theorem at_in {α : Type} {xs : List α} {i : Int} (h0 : 0 ≤ i) (h1 : i < xs.length) : ∃ d ∈ xs, atI xs i = some d := by
  rw [at_nn h0, List.getElem?_eq_getElem (by omega)]
  exact ⟨_, List.getElem_mem _, rfl⟩
theorem at_dr {α : Type} {xs : List α} {p : Pn} {n : Int} (hn : 0 < n) (h1 : n ≤ xs.length) : ∃ d ∈ xs, atI xs (dr p n) = some d := at_in (dr_nn hn) (by have := dr_lt (p := p) hn; omega)
/-- all([w(x) for x in xs]) -/
theorem mLc_all (f : PyData → Bool) {i : Nat} {src : SM} {m : EM} {ε ε1 : Cs} {ds : List PyData} {c0 : C} {ws : List Nat} (hs : src ε = some ((ds, ws), ε1)) (h1 : ε1[i]? = some c0) (h : ∀ d ∈ ds, m (ε1.set i (.sh d)) = some (.sh (.bool (f d)), ε1.set i (.sh d))) (hn : ds.length ≤ sizeLine) (hw : ws.all (fun j => !([i] : List Nat).contains j) = true := by rfl) :
    mOp (Bg.f .all) (mCons (mTm (mLc src (bNm i) mYes m [i])) mNil) ε = some (.sh (.bool (ds.all f)), ε1) := by
  refine e_op1 (mLc_enc id (fun d => .bool (f d)) (by rw [List.map_id]; exact hs) h1 (fun d hd => ⟨_, h d hd, rfl⟩) hn hw) rfl ?_
  simp [Bg.f, allD, bools_map]
/-- a number's place, or none -/
theorem whole_int {d : PyData} (h : whole d = true) : ∃ i, d = .int i := by
  cases d <;> first | exact ⟨_, rfl⟩ | cases h
/-- a tuple, if it is one, isn't long -/
def Sml (d : PyData) : Prop := ∀ ds, d = .tuple ds → ds.length ≤ 1000
theorem sml_tup {ds : List PyData} (h : ds.length ≤ 1000) : Sml (.tuple ds) := by
  rintro _ e
  cases e
  exact h
/-- data that isn't a tuple -/
inductive NoT : PyData → Prop where
  | none : NoT .none
  | bool (b : Bool) : NoT (.bool b)
  | int (i : Int) : NoT (.int i)
  | str (s : Str) : NoT (.str s)
  | list (ds : List PyData) : NoT (.list ds)
  | dict (ds : List (PyData × PyData)) : NoT (.dict ds)
theorem tup_or (d : PyData) : (∃ ds, d = .tuple ds) ∨ NoT d := by
  cases d with
  | tuple ds => exact .inl ⟨ds, rfl⟩
  | none => exact .inr .none
  | bool b => exact .inr (.bool b)
  | int i => exact .inr (.int i)
  | str s => exact .inr (.str s)
  | list ds => exact .inr (.list ds)
  | dict ds => exact .inr (.dict ds)
end KW
namespace KW
open PySem PySem.Spec PyProof.Rows L2 L2.M
local macro_rules | `(tactic| walk_at "ev") => `(tactic| simp [semF, shared, after, mSeq, mSkip, mIf, mRet, mRetN, mRetV, mSet, mSetIx, mExpr, mB, mU, mTm, mPl, mK, mVar, mOp, mCons, mNil, bor, bors, mTst, mAndT, mOrT, mNotT, mAndE, mOrE, mNotE, mIfE, mIsi, isiD, mChn, chnL, cmpD, binD, addD, subD, mulD, modD, fdivD, powD, eqD, neD, ltD, leD, gtD, geD, isD, isnD, L2.M.isNon, negD, ixD, Bf.f, Bg.f, lenD, L2.M.intD, maxD, minD, repD, strD, gmaxD, gminD, sumD, sortD, anyD, allD, mCall, frz, fzO, lend, wb, mTup, mLst, fzs, cD, mAsg, bTup, bTps, mApp, tupD, lstD, mRev, revD, ofs_inj, ee_ii, ee_ss, ee_bb, ee_nn, ee_is, ee_si, ee_in, ee_ni, ee_tt, ee_ll, ee_maps, ee_0, ee_1, ee_2, ee_3, at_lit, at_nat, at_m1, at_m2, scD, emD, sizeLine_eq, ixN, sm_lit, mSrc, itemsD, plOf, rng1D, bNm, mSl, mPt, mNoP, slD, mPar, keepT, tmsO, setA, mFlow, zipX, enumX, itemsX, intsOf, ints_all, boolsOf, shaped_lay, lay_int, lay_bool, lay_none, lay_dict, lay_tup, lay_list, lay_ints, sortX_ints, mPlF, mPlI, mRd, mPU, mPB, mFSet, mFNew, mNSet, mPApp, mPSetIx, mPPop, mMeth, mNew, isIns, cellO, mLstN, mAddN, mAppN, semX, mTold, mCallX, xRet, xExpr, xSet, mRaise, mM, isL, isS, mOrV, truD])
local macro_rules | `(tactic| walk_at "es") => `(tactic| simp [semF, shared, after, mSeq, mSkip, mIf, mRet, mRetN, mRetV, mSet, mSetIx, mExpr, mB, mU, mTm, mPl, mK, mVar, mOp, mCons, mNil, bor, bors, mTst, mAndT, mOrT, mNotT, mAndE, mOrE, mNotE, mIfE, mIsi, isiD, mChn, chnL, cmpD, binD, addD, subD, mulD, modD, fdivD, powD, eqD, neD, ltD, leD, gtD, geD, isD, isnD, L2.M.isNon, negD, ixD, Bf.f, Bg.f, lenD, L2.M.intD, maxD, minD, repD, strD, gmaxD, gminD, sumD, sortD, anyD, allD, mCall, frz, fzO, lend, wb, mTup, mLst, fzs, cD, mAsg, bTup, bTps, mApp, tupD, lstD, mRev, revD, ofs_inj, ee_ii, ee_ss, ee_bb, ee_nn, ee_is, ee_si, ee_in, ee_ni, ee_tt, ee_ll, ee_maps, ee_0, ee_1, ee_2, ee_3, at_lit, at_nat, at_m1, at_m2, scD, emD, sizeLine_eq, ixN, sm_lit, mSrc, itemsD, plOf, rng1D, bNm, mSl, mPt, mNoP, slD, mPar, keepT, tmsO, setA, mFlow, zipX, enumX, itemsX, intsOf, ints_all, boolsOf, shaped_lay, lay_int, lay_bool, lay_none, lay_dict, lay_tup, lay_list, lay_ints, sortX_ints, mPlF, mPlI, mRd, mPU, mPB, mFSet, mFNew, mNSet, mPApp, mPSetIx, mPPop, mMeth, mNew, isIns, cellO, mLstN, mAddN, mAppN, semX, mTold, mCallX, xRet, xExpr, xSet, mRaise, mM, isL, isS, mOrV, truD, *])
local macro_rules | `(tactic| walk_at "el") => `(tactic| simp [semF, shared, after, mSeq, mSkip, mIf, mRet, mRetN, mRetV, mSet, mSetIx, mExpr, mB, mU, mTm, mPl, mK, mVar, mOp, mCons, mNil, bor, bors, mTst, mAndT, mOrT, mNotT, mAndE, mOrE, mNotE, mIfE, mIsi, isiD, mChn, chnL, cmpD, binD, addD, subD, mulD, modD, fdivD, powD, eqD, neD, ltD, leD, gtD, geD, isD, isnD, L2.M.isNon, negD, ixD, Bf.f, Bg.f, lenD, L2.M.intD, maxD, minD, repD, strD, gmaxD, gminD, sumD, sortD, anyD, allD, mCall, frz, fzO, lend, wb, mTup, mLst, fzs, cD, mAsg, bTup, bTps, mApp, tupD, lstD, mRev, revD, ofs_inj, ee_ii, ee_ss, ee_bb, ee_nn, ee_is, ee_si, ee_in, ee_ni, ee_tt, ee_ll, ee_maps, ee_0, ee_1, ee_2, ee_3, at_lit, at_nat, at_m1, at_m2, scD, emD, sizeLine_eq, ixN, sm_lit, mSrc, itemsD, plOf, rng1D, bNm, mSl, mPt, mNoP, slD, mPar, keepT, tmsO, setA, mFlow, zipX, enumX, itemsX, intsOf, ints_all, boolsOf, shaped_lay, lay_int, lay_bool, lay_none, lay_dict, lay_tup, lay_list, lay_ints, sortX_ints, mPlF, mPlI, mRd, mPU, mPB, mFSet, mFNew, mNSet, mPApp, mPSetIx, mPPop, mMeth, mNew, isIns, cellO, mLstN, mAddN, mAppN, semX, mTold, mCallX, xRet, xExpr, xSet, mRaise, mM, isL, isS, mOrV, truD, mLc, lcL, sameC, wipeC, restC, mYes, *])
local macro_rules | `(tactic| walk_at "ef") => `(tactic| simp [semF, shared, after, mSeq, mSkip, mIf, mRet, mRetN, mRetV, mSet, mSetIx, mExpr, mB, mU, mTm, mPl, mK, mVar, mOp, mCons, mNil, bor, bors, mTst, mAndT, mOrT, mNotT, mAndE, mOrE, mNotE, mIfE, mIsi, isiD, mChn, chnL, cmpD, binD, addD, subD, mulD, modD, fdivD, powD, eqD, neD, ltD, leD, gtD, geD, isD, isnD, L2.M.isNon, negD, ixD, Bf.f, Bg.f, lenD, L2.M.intD, maxD, minD, repD, strD, gmaxD, gminD, sumD, sortD, anyD, allD, mCall, frz, fzO, lend, wb, mTup, mLst, fzs, cD, mAsg, bTup, bTps, mApp, tupD, lstD, mRev, revD, ofs_inj, ee_ii, ee_ss, ee_bb, ee_nn, ee_is, ee_si, ee_in, ee_ni, ee_tt, ee_ll, ee_maps, ee_0, ee_1, ee_2, ee_3, at_lit, at_nat, at_m1, at_m2, scD, emD, sizeLine_eq, ixN, sm_lit, mSrc, itemsD, plOf, rng1D, bNm, mSl, mPt, mNoP, slD, mPar, keepT, tmsO, setA, mFlow, zipX, enumX, itemsX, intsOf, ints_all, boolsOf, shaped_lay, lay_int, lay_bool, lay_none, lay_dict, lay_tup, lay_list, lay_ints, sortX_ints, mPlF, mPlI, mRd, mPU, mPB, mFSet, mFNew, mNSet, mPApp, mPSetIx, mPPop, mMeth, mNew, isIns, cellO, mLstN, mAddN, mAppN, semX, mTold, mCallX, xRet, xExpr, xSet, mRaise, mM, isL, isS, mOrV, truD, mFor, forL, mLc, lcL, sameC, wipeC, restC, mYes, *])
local macro_rules | `(tactic| walk_at "rg") => `(tactic| (and_intros <;> grind))
local macro_rules | `(tactic| walk_at "nx") => `(tactic| (apply wx_nx; focus (walk_at "ev"; try first | exact ⟨rfl, rfl⟩ | rfl)))
local macro_rules | `(tactic| walk_at "ns") => `(tactic| (apply wx_nx; focus (walk_at "es"; try first | exact ⟨rfl, rfl⟩ | rfl)))
local macro_rules | `(tactic| walk_at "rt") => `(tactic| (apply wx_rt; focus (walk_at "ev"; try first | exact ⟨rfl, rfl⟩ | rfl)))
local macro_rules | `(tactic| walk_at "rs") => `(tactic| (apply wx_rt; focus (walk_at "es"; try first | exact ⟨rfl, rfl⟩ | rfl)))
local macro_rules | `(tactic| walk_at "ed") => `(tactic| simp [semF, shared, after, mSeq, mSkip, mIf, mRet, mRetN, mRetV, mSet, mSetIx, mExpr, mB, mU, mTm, mPl, mK, mVar, mOp, mCons, mNil, bor, bors, mTst, mAndT, mOrT, mNotT, mAndE, mOrE, mNotE, mIfE, mIsi, isiD, mChn, chnL, cmpD, binD, addD, subD, mulD, modD, fdivD, powD, eqD, neD, ltD, leD, gtD, geD, isD, isnD, L2.M.isNon, negD, ixD, Bf.f, Bg.f, lenD, L2.M.intD, maxD, minD, repD, strD, gmaxD, gminD, sumD, sortD, anyD, allD, mCall, frz, fzO, lend, wb, mTup, mLst, fzs, cD, mAsg, bTup, bTps, mApp, tupD, lstD, mRev, revD, ofs_inj, ee_ii, ee_ss, ee_bb, ee_nn, ee_is, ee_si, ee_in, ee_ni, ee_tt, ee_ll, ee_maps, ee_0, ee_1, ee_2, ee_3, at_lit, at_nat, at_m1, at_m2, scD, emD, sizeLine_eq, ixN, sm_lit, mSrc, itemsD, plOf, rng1D, bNm, mSl, mPt, mNoP, slD, mPar, keepT, tmsO, setA, mFlow, zipX, enumX, itemsX, intsOf, ints_all, boolsOf, shaped_lay, lay_int, lay_bool, lay_none, lay_dict, lay_tup, lay_list, lay_ints, sortX_ints, mPlF, mPlI, mRd, mPU, mPB, mFSet, mFNew, mNSet, mPApp, mPSetIx, mPPop, mMeth, mNew, isIns, cellO, mLstN, mAddN, mAppN, semX, mTold, mCallX, xRet, xExpr, xSet, mRaise, mM, isL, isS, mOrV, truD, mDNew, mDIn, mDGet, mDLen, mDPut, kyD, mNNew, mN1, mTake, mFnV, mCallF, mNIn, mNGet, mNPut, mNVals, mNList, nKs, mDGetD, mDList, mNNe, *])
/-- a comprehension over items of one form, those that a test lets through -/
theorem mLc_encF {α : Type} (f e : α → PyData) (q : α → Bool) {i : Nat} {src : SM} {tests : TM} {m : EM} {ε ε1 : Cs} {xs : List α} {c0 : C} {ws : List Nat} (hs : src ε = some ((xs.map f, ws), ε1)) (h1 : ε1[i]? = some c0) (ht : ∀ x ∈ xs, tests (ε1.set i (.sh (f x))) = some (q x, ε1.set i (.sh (f x)))) (h : ∀ x ∈ xs, q x = true → ∃ c, m (ε1.set i (.sh (f x))) = some (c, ε1.set i (.sh (f x))) ∧ cD c = some (e x)) (hn : xs.length ≤ sizeLine) (hw : ws.all (fun j => !([i] : List Nat).contains j) = true := by rfl) :
    mLc src (bNm i) tests m [i] ε = some (.ls ((xs.filter q).map e), ε1) := by
  have hl : i < ε1.length := (List.getElem?_eq_some_iff.mp h1).1
  have hsm : sameC ws ε1 (ε1.set i .no) := by
    intro j hj
    have := List.all_eq_true.mp hw j hj
    have ne : i ≠ j := by
      rintro rfl
      simp at this
    rw [List.getElem?_set_ne ne]
  obtain ⟨out, ε2, e1, e2, e3⟩ := lc_rule (src := src) (bind := bNm i) (tests := tests) (elt := m) (own := [i]) (ε := ε) (fun k out ε2 => out = ((xs.take k).filter q).map e ∧ ε2 = ε1.set i .no) hs hw ⟨by simp, by simp [wipeC]⟩ (fun _ _ _ h => by rw [h.2]; exact hsm) (by simpa using hn) (by
    rintro k d out ε2 hd ⟨rfl, rfl⟩
    rw [List.getElem?_map] at hd
    obtain ⟨x, hx, rfl⟩ := Option.map_eq_some_iff.mp hd
    obtain ⟨hk, rfl⟩ := List.getElem?_eq_some_iff.mp hx
    refine ⟨ε1.set i (.sh (f xs[k])), q xs[k], _, by simp [bNm, hl], ht _ (List.getElem_mem hk), fun z => ⟨?_, ?_⟩, fun z => ?_⟩
    · rw [List.take_succ_eq_append_getElem hk, List.filter_append]
      simp [z]
    · simp [wipeC]
    · obtain ⟨c, g1, g2⟩ := h _ (List.getElem_mem hk) z
      refine ⟨c, _, _, g1, g2, ?_, ?_⟩
      · rw [List.take_succ_eq_append_getElem hk, List.filter_append]
        simp [z]
      · simp [wipeC])
  subst e3
  rw [List.length_map, List.take_of_length_le (Nat.le_refl _)] at e2
  subst e2
  rw [e1]
  simp only [restC, h1]
  rw [set_back h1]
theorem rng_nat0 {k : Nat} (j : Int) (e : j = k) (hk : 0 ≤ j ∧ j ≤ 8000000) : rng1D [.int j] = some (rangeD 0 1 k) := by
  simp only [rng1D]
  rw [if_pos ⟨by omega, by omega⟩, e, Int.toNat_natCast]
theorem rng_nat {k : Nat} (hk : k ≤ 8000000) : rng1D [.int k] = some (rangeD 0 1 k) := rng_nat0 _ rfl ⟨by omega, by omega⟩
theorem src_f {f : List PyData → Option (List PyData)} {d : PyData} {ds : List PyData} {ε ε1 : Cs} {m : EM} (h : m ε = some (.sh d, ε1)) (hf : f [d] = some ds) : mSrc f (mCons (mTm m) mNil) ε = some ((ds, []), ε1) := by
  simp [mSrc, mCons, mTm, mNil, bors, bor, plOf, hf, h]
end KW
namespace KW
open PySem PySem.Spec PyProof.Rows L2 L2.M
local macro_rules | `(tactic| walk_at "ev") => `(tactic| simp [semF, shared, after, mSeq, mSkip, mIf, mRet, mRetN, mRetV, mSet, mSetIx, mExpr, mB, mU, mTm, mPl, mK, mVar, mOp, mCons, mNil, bor, bors, mTst, mAndT, mOrT, mNotT, mAndE, mOrE, mNotE, mIfE, mIsi, isiD, mChn, chnL, cmpD, binD, addD, subD, mulD, modD, fdivD, powD, eqD, neD, ltD, leD, gtD, geD, isD, isnD, L2.M.isNon, negD, ixD, Bf.f, Bg.f, lenD, L2.M.intD, maxD, minD, repD, strD, gmaxD, gminD, sumD, sortD, anyD, allD, mCall, frz, fzO, lend, wb, mTup, mLst, fzs, cD, mAsg, bTup, bTps, mApp, tupD, lstD, mRev, revD, ofs_inj, ee_ii, ee_ss, ee_bb, ee_nn, ee_is, ee_si, ee_in, ee_ni, ee_tt, ee_ll, ee_maps, ee_0, ee_1, ee_2, ee_3, at_lit, at_nat, at_m1, at_m2, scD, emD, sizeLine_eq, ixN, sm_lit, mSrc, itemsD, plOf, rng1D, bNm, mSl, mPt, mNoP, slD, mPar, keepT, tmsO, setA, mFlow, zipX, enumX, itemsX, intsOf, ints_all, boolsOf, shaped_lay, lay_int, lay_bool, lay_none, lay_dict, lay_tup, lay_list, lay_ints, sortX_ints, mPlF, mPlI, mRd, mPU, mPB, mFSet, mFNew, mNSet, mPApp, mPSetIx, mPPop, mMeth, mNew, isIns, cellO, mLstN, mAddN, mAppN, semX, mTold, mCallX, xRet, xExpr, xSet, mRaise, mM, isL, isS, mOrV, truD])
local macro_rules | `(tactic| walk_at "es") => `(tactic| simp [semF, shared, after, mSeq, mSkip, mIf, mRet, mRetN, mRetV, mSet, mSetIx, mExpr, mB, mU, mTm, mPl, mK, mVar, mOp, mCons, mNil, bor, bors, mTst, mAndT, mOrT, mNotT, mAndE, mOrE, mNotE, mIfE, mIsi, isiD, mChn, chnL, cmpD, binD, addD, subD, mulD, modD, fdivD, powD, eqD, neD, ltD, leD, gtD, geD, isD, isnD, L2.M.isNon, negD, ixD, Bf.f, Bg.f, lenD, L2.M.intD, maxD, minD, repD, strD, gmaxD, gminD, sumD, sortD, anyD, allD, mCall, frz, fzO, lend, wb, mTup, mLst, fzs, cD, mAsg, bTup, bTps, mApp, tupD, lstD, mRev, revD, ofs_inj, ee_ii, ee_ss, ee_bb, ee_nn, ee_is, ee_si, ee_in, ee_ni, ee_tt, ee_ll, ee_maps, ee_0, ee_1, ee_2, ee_3, at_lit, at_nat, at_m1, at_m2, scD, emD, sizeLine_eq, ixN, sm_lit, mSrc, itemsD, plOf, rng1D, bNm, mSl, mPt, mNoP, slD, mPar, keepT, tmsO, setA, mFlow, zipX, enumX, itemsX, intsOf, ints_all, boolsOf, shaped_lay, lay_int, lay_bool, lay_none, lay_dict, lay_tup, lay_list, lay_ints, sortX_ints, mPlF, mPlI, mRd, mPU, mPB, mFSet, mFNew, mNSet, mPApp, mPSetIx, mPPop, mMeth, mNew, isIns, cellO, mLstN, mAddN, mAppN, semX, mTold, mCallX, xRet, xExpr, xSet, mRaise, mM, isL, isS, mOrV, truD, *])
local macro_rules | `(tactic| walk_at "el") => `(tactic| simp [semF, shared, after, mSeq, mSkip, mIf, mRet, mRetN, mRetV, mSet, mSetIx, mExpr, mB, mU, mTm, mPl, mK, mVar, mOp, mCons, mNil, bor, bors, mTst, mAndT, mOrT, mNotT, mAndE, mOrE, mNotE, mIfE, mIsi, isiD, mChn, chnL, cmpD, binD, addD, subD, mulD, modD, fdivD, powD, eqD, neD, ltD, leD, gtD, geD, isD, isnD, L2.M.isNon, negD, ixD, Bf.f, Bg.f, lenD, L2.M.intD, maxD, minD, repD, strD, gmaxD, gminD, sumD, sortD, anyD, allD, mCall, frz, fzO, lend, wb, mTup, mLst, fzs, cD, mAsg, bTup, bTps, mApp, tupD, lstD, mRev, revD, ofs_inj, ee_ii, ee_ss, ee_bb, ee_nn, ee_is, ee_si, ee_in, ee_ni, ee_tt, ee_ll, ee_maps, ee_0, ee_1, ee_2, ee_3, at_lit, at_nat, at_m1, at_m2, scD, emD, sizeLine_eq, ixN, sm_lit, mSrc, itemsD, plOf, rng1D, bNm, mSl, mPt, mNoP, slD, mPar, keepT, tmsO, setA, mFlow, zipX, enumX, itemsX, intsOf, ints_all, boolsOf, shaped_lay, lay_int, lay_bool, lay_none, lay_dict, lay_tup, lay_list, lay_ints, sortX_ints, mPlF, mPlI, mRd, mPU, mPB, mFSet, mFNew, mNSet, mPApp, mPSetIx, mPPop, mMeth, mNew, isIns, cellO, mLstN, mAddN, mAppN, semX, mTold, mCallX, xRet, xExpr, xSet, mRaise, mM, isL, isS, mOrV, truD, mLc, lcL, sameC, wipeC, restC, mYes, *])
local macro_rules | `(tactic| walk_at "ef") => `(tactic| simp [semF, shared, after, mSeq, mSkip, mIf, mRet, mRetN, mRetV, mSet, mSetIx, mExpr, mB, mU, mTm, mPl, mK, mVar, mOp, mCons, mNil, bor, bors, mTst, mAndT, mOrT, mNotT, mAndE, mOrE, mNotE, mIfE, mIsi, isiD, mChn, chnL, cmpD, binD, addD, subD, mulD, modD, fdivD, powD, eqD, neD, ltD, leD, gtD, geD, isD, isnD, L2.M.isNon, negD, ixD, Bf.f, Bg.f, lenD, L2.M.intD, maxD, minD, repD, strD, gmaxD, gminD, sumD, sortD, anyD, allD, mCall, frz, fzO, lend, wb, mTup, mLst, fzs, cD, mAsg, bTup, bTps, mApp, tupD, lstD, mRev, revD, ofs_inj, ee_ii, ee_ss, ee_bb, ee_nn, ee_is, ee_si, ee_in, ee_ni, ee_tt, ee_ll, ee_maps, ee_0, ee_1, ee_2, ee_3, at_lit, at_nat, at_m1, at_m2, scD, emD, sizeLine_eq, ixN, sm_lit, mSrc, itemsD, plOf, rng1D, bNm, mSl, mPt, mNoP, slD, mPar, keepT, tmsO, setA, mFlow, zipX, enumX, itemsX, intsOf, ints_all, boolsOf, shaped_lay, lay_int, lay_bool, lay_none, lay_dict, lay_tup, lay_list, lay_ints, sortX_ints, mPlF, mPlI, mRd, mPU, mPB, mFSet, mFNew, mNSet, mPApp, mPSetIx, mPPop, mMeth, mNew, isIns, cellO, mLstN, mAddN, mAppN, semX, mTold, mCallX, xRet, xExpr, xSet, mRaise, mM, isL, isS, mOrV, truD, mFor, forL, mLc, lcL, sameC, wipeC, restC, mYes, *])
local macro_rules | `(tactic| walk_at "rg") => `(tactic| (and_intros <;> grind))
local macro_rules | `(tactic| walk_at "nx") => `(tactic| (apply wx_nx; focus (walk_at "ev"; try first | exact ⟨rfl, rfl⟩ | rfl)))
local macro_rules | `(tactic| walk_at "ns") => `(tactic| (apply wx_nx; focus (walk_at "es"; try first | exact ⟨rfl, rfl⟩ | rfl)))
local macro_rules | `(tactic| walk_at "rt") => `(tactic| (apply wx_rt; focus (walk_at "ev"; try first | exact ⟨rfl, rfl⟩ | rfl)))
local macro_rules | `(tactic| walk_at "rs") => `(tactic| (apply wx_rt; focus (walk_at "es"; try first | exact ⟨rfl, rfl⟩ | rfl)))
local macro_rules | `(tactic| walk_at "ed") => `(tactic| simp [semF, shared, after, mSeq, mSkip, mIf, mRet, mRetN, mRetV, mSet, mSetIx, mExpr, mB, mU, mTm, mPl, mK, mVar, mOp, mCons, mNil, bor, bors, mTst, mAndT, mOrT, mNotT, mAndE, mOrE, mNotE, mIfE, mIsi, isiD, mChn, chnL, cmpD, binD, addD, subD, mulD, modD, fdivD, powD, eqD, neD, ltD, leD, gtD, geD, isD, isnD, L2.M.isNon, negD, ixD, Bf.f, Bg.f, lenD, L2.M.intD, maxD, minD, repD, strD, gmaxD, gminD, sumD, sortD, anyD, allD, mCall, frz, fzO, lend, wb, mTup, mLst, fzs, cD, mAsg, bTup, bTps, mApp, tupD, lstD, mRev, revD, ofs_inj, ee_ii, ee_ss, ee_bb, ee_nn, ee_is, ee_si, ee_in, ee_ni, ee_tt, ee_ll, ee_maps, ee_0, ee_1, ee_2, ee_3, at_lit, at_nat, at_m1, at_m2, scD, emD, sizeLine_eq, ixN, sm_lit, mSrc, itemsD, plOf, rng1D, bNm, mSl, mPt, mNoP, slD, mPar, keepT, tmsO, setA, mFlow, zipX, enumX, itemsX, intsOf, ints_all, boolsOf, shaped_lay, lay_int, lay_bool, lay_none, lay_dict, lay_tup, lay_list, lay_ints, sortX_ints, mPlF, mPlI, mRd, mPU, mPB, mFSet, mFNew, mNSet, mPApp, mPSetIx, mPPop, mMeth, mNew, isIns, cellO, mLstN, mAddN, mAppN, semX, mTold, mCallX, xRet, xExpr, xSet, mRaise, mM, isL, isS, mOrV, truD, mDNew, mDIn, mDGet, mDLen, mDPut, kyD, mNNew, mN1, mTake, mFnV, mCallF, mNIn, mNGet, mNPut, mNVals, mNList, nKs, mDGetD, mDList, mNNe, *])
end KW
namespace KW
open PySem PySem.Spec PyProof.Rows L2 L2.M
local macro_rules | `(tactic| walk_at "ev") => `(tactic| simp [semF, shared, after, mSeq, mSkip, mIf, mRet, mRetN, mRetV, mSet, mSetIx, mExpr, mB, mU, mTm, mPl, mK, mVar, mOp, mCons, mNil, bor, bors, mTst, mAndT, mOrT, mNotT, mAndE, mOrE, mNotE, mIfE, mIsi, isiD, mChn, chnL, cmpD, binD, addD, subD, mulD, modD, fdivD, powD, eqD, neD, ltD, leD, gtD, geD, isD, isnD, L2.M.isNon, negD, ixD, Bf.f, Bg.f, lenD, L2.M.intD, maxD, minD, repD, strD, gmaxD, gminD, sumD, sortD, anyD, allD, mCall, frz, fzO, lend, wb, mTup, mLst, fzs, cD, mAsg, bTup, bTps, mApp, tupD, lstD, mRev, revD, ofs_inj, ee_ii, ee_ss, ee_bb, ee_nn, ee_is, ee_si, ee_in, ee_ni, ee_tt, ee_ll, ee_maps, ee_0, ee_1, ee_2, ee_3, at_lit, at_nat, at_m1, at_m2, scD, emD, sizeLine_eq, ixN, sm_lit, mSrc, itemsD, plOf, rng1D, bNm, mSl, mPt, mNoP, slD, mPar, keepT, tmsO, setA, mFlow, zipX, enumX, itemsX, intsOf, ints_all, boolsOf, shaped_lay, lay_int, lay_bool, lay_none, lay_dict, lay_tup, lay_list, lay_ints, sortX_ints, mPlF, mPlI, mRd, mPU, mPB, mFSet, mFNew, mNSet, mPApp, mPSetIx, mPPop, mMeth, mNew, isIns, cellO, mLstN, mAddN, mAppN, semX, mTold, mCallX, xRet, xExpr, xSet, mRaise, mM, isL, isS, mOrV, truD])
local macro_rules | `(tactic| walk_at "es") => `(tactic| simp [semF, shared, after, mSeq, mSkip, mIf, mRet, mRetN, mRetV, mSet, mSetIx, mExpr, mB, mU, mTm, mPl, mK, mVar, mOp, mCons, mNil, bor, bors, mTst, mAndT, mOrT, mNotT, mAndE, mOrE, mNotE, mIfE, mIsi, isiD, mChn, chnL, cmpD, binD, addD, subD, mulD, modD, fdivD, powD, eqD, neD, ltD, leD, gtD, geD, isD, isnD, L2.M.isNon, negD, ixD, Bf.f, Bg.f, lenD, L2.M.intD, maxD, minD, repD, strD, gmaxD, gminD, sumD, sortD, anyD, allD, mCall, frz, fzO, lend, wb, mTup, mLst, fzs, cD, mAsg, bTup, bTps, mApp, tupD, lstD, mRev, revD, ofs_inj, ee_ii, ee_ss, ee_bb, ee_nn, ee_is, ee_si, ee_in, ee_ni, ee_tt, ee_ll, ee_maps, ee_0, ee_1, ee_2, ee_3, at_lit, at_nat, at_m1, at_m2, scD, emD, sizeLine_eq, ixN, sm_lit, mSrc, itemsD, plOf, rng1D, bNm, mSl, mPt, mNoP, slD, mPar, keepT, tmsO, setA, mFlow, zipX, enumX, itemsX, intsOf, ints_all, boolsOf, shaped_lay, lay_int, lay_bool, lay_none, lay_dict, lay_tup, lay_list, lay_ints, sortX_ints, mPlF, mPlI, mRd, mPU, mPB, mFSet, mFNew, mNSet, mPApp, mPSetIx, mPPop, mMeth, mNew, isIns, cellO, mLstN, mAddN, mAppN, semX, mTold, mCallX, xRet, xExpr, xSet, mRaise, mM, isL, isS, mOrV, truD, *])
local macro_rules | `(tactic| walk_at "el") => `(tactic| simp [semF, shared, after, mSeq, mSkip, mIf, mRet, mRetN, mRetV, mSet, mSetIx, mExpr, mB, mU, mTm, mPl, mK, mVar, mOp, mCons, mNil, bor, bors, mTst, mAndT, mOrT, mNotT, mAndE, mOrE, mNotE, mIfE, mIsi, isiD, mChn, chnL, cmpD, binD, addD, subD, mulD, modD, fdivD, powD, eqD, neD, ltD, leD, gtD, geD, isD, isnD, L2.M.isNon, negD, ixD, Bf.f, Bg.f, lenD, L2.M.intD, maxD, minD, repD, strD, gmaxD, gminD, sumD, sortD, anyD, allD, mCall, frz, fzO, lend, wb, mTup, mLst, fzs, cD, mAsg, bTup, bTps, mApp, tupD, lstD, mRev, revD, ofs_inj, ee_ii, ee_ss, ee_bb, ee_nn, ee_is, ee_si, ee_in, ee_ni, ee_tt, ee_ll, ee_maps, ee_0, ee_1, ee_2, ee_3, at_lit, at_nat, at_m1, at_m2, scD, emD, sizeLine_eq, ixN, sm_lit, mSrc, itemsD, plOf, rng1D, bNm, mSl, mPt, mNoP, slD, mPar, keepT, tmsO, setA, mFlow, zipX, enumX, itemsX, intsOf, ints_all, boolsOf, shaped_lay, lay_int, lay_bool, lay_none, lay_dict, lay_tup, lay_list, lay_ints, sortX_ints, mPlF, mPlI, mRd, mPU, mPB, mFSet, mFNew, mNSet, mPApp, mPSetIx, mPPop, mMeth, mNew, isIns, cellO, mLstN, mAddN, mAppN, semX, mTold, mCallX, xRet, xExpr, xSet, mRaise, mM, isL, isS, mOrV, truD, mLc, lcL, sameC, wipeC, restC, mYes, *])
local macro_rules | `(tactic| walk_at "ef") => `(tactic| simp [semF, shared, after, mSeq, mSkip, mIf, mRet, mRetN, mRetV, mSet, mSetIx, mExpr, mB, mU, mTm, mPl, mK, mVar, mOp, mCons, mNil, bor, bors, mTst, mAndT, mOrT, mNotT, mAndE, mOrE, mNotE, mIfE, mIsi, isiD, mChn, chnL, cmpD, binD, addD, subD, mulD, modD, fdivD, powD, eqD, neD, ltD, leD, gtD, geD, isD, isnD, L2.M.isNon, negD, ixD, Bf.f, Bg.f, lenD, L2.M.intD, maxD, minD, repD, strD, gmaxD, gminD, sumD, sortD, anyD, allD, mCall, frz, fzO, lend, wb, mTup, mLst, fzs, cD, mAsg, bTup, bTps, mApp, tupD, lstD, mRev, revD, ofs_inj, ee_ii, ee_ss, ee_bb, ee_nn, ee_is, ee_si, ee_in, ee_ni, ee_tt, ee_ll, ee_maps, ee_0, ee_1, ee_2, ee_3, at_lit, at_nat, at_m1, at_m2, scD, emD, sizeLine_eq, ixN, sm_lit, mSrc, itemsD, plOf, rng1D, bNm, mSl, mPt, mNoP, slD, mPar, keepT, tmsO, setA, mFlow, zipX, enumX, itemsX, intsOf, ints_all, boolsOf, shaped_lay, lay_int, lay_bool, lay_none, lay_dict, lay_tup, lay_list, lay_ints, sortX_ints, mPlF, mPlI, mRd, mPU, mPB, mFSet, mFNew, mNSet, mPApp, mPSetIx, mPPop, mMeth, mNew, isIns, cellO, mLstN, mAddN, mAppN, semX, mTold, mCallX, xRet, xExpr, xSet, mRaise, mM, isL, isS, mOrV, truD, mFor, forL, mLc, lcL, sameC, wipeC, restC, mYes, *])
local macro_rules | `(tactic| walk_at "rg") => `(tactic| (and_intros <;> grind))
local macro_rules | `(tactic| walk_at "nx") => `(tactic| (apply wx_nx; focus (walk_at "ev"; try first | exact ⟨rfl, rfl⟩ | rfl)))
local macro_rules | `(tactic| walk_at "ns") => `(tactic| (apply wx_nx; focus (walk_at "es"; try first | exact ⟨rfl, rfl⟩ | rfl)))
local macro_rules | `(tactic| walk_at "rt") => `(tactic| (apply wx_rt; focus (walk_at "ev"; try first | exact ⟨rfl, rfl⟩ | rfl)))
local macro_rules | `(tactic| walk_at "rs") => `(tactic| (apply wx_rt; focus (walk_at "es"; try first | exact ⟨rfl, rfl⟩ | rfl)))
local macro_rules | `(tactic| walk_at "ed") => `(tactic| simp [semF, shared, after, mSeq, mSkip, mIf, mRet, mRetN, mRetV, mSet, mSetIx, mExpr, mB, mU, mTm, mPl, mK, mVar, mOp, mCons, mNil, bor, bors, mTst, mAndT, mOrT, mNotT, mAndE, mOrE, mNotE, mIfE, mIsi, isiD, mChn, chnL, cmpD, binD, addD, subD, mulD, modD, fdivD, powD, eqD, neD, ltD, leD, gtD, geD, isD, isnD, L2.M.isNon, negD, ixD, Bf.f, Bg.f, lenD, L2.M.intD, maxD, minD, repD, strD, gmaxD, gminD, sumD, sortD, anyD, allD, mCall, frz, fzO, lend, wb, mTup, mLst, fzs, cD, mAsg, bTup, bTps, mApp, tupD, lstD, mRev, revD, ofs_inj, ee_ii, ee_ss, ee_bb, ee_nn, ee_is, ee_si, ee_in, ee_ni, ee_tt, ee_ll, ee_maps, ee_0, ee_1, ee_2, ee_3, at_lit, at_nat, at_m1, at_m2, scD, emD, sizeLine_eq, ixN, sm_lit, mSrc, itemsD, plOf, rng1D, bNm, mSl, mPt, mNoP, slD, mPar, keepT, tmsO, setA, mFlow, zipX, enumX, itemsX, intsOf, ints_all, boolsOf, shaped_lay, lay_int, lay_bool, lay_none, lay_dict, lay_tup, lay_list, lay_ints, sortX_ints, mPlF, mPlI, mRd, mPU, mPB, mFSet, mFNew, mNSet, mPApp, mPSetIx, mPPop, mMeth, mNew, isIns, cellO, mLstN, mAddN, mAppN, semX, mTold, mCallX, xRet, xExpr, xSet, mRaise, mM, isL, isS, mOrV, truD, mDNew, mDIn, mDGet, mDLen, mDPut, kyD, mNNew, mN1, mTake, mFnV, mCallF, mNIn, mNGet, mNPut, mNVals, mNList, nKs, mDGetD, mDList, mNNe, *])
theorem rngD_at {n i : Nat} {d : PyData} (h : (rangeD 0 1 n)[i]? = some d) : d = .int (i : Int) ∧ i < n := by
  unfold rangeD at h
  rw [List.getElem?_map] at h
  obtain ⟨x, hx, rfl⟩ := Option.map_eq_some_iff.mp h
  obtain ⟨hi, rfl⟩ := List.getElem?_eq_some_iff.mp hx
  simp at hi
  simp [hi]
theorem rngD_len (n : Nat) : (rangeD 0 1 n).length = n := by simp [rangeD]
theorem enumF_at : ∀ (ds : List PyData) (k i : Nat) (d : PyData), (enumFrom k ds)[i]? = some d → ∃ x, ds[i]? = some x ∧ d = .tuple [.int ((k + i : Nat) : Int), x]
  | [], k, i, d, h => by simp [enumFrom] at h
  | x :: ds, k, 0, d, h => by
    simp [enumFrom] at h
    exact ⟨x, rfl, by simp [← h]⟩
  | x :: ds, k, i + 1, d, h => by
    simp only [enumFrom, List.getElem?_cons_succ] at h
    obtain ⟨y, h1, h2⟩ := enumF_at ds (k + 1) i d h
    refine ⟨y, by simpa using h1, ?_⟩
    rw [h2]
    congr 3
    have : k + 1 + i = k + (i + 1) := by omega
    rw [this]
theorem enumF_len : ∀ (ds : List PyData) (k : Nat), (enumFrom k ds).length = ds.length
  | [], k => rfl
  | x :: ds, k => by simp [enumFrom, enumF_len ds (k + 1)]
theorem wx_rngn {io : List Nat} {src : SM} {bind : BM} {body : XM} {ε ε1 : Cs} {n : Nat} {Q : Fl → Cs → Prop} (J : Nat → Cs → Prop) (hs : src ε = some ((rangeD 0 1 n, []), ε1)) (h0 : J 0 ε1)
    (hstep : ∀ (i : Nat) (ε2 : Cs), i < n → J i ε2 → ∃ ε3, bind (.int (i : Int)) ε2 = some ε3 ∧ Wx (body ε3) fun f ε4 => match f with
      | .nx => J (i + 1) ε4
      | .ct => J (i + 1) ε4
      | .bk => Q .nx ε4
      | .rt c => Q (.rt c) ε4
      | .xc x => Q (.xc x) ε4) (hend : ∀ ε2, J n ε2 → Q .nx ε2) : Wx (mFor io src bind body ε) Q := by
  refine wx_for J hs rfl h0 (fun i ε hj j hj2 => by cases hj2) (fun i d ε2 hd hj => ?_) (fun ε2 h => hend ε2 (by rwa [rngD_len] at h))
  obtain ⟨rfl, hi⟩ := rngD_at hd
  exact hstep i ε2 hi hj
theorem wx_enumn {io : List Nat} {src : SM} {bind : BM} {body : XM} {ε ε1 : Cs} {ds : List PyData} {Q : Fl → Cs → Prop} (J : Nat → Cs → Prop) (hs : src ε = some ((enumFrom 0 ds, []), ε1)) (h0 : J 0 ε1)
    (hstep : ∀ (i : Nat) (hi : i < ds.length) (ε2 : Cs), J i ε2 → ∃ ε3, bind (.tuple [.int (i : Int), ds[i]]) ε2 = some ε3 ∧ Wx (body ε3) fun f ε4 => match f with
      | .nx => J (i + 1) ε4
      | .ct => J (i + 1) ε4
      | .bk => Q .nx ε4
      | .rt c => Q (.rt c) ε4
      | .xc x => Q (.xc x) ε4) (hend : ∀ ε2, J ds.length ε2 → Q .nx ε2) : Wx (mFor io src bind body ε) Q := by
  refine wx_for J hs rfl h0 (fun i ε hj j hj2 => by cases hj2) (fun i d ε2 hd hj => ?_) (fun ε2 h => hend ε2 (by rwa [enumF_len] at h))
  obtain ⟨x, h1, rfl⟩ := enumF_at ds 0 i d hd
  obtain ⟨hi, rfl⟩ := List.getElem?_eq_some_iff.mp h1
  obtain ⟨ε3, e, q⟩ := hstep i hi ε2 hj
  exact ⟨ε3, by rw [← e]; simp, q⟩
end KW
namespace KW
open PySem PySem.Spec PyProof.Rows L2 L2.M
local macro_rules | `(tactic| walk_at "ev") => `(tactic| simp [semF, shared, after, mSeq, mSkip, mIf, mRet, mRetN, mRetV, mSet, mSetIx, mExpr, mB, mU, mTm, mPl, mK, mVar, mOp, mCons, mNil, bor, bors, mTst, mAndT, mOrT, mNotT, mAndE, mOrE, mNotE, mIfE, mIsi, isiD, mChn, chnL, cmpD, binD, addD, subD, mulD, modD, fdivD, powD, eqD, neD, ltD, leD, gtD, geD, isD, isnD, L2.M.isNon, negD, ixD, Bf.f, Bg.f, lenD, L2.M.intD, maxD, minD, repD, strD, gmaxD, gminD, sumD, sortD, anyD, allD, mCall, frz, fzO, lend, wb, mTup, mLst, fzs, cD, mAsg, bTup, bTps, mApp, tupD, lstD, mRev, revD, ofs_inj, ee_ii, ee_ss, ee_bb, ee_nn, ee_is, ee_si, ee_in, ee_ni, ee_tt, ee_ll, ee_maps, ee_0, ee_1, ee_2, ee_3, at_lit, at_nat, at_m1, at_m2, scD, emD, sizeLine_eq, ixN, sm_lit, mSrc, itemsD, plOf, rng1D, bNm, mSl, mPt, mNoP, slD, mPar, keepT, tmsO, setA, mFlow, zipX, enumX, itemsX, intsOf, ints_all, boolsOf, shaped_lay, lay_int, lay_bool, lay_none, lay_dict, lay_tup, lay_list, lay_ints, sortX_ints, mPlF, mPlI, mRd, mPU, mPB, mFSet, mFNew, mNSet, mPApp, mPSetIx, mPPop, mMeth, mNew, isIns, cellO, mLstN, mAddN, mAppN, semX, mTold, mCallX, xRet, xExpr, xSet, mRaise, mM, isL, isS, mOrV, truD])
local macro_rules | `(tactic| walk_at "es") => `(tactic| simp [semF, shared, after, mSeq, mSkip, mIf, mRet, mRetN, mRetV, mSet, mSetIx, mExpr, mB, mU, mTm, mPl, mK, mVar, mOp, mCons, mNil, bor, bors, mTst, mAndT, mOrT, mNotT, mAndE, mOrE, mNotE, mIfE, mIsi, isiD, mChn, chnL, cmpD, binD, addD, subD, mulD, modD, fdivD, powD, eqD, neD, ltD, leD, gtD, geD, isD, isnD, L2.M.isNon, negD, ixD, Bf.f, Bg.f, lenD, L2.M.intD, maxD, minD, repD, strD, gmaxD, gminD, sumD, sortD, anyD, allD, mCall, frz, fzO, lend, wb, mTup, mLst, fzs, cD, mAsg, bTup, bTps, mApp, tupD, lstD, mRev, revD, ofs_inj, ee_ii, ee_ss, ee_bb, ee_nn, ee_is, ee_si, ee_in, ee_ni, ee_tt, ee_ll, ee_maps, ee_0, ee_1, ee_2, ee_3, at_lit, at_nat, at_m1, at_m2, scD, emD, sizeLine_eq, ixN, sm_lit, mSrc, itemsD, plOf, rng1D, bNm, mSl, mPt, mNoP, slD, mPar, keepT, tmsO, setA, mFlow, zipX, enumX, itemsX, intsOf, ints_all, boolsOf, shaped_lay, lay_int, lay_bool, lay_none, lay_dict, lay_tup, lay_list, lay_ints, sortX_ints, mPlF, mPlI, mRd, mPU, mPB, mFSet, mFNew, mNSet, mPApp, mPSetIx, mPPop, mMeth, mNew, isIns, cellO, mLstN, mAddN, mAppN, semX, mTold, mCallX, xRet, xExpr, xSet, mRaise, mM, isL, isS, mOrV, truD, *])
local macro_rules | `(tactic| walk_at "el") => `(tactic| simp [semF, shared, after, mSeq, mSkip, mIf, mRet, mRetN, mRetV, mSet, mSetIx, mExpr, mB, mU, mTm, mPl, mK, mVar, mOp, mCons, mNil, bor, bors, mTst, mAndT, mOrT, mNotT, mAndE, mOrE, mNotE, mIfE, mIsi, isiD, mChn, chnL, cmpD, binD, addD, subD, mulD, modD, fdivD, powD, eqD, neD, ltD, leD, gtD, geD, isD, isnD, L2.M.isNon, negD, ixD, Bf.f, Bg.f, lenD, L2.M.intD, maxD, minD, repD, strD, gmaxD, gminD, sumD, sortD, anyD, allD, mCall, frz, fzO, lend, wb, mTup, mLst, fzs, cD, mAsg, bTup, bTps, mApp, tupD, lstD, mRev, revD, ofs_inj, ee_ii, ee_ss, ee_bb, ee_nn, ee_is, ee_si, ee_in, ee_ni, ee_tt, ee_ll, ee_maps, ee_0, ee_1, ee_2, ee_3, at_lit, at_nat, at_m1, at_m2, scD, emD, sizeLine_eq, ixN, sm_lit, mSrc, itemsD, plOf, rng1D, bNm, mSl, mPt, mNoP, slD, mPar, keepT, tmsO, setA, mFlow, zipX, enumX, itemsX, intsOf, ints_all, boolsOf, shaped_lay, lay_int, lay_bool, lay_none, lay_dict, lay_tup, lay_list, lay_ints, sortX_ints, mPlF, mPlI, mRd, mPU, mPB, mFSet, mFNew, mNSet, mPApp, mPSetIx, mPPop, mMeth, mNew, isIns, cellO, mLstN, mAddN, mAppN, semX, mTold, mCallX, xRet, xExpr, xSet, mRaise, mM, isL, isS, mOrV, truD, mLc, lcL, sameC, wipeC, restC, mYes, *])
local macro_rules | `(tactic| walk_at "ef") => `(tactic| simp [semF, shared, after, mSeq, mSkip, mIf, mRet, mRetN, mRetV, mSet, mSetIx, mExpr, mB, mU, mTm, mPl, mK, mVar, mOp, mCons, mNil, bor, bors, mTst, mAndT, mOrT, mNotT, mAndE, mOrE, mNotE, mIfE, mIsi, isiD, mChn, chnL, cmpD, binD, addD, subD, mulD, modD, fdivD, powD, eqD, neD, ltD, leD, gtD, geD, isD, isnD, L2.M.isNon, negD, ixD, Bf.f, Bg.f, lenD, L2.M.intD, maxD, minD, repD, strD, gmaxD, gminD, sumD, sortD, anyD, allD, mCall, frz, fzO, lend, wb, mTup, mLst, fzs, cD, mAsg, bTup, bTps, mApp, tupD, lstD, mRev, revD, ofs_inj, ee_ii, ee_ss, ee_bb, ee_nn, ee_is, ee_si, ee_in, ee_ni, ee_tt, ee_ll, ee_maps, ee_0, ee_1, ee_2, ee_3, at_lit, at_nat, at_m1, at_m2, scD, emD, sizeLine_eq, ixN, sm_lit, mSrc, itemsD, plOf, rng1D, bNm, mSl, mPt, mNoP, slD, mPar, keepT, tmsO, setA, mFlow, zipX, enumX, itemsX, intsOf, ints_all, boolsOf, shaped_lay, lay_int, lay_bool, lay_none, lay_dict, lay_tup, lay_list, lay_ints, sortX_ints, mPlF, mPlI, mRd, mPU, mPB, mFSet, mFNew, mNSet, mPApp, mPSetIx, mPPop, mMeth, mNew, isIns, cellO, mLstN, mAddN, mAppN, semX, mTold, mCallX, xRet, xExpr, xSet, mRaise, mM, isL, isS, mOrV, truD, mFor, forL, mLc, lcL, sameC, wipeC, restC, mYes, *])
local macro_rules | `(tactic| walk_at "rg") => `(tactic| (and_intros <;> grind))
local macro_rules | `(tactic| walk_at "nx") => `(tactic| (apply wx_nx; focus (walk_at "ev"; try first | exact ⟨rfl, rfl⟩ | rfl)))
local macro_rules | `(tactic| walk_at "ns") => `(tactic| (apply wx_nx; focus (walk_at "es"; try first | exact ⟨rfl, rfl⟩ | rfl)))
local macro_rules | `(tactic| walk_at "rt") => `(tactic| (apply wx_rt; focus (walk_at "ev"; try first | exact ⟨rfl, rfl⟩ | rfl)))
local macro_rules | `(tactic| walk_at "rs") => `(tactic| (apply wx_rt; focus (walk_at "es"; try first | exact ⟨rfl, rfl⟩ | rfl)))
local macro_rules | `(tactic| walk_at "ed") => `(tactic| simp [semF, shared, after, mSeq, mSkip, mIf, mRet, mRetN, mRetV, mSet, mSetIx, mExpr, mB, mU, mTm, mPl, mK, mVar, mOp, mCons, mNil, bor, bors, mTst, mAndT, mOrT, mNotT, mAndE, mOrE, mNotE, mIfE, mIsi, isiD, mChn, chnL, cmpD, binD, addD, subD, mulD, modD, fdivD, powD, eqD, neD, ltD, leD, gtD, geD, isD, isnD, L2.M.isNon, negD, ixD, Bf.f, Bg.f, lenD, L2.M.intD, maxD, minD, repD, strD, gmaxD, gminD, sumD, sortD, anyD, allD, mCall, frz, fzO, lend, wb, mTup, mLst, fzs, cD, mAsg, bTup, bTps, mApp, tupD, lstD, mRev, revD, ofs_inj, ee_ii, ee_ss, ee_bb, ee_nn, ee_is, ee_si, ee_in, ee_ni, ee_tt, ee_ll, ee_maps, ee_0, ee_1, ee_2, ee_3, at_lit, at_nat, at_m1, at_m2, scD, emD, sizeLine_eq, ixN, sm_lit, mSrc, itemsD, plOf, rng1D, bNm, mSl, mPt, mNoP, slD, mPar, keepT, tmsO, setA, mFlow, zipX, enumX, itemsX, intsOf, ints_all, boolsOf, shaped_lay, lay_int, lay_bool, lay_none, lay_dict, lay_tup, lay_list, lay_ints, sortX_ints, mPlF, mPlI, mRd, mPU, mPB, mFSet, mFNew, mNSet, mPApp, mPSetIx, mPPop, mMeth, mNew, isIns, cellO, mLstN, mAddN, mAppN, semX, mTold, mCallX, xRet, xExpr, xSet, mRaise, mM, isL, isS, mOrV, truD, mDNew, mDIn, mDGet, mDLen, mDPut, kyD, mNNew, mN1, mTake, mFnV, mCallF, mNIn, mNGet, mNPut, mNVals, mNList, nKs, mDGetD, mDList, mNNe, *])
def plc (need : Int) (A : List (Int × Int)) (k : Nat) (b : Int) : Bool := decide (k < A.length) && (decide ((A.getD k (0, 0)).1 ≤ b) && decide (b + need ≤ (A.getD k (0, 0)).1 + (A.getD k (0, 0)).2))
theorem plc_iff {need : Int} {A : List (Int × Int)} {k : Nat} {b : Int} : plc need A k b = true ↔ k < A.length ∧ (A.getD k (0, 0)).1 ≤ b ∧ b + need ≤ (A.getD k (0, 0)).1 + (A.getD k (0, 0)).2 := by simp [plc]
abbrev Sq := List (Nat × Int)
abbrev En := List Int × Sq
structure Sch (need : Int) (A : List (Int × Int)) (q : Sq) : Prop where
  p : ∀ x ∈ q, plc need A x.1 x.2 = true
  d : (q.map (·.1)).Nodup
  o : q.Pairwise fun x y => x.2 + need ≤ y.2
def nms (q : Sq) : List Int := q.map fun x => (x.1 : Int)
def kyI (q : Sq) : List Int := isort (nms q)
def lb (q : Sq) : Int := (q.getLast?.getD (0, 0)).2
def fre (need : Int) (q : Sq) : Int := if q = [] then 0 else lb q + need
def bgn (need : Int) (A : List (Int × Int)) (q : Sq) (k : Nat) : Int := if fre need q < (A.getD k (0, 0)).1 then (A.getD k (0, 0)).1 else fre need q
def cnd (need : Int) (A : List (Int × Int)) (e : En) (k : Nat) : Bool := !e.1.contains (k : Int) && plc need A k (bgn need A e.2 k)
def new (need : Int) (A : List (Int × Int)) (e : En) (k : Nat) : En := (isort (e.1 ++ [(k : Int)]), e.2 ++ [(k, bgn need A e.2 k)])
def cand1 (need : Int) (A : List (Int × Int)) (e : En) (k : Nat) : List En := if cnd need A e k = true then [new need A e k] else []
def candS (need : Int) (A : List (Int × Int)) (e : En) : List En := (List.range A.length).flatMap (cand1 need A e)
theorem lb_snoc (q : Sq) (x : Nat × Int) : lb (q ++ [x]) = x.2 := by simp [lb]
theorem isort_eq {L M : List Int} (h : L.Perm M) : isort L = isort M :=
  List.Perm.eq_of_pairwise (le := fun a b : Int => a ≤ b) (fun a b _ _ x y => by omega) (isort_le _) (isort_le _) ((isort_perm L).trans (h.trans (isort_perm M).symm))
theorem kyI_snoc (q : Sq) (x : Nat × Int) : isort (kyI q ++ [(x.1 : Int)]) = kyI (q ++ [x]) := by
  unfold kyI nms
  rw [List.map_append]
  exact isort_eq ((isort_perm _).append_right _)
theorem mem_ky {q : Sq} {k : Nat} : (k : Int) ∈ kyI q ↔ k ∈ q.map (·.1) := by
  unfold kyI nms
  rw [(isort_perm _).mem_iff]
  constructor
  · intro h
    obtain ⟨x, hx, e⟩ := List.mem_map.mp h
    exact List.mem_map.mpr ⟨x, hx, by omega⟩
  · intro h
    obtain ⟨x, hx, rfl⟩ := List.mem_map.mp h
    exact List.mem_map.mpr ⟨x, hx, rfl⟩
theorem sch_nil (need : Int) (A : List (Int × Int)) : Sch need A [] := ⟨fun x h => (by cases h), by simp, by simp⟩
theorem sch_pre {need : Int} {A : List (Int × Int)} {q r : Sq} (h : Sch need A (q ++ r)) : Sch need A q := by
  refine ⟨fun x hx => h.p x (List.mem_append_left _ hx), ?_, (List.pairwise_append.mp h.o).1⟩
  have := h.d
  rw [List.map_append, List.nodup_append] at this
  exact this.1
theorem sch_last {need : Int} (hn : 0 ≤ need) {A : List (Int × Int)} {q : Sq} (h : Sch need A q) : ∀ x ∈ q, x.2 ≤ lb q := by
  intro x hx
  rcases List.eq_nil_or_concat q with e | ⟨q', y, e⟩
  · rw [e] at hx
    cases hx
  · rw [List.concat_eq_append] at e
    rw [e] at hx h ⊢
    rw [lb_snoc]
    rcases List.mem_append.mp hx with hx | hx
    · have := (List.pairwise_append.mp h.o).2.2 x hx y (by simp)
      omega
    · rw [List.mem_singleton.mp hx]
      exact Int.le_refl _
theorem sch_snoc {need : Int} (hn : 0 ≤ need) {A : List (Int × Int)} {q : Sq} (h : Sch need A q) {k : Nat} {b : Int} (h1 : plc need A k b = true) (h2 : k ∉ q.map (·.1)) (h3 : q = [] ∨ lb q + need ≤ b) : Sch need A (q ++ [(k, b)]) := by
  refine ⟨fun x hx => ?_, ?_, ?_⟩
  · rcases List.mem_append.mp hx with hx | hx
    · exact h.p x hx
    · rw [List.mem_singleton.mp hx]
      exact h1
  · rw [List.map_append, List.nodup_append]
    refine ⟨h.d, by simp, fun a ha c hc e => ?_⟩
    simp at hc
    rw [e, hc] at ha
    exact h2 ha
  · rw [List.pairwise_append]
    refine ⟨h.o, by simp, fun x hx y hy => ?_⟩
    rw [List.mem_singleton.mp hy]
    rcases h3 with h3 | h3
    · rw [h3] at hx
      cases hx
    · have := sch_last hn h x hx
      dsimp only
      omega
def eIx (F : List En) (key : List Int) : Option Nat := F.findIdx? fun e => decide (e.1 = key)
def eUp (F : List En) (c : En) : List En := match eIx F c.1 with
  | none => F ++ [c]
  | some j => if lb c.2 < lb (F.getD j c).2 then F.set j c else F
def eCov (P F : List En) : Prop := (∀ x ∈ F, x ∈ P) ∧ ∀ p ∈ P, ∃ x ∈ F, x.1 = p.1 ∧ lb x.2 ≤ lb p.2
theorem eIx_some {F : List En} {key : List Int} {j : Nat} (h : eIx F key = some j) : ∃ v, F[j]? = some (key, v) := by
  unfold eIx at h
  obtain ⟨h1, h2, _⟩ := List.findIdx?_eq_some_iff_getElem.mp h
  rw [decide_eq_true_eq] at h2
  refine ⟨F[j].2, ?_⟩
  rw [List.getElem?_eq_getElem h1, ← h2]
theorem eIx_none {F : List En} {key : List Int} (h : eIx F key = none) : ∀ r ∈ F, r.1 ≠ key := by
  unfold eIx at h
  rw [List.findIdx?_eq_none_iff] at h
  intro r hr e
  have := h r hr
  rw [e] at this
  simp at this
theorem eUp_cov {P F : List En} (h : eCov P F) (c : En) : eCov (P ++ [c]) (eUp F c) := by
  unfold eUp
  cases hi : eIx F c.1 with
  | none =>
    refine ⟨fun x hx => ?_, fun p hp => ?_⟩
    · rcases List.mem_append.mp hx with hx | hx
      · exact List.mem_append_left _ (h.1 x hx)
      · exact List.mem_append_right _ hx
    · rcases List.mem_append.mp hp with hp | hp
      · obtain ⟨x, h1, h2⟩ := h.2 p hp
        exact ⟨x, List.mem_append_left _ h1, h2⟩
      · rw [List.mem_singleton.mp hp]
        exact ⟨c, List.mem_append_right _ List.mem_cons_self, rfl, Int.le_refl _⟩
  | some j =>
    obtain ⟨v, hv⟩ := eIx_some hi
    have hg : F.getD j c = (c.1, v) := by rw [List.getD_eq_getElem?_getD, hv]; rfl
    have hvF : (c.1, v) ∈ F := List.mem_of_getElem? hv
    show eCov (P ++ [c]) (if lb c.2 < lb (F.getD j c).2 then F.set j c else F)
    rw [hg]
    by_cases hl : lb c.2 < lb v
    · rw [if_pos hl]
      have hj : j < F.length := (List.getElem?_eq_some_iff.mp hv).1
      have hnew : c ∈ F.set j c := List.mem_iff_getElem?.mpr ⟨j, List.getElem?_set_self hj⟩
      refine ⟨fun x hx => ?_, fun p hp => ?_⟩
      · rcases List.mem_or_eq_of_mem_set hx with hx | rfl
        · exact List.mem_append_left _ (h.1 x hx)
        · exact List.mem_append_right _ List.mem_cons_self
      · have key : ∀ x ∈ F, x ∈ F.set j c ∨ x = (c.1, v) := fun x hx => by
          obtain ⟨i, hi2, rfl⟩ := List.mem_iff_getElem.mp hx
          by_cases e : i = j
          · subst e
            right
            rw [List.getElem?_eq_getElem hi2] at hv
            exact Option.some.inj hv
          · left
            refine List.mem_iff_getElem?.mpr ⟨i, ?_⟩
            rw [List.getElem?_set_ne (Ne.symm e), List.getElem?_eq_getElem hi2]
        rcases List.mem_append.mp hp with hp | hp
        · obtain ⟨x, h1, h2, h3⟩ := h.2 p hp
          rcases key x h1 with hx | rfl
          · exact ⟨x, hx, h2, h3⟩
          · refine ⟨_, hnew, h2, ?_⟩
            dsimp only at h3
            omega
        · rw [List.mem_singleton.mp hp]
          exact ⟨_, hnew, rfl, Int.le_refl _⟩
    · rw [if_neg hl]
      refine ⟨fun x hx => List.mem_append_left _ (h.1 x hx), fun p hp => ?_⟩
      rcases List.mem_append.mp hp with hp | hp
      · exact h.2 p hp
      · rw [List.mem_singleton.mp hp]
        refine ⟨_, hvF, rfl, ?_⟩
        dsimp only
        omega
theorem eCov_fold : ∀ (cs P F : List En), eCov P F → eCov (P ++ cs) (cs.foldl eUp F)
  | [], P, F, h => by simpa using h
  | c :: cs, P, F, h => by
    have := eCov_fold cs (P ++ [c]) (eUp F c) (eUp_cov h c)
    simpa using this
def eNd (F : List En) : Prop := (F.map (·.1)).Nodup
theorem eUp_nd {F : List En} (h : eNd F) (c : En) : eNd (eUp F c) := by
  unfold eUp
  cases hi : eIx F c.1 with
  | none =>
    unfold eNd
    rw [List.map_append, List.nodup_append]
    refine ⟨h, by simp, fun a ha b hb e => ?_⟩
    obtain ⟨r, hr, rfl⟩ := List.mem_map.mp ha
    simp only [List.map_cons, List.map_nil, List.mem_singleton] at hb
    rw [hb] at e
    exact eIx_none hi r hr e
  | some j =>
    show eNd (if lb c.2 < lb (F.getD j c).2 then F.set j c else F)
    split
    · unfold eNd
      obtain ⟨v, hv⟩ := eIx_some hi
      have e : (F.set j c).map (·.1) = F.map (·.1) := by
        rw [List.map_set]
        refine List.ext_getElem? fun i => ?_
        by_cases ei : i = j
        · subst ei
          rw [List.getElem?_set_self (by rw [List.length_map]; exact (List.getElem?_eq_some_iff.mp hv).1), List.getElem?_map, hv]
          rfl
        · rw [List.getElem?_set_ne (Ne.symm ei)]
      rw [e]
      exact h
    · exact h
theorem eFold_nd : ∀ (cs : List En) {F : List En}, eNd F → eNd (cs.foldl eUp F)
  | [], _, h => h
  | c :: cs, _, h => eFold_nd cs (eUp_nd h c)
theorem eIx_at {F : List En} (hn : eNd F) {j : Nat} {r : En} (h : F[j]? = some r) : eIx F r.1 = some j := by
  obtain ⟨hj, rfl⟩ := List.getElem?_eq_some_iff.mp h
  cases hi : eIx F F[j].1 with
  | none => exact absurd rfl (eIx_none hi F[j] (List.getElem_mem hj))
  | some k =>
    obtain ⟨v, hv⟩ := eIx_some hi
    have h1 : (F.map (·.1))[k]? = some F[j].1 := by rw [List.getElem?_map, hv]; rfl
    have h2 : (F.map (·.1))[j]? = some F[j].1 := by rw [List.getElem?_map, h]; rfl
    have := (List.getElem?_inj (by rw [List.length_map]; exact hj) hn).mp (h2.trans h1.symm)
    rw [this]
/-- what stands in the table with sets of m -/
def InvS (need : Int) (A : List (Int × Int)) (m : Nat) (F : List En) : Prop :=
  (∀ e ∈ F, Sch need A e.2 ∧ e.2.length = m ∧ e.1 = kyI e.2) ∧ ∀ q, Sch need A q → q.length = m → ∃ e ∈ F, e.1 = kyI q ∧ (m = 0 ∨ lb e.2 ≤ lb q)
theorem kyI_nil : kyI [] = [] := (isort_perm []).eq_nil
theorem invS_0 (need : Int) (A : List (Int × Int)) : InvS need A 0 [([], [])] := by
  refine ⟨fun e he => ?_, fun q _ hl => ?_⟩
  · rw [List.mem_singleton.mp he]
    exact ⟨sch_nil _ _, rfl, kyI_nil.symm⟩
  · have : q = [] := List.length_eq_zero_iff.mp hl
    subst this
    exact ⟨_, List.mem_singleton.mpr rfl, kyI_nil.symm, .inl rfl⟩
theorem new_ok {need : Int} (hn : 0 ≤ need) {A : List (Int × Int)} {m : Nat} {e : En} (h : Sch need A e.2 ∧ e.2.length = m ∧ e.1 = kyI e.2) {k : Nat} (hc : cnd need A e k = true) : Sch need A (new need A e k).2 ∧ (new need A e k).2.length = m + 1 ∧ (new need A e k).1 = kyI (new need A e k).2 := by
  obtain ⟨h1, h2, h3⟩ := h
  unfold cnd at hc
  rw [Bool.and_eq_true] at hc
  obtain ⟨c1, c2⟩ := hc
  have c1 : (k : Int) ∉ e.1 := by simpa using c1
  rw [h3, mem_ky] at c1
  refine ⟨sch_snoc hn h1 c2 c1 ?_, by simp [new, h2], ?_⟩
  · by_cases q : e.2 = []
    · exact .inl q
    · right
      unfold bgn fre
      rw [if_neg q]
      split <;> omega
  · show isort (e.1 ++ [(k : Int)]) = _
    rw [h3]
    exact kyI_snoc e.2 (k, bgn need A e.2 k)
theorem mem_cand {need : Int} {A : List (Int × Int)} {F : List En} {x : En} (h : x ∈ F.flatMap (candS need A)) : ∃ e ∈ F, ∃ k, k < A.length ∧ cnd need A e k = true ∧ x = new need A e k := by
  obtain ⟨e, he, hx⟩ := List.mem_flatMap.mp h
  obtain ⟨k, hk, hx⟩ := List.mem_flatMap.mp hx
  unfold cand1 at hx
  split at hx
  · rename_i hc
    exact ⟨e, he, k, List.mem_range.mp hk, hc, List.mem_singleton.mp hx⟩
  · cases hx
theorem invS_s {need : Int} (hn : 0 ≤ need) {A : List (Int × Int)} (hA : ∀ p ∈ A, 0 ≤ p.1) {m : Nat} {F G : List En} (h : InvS need A m F) (hG : eCov (F.flatMap (candS need A)) G) : InvS need A (m + 1) G := by
  refine ⟨fun x hx => ?_, fun q hq hl => ?_⟩
  · obtain ⟨e, he, k, _, hc, rfl⟩ := mem_cand (hG.1 x hx)
    exact new_ok hn (h.1 e he) hc
  · rcases List.eq_nil_or_concat q with e | ⟨q', ⟨k, b⟩, e⟩
    · rw [e] at hl
      cases hl
    · rw [List.concat_eq_append] at e
      subst e
      have hq' := sch_pre hq
      have hl' : q'.length = m := by simpa using hl
      obtain ⟨e, he, e1, e2⟩ := h.2 q' hq' hl'
      obtain ⟨s1, s2, s3⟩ := h.1 e he
      have hp : k < A.length ∧ (A.getD k (0, 0)).1 ≤ b ∧ b + need ≤ (A.getD k (0, 0)).1 + (A.getD k (0, 0)).2 := plc_iff.mp (hq.p (k, b) (by simp))
      have hk : k ∉ q'.map (·.1) := by
        have := hq.d
        rw [List.map_append, List.nodup_append] at this
        intro hk
        exact this.2.2 k hk k (by simp) rfl
      have hb0 : 0 ≤ (A.getD k (0, 0)).1 := by
        rw [List.getD_eq_getElem?_getD, List.getElem?_eq_getElem hp.1]
        exact hA _ (List.getElem_mem hp.1)
      have hle : bgn need A e.2 k ≤ b := by
        unfold bgn fre
        by_cases q0 : e.2 = []
        · rw [if_pos q0]
          split <;> omega
        · rw [if_neg q0]
          have hm : m ≠ 0 := fun hm => q0 (List.length_eq_zero_iff.mp (by omega))
          have hlb : lb e.2 ≤ lb q' := by
            rcases e2 with e2 | e2
            · exact absurd e2 hm
            · exact e2
          have hqn : q' ≠ [] := fun z => by
            rw [z] at hl'
            simp at hl'
            omega
          have hlast : lb q' + need ≤ b := by
            rcases List.eq_nil_or_concat q' with z | ⟨q2, y, z⟩
            · exact absurd z hqn
            · rw [List.concat_eq_append] at z
              have := (List.pairwise_append.mp hq.o).2.2 y (by rw [z]; simp) (k, b) (by simp)
              rw [z, lb_snoc]
              exact this
          split <;> omega
      have hc : cnd need A e k = true := by
        unfold cnd
        have c1 : ¬ (k : Int) ∈ e.1 := by
          rw [e1, mem_ky]
          exact hk
        rw [Bool.and_eq_true]
        refine ⟨by simpa using c1, plc_iff.mpr ⟨hp.1, ?_, by omega⟩⟩
        unfold bgn
        split <;> omega
      obtain ⟨x, hx, x1, x2⟩ := hG.2 (new need A e k) (List.mem_flatMap.mpr ⟨e, he, List.mem_flatMap.mpr ⟨k, List.mem_range.mpr hp.1, by simp [cand1, hc]⟩⟩)
      refine ⟨x, hx, ?_, .inr ?_⟩
      · rw [x1]
        show isort (e.1 ++ [(k : Int)]) = _
        rw [e1]
        exact kyI_snoc q' (k, b)
      · rw [lb_snoc]
        have : lb (new need A e k).2 = bgn need A e.2 k := lb_snoc _ _
        omega
def goS (need : Int) (A : List (Int × Int)) (F : List En) : List En := (F.flatMap (candS need A)).foldl eUp []
theorem goS_cov (need : Int) (A : List (Int × Int)) (F : List En) : eCov (F.flatMap (candS need A)) (goS need A F) := by
  have := eCov_fold (F.flatMap (candS need A)) [] [] ⟨(fun x hx => by cases hx), (fun x hx => by cases hx)⟩
  simpa [goS] using this
def subs : Nat → List (List Int)
  | 0 => [[]]
  | n + 1 => subs n ++ (subs n).map fun s => s ++ [(n : Int)]
theorem subs_len : ∀ n, (subs n).length = 2 ^ n
  | 0 => rfl
  | n + 1 => by
    rw [subs, List.length_append, List.length_map, subs_len n, Nat.pow_succ]
    omega
theorem subs_mem : ∀ (n : Nat) (s : List Int), s.Pairwise (· < ·) → (∀ x ∈ s, 0 ≤ x ∧ x < (n : Int)) → s ∈ subs n
  | 0, s, _, h => by
    cases s with
    | nil => exact List.mem_singleton.mpr rfl
    | cons x s =>
      have := h x List.mem_cons_self
      omega
  | n + 1, s, hs, h => by
    rw [subs, List.mem_append]
    rcases List.eq_nil_or_concat s with e | ⟨t, y, e⟩
    · left
      rw [e]
      exact subs_mem n [] (by simp) (fun x hx => by cases hx)
    · rw [List.concat_eq_append] at e
      subst e
      obtain ⟨t1, _, t2⟩ := List.pairwise_append.mp hs
      by_cases c : y = (n : Int)
      · right
        refine List.mem_map.mpr ⟨t, subs_mem n t t1 (fun x hx => ?_), by rw [c]⟩
        have a := h x (List.mem_append_left _ hx)
        have b := t2 x hx y (by simp)
        omega
      · left
        refine subs_mem n _ hs fun x hx => ?_
        have a := h x hx
        have b := h y (by simp)
        refine ⟨a.1, ?_⟩
        rcases List.mem_append.mp hx with hx | hx
        · have := t2 x hx y (by simp)
          omega
        · rw [List.mem_singleton.mp hx]
          omega
theorem nd_le {α : Type} [DecidableEq α] : ∀ (R L : List α), R.Nodup → (∀ x ∈ R, x ∈ L) → R.length ≤ L.length
  | [], L, _, _ => Nat.zero_le _
  | a :: R, L, hn, hs => by
    have ha := hs a List.mem_cons_self
    have p1 := (List.perm_cons_erase ha).length_eq
    have hn2 := List.nodup_cons.mp hn
    have ih := nd_le R (L.erase a) hn2.2 fun x hx => by
      have hne : x ≠ a := fun e => hn2.1 (e ▸ hx)
      exact (List.mem_erase_of_ne hne).mpr (hs x (List.mem_cons_of_mem _ hx))
    simp at p1 ⊢
    omega
theorem ky_ok {need : Int} {A : List (Int × Int)} {q : Sq} (h : Sch need A q) : (kyI q).Pairwise (· < ·) ∧ ∀ x ∈ kyI q, 0 ≤ x ∧ x < (A.length : Int) := by
  have hnd : (nms q).Nodup := by
    have := h.d
    unfold nms
    show List.Pairwise _ _
    rw [List.pairwise_map]
    have h2 : List.Pairwise _ _ := this
    rw [List.pairwise_map] at h2
    exact h2.imp fun {a b} hh e => hh (by omega)
  refine ⟨?_, fun x hx => ?_⟩
  · have h1 := isort_le (nms q)
    have h2 : (isort (nms q)).Nodup := (isort_perm _).nodup_iff.mpr hnd
    have h3 : (isort (nms q)).Pairwise fun a b => a ≤ b ∧ a ≠ b := List.Pairwise.and h1 h2
    exact h3.imp fun {a b} hh => by omega
  · unfold kyI nms at hx
    rw [(isort_perm _).mem_iff] at hx
    obtain ⟨y, hy, rfl⟩ := List.mem_map.mp hx
    have := (plc_iff.mp (h.p y hy)).1
    omega
theorem tbl_len {need : Int} {A : List (Int × Int)} {F : List En} (hn : eNd F) (h : ∀ e ∈ F, Sch need A e.2 ∧ e.1 = kyI e.2) : F.length ≤ 2 ^ A.length := by
  have := nd_le (α := List Int) (F.map fun e : En => e.1) (subs A.length) hn fun x hx => by
    obtain ⟨e, he, rfl⟩ := List.mem_map.mp hx
    obtain ⟨h1, h2⟩ := h e he
    rw [h2]
    obtain ⟨k1, k2⟩ := ky_ok h1
    exact subs_mem _ _ k1 k2
  rw [List.length_map, subs_len] at this
  exact this
theorem sch_len {need : Int} {A : List (Int × Int)} {q : Sq} (h : Sch need A q) : q.length ≤ A.length := by
  have := nd_le (q.map (·.1)) (List.range A.length) h.d fun x hx => by
    obtain ⟨y, hy, rfl⟩ := List.mem_map.mp hx
    exact List.mem_range.mpr (plc_iff.mp (h.p y hy)).1
  simpa using this
def BestS (need : Int) (A : List (Int × Int)) (q : Sq) : Prop := Sch need A q ∧ ∀ r, Sch need A r → r.length ≤ q.length
theorem best_end {need : Int} {A : List (Int × Int)} {m : Nat} {q : Sq} (h : InvS need A (m + 1) []) (hq : Sch need A q) (hl : q.length = m) : BestS need A q := by
  refine ⟨hq, fun r hr => ?_⟩
  rcases Nat.lt_or_ge m r.length with c | c
  · have e : r = r.take (m + 1) ++ r.drop (m + 1) := (List.take_append_drop _ _).symm
    rw [e] at hr
    obtain ⟨x, hx, _⟩ := h.2 (r.take (m + 1)) (sch_pre hr) (by rw [List.length_take]; omega)
    cases hx
  · omega
end KW
namespace KW
open PySem PySem.Spec PyProof.Rows L2 L2.M
local macro_rules | `(tactic| walk_at "ev") => `(tactic| simp [semF, shared, after, mSeq, mSkip, mIf, mRet, mRetN, mRetV, mSet, mSetIx, mExpr, mB, mU, mTm, mPl, mK, mVar, mOp, mCons, mNil, bor, bors, mTst, mAndT, mOrT, mNotT, mAndE, mOrE, mNotE, mIfE, mIsi, isiD, mChn, chnL, cmpD, binD, addD, subD, mulD, modD, fdivD, powD, eqD, neD, ltD, leD, gtD, geD, isD, isnD, L2.M.isNon, negD, ixD, Bf.f, Bg.f, lenD, L2.M.intD, maxD, minD, repD, strD, gmaxD, gminD, sumD, sortD, anyD, allD, mCall, frz, fzO, lend, wb, mTup, mLst, fzs, cD, mAsg, bTup, bTps, mApp, tupD, lstD, mRev, revD, ofs_inj, ee_ii, ee_ss, ee_bb, ee_nn, ee_is, ee_si, ee_in, ee_ni, ee_tt, ee_ll, ee_maps, ee_0, ee_1, ee_2, ee_3, at_lit, at_nat, at_m1, at_m2, scD, emD, sizeLine_eq, ixN, sm_lit, mSrc, itemsD, plOf, rng1D, bNm, mSl, mPt, mNoP, slD, mPar, keepT, tmsO, setA, mFlow, zipX, enumX, itemsX, intsOf, ints_all, boolsOf, shaped_lay, lay_int, lay_bool, lay_none, lay_dict, lay_tup, lay_list, lay_ints, sortX_ints, mPlF, mPlI, mRd, mPU, mPB, mFSet, mFNew, mNSet, mPApp, mPSetIx, mPPop, mMeth, mNew, isIns, cellO, mLstN, mAddN, mAppN, semX, mTold, mCallX, xRet, xExpr, xSet, mRaise, mM, isL, isS, mOrV, truD])
local macro_rules | `(tactic| walk_at "es") => `(tactic| simp [semF, shared, after, mSeq, mSkip, mIf, mRet, mRetN, mRetV, mSet, mSetIx, mExpr, mB, mU, mTm, mPl, mK, mVar, mOp, mCons, mNil, bor, bors, mTst, mAndT, mOrT, mNotT, mAndE, mOrE, mNotE, mIfE, mIsi, isiD, mChn, chnL, cmpD, binD, addD, subD, mulD, modD, fdivD, powD, eqD, neD, ltD, leD, gtD, geD, isD, isnD, L2.M.isNon, negD, ixD, Bf.f, Bg.f, lenD, L2.M.intD, maxD, minD, repD, strD, gmaxD, gminD, sumD, sortD, anyD, allD, mCall, frz, fzO, lend, wb, mTup, mLst, fzs, cD, mAsg, bTup, bTps, mApp, tupD, lstD, mRev, revD, ofs_inj, ee_ii, ee_ss, ee_bb, ee_nn, ee_is, ee_si, ee_in, ee_ni, ee_tt, ee_ll, ee_maps, ee_0, ee_1, ee_2, ee_3, at_lit, at_nat, at_m1, at_m2, scD, emD, sizeLine_eq, ixN, sm_lit, mSrc, itemsD, plOf, rng1D, bNm, mSl, mPt, mNoP, slD, mPar, keepT, tmsO, setA, mFlow, zipX, enumX, itemsX, intsOf, ints_all, boolsOf, shaped_lay, lay_int, lay_bool, lay_none, lay_dict, lay_tup, lay_list, lay_ints, sortX_ints, mPlF, mPlI, mRd, mPU, mPB, mFSet, mFNew, mNSet, mPApp, mPSetIx, mPPop, mMeth, mNew, isIns, cellO, mLstN, mAddN, mAppN, semX, mTold, mCallX, xRet, xExpr, xSet, mRaise, mM, isL, isS, mOrV, truD, *])
local macro_rules | `(tactic| walk_at "el") => `(tactic| simp [semF, shared, after, mSeq, mSkip, mIf, mRet, mRetN, mRetV, mSet, mSetIx, mExpr, mB, mU, mTm, mPl, mK, mVar, mOp, mCons, mNil, bor, bors, mTst, mAndT, mOrT, mNotT, mAndE, mOrE, mNotE, mIfE, mIsi, isiD, mChn, chnL, cmpD, binD, addD, subD, mulD, modD, fdivD, powD, eqD, neD, ltD, leD, gtD, geD, isD, isnD, L2.M.isNon, negD, ixD, Bf.f, Bg.f, lenD, L2.M.intD, maxD, minD, repD, strD, gmaxD, gminD, sumD, sortD, anyD, allD, mCall, frz, fzO, lend, wb, mTup, mLst, fzs, cD, mAsg, bTup, bTps, mApp, tupD, lstD, mRev, revD, ofs_inj, ee_ii, ee_ss, ee_bb, ee_nn, ee_is, ee_si, ee_in, ee_ni, ee_tt, ee_ll, ee_maps, ee_0, ee_1, ee_2, ee_3, at_lit, at_nat, at_m1, at_m2, scD, emD, sizeLine_eq, ixN, sm_lit, mSrc, itemsD, plOf, rng1D, bNm, mSl, mPt, mNoP, slD, mPar, keepT, tmsO, setA, mFlow, zipX, enumX, itemsX, intsOf, ints_all, boolsOf, shaped_lay, lay_int, lay_bool, lay_none, lay_dict, lay_tup, lay_list, lay_ints, sortX_ints, mPlF, mPlI, mRd, mPU, mPB, mFSet, mFNew, mNSet, mPApp, mPSetIx, mPPop, mMeth, mNew, isIns, cellO, mLstN, mAddN, mAppN, semX, mTold, mCallX, xRet, xExpr, xSet, mRaise, mM, isL, isS, mOrV, truD, mLc, lcL, sameC, wipeC, restC, mYes, *])
local macro_rules | `(tactic| walk_at "ef") => `(tactic| simp [semF, shared, after, mSeq, mSkip, mIf, mRet, mRetN, mRetV, mSet, mSetIx, mExpr, mB, mU, mTm, mPl, mK, mVar, mOp, mCons, mNil, bor, bors, mTst, mAndT, mOrT, mNotT, mAndE, mOrE, mNotE, mIfE, mIsi, isiD, mChn, chnL, cmpD, binD, addD, subD, mulD, modD, fdivD, powD, eqD, neD, ltD, leD, gtD, geD, isD, isnD, L2.M.isNon, negD, ixD, Bf.f, Bg.f, lenD, L2.M.intD, maxD, minD, repD, strD, gmaxD, gminD, sumD, sortD, anyD, allD, mCall, frz, fzO, lend, wb, mTup, mLst, fzs, cD, mAsg, bTup, bTps, mApp, tupD, lstD, mRev, revD, ofs_inj, ee_ii, ee_ss, ee_bb, ee_nn, ee_is, ee_si, ee_in, ee_ni, ee_tt, ee_ll, ee_maps, ee_0, ee_1, ee_2, ee_3, at_lit, at_nat, at_m1, at_m2, scD, emD, sizeLine_eq, ixN, sm_lit, mSrc, itemsD, plOf, rng1D, bNm, mSl, mPt, mNoP, slD, mPar, keepT, tmsO, setA, mFlow, zipX, enumX, itemsX, intsOf, ints_all, boolsOf, shaped_lay, lay_int, lay_bool, lay_none, lay_dict, lay_tup, lay_list, lay_ints, sortX_ints, mPlF, mPlI, mRd, mPU, mPB, mFSet, mFNew, mNSet, mPApp, mPSetIx, mPPop, mMeth, mNew, isIns, cellO, mLstN, mAddN, mAppN, semX, mTold, mCallX, xRet, xExpr, xSet, mRaise, mM, isL, isS, mOrV, truD, mFor, forL, mLc, lcL, sameC, wipeC, restC, mYes, *])
local macro_rules | `(tactic| walk_at "rg") => `(tactic| (and_intros <;> grind))
local macro_rules | `(tactic| walk_at "nx") => `(tactic| (apply wx_nx; focus (walk_at "ev"; try first | exact ⟨rfl, rfl⟩ | rfl)))
local macro_rules | `(tactic| walk_at "ns") => `(tactic| (apply wx_nx; focus (walk_at "es"; try first | exact ⟨rfl, rfl⟩ | rfl)))
local macro_rules | `(tactic| walk_at "rt") => `(tactic| (apply wx_rt; focus (walk_at "ev"; try first | exact ⟨rfl, rfl⟩ | rfl)))
local macro_rules | `(tactic| walk_at "rs") => `(tactic| (apply wx_rt; focus (walk_at "es"; try first | exact ⟨rfl, rfl⟩ | rfl)))
local macro_rules | `(tactic| walk_at "ed") => `(tactic| simp [semF, shared, after, mSeq, mSkip, mIf, mRet, mRetN, mRetV, mSet, mSetIx, mExpr, mB, mU, mTm, mPl, mK, mVar, mOp, mCons, mNil, bor, bors, mTst, mAndT, mOrT, mNotT, mAndE, mOrE, mNotE, mIfE, mIsi, isiD, mChn, chnL, cmpD, binD, addD, subD, mulD, modD, fdivD, powD, eqD, neD, ltD, leD, gtD, geD, isD, isnD, L2.M.isNon, negD, ixD, Bf.f, Bg.f, lenD, L2.M.intD, maxD, minD, repD, strD, gmaxD, gminD, sumD, sortD, anyD, allD, mCall, frz, fzO, lend, wb, mTup, mLst, fzs, cD, mAsg, bTup, bTps, mApp, tupD, lstD, mRev, revD, ofs_inj, ee_ii, ee_ss, ee_bb, ee_nn, ee_is, ee_si, ee_in, ee_ni, ee_tt, ee_ll, ee_maps, ee_0, ee_1, ee_2, ee_3, at_lit, at_nat, at_m1, at_m2, scD, emD, sizeLine_eq, ixN, sm_lit, mSrc, itemsD, plOf, rng1D, bNm, mSl, mPt, mNoP, slD, mPar, keepT, tmsO, setA, mFlow, zipX, enumX, itemsX, intsOf, ints_all, boolsOf, shaped_lay, lay_int, lay_bool, lay_none, lay_dict, lay_tup, lay_list, lay_ints, sortX_ints, mPlF, mPlI, mRd, mPU, mPB, mFSet, mFNew, mNSet, mPApp, mPSetIx, mPPop, mMeth, mNew, isIns, cellO, mLstN, mAddN, mAppN, semX, mTold, mCallX, xRet, xExpr, xSet, mRaise, mM, isL, isS, mOrV, truD, mDNew, mDIn, mDGet, mDLen, mDPut, kyD, mNNew, mN1, mTake, mFnV, mCallF, mNIn, mNGet, mNPut, mNVals, mNList, nKs, mDGetD, mDList, mNNe, *])
/-- a stretch -/
def pr (p : Int × Int) : PyData := .tuple [.int p.1, .int p.2]
abbrev stD (st : List (Int × Int)) : PyData := .tuple (st.map pr)
theorem any_map {α : Type} (f : α → Bool) (xs : List α) : boolsOf (xs.map fun x => PyData.bool (f x)) = some (xs.map f) := by
  induction xs with
  | nil => rfl
  | cons x xs ih => simp only [List.map_cons, boolsOf, ih, Option.map_some]
/-- a loop over a story's stretches -/
theorem wx_sts {io : List Nat} {src : SM} {bind : BM} {body : XM} {ε ε1 : Cs} {st : List (Int × Int)} {Q : Fl → Cs → Prop} (J : Nat → Cs → Prop) (hs : src ε = some ((st.map pr, []), ε1)) (h0 : J 0 ε1)
    (hstep : ∀ (k : Nat) (hk : k < st.length) (ε2 : Cs), J k ε2 → ∃ ε3, bind (.tuple [.int st[k].1, .int st[k].2]) ε2 = some ε3 ∧ Wx (body ε3) fun f ε4 => match f with
      | .nx => J (k + 1) ε4
      | .ct => J (k + 1) ε4
      | .bk => Q .nx ε4
      | .rt c => Q (.rt c) ε4
      | .xc x => Q (.xc x) ε4) (hend : ∀ ε2, J st.length ε2 → Q .nx ε2) : Wx (mFor io src bind body ε) Q := by
  refine wx_for J hs rfl h0 (fun i ε hj j hj2 => by cases hj2) (fun i d ε2 hd hj => ?_) (fun ε2 h => hend ε2 (by rwa [List.length_map] at h))
  rw [List.getElem?_map] at hd
  obtain ⟨x, hx, rfl⟩ := Option.map_eq_some_iff.mp hd
  obtain ⟨hk, rfl⟩ := List.getElem?_eq_some_iff.mp hx
  exact hstep i hk ε2 hj
/-- each stretch is one, each begins behind the end of the one ahead -/
structure Rise (st : List (Int × Int)) : Prop where
  p : ∀ x ∈ st, x.1 < x.2
  q : st.Pairwise fun x y => x.2 < y.1
theorem Rise.at {st : List (Int × Int)} (h : Rise st) {i j : Nat} (hi : i < st.length) (hj : j < st.length) (hij : i < j) : st[i].2 < st[j].1 := List.pairwise_iff_getElem.mp h.q i j hi hj hij
theorem Rise.lt {st : List (Int × Int)} (h : Rise st) {i : Nat} (hi : i < st.length) : st[i].1 < st[i].2 := h.p _ (List.getElem_mem hi)
end KW
namespace KW
open PySem PySem.Spec PyProof.Rows L2 L2.M
def top (i : Nat) : Stmt := PySem.Challenge.pw_knockpurse_k55_schedules.main.body.getD i (.Pass ⟨0, 0, 0, 0⟩)
abbrev st_is_whole : Stmt := top 1
def d_is_whole : He.DefD := ⟨("is_whole", none), "is_whole", "is_whole", defArgs st_is_whole, defBody st_is_whole, defScope st_is_whole, [], []⟩
abbrev st_done_by_time : Stmt := top 3
def d_done_by_time : He.DefD := ⟨("done_by_time", none), "done_by_time", "done_by_time", defArgs st_done_by_time, defBody st_done_by_time, defScope st_done_by_time, [], []⟩
abbrev st_is_place : Stmt := top 4
def d_is_place : He.DefD := ⟨("is_place", none), "is_place", "is_place", defArgs st_is_place, defBody st_is_place, defScope st_is_place, [], []⟩
abbrev st_schedule_good : Stmt := top 5
def d_schedule_good : He.DefD := ⟨("schedule_good", none), "schedule_good", "schedule_good", defArgs st_schedule_good, defBody st_schedule_good, defScope st_schedule_good, [], []⟩
abbrev st_best_schedule : Stmt := top 6
def d_best_schedule : He.DefD := ⟨("best_schedule", none), "best_schedule", "best_schedule", defArgs st_best_schedule, defBody st_best_schedule, defScope st_best_schedule, [], []⟩
abbrev st_most_served : Stmt := top 7
def d_most_served : He.DefD := ⟨("most_served", none), "most_served", "most_served", defArgs st_most_served, defBody st_most_served, defScope st_most_served, [], []⟩
abbrev st_schedule_for : Stmt := top 8
def d_schedule_for : He.DefD := ⟨("schedule_for", none), "schedule_for", "schedule_for", defArgs st_schedule_for, defBody st_schedule_for, defScope st_schedule_for, [], []⟩
abbrev st_law_cell_at : Stmt := top 10
def d_law_cell_at : He.DefD := ⟨("_law_cell_at", none), "_law_cell_at", "_law_cell_at", defArgs st_law_cell_at, defBody st_law_cell_at, defScope st_law_cell_at, [], []⟩
abbrev st_law_next : Stmt := top 11
def d_law_next : He.DefD := ⟨("_law_next", none), "_law_next", "_law_next", defArgs st_law_next, defBody st_law_next, defScope st_law_next, [], []⟩
abbrev st_law_pen_of : Stmt := top 12
def d_law_pen_of : He.DefD := ⟨("_law_pen_of", none), "_law_pen_of", "_law_pen_of", defArgs st_law_pen_of, defBody st_law_pen_of, defScope st_law_pen_of, [], []⟩
abbrev st_law_draw : Stmt := top 13
def d_law_draw : He.DefD := ⟨("_law_draw", none), "_law_draw", "_law_draw", defArgs st_law_draw, defBody st_law_draw, defScope st_law_draw, [], []⟩
abbrev st_law_askings : Stmt := top 14
def d_law_askings : He.DefD := ⟨("_law_askings", none), "_law_askings", "_law_askings", defArgs st_law_askings, defBody st_law_askings, defScope st_law_askings, [], []⟩
abbrev st_law_odd : Stmt := top 15
def d_law_odd : He.DefD := ⟨("_law_odd", none), "_law_odd", "_law_odd", defArgs st_law_odd, defBody st_law_odd, defScope st_law_odd, [], []⟩
abbrev st_law_whole : Stmt := top 16
def d_law_whole : He.DefD := ⟨("_law_whole", none), "_law_whole", "_law_whole", defArgs st_law_whole, defBody st_law_whole, defScope st_law_whole, [], []⟩
abbrev st_law_good : Stmt := top 17
def d_law_good : He.DefD := ⟨("_law_good", none), "_law_good", "_law_good", defArgs st_law_good, defBody st_law_good, defScope st_law_good, [], []⟩
abbrev st_law_drawn : Stmt := top 18
def d_law_drawn : He.DefD := ⟨("_law_drawn", none), "_law_drawn", "_law_drawn", defArgs st_law_drawn, defBody st_law_drawn, defScope st_law_drawn, [], []⟩
abbrev st_law_bent : Stmt := top 19
def d_law_bent : He.DefD := ⟨("_law_bent", none), "_law_bent", "_law_bent", defArgs st_law_bent, defBody st_law_bent, defScope st_law_bent, [], []⟩
abbrev st_law_most : Stmt := top 20
def d_law_most : He.DefD := ⟨("_law_most", none), "_law_most", "_law_most", defArgs st_law_most, defBody st_law_most, defScope st_law_most, [], []⟩
abbrev st_law_most_right : Stmt := top 21
def d_law_most_right : He.DefD := ⟨("_law_most_right", none), "_law_most_right", "_law_most_right", defArgs st_law_most_right, defBody st_law_most_right, defScope st_law_most_right, [], []⟩
abbrev st_law : Stmt := top 22
def d_law : He.DefD := ⟨("law", none), "law", "law", defArgs st_law, defBody st_law, defScope st_law, [], []⟩
def fn : List He.DefD := [d_is_whole, d_done_by_time, d_is_place, d_schedule_good, d_best_schedule, d_most_served, d_schedule_for, d_law_cell_at, d_law_next, d_law_pen_of, d_law_draw, d_law_askings, d_law_odd, d_law_whole, d_law_good, d_law_drawn, d_law_bent, d_law_most, d_law_most_right, d_law]
def fa : List He.Fa := [.glo "is_whole", .glo "done_by_time", .glo "is_place", .glo "schedule_good", .glo "best_schedule", .glo "most_served", .glo "schedule_for", .glo "_law_cell_at", .glo "_law_next", .glo "_law_pen_of", .glo "_law_draw", .glo "_law_askings", .glo "_law_odd", .glo "_law_whole", .glo "_law_good", .glo "_law_drawn", .glo "_law_bent", .glo "_law_most", .glo "_law_most_right", .glo "law", .free "isinstance", .free "int", .free "bool", .free "max", .free "len", .free "tuple", .free "zip", .free "all", .free "set", .free "list", .free "min", .free "range", .free "sorted", .free "enumerate", .free "repr"]
abbrev Wd (K : PySem.W.Frag) (mg : Str → Option Value) : Prop := Wo fa fn K mg
noncomputable def m_is_whole : XM := mSeq (mRet (mAndE (mIsi .int (mPl 0)) (mNotE (mIsi .bool (mPl 0))))) (mSkip)
noncomputable def g_is_whole : GM := semF [true] 1 m_is_whole
noncomputable def m_done_by_time : XM := mSeq (mSet [0, 1] 2 (mK (.int 0))) (mSeq (mSet [0, 1] 3 (mLst (mNil))) (mSeq (mFor [0, 1] (mSrc itemsD (mCons (mTm (mVar 1)) mNil)) (bTup [bNm 4, bNm 5]) (mSeq (mSet [0, 1] 6 (mB (binD .Add) (mTm (mOp (Bf.f .max) (mCons (mPl 2) (mCons (mPl 4) (mNil))))) (mPl 0))) (mSeq (mIf (mTst (mB (cmpD .Gt) (mPl 6) (mTm (mB (binD .Add) (mPl 4) (mPl 5))))) (mSeq (mApp 3 (mK .none)) (mSkip)) (mSeq (mApp 3 (mVar 6)) (mSeq (mSet [0, 1] 2 (mVar 6)) (mSkip)))) (mSkip)))) (mSeq (mRetV [0, 1] 3) (mSkip))))
noncomputable def g_done_by_time : GM := semF [true, true] 7 m_done_by_time
noncomputable def m_is_place : XM := mSeq (mIf (mOrT (mNotT (mTst (mIsi .tuple (mPl 2)))) (mOrT (mTst (mB (cmpD .NotEq) (mTm (mOp (Bf.f .len) (mCons (mPl 2) (mNil)))) (mTm (mK (.int 2))))) (mOrT (mNotT (mTst (mCall [true] g_is_whole (mCons (mTm (mB ixD (mPl 2) (mTm (mK (.int 0))))) (mNil))))) (mNotT (mTst (mCall [true] g_is_whole (mCons (mTm (mB ixD (mPl 2) (mTm (mK (.int 1))))) (mNil)))))))) (mSeq (mRet (mK (.bool false))) (mSkip)) (mSkip)) (mSeq (mIf (mNotT (mTst (mChn (mTm (mK (.int 0))) [(cmpD .LtE, mTm (mB ixD (mPl 2) (mTm (mK (.int 0))))), (cmpD .Lt, mTm (mOp (Bf.f .len) (mCons (mPl 1) (mNil))))]))) (mSeq (mRet (mK (.bool false))) (mSkip)) (mSkip)) (mSeq (mAsg [3, 4] [0, 1, 2] (bTup [bNm 3, bNm 4]) (mB ixD (mPl 1) (mTm (mB ixD (mPl 2) (mTm (mK (.int 0))))))) (mSeq (mRet (mAndE (mB (cmpD .LtE) (mPl 3) (mTm (mB ixD (mPl 2) (mTm (mK (.int 1)))))) (mB (cmpD .LtE) (mTm (mB (binD .Add) (mTm (mB ixD (mPl 2) (mTm (mK (.int 1))))) (mPl 0))) (mTm (mB (binD .Add) (mPl 3) (mPl 4)))))) (mSkip))))
noncomputable def g_is_place : GM := semF [true, true, true] 5 m_is_place
noncomputable def m_schedule_good : XM := mSeq (mIf (mOrT (mNotT (mTst (mIsi .tuple (mPl 2)))) (mNotT (mTst (mOp (Bg.f .all) (mCons (mTm (mLc (mSrc itemsD (mCons (mTm (mVar 2)) mNil)) (bNm 3) (mYes) (mCall [true, true, true] g_is_place (mCons (mPl 0) (mCons (mPl 1) (mCons (mPl 3) (mNil))))) [3])) (mNil)))))) (mSeq (mRet (mK (.bool false))) (mSkip)) (mSkip)) (mSeq (mIf (mTst (mB (cmpD .NotEq) (mTm (mOp lsT (mCons (mTm (mLc (mSrc itemsD (mCons (mTm (mVar 2)) mNil)) (bNm 3) (mYes) (mB ixD (mPl 3) (mTm (mK (.int 0)))) [3])) (mNil)))) (mTm (mOp (Bf.f .len) (mCons (mPl 2) (mNil)))))) (mSeq (mRet (mK (.bool false))) (mSkip)) (mSkip)) (mSeq (mRet (mOp (Bg.f .all) (mCons (mTm (mLc (mSrc zipX (mCons (mTm (mVar 2)) (mCons (mTm (mSl (mPl 2) (mPt (mTm (mK (.int 1)))) (mNoP))) mNil))) (bTup [bNm 3, bNm 4]) (mYes) (mB (cmpD .LtE) (mTm (mB (binD .Add) (mTm (mB ixD (mPl 3) (mTm (mK (.int 1))))) (mPl 0))) (mTm (mB ixD (mPl 4) (mTm (mK (.int 1)))))) [3, 4])) (mNil)))) (mSkip)))
noncomputable def g_schedule_good : GM := semF [true, true, true] 5 m_schedule_good
noncomputable def m_best_schedule : XM := mSeq (mSet [0, 1] 2 (mN1 (mTup (mNil)) (mTup (mNil)))) (mSeq (mSet [0, 1] 3 (mTup (mNil))) (mSeq (mWhile (mTst (mNNe 2)) (mSeq (mSet [0, 1] 4 (mNNew)) (mSeq (mFor [0, 1] (mNSrc 2) (bNm 5) (mSeq (mSet [0, 1] 6 (mNGet 2 (mPl 5))) (mSeq (mSet [0, 1] 7 (mIfE (mTst (mB (cmpD .NotEq) (mPl 6) (mTm (mTup (mNil))))) (mB (binD .Add) (mTm (mB ixD (mTm (mB ixD (mPl 6) (mTm (mU negD (mTm (mK (.int 1))))))) (mTm (mK (.int 1))))) (mPl 0)) (mK (.int 0)))) (mSeq (mFor [0, 1] (mSrc rng1D (mCons (mTm (mOp (Bf.f .len) (mCons (mPl 1) (mNil)))) (mNil))) (bNm 8) (mSeq (mSet [0, 1] 9 (mOp (Bf.f .max) (mCons (mPl 7) (mCons (mTm (mB ixD (mTm (mB ixD (mPl 1) (mPl 8))) (mTm (mK (.int 0))))) (mNil))))) (mSeq (mIf (mAndT (mTst (mB (cmpD .NotIn) (mPl 8) (mPl 5))) (mTst (mCall [true, true, true] g_is_place (mCons (mPl 0) (mCons (mPl 1) (mCons (mTm (mTup (mCons (mPl 8) (mCons (mPl 9) (mNil))))) (mNil))))))) (mSeq (mSet [0, 1] 10 (mOp (Bf.f .tuple) (mCons (mTm (mOp sortZ (mCons (mTm (mB (binD .Add) (mPl 5) (mTm (mTup (mCons (mPl 8) (mNil)))))) (mNil)))) (mNil)))) (mSeq (mIf (mOrT (mTst (mNIn true 4 (mPl 10))) (mTst (mB (cmpD .Gt) (mTm (mB ixD (mTm (mB ixD (mTm (mNGet 4 (mPl 10))) (mTm (mU negD (mTm (mK (.int 1))))))) (mTm (mK (.int 1))))) (mPl 9)))) (mSeq (mNPut 4 (mB (binD .Add) (mPl 6) (mTm (mTup (mCons (mTm (mTup (mCons (mPl 8) (mCons (mPl 9) (mNil))))) (mNil))))) (mPl 10)) (mSkip)) (mSkip)) (mSkip))) (mSkip)) (mSkip)))) (mSkip))))) (mSeq (mSet [0, 1] 2 (mTake 4)) (mSeq (mIf (mTst (mNNe 2)) (mSeq (mSet [0, 1] 3 (mNGet 2 (mTm (mOp minT (mCons (mTm (mNList 2)) (mNil)))))) (mSkip)) (mSkip)) (mSkip)))))) (mSeq (mRetV [0, 1] 3) (mSkip))))
noncomputable def g_best_schedule : GM := semF [true, true] 11 m_best_schedule
noncomputable def m_most_served : XM := mSeq (mRet (mOp (Bf.f .len) (mCons (mTm (mCall [true, true] g_best_schedule (mCons (mPl 0) (mCons (mPl 1) (mNil))))) (mNil)))) (mSkip)
noncomputable def g_most_served : GM := semF [true, true] 2 m_most_served
noncomputable def m_schedule_for : XM := mSeq (mRet (mCall [true, true] g_best_schedule (mCons (mPl 0) (mCons (mPl 1) (mNil))))) (mSkip)
noncomputable def g_schedule_for : GM := semF [true, true] 2 m_schedule_for
noncomputable def m_law_cell_at : XM := mSeq (mIf (mTst (mB (cmpD .Lt) (mPl 1) (mTm (mOp (Bf.f .len) (mCons (mPl 0) (mNil)))))) (mSeq (mRet (mB ixD (mPl 0) (mPl 1))) (mSkip)) (mSkip)) (mSeq (mRet (mK (.int 0))) (mSkip))
noncomputable def g_law_cell_at : GM := semF [true, true] 2 m_law_cell_at
noncomputable def m_law_next : XM := mSeq (mSet [] 0 (mB (binD .Mod) (mTm (mB (binD .Add) (mPl 0) (mTm (mK (.int 7919))))) (mTm (mK (.int 2147483647))))) (mSeq (mRet (mB (binD .Mod) (mTm (mB (binD .Add) (mTm (mB (binD .Add) (mTm (mB (binD .Mult) (mPl 0) (mPl 0))) (mTm (mB (binD .Mult) (mTm (mK (.int 48271))) (mPl 0))))) (mTm (mK (.int 12345))))) (mTm (mK (.int 2147483629))))) (mSkip))
noncomputable def g_law_next : GM := semF [false] 1 m_law_next
noncomputable def m_law_pen_of : XM := mSeq (mSet [0] 1 (mOp (Bf.f .max) (mCons (mPl 0) (mCons (mTm (mB (binD .Sub) (mTm (mK (.int 0))) (mPl 0))) (mNil))))) (mSeq (mRet (mLst (mCons (mPl 1) (mCons (mTm (mOp (Bf.f .int) (mCons (mTm (mB (cmpD .GtE) (mPl 1) (mTm (mB (binD .Pow) (mTm (mK (.int 10))) (mTm (mK (.int 18))))))) (mNil)))) (mCons (mTm (mB (binD .Mod) (mPl 1) (mTm (mK (.int 1000003))))) (mNil)))))) (mSkip))
noncomputable def g_law_pen_of : GM := semF [true] 2 m_law_pen_of
noncomputable def m_law_draw : XM := mSeq (mIf (mAndT (mTst (mB (cmpD .Eq) (mTm (mB ixD (mPl 0) (mTm (mK (.int 1))))) (mTm (mK (.int 1))))) (mTst (mB (cmpD .Gt) (mTm (mB ixD (mPl 0) (mTm (mK (.int 0))))) (mTm (mK (.int 0)))))) (mSeq (mSet [0, 1] 2 (mB (binD .Mod) (mTm (mB ixD (mPl 0) (mTm (mK (.int 0))))) (mPl 1))) (mSeq (mSetIx 0 (mB (binD .FloorDiv) (mTm (mB ixD (mPl 0) (mTm (mK (.int 0))))) (mPl 1)) (mTm (mK (.int 0)))) (mSeq (mRetV [0, 1] 2) (mSkip)))) (mSkip)) (mSeq (mSetIx 0 (mCall [false] g_law_next (mCons (mTm (mB (binD .Add) (mTm (mCall [false] g_law_next (mCons (mTm (mB ixD (mPl 0) (mTm (mK (.int 2))))) (mNil)))) (mTm (mK (.int 7))))) (mNil))) (mTm (mK (.int 2)))) (mSeq (mRet (mB (binD .Mod) (mTm (mB (binD .FloorDiv) (mTm (mB ixD (mPl 0) (mTm (mK (.int 2))))) (mTm (mK (.int 64))))) (mPl 1))) (mSkip)))
noncomputable def g_law_draw : GM := semF [true, true] 3 m_law_draw
noncomputable def m_law_askings : XM := mSeq (mPar [0] [1, 2, 3] (mCons (mTm (mCall [true, true] g_law_draw (mCons (mPl 0) (mCons (mTm (mK (.int 9))) (mNil))))) (mCons (mTm (mB ixD (mTm (mLst (mCons (mTm (mK (.int 3))) (mCons (mTm (mK (.int 12))) (mCons (mTm (mK (.int 1000))) (mNil)))))) (mTm (mCall [true, true] g_law_draw (mCons (mPl 0) (mCons (mTm (mK (.int 3))) (mNil))))))) (mCons (mTm (mB ixD (mTm (mLst (mCons (mTm (mK (.int 1))) (mCons (mTm (mK (.int 2))) (mCons (mTm (mK (.int 4))) (mNil)))))) (mTm (mCall [true, true] g_law_draw (mCons (mPl 0) (mCons (mTm (mK (.int 3))) (mNil))))))) (mNil))))) (mSeq (mSet [0] 4 (mB (binD .Add) (mTm (mK (.int 1))) (mTm (mCall [true, true] g_law_draw (mCons (mPl 0) (mCons (mPl 2) (mNil))))))) (mSeq (mPar [0] [5, 6] (mCons (mTm (mCall [true, true] g_law_draw (mCons (mPl 0) (mCons (mTm (mK (.int 3))) (mNil))))) (mCons (mTm (mLst (mNil))) (mNil)))) (mSeq (mFor [0] (mSrc rng1D (mCons (mTm (mVar 1)) (mNil))) (bNm 7) (mSeq (mSet [0] 5 (mB (binD .Add) (mPl 5) (mTm (mCall [true, true] g_law_draw (mCons (mPl 0) (mCons (mTm (mB (binD .Add) (mPl 2) (mTm (mK (.int 1))))) (mNil))))))) (mSeq (mApp 6 (mTup (mCons (mPl 5) (mCons (mTm (mCall [true, true] g_law_draw (mCons (mPl 0) (mCons (mTm (mB (binD .Add) (mTm (mB (binD .Add) (mTm (mB (binD .Mult) (mPl 3) (mPl 4))) (mPl 2))) (mTm (mK (.int 1))))) (mNil))))) (mNil))))) (mSkip)))) (mSeq (mRet (mTup (mCons (mPl 4) (mCons (mTm (mOp (Bf.f .tuple) (mCons (mPl 6) (mNil)))) (mNil))))) (mSkip)))))
noncomputable def g_law_askings : GM := semF [true] 8 m_law_askings
noncomputable def m_law_odd : XM := mSeq (mSet [0] 1 (mLst (mCons (mTm (mK .none)) (mCons (mTm (mK (.bool true))) (mCons (mTm (mK (.bool false))) (mCons (mTm (mU negD (mTm (mK (.int 1))))) (mCons (mTm (mK (.str ""))) (mCons (mTm (mK (.str "silent"))) (mCons (mTm (mLst (mNil))) (mCons (mTm (mTup (mNil))) (mCons (mTm (mK (.dict []))) (mCons (mTm (mTup (mCons (mTm (mK (.int 1))) (mNil)))) (mCons (mTm (mB (binD .Pow) (mTm (mK (.int 10))) (mTm (mK (.int 30))))) (mCons (mTm (mK (.str "a"))) (mCons (mTm (mLst (mCons (mTm (mK (.int 1))) (mCons (mTm (mK (.int 2))) (mNil))))) (mCons (mTm (mTup (mCons (mTm (mTup (mCons (mTm (mK (.int 1))) (mCons (mTm (mK (.int 2))) (mNil))))) (mNil)))) (mCons (mTm (mK (.dict [(.int 1, .int 2)]))) (mCons (mTm (mTup (mCons (mTm (mK (.int 0))) (mCons (mTm (mK (.int 1))) (mCons (mTm (mK (.int 2))) (mNil)))))) (mNil))))))))))))))))))) (mSeq (mRet (mB ixD (mPl 1) (mTm (mCall [true, true] g_law_draw (mCons (mPl 0) (mCons (mTm (mOp (Bf.f .len) (mCons (mPl 1) (mNil)))) (mNil))))))) (mSkip))
noncomputable def g_law_odd : GM := semF [true] 2 m_law_odd
noncomputable def m_law_whole : XM := mSeq (mRet (mAndE (mIsi .int (mPl 0)) (mNotE (mIsi .bool (mPl 0))))) (mSkip)
noncomputable def g_law_whole : GM := semF [true] 1 m_law_whole
noncomputable def m_law_good : XM := mSeq (mIf (mNotT (mTst (mIsi .tuple (mPl 2)))) (mSeq (mRet (mK (.bool false))) (mSkip)) (mSkip)) (mSeq (mPar [0, 1, 2] [3, 4] (mCons (mTm (mK (.int 0))) (mCons (mTm (mLst (mNil))) (mNil)))) (mSeq (mFor [0, 1, 2] (mSrc itemsD (mCons (mTm (mVar 2)) mNil)) (bNm 5) (mSeq (mIf (mOrT (mNotT (mTst (mIsi .tuple (mPl 5)))) (mOrT (mTst (mB (cmpD .NotEq) (mTm (mOp (Bf.f .len) (mCons (mPl 5) (mNil)))) (mTm (mK (.int 2))))) (mOrT (mNotT (mTst (mCall [true] g_law_whole (mCons (mTm (mB ixD (mPl 5) (mTm (mK (.int 0))))) (mNil))))) (mNotT (mTst (mCall [true] g_law_whole (mCons (mTm (mB ixD (mPl 5) (mTm (mK (.int 1))))) (mNil)))))))) (mSeq (mRet (mK (.bool false))) (mSkip)) (mSkip)) (mSeq (mIf (mOrT (mNotT (mTst (mChn (mTm (mK (.int 0))) [(cmpD .LtE, mTm (mB ixD (mPl 5) (mTm (mK (.int 0))))), (cmpD .Lt, mTm (mOp (Bf.f .len) (mCons (mPl 1) (mNil))))]))) (mOrT (mTst (mB (cmpD .In) (mTm (mB ixD (mPl 5) (mTm (mK (.int 0))))) (mPl 4))) (mTst (mB (cmpD .Lt) (mTm (mB ixD (mPl 5) (mTm (mK (.int 1))))) (mPl 3))))) (mSeq (mRet (mK (.bool false))) (mSkip)) (mSkip)) (mSeq (mAsg [6, 7] [0, 1, 2] (bTup [bNm 6, bNm 7]) (mB ixD (mPl 1) (mTm (mB ixD (mPl 5) (mTm (mK (.int 0))))))) (mSeq (mIf (mOrT (mTst (mB (cmpD .Lt) (mTm (mB ixD (mPl 5) (mTm (mK (.int 1))))) (mPl 6))) (mTst (mB (cmpD .Gt) (mTm (mB (binD .Add) (mTm (mB ixD (mPl 5) (mTm (mK (.int 1))))) (mPl 0))) (mTm (mB (binD .Add) (mPl 6) (mPl 7)))))) (mSeq (mRet (mK (.bool false))) (mSkip)) (mSkip)) (mSeq (mPar [0, 1, 2] [3, 4] (mCons (mTm (mB (binD .Add) (mTm (mB ixD (mPl 5) (mTm (mK (.int 1))))) (mPl 0))) (mCons (mTm (mB (binD .Add) (mPl 4) (mTm (mLst (mCons (mTm (mB ixD (mPl 5) (mTm (mK (.int 0))))) (mNil)))))) (mNil)))) (mSkip))))))) (mSeq (mRet (mK (.bool true))) (mSkip))))
noncomputable def g_law_good : GM := semF [true, true, true] 8 m_law_good
noncomputable def m_law_drawn : XM := mSeq (mPar [0, 1, 2] [3, 4, 5] (mCons (mTm (mLrg (mOp (Bf.f .len) (mCons (mPl 2) (mNil))))) (mCons (mTm (mK (.int 0))) (mCons (mTm (mLst (mNil))) (mNil))))) (mSeq (mWhile (mTst (mB (cmpD .NotEq) (mPl 3) (mTm (mLst (mNil))))) (mSeq (mSet [0, 1, 2] 6 (mPopAt 3 (mCall [true, true] g_law_draw (mCons (mPl 0) (mCons (mTm (mOp (Bf.f .len) (mCons (mPl 3) (mNil)))) (mNil)))))) (mSeq (mAsg [7, 8] [0, 1, 2] (bTup [bNm 7, bNm 8]) (mB ixD (mPl 2) (mPl 6))) (mSeq (mSet [0, 1, 2] 9 (mB (binD .Add) (mTm (mOp (Bf.f .max) (mCons (mPl 4) (mCons (mPl 7) (mNil))))) (mTm (mB ixD (mTm (mLst (mCons (mTm (mK (.int 0))) (mCons (mTm (mK (.int 0))) (mCons (mTm (mCall [true, true] g_law_draw (mCons (mPl 0) (mCons (mTm (mK (.int 3))) (mNil))))) (mNil)))))) (mTm (mCall [true, true] g_law_draw (mCons (mPl 0) (mCons (mTm (mK (.int 3))) (mNil))))))))) (mSeq (mIf (mTst (mB (cmpD .LtE) (mTm (mB (binD .Add) (mPl 9) (mPl 1))) (mTm (mB (binD .Add) (mPl 7) (mPl 8))))) (mSeq (mApp 5 (mTup (mCons (mPl 6) (mCons (mPl 9) (mNil))))) (mSeq (mSet [0, 1, 2] 4 (mB (binD .Add) (mPl 9) (mPl 1))) (mSkip))) (mSkip)) (mSkip)))))) (mSeq (mRet (mOp (Bf.f .tuple) (mCons (mPl 5) (mNil)))) (mSkip)))
noncomputable def g_law_drawn : GM := semF [true, true, true] 10 m_law_drawn
noncomputable def m_law_bent : XM := mSeq (mPar [0, 1, 2] [3, 4] (mCons (mTm (mCall [true, true] g_law_draw (mCons (mPl 0) (mCons (mTm (mK (.int 17))) (mNil))))) (mCons (mTm (mCall [true] g_law_odd (mCons (mPl 0) (mNil)))) (mNil)))) (mSeq (mIf (mTst (mB (cmpD .Eq) (mPl 2) (mTm (mTup (mNil))))) (mSeq (mRet (mB ixD (mTm (mLst (mCons (mTm (mTup (mCons (mTm (mTup (mCons (mTm (mK (.int 0))) (mCons (mTm (mK (.int 0))) (mNil))))) (mNil)))) (mCons (mTm (mLst (mNil))) (mCons (mTm (mTup (mCons (mPl 4) (mNil)))) (mCons (mTm (mTup (mCons (mTm (mTup (mCons (mTm (mU negD (mTm (mK (.int 1))))) (mCons (mTm (mK (.int 0))) (mNil))))) (mNil)))) (mCons (mTm (mTup (mCons (mTm (mTup (mCons (mTm (mK (.int 0))) (mCons (mTm (mK (.bool true))) (mNil))))) (mNil)))) (mNil)))))))) (mTm (mB (binD .Mod) (mPl 3) (mTm (mK (.int 5))))))) (mSkip)) (mSkip)) (mSeq (mSet [0, 1, 2] 5 (mCall [true, true] g_law_draw (mCons (mPl 0) (mCons (mTm (mOp (Bf.f .len) (mCons (mPl 2) (mNil)))) (mNil))))) (mSeq (mAsg [6, 7] [0, 1, 2] (bTup [bNm 6, bNm 7]) (mB ixD (mPl 2) (mPl 5))) (mSeq (mSet [0, 1, 2] 8 (mLst (mCons (mTm (mTup (mCons (mPl 6) (mCons (mTm (mB (binD .Sub) (mPl 7) (mTm (mK (.int 1))))) (mNil))))) (mCons (mTm (mTup (mCons (mPl 6) (mCons (mTm (mB (binD .Add) (mPl 7) (mTm (mK (.int 1))))) (mNil))))) (mCons (mTm (mTup (mCons (mPl 6) (mCons (mTm (mU negD (mTm (mK (.int 1))))) (mNil))))) (mCons (mTm (mTup (mCons (mTm (mB ixD (mTm (mB ixD (mPl 2) (mTm (mK (.int 0))))) (mTm (mK (.int 0))))) (mCons (mPl 7) (mNil))))) (mCons (mTm (mTup (mCons (mTm (mB ixD (mTm (mB ixD (mPl 2) (mTm (mU negD (mTm (mK (.int 1))))))) (mTm (mK (.int 0))))) (mCons (mPl 7) (mNil))))) (mNil)))))))) (mSeq (mSet [0, 1, 2] 8 (mB (binD .Add) (mPl 8) (mTm (mLst (mCons (mTm (mTup (mCons (mTm (mK (.int 8))) (mCons (mPl 7) (mNil))))) (mCons (mTm (mTup (mCons (mTm (mU negD (mTm (mK (.int 1))))) (mCons (mPl 7) (mNil))))) (mCons (mTm (mTup (mCons (mTm (mK (.bool true))) (mCons (mPl 7) (mNil))))) (mCons (mTm (mTup (mCons (mPl 6) (mCons (mTm (mK .none)) (mNil))))) (mCons (mTm (mTup (mCons (mPl 6) (mCons (mTm (mK (.bool true))) (mNil))))) (mCons (mTm (mLst (mCons (mPl 6) (mCons (mPl 7) (mNil))))) (mNil))))))))))) (mSeq (mSet [0, 1, 2] 8 (mB (binD .Add) (mPl 8) (mTm (mLst (mCons (mTm (mTup (mCons (mPl 6) (mCons (mPl 7) (mCons (mTm (mK (.int 0))) (mNil)))))) (mCons (mPl 4) (mNil))))))) (mSeq (mIf (mTst (mB (cmpD .Lt) (mPl 3) (mTm (mOp (Bf.f .len) (mCons (mPl 8) (mNil)))))) (mSeq (mRet (mB (binD .Add) (mTm (mB (binD .Add) (mTm (mSl (mPl 2) (mNoP) (mPt (mPl 5)))) (mTm (mTup (mCons (mTm (mB ixD (mPl 8) (mPl 3))) (mNil)))))) (mTm (mSl (mPl 2) (mPt (mTm (mB (binD .Add) (mPl 5) (mTm (mK (.int 1)))))) (mNoP))))) (mSkip)) (mSkip)) (mSeq (mSet [0, 1, 2] 9 (mLst (mCons (mTm (mB (binD .Add) (mTm (mSl (mPl 2) (mNoP) (mPt (mPl 5)))) (mTm (mSl (mPl 2) (mPt (mTm (mB (binD .Add) (mPl 5) (mTm (mK (.int 1)))))) (mNoP))))) (mCons (mTm (mRev (mPl 2))) (mCons (mTm (mOp (Bf.f .list) (mCons (mPl 2) (mNil)))) (mCons (mTm (mB (binD .Add) (mPl 2) (mTm (mTup (mCons (mTm (mTup (mCons (mPl 6) (mCons (mTm (mB (binD .Add) (mTm (mB ixD (mTm (mB ixD (mPl 2) (mTm (mU negD (mTm (mK (.int 1))))))) (mTm (mK (.int 1))))) (mPl 1))) (mNil))))) (mNil)))))) (mNil))))))) (mSeq (mRet (mB ixD (mPl 9) (mTm (mB (binD .Sub) (mPl 3) (mTm (mOp (Bf.f .len) (mCons (mPl 8) (mNil)))))))) (mSkip))))))))))
noncomputable def g_law_bent : GM := semF [true, true, true] 10 m_law_bent
noncomputable def m_law_most : XM := mSeq (mSet [0, 1] 2 (mK (.int 0))) (mSeq (mSet [0, 1] 3 (mLst (mCons (mTm (mTup (mCons (mTm (mK (.int 0))) (mCons (mTm (mTup (mNil))) (mNil))))) (mNil)))) (mSeq (mWhile (mTst (mB (cmpD .NotEq) (mPl 3) (mTm (mLst (mNil))))) (mSeq (mAsg [4, 5] [0, 1] (bTup [bNm 4, bNm 5]) (mPop 3)) (mSeq (mSet [0, 1] 2 (mOp (Bf.f .max) (mCons (mPl 2) (mCons (mTm (mOp (Bf.f .len) (mCons (mPl 5) (mNil)))) (mNil))))) (mSeq (mFor [0, 1] (mSrc enumX (mCons (mTm (mVar 1)) mNil)) (bTup [bNm 6, bNm 7]) (mSeq (mSet [0, 1] 8 (mOp (Bf.f .max) (mCons (mPl 4) (mCons (mTm (mB ixD (mPl 7) (mTm (mK (.int 0))))) (mNil))))) (mSeq (mIf (mAndT (mTst (mB (cmpD .NotIn) (mPl 6) (mPl 5))) (mTst (mB (cmpD .LtE) (mTm (mB (binD .Add) (mPl 8) (mPl 0))) (mTm (mB (binD .Add) (mTm (mB ixD (mPl 7) (mTm (mK (.int 0))))) (mTm (mB ixD (mPl 7) (mTm (mK (.int 1)))))))))) (mSeq (mApp 3 (mTup (mCons (mTm (mB (binD .Add) (mPl 8) (mPl 0))) (mCons (mTm (mB (binD .Add) (mPl 5) (mTm (mTup (mCons (mPl 6) (mNil)))))) (mNil))))) (mSkip)) (mSkip)) (mSkip)))) (mSkip))))) (mSeq (mRetV [0, 1] 2) (mSkip))))
noncomputable def g_law_most : GM := semF [true, true] 9 m_law_most
noncomputable def m_law_most_right : XM := mSeq (mSet [0, 1] 2 (mSl (mPl 1) (mNoP) (mPt (mTm (mK (.int 5)))))) (mSeq (mFor [0, 1] (mSrc rng1D (mCons (mTm (mK (.int 2))) (mNil))) (bNm 3) (mSeq (mIf (mTst (mB (cmpD .NotEq) (mTm (mOp reprG (mCons (mTm (mCall [true, true] g_most_served (mCons (mPl 0) (mCons (mPl 2) (mNil))))) (mNil)))) (mTm (mOp reprG (mCons (mTm (mCall [true, true] g_law_most (mCons (mPl 0) (mCons (mPl 2) (mNil))))) (mNil)))))) (mSeq (mRet (mK (.bool false))) (mSkip)) (mSkip)) (mSeq (mFor [0, 1] (mSrc itemsD (mCons (mTm (mTup (mCons (mPl 2) (mCons (mPl 1) (mNil))))) mNil)) (bNm 4) (mSeq (mSet [0, 1] 5 (mCall [true, true] g_schedule_for (mCons (mPl 0) (mCons (mPl 4) (mNil))))) (mSeq (mIf (mOrT (mNotT (mTst (mCall [true, true, true] g_law_good (mCons (mPl 0) (mCons (mPl 4) (mCons (mPl 5) (mNil))))))) (mTst (mB (cmpD .NotEq) (mTm (mOp (Bf.f .len) (mCons (mPl 5) (mNil)))) (mTm (mCall [true, true] g_most_served (mCons (mPl 0) (mCons (mPl 4) (mNil)))))))) (mSeq (mRet (mK (.bool false))) (mSkip)) (mSkip)) (mSeq (mIf (mTst (mB (cmpD .Lt) (mTm (mOp (Bf.f .len) (mCons (mPl 5) (mNil)))) (mTm (mOp (Bf.f .len) (mCons (mTm (mLc (mSrc itemsD (mCons (mTm (mCall [true, true] g_done_by_time (mCons (mPl 0) (mCons (mPl 4) (mNil))))) mNil)) (bNm 6) (mTst (mB (cmpD .IsNot) (mPl 6) (mTm (mK .none)))) (mK (.int 1)) [6])) (mNil)))))) (mSeq (mRet (mK (.bool false))) (mSkip)) (mSkip)) (mSkip))))) (mSkip)))) (mSeq (mRet (mK (.bool true))) (mSkip)))
noncomputable def g_law_most_right : GM := semF [true, true] 7 m_law_most_right
noncomputable def m_law : XM := mSeq (mFor [] (mSrc itemsD (mCons (mTm (mB (binD .Add) (mTm (mLst (mCons (mTm (mCall [true, true] g_law_cell_at (mCons (mPl 0) (mCons (mTm (mK (.int 0))) (mNil))))) (mNil)))) (mTm (mSl (mPl 0) (mPt (mTm (mK (.int 1)))) (mPt (mTm (mK (.int 3)))))))) mNil)) (bNm 1) (mSeq (mSet [] 2 (mCall [true] g_law_pen_of (mCons (mPl 1) (mNil)))) (mSeq (mAsg [3, 4] [] (bTup [bNm 3, bNm 4]) (mCall [true] g_law_askings (mCons (mPl 2) (mNil)))) (mSeq (mIf (mNotT (mTst (mCall [true, true] g_law_most_right (mCons (mPl 3) (mCons (mPl 4) (mNil)))))) (mSeq (mRet (mK (.bool false))) (mSkip)) (mSkip)) (mSeq (mFor [] (mSrc rng1D (mCons (mTm (mK (.int 4))) (mNil))) (bNm 5) (mSeq (mSet [] 6 (mCall [true, true, true] g_law_drawn (mCons (mPl 2) (mCons (mPl 3) (mCons (mPl 4) (mNil)))))) (mSeq (mSet [] 7 (mLc (mSrc rng1D (mCons (mTm (mK (.int 3))) (mNil))) (bNm 8) (mYes) (mCall [true, true, true] g_law_bent (mCons (mPl 2) (mCons (mPl 3) (mCons (mPl 6) (mNil))))) [8])) (mSeq (mFor [] (mSrc itemsD (mCons (mTm (mB (binD .Add) (mTm (mLst (mCons (mPl 6) (mCons (mTm (mCall [true] g_law_odd (mCons (mPl 2) (mNil)))) (mNil))))) (mPl 7))) mNil)) (bNm 9) (mSeq (mSet [] 10 (mCall [true, true, true] g_law_good (mCons (mPl 3) (mCons (mPl 4) (mCons (mPl 9) (mNil)))))) (mSeq (mIf (mTst (mB (cmpD .NotEq) (mTm (mOp reprG (mCons (mTm (mB (binD .Mult) (mTm (mLst (mCons (mTm (mCall [true, true, true] g_schedule_good (mCons (mPl 3) (mCons (mPl 4) (mCons (mPl 9) (mNil)))))) (mNil)))) (mTm (mK (.int 2))))) (mNil)))) (mTm (mOp reprG (mCons (mTm (mLst (mCons (mPl 10) (mCons (mPl 10) (mNil))))) (mNil)))))) (mSeq (mRet (mK (.bool false))) (mSkip)) (mSkip)) (mSkip)))) (mSeq (mIf (mTst (mB (cmpD .Gt) (mTm (mOp (Bf.f .len) (mCons (mPl 6) (mNil)))) (mTm (mCall [true, true] g_most_served (mCons (mPl 3) (mCons (mPl 4) (mNil))))))) (mSeq (mRet (mK (.bool false))) (mSkip)) (mSkip)) (mSkip)))))) (mSkip)))))) (mSeq (mRet (mK (.bool true))) (mSkip))
section
variable {P : Program} {w : World} {K : PySem.W.Frag} {mg : Str → Option Value} {base : Heap}
theorem sc_is_whole : FnScope ["thing"] ["thing"] (defScope st_is_whole) := ⟨rfl, rfl, rfl, by decide +kernel, rfl, by decide +kernel, by decide +kernel⟩
theorem pl_is_whole : Plain d_is_whole ["thing"] := ⟨rfl, rfl, fun _ _ _ _ _ _ us hl => match us, hl with | [_], _ => rfl⟩
theorem bd_is_whole (W : Wd K mg) (f : Addr) (cdv : Value) (A : Around) (outer : List Env) (s : Shared) (H : Hp) (E : XK) (hr : Rm 0 (cxN P w K mg base ["thing"] d_is_whole f cdv A outer s H E).A) : PSs (cxN P w K mg base ["thing"] d_is_whole f cdv A outer s H E) d_is_whole.body (tS (K, w) W0 (ios [true]) m_is_whole) :=
  have nd : (["thing"] : List Str).Nodup := sc_is_whole.nd
  ms_cons (ms_ret (me_and (x_isi .int rfl (W.free 20) (W.free 21) rfl rfl (mo_name (pv 0))) (me_one (me_not (x_isi .bool rfl (W.free 20) (W.free 22) rfl rfl (mo_name (pv 0))))))) (ms_nil)
theorem ok_is_whole (W : Wd K mg) : KnG P w K mg base 1 "is_whole" ["thing"] (spOf (K, w) 1 g_is_whole) := kng_mk W 0 0 rfl rfl rfl pl_is_whole sc_is_whole (bd_is_whole W)
theorem sc_done_by_time : FnScope ["need", "askings", "free", "found", "beat", "time", "done"] ["need", "askings"] (defScope st_done_by_time) := ⟨rfl, rfl, rfl, by decide +kernel, rfl, by decide +kernel, by decide +kernel⟩
theorem pl_done_by_time : Plain d_done_by_time ["need", "askings"] := ⟨rfl, rfl, fun _ _ _ _ _ _ us hl => match us, hl with | [_, _], _ => rfl⟩
theorem bd_done_by_time (W : Wd K mg) (f : Addr) (cdv : Value) (A : Around) (outer : List Env) (s : Shared) (H : Hp) (E : XK) (hr : Rm 0 (cxN P w K mg base ["need", "askings", "free", "found", "beat", "time", "done"] d_done_by_time f cdv A outer s H E).A) : PSs (cxN P w K mg base ["need", "askings", "free", "found", "beat", "time", "done"] d_done_by_time f cdv A outer s H E) d_done_by_time.body (tS (K, w) W0 (ios [true, true]) m_done_by_time) :=
  have nd : (["need", "askings", "free", "found", "beat", "time", "done"] : List Str).Nodup := sc_done_by_time.nd
  ms_cons (z_set 2 nd (me_int)) (ms_cons (z_set 3 nd (me_lst (ma_nil))) (ms_cons (z_for (ts := [4, 5]) .never rfl (mi_any (mo_tm (me_name (pv 1)))) (Gd.imp (gd_tup rfl (gds_cons (gd_name) (gds_cons (gd_name) (gds_nil)))) (by intro j h; simpa using h)) (pg_tup rfl (pgs_cons (g_nm 4 nd) (pgs_cons (g_nm 5 nd) (pgs_nil)))) (ms_cons (z_set 6 nd (x_bin (mo_tm (x_bf .max rfl (W.free 23) rfl rfl (ma_cons (mo_name (pv 2)) (ma_cons (mo_name (pv 4)) (ma_nil))))) (mo_name (pv 0)))) (ms_cons (ms_if (y_cmp hr.toRoom (mo_name (pv 6)) (mo_tm (x_bin (mo_name (pv 4)) (mo_name (pv 5))))) (ms_cons (z_app 3 (pv 3) (me_non)) (ms_nil)) (ms_cons (z_app 3 (pv 3) (me_name (pv 6))) (ms_cons (z_set 2 nd (me_name (pv 6))) (ms_nil)))) (ms_nil)))) (ms_cons (ms_retV (pv 3)) (ms_nil))))
theorem ok_done_by_time (W : Wd K mg) : KnG P w K mg base 1 "done_by_time" ["need", "askings"] (spOf (K, w) 2 g_done_by_time) := kng_mk W 1 1 rfl rfl rfl pl_done_by_time sc_done_by_time (bd_done_by_time W)
theorem sc_is_place : FnScope ["need", "askings", "thing", "beat", "time"] ["need", "askings", "thing"] (defScope st_is_place) := ⟨rfl, rfl, rfl, by decide +kernel, rfl, by decide +kernel, by decide +kernel⟩
theorem pl_is_place : Plain d_is_place ["need", "askings", "thing"] := ⟨rfl, rfl, fun _ _ _ _ _ _ us hl => match us, hl with | [_, _, _], _ => rfl⟩
theorem bd_is_place (W : Wd K mg) (f : Addr) (cdv : Value) (A : Around) (outer : List Env) (s : Shared) (H : Hp) (E : XK) (hr : Rm 1 (cxN P w K mg base ["need", "askings", "thing", "beat", "time"] d_is_place f cdv A outer s H E).A) : PSs (cxN P w K mg base ["need", "askings", "thing", "beat", "time"] d_is_place f cdv A outer s H E) d_is_place.body (tS (K, w) W0 (ios [true, true, true]) m_is_place) :=
  have nd : (["need", "askings", "thing", "beat", "time"] : List Str).Nodup := sc_is_place.nd
  ms_cons (ms_if (PW.pt (mt_or (mt_not (y_val (x_isi .tuple rfl (W.free 20) (W.free 25) rfl rfl (mo_name (pv 2))))) (mt_or (y_cmp hr.toRoom (mo_tm (x_bf .len rfl (W.free 24) rfl rfl (ma_cons (mo_name (pv 2)) (ma_nil)))) (mo_tm (me_int))) (mt_or (mt_not (y_val (g_call (ok_is_whole W) hr (by decide) rfl (ma_cons (mo_tm (x_ix (mo_name (pv 2)) (mo_tm (me_int)))) (ma_nil))))) (mt_or1 (mt_not (y_val (g_call (ok_is_whole W) hr (by decide) rfl (ma_cons (mo_tm (x_ix (mo_name (pv 2)) (mo_tm (me_int)))) (ma_nil)))))))))) (ms_cons (ms_ret (me_bl)) (ms_nil)) (ms_nil)) (ms_cons (ms_if (mt_not (y_chain (mo_tm (me_int)) (ch_cons hr.toRoom (mo_tm (x_ix (mo_name (pv 2)) (mo_tm (me_int)))) (ch_one hr.toRoom (mo_tm (x_bf .len rfl (W.free 24) rfl rfl (ma_cons (mo_name (pv 1)) (ma_nil)))))))) (ms_cons (ms_ret (me_bl)) (ms_nil)) (ms_nil)) (ms_cons (z_asg (Gd.imp (gd_tup rfl (gds_cons (gd_name) (gds_cons (gd_name) (gds_nil)))) (by intro j h; simpa using h)) (pg_tup rfl (pgs_cons (g_nm 3 nd) (pgs_cons (g_nm 4 nd) (pgs_nil)))) (x_ix (mo_name (pv 1)) (mo_tm (x_ix (mo_name (pv 2)) (mo_tm (me_int)))))) (ms_cons (ms_ret (me_and (x_cmp hr.toRoom (mo_name (pv 3)) (mo_tm (x_ix (mo_name (pv 2)) (mo_tm (me_int))))) (me_one (x_cmp hr.toRoom (mo_tm (x_bin (mo_tm (x_ix (mo_name (pv 2)) (mo_tm (me_int)))) (mo_name (pv 0)))) (mo_tm (x_bin (mo_name (pv 3)) (mo_name (pv 4)))))))) (ms_nil))))
theorem ok_is_place (W : Wd K mg) : KnG P w K mg base 2 "is_place" ["need", "askings", "thing"] (spOf (K, w) 3 g_is_place) := kng_mk W 2 2 rfl rfl rfl pl_is_place sc_is_place (bd_is_place W)
theorem sc_schedule_good : FnScope ["need", "askings", "thing", "one", "later"] ["need", "askings", "thing"] (defScope st_schedule_good) := ⟨rfl, rfl, rfl, by decide +kernel, rfl, by decide +kernel, by decide +kernel⟩
theorem pl_schedule_good : Plain d_schedule_good ["need", "askings", "thing"] := ⟨rfl, rfl, fun _ _ _ _ _ _ us hl => match us, hl with | [_, _, _], _ => rfl⟩
theorem bd_schedule_good (W : Wd K mg) (f : Addr) (cdv : Value) (A : Around) (outer : List Env) (s : Shared) (H : Hp) (E : XK) (hr : Rm 2 (cxN P w K mg base ["need", "askings", "thing", "one", "later"] d_schedule_good f cdv A outer s H E).A) : PSs (cxN P w K mg base ["need", "askings", "thing", "one", "later"] d_schedule_good f cdv A outer s H E) d_schedule_good.body (tS (K, w) W0 (ios [true, true, true]) m_schedule_good) :=
  have nd : (["need", "askings", "thing", "one", "later"] : List Str).Nodup := sc_schedule_good.nd
  ms_cons (ms_if (PW.pt (mt_or (mt_not (y_val (x_isi .tuple rfl (W.free 20) (W.free 25) rfl rfl (mo_name (pv 2))))) (mt_or1 (mt_not (y_val (x_bg .all rfl (W.free 27) rfl rfl (ma_cons (mo_tm (x_lc [("one", 3)] rfl nd (blkOk_by (by first | rfl | kernel_rfl)) (mi_any (mo_tm (me_name (pv 2)))) (Gd.imp (gd_name) (by intro j h; simpa using h)) (fun _ _ _ _ _ => g_nm 3 nd) (fun _ _ _ _ _ => pts_no) (fun _ _ _ _ _ => g_call (ok_is_place W) hr (by decide) rfl (ma_cons (mo_name (pv 0)) (ma_cons (mo_name (pv 1)) (ma_cons (mo_name (pv 3)) (ma_nil))))))) (ma_nil)))))))) (ms_cons (ms_ret (me_bl)) (ms_nil)) (ms_nil)) (ms_cons (ms_if (y_cmp hr.toRoom (mo_tm (x_ls (W.free 24) rfl (W.free 28) rfl rfl (ma_cons (mo_tm (x_lc [("one", 3)] rfl nd (blkOk_by (by first | rfl | kernel_rfl)) (mi_any (mo_tm (me_name (pv 2)))) (Gd.imp (gd_name) (by intro j h; simpa using h)) (fun _ _ _ _ _ => g_nm 3 nd) (fun _ _ _ _ _ => pts_no) (fun _ _ _ _ _ => x_ix (mo_name (pv 3)) (mo_tm (me_int))))) (ma_nil)))) (mo_tm (x_bf .len rfl (W.free 24) rfl rfl (ma_cons (mo_name (pv 2)) (ma_nil))))) (ms_cons (ms_ret (me_bl)) (ms_nil)) (ms_nil)) (ms_cons (ms_ret (x_bg .all rfl (W.free 27) rfl rfl (ma_cons (mo_tm (x_lc [("one", 3), ("later", 4)] rfl nd (blkOk_by (by first | rfl | kernel_rfl)) ((by refine mi_zipX (W.free 26) ?_ ?_ ?_; exact rfl; exact (mo_tm (me_name (pv 2))); exact (mo_tm (me_slice (mo_name (pv 2)) (mp_some (mo_tm (me_int))) (mp_none))))) (Gd.imp (gd_tup rfl (gds_cons (gd_name) (gds_cons (gd_name) (gds_nil)))) (by intro j h; simpa using h)) (fun _ _ _ _ _ => pg_tup rfl (pgs_cons (g_nm 3 nd) (pgs_cons (g_nm 4 nd) (pgs_nil)))) (fun _ _ _ _ _ => pts_no) (fun _ _ _ _ _ => x_cmp hr.toRoom (mo_tm (x_bin (mo_tm (x_ix (mo_name (pv 3)) (mo_tm (me_int)))) (mo_name (pv 0)))) (mo_tm (x_ix (mo_name (pv 4)) (mo_tm (me_int))))))) (ma_nil)))) (ms_nil)))
theorem ok_schedule_good (W : Wd K mg) : KnG P w K mg base 3 "schedule_good" ["need", "askings", "thing"] (spOf (K, w) 3 g_schedule_good) := kng_mk W 3 3 rfl rfl rfl pl_schedule_good sc_schedule_good (bd_schedule_good W)
theorem sc_best_schedule : FnScope ["need", "askings", "known", "best", "longer", "some", "row", "free", "number", "begin", "key"] ["need", "askings"] (defScope st_best_schedule) := ⟨rfl, rfl, rfl, by decide +kernel, rfl, by decide +kernel, by decide +kernel⟩
theorem pl_best_schedule : Plain d_best_schedule ["need", "askings"] := ⟨rfl, rfl, fun _ _ _ _ _ _ us hl => match us, hl with | [_, _], _ => rfl⟩
theorem bd_best_schedule (W : Wd K mg) (f : Addr) (cdv : Value) (A : Around) (outer : List Env) (s : Shared) (H : Hp) (E : XK) (hr : Rm 2 (cxN P w K mg base ["need", "askings", "known", "best", "longer", "some", "row", "free", "number", "begin", "key"] d_best_schedule f cdv A outer s H E).A) : PSs (cxN P w K mg base ["need", "askings", "known", "best", "longer", "some", "row", "free", "number", "begin", "key"] d_best_schedule f cdv A outer s H E) d_best_schedule.body (tS (K, w) W0 (ios [true, true]) m_best_schedule) :=
  have nd : (["need", "askings", "known", "best", "longer", "some", "row", "free", "number", "begin", "key"] : List Str).Nodup := sc_best_schedule.nd
  ms_cons (z_set 2 nd (x_nd1 hr.toRoom (me_tup (ma_nil)) (me_tup (ma_nil)))) (ms_cons (z_set 3 nd (me_tup (ma_nil))) (ms_cons (ms_while .never (y_nne hr.toRoom (pv 2)) (ms_cons (z_set 4 nd (x_nnew)) (ms_cons (z_for (ts := [5]) .never rfl (mi_nkeys (pv 2)) (Gd.imp (gd_name) (by intro j h; simpa using h)) (g_nm 5 nd) (ms_cons (z_set 6 nd (x_nget hr.toRoom (pv 2) (mo_name (pv 5)))) (ms_cons (z_set 7 nd (me_ife (y_cmp hr.toRoom (mo_name (pv 6)) (mo_tm (me_tup (ma_nil)))) (x_bin (mo_tm (x_ix (mo_tm (x_ix (mo_name (pv 6)) (mo_tm (x_neg (mo_tm (me_int)))))) (mo_tm (me_int)))) (mo_name (pv 0))) (me_int))) (ms_cons (z_for (ts := [8]) .never rfl (z_rng1 (W.free 31) rfl (ma_cons (mo_tm (x_bf .len rfl (W.free 24) rfl rfl (ma_cons (mo_name (pv 1)) (ma_nil)))) (ma_nil))) (Gd.imp (gd_name) (by intro j h; simpa using h)) (g_nm 8 nd) (ms_cons (z_set 9 nd (x_bf .max rfl (W.free 23) rfl rfl (ma_cons (mo_name (pv 7)) (ma_cons (mo_tm (x_ix (mo_tm (x_ix (mo_name (pv 1)) (mo_name (pv 8)))) (mo_tm (me_int)))) (ma_nil))))) (ms_cons (ms_if (PW.pt (mt_and (y_cmp hr.toRoom (mo_name (pv 8)) (mo_name (pv 5))) (mt_and1 (y_val (g_call (ok_is_place W) hr (by decide) rfl (ma_cons (mo_name (pv 0)) (ma_cons (mo_name (pv 1)) (ma_cons (mo_tm (me_tup (ma_cons (mo_name (pv 8)) (ma_cons (mo_name (pv 9)) (ma_nil))))) (ma_nil))))))))) (ms_cons (z_set 10 nd (x_bf .tuple rfl (W.free 25) rfl rfl (ma_cons (mo_tm (x_sortZ (W.free 32) rfl (ma_cons (mo_tm (x_bin (mo_name (pv 5)) (mo_tm (me_tup (ma_cons (mo_name (pv 8)) (ma_nil)))))) (ma_nil)))) (ma_nil)))) (ms_cons (ms_if (PW.pt (mt_or (y_nnin hr.toRoom (pv 4) (mo_name (pv 10))) (mt_or1 (y_cmp hr.toRoom (mo_tm (x_ix (mo_tm (x_ix (mo_tm (x_nget hr.toRoom (pv 4) (mo_name (pv 10)))) (mo_tm (x_neg (mo_tm (me_int)))))) (mo_tm (me_int)))) (mo_name (pv 9)))))) (ms_cons (z_nput hr.toRoom 4 (pv 4) (x_bin (mo_name (pv 6)) (mo_tm (me_tup (ma_cons (mo_tm (me_tup (ma_cons (mo_name (pv 8)) (ma_cons (mo_name (pv 9)) (ma_nil))))) (ma_nil))))) (mo_name (pv 10))) (ms_nil)) (ms_nil)) (ms_nil))) (ms_nil)) (ms_nil)))) (ms_nil))))) (ms_cons (z_set 2 nd (x_take (pv 4))) (ms_cons (ms_if (y_nne hr.toRoom (pv 2)) (ms_cons (z_set 3 nd (x_nget hr.toRoom (pv 2) (mo_tm (x_minT (W.free 30) hr rfl rfl (ma_cons (mo_tm (x_nlist (W.free 29) rfl rfl (pv 2))) (ma_nil)))))) (ms_nil)) (ms_nil)) (ms_nil)))))) (ms_cons (ms_retV (pv 3)) (ms_nil))))
theorem ok_best_schedule (W : Wd K mg) : KnG P w K mg base 3 "best_schedule" ["need", "askings"] (spOf (K, w) 2 g_best_schedule) := kng_mk W 4 4 rfl rfl rfl pl_best_schedule sc_best_schedule (bd_best_schedule W)
theorem sc_most_served : FnScope ["need", "askings"] ["need", "askings"] (defScope st_most_served) := ⟨rfl, rfl, rfl, by decide +kernel, rfl, by decide +kernel, by decide +kernel⟩
theorem pl_most_served : Plain d_most_served ["need", "askings"] := ⟨rfl, rfl, fun _ _ _ _ _ _ us hl => match us, hl with | [_, _], _ => rfl⟩
theorem bd_most_served (W : Wd K mg) (f : Addr) (cdv : Value) (A : Around) (outer : List Env) (s : Shared) (H : Hp) (E : XK) (hr : Rm 3 (cxN P w K mg base ["need", "askings"] d_most_served f cdv A outer s H E).A) : PSs (cxN P w K mg base ["need", "askings"] d_most_served f cdv A outer s H E) d_most_served.body (tS (K, w) W0 (ios [true, true]) m_most_served) :=
  have nd : (["need", "askings"] : List Str).Nodup := sc_most_served.nd
  ms_cons (ms_ret (x_bf .len rfl (W.free 24) rfl rfl (ma_cons (mo_tm (g_call (ok_best_schedule W) hr (by decide) rfl (ma_cons (mo_name (pv 0)) (ma_cons (mo_name (pv 1)) (ma_nil))))) (ma_nil)))) (ms_nil)
theorem ok_most_served (W : Wd K mg) : KnG P w K mg base 4 "most_served" ["need", "askings"] (spOf (K, w) 2 g_most_served) := kng_mk W 5 5 rfl rfl rfl pl_most_served sc_most_served (bd_most_served W)
theorem sc_schedule_for : FnScope ["need", "askings"] ["need", "askings"] (defScope st_schedule_for) := ⟨rfl, rfl, rfl, by decide +kernel, rfl, by decide +kernel, by decide +kernel⟩
theorem pl_schedule_for : Plain d_schedule_for ["need", "askings"] := ⟨rfl, rfl, fun _ _ _ _ _ _ us hl => match us, hl with | [_, _], _ => rfl⟩
theorem bd_schedule_for (W : Wd K mg) (f : Addr) (cdv : Value) (A : Around) (outer : List Env) (s : Shared) (H : Hp) (E : XK) (hr : Rm 3 (cxN P w K mg base ["need", "askings"] d_schedule_for f cdv A outer s H E).A) : PSs (cxN P w K mg base ["need", "askings"] d_schedule_for f cdv A outer s H E) d_schedule_for.body (tS (K, w) W0 (ios [true, true]) m_schedule_for) :=
  have nd : (["need", "askings"] : List Str).Nodup := sc_schedule_for.nd
  ms_cons (ms_ret (g_call (ok_best_schedule W) hr (by decide) rfl (ma_cons (mo_name (pv 0)) (ma_cons (mo_name (pv 1)) (ma_nil))))) (ms_nil)
theorem ok_schedule_for (W : Wd K mg) : KnG P w K mg base 4 "schedule_for" ["need", "askings"] (spOf (K, w) 2 g_schedule_for) := kng_mk W 6 6 rfl rfl rfl pl_schedule_for sc_schedule_for (bd_schedule_for W)
theorem sc_law_cell_at : FnScope ["_law_script", "_law_k"] ["_law_script", "_law_k"] (defScope st_law_cell_at) := ⟨rfl, rfl, rfl, by decide +kernel, rfl, by decide +kernel, by decide +kernel⟩
theorem pl_law_cell_at : Plain d_law_cell_at ["_law_script", "_law_k"] := ⟨rfl, rfl, fun _ _ _ _ _ _ us hl => match us, hl with | [_, _], _ => rfl⟩
theorem bd_law_cell_at (W : Wd K mg) (f : Addr) (cdv : Value) (A : Around) (outer : List Env) (s : Shared) (H : Hp) (E : XK) (hr : Rm 0 (cxN P w K mg base ["_law_script", "_law_k"] d_law_cell_at f cdv A outer s H E).A) : PSs (cxN P w K mg base ["_law_script", "_law_k"] d_law_cell_at f cdv A outer s H E) d_law_cell_at.body (tS (K, w) W0 (ios [true, true]) m_law_cell_at) :=
  have nd : (["_law_script", "_law_k"] : List Str).Nodup := sc_law_cell_at.nd
  ms_cons (ms_if (y_cmp hr.toRoom (mo_name (pv 1)) (mo_tm (x_bf .len rfl (W.free 24) rfl rfl (ma_cons (mo_name (pv 0)) (ma_nil))))) (ms_cons (ms_ret (x_ix (mo_name (pv 0)) (mo_name (pv 1)))) (ms_nil)) (ms_nil)) (ms_cons (ms_ret (me_int)) (ms_nil))
theorem ok_law_cell_at (W : Wd K mg) : KnG P w K mg base 1 "_law_cell_at" ["_law_script", "_law_k"] (spOf (K, w) 2 g_law_cell_at) := kng_mk W 7 7 rfl rfl rfl pl_law_cell_at sc_law_cell_at (bd_law_cell_at W)
theorem sc_law_next : FnScope ["_law_seed"] ["_law_seed"] (defScope st_law_next) := ⟨rfl, rfl, rfl, by decide +kernel, rfl, by decide +kernel, by decide +kernel⟩
theorem pl_law_next : Plain d_law_next ["_law_seed"] := ⟨rfl, rfl, fun _ _ _ _ _ _ us hl => match us, hl with | [_], _ => rfl⟩
theorem bd_law_next (W : Wd K mg) (f : Addr) (cdv : Value) (A : Around) (outer : List Env) (s : Shared) (H : Hp) (E : XK) (hr : Rm 0 (cxN P w K mg base ["_law_seed"] d_law_next f cdv A outer s H E).A) : PSs (cxN P w K mg base ["_law_seed"] d_law_next f cdv A outer s H E) d_law_next.body (tS (K, w) W0 (ios [false]) m_law_next) :=
  have nd : (["_law_seed"] : List Str).Nodup := sc_law_next.nd
  ms_cons (z_set 0 nd (x_bin (mo_tm (x_bin (mo_name (pv 0)) (mo_tm (me_int)))) (mo_tm (me_int)))) (ms_cons (ms_ret (x_bin (mo_tm (x_bin (mo_tm (x_bin (mo_tm (x_bin (mo_name (pv 0)) (mo_name (pv 0)))) (mo_tm (x_bin (mo_tm (me_int)) (mo_name (pv 0)))))) (mo_tm (me_int)))) (mo_tm (me_int)))) (ms_nil))
theorem ok_law_next (W : Wd K mg) : KnG P w K mg base 1 "_law_next" ["_law_seed"] (spOf (K, w) 1 g_law_next) := kng_mk W 8 8 rfl rfl rfl pl_law_next sc_law_next (bd_law_next W)
theorem sc_law_pen_of : FnScope ["_law_cell", "_law_left"] ["_law_cell"] (defScope st_law_pen_of) := ⟨rfl, rfl, rfl, by decide +kernel, rfl, by decide +kernel, by decide +kernel⟩
theorem pl_law_pen_of : Plain d_law_pen_of ["_law_cell"] := ⟨rfl, rfl, fun _ _ _ _ _ _ us hl => match us, hl with | [_], _ => rfl⟩
theorem bd_law_pen_of (W : Wd K mg) (f : Addr) (cdv : Value) (A : Around) (outer : List Env) (s : Shared) (H : Hp) (E : XK) (hr : Rm 0 (cxN P w K mg base ["_law_cell", "_law_left"] d_law_pen_of f cdv A outer s H E).A) : PSs (cxN P w K mg base ["_law_cell", "_law_left"] d_law_pen_of f cdv A outer s H E) d_law_pen_of.body (tS (K, w) W0 (ios [true]) m_law_pen_of) :=
  have nd : (["_law_cell", "_law_left"] : List Str).Nodup := sc_law_pen_of.nd
  ms_cons (z_set 1 nd (x_bf .max rfl (W.free 23) rfl rfl (ma_cons (mo_name (pv 0)) (ma_cons (mo_tm (x_bin (mo_tm (me_int)) (mo_name (pv 0)))) (ma_nil))))) (ms_cons (ms_ret (me_lst (ma_cons (mo_name (pv 1)) (ma_cons (mo_tm (x_bf .int rfl (W.free 21) rfl rfl (ma_cons (mo_tm (x_cmp hr.toRoom (mo_name (pv 1)) (mo_tm (x_bin (mo_tm (me_int)) (mo_tm (me_int)))))) (ma_nil)))) (ma_cons (mo_tm (x_bin (mo_name (pv 1)) (mo_tm (me_int)))) (ma_nil)))))) (ms_nil))
theorem ok_law_pen_of (W : Wd K mg) : KnG P w K mg base 1 "_law_pen_of" ["_law_cell"] (spOf (K, w) 1 g_law_pen_of) := kng_mk W 9 9 rfl rfl rfl pl_law_pen_of sc_law_pen_of (bd_law_pen_of W)
theorem sc_law_draw : FnScope ["_law_pen", "_law_many", "_law_found"] ["_law_pen", "_law_many"] (defScope st_law_draw) := ⟨rfl, rfl, rfl, by decide +kernel, rfl, by decide +kernel, by decide +kernel⟩
theorem pl_law_draw : Plain d_law_draw ["_law_pen", "_law_many"] := ⟨rfl, rfl, fun _ _ _ _ _ _ us hl => match us, hl with | [_, _], _ => rfl⟩
theorem bd_law_draw (W : Wd K mg) (f : Addr) (cdv : Value) (A : Around) (outer : List Env) (s : Shared) (H : Hp) (E : XK) (hr : Rm 1 (cxN P w K mg base ["_law_pen", "_law_many", "_law_found"] d_law_draw f cdv A outer s H E).A) : PSs (cxN P w K mg base ["_law_pen", "_law_many", "_law_found"] d_law_draw f cdv A outer s H E) d_law_draw.body (tS (K, w) W0 (ios [true, true]) m_law_draw) :=
  have nd : (["_law_pen", "_law_many", "_law_found"] : List Str).Nodup := sc_law_draw.nd
  ms_cons (ms_if (PW.pt (mt_and (y_cmp hr.toRoom (mo_tm (x_ix (mo_name (pv 0)) (mo_tm (me_int)))) (mo_tm (me_int))) (mt_and1 (y_cmp hr.toRoom (mo_tm (x_ix (mo_name (pv 0)) (mo_tm (me_int)))) (mo_tm (me_int)))))) (ms_cons (z_set 2 nd (x_bin (mo_tm (x_ix (mo_name (pv 0)) (mo_tm (me_int)))) (mo_name (pv 1)))) (ms_cons (z_ix 0 (pv 0) (mo_tm (me_int)) (x_bin (mo_tm (x_ix (mo_name (pv 0)) (mo_tm (me_int)))) (mo_name (pv 1)))) (ms_cons (ms_retV (pv 2)) (ms_nil)))) (ms_nil)) (ms_cons (z_ix 0 (pv 0) (mo_tm (me_int)) (g_call (ok_law_next W) hr (by decide) rfl (ma_cons (mo_tm (x_bin (mo_tm (g_call (ok_law_next W) hr (by decide) rfl (ma_cons (mo_tm (x_ix (mo_name (pv 0)) (mo_tm (me_int)))) (ma_nil)))) (mo_tm (me_int)))) (ma_nil)))) (ms_cons (ms_ret (x_bin (mo_tm (x_bin (mo_tm (x_ix (mo_name (pv 0)) (mo_tm (me_int)))) (mo_tm (me_int)))) (mo_name (pv 1)))) (ms_nil)))
theorem ok_law_draw (W : Wd K mg) : KnG P w K mg base 2 "_law_draw" ["_law_pen", "_law_many"] (spOf (K, w) 2 g_law_draw) := kng_mk W 10 10 rfl rfl rfl pl_law_draw sc_law_draw (bd_law_draw W)
theorem sc_law_askings : FnScope ["_law_pen", "_law_many", "_law_wide", "_law_time", "_law_need", "_law_beat", "_law_found", "_law_turn"] ["_law_pen"] (defScope st_law_askings) := ⟨rfl, rfl, rfl, by decide +kernel, rfl, by decide +kernel, by decide +kernel⟩
theorem pl_law_askings : Plain d_law_askings ["_law_pen"] := ⟨rfl, rfl, fun _ _ _ _ _ _ us hl => match us, hl with | [_], _ => rfl⟩
theorem bd_law_askings (W : Wd K mg) (f : Addr) (cdv : Value) (A : Around) (outer : List Env) (s : Shared) (H : Hp) (E : XK) (hr : Rm 2 (cxN P w K mg base ["_law_pen", "_law_many", "_law_wide", "_law_time", "_law_need", "_law_beat", "_law_found", "_law_turn"] d_law_askings f cdv A outer s H E).A) : PSs (cxN P w K mg base ["_law_pen", "_law_many", "_law_wide", "_law_time", "_law_need", "_law_beat", "_law_found", "_law_turn"] d_law_askings f cdv A outer s H E) d_law_askings.body (tS (K, w) W0 (ios [true]) m_law_askings) :=
  have nd : (["_law_pen", "_law_many", "_law_wide", "_law_time", "_law_need", "_law_beat", "_law_found", "_law_turn"] : List Str).Nodup := sc_law_askings.nd
  ms_cons (z_par3 1 2 3 rfl nd (ma_cons (mo_tm (g_call (ok_law_draw W) hr (by decide) rfl (ma_cons (mo_name (pv 0)) (ma_cons (mo_tm (me_int)) (ma_nil))))) (ma_cons (mo_tm (x_ix (mo_tm (me_lst (ma_cons (mo_tm (me_int)) (ma_cons (mo_tm (me_int)) (ma_cons (mo_tm (me_int)) (ma_nil)))))) (mo_tm (g_call (ok_law_draw W) hr (by decide) rfl (ma_cons (mo_name (pv 0)) (ma_cons (mo_tm (me_int)) (ma_nil))))))) (ma_cons (mo_tm (x_ix (mo_tm (me_lst (ma_cons (mo_tm (me_int)) (ma_cons (mo_tm (me_int)) (ma_cons (mo_tm (me_int)) (ma_nil)))))) (mo_tm (g_call (ok_law_draw W) hr (by decide) rfl (ma_cons (mo_name (pv 0)) (ma_cons (mo_tm (me_int)) (ma_nil))))))) (ma_nil))))) (ms_cons (z_set 4 nd (x_bin (mo_tm (me_int)) (mo_tm (g_call (ok_law_draw W) hr (by decide) rfl (ma_cons (mo_name (pv 0)) (ma_cons (mo_name (pv 2)) (ma_nil))))))) (ms_cons (z_par2 5 6 rfl nd (ma_cons (mo_tm (g_call (ok_law_draw W) hr (by decide) rfl (ma_cons (mo_name (pv 0)) (ma_cons (mo_tm (me_int)) (ma_nil))))) (ma_cons (mo_tm (me_lst (ma_nil))) (ma_nil)))) (ms_cons (z_for (ts := [7]) .never rfl (z_rng1 (W.free 31) rfl (ma_cons (mo_tm (me_name (pv 1))) (ma_nil))) (Gd.imp (gd_name) (by intro j h; simpa using h)) (g_nm 7 nd) (ms_cons (z_set 5 nd (x_bin (mo_name (pv 5)) (mo_tm (g_call (ok_law_draw W) hr (by decide) rfl (ma_cons (mo_name (pv 0)) (ma_cons (mo_tm (x_bin (mo_name (pv 2)) (mo_tm (me_int)))) (ma_nil))))))) (ms_cons (z_app 6 (pv 6) (me_tup (ma_cons (mo_name (pv 5)) (ma_cons (mo_tm (g_call (ok_law_draw W) hr (by decide) rfl (ma_cons (mo_name (pv 0)) (ma_cons (mo_tm (x_bin (mo_tm (x_bin (mo_tm (x_bin (mo_name (pv 3)) (mo_name (pv 4)))) (mo_name (pv 2)))) (mo_tm (me_int)))) (ma_nil))))) (ma_nil))))) (ms_nil)))) (ms_cons (ms_ret (me_tup (ma_cons (mo_name (pv 4)) (ma_cons (mo_tm (x_bf .tuple rfl (W.free 25) rfl rfl (ma_cons (mo_name (pv 6)) (ma_nil)))) (ma_nil))))) (ms_nil)))))
theorem ok_law_askings (W : Wd K mg) : KnG P w K mg base 3 "_law_askings" ["_law_pen"] (spOf (K, w) 1 g_law_askings) := kng_mk W 11 11 rfl rfl rfl pl_law_askings sc_law_askings (bd_law_askings W)
theorem sc_law_odd : FnScope ["_law_pen", "_law_some"] ["_law_pen"] (defScope st_law_odd) := ⟨rfl, rfl, rfl, by decide +kernel, rfl, by decide +kernel, by decide +kernel⟩
theorem pl_law_odd : Plain d_law_odd ["_law_pen"] := ⟨rfl, rfl, fun _ _ _ _ _ _ us hl => match us, hl with | [_], _ => rfl⟩
theorem bd_law_odd (W : Wd K mg) (f : Addr) (cdv : Value) (A : Around) (outer : List Env) (s : Shared) (H : Hp) (E : XK) (hr : Rm 2 (cxN P w K mg base ["_law_pen", "_law_some"] d_law_odd f cdv A outer s H E).A) : PSs (cxN P w K mg base ["_law_pen", "_law_some"] d_law_odd f cdv A outer s H E) d_law_odd.body (tS (K, w) W0 (ios [true]) m_law_odd) :=
  have nd : (["_law_pen", "_law_some"] : List Str).Nodup := sc_law_odd.nd
  ms_cons (z_set 1 nd (me_lst (ma_cons (mo_tm (me_non)) (ma_cons (mo_tm (me_bl)) (ma_cons (mo_tm (me_bl)) (ma_cons (mo_tm (x_neg (mo_tm (me_int)))) (ma_cons (mo_tm (me_str)) (ma_cons (mo_tm (me_str)) (ma_cons (mo_tm (me_lst (ma_nil))) (ma_cons (mo_tm (me_tup (ma_nil))) (ma_cons (mo_tm (x_dct)) (ma_cons (mo_tm (me_tup (ma_cons (mo_tm (me_int)) (ma_nil)))) (ma_cons (mo_tm (x_bin (mo_tm (me_int)) (mo_tm (me_int)))) (ma_cons (mo_tm (me_str)) (ma_cons (mo_tm (me_lst (ma_cons (mo_tm (me_int)) (ma_cons (mo_tm (me_int)) (ma_nil))))) (ma_cons (mo_tm (me_tup (ma_cons (mo_tm (me_tup (ma_cons (mo_tm (me_int)) (ma_cons (mo_tm (me_int)) (ma_nil))))) (ma_nil)))) (ma_cons (mo_tm (x_dctI)) (ma_cons (mo_tm (me_tup (ma_cons (mo_tm (me_int)) (ma_cons (mo_tm (me_int)) (ma_cons (mo_tm (me_int)) (ma_nil)))))) (ma_nil))))))))))))))))))) (ms_cons (ms_ret (x_ix (mo_name (pv 1)) (mo_tm (g_call (ok_law_draw W) hr (by decide) rfl (ma_cons (mo_name (pv 0)) (ma_cons (mo_tm (x_bf .len rfl (W.free 24) rfl rfl (ma_cons (mo_name (pv 1)) (ma_nil)))) (ma_nil))))))) (ms_nil))
theorem ok_law_odd (W : Wd K mg) : KnG P w K mg base 3 "_law_odd" ["_law_pen"] (spOf (K, w) 1 g_law_odd) := kng_mk W 12 12 rfl rfl rfl pl_law_odd sc_law_odd (bd_law_odd W)
theorem sc_law_whole : FnScope ["_law_found"] ["_law_found"] (defScope st_law_whole) := ⟨rfl, rfl, rfl, by decide +kernel, rfl, by decide +kernel, by decide +kernel⟩
theorem pl_law_whole : Plain d_law_whole ["_law_found"] := ⟨rfl, rfl, fun _ _ _ _ _ _ us hl => match us, hl with | [_], _ => rfl⟩
theorem bd_law_whole (W : Wd K mg) (f : Addr) (cdv : Value) (A : Around) (outer : List Env) (s : Shared) (H : Hp) (E : XK) (hr : Rm 0 (cxN P w K mg base ["_law_found"] d_law_whole f cdv A outer s H E).A) : PSs (cxN P w K mg base ["_law_found"] d_law_whole f cdv A outer s H E) d_law_whole.body (tS (K, w) W0 (ios [true]) m_law_whole) :=
  have nd : (["_law_found"] : List Str).Nodup := sc_law_whole.nd
  ms_cons (ms_ret (me_and (x_isi .int rfl (W.free 20) (W.free 21) rfl rfl (mo_name (pv 0))) (me_one (me_not (x_isi .bool rfl (W.free 20) (W.free 22) rfl rfl (mo_name (pv 0))))))) (ms_nil)
theorem ok_law_whole (W : Wd K mg) : KnG P w K mg base 1 "_law_whole" ["_law_found"] (spOf (K, w) 1 g_law_whole) := kng_mk W 13 13 rfl rfl rfl pl_law_whole sc_law_whole (bd_law_whole W)
theorem sc_law_good : FnScope ["_law_need", "_law_askings_here", "_law_thing", "_law_free", "_law_seen", "_law_one", "_law_beat", "_law_time"] ["_law_need", "_law_askings_here", "_law_thing"] (defScope st_law_good) := ⟨rfl, rfl, rfl, by decide +kernel, rfl, by decide +kernel, by decide +kernel⟩
theorem pl_law_good : Plain d_law_good ["_law_need", "_law_askings_here", "_law_thing"] := ⟨rfl, rfl, fun _ _ _ _ _ _ us hl => match us, hl with | [_, _, _], _ => rfl⟩
theorem bd_law_good (W : Wd K mg) (f : Addr) (cdv : Value) (A : Around) (outer : List Env) (s : Shared) (H : Hp) (E : XK) (hr : Rm 1 (cxN P w K mg base ["_law_need", "_law_askings_here", "_law_thing", "_law_free", "_law_seen", "_law_one", "_law_beat", "_law_time"] d_law_good f cdv A outer s H E).A) : PSs (cxN P w K mg base ["_law_need", "_law_askings_here", "_law_thing", "_law_free", "_law_seen", "_law_one", "_law_beat", "_law_time"] d_law_good f cdv A outer s H E) d_law_good.body (tS (K, w) W0 (ios [true, true, true]) m_law_good) :=
  have nd : (["_law_need", "_law_askings_here", "_law_thing", "_law_free", "_law_seen", "_law_one", "_law_beat", "_law_time"] : List Str).Nodup := sc_law_good.nd
  ms_cons (ms_if (mt_not (y_val (x_isi .tuple rfl (W.free 20) (W.free 25) rfl rfl (mo_name (pv 2))))) (ms_cons (ms_ret (me_bl)) (ms_nil)) (ms_nil)) (ms_cons (z_par2 3 4 rfl nd (ma_cons (mo_tm (me_int)) (ma_cons (mo_tm (me_lst (ma_nil))) (ma_nil)))) (ms_cons (z_for (ts := [5]) .never rfl (mi_any (mo_tm (me_name (pv 2)))) (Gd.imp (gd_name) (by intro j h; simpa using h)) (g_nm 5 nd) (ms_cons (ms_if (PW.pt (mt_or (mt_not (y_val (x_isi .tuple rfl (W.free 20) (W.free 25) rfl rfl (mo_name (pv 5))))) (mt_or (y_cmp hr.toRoom (mo_tm (x_bf .len rfl (W.free 24) rfl rfl (ma_cons (mo_name (pv 5)) (ma_nil)))) (mo_tm (me_int))) (mt_or (mt_not (y_val (g_call (ok_law_whole W) hr (by decide) rfl (ma_cons (mo_tm (x_ix (mo_name (pv 5)) (mo_tm (me_int)))) (ma_nil))))) (mt_or1 (mt_not (y_val (g_call (ok_law_whole W) hr (by decide) rfl (ma_cons (mo_tm (x_ix (mo_name (pv 5)) (mo_tm (me_int)))) (ma_nil)))))))))) (ms_cons (ms_ret (me_bl)) (ms_nil)) (ms_nil)) (ms_cons (ms_if (PW.pt (mt_or (mt_not (y_chain (mo_tm (me_int)) (ch_cons hr.toRoom (mo_tm (x_ix (mo_name (pv 5)) (mo_tm (me_int)))) (ch_one hr.toRoom (mo_tm (x_bf .len rfl (W.free 24) rfl rfl (ma_cons (mo_name (pv 1)) (ma_nil)))))))) (mt_or (y_cmp hr.toRoom (mo_tm (x_ix (mo_name (pv 5)) (mo_tm (me_int)))) (mo_name (pv 4))) (mt_or1 (y_cmp hr.toRoom (mo_tm (x_ix (mo_name (pv 5)) (mo_tm (me_int)))) (mo_name (pv 3))))))) (ms_cons (ms_ret (me_bl)) (ms_nil)) (ms_nil)) (ms_cons (z_asg (Gd.imp (gd_tup rfl (gds_cons (gd_name) (gds_cons (gd_name) (gds_nil)))) (by intro j h; simpa using h)) (pg_tup rfl (pgs_cons (g_nm 6 nd) (pgs_cons (g_nm 7 nd) (pgs_nil)))) (x_ix (mo_name (pv 1)) (mo_tm (x_ix (mo_name (pv 5)) (mo_tm (me_int)))))) (ms_cons (ms_if (PW.pt (mt_or (y_cmp hr.toRoom (mo_tm (x_ix (mo_name (pv 5)) (mo_tm (me_int)))) (mo_name (pv 6))) (mt_or1 (y_cmp hr.toRoom (mo_tm (x_bin (mo_tm (x_ix (mo_name (pv 5)) (mo_tm (me_int)))) (mo_name (pv 0)))) (mo_tm (x_bin (mo_name (pv 6)) (mo_name (pv 7)))))))) (ms_cons (ms_ret (me_bl)) (ms_nil)) (ms_nil)) (ms_cons (z_par2 3 4 rfl nd (ma_cons (mo_tm (x_bin (mo_tm (x_ix (mo_name (pv 5)) (mo_tm (me_int)))) (mo_name (pv 0)))) (ma_cons (mo_tm (x_bin (mo_name (pv 4)) (mo_tm (me_lst (ma_cons (mo_tm (x_ix (mo_name (pv 5)) (mo_tm (me_int)))) (ma_nil)))))) (ma_nil)))) (ms_nil))))))) (ms_cons (ms_ret (me_bl)) (ms_nil))))
theorem ok_law_good (W : Wd K mg) : KnG P w K mg base 2 "_law_good" ["_law_need", "_law_askings_here", "_law_thing"] (spOf (K, w) 3 g_law_good) := kng_mk W 14 14 rfl rfl rfl pl_law_good sc_law_good (bd_law_good W)
theorem sc_law_drawn : FnScope ["_law_pen", "_law_need", "_law_askings_here", "_law_left", "_law_free", "_law_found", "_law_number", "_law_beat", "_law_time", "_law_begin"] ["_law_pen", "_law_need", "_law_askings_here"] (defScope st_law_drawn) := ⟨rfl, rfl, rfl, by decide +kernel, rfl, by decide +kernel, by decide +kernel⟩
theorem pl_law_drawn : Plain d_law_drawn ["_law_pen", "_law_need", "_law_askings_here"] := ⟨rfl, rfl, fun _ _ _ _ _ _ us hl => match us, hl with | [_, _, _], _ => rfl⟩
theorem bd_law_drawn (W : Wd K mg) (f : Addr) (cdv : Value) (A : Around) (outer : List Env) (s : Shared) (H : Hp) (E : XK) (hr : Rm 2 (cxN P w K mg base ["_law_pen", "_law_need", "_law_askings_here", "_law_left", "_law_free", "_law_found", "_law_number", "_law_beat", "_law_time", "_law_begin"] d_law_drawn f cdv A outer s H E).A) : PSs (cxN P w K mg base ["_law_pen", "_law_need", "_law_askings_here", "_law_left", "_law_free", "_law_found", "_law_number", "_law_beat", "_law_time", "_law_begin"] d_law_drawn f cdv A outer s H E) d_law_drawn.body (tS (K, w) W0 (ios [true, true, true]) m_law_drawn) :=
  have nd : (["_law_pen", "_law_need", "_law_askings_here", "_law_left", "_law_free", "_law_found", "_law_number", "_law_beat", "_law_time", "_law_begin"] : List Str).Nodup := sc_law_drawn.nd
  ms_cons (z_par3 3 4 5 rfl nd (ma_cons (mo_tm (x_lrg rfl (W.free 29) (W.free 31) rfl rfl (x_bf .len rfl (W.free 24) rfl rfl (ma_cons (mo_name (pv 2)) (ma_nil))))) (ma_cons (mo_tm (me_int)) (ma_cons (mo_tm (me_lst (ma_nil))) (ma_nil))))) (ms_cons (ms_while .never (y_cmp hr.toRoom (mo_name (pv 3)) (mo_tm (me_lst (ma_nil)))) (ms_cons (z_set 6 nd (x_popat 3 (pv 3) (g_call (ok_law_draw W) hr (by decide) rfl (ma_cons (mo_name (pv 0)) (ma_cons (mo_tm (x_bf .len rfl (W.free 24) rfl rfl (ma_cons (mo_name (pv 3)) (ma_nil)))) (ma_nil)))))) (ms_cons (z_asg (Gd.imp (gd_tup rfl (gds_cons (gd_name) (gds_cons (gd_name) (gds_nil)))) (by intro j h; simpa using h)) (pg_tup rfl (pgs_cons (g_nm 7 nd) (pgs_cons (g_nm 8 nd) (pgs_nil)))) (x_ix (mo_name (pv 2)) (mo_name (pv 6)))) (ms_cons (z_set 9 nd (x_bin (mo_tm (x_bf .max rfl (W.free 23) rfl rfl (ma_cons (mo_name (pv 4)) (ma_cons (mo_name (pv 7)) (ma_nil))))) (mo_tm (x_ix (mo_tm (me_lst (ma_cons (mo_tm (me_int)) (ma_cons (mo_tm (me_int)) (ma_cons (mo_tm (g_call (ok_law_draw W) hr (by decide) rfl (ma_cons (mo_name (pv 0)) (ma_cons (mo_tm (me_int)) (ma_nil))))) (ma_nil)))))) (mo_tm (g_call (ok_law_draw W) hr (by decide) rfl (ma_cons (mo_name (pv 0)) (ma_cons (mo_tm (me_int)) (ma_nil))))))))) (ms_cons (ms_if (y_cmp hr.toRoom (mo_tm (x_bin (mo_name (pv 9)) (mo_name (pv 1)))) (mo_tm (x_bin (mo_name (pv 7)) (mo_name (pv 8))))) (ms_cons (z_app 5 (pv 5) (me_tup (ma_cons (mo_name (pv 6)) (ma_cons (mo_name (pv 9)) (ma_nil))))) (ms_cons (z_set 4 nd (x_bin (mo_name (pv 9)) (mo_name (pv 1)))) (ms_nil))) (ms_nil)) (ms_nil)))))) (ms_cons (ms_ret (x_bf .tuple rfl (W.free 25) rfl rfl (ma_cons (mo_name (pv 5)) (ma_nil)))) (ms_nil)))
theorem ok_law_drawn (W : Wd K mg) : KnG P w K mg base 3 "_law_drawn" ["_law_pen", "_law_need", "_law_askings_here"] (spOf (K, w) 3 g_law_drawn) := kng_mk W 15 15 rfl rfl rfl pl_law_drawn sc_law_drawn (bd_law_drawn W)
theorem sc_law_bent : FnScope ["_law_pen", "_law_need", "_law_some", "_law_way", "_law_odd_here", "_law_at", "_law_number", "_law_begin", "_law_ones", "_law_bent_here"] ["_law_pen", "_law_need", "_law_some"] (defScope st_law_bent) := ⟨rfl, rfl, rfl, by decide +kernel, rfl, by decide +kernel, by decide +kernel⟩
theorem pl_law_bent : Plain d_law_bent ["_law_pen", "_law_need", "_law_some"] := ⟨rfl, rfl, fun _ _ _ _ _ _ us hl => match us, hl with | [_, _, _], _ => rfl⟩
theorem bd_law_bent (W : Wd K mg) (f : Addr) (cdv : Value) (A : Around) (outer : List Env) (s : Shared) (H : Hp) (E : XK) (hr : Rm 3 (cxN P w K mg base ["_law_pen", "_law_need", "_law_some", "_law_way", "_law_odd_here", "_law_at", "_law_number", "_law_begin", "_law_ones", "_law_bent_here"] d_law_bent f cdv A outer s H E).A) : PSs (cxN P w K mg base ["_law_pen", "_law_need", "_law_some", "_law_way", "_law_odd_here", "_law_at", "_law_number", "_law_begin", "_law_ones", "_law_bent_here"] d_law_bent f cdv A outer s H E) d_law_bent.body (tS (K, w) W0 (ios [true, true, true]) m_law_bent) :=
  have nd : (["_law_pen", "_law_need", "_law_some", "_law_way", "_law_odd_here", "_law_at", "_law_number", "_law_begin", "_law_ones", "_law_bent_here"] : List Str).Nodup := sc_law_bent.nd
  ms_cons (z_par2 3 4 rfl nd (ma_cons (mo_tm (g_call (ok_law_draw W) hr (by decide) rfl (ma_cons (mo_name (pv 0)) (ma_cons (mo_tm (me_int)) (ma_nil))))) (ma_cons (mo_tm (g_call (ok_law_odd W) hr (by decide) rfl (ma_cons (mo_name (pv 0)) (ma_nil)))) (ma_nil)))) (ms_cons (ms_if (y_cmp hr.toRoom (mo_name (pv 2)) (mo_tm (me_tup (ma_nil)))) (ms_cons (ms_ret (x_ix (mo_tm (me_lst (ma_cons (mo_tm (me_tup (ma_cons (mo_tm (me_tup (ma_cons (mo_tm (me_int)) (ma_cons (mo_tm (me_int)) (ma_nil))))) (ma_nil)))) (ma_cons (mo_tm (me_lst (ma_nil))) (ma_cons (mo_tm (me_tup (ma_cons (mo_name (pv 4)) (ma_nil)))) (ma_cons (mo_tm (me_tup (ma_cons (mo_tm (me_tup (ma_cons (mo_tm (x_neg (mo_tm (me_int)))) (ma_cons (mo_tm (me_int)) (ma_nil))))) (ma_nil)))) (ma_cons (mo_tm (me_tup (ma_cons (mo_tm (me_tup (ma_cons (mo_tm (me_int)) (ma_cons (mo_tm (me_bl)) (ma_nil))))) (ma_nil)))) (ma_nil)))))))) (mo_tm (x_bin (mo_name (pv 3)) (mo_tm (me_int)))))) (ms_nil)) (ms_nil)) (ms_cons (z_set 5 nd (g_call (ok_law_draw W) hr (by decide) rfl (ma_cons (mo_name (pv 0)) (ma_cons (mo_tm (x_bf .len rfl (W.free 24) rfl rfl (ma_cons (mo_name (pv 2)) (ma_nil)))) (ma_nil))))) (ms_cons (z_asg (Gd.imp (gd_tup rfl (gds_cons (gd_name) (gds_cons (gd_name) (gds_nil)))) (by intro j h; simpa using h)) (pg_tup rfl (pgs_cons (g_nm 6 nd) (pgs_cons (g_nm 7 nd) (pgs_nil)))) (x_ix (mo_name (pv 2)) (mo_name (pv 5)))) (ms_cons (z_set 8 nd (me_lst (ma_cons (mo_tm (me_tup (ma_cons (mo_name (pv 6)) (ma_cons (mo_tm (x_bin (mo_name (pv 7)) (mo_tm (me_int)))) (ma_nil))))) (ma_cons (mo_tm (me_tup (ma_cons (mo_name (pv 6)) (ma_cons (mo_tm (x_bin (mo_name (pv 7)) (mo_tm (me_int)))) (ma_nil))))) (ma_cons (mo_tm (me_tup (ma_cons (mo_name (pv 6)) (ma_cons (mo_tm (x_neg (mo_tm (me_int)))) (ma_nil))))) (ma_cons (mo_tm (me_tup (ma_cons (mo_tm (x_ix (mo_tm (x_ix (mo_name (pv 2)) (mo_tm (me_int)))) (mo_tm (me_int)))) (ma_cons (mo_name (pv 7)) (ma_nil))))) (ma_cons (mo_tm (me_tup (ma_cons (mo_tm (x_ix (mo_tm (x_ix (mo_name (pv 2)) (mo_tm (x_neg (mo_tm (me_int)))))) (mo_tm (me_int)))) (ma_cons (mo_name (pv 7)) (ma_nil))))) (ma_nil)))))))) (ms_cons (z_set 8 nd (x_bin (mo_name (pv 8)) (mo_tm (me_lst (ma_cons (mo_tm (me_tup (ma_cons (mo_tm (me_int)) (ma_cons (mo_name (pv 7)) (ma_nil))))) (ma_cons (mo_tm (me_tup (ma_cons (mo_tm (x_neg (mo_tm (me_int)))) (ma_cons (mo_name (pv 7)) (ma_nil))))) (ma_cons (mo_tm (me_tup (ma_cons (mo_tm (me_bl)) (ma_cons (mo_name (pv 7)) (ma_nil))))) (ma_cons (mo_tm (me_tup (ma_cons (mo_name (pv 6)) (ma_cons (mo_tm (me_non)) (ma_nil))))) (ma_cons (mo_tm (me_tup (ma_cons (mo_name (pv 6)) (ma_cons (mo_tm (me_bl)) (ma_nil))))) (ma_cons (mo_tm (me_lst (ma_cons (mo_name (pv 6)) (ma_cons (mo_name (pv 7)) (ma_nil))))) (ma_nil))))))))))) (ms_cons (z_set 8 nd (x_bin (mo_name (pv 8)) (mo_tm (me_lst (ma_cons (mo_tm (me_tup (ma_cons (mo_name (pv 6)) (ma_cons (mo_name (pv 7)) (ma_cons (mo_tm (me_int)) (ma_nil)))))) (ma_cons (mo_name (pv 4)) (ma_nil))))))) (ms_cons (ms_if (y_cmp hr.toRoom (mo_name (pv 3)) (mo_tm (x_bf .len rfl (W.free 24) rfl rfl (ma_cons (mo_name (pv 8)) (ma_nil))))) (ms_cons (ms_ret (x_bin (mo_tm (x_bin (mo_tm (me_slice (mo_name (pv 2)) (mp_none) (mp_some (mo_name (pv 5))))) (mo_tm (me_tup (ma_cons (mo_tm (x_ix (mo_name (pv 8)) (mo_name (pv 3)))) (ma_nil)))))) (mo_tm (me_slice (mo_name (pv 2)) (mp_some (mo_tm (x_bin (mo_name (pv 5)) (mo_tm (me_int))))) (mp_none))))) (ms_nil)) (ms_nil)) (ms_cons (z_set 9 nd (me_lst (ma_cons (mo_tm (x_bin (mo_tm (me_slice (mo_name (pv 2)) (mp_none) (mp_some (mo_name (pv 5))))) (mo_tm (me_slice (mo_name (pv 2)) (mp_some (mo_tm (x_bin (mo_name (pv 5)) (mo_tm (me_int))))) (mp_none))))) (ma_cons (mo_tm (x_rev (mo_name (pv 2)))) (ma_cons (mo_tm (x_bf .list rfl (W.free 29) rfl rfl (ma_cons (mo_name (pv 2)) (ma_nil)))) (ma_cons (mo_tm (x_bin (mo_name (pv 2)) (mo_tm (me_tup (ma_cons (mo_tm (me_tup (ma_cons (mo_name (pv 6)) (ma_cons (mo_tm (x_bin (mo_tm (x_ix (mo_tm (x_ix (mo_name (pv 2)) (mo_tm (x_neg (mo_tm (me_int)))))) (mo_tm (me_int)))) (mo_name (pv 1)))) (ma_nil))))) (ma_nil)))))) (ma_nil))))))) (ms_cons (ms_ret (x_ix (mo_name (pv 9)) (mo_tm (x_bin (mo_name (pv 3)) (mo_tm (x_bf .len rfl (W.free 24) rfl rfl (ma_cons (mo_name (pv 8)) (ma_nil)))))))) (ms_nil))))))))))
theorem ok_law_bent (W : Wd K mg) : KnG P w K mg base 4 "_law_bent" ["_law_pen", "_law_need", "_law_some"] (spOf (K, w) 3 g_law_bent) := kng_mk W 16 16 rfl rfl rfl pl_law_bent sc_law_bent (bd_law_bent W)
theorem sc_law_most : FnScope ["_law_need", "_law_askings_here", "_law_most_here", "_law_waiting", "_law_free", "_law_done", "_law_number", "_law_asking", "_law_begin"] ["_law_need", "_law_askings_here"] (defScope st_law_most) := ⟨rfl, rfl, rfl, by decide +kernel, rfl, by decide +kernel, by decide +kernel⟩
theorem pl_law_most : Plain d_law_most ["_law_need", "_law_askings_here"] := ⟨rfl, rfl, fun _ _ _ _ _ _ us hl => match us, hl with | [_, _], _ => rfl⟩
theorem bd_law_most (W : Wd K mg) (f : Addr) (cdv : Value) (A : Around) (outer : List Env) (s : Shared) (H : Hp) (E : XK) (hr : Rm 0 (cxN P w K mg base ["_law_need", "_law_askings_here", "_law_most_here", "_law_waiting", "_law_free", "_law_done", "_law_number", "_law_asking", "_law_begin"] d_law_most f cdv A outer s H E).A) : PSs (cxN P w K mg base ["_law_need", "_law_askings_here", "_law_most_here", "_law_waiting", "_law_free", "_law_done", "_law_number", "_law_asking", "_law_begin"] d_law_most f cdv A outer s H E) d_law_most.body (tS (K, w) W0 (ios [true, true]) m_law_most) :=
  have nd : (["_law_need", "_law_askings_here", "_law_most_here", "_law_waiting", "_law_free", "_law_done", "_law_number", "_law_asking", "_law_begin"] : List Str).Nodup := sc_law_most.nd
  ms_cons (z_set 2 nd (me_int)) (ms_cons (z_set 3 nd (me_lst (ma_cons (mo_tm (me_tup (ma_cons (mo_tm (me_int)) (ma_cons (mo_tm (me_tup (ma_nil))) (ma_nil))))) (ma_nil)))) (ms_cons (ms_while .never (y_cmp hr.toRoom (mo_name (pv 3)) (mo_tm (me_lst (ma_nil)))) (ms_cons (z_asg (Gd.imp (gd_tup rfl (gds_cons (gd_name) (gds_cons (gd_name) (gds_nil)))) (by intro j h; simpa using h)) (pg_tup rfl (pgs_cons (g_nm 4 nd) (pgs_cons (g_nm 5 nd) (pgs_nil)))) (x_pop 3 (pv 3))) (ms_cons (z_set 2 nd (x_bf .max rfl (W.free 23) rfl rfl (ma_cons (mo_name (pv 2)) (ma_cons (mo_tm (x_bf .len rfl (W.free 24) rfl rfl (ma_cons (mo_name (pv 5)) (ma_nil)))) (ma_nil))))) (ms_cons (z_for (ts := [6, 7]) .never rfl ((by refine mi_enumX (W.free 33) ?_ ?_; exact rfl; exact (mo_tm (me_name (pv 1))))) (Gd.imp (gd_tup rfl (gds_cons (gd_name) (gds_cons (gd_name) (gds_nil)))) (by intro j h; simpa using h)) (pg_tup rfl (pgs_cons (g_nm 6 nd) (pgs_cons (g_nm 7 nd) (pgs_nil)))) (ms_cons (z_set 8 nd (x_bf .max rfl (W.free 23) rfl rfl (ma_cons (mo_name (pv 4)) (ma_cons (mo_tm (x_ix (mo_name (pv 7)) (mo_tm (me_int)))) (ma_nil))))) (ms_cons (ms_if (PW.pt (mt_and (y_cmp hr.toRoom (mo_name (pv 6)) (mo_name (pv 5))) (mt_and1 (y_cmp hr.toRoom (mo_tm (x_bin (mo_name (pv 8)) (mo_name (pv 0)))) (mo_tm (x_bin (mo_tm (x_ix (mo_name (pv 7)) (mo_tm (me_int)))) (mo_tm (x_ix (mo_name (pv 7)) (mo_tm (me_int)))))))))) (ms_cons (z_app 3 (pv 3) (me_tup (ma_cons (mo_tm (x_bin (mo_name (pv 8)) (mo_name (pv 0)))) (ma_cons (mo_tm (x_bin (mo_name (pv 5)) (mo_tm (me_tup (ma_cons (mo_name (pv 6)) (ma_nil)))))) (ma_nil))))) (ms_nil)) (ms_nil)) (ms_nil)))) (ms_nil))))) (ms_cons (ms_retV (pv 2)) (ms_nil))))
theorem ok_law_most (W : Wd K mg) : KnG P w K mg base 1 "_law_most" ["_law_need", "_law_askings_here"] (spOf (K, w) 2 g_law_most) := kng_mk W 17 17 rfl rfl rfl pl_law_most sc_law_most (bd_law_most W)
theorem sc_law_most_right : FnScope ["_law_need", "_law_askings_here", "_law_few", "_law_turn", "_law_some", "_law_found", "_law_done"] ["_law_need", "_law_askings_here"] (defScope st_law_most_right) := ⟨rfl, rfl, rfl, by decide +kernel, rfl, by decide +kernel, by decide +kernel⟩
theorem pl_law_most_right : Plain d_law_most_right ["_law_need", "_law_askings_here"] := ⟨rfl, rfl, fun _ _ _ _ _ _ us hl => match us, hl with | [_, _], _ => rfl⟩
theorem bd_law_most_right (W : Wd K mg) (f : Addr) (cdv : Value) (A : Around) (outer : List Env) (s : Shared) (H : Hp) (E : XK) (hr : Rm 4 (cxN P w K mg base ["_law_need", "_law_askings_here", "_law_few", "_law_turn", "_law_some", "_law_found", "_law_done"] d_law_most_right f cdv A outer s H E).A) : PSs (cxN P w K mg base ["_law_need", "_law_askings_here", "_law_few", "_law_turn", "_law_some", "_law_found", "_law_done"] d_law_most_right f cdv A outer s H E) d_law_most_right.body (tS (K, w) W0 (ios [true, true]) m_law_most_right) :=
  have nd : (["_law_need", "_law_askings_here", "_law_few", "_law_turn", "_law_some", "_law_found", "_law_done"] : List Str).Nodup := sc_law_most_right.nd
  ms_cons (z_set 2 nd (me_slice (mo_name (pv 1)) (mp_none) (mp_some (mo_tm (me_int))))) (ms_cons (z_for (ts := [3]) .never rfl (z_rng1 (W.free 31) rfl (ma_cons (mo_tm (me_int)) (ma_nil))) (Gd.imp (gd_name) (by intro j h; simpa using h)) (g_nm 3 nd) (ms_cons (ms_if (y_cmp hr.toRoom (mo_tm (x_repr (W.free 34) hr rfl (ma_cons (mo_tm (g_call (ok_most_served W) hr (by decide) rfl (ma_cons (mo_name (pv 0)) (ma_cons (mo_name (pv 2)) (ma_nil))))) (ma_nil)))) (mo_tm (x_repr (W.free 34) hr rfl (ma_cons (mo_tm (g_call (ok_law_most W) hr (by decide) rfl (ma_cons (mo_name (pv 0)) (ma_cons (mo_name (pv 2)) (ma_nil))))) (ma_nil))))) (ms_cons (ms_ret (me_bl)) (ms_nil)) (ms_nil)) (ms_cons (z_for (ts := [4]) .never rfl (mi_any (mo_tm (me_tup (ma_cons (mo_name (pv 2)) (ma_cons (mo_name (pv 1)) (ma_nil)))))) (Gd.imp (gd_name) (by intro j h; simpa using h)) (g_nm 4 nd) (ms_cons (z_set 5 nd (g_call (ok_schedule_for W) hr (by decide) rfl (ma_cons (mo_name (pv 0)) (ma_cons (mo_name (pv 4)) (ma_nil))))) (ms_cons (ms_if (PW.pt (mt_or (mt_not (y_val (g_call (ok_law_good W) hr (by decide) rfl (ma_cons (mo_name (pv 0)) (ma_cons (mo_name (pv 4)) (ma_cons (mo_name (pv 5)) (ma_nil))))))) (mt_or1 (y_cmp hr.toRoom (mo_tm (x_bf .len rfl (W.free 24) rfl rfl (ma_cons (mo_name (pv 5)) (ma_nil)))) (mo_tm (g_call (ok_most_served W) hr (by decide) rfl (ma_cons (mo_name (pv 0)) (ma_cons (mo_name (pv 4)) (ma_nil))))))))) (ms_cons (ms_ret (me_bl)) (ms_nil)) (ms_nil)) (ms_cons (ms_if (y_cmp hr.toRoom (mo_tm (x_bf .len rfl (W.free 24) rfl rfl (ma_cons (mo_name (pv 5)) (ma_nil)))) (mo_tm (x_bf .len rfl (W.free 24) rfl rfl (ma_cons (mo_tm (x_lc [("_law_done", 6)] rfl nd (blkOk_by (by first | rfl | kernel_rfl)) (mi_any (mo_tm (g_call (ok_done_by_time W) hr (by decide) rfl (ma_cons (mo_name (pv 0)) (ma_cons (mo_name (pv 4)) (ma_nil)))))) (Gd.imp (gd_name) (by intro j h; simpa using h)) (fun _ _ _ _ _ => g_nm 6 nd) (fun _ _ _ _ _ => pts_it (y_cmp hr.toRoom (mo_name (pv 6)) (mo_tm (me_non)))) (fun _ _ _ _ _ => me_int))) (ma_nil))))) (ms_cons (ms_ret (me_bl)) (ms_nil)) (ms_nil)) (ms_nil))))) (ms_nil)))) (ms_cons (ms_ret (me_bl)) (ms_nil)))
theorem ok_law_most_right (W : Wd K mg) : KnG P w K mg base 5 "_law_most_right" ["_law_need", "_law_askings_here"] (spOf (K, w) 2 g_law_most_right) := kng_mk W 18 18 rfl rfl rfl pl_law_most_right sc_law_most_right (bd_law_most_right W)
theorem sc_law : FnScope ["_law_script", "_law_cell", "_law_pen", "_law_need", "_law_askings_here", "_law_turn", "_law_some", "_law_bent_here", "_law_again", "_law_thing", "_law_due"] ["_law_script"] (defScope st_law) := ⟨rfl, rfl, rfl, by decide +kernel, rfl, by decide +kernel, by decide +kernel⟩
theorem pl_law : Plain d_law ["_law_script"] := ⟨rfl, rfl, fun _ _ _ _ _ _ us hl => match us, hl with | [_], _ => rfl⟩
theorem bd_law (W : Wd K mg) (f : Addr) (cdv : Value) (A : Around) (outer : List Env) (s : Shared) (H : Hp) (E : XK) (hr : Rm 5 (cxN P w K mg base ["_law_script", "_law_cell", "_law_pen", "_law_need", "_law_askings_here", "_law_turn", "_law_some", "_law_bent_here", "_law_again", "_law_thing", "_law_due"] d_law f cdv A outer s H E).A) : PSs (cxN P w K mg base ["_law_script", "_law_cell", "_law_pen", "_law_need", "_law_askings_here", "_law_turn", "_law_some", "_law_bent_here", "_law_again", "_law_thing", "_law_due"] d_law f cdv A outer s H E) d_law.body (tS (K, w) W0 (ios [false]) m_law) :=
  have nd : (["_law_script", "_law_cell", "_law_pen", "_law_need", "_law_askings_here", "_law_turn", "_law_some", "_law_bent_here", "_law_again", "_law_thing", "_law_due"] : List Str).Nodup := sc_law.nd
  ms_cons (z_for (ts := [1]) .never rfl (mi_any (mo_tm (x_bin (mo_tm (me_lst (ma_cons (mo_tm (g_call (ok_law_cell_at W) hr (by decide) rfl (ma_cons (mo_name (pv 0)) (ma_cons (mo_tm (me_int)) (ma_nil))))) (ma_nil)))) (mo_tm (me_slice (mo_name (pv 0)) (mp_some (mo_tm (me_int))) (mp_some (mo_tm (me_int)))))))) (Gd.imp (gd_name) (by intro j h; simpa using h)) (g_nm 1 nd) (ms_cons (z_set 2 nd (g_call (ok_law_pen_of W) hr (by decide) rfl (ma_cons (mo_name (pv 1)) (ma_nil)))) (ms_cons (z_asg (Gd.imp (gd_tup rfl (gds_cons (gd_name) (gds_cons (gd_name) (gds_nil)))) (by intro j h; simpa using h)) (pg_tup rfl (pgs_cons (g_nm 3 nd) (pgs_cons (g_nm 4 nd) (pgs_nil)))) (g_call (ok_law_askings W) hr (by decide) rfl (ma_cons (mo_name (pv 2)) (ma_nil)))) (ms_cons (ms_if (mt_not (y_val (g_call (ok_law_most_right W) hr (by decide) rfl (ma_cons (mo_name (pv 3)) (ma_cons (mo_name (pv 4)) (ma_nil)))))) (ms_cons (ms_ret (me_bl)) (ms_nil)) (ms_nil)) (ms_cons (z_for (ts := [5]) .never rfl (z_rng1 (W.free 31) rfl (ma_cons (mo_tm (me_int)) (ma_nil))) (Gd.imp (gd_name) (by intro j h; simpa using h)) (g_nm 5 nd) (ms_cons (z_set 6 nd (g_call (ok_law_drawn W) hr (by decide) rfl (ma_cons (mo_name (pv 2)) (ma_cons (mo_name (pv 3)) (ma_cons (mo_name (pv 4)) (ma_nil)))))) (ms_cons (z_lc 7 [("_law_again", 8)] rfl nd (blkOk_by (by first | rfl | kernel_rfl)) (z_rng1 (W.free 31) rfl (ma_cons (mo_tm (me_int)) (ma_nil))) (Gd.imp (gd_name) (by intro j h; simpa using h)) (fun _ _ _ _ _ => g_nm 8 nd) (fun _ _ _ _ _ => pts_no) (fun _ _ _ _ _ => g_call (ok_law_bent W) hr (by decide) rfl (ma_cons (mo_name (pv 2)) (ma_cons (mo_name (pv 3)) (ma_cons (mo_name (pv 6)) (ma_nil)))))) (ms_cons (z_for (ts := [9]) .never rfl (mi_any (mo_tm (x_bin (mo_tm (me_lst (ma_cons (mo_name (pv 6)) (ma_cons (mo_tm (g_call (ok_law_odd W) hr (by decide) rfl (ma_cons (mo_name (pv 2)) (ma_nil)))) (ma_nil))))) (mo_name (pv 7))))) (Gd.imp (gd_name) (by intro j h; simpa using h)) (g_nm 9 nd) (ms_cons (z_set 10 nd (g_call (ok_law_good W) hr (by decide) rfl (ma_cons (mo_name (pv 3)) (ma_cons (mo_name (pv 4)) (ma_cons (mo_name (pv 9)) (ma_nil)))))) (ms_cons (ms_if (y_cmp hr.toRoom (mo_tm (x_repr (W.free 34) hr rfl (ma_cons (mo_tm (x_bin (mo_tm (me_lst (ma_cons (mo_tm (g_call (ok_schedule_good W) hr (by decide) rfl (ma_cons (mo_name (pv 3)) (ma_cons (mo_name (pv 4)) (ma_cons (mo_name (pv 9)) (ma_nil)))))) (ma_nil)))) (mo_tm (me_int)))) (ma_nil)))) (mo_tm (x_repr (W.free 34) hr rfl (ma_cons (mo_tm (me_lst (ma_cons (mo_name (pv 10)) (ma_cons (mo_name (pv 10)) (ma_nil))))) (ma_nil))))) (ms_cons (ms_ret (me_bl)) (ms_nil)) (ms_nil)) (ms_nil)))) (ms_cons (ms_if (y_cmp hr.toRoom (mo_tm (x_bf .len rfl (W.free 24) rfl rfl (ma_cons (mo_name (pv 6)) (ma_nil)))) (mo_tm (g_call (ok_most_served W) hr (by decide) rfl (ma_cons (mo_name (pv 3)) (ma_cons (mo_name (pv 4)) (ma_nil)))))) (ms_cons (ms_ret (me_bl)) (ms_nil)) (ms_nil)) (ms_nil)))))) (ms_nil)))))) (ms_cons (ms_ret (me_bl)) (ms_nil))
end
end KW
namespace KW
open PySem PySem.Spec PyProof.Rows L2 L2.M
local macro_rules | `(tactic| walk_at "ev") => `(tactic| simp [semF, shared, after, mSeq, mSkip, mIf, mRet, mRetN, mRetV, mSet, mSetIx, mExpr, mB, mU, mTm, mPl, mK, mVar, mOp, mCons, mNil, bor, bors, mTst, mAndT, mOrT, mNotT, mAndE, mOrE, mNotE, mIfE, mIsi, isiD, mChn, chnL, cmpD, binD, addD, subD, mulD, modD, fdivD, powD, eqD, neD, ltD, leD, gtD, geD, isD, isnD, L2.M.isNon, negD, ixD, Bf.f, Bg.f, lenD, L2.M.intD, maxD, minD, repD, strD, gmaxD, gminD, sumD, sortD, anyD, allD, mCall, frz, fzO, lend, wb, mTup, mLst, fzs, cD, mAsg, bTup, bTps, mApp, tupD, lstD, mRev, revD, ofs_inj, ee_ii, ee_ss, ee_bb, ee_nn, ee_is, ee_si, ee_in, ee_ni, ee_tt, ee_ll, ee_maps, ee_0, ee_1, ee_2, ee_3, at_lit, at_nat, at_m1, at_m2, scD, emD, sizeLine_eq, ixN, sm_lit, mSrc, itemsD, plOf, rng1D, bNm, mSl, mPt, mNoP, slD, mPar, keepT, tmsO, setA, mFlow, zipX, enumX, itemsX, intsOf, ints_all, boolsOf, shaped_lay, lay_int, lay_bool, lay_none, lay_dict, lay_tup, lay_list, lay_ints, sortX_ints, mPlF, mPlI, mRd, mPU, mPB, mFSet, mFNew, mNSet, mPApp, mPSetIx, mPPop, mMeth, mNew, isIns, cellO, mLstN, mAddN, mAppN, semX, mTold, mCallX, xRet, xExpr, xSet, mRaise, mM, isL, isS, mOrV, truD])
local macro_rules | `(tactic| walk_at "es") => `(tactic| simp [semF, shared, after, mSeq, mSkip, mIf, mRet, mRetN, mRetV, mSet, mSetIx, mExpr, mB, mU, mTm, mPl, mK, mVar, mOp, mCons, mNil, bor, bors, mTst, mAndT, mOrT, mNotT, mAndE, mOrE, mNotE, mIfE, mIsi, isiD, mChn, chnL, cmpD, binD, addD, subD, mulD, modD, fdivD, powD, eqD, neD, ltD, leD, gtD, geD, isD, isnD, L2.M.isNon, negD, ixD, Bf.f, Bg.f, lenD, L2.M.intD, maxD, minD, repD, strD, gmaxD, gminD, sumD, sortD, anyD, allD, mCall, frz, fzO, lend, wb, mTup, mLst, fzs, cD, mAsg, bTup, bTps, mApp, tupD, lstD, mRev, revD, ofs_inj, ee_ii, ee_ss, ee_bb, ee_nn, ee_is, ee_si, ee_in, ee_ni, ee_tt, ee_ll, ee_maps, ee_0, ee_1, ee_2, ee_3, at_lit, at_nat, at_m1, at_m2, scD, emD, sizeLine_eq, ixN, sm_lit, mSrc, itemsD, plOf, rng1D, bNm, mSl, mPt, mNoP, slD, mPar, keepT, tmsO, setA, mFlow, zipX, enumX, itemsX, intsOf, ints_all, boolsOf, shaped_lay, lay_int, lay_bool, lay_none, lay_dict, lay_tup, lay_list, lay_ints, sortX_ints, mPlF, mPlI, mRd, mPU, mPB, mFSet, mFNew, mNSet, mPApp, mPSetIx, mPPop, mMeth, mNew, isIns, cellO, mLstN, mAddN, mAppN, semX, mTold, mCallX, xRet, xExpr, xSet, mRaise, mM, isL, isS, mOrV, truD, *])
local macro_rules | `(tactic| walk_at "el") => `(tactic| simp [semF, shared, after, mSeq, mSkip, mIf, mRet, mRetN, mRetV, mSet, mSetIx, mExpr, mB, mU, mTm, mPl, mK, mVar, mOp, mCons, mNil, bor, bors, mTst, mAndT, mOrT, mNotT, mAndE, mOrE, mNotE, mIfE, mIsi, isiD, mChn, chnL, cmpD, binD, addD, subD, mulD, modD, fdivD, powD, eqD, neD, ltD, leD, gtD, geD, isD, isnD, L2.M.isNon, negD, ixD, Bf.f, Bg.f, lenD, L2.M.intD, maxD, minD, repD, strD, gmaxD, gminD, sumD, sortD, anyD, allD, mCall, frz, fzO, lend, wb, mTup, mLst, fzs, cD, mAsg, bTup, bTps, mApp, tupD, lstD, mRev, revD, ofs_inj, ee_ii, ee_ss, ee_bb, ee_nn, ee_is, ee_si, ee_in, ee_ni, ee_tt, ee_ll, ee_maps, ee_0, ee_1, ee_2, ee_3, at_lit, at_nat, at_m1, at_m2, scD, emD, sizeLine_eq, ixN, sm_lit, mSrc, itemsD, plOf, rng1D, bNm, mSl, mPt, mNoP, slD, mPar, keepT, tmsO, setA, mFlow, zipX, enumX, itemsX, intsOf, ints_all, boolsOf, shaped_lay, lay_int, lay_bool, lay_none, lay_dict, lay_tup, lay_list, lay_ints, sortX_ints, mPlF, mPlI, mRd, mPU, mPB, mFSet, mFNew, mNSet, mPApp, mPSetIx, mPPop, mMeth, mNew, isIns, cellO, mLstN, mAddN, mAppN, semX, mTold, mCallX, xRet, xExpr, xSet, mRaise, mM, isL, isS, mOrV, truD, mLc, lcL, sameC, wipeC, restC, mYes, *])
local macro_rules | `(tactic| walk_at "ef") => `(tactic| simp [semF, shared, after, mSeq, mSkip, mIf, mRet, mRetN, mRetV, mSet, mSetIx, mExpr, mB, mU, mTm, mPl, mK, mVar, mOp, mCons, mNil, bor, bors, mTst, mAndT, mOrT, mNotT, mAndE, mOrE, mNotE, mIfE, mIsi, isiD, mChn, chnL, cmpD, binD, addD, subD, mulD, modD, fdivD, powD, eqD, neD, ltD, leD, gtD, geD, isD, isnD, L2.M.isNon, negD, ixD, Bf.f, Bg.f, lenD, L2.M.intD, maxD, minD, repD, strD, gmaxD, gminD, sumD, sortD, anyD, allD, mCall, frz, fzO, lend, wb, mTup, mLst, fzs, cD, mAsg, bTup, bTps, mApp, tupD, lstD, mRev, revD, ofs_inj, ee_ii, ee_ss, ee_bb, ee_nn, ee_is, ee_si, ee_in, ee_ni, ee_tt, ee_ll, ee_maps, ee_0, ee_1, ee_2, ee_3, at_lit, at_nat, at_m1, at_m2, scD, emD, sizeLine_eq, ixN, sm_lit, mSrc, itemsD, plOf, rng1D, bNm, mSl, mPt, mNoP, slD, mPar, keepT, tmsO, setA, mFlow, zipX, enumX, itemsX, intsOf, ints_all, boolsOf, shaped_lay, lay_int, lay_bool, lay_none, lay_dict, lay_tup, lay_list, lay_ints, sortX_ints, mPlF, mPlI, mRd, mPU, mPB, mFSet, mFNew, mNSet, mPApp, mPSetIx, mPPop, mMeth, mNew, isIns, cellO, mLstN, mAddN, mAppN, semX, mTold, mCallX, xRet, xExpr, xSet, mRaise, mM, isL, isS, mOrV, truD, mFor, forL, mLc, lcL, sameC, wipeC, restC, mYes, *])
local macro_rules | `(tactic| walk_at "rg") => `(tactic| (and_intros <;> grind))
local macro_rules | `(tactic| walk_at "nx") => `(tactic| (apply wx_nx; focus (walk_at "ev"; try first | exact ⟨rfl, rfl⟩ | rfl)))
local macro_rules | `(tactic| walk_at "ns") => `(tactic| (apply wx_nx; focus (walk_at "es"; try first | exact ⟨rfl, rfl⟩ | rfl)))
local macro_rules | `(tactic| walk_at "rt") => `(tactic| (apply wx_rt; focus (walk_at "ev"; try first | exact ⟨rfl, rfl⟩ | rfl)))
local macro_rules | `(tactic| walk_at "rs") => `(tactic| (apply wx_rt; focus (walk_at "es"; try first | exact ⟨rfl, rfl⟩ | rfl)))
local macro_rules | `(tactic| walk_at "ed") => `(tactic| simp [semF, shared, after, mSeq, mSkip, mIf, mRet, mRetN, mRetV, mSet, mSetIx, mExpr, mB, mU, mTm, mPl, mK, mVar, mOp, mCons, mNil, bor, bors, mTst, mAndT, mOrT, mNotT, mAndE, mOrE, mNotE, mIfE, mIsi, isiD, mChn, chnL, cmpD, binD, addD, subD, mulD, modD, fdivD, powD, eqD, neD, ltD, leD, gtD, geD, isD, isnD, L2.M.isNon, negD, ixD, Bf.f, Bg.f, lenD, L2.M.intD, maxD, minD, repD, strD, gmaxD, gminD, sumD, sortD, anyD, allD, mCall, frz, fzO, lend, wb, mTup, mLst, fzs, cD, mAsg, bTup, bTps, mApp, tupD, lstD, mRev, revD, ofs_inj, ee_ii, ee_ss, ee_bb, ee_nn, ee_is, ee_si, ee_in, ee_ni, ee_tt, ee_ll, ee_maps, ee_0, ee_1, ee_2, ee_3, at_lit, at_nat, at_m1, at_m2, scD, emD, sizeLine_eq, ixN, sm_lit, mSrc, itemsD, plOf, rng1D, bNm, mSl, mPt, mNoP, slD, mPar, keepT, tmsO, setA, mFlow, zipX, enumX, itemsX, intsOf, ints_all, boolsOf, shaped_lay, lay_int, lay_bool, lay_none, lay_dict, lay_tup, lay_list, lay_ints, sortX_ints, mPlF, mPlI, mRd, mPU, mPB, mFSet, mFNew, mNSet, mPApp, mPSetIx, mPPop, mMeth, mNew, isIns, cellO, mLstN, mAddN, mAppN, semX, mTold, mCallX, xRet, xExpr, xSet, mRaise, mM, isL, isS, mOrV, truD, mDNew, mDIn, mDGet, mDLen, mDPut, kyD, mNNew, mN1, mTake, mFnV, mCallF, mNIn, mNGet, mNPut, mNVals, mNList, nKs, mDGetD, mDList, mNNe, *])
theorem is_whole_eq (d : PyData) : g_is_whole [.sh d] = some (.sh (.bool (whole d)), [.sh d]) := by
  unfold g_is_whole m_is_whole
  cases d <;> (walk_at "ev"; try rfl)
end KW
namespace KW
open PySem PySem.Spec PyProof.Rows L2 L2.M
local macro_rules | `(tactic| walk_at "ev") => `(tactic| simp [semF, shared, after, mSeq, mSkip, mIf, mRet, mRetN, mRetV, mSet, mSetIx, mExpr, mB, mU, mTm, mPl, mK, mVar, mOp, mCons, mNil, bor, bors, mTst, mAndT, mOrT, mNotT, mAndE, mOrE, mNotE, mIfE, mIsi, isiD, mChn, chnL, cmpD, binD, addD, subD, mulD, modD, fdivD, powD, eqD, neD, ltD, leD, gtD, geD, isD, isnD, L2.M.isNon, negD, ixD, Bf.f, Bg.f, lenD, L2.M.intD, maxD, minD, repD, strD, gmaxD, gminD, sumD, sortD, anyD, allD, mCall, frz, fzO, lend, wb, mTup, mLst, fzs, cD, mAsg, bTup, bTps, mApp, tupD, lstD, mRev, revD, ofs_inj, ee_ii, ee_ss, ee_bb, ee_nn, ee_is, ee_si, ee_in, ee_ni, ee_tt, ee_ll, ee_maps, ee_0, ee_1, ee_2, ee_3, at_lit, at_nat, at_m1, at_m2, scD, emD, sizeLine_eq, ixN, sm_lit, mSrc, itemsD, plOf, rng1D, bNm, mSl, mPt, mNoP, slD, mPar, keepT, tmsO, setA, mFlow, zipX, enumX, itemsX, intsOf, ints_all, boolsOf, shaped_lay, lay_int, lay_bool, lay_none, lay_dict, lay_tup, lay_list, lay_ints, sortX_ints, mPlF, mPlI, mRd, mPU, mPB, mFSet, mFNew, mNSet, mPApp, mPSetIx, mPPop, mMeth, mNew, isIns, cellO, mLstN, mAddN, mAppN, semX, mTold, mCallX, xRet, xExpr, xSet, mRaise, mM, isL, isS, mOrV, truD])
local macro_rules | `(tactic| walk_at "es") => `(tactic| simp [semF, shared, after, mSeq, mSkip, mIf, mRet, mRetN, mRetV, mSet, mSetIx, mExpr, mB, mU, mTm, mPl, mK, mVar, mOp, mCons, mNil, bor, bors, mTst, mAndT, mOrT, mNotT, mAndE, mOrE, mNotE, mIfE, mIsi, isiD, mChn, chnL, cmpD, binD, addD, subD, mulD, modD, fdivD, powD, eqD, neD, ltD, leD, gtD, geD, isD, isnD, L2.M.isNon, negD, ixD, Bf.f, Bg.f, lenD, L2.M.intD, maxD, minD, repD, strD, gmaxD, gminD, sumD, sortD, anyD, allD, mCall, frz, fzO, lend, wb, mTup, mLst, fzs, cD, mAsg, bTup, bTps, mApp, tupD, lstD, mRev, revD, ofs_inj, ee_ii, ee_ss, ee_bb, ee_nn, ee_is, ee_si, ee_in, ee_ni, ee_tt, ee_ll, ee_maps, ee_0, ee_1, ee_2, ee_3, at_lit, at_nat, at_m1, at_m2, scD, emD, sizeLine_eq, ixN, sm_lit, mSrc, itemsD, plOf, rng1D, bNm, mSl, mPt, mNoP, slD, mPar, keepT, tmsO, setA, mFlow, zipX, enumX, itemsX, intsOf, ints_all, boolsOf, shaped_lay, lay_int, lay_bool, lay_none, lay_dict, lay_tup, lay_list, lay_ints, sortX_ints, mPlF, mPlI, mRd, mPU, mPB, mFSet, mFNew, mNSet, mPApp, mPSetIx, mPPop, mMeth, mNew, isIns, cellO, mLstN, mAddN, mAppN, semX, mTold, mCallX, xRet, xExpr, xSet, mRaise, mM, isL, isS, mOrV, truD, *])
local macro_rules | `(tactic| walk_at "el") => `(tactic| simp [semF, shared, after, mSeq, mSkip, mIf, mRet, mRetN, mRetV, mSet, mSetIx, mExpr, mB, mU, mTm, mPl, mK, mVar, mOp, mCons, mNil, bor, bors, mTst, mAndT, mOrT, mNotT, mAndE, mOrE, mNotE, mIfE, mIsi, isiD, mChn, chnL, cmpD, binD, addD, subD, mulD, modD, fdivD, powD, eqD, neD, ltD, leD, gtD, geD, isD, isnD, L2.M.isNon, negD, ixD, Bf.f, Bg.f, lenD, L2.M.intD, maxD, minD, repD, strD, gmaxD, gminD, sumD, sortD, anyD, allD, mCall, frz, fzO, lend, wb, mTup, mLst, fzs, cD, mAsg, bTup, bTps, mApp, tupD, lstD, mRev, revD, ofs_inj, ee_ii, ee_ss, ee_bb, ee_nn, ee_is, ee_si, ee_in, ee_ni, ee_tt, ee_ll, ee_maps, ee_0, ee_1, ee_2, ee_3, at_lit, at_nat, at_m1, at_m2, scD, emD, sizeLine_eq, ixN, sm_lit, mSrc, itemsD, plOf, rng1D, bNm, mSl, mPt, mNoP, slD, mPar, keepT, tmsO, setA, mFlow, zipX, enumX, itemsX, intsOf, ints_all, boolsOf, shaped_lay, lay_int, lay_bool, lay_none, lay_dict, lay_tup, lay_list, lay_ints, sortX_ints, mPlF, mPlI, mRd, mPU, mPB, mFSet, mFNew, mNSet, mPApp, mPSetIx, mPPop, mMeth, mNew, isIns, cellO, mLstN, mAddN, mAppN, semX, mTold, mCallX, xRet, xExpr, xSet, mRaise, mM, isL, isS, mOrV, truD, mLc, lcL, sameC, wipeC, restC, mYes, *])
local macro_rules | `(tactic| walk_at "ef") => `(tactic| simp [semF, shared, after, mSeq, mSkip, mIf, mRet, mRetN, mRetV, mSet, mSetIx, mExpr, mB, mU, mTm, mPl, mK, mVar, mOp, mCons, mNil, bor, bors, mTst, mAndT, mOrT, mNotT, mAndE, mOrE, mNotE, mIfE, mIsi, isiD, mChn, chnL, cmpD, binD, addD, subD, mulD, modD, fdivD, powD, eqD, neD, ltD, leD, gtD, geD, isD, isnD, L2.M.isNon, negD, ixD, Bf.f, Bg.f, lenD, L2.M.intD, maxD, minD, repD, strD, gmaxD, gminD, sumD, sortD, anyD, allD, mCall, frz, fzO, lend, wb, mTup, mLst, fzs, cD, mAsg, bTup, bTps, mApp, tupD, lstD, mRev, revD, ofs_inj, ee_ii, ee_ss, ee_bb, ee_nn, ee_is, ee_si, ee_in, ee_ni, ee_tt, ee_ll, ee_maps, ee_0, ee_1, ee_2, ee_3, at_lit, at_nat, at_m1, at_m2, scD, emD, sizeLine_eq, ixN, sm_lit, mSrc, itemsD, plOf, rng1D, bNm, mSl, mPt, mNoP, slD, mPar, keepT, tmsO, setA, mFlow, zipX, enumX, itemsX, intsOf, ints_all, boolsOf, shaped_lay, lay_int, lay_bool, lay_none, lay_dict, lay_tup, lay_list, lay_ints, sortX_ints, mPlF, mPlI, mRd, mPU, mPB, mFSet, mFNew, mNSet, mPApp, mPSetIx, mPPop, mMeth, mNew, isIns, cellO, mLstN, mAddN, mAppN, semX, mTold, mCallX, xRet, xExpr, xSet, mRaise, mM, isL, isS, mOrV, truD, mFor, forL, mLc, lcL, sameC, wipeC, restC, mYes, *])
local macro_rules | `(tactic| walk_at "rg") => `(tactic| (and_intros <;> grind))
local macro_rules | `(tactic| walk_at "nx") => `(tactic| (apply wx_nx; focus (walk_at "ev"; try first | exact ⟨rfl, rfl⟩ | rfl)))
local macro_rules | `(tactic| walk_at "ns") => `(tactic| (apply wx_nx; focus (walk_at "es"; try first | exact ⟨rfl, rfl⟩ | rfl)))
local macro_rules | `(tactic| walk_at "rt") => `(tactic| (apply wx_rt; focus (walk_at "ev"; try first | exact ⟨rfl, rfl⟩ | rfl)))
local macro_rules | `(tactic| walk_at "rs") => `(tactic| (apply wx_rt; focus (walk_at "es"; try first | exact ⟨rfl, rfl⟩ | rfl)))
local macro_rules | `(tactic| walk_at "ed") => `(tactic| simp [semF, shared, after, mSeq, mSkip, mIf, mRet, mRetN, mRetV, mSet, mSetIx, mExpr, mB, mU, mTm, mPl, mK, mVar, mOp, mCons, mNil, bor, bors, mTst, mAndT, mOrT, mNotT, mAndE, mOrE, mNotE, mIfE, mIsi, isiD, mChn, chnL, cmpD, binD, addD, subD, mulD, modD, fdivD, powD, eqD, neD, ltD, leD, gtD, geD, isD, isnD, L2.M.isNon, negD, ixD, Bf.f, Bg.f, lenD, L2.M.intD, maxD, minD, repD, strD, gmaxD, gminD, sumD, sortD, anyD, allD, mCall, frz, fzO, lend, wb, mTup, mLst, fzs, cD, mAsg, bTup, bTps, mApp, tupD, lstD, mRev, revD, ofs_inj, ee_ii, ee_ss, ee_bb, ee_nn, ee_is, ee_si, ee_in, ee_ni, ee_tt, ee_ll, ee_maps, ee_0, ee_1, ee_2, ee_3, at_lit, at_nat, at_m1, at_m2, scD, emD, sizeLine_eq, ixN, sm_lit, mSrc, itemsD, plOf, rng1D, bNm, mSl, mPt, mNoP, slD, mPar, keepT, tmsO, setA, mFlow, zipX, enumX, itemsX, intsOf, ints_all, boolsOf, shaped_lay, lay_int, lay_bool, lay_none, lay_dict, lay_tup, lay_list, lay_ints, sortX_ints, mPlF, mPlI, mRd, mPU, mPB, mFSet, mFNew, mNSet, mPApp, mPSetIx, mPPop, mMeth, mNew, isIns, cellO, mLstN, mAddN, mAppN, semX, mTold, mCallX, xRet, xExpr, xSet, mRaise, mM, isL, isS, mOrV, truD, mDNew, mDIn, mDGet, mDLen, mDPut, kyD, mNNew, mN1, mTake, mFnV, mCallF, mNIn, mNGet, mNPut, mNVals, mNList, nKs, mDGetD, mDList, mNNe, *])
theorem pl_1 {need k b bt tm N : Int} {A : List PyData} (hN : (A.length : Int) = N) (h0 : 0 ≤ k) (h1 : k < N) (ha : atI A k = some (.tuple [.int bt, .int tm])) (w1 : g_is_whole [.sh (.int k)] = some (.sh (.bool true), [.sh (.int k)])) (w2 : g_is_whole [.sh (.int b)] = some (.sh (.bool true), [.sh (.int b)])) : g_is_place [.sh (.int need), .sh (.tuple A), .sh (.tuple [.int k, .int b])] = some (.sh (.bool (decide (bt ≤ b) && decide (b + need ≤ bt + tm))), [.sh (.int need), .sh (.tuple A), .sh (.tuple [.int k, .int b])]) := by
  unfold g_is_place m_is_place
  generalize g_is_whole = G at *
  by_cases c : bt ≤ b <;> by_cases c2 : b + need ≤ bt + tm <;> walk_at "es"
theorem pl_2 {need k b N : Int} {A : List PyData} (hN : (A.length : Int) = N) (h : ¬ (0 ≤ k ∧ k < N)) (w1 : g_is_whole [.sh (.int k)] = some (.sh (.bool true), [.sh (.int k)])) (w2 : g_is_whole [.sh (.int b)] = some (.sh (.bool true), [.sh (.int b)])) : g_is_place [.sh (.int need), .sh (.tuple A), .sh (.tuple [.int k, .int b])] = some (.sh (.bool false), [.sh (.int need), .sh (.tuple A), .sh (.tuple [.int k, .int b])]) := by
  unfold g_is_place m_is_place
  generalize g_is_whole = G at *
  by_cases c : 0 ≤ k
  · have c2 : ¬ k < N := fun z => h ⟨c, z⟩
    clear h
    walk_at "es"
  · clear h
    walk_at "es"
theorem at_pr {A : List (Int × Int)} {k : Nat} (h : k < A.length) : atI (A.map pr) (k : Int) = some (.tuple [.int (A.getD k (0, 0)).1, .int (A.getD k (0, 0)).2]) := by
  rw [at_nat, List.getElem?_map, List.getElem?_eq_getElem h, List.getD_eq_getElem?_getD, List.getElem?_eq_getElem h]
  rfl
theorem is_place_eq (need : Int) (A : List (Int × Int)) (k : Nat) (b : Int) : g_is_place [.sh (.int need), .sh (stD A), .sh (.tuple [.int (k : Int), .int b])] = some (.sh (.bool (plc need A k b)), [.sh (.int need), .sh (stD A), .sh (.tuple [.int (k : Int), .int b])]) := by
  have w1 := is_whole_eq (.int (k : Int))
  have w2 := is_whole_eq (.int b)
  by_cases c : k < A.length
  · have e : plc need A k b = (decide ((A.getD k (0, 0)).1 ≤ b) && decide (b + need ≤ (A.getD k (0, 0)).1 + (A.getD k (0, 0)).2)) := by simp [plc, c]
    rw [e]
    exact pl_1 (N := (A.length : Int)) (by simp) (by omega) (by omega) (at_pr c) w1 w2
  · have e : plc need A k b = false := by simp [plc, c]
    rw [e]
    exact pl_2 (N := (A.length : Int)) (by simp) (by omega) w1 w2
def iD (s : List Int) : PyData := .tuple (s.map .int)
def prN (x : Nat × Int) : PyData := .tuple [.int (x.1 : Int), .int x.2]
def sqD (q : Sq) : PyData := .tuple (q.map prN)
def eKs (F : List En) : List PyData := F.map fun e => iD e.1
def eCs (F : List En) : List C := F.map fun e => .sh (sqD e.2)
abbrev eC (F : List En) : C := .ob (.dn (eKs F)) (eCs F)
abbrev eF (F : List En) : C := .fd (F.map fun e => (iD e.1, sqD e.2))
def iK (s : List Int) : NestedKey := .tup (s.map .num)
theorem nKeys_i : ∀ s : List Int, nKeys (s.map PyData.int) = some (s.map .num)
  | [] => rfl
  | x :: s => by
    rw [List.map_cons, List.map_cons]
    unfold nKeys
    rw [nKeys_i s]
    rfl
theorem dep_i : ∀ s : List Int, NestedKey.depthAll (s.map .num) ≤ 1
  | [] => Nat.zero_le _
  | x :: s => by
    have := dep_i s
    simp only [List.map_cons, NestedKey.depthAll, NestedKey.depth]
    omega
theorem nKey_i (s : List Int) : nKey (iD s) = some (iK s) := by
  unfold iD iK
  simp only [nKey, nKeys_i, Option.map_some]
theorem okKey_i (s : List Int) : okKey (iD s) = some (iK s) := by
  have h1 := nKey_i s
  have h2 := dep_i s
  have e : okKey (iD s) = (nKey (iD s)).bind fun n => if n.depth ≤ 8 then some n else none := rfl
  rw [e, h1, Option.bind_some, if_pos]
  unfold iK
  simp only [NestedKey.depth]
  omega
theorem iK_inj {s t : List Int} (h : iK s = iK t) : s = t := by
  unfold iK at h
  injection h with h
  have := congrArg (List.map fun k : NestedKey => match k with | .num i => i | _ => 0) h
  simpa [List.map_map, Function.comp_def] using this
theorem idx_e (F : List En) (s : List Int) : idxN (eKs F) (iK s) = eIx F s := by
  unfold idxN eKs eIx
  rw [List.findIdx?_map]
  congr 1
  funext r
  show decide (nKey (iD r.1) = some (iK s)) = _
  rw [nKey_i]
  by_cases c : r.1 = s
  · simp [c]
  · have : ¬ iK r.1 = iK s := fun e => c (iK_inj e)
    simp [c, this]
theorem cFs_e : ∀ F : List En, cFs (eCs F) = some (F.map fun e => sqD e.2)
  | [] => rfl
  | r :: F => by
    have := cFs_e F
    unfold eCs at this ⊢
    rw [List.map_cons, List.map_cons]
    unfold cFs
    rw [this]
    rfl
theorem src_e (F : List En) {ε : Cs} {i : Nat} (h : ε[i]? = some (eC F)) : mNSrc i ε = some ((eKs F, []), ε.set i (eF F)) := by
  unfold mNSrc
  rw [h]
  show (cFs (eCs F)).map _ = _
  rw [cFs_e]
  show some ((eKs F, []), ε.set i (.fd ((eKs F).zip (F.map fun e => sqD e.2)))) = _
  rw [show (eKs F).zip (F.map fun e => sqD e.2) = F.map fun e => (iD e.1, sqD e.2) by unfold eKs; rw [List.zip_map']]
end KW
namespace KW
open PySem PySem.Spec PyProof.Rows L2 L2.M
local macro_rules | `(tactic| walk_at "ev") => `(tactic| simp [semF, shared, after, mSeq, mSkip, mIf, mRet, mRetN, mRetV, mSet, mSetIx, mExpr, mB, mU, mTm, mPl, mK, mVar, mOp, mCons, mNil, bor, bors, mTst, mAndT, mOrT, mNotT, mAndE, mOrE, mNotE, mIfE, mIsi, isiD, mChn, chnL, cmpD, binD, addD, subD, mulD, modD, fdivD, powD, eqD, neD, ltD, leD, gtD, geD, isD, isnD, L2.M.isNon, negD, ixD, Bf.f, Bg.f, lenD, L2.M.intD, maxD, minD, repD, strD, gmaxD, gminD, sumD, sortD, anyD, allD, mCall, frz, fzO, lend, wb, mTup, mLst, fzs, cD, mAsg, bTup, bTps, mApp, tupD, lstD, mRev, revD, ofs_inj, ee_ii, ee_ss, ee_bb, ee_nn, ee_is, ee_si, ee_in, ee_ni, ee_tt, ee_ll, ee_maps, ee_0, ee_1, ee_2, ee_3, at_lit, at_nat, at_m1, at_m2, scD, emD, sizeLine_eq, ixN, sm_lit, mSrc, itemsD, plOf, rng1D, bNm, mSl, mPt, mNoP, slD, mPar, keepT, tmsO, setA, mFlow, zipX, enumX, itemsX, intsOf, ints_all, boolsOf, shaped_lay, lay_int, lay_bool, lay_none, lay_dict, lay_tup, lay_list, lay_ints, sortX_ints, mPlF, mPlI, mRd, mPU, mPB, mFSet, mFNew, mNSet, mPApp, mPSetIx, mPPop, mMeth, mNew, isIns, cellO, mLstN, mAddN, mAppN, semX, mTold, mCallX, xRet, xExpr, xSet, mRaise, mM, isL, isS, mOrV, truD])
local macro_rules | `(tactic| walk_at "es") => `(tactic| simp [semF, shared, after, mSeq, mSkip, mIf, mRet, mRetN, mRetV, mSet, mSetIx, mExpr, mB, mU, mTm, mPl, mK, mVar, mOp, mCons, mNil, bor, bors, mTst, mAndT, mOrT, mNotT, mAndE, mOrE, mNotE, mIfE, mIsi, isiD, mChn, chnL, cmpD, binD, addD, subD, mulD, modD, fdivD, powD, eqD, neD, ltD, leD, gtD, geD, isD, isnD, L2.M.isNon, negD, ixD, Bf.f, Bg.f, lenD, L2.M.intD, maxD, minD, repD, strD, gmaxD, gminD, sumD, sortD, anyD, allD, mCall, frz, fzO, lend, wb, mTup, mLst, fzs, cD, mAsg, bTup, bTps, mApp, tupD, lstD, mRev, revD, ofs_inj, ee_ii, ee_ss, ee_bb, ee_nn, ee_is, ee_si, ee_in, ee_ni, ee_tt, ee_ll, ee_maps, ee_0, ee_1, ee_2, ee_3, at_lit, at_nat, at_m1, at_m2, scD, emD, sizeLine_eq, ixN, sm_lit, mSrc, itemsD, plOf, rng1D, bNm, mSl, mPt, mNoP, slD, mPar, keepT, tmsO, setA, mFlow, zipX, enumX, itemsX, intsOf, ints_all, boolsOf, shaped_lay, lay_int, lay_bool, lay_none, lay_dict, lay_tup, lay_list, lay_ints, sortX_ints, mPlF, mPlI, mRd, mPU, mPB, mFSet, mFNew, mNSet, mPApp, mPSetIx, mPPop, mMeth, mNew, isIns, cellO, mLstN, mAddN, mAppN, semX, mTold, mCallX, xRet, xExpr, xSet, mRaise, mM, isL, isS, mOrV, truD, *])
local macro_rules | `(tactic| walk_at "el") => `(tactic| simp [semF, shared, after, mSeq, mSkip, mIf, mRet, mRetN, mRetV, mSet, mSetIx, mExpr, mB, mU, mTm, mPl, mK, mVar, mOp, mCons, mNil, bor, bors, mTst, mAndT, mOrT, mNotT, mAndE, mOrE, mNotE, mIfE, mIsi, isiD, mChn, chnL, cmpD, binD, addD, subD, mulD, modD, fdivD, powD, eqD, neD, ltD, leD, gtD, geD, isD, isnD, L2.M.isNon, negD, ixD, Bf.f, Bg.f, lenD, L2.M.intD, maxD, minD, repD, strD, gmaxD, gminD, sumD, sortD, anyD, allD, mCall, frz, fzO, lend, wb, mTup, mLst, fzs, cD, mAsg, bTup, bTps, mApp, tupD, lstD, mRev, revD, ofs_inj, ee_ii, ee_ss, ee_bb, ee_nn, ee_is, ee_si, ee_in, ee_ni, ee_tt, ee_ll, ee_maps, ee_0, ee_1, ee_2, ee_3, at_lit, at_nat, at_m1, at_m2, scD, emD, sizeLine_eq, ixN, sm_lit, mSrc, itemsD, plOf, rng1D, bNm, mSl, mPt, mNoP, slD, mPar, keepT, tmsO, setA, mFlow, zipX, enumX, itemsX, intsOf, ints_all, boolsOf, shaped_lay, lay_int, lay_bool, lay_none, lay_dict, lay_tup, lay_list, lay_ints, sortX_ints, mPlF, mPlI, mRd, mPU, mPB, mFSet, mFNew, mNSet, mPApp, mPSetIx, mPPop, mMeth, mNew, isIns, cellO, mLstN, mAddN, mAppN, semX, mTold, mCallX, xRet, xExpr, xSet, mRaise, mM, isL, isS, mOrV, truD, mLc, lcL, sameC, wipeC, restC, mYes, *])
local macro_rules | `(tactic| walk_at "ef") => `(tactic| simp [semF, shared, after, mSeq, mSkip, mIf, mRet, mRetN, mRetV, mSet, mSetIx, mExpr, mB, mU, mTm, mPl, mK, mVar, mOp, mCons, mNil, bor, bors, mTst, mAndT, mOrT, mNotT, mAndE, mOrE, mNotE, mIfE, mIsi, isiD, mChn, chnL, cmpD, binD, addD, subD, mulD, modD, fdivD, powD, eqD, neD, ltD, leD, gtD, geD, isD, isnD, L2.M.isNon, negD, ixD, Bf.f, Bg.f, lenD, L2.M.intD, maxD, minD, repD, strD, gmaxD, gminD, sumD, sortD, anyD, allD, mCall, frz, fzO, lend, wb, mTup, mLst, fzs, cD, mAsg, bTup, bTps, mApp, tupD, lstD, mRev, revD, ofs_inj, ee_ii, ee_ss, ee_bb, ee_nn, ee_is, ee_si, ee_in, ee_ni, ee_tt, ee_ll, ee_maps, ee_0, ee_1, ee_2, ee_3, at_lit, at_nat, at_m1, at_m2, scD, emD, sizeLine_eq, ixN, sm_lit, mSrc, itemsD, plOf, rng1D, bNm, mSl, mPt, mNoP, slD, mPar, keepT, tmsO, setA, mFlow, zipX, enumX, itemsX, intsOf, ints_all, boolsOf, shaped_lay, lay_int, lay_bool, lay_none, lay_dict, lay_tup, lay_list, lay_ints, sortX_ints, mPlF, mPlI, mRd, mPU, mPB, mFSet, mFNew, mNSet, mPApp, mPSetIx, mPPop, mMeth, mNew, isIns, cellO, mLstN, mAddN, mAppN, semX, mTold, mCallX, xRet, xExpr, xSet, mRaise, mM, isL, isS, mOrV, truD, mFor, forL, mLc, lcL, sameC, wipeC, restC, mYes, *])
local macro_rules | `(tactic| walk_at "rg") => `(tactic| (and_intros <;> grind))
local macro_rules | `(tactic| walk_at "nx") => `(tactic| (apply wx_nx; focus (walk_at "ev"; try first | exact ⟨rfl, rfl⟩ | rfl)))
local macro_rules | `(tactic| walk_at "ns") => `(tactic| (apply wx_nx; focus (walk_at "es"; try first | exact ⟨rfl, rfl⟩ | rfl)))
local macro_rules | `(tactic| walk_at "rt") => `(tactic| (apply wx_rt; focus (walk_at "ev"; try first | exact ⟨rfl, rfl⟩ | rfl)))
local macro_rules | `(tactic| walk_at "rs") => `(tactic| (apply wx_rt; focus (walk_at "es"; try first | exact ⟨rfl, rfl⟩ | rfl)))
local macro_rules | `(tactic| walk_at "ed") => `(tactic| simp [semF, shared, after, mSeq, mSkip, mIf, mRet, mRetN, mRetV, mSet, mSetIx, mExpr, mB, mU, mTm, mPl, mK, mVar, mOp, mCons, mNil, bor, bors, mTst, mAndT, mOrT, mNotT, mAndE, mOrE, mNotE, mIfE, mIsi, isiD, mChn, chnL, cmpD, binD, addD, subD, mulD, modD, fdivD, powD, eqD, neD, ltD, leD, gtD, geD, isD, isnD, L2.M.isNon, negD, ixD, Bf.f, Bg.f, lenD, L2.M.intD, maxD, minD, repD, strD, gmaxD, gminD, sumD, sortD, anyD, allD, mCall, frz, fzO, lend, wb, mTup, mLst, fzs, cD, mAsg, bTup, bTps, mApp, tupD, lstD, mRev, revD, ofs_inj, ee_ii, ee_ss, ee_bb, ee_nn, ee_is, ee_si, ee_in, ee_ni, ee_tt, ee_ll, ee_maps, ee_0, ee_1, ee_2, ee_3, at_lit, at_nat, at_m1, at_m2, scD, emD, sizeLine_eq, ixN, sm_lit, mSrc, itemsD, plOf, rng1D, bNm, mSl, mPt, mNoP, slD, mPar, keepT, tmsO, setA, mFlow, zipX, enumX, itemsX, intsOf, ints_all, boolsOf, shaped_lay, lay_int, lay_bool, lay_none, lay_dict, lay_tup, lay_list, lay_ints, sortX_ints, mPlF, mPlI, mRd, mPU, mPB, mFSet, mFNew, mNSet, mPApp, mPSetIx, mPPop, mMeth, mNew, isIns, cellO, mLstN, mAddN, mAppN, semX, mTold, mCallX, xRet, xExpr, xSet, mRaise, mM, isL, isS, mOrV, truD, mDNew, mDIn, mDGet, mDLen, mDPut, kyD, mNNew, mN1, mTake, mFnV, mCallF, mNIn, mNGet, mNPut, mNVals, mNList, nKs, mDGetD, mDList, mNNe, *])
theorem bk_get {Z V : PyData} {K : NestedKey} {KS : List (PyData × PyData)} {j : Nat} (hk : okKey Z = some K) (hx : idxN (KS.map (·.1)) K = some j) (hv : nVl (.fd KS) j = some V) (c0 c1 c3 c4 c6 c7 c8 c9 c10 : C) : (mSet [0, 1] 6 (mNGet 2 (mPl 5))) [c0, c1, .fd KS, c3, c4, .sh Z, c6, c7, c8, c9, c10] = some (.nx, [c0, c1, .fd KS, c3, c4, .sh Z, .sh V, c7, c8, c9, c10]) := by
  walk_at "ed"
theorem fr_0 (c1 c2 c3 c4 c5 c7 c8 c9 c10 : C) : (mSet [0, 1] 7 (mIfE (mTst (mB (cmpD .NotEq) (mPl 6) (mTm (mTup (mNil))))) (mB (binD .Add) (mTm (mB ixD (mTm (mB ixD (mPl 6) (mTm (mU negD (mTm (mK (.int 1))))))) (mTm (mK (.int 1))))) (mPl 0)) (mK (.int 0)))) [c0, c1, c2, c3, c4, c5, .sh (.tuple []), c7, c8, c9, c10] = some (.nx, [c0, c1, c2, c3, c4, c5, .sh (.tuple []), .sh (.int 0), c8, c9, c10]) := by
  have h : cmpD .NotEq (.tuple []) (.tuple []) = some (.sh (.bool false)) := by
    have h2 : SeqAt.shaped (.tuple []) = true := by decide +kernel
    rw [show cmpD .NotEq = L2.M.neD from rfl]
    unfold L2.M.neD
    rw [h2, if_pos (by simp), ee_tt]
    rfl
  generalize cmpD .NotEq = CD at *
  walk_at "es"
theorem fr_1 {R : List PyData} {x y need : Int} (h : cmpD .NotEq (.tuple R) (.tuple []) = some (.sh (.bool true))) (hl : R.getLast? = some (.tuple [.int x, .int y])) (c1 c2 c3 c4 c5 c7 c8 c9 c10 : C) : (mSet [0, 1] 7 (mIfE (mTst (mB (cmpD .NotEq) (mPl 6) (mTm (mTup (mNil))))) (mB (binD .Add) (mTm (mB ixD (mTm (mB ixD (mPl 6) (mTm (mU negD (mTm (mK (.int 1))))))) (mTm (mK (.int 1))))) (mPl 0)) (mK (.int 0)))) [.sh (.int need), c1, c2, c3, c4, c5, .sh (.tuple R), c7, c8, c9, c10] = some (.nx, [.sh (.int need), c1, c2, c3, c4, c5, .sh (.tuple R), .sh (.int (y + need)), c8, c9, c10]) := by
  generalize cmpD .NotEq = CD at *
  walk_at "es"
theorem ne_sq (q : Sq) (h : q ≠ []) : cmpD .NotEq (sqD q) (.tuple []) = some (.sh (.bool true)) := by
  have h1 : SeqAt.shaped (sqD q) = true := by
    unfold sqD
    rw [shaped_lay, lay_tup _ (by decide), List.all_map, List.all_eq_true]
    intro x _
    simp [prN, lay_tup, lay_int]
  have h2 : SeqAt.shaped (.tuple []) = true := by decide +kernel
  rw [show cmpD .NotEq = L2.M.neD from rfl]
  unfold L2.M.neD
  rw [h1, h2, if_pos (by simp)]
  unfold sqD
  rw [ee_tt]
  cases q with
  | nil => exact absurd rfl h
  | cons x q => rfl
theorem free_eq (need : Int) (q : Sq) (c1 c2 c3 c4 c5 c7 c8 c9 c10 : C) : (mSet [0, 1] 7 (mIfE (mTst (mB (cmpD .NotEq) (mPl 6) (mTm (mTup (mNil))))) (mB (binD .Add) (mTm (mB ixD (mTm (mB ixD (mPl 6) (mTm (mU negD (mTm (mK (.int 1))))))) (mTm (mK (.int 1))))) (mPl 0)) (mK (.int 0)))) [.sh (.int need), c1, c2, c3, c4, c5, .sh (sqD q), c7, c8, c9, c10] = some (.nx, [.sh (.int need), c1, c2, c3, c4, c5, .sh (sqD q), .sh (.int (fre need q)), c8, c9, c10]) := by
  by_cases e : q = []
  · subst e
    exact fr_0 _ _ _ _ _ _ _ _ _
  · unfold fre
    rw [if_neg e]
    have h := ne_sq q e
    rcases List.eq_nil_or_concat q with z | ⟨t, y, z⟩
    · exact absurd z e
    · rw [List.concat_eq_append] at z
      refine fr_1 (R := q.map prN) (x := y.1) h ?_ _ _ _ _ _ _ _ _ _
      rw [z, List.getLast?_map]
      simp [lb, prN]
theorem bk_1 {A : List PyData} {bt tm K f : Int} (ha : atI A K = some (.tuple [.int bt, .int tm])) (c0 c2 c3 c4 c5 c6 c9 c10 : C) : (mSet [0, 1] 9 (mOp (Bf.f .max) (mCons (mPl 7) (mCons (mTm (mB ixD (mTm (mB ixD (mPl 1) (mPl 8))) (mTm (mK (.int 0))))) (mNil))))) [c0, .sh (.tuple A), c2, c3, c4, c5, c6, .sh (.int f), .sh (.int K), c9, c10] = some (.nx, [c0, .sh (.tuple A), c2, c3, c4, c5, c6, .sh (.int f), .sh (.int K), .sh (.int (if f < bt then bt else f)), c10]) := by
  walk_at "es"
theorem bk_t {A S : PyData} {need K b : Int} {u v : Bool} (h1 : cmpD .NotIn (.int K) S = some (.sh (.bool u))) (h2 : g_is_place [.sh (.int need), .sh A, .sh (.tuple [.int K, .int b])] = some (.sh (.bool v), [.sh (.int need), .sh A, .sh (.tuple [.int K, .int b])])) (c2 c3 c4 c6 c7 c10 : C) : (mAndT (mTst (mB (cmpD .NotIn) (mPl 8) (mPl 5))) (mTst (mCall [true, true, true] g_is_place (mCons (mPl 0) (mCons (mPl 1) (mCons (mTm (mTup (mCons (mPl 8) (mCons (mPl 9) (mNil))))) (mNil))))))) [.sh (.int need), .sh A, c2, c3, c4, .sh S, c6, c7, .sh (.int K), .sh (.int b), c10] = some (u && v, [.sh (.int need), .sh A, c2, c3, c4, .sh S, c6, c7, .sh (.int K), .sh (.int b), c10]) := by
  generalize g_is_place = G at *
  generalize cmpD .NotIn = CD at *
  cases u <;> walk_at "es"
theorem bk_k {S T : List PyData} {K : Int} (h : sortZ [.tuple (S ++ [.int K])] = some (.ls T)) (hs : S.length ≤ 1000) (ht : T.length ≤ 16777216) (c0 c1 c2 c3 c4 c6 c7 c9 c10 : C) : (mSet [0, 1] 10 (mOp (Bf.f .tuple) (mCons (mTm (mOp sortZ (mCons (mTm (mB (binD .Add) (mPl 5) (mTm (mTup (mCons (mPl 8) (mNil)))))) (mNil)))) (mNil)))) [c0, c1, c2, c3, c4, .sh (.tuple S), c6, c7, .sh (.int K), c9, c10] = some (.nx, [c0, c1, c2, c3, c4, .sh (.tuple S), c6, c7, .sh (.int K), c9, .sh (.tuple T)]) := by
  have hs2 : S.length ≤ 16777215 := by omega
  clear hs
  generalize sortZ = SZ at *
  walk_at "es"
theorem bk_c {Z : PyData} {K : NestedKey} {KS R : List PyData} {CS : List C} {k b : Int} (hk : okKey Z = some K) (hx : idxN KS K = none) (hl : CS.length < 16777216) (hz : R.length ≤ 16777215) (c0 c1 c2 c3 c5 c7 : C) : (mIf (mOrT (mTst (mNIn true 4 (mPl 10))) (mTst (mB (cmpD .Gt) (mTm (mB ixD (mTm (mB ixD (mTm (mNGet 4 (mPl 10))) (mTm (mU negD (mTm (mK (.int 1))))))) (mTm (mK (.int 1))))) (mPl 9)))) (mSeq (mNPut 4 (mB (binD .Add) (mPl 6) (mTm (mTup (mCons (mTm (mTup (mCons (mPl 8) (mCons (mPl 9) (mNil))))) (mNil))))) (mPl 10)) (mSkip)) (mSkip)) [c0, c1, c2, c3, .ob (.dn KS) CS, c5, .sh (.tuple R), c7, .sh (.int k), .sh (.int b), .sh Z] = some (.nx, [c0, c1, c2, c3, .ob (.dn (KS ++ [Z])) (CS ++ [.sh (.tuple (R ++ [.tuple [.int k, .int b]]))]), c5, .sh (.tuple R), c7, .sh (.int k), .sh (.int b), .sh Z]) := by
  walk_at "ed"
theorem bk_d {Z : PyData} {K : NestedKey} {KS R VS : List PyData} {CS : List C} {j : Nat} {k b x y : Int} (hk : okKey Z = some K) (hx : idxN KS K = some j) (hv : nVl (.ob (.dn KS) CS) j = some (.tuple VS)) (hvl : VS.getLast? = some (.tuple [.int x, .int y])) (hlt : b < y) (hl : CS.length < 16777216) (hz : R.length ≤ 16777215) (c0 c1 c2 c3 c5 c7 : C) : (mIf (mOrT (mTst (mNIn true 4 (mPl 10))) (mTst (mB (cmpD .Gt) (mTm (mB ixD (mTm (mB ixD (mTm (mNGet 4 (mPl 10))) (mTm (mU negD (mTm (mK (.int 1))))))) (mTm (mK (.int 1))))) (mPl 9)))) (mSeq (mNPut 4 (mB (binD .Add) (mPl 6) (mTm (mTup (mCons (mTm (mTup (mCons (mPl 8) (mCons (mPl 9) (mNil))))) (mNil))))) (mPl 10)) (mSkip)) (mSkip)) [c0, c1, c2, c3, .ob (.dn KS) CS, c5, .sh (.tuple R), c7, .sh (.int k), .sh (.int b), .sh Z] = some (.nx, [c0, c1, c2, c3, .ob (.dn KS) (CS.set j (.sh (.tuple (R ++ [.tuple [.int k, .int b]])))), c5, .sh (.tuple R), c7, .sh (.int k), .sh (.int b), .sh Z]) := by
  walk_at "ed"
theorem bk_e {Z : PyData} {K : NestedKey} {KS R VS : List PyData} {CS : List C} {j : Nat} {k b x y : Int} (hk : okKey Z = some K) (hx : idxN KS K = some j) (hv : nVl (.ob (.dn KS) CS) j = some (.tuple VS)) (hvl : VS.getLast? = some (.tuple [.int x, .int y])) (hlt : ¬ b < y) (c0 c1 c2 c3 c5 c7 : C) : (mIf (mOrT (mTst (mNIn true 4 (mPl 10))) (mTst (mB (cmpD .Gt) (mTm (mB ixD (mTm (mB ixD (mTm (mNGet 4 (mPl 10))) (mTm (mU negD (mTm (mK (.int 1))))))) (mTm (mK (.int 1))))) (mPl 9)))) (mSeq (mNPut 4 (mB (binD .Add) (mPl 6) (mTm (mTup (mCons (mTm (mTup (mCons (mPl 8) (mCons (mPl 9) (mNil))))) (mNil))))) (mPl 10)) (mSkip)) (mSkip)) [c0, c1, c2, c3, .ob (.dn KS) CS, c5, .sh (.tuple R), c7, .sh (.int k), .sh (.int b), .sh Z] = some (.nx, [c0, c1, c2, c3, .ob (.dn KS) CS, c5, .sh (.tuple R), c7, .sh (.int k), .sh (.int b), .sh Z]) := by
  walk_at "ed"
end KW
namespace KW
open PySem PySem.Spec PyProof.Rows L2 L2.M
local macro_rules | `(tactic| walk_at "ev") => `(tactic| simp [semF, shared, after, mSeq, mSkip, mIf, mRet, mRetN, mRetV, mSet, mSetIx, mExpr, mB, mU, mTm, mPl, mK, mVar, mOp, mCons, mNil, bor, bors, mTst, mAndT, mOrT, mNotT, mAndE, mOrE, mNotE, mIfE, mIsi, isiD, mChn, chnL, cmpD, binD, addD, subD, mulD, modD, fdivD, powD, eqD, neD, ltD, leD, gtD, geD, isD, isnD, L2.M.isNon, negD, ixD, Bf.f, Bg.f, lenD, L2.M.intD, maxD, minD, repD, strD, gmaxD, gminD, sumD, sortD, anyD, allD, mCall, frz, fzO, lend, wb, mTup, mLst, fzs, cD, mAsg, bTup, bTps, mApp, tupD, lstD, mRev, revD, ofs_inj, ee_ii, ee_ss, ee_bb, ee_nn, ee_is, ee_si, ee_in, ee_ni, ee_tt, ee_ll, ee_maps, ee_0, ee_1, ee_2, ee_3, at_lit, at_nat, at_m1, at_m2, scD, emD, sizeLine_eq, ixN, sm_lit, mSrc, itemsD, plOf, rng1D, bNm, mSl, mPt, mNoP, slD, mPar, keepT, tmsO, setA, mFlow, zipX, enumX, itemsX, intsOf, ints_all, boolsOf, shaped_lay, lay_int, lay_bool, lay_none, lay_dict, lay_tup, lay_list, lay_ints, sortX_ints, mPlF, mPlI, mRd, mPU, mPB, mFSet, mFNew, mNSet, mPApp, mPSetIx, mPPop, mMeth, mNew, isIns, cellO, mLstN, mAddN, mAppN, semX, mTold, mCallX, xRet, xExpr, xSet, mRaise, mM, isL, isS, mOrV, truD])
local macro_rules | `(tactic| walk_at "es") => `(tactic| simp [semF, shared, after, mSeq, mSkip, mIf, mRet, mRetN, mRetV, mSet, mSetIx, mExpr, mB, mU, mTm, mPl, mK, mVar, mOp, mCons, mNil, bor, bors, mTst, mAndT, mOrT, mNotT, mAndE, mOrE, mNotE, mIfE, mIsi, isiD, mChn, chnL, cmpD, binD, addD, subD, mulD, modD, fdivD, powD, eqD, neD, ltD, leD, gtD, geD, isD, isnD, L2.M.isNon, negD, ixD, Bf.f, Bg.f, lenD, L2.M.intD, maxD, minD, repD, strD, gmaxD, gminD, sumD, sortD, anyD, allD, mCall, frz, fzO, lend, wb, mTup, mLst, fzs, cD, mAsg, bTup, bTps, mApp, tupD, lstD, mRev, revD, ofs_inj, ee_ii, ee_ss, ee_bb, ee_nn, ee_is, ee_si, ee_in, ee_ni, ee_tt, ee_ll, ee_maps, ee_0, ee_1, ee_2, ee_3, at_lit, at_nat, at_m1, at_m2, scD, emD, sizeLine_eq, ixN, sm_lit, mSrc, itemsD, plOf, rng1D, bNm, mSl, mPt, mNoP, slD, mPar, keepT, tmsO, setA, mFlow, zipX, enumX, itemsX, intsOf, ints_all, boolsOf, shaped_lay, lay_int, lay_bool, lay_none, lay_dict, lay_tup, lay_list, lay_ints, sortX_ints, mPlF, mPlI, mRd, mPU, mPB, mFSet, mFNew, mNSet, mPApp, mPSetIx, mPPop, mMeth, mNew, isIns, cellO, mLstN, mAddN, mAppN, semX, mTold, mCallX, xRet, xExpr, xSet, mRaise, mM, isL, isS, mOrV, truD, *])
local macro_rules | `(tactic| walk_at "el") => `(tactic| simp [semF, shared, after, mSeq, mSkip, mIf, mRet, mRetN, mRetV, mSet, mSetIx, mExpr, mB, mU, mTm, mPl, mK, mVar, mOp, mCons, mNil, bor, bors, mTst, mAndT, mOrT, mNotT, mAndE, mOrE, mNotE, mIfE, mIsi, isiD, mChn, chnL, cmpD, binD, addD, subD, mulD, modD, fdivD, powD, eqD, neD, ltD, leD, gtD, geD, isD, isnD, L2.M.isNon, negD, ixD, Bf.f, Bg.f, lenD, L2.M.intD, maxD, minD, repD, strD, gmaxD, gminD, sumD, sortD, anyD, allD, mCall, frz, fzO, lend, wb, mTup, mLst, fzs, cD, mAsg, bTup, bTps, mApp, tupD, lstD, mRev, revD, ofs_inj, ee_ii, ee_ss, ee_bb, ee_nn, ee_is, ee_si, ee_in, ee_ni, ee_tt, ee_ll, ee_maps, ee_0, ee_1, ee_2, ee_3, at_lit, at_nat, at_m1, at_m2, scD, emD, sizeLine_eq, ixN, sm_lit, mSrc, itemsD, plOf, rng1D, bNm, mSl, mPt, mNoP, slD, mPar, keepT, tmsO, setA, mFlow, zipX, enumX, itemsX, intsOf, ints_all, boolsOf, shaped_lay, lay_int, lay_bool, lay_none, lay_dict, lay_tup, lay_list, lay_ints, sortX_ints, mPlF, mPlI, mRd, mPU, mPB, mFSet, mFNew, mNSet, mPApp, mPSetIx, mPPop, mMeth, mNew, isIns, cellO, mLstN, mAddN, mAppN, semX, mTold, mCallX, xRet, xExpr, xSet, mRaise, mM, isL, isS, mOrV, truD, mLc, lcL, sameC, wipeC, restC, mYes, *])
local macro_rules | `(tactic| walk_at "ef") => `(tactic| simp [semF, shared, after, mSeq, mSkip, mIf, mRet, mRetN, mRetV, mSet, mSetIx, mExpr, mB, mU, mTm, mPl, mK, mVar, mOp, mCons, mNil, bor, bors, mTst, mAndT, mOrT, mNotT, mAndE, mOrE, mNotE, mIfE, mIsi, isiD, mChn, chnL, cmpD, binD, addD, subD, mulD, modD, fdivD, powD, eqD, neD, ltD, leD, gtD, geD, isD, isnD, L2.M.isNon, negD, ixD, Bf.f, Bg.f, lenD, L2.M.intD, maxD, minD, repD, strD, gmaxD, gminD, sumD, sortD, anyD, allD, mCall, frz, fzO, lend, wb, mTup, mLst, fzs, cD, mAsg, bTup, bTps, mApp, tupD, lstD, mRev, revD, ofs_inj, ee_ii, ee_ss, ee_bb, ee_nn, ee_is, ee_si, ee_in, ee_ni, ee_tt, ee_ll, ee_maps, ee_0, ee_1, ee_2, ee_3, at_lit, at_nat, at_m1, at_m2, scD, emD, sizeLine_eq, ixN, sm_lit, mSrc, itemsD, plOf, rng1D, bNm, mSl, mPt, mNoP, slD, mPar, keepT, tmsO, setA, mFlow, zipX, enumX, itemsX, intsOf, ints_all, boolsOf, shaped_lay, lay_int, lay_bool, lay_none, lay_dict, lay_tup, lay_list, lay_ints, sortX_ints, mPlF, mPlI, mRd, mPU, mPB, mFSet, mFNew, mNSet, mPApp, mPSetIx, mPPop, mMeth, mNew, isIns, cellO, mLstN, mAddN, mAppN, semX, mTold, mCallX, xRet, xExpr, xSet, mRaise, mM, isL, isS, mOrV, truD, mFor, forL, mLc, lcL, sameC, wipeC, restC, mYes, *])
local macro_rules | `(tactic| walk_at "rg") => `(tactic| (and_intros <;> grind))
local macro_rules | `(tactic| walk_at "nx") => `(tactic| (apply wx_nx; focus (walk_at "ev"; try first | exact ⟨rfl, rfl⟩ | rfl)))
local macro_rules | `(tactic| walk_at "ns") => `(tactic| (apply wx_nx; focus (walk_at "es"; try first | exact ⟨rfl, rfl⟩ | rfl)))
local macro_rules | `(tactic| walk_at "rt") => `(tactic| (apply wx_rt; focus (walk_at "ev"; try first | exact ⟨rfl, rfl⟩ | rfl)))
local macro_rules | `(tactic| walk_at "rs") => `(tactic| (apply wx_rt; focus (walk_at "es"; try first | exact ⟨rfl, rfl⟩ | rfl)))
local macro_rules | `(tactic| walk_at "ed") => `(tactic| simp [semF, shared, after, mSeq, mSkip, mIf, mRet, mRetN, mRetV, mSet, mSetIx, mExpr, mB, mU, mTm, mPl, mK, mVar, mOp, mCons, mNil, bor, bors, mTst, mAndT, mOrT, mNotT, mAndE, mOrE, mNotE, mIfE, mIsi, isiD, mChn, chnL, cmpD, binD, addD, subD, mulD, modD, fdivD, powD, eqD, neD, ltD, leD, gtD, geD, isD, isnD, L2.M.isNon, negD, ixD, Bf.f, Bg.f, lenD, L2.M.intD, maxD, minD, repD, strD, gmaxD, gminD, sumD, sortD, anyD, allD, mCall, frz, fzO, lend, wb, mTup, mLst, fzs, cD, mAsg, bTup, bTps, mApp, tupD, lstD, mRev, revD, ofs_inj, ee_ii, ee_ss, ee_bb, ee_nn, ee_is, ee_si, ee_in, ee_ni, ee_tt, ee_ll, ee_maps, ee_0, ee_1, ee_2, ee_3, at_lit, at_nat, at_m1, at_m2, scD, emD, sizeLine_eq, ixN, sm_lit, mSrc, itemsD, plOf, rng1D, bNm, mSl, mPt, mNoP, slD, mPar, keepT, tmsO, setA, mFlow, zipX, enumX, itemsX, intsOf, ints_all, boolsOf, shaped_lay, lay_int, lay_bool, lay_none, lay_dict, lay_tup, lay_list, lay_ints, sortX_ints, mPlF, mPlI, mRd, mPU, mPB, mFSet, mFNew, mNSet, mPApp, mPSetIx, mPPop, mMeth, mNew, isIns, cellO, mLstN, mAddN, mAppN, semX, mTold, mCallX, xRet, xExpr, xSet, mRaise, mM, isL, isS, mOrV, truD, mDNew, mDIn, mDGet, mDLen, mDPut, kyD, mNNew, mN1, mTake, mFnV, mCallF, mNIn, mNGet, mNPut, mNVals, mNList, nKs, mDGetD, mDList, mNNe, *])
theorem sortZ_i (L : List Int) : sortZ [.tuple (L.map .int)] = some (.ls ((isort L).map .int)) := by
  simp [sortZ, ints_all]
theorem shaped_i (s : List Int) : SeqAt.shaped (iD s) = true := by
  unfold iD
  rw [shaped_lay, lay_tup _ (by decide), lay_ints]
theorem nin_i (s : List Int) (k : Nat) : cmpD .NotIn (.int (k : Int)) (iD s) = some (.sh (.bool (!s.contains (k : Int)))) := by
  have h1 := shaped_i s
  have h2 : SeqAt.shaped (.int (k : Int)) = true := by rw [shaped_lay, lay_int]
  have e : (s.map PyData.int).any (fun z => PyData.eqv z (.int (k : Int))) = s.contains (k : Int) := by
    rw [List.any_map, Bool.eq_iff_iff, List.any_eq_true, List.contains_iff_mem]
    constructor
    · rintro ⟨x, hx, hh⟩
      simp only [Function.comp, ee_ii, decide_eq_true_eq] at hh
      exact hh ▸ hx
    · intro hx
      exact ⟨_, hx, by simp [ee_ii]⟩
  rw [show cmpD .NotIn = L2.M.ninD from rfl, ← e]
  unfold iD at h1 ⊢
  unfold ninD
  simp only [h1, h2, Bool.and_self, if_true]
theorem sq_last {q : Sq} (h : q ≠ []) : ∃ x : Int, (q.map prN).getLast? = some (.tuple [.int x, .int (lb q)]) := by
  rcases List.eq_nil_or_concat q with z | ⟨t, y, z⟩
  · exact absurd z h
  · rw [List.concat_eq_append] at z
    refine ⟨(y.1 : Int), ?_⟩
    rw [z, List.getLast?_map]
    simp [lb, prN]
/-- one candidate -/
theorem bk_if {G : List En} (hG : G.length < 1000000) (hne : ∀ g ∈ G, g.2 ≠ []) (key : List Int) (R : Sq) (hR : R.length ≤ 1000) (k : Nat) (b : Int) (c0 c1 c2 c3 c5 c7 : C) : (mIf (mOrT (mTst (mNIn true 4 (mPl 10))) (mTst (mB (cmpD .Gt) (mTm (mB ixD (mTm (mB ixD (mTm (mNGet 4 (mPl 10))) (mTm (mU negD (mTm (mK (.int 1))))))) (mTm (mK (.int 1))))) (mPl 9)))) (mSeq (mNPut 4 (mB (binD .Add) (mPl 6) (mTm (mTup (mCons (mTm (mTup (mCons (mPl 8) (mCons (mPl 9) (mNil))))) (mNil))))) (mPl 10)) (mSkip)) (mSkip)) [c0, c1, c2, c3, eC G, c5, .sh (sqD R), c7, .sh (.int (k : Int)), .sh (.int b), .sh (iD key)] = some (.nx, [c0, c1, c2, c3, eC (eUp G (key, R ++ [(k, b)])), c5, .sh (sqD R), c7, .sh (.int (k : Int)), .sh (.int b), .sh (iD key)]) := by
  have hl : (eCs G).length < 16777216 := by unfold eCs; rw [List.length_map]; omega
  have hz : (R.map prN).length ≤ 16777215 := by rw [List.length_map]; omega
  have er : sqD (R ++ [(k, b)]) = .tuple (R.map prN ++ [.tuple [.int (k : Int), .int b]]) := by
    unfold sqD
    rw [List.map_append]
    rfl
  cases hi : eIx G key with
  | none =>
    have e : eUp G (key, R ++ [(k, b)]) = G ++ [(key, R ++ [(k, b)])] := by unfold eUp; rw [show eIx G (key, R ++ [(k, b)]).1 = none from hi]
    have e1 : eKs (G ++ [(key, R ++ [(k, b)])]) = eKs G ++ [iD key] := by simp [eKs]
    have e2 : eCs (G ++ [(key, R ++ [(k, b)])]) = eCs G ++ [.sh (.tuple (R.map prN ++ [.tuple [.int (k : Int), .int b]]))] := by
      rw [← er]
      simp [eCs]
    have e4 : eC (eUp G (key, R ++ [(k, b)])) = .ob (.dn (eKs G ++ [iD key])) (eCs G ++ [.sh (.tuple (R.map prN ++ [.tuple [.int (k : Int), .int b]]))]) := by
      rw [e]
      show C.ob (.dn (eKs _)) (eCs _) = _
      rw [e1, e2]
    rw [e4]
    exact bk_c (okKey_i key) ((idx_e G key).trans hi) hl hz _ _ _ _ _ _
  | some j =>
    obtain ⟨v, hv⟩ := eIx_some hi
    have hvn := hne _ (List.mem_of_getElem? hv)
    obtain ⟨x, hx⟩ := sq_last hvn
    have e : eUp G (key, R ++ [(k, b)]) = if b < lb v then G.set j (key, R ++ [(k, b)]) else G := by
      unfold eUp
      rw [show eIx G (key, R ++ [(k, b)]).1 = some j from hi]
      simp only [List.getD_eq_getElem?_getD, hv, Option.getD_some, lb_snoc]
    have e3 : nVl (.ob (.dn (eKs G)) (eCs G)) j = some (.tuple (v.map prN)) := by
      have : (eCs G)[j]? = some (.sh (sqD v)) := by unfold eCs; rw [List.getElem?_map, hv]; rfl
      show (match (eCs G)[j]? with
        | some (.sh d) => some d
        | _ => none) = _
      rw [this]
      rfl
    by_cases c : b < lb v
    · rw [if_pos c] at e
      have e1 : eKs (G.set j (key, R ++ [(k, b)])) = eKs G := by
        unfold eKs
        rw [List.map_set]
        refine List.ext_getElem? fun i => ?_
        by_cases ei : i = j
        · subst ei
          rw [List.getElem?_set_self (by rw [List.length_map]; exact (List.getElem?_eq_some_iff.mp hv).1), List.getElem?_map, hv]
          rfl
        · rw [List.getElem?_set_ne (Ne.symm ei)]
      have e2 : eCs (G.set j (key, R ++ [(k, b)])) = (eCs G).set j (.sh (.tuple (R.map prN ++ [.tuple [.int (k : Int), .int b]]))) := by
        rw [← er]
        unfold eCs
        rw [List.map_set]
      have e4 : eC (eUp G (key, R ++ [(k, b)])) = .ob (.dn (eKs G)) ((eCs G).set j (.sh (.tuple (R.map prN ++ [.tuple [.int (k : Int), .int b]])))) := by
        rw [e]
        show C.ob (.dn (eKs _)) (eCs _) = _
        rw [e1, e2]
      rw [e4]
      exact bk_d (okKey_i key) ((idx_e G key).trans hi) e3 hx c hl hz _ _ _ _ _ _
    · rw [if_neg c] at e
      rw [e]
      exact bk_e (okKey_i key) ((idx_e G key).trans hi) e3 hx c _ _ _ _ _ _
/-- the body for one number -/
theorem bk_num {need : Int} {A : List (Int × Int)} {G : List En} (hG : G.length < 1000000) (hne : ∀ g ∈ G, g.2 ≠ []) {e : En} (he : e.1.length ≤ 1000) (he2 : e.2.length ≤ 1000) {k : Nat} (hk : k < A.length) (c2 c3 c9 c10 : C) {Q : Fl → Cs → Prop} (hq : ∀ c9 c10, Q .nx [.sh (.int need), .sh (stD A), c2, c3, eC ((cand1 need A e k).foldl eUp G), .sh (iD e.1), .sh (sqD e.2), .sh (.int (fre need e.2)), .sh (.int (k : Int)), c9, c10]) : Wx ((mSeq (mSet [0, 1] 9 (mOp (Bf.f .max) (mCons (mPl 7) (mCons (mTm (mB ixD (mTm (mB ixD (mPl 1) (mPl 8))) (mTm (mK (.int 0))))) (mNil))))) (mSeq (mIf (mAndT (mTst (mB (cmpD .NotIn) (mPl 8) (mPl 5))) (mTst (mCall [true, true, true] g_is_place (mCons (mPl 0) (mCons (mPl 1) (mCons (mTm (mTup (mCons (mPl 8) (mCons (mPl 9) (mNil))))) (mNil))))))) (mSeq (mSet [0, 1] 10 (mOp (Bf.f .tuple) (mCons (mTm (mOp sortZ (mCons (mTm (mB (binD .Add) (mPl 5) (mTm (mTup (mCons (mPl 8) (mNil)))))) (mNil)))) (mNil)))) (mSeq (mIf (mOrT (mTst (mNIn true 4 (mPl 10))) (mTst (mB (cmpD .Gt) (mTm (mB ixD (mTm (mB ixD (mTm (mNGet 4 (mPl 10))) (mTm (mU negD (mTm (mK (.int 1))))))) (mTm (mK (.int 1))))) (mPl 9)))) (mSeq (mNPut 4 (mB (binD .Add) (mPl 6) (mTm (mTup (mCons (mTm (mTup (mCons (mPl 8) (mCons (mPl 9) (mNil))))) (mNil))))) (mPl 10)) (mSkip)) (mSkip)) (mSkip))) (mSkip)) (mSkip))) [.sh (.int need), .sh (stD A), c2, c3, eC G, .sh (iD e.1), .sh (sqD e.2), .sh (.int (fre need e.2)), .sh (.int (k : Int)), c9, c10]) Q := by
  apply wx_nx (bk_1 (at_pr hk) _ _ _ _ _ _ _ _)
  rw [show (if fre need e.2 < (A.getD k (0, 0)).1 then (A.getD k (0, 0)).1 else fre need e.2) = bgn need A e.2 k from rfl]
  have ht := bk_t (nin_i e.1 k) (is_place_eq need A k (bgn need A e.2 k)) c2 c3 (eC G) (.sh (sqD e.2)) (.sh (.int (fre need e.2))) c10
  apply wx_ifs ht
  · intro hc
    have e1 : cand1 need A e k = [new need A e k] := by
      unfold cand1 cnd
      rw [if_pos hc]
    have hso : sortZ [.tuple (e.1.map .int ++ [.int (k : Int)])] = some (.ls ((isort (e.1 ++ [(k : Int)])).map .int)) := by
      rw [show e.1.map PyData.int ++ [.int (k : Int)] = (e.1 ++ [(k : Int)]).map .int by rw [List.map_append]; rfl]
      exact sortZ_i _
    have hln : ((isort (e.1 ++ [(k : Int)])).map PyData.int).length ≤ 16777216 := by
      rw [List.length_map, (isort_perm _).length_eq]
      simp
      omega
    apply wx_in
    apply wx_nx (bk_k hso (by rw [List.length_map]; exact he) hln _ _ _ _ _ _ _ _ _)
    apply wx_in
    refine wx_nx (bk_if hG hne (isort (e.1 ++ [(k : Int)])) e.2 he2 k (bgn need A e.2 k) _ _ _ _ _ _) ?_
    apply wx_sk
    rw [e1] at hq
    exact wx_skip (hq _ _)
  · intro hc
    have e1 : cand1 need A e k = [] := by
      unfold cand1 cnd
      rw [hc]
      rfl
    rw [e1] at hq
    apply wx_sk
    exact wx_skip (hq _ _)
end KW
namespace KW
open PySem PySem.Spec PyProof.Rows L2 L2.M
local macro_rules | `(tactic| walk_at "ev") => `(tactic| simp [semF, shared, after, mSeq, mSkip, mIf, mRet, mRetN, mRetV, mSet, mSetIx, mExpr, mB, mU, mTm, mPl, mK, mVar, mOp, mCons, mNil, bor, bors, mTst, mAndT, mOrT, mNotT, mAndE, mOrE, mNotE, mIfE, mIsi, isiD, mChn, chnL, cmpD, binD, addD, subD, mulD, modD, fdivD, powD, eqD, neD, ltD, leD, gtD, geD, isD, isnD, L2.M.isNon, negD, ixD, Bf.f, Bg.f, lenD, L2.M.intD, maxD, minD, repD, strD, gmaxD, gminD, sumD, sortD, anyD, allD, mCall, frz, fzO, lend, wb, mTup, mLst, fzs, cD, mAsg, bTup, bTps, mApp, tupD, lstD, mRev, revD, ofs_inj, ee_ii, ee_ss, ee_bb, ee_nn, ee_is, ee_si, ee_in, ee_ni, ee_tt, ee_ll, ee_maps, ee_0, ee_1, ee_2, ee_3, at_lit, at_nat, at_m1, at_m2, scD, emD, sizeLine_eq, ixN, sm_lit, mSrc, itemsD, plOf, rng1D, bNm, mSl, mPt, mNoP, slD, mPar, keepT, tmsO, setA, mFlow, zipX, enumX, itemsX, intsOf, ints_all, boolsOf, shaped_lay, lay_int, lay_bool, lay_none, lay_dict, lay_tup, lay_list, lay_ints, sortX_ints, mPlF, mPlI, mRd, mPU, mPB, mFSet, mFNew, mNSet, mPApp, mPSetIx, mPPop, mMeth, mNew, isIns, cellO, mLstN, mAddN, mAppN, semX, mTold, mCallX, xRet, xExpr, xSet, mRaise, mM, isL, isS, mOrV, truD])
local macro_rules | `(tactic| walk_at "es") => `(tactic| simp [semF, shared, after, mSeq, mSkip, mIf, mRet, mRetN, mRetV, mSet, mSetIx, mExpr, mB, mU, mTm, mPl, mK, mVar, mOp, mCons, mNil, bor, bors, mTst, mAndT, mOrT, mNotT, mAndE, mOrE, mNotE, mIfE, mIsi, isiD, mChn, chnL, cmpD, binD, addD, subD, mulD, modD, fdivD, powD, eqD, neD, ltD, leD, gtD, geD, isD, isnD, L2.M.isNon, negD, ixD, Bf.f, Bg.f, lenD, L2.M.intD, maxD, minD, repD, strD, gmaxD, gminD, sumD, sortD, anyD, allD, mCall, frz, fzO, lend, wb, mTup, mLst, fzs, cD, mAsg, bTup, bTps, mApp, tupD, lstD, mRev, revD, ofs_inj, ee_ii, ee_ss, ee_bb, ee_nn, ee_is, ee_si, ee_in, ee_ni, ee_tt, ee_ll, ee_maps, ee_0, ee_1, ee_2, ee_3, at_lit, at_nat, at_m1, at_m2, scD, emD, sizeLine_eq, ixN, sm_lit, mSrc, itemsD, plOf, rng1D, bNm, mSl, mPt, mNoP, slD, mPar, keepT, tmsO, setA, mFlow, zipX, enumX, itemsX, intsOf, ints_all, boolsOf, shaped_lay, lay_int, lay_bool, lay_none, lay_dict, lay_tup, lay_list, lay_ints, sortX_ints, mPlF, mPlI, mRd, mPU, mPB, mFSet, mFNew, mNSet, mPApp, mPSetIx, mPPop, mMeth, mNew, isIns, cellO, mLstN, mAddN, mAppN, semX, mTold, mCallX, xRet, xExpr, xSet, mRaise, mM, isL, isS, mOrV, truD, *])
local macro_rules | `(tactic| walk_at "el") => `(tactic| simp [semF, shared, after, mSeq, mSkip, mIf, mRet, mRetN, mRetV, mSet, mSetIx, mExpr, mB, mU, mTm, mPl, mK, mVar, mOp, mCons, mNil, bor, bors, mTst, mAndT, mOrT, mNotT, mAndE, mOrE, mNotE, mIfE, mIsi, isiD, mChn, chnL, cmpD, binD, addD, subD, mulD, modD, fdivD, powD, eqD, neD, ltD, leD, gtD, geD, isD, isnD, L2.M.isNon, negD, ixD, Bf.f, Bg.f, lenD, L2.M.intD, maxD, minD, repD, strD, gmaxD, gminD, sumD, sortD, anyD, allD, mCall, frz, fzO, lend, wb, mTup, mLst, fzs, cD, mAsg, bTup, bTps, mApp, tupD, lstD, mRev, revD, ofs_inj, ee_ii, ee_ss, ee_bb, ee_nn, ee_is, ee_si, ee_in, ee_ni, ee_tt, ee_ll, ee_maps, ee_0, ee_1, ee_2, ee_3, at_lit, at_nat, at_m1, at_m2, scD, emD, sizeLine_eq, ixN, sm_lit, mSrc, itemsD, plOf, rng1D, bNm, mSl, mPt, mNoP, slD, mPar, keepT, tmsO, setA, mFlow, zipX, enumX, itemsX, intsOf, ints_all, boolsOf, shaped_lay, lay_int, lay_bool, lay_none, lay_dict, lay_tup, lay_list, lay_ints, sortX_ints, mPlF, mPlI, mRd, mPU, mPB, mFSet, mFNew, mNSet, mPApp, mPSetIx, mPPop, mMeth, mNew, isIns, cellO, mLstN, mAddN, mAppN, semX, mTold, mCallX, xRet, xExpr, xSet, mRaise, mM, isL, isS, mOrV, truD, mLc, lcL, sameC, wipeC, restC, mYes, *])
local macro_rules | `(tactic| walk_at "ef") => `(tactic| simp [semF, shared, after, mSeq, mSkip, mIf, mRet, mRetN, mRetV, mSet, mSetIx, mExpr, mB, mU, mTm, mPl, mK, mVar, mOp, mCons, mNil, bor, bors, mTst, mAndT, mOrT, mNotT, mAndE, mOrE, mNotE, mIfE, mIsi, isiD, mChn, chnL, cmpD, binD, addD, subD, mulD, modD, fdivD, powD, eqD, neD, ltD, leD, gtD, geD, isD, isnD, L2.M.isNon, negD, ixD, Bf.f, Bg.f, lenD, L2.M.intD, maxD, minD, repD, strD, gmaxD, gminD, sumD, sortD, anyD, allD, mCall, frz, fzO, lend, wb, mTup, mLst, fzs, cD, mAsg, bTup, bTps, mApp, tupD, lstD, mRev, revD, ofs_inj, ee_ii, ee_ss, ee_bb, ee_nn, ee_is, ee_si, ee_in, ee_ni, ee_tt, ee_ll, ee_maps, ee_0, ee_1, ee_2, ee_3, at_lit, at_nat, at_m1, at_m2, scD, emD, sizeLine_eq, ixN, sm_lit, mSrc, itemsD, plOf, rng1D, bNm, mSl, mPt, mNoP, slD, mPar, keepT, tmsO, setA, mFlow, zipX, enumX, itemsX, intsOf, ints_all, boolsOf, shaped_lay, lay_int, lay_bool, lay_none, lay_dict, lay_tup, lay_list, lay_ints, sortX_ints, mPlF, mPlI, mRd, mPU, mPB, mFSet, mFNew, mNSet, mPApp, mPSetIx, mPPop, mMeth, mNew, isIns, cellO, mLstN, mAddN, mAppN, semX, mTold, mCallX, xRet, xExpr, xSet, mRaise, mM, isL, isS, mOrV, truD, mFor, forL, mLc, lcL, sameC, wipeC, restC, mYes, *])
local macro_rules | `(tactic| walk_at "rg") => `(tactic| (and_intros <;> grind))
local macro_rules | `(tactic| walk_at "nx") => `(tactic| (apply wx_nx; focus (walk_at "ev"; try first | exact ⟨rfl, rfl⟩ | rfl)))
local macro_rules | `(tactic| walk_at "ns") => `(tactic| (apply wx_nx; focus (walk_at "es"; try first | exact ⟨rfl, rfl⟩ | rfl)))
local macro_rules | `(tactic| walk_at "rt") => `(tactic| (apply wx_rt; focus (walk_at "ev"; try first | exact ⟨rfl, rfl⟩ | rfl)))
local macro_rules | `(tactic| walk_at "rs") => `(tactic| (apply wx_rt; focus (walk_at "es"; try first | exact ⟨rfl, rfl⟩ | rfl)))
local macro_rules | `(tactic| walk_at "ed") => `(tactic| simp [semF, shared, after, mSeq, mSkip, mIf, mRet, mRetN, mRetV, mSet, mSetIx, mExpr, mB, mU, mTm, mPl, mK, mVar, mOp, mCons, mNil, bor, bors, mTst, mAndT, mOrT, mNotT, mAndE, mOrE, mNotE, mIfE, mIsi, isiD, mChn, chnL, cmpD, binD, addD, subD, mulD, modD, fdivD, powD, eqD, neD, ltD, leD, gtD, geD, isD, isnD, L2.M.isNon, negD, ixD, Bf.f, Bg.f, lenD, L2.M.intD, maxD, minD, repD, strD, gmaxD, gminD, sumD, sortD, anyD, allD, mCall, frz, fzO, lend, wb, mTup, mLst, fzs, cD, mAsg, bTup, bTps, mApp, tupD, lstD, mRev, revD, ofs_inj, ee_ii, ee_ss, ee_bb, ee_nn, ee_is, ee_si, ee_in, ee_ni, ee_tt, ee_ll, ee_maps, ee_0, ee_1, ee_2, ee_3, at_lit, at_nat, at_m1, at_m2, scD, emD, sizeLine_eq, ixN, sm_lit, mSrc, itemsD, plOf, rng1D, bNm, mSl, mPt, mNoP, slD, mPar, keepT, tmsO, setA, mFlow, zipX, enumX, itemsX, intsOf, ints_all, boolsOf, shaped_lay, lay_int, lay_bool, lay_none, lay_dict, lay_tup, lay_list, lay_ints, sortX_ints, mPlF, mPlI, mRd, mPU, mPB, mFSet, mFNew, mNSet, mPApp, mPSetIx, mPPop, mMeth, mNew, isIns, cellO, mLstN, mAddN, mAppN, semX, mTold, mCallX, xRet, xExpr, xSet, mRaise, mM, isL, isS, mOrV, truD, mDNew, mDIn, mDGet, mDLen, mDPut, kyD, mNNew, mN1, mTake, mFnV, mCallF, mNIn, mNGet, mNPut, mNVals, mNList, nKs, mDGetD, mDList, mNNe, *])
theorem foldA (f : List En → En → List En) (G : List En) (g : Nat → List En) (k : Nat) : ((List.range (k + 1)).flatMap g).foldl f G = (g k).foldl f (((List.range k).flatMap g).foldl f G) := by
  rw [List.range_succ, List.flatMap_append, List.foldl_append]
  simp
/-- what may stand in the table that is made -/
structure Mk (need : Int) (A : List (Int × Int)) (m : Nat) (G : List En) : Prop where
  nd : eNd G
  ok : ∀ g ∈ G, Sch need A g.2 ∧ g.2.length = m + 1 ∧ g.1 = kyI g.2
theorem Mk.len {need : Int} {A : List (Int × Int)} {m : Nat} {G : List En} (h : Mk need A m G) (hA : A.length ≤ 8) : G.length ≤ 256 := by
  have h1 := tbl_len h.nd fun e he => ⟨(h.ok e he).1, (h.ok e he).2.2⟩
  have h2 : 2 ^ A.length ≤ 2 ^ 8 := Nat.pow_le_pow_right (by decide) hA
  omega
theorem Mk.ne {need : Int} {A : List (Int × Int)} {m : Nat} {G : List En} (h : Mk need A m G) : ∀ g ∈ G, g.2 ≠ [] := fun g hg e => by
  have := (h.ok g hg).2.1
  rw [e] at this
  cases this
theorem mem_eUp {F : List En} {c x : En} (h : x ∈ eUp F c) : x ∈ F ∨ x = c := by
  unfold eUp at h
  split at h
  · rcases List.mem_append.mp h with h | h
    · exact .inl h
    · exact .inr (List.mem_singleton.mp h)
  · split at h
    · exact List.mem_or_eq_of_mem_set h
    · exact .inl h
theorem mem_fold : ∀ (cs : List En) {F : List En} {x : En}, x ∈ cs.foldl eUp F → x ∈ F ∨ x ∈ cs
  | [], F, x, h => .inl h
  | c :: cs, F, x, h => by
    rcases mem_fold cs h with h | h
    · rcases mem_eUp h with h | h
      · exact .inl h
      · exact .inr (by rw [h]; exact List.mem_cons_self)
    · exact .inr (List.mem_cons_of_mem _ h)
theorem Mk.fold {need : Int} (hn : 0 ≤ need) {A : List (Int × Int)} {m : Nat} {G : List En} (h : Mk need A m G) {e : En} (he : Sch need A e.2 ∧ e.2.length = m ∧ e.1 = kyI e.2) (k : Nat) : Mk need A m ((cand1 need A e k).foldl eUp G) := by
  refine ⟨eFold_nd _ h.nd, fun g hg => ?_⟩
  rcases mem_fold _ hg with hg | hg
  · exact h.ok g hg
  · unfold cand1 at hg
    split at hg
    · rename_i hc
      rw [List.mem_singleton.mp hg]
      exact new_ok hn he hc
    · cases hg
theorem Mk.folds {need : Int} (hn : 0 ≤ need) {A : List (Int × Int)} {m : Nat} {G : List En} (h : Mk need A m G) {e : En} (he : Sch need A e.2 ∧ e.2.length = m ∧ e.1 = kyI e.2) : ∀ k, Mk need A m (((List.range k).flatMap (cand1 need A e)).foldl eUp G)
  | 0 => h
  | k + 1 => by
    rw [foldA]
    exact (Mk.folds hn h he k).fold hn he k
theorem flatA (f : En → List En) {F : List En} {j : Nat} (h : j < F.length) : (F.take (j + 1)).flatMap f = (F.take j).flatMap f ++ f F[j] := by
  rw [List.take_succ_eq_append_getElem h, List.flatMap_append]
  simp
theorem Mk.goes {need : Int} (hn : 0 ≤ need) {A : List (Int × Int)} {m : Nat} {F : List En} (hF : ∀ e ∈ F, Sch need A e.2 ∧ e.2.length = m ∧ e.1 = kyI e.2) : ∀ i, i ≤ F.length → Mk need A m (((F.take i).flatMap (candS need A)).foldl eUp [])
  | 0, _ => ⟨by simp [eNd], fun g hg => (by cases hg)⟩
  | i + 1, hi => by
    rw [flatA _ (by omega), List.foldl_append]
    exact Mk.folds hn (Mk.goes hn hF i (by omega)) (hF _ (List.getElem_mem _)) _
theorem src_len {A : List PyData} {N : Int} (h : (A.length : Int) = N) (hN : 0 ≤ N ∧ N ≤ 1000) (c0 c2 c3 c4 c5 c6 c7 c8 c9 c10 : C) : (mSrc rng1D (mCons (mTm (mOp (Bf.f .len) (mCons (mPl 1) (mNil)))) (mNil))) [c0, .sh (.tuple A), c2, c3, c4, c5, c6, c7, c8, c9, c10] = some ((rangeD 0 1 N.toNat, []), [c0, .sh (.tuple A), c2, c3, c4, c5, c6, c7, c8, c9, c10]) := by
  have h4 : rng1D [.int N] = some (rangeD 0 1 N.toNat) := rng_nat0 N (by omega) ⟨by omega, by omega⟩
  refine src_f (d := .int N) ?_ h4
  clear hN h4
  walk_at "es"
/-- from the sets of m to those of one more -/
theorem level {need : Int} (hn : 0 ≤ need) {A : List (Int × Int)} (hA : A.length ≤ 8) {m : Nat} {F : List En} (hnd : eNd F) (hF : ∀ e ∈ F, Sch need A e.2 ∧ e.2.length = m ∧ e.1 = kyI e.2) (c3 c5 c6 c7 c8 c9 c10 : C) {Q : Fl → Cs → Prop} (hq : ∀ c5 c6 c7 c8 c9 c10, Q .nx [.sh (.int need), .sh (stD A), eF F, c3, eC (goS need A F), c5, c6, c7, c8, c9, c10]) : Wx ((mFor [0, 1] (mNSrc 2) (bNm 5) (mSeq (mSet [0, 1] 6 (mNGet 2 (mPl 5))) (mSeq (mSet [0, 1] 7 (mIfE (mTst (mB (cmpD .NotEq) (mPl 6) (mTm (mTup (mNil))))) (mB (binD .Add) (mTm (mB ixD (mTm (mB ixD (mPl 6) (mTm (mU negD (mTm (mK (.int 1))))))) (mTm (mK (.int 1))))) (mPl 0)) (mK (.int 0)))) (mSeq (mFor [0, 1] (mSrc rng1D (mCons (mTm (mOp (Bf.f .len) (mCons (mPl 1) (mNil)))) (mNil))) (bNm 8) (mSeq (mSet [0, 1] 9 (mOp (Bf.f .max) (mCons (mPl 7) (mCons (mTm (mB ixD (mTm (mB ixD (mPl 1) (mPl 8))) (mTm (mK (.int 0))))) (mNil))))) (mSeq (mIf (mAndT (mTst (mB (cmpD .NotIn) (mPl 8) (mPl 5))) (mTst (mCall [true, true, true] g_is_place (mCons (mPl 0) (mCons (mPl 1) (mCons (mTm (mTup (mCons (mPl 8) (mCons (mPl 9) (mNil))))) (mNil))))))) (mSeq (mSet [0, 1] 10 (mOp (Bf.f .tuple) (mCons (mTm (mOp sortZ (mCons (mTm (mB (binD .Add) (mPl 5) (mTm (mTup (mCons (mPl 8) (mNil)))))) (mNil)))) (mNil)))) (mSeq (mIf (mOrT (mTst (mNIn true 4 (mPl 10))) (mTst (mB (cmpD .Gt) (mTm (mB ixD (mTm (mB ixD (mTm (mNGet 4 (mPl 10))) (mTm (mU negD (mTm (mK (.int 1))))))) (mTm (mK (.int 1))))) (mPl 9)))) (mSeq (mNPut 4 (mB (binD .Add) (mPl 6) (mTm (mTup (mCons (mTm (mTup (mCons (mPl 8) (mCons (mPl 9) (mNil))))) (mNil))))) (mPl 10)) (mSkip)) (mSkip)) (mSkip))) (mSkip)) (mSkip)))) (mSkip))))) [.sh (.int need), .sh (stD A), eC F, c3, eC [], c5, c6, c7, c8, c9, c10]) Q := by
  have hF1 : (F.map fun e => (iD e.1, sqD e.2)).map (·.1) = eKs F := by unfold eKs; rw [List.map_map]; rfl
  apply wx_for (ds := eKs F) (ws := []) (ε1 := [.sh (.int need), .sh (stD A), eF F, c3, eC [], c5, c6, c7, c8, c9, c10]) fun i ε => ∃ c5 c6 c7 c8 c9 c10, ε = [.sh (.int need), .sh (stD A), eF F, c3, eC (((F.take i).flatMap (candS need A)).foldl eUp []), c5, c6, c7, c8, c9, c10]
  · exact src_e F rfl
  · rfl
  · exact ⟨_, _, _, _, _, _, by rw [List.take_zero]; rfl⟩
  · intro i ε _ j hj
    cases hj
  · rintro i d ε hd ⟨c5, c6, c7, c8, c9, c10, rfl⟩
    unfold eKs at hd
    rw [List.getElem?_map] at hd
    obtain ⟨r, hr, rfl⟩ := Option.map_eq_some_iff.mp hd
    have hi : i < F.length := (List.getElem?_eq_some_iff.mp hr).1
    have hrF := List.mem_of_getElem? hr
    have er : F[i] = r := (List.getElem?_eq_some_iff.mp hr).2
    have hix := eIx_at hnd hr
    have hM := Mk.goes hn hF i (by omega)
    rw [flatA _ hi, List.foldl_append, er]
    generalize ((F.take i).flatMap (candS need A)).foldl eUp [] = G at *
    refine ⟨[.sh (.int need), .sh (stD A), eF F, c3, eC G, .sh (iD r.1), c6, c7, c8, c9, c10], rfl, ?_⟩
    have hv : nVl (eF F) i = some (sqD r.2) := by
      show ((F.map fun e => (iD e.1, sqD e.2))[i]?).map (·.2) = _
      rw [List.getElem?_map, hr]
      rfl
    apply wx_nx (bk_get (okKey_i r.1) (by rw [hF1, idx_e, hix]) hv _ _ _ _ _ _ _ _ _)
    apply wx_nx (free_eq need r.2 _ _ _ _ _ _ _ _ _)
    have hr2 := hF r hrF
    have hlen := sch_len hr2.1
    have hkl : r.1.length ≤ 1000 := by
      rw [hr2.2.2]
      unfold kyI nms
      rw [(isort_perm _).length_eq, List.length_map]
      omega
    clear hd hv hix hr hF1
    apply wx_seq
    apply wx_rngn (n := A.length) (ε1 := [.sh (.int need), .sh (stD A), eF F, c3, eC G, .sh (iD r.1), .sh (sqD r.2), .sh (.int (fre need r.2)), c8, c9, c10]) fun k ε => ∃ c8 c9 c10, ε = [.sh (.int need), .sh (stD A), eF F, c3, eC (((List.range k).flatMap (cand1 need A r)).foldl eUp G), .sh (iD r.1), .sh (sqD r.2), .sh (.int (fre need r.2)), c8, c9, c10]
    · exact src_len (N := (A.length : Int)) (by simp) ⟨by omega, by omega⟩ _ _ _ _ _ _ _ _ _ _
    · exact ⟨_, _, _, rfl⟩
    · rintro k ε hk ⟨c8, c9, c10, rfl⟩
      have hM2 := hM.folds hn hr2 k
      refine ⟨_, rfl, bk_num (by have := hM2.len hA; omega) hM2.ne hkl (by omega) hk _ _ _ _ fun c9 c10 => ⟨.sh (.int (k : Int)), c9, c10, by rw [foldA]⟩⟩
    · rintro ε ⟨c8, c9, c10, rfl⟩
      exact wx_skip ⟨_, _, _, _, _, _, rfl⟩
  · rintro ε ⟨c5, c6, c7, c8, c9, c10, rfl⟩
    have e : (eKs F).length = F.length := by simp [eKs]
    rw [e, List.take_length]
    exact hq _ _ _ _ _ _
theorem alike_is : ∀ s t : List Int, PySem.W.alikeAll (s.map .int) (t.map .int) = true
  | [], _ => by simp [PySem.W.alikeAll]
  | x :: s, [] => by simp [PySem.W.alikeAll]
  | x :: s, y :: t => by
    rw [List.map_cons, List.map_cons, PySem.W.alikeAll, alike_is s t]
    simp [PySem.W.alike]
/-- the least key is one of them -/
theorem min_keys {F : List En} (h : F ≠ []) : ∃ e ∈ F, minT [.list (eKs F)] = some (.sh (iD e.1)) := by
  cases F with
  | nil => exact absurd rfl h
  | cons f F =>
    have h1 : SeqAt.shaped (.list (eKs (f :: F))) = true := by
      unfold eKs
      rw [shaped_lay, lay_list _ (by decide), List.all_map, List.all_eq_true]
      intro p _
      simp [iD, lay_tup, lay_int]
    have h2 : alikeB (eKs (f :: F)) = true := by
      unfold alikeB
      rw [List.all_eq_true]
      intro a ha
      obtain ⟨p, _, rfl⟩ := List.mem_map.mp ha
      rw [Bool.and_eq_true, List.all_eq_true]
      refine ⟨rfl, fun b hb => ?_⟩
      obtain ⟨r, _, rfl⟩ := List.mem_map.mp hb
      unfold iD
      rw [PySem.W.alike]
      exact alike_is _ _
    have e : minT [.list (eKs (f :: F))] = if SeqAt.shaped (.list (eKs (f :: F))) = true ∧ alikeB (eKs (f :: F)) = true then some (.sh (PySem.W.minD (iD f.1) (eKs F))) else none := rfl
    rw [e, if_pos ⟨h1, h2⟩]
    have hm := minD_mem (iD f.1) (eKs F)
    obtain ⟨g, hg, eg⟩ := List.mem_map.mp (show PySem.W.minD (iD f.1) (eKs F) ∈ (f :: F).map fun e => iD e.1 from hm)
    exact ⟨g, hg, by rw [eg]⟩
theorem bs_best {F : List En} (hnd : eNd F) (h : F ≠ []) (c0 c1 c3 c4 c5 c6 c7 c8 c9 c10 : C) : ∃ e ∈ F, (mIf (mTst (mNNe 2)) (mSeq (mSet [0, 1] 3 (mNGet 2 (mTm (mOp minT (mCons (mTm (mNList 2)) (mNil)))))) (mSkip)) (mSkip)) [c0, c1, eC F, c3, c4, c5, c6, c7, c8, c9, c10] = some (.nx, [c0, c1, eC F, .sh (sqD e.2), c4, c5, c6, c7, c8, c9, c10]) := by
  obtain ⟨e, he, hm⟩ := min_keys h
  obtain ⟨j, hj⟩ := List.mem_iff_getElem?.mp he
  have hix := eIx_at hnd hj
  have e3 : nVl (.ob (.dn (eKs F)) (eCs F)) j = some (sqD e.2) := by
    have : (eCs F)[j]? = some (.sh (sqD e.2)) := by unfold eCs; rw [List.getElem?_map, hj]; rfl
    show (match (eCs F)[j]? with
      | some (.sh d) => some d
      | _ => none) = _
    rw [this]
  have hx : idxN (eKs F) (iK e.1) = some j := (idx_e F e.1).trans hix
  have hk := okKey_i e.1
  have hne : (eKs F).isEmpty = false := by
    cases F with
    | nil => exact absurd rfl h
    | cons f F => rfl
  refine ⟨e, he, ?_⟩
  clear he hj hix h hnd
  show (mIf (mTst (mNNe 2)) (mSeq (mSet [0, 1] 3 (mNGet 2 (mTm (mOp minT (mCons (mTm (mNList 2)) (mNil)))))) (mSkip)) (mSkip)) [c0, c1, .ob (.dn (eKs F)) (eCs F), c3, c4, c5, c6, c7, c8, c9, c10] = some (.nx, [c0, c1, .ob (.dn (eKs F)) (eCs F), .sh (sqD e.2), c4, c5, c6, c7, c8, c9, c10])
  generalize eKs F = KS at *
  generalize eCs F = CS at *
  generalize iD e.1 = Z at *
  generalize sqD e.2 = V at *
  generalize minT = MT at *
  walk_at "ed"
theorem bs_none (c0 c1 c3 c4 c5 c6 c7 c8 c9 c10 : C) : (mIf (mTst (mNNe 2)) (mSeq (mSet [0, 1] 3 (mNGet 2 (mTm (mOp minT (mCons (mTm (mNList 2)) (mNil)))))) (mSkip)) (mSkip)) [c0, c1, eC [], c3, c4, c5, c6, c7, c8, c9, c10] = some (.nx, [c0, c1, eC [], c3, c4, c5, c6, c7, c8, c9, c10]) := by
  have hne : (eKs []).isEmpty = true := rfl
  show (mIf (mTst (mNNe 2)) (mSeq (mSet [0, 1] 3 (mNGet 2 (mTm (mOp minT (mCons (mTm (mNList 2)) (mNil)))))) (mSkip)) (mSkip)) [c0, c1, .ob (.dn (eKs [])) (eCs []), c3, c4, c5, c6, c7, c8, c9, c10] = some (.nx, [c0, c1, .ob (.dn (eKs [])) (eCs []), c3, c4, c5, c6, c7, c8, c9, c10])
  generalize eKs [] = KS at *
  generalize eCs [] = CS at *
  generalize minT = MT at *
  walk_at "ed"
theorem bs_ne (F : List En) (c0 c1 c3 c4 c5 c6 c7 c8 c9 c10 : C) : mTst (mNNe 2) [c0, c1, eC F, c3, c4, c5, c6, c7, c8, c9, c10] = some (!F.isEmpty, [c0, c1, eC F, c3, c4, c5, c6, c7, c8, c9, c10]) := by
  have hne : (eKs F).isEmpty = F.isEmpty := by cases F <;> rfl
  show mTst (mNNe 2) [c0, c1, .ob (.dn (eKs F)) (eCs F), c3, c4, c5, c6, c7, c8, c9, c10] = some (!F.isEmpty, [c0, c1, .ob (.dn (eKs F)) (eCs F), c3, c4, c5, c6, c7, c8, c9, c10])
  rw [← hne]
  generalize eKs F = KS at *
  generalize eCs F = CS at *
  clear hne
  walk_at "ed"
/-- the schedule with as many askings as can be -/
theorem best_schedule_eq {need : Int} (hn : 0 ≤ need) {A : List (Int × Int)} (hA : A.length ≤ 8) (hA0 : ∀ p ∈ A, 0 ≤ p.1) : ∃ q, BestS need A q ∧ g_best_schedule [.sh (.int need), .sh (stD A)] = some (.sh (sqD q), [.sh (.int need), .sh (stD A)]) := by
  have main : Rt (g_best_schedule [.sh (.int need), .sh (stD A)]) fun c cs => ∃ q, BestS need A q ∧ c = .sh (sqD q) ∧ cs = [.sh (.int need), .sh (stD A)] := by
    unfold g_best_schedule m_best_schedule
    apply rt_sem rfl
    apply wx_nx (ε1 := [.sh (.int need), .sh (stD A), eC [([], [])], .no, .no, .no, .no, .no, .no, .no, .no])
    · show _ = some (Fl.nx, ([.sh (.int need), .sh (stD A), .ob (.dn [.tuple []]) [.sh (.tuple [])], .no, .no, .no, .no, .no, .no, .no, .no] : Cs))
      have hk : okKey (.tuple []) = some (iK []) := okKey_i []
      generalize stD A = Y
      clear hA hA0 hn
      walk_at "ed"
    apply wx_nx (ε1 := [.sh (.int need), .sh (stD A), eC [([], [])], .sh (.tuple []), .no, .no, .no, .no, .no, .no, .no])
    · show _ = some (Fl.nx, ([.sh (.int need), .sh (stD A), eC [([], [])], .sh (.tuple []), .no, .no, .no, .no, .no, .no, .no] : Cs))
      generalize stD A = Y
      generalize eC [([], [])] = X
      clear hA hA0 hn
      walk_at "ev"
    apply wx_seq
    apply wx_while (fun mm ε => ∃ (m : Nat) (F : List En) (q : Sq) (c4 c5 c6 c7 c8 c9 c10 : C), ε = [.sh (.int need), .sh (stD A), eC F, .sh (sqD q), c4, c5, c6, c7, c8, c9, c10] ∧ eNd F ∧ InvS need A m F ∧ mm + m = A.length + 2 ∧ (F ≠ [] → Sch need A q ∧ q.length = m) ∧ (F = [] → BestS need A q)) (A.length + 2) ⟨0, [([], [])], [], _, _, _, _, _, _, _, rfl, by simp [eNd], invS_0 need A, by omega, fun _ => ⟨sch_nil _ _, rfl⟩, fun h => by cases h⟩
    rintro mm ε ⟨m, F, q, c4, c5, c6, c7, c8, c9, c10, rfl, hnd, hI, hmm, h1, h2⟩
    refine ⟨!F.isEmpty, _, bs_ne F _ _ _ _ _ _ _ _ _ _, fun h => ?_, fun h => ?_⟩
    · have e : F = [] := by simpa using h
      have hB := h2 e
      apply wx_rt (c := .sh (sqD q)) (ε1 := [.sh (.int need), .sh (stD A), eC F, .sh (sqD q), c4, c5, c6, c7, c8, c9, c10])
      · generalize stD A = Y
        generalize eC F = X
        generalize sqD q = V
        clear hA hA0 hn hnd hI hmm h1 h2 h e hB
        walk_at "ev"
      exact ⟨q, hB, rfl, rfl⟩
    · have hne : F ≠ [] := by
        intro e
        rw [e] at h
        simp at h
      obtain ⟨s1, s2⟩ := h1 hne
      have hml := sch_len s1
      have hF := hI.1
      have hI2 := invS_s hn hA0 hI (goS_cov need A F)
      have hnd2 : eNd (goS need A F) := eFold_nd _ (by simp [eNd])
      apply wx_nx (ε1 := [.sh (.int need), .sh (stD A), eC F, .sh (sqD q), eC [], c5, c6, c7, c8, c9, c10])
      · rfl
      apply wx_seq
      apply level hn hA hnd hF
      intro c5 c6 c7 c8 c9 c10
      apply wx_nx (ε1 := [.sh (.int need), .sh (stD A), eC (goS need A F), .sh (sqD q), .no, c5, c6, c7, c8, c9, c10])
      · rfl
      by_cases z : goS need A F = []
      · rw [z] at hI2 ⊢
        apply wx_nx (bs_none _ _ _ _ _ _ _ _ _ _)
        exact wx_skip ⟨A.length + 2 - (m + 1), by omega, m + 1, [], q, _, _, _, _, _, _, _, rfl, by simp [eNd], hI2, by omega, fun h => absurd rfl h, fun _ => best_end hI2 s1 s2⟩
      · obtain ⟨e, he, hb⟩ := bs_best hnd2 z (.sh (.int need)) (.sh (stD A)) (.sh (sqD q)) .no c5 c6 c7 c8 c9 c10
        apply wx_nx hb
        exact wx_skip ⟨A.length + 2 - (m + 1), by omega, m + 1, _, e.2, _, _, _, _, _, _, _, rfl, hnd2, hI2, by omega, fun _ => ⟨(hI2.1 e he).1, (hI2.1 e he).2.1⟩, fun h => absurd h z⟩
  obtain ⟨c, cs, e, q, hB, rfl, rfl⟩ := main
  exact ⟨q, hB, e⟩
theorem most_served_eq {need : Int} {A : List (Int × Int)} {q : Sq} (e : g_best_schedule [.sh (.int need), .sh (stD A)] = some (.sh (sqD q), [.sh (.int need), .sh (stD A)])) : g_most_served [.sh (.int need), .sh (stD A)] = some (.sh (.int (q.length : Int)), [.sh (.int need), .sh (stD A)]) := by
  have hl : (q.map prN).length = q.length := List.length_map _
  unfold sqD at e
  unfold g_most_served m_most_served
  generalize g_best_schedule = G at *
  generalize stD A = Y at *
  generalize q.map prN = Z at *
  rw [← hl]
  clear hl
  walk_at "es"
theorem schedule_for_eq {need : Int} {A : List (Int × Int)} {q : Sq} (e : g_best_schedule [.sh (.int need), .sh (stD A)] = some (.sh (sqD q), [.sh (.int need), .sh (stD A)])) : g_schedule_for [.sh (.int need), .sh (stD A)] = some (.sh (sqD q), [.sh (.int need), .sh (stD A)]) := by
  unfold g_schedule_for m_schedule_for
  generalize g_best_schedule = G at *
  generalize stD A = Y at *
  generalize sqD q = Z at *
  walk_at "es"
end KW
namespace KW
open PySem PySem.Spec PyProof.Rows L2 L2.M
local macro_rules | `(tactic| walk_at "ev") => `(tactic| simp [semF, shared, after, mSeq, mSkip, mIf, mRet, mRetN, mRetV, mSet, mSetIx, mExpr, mB, mU, mTm, mPl, mK, mVar, mOp, mCons, mNil, bor, bors, mTst, mAndT, mOrT, mNotT, mAndE, mOrE, mNotE, mIfE, mIsi, isiD, mChn, chnL, cmpD, binD, addD, subD, mulD, modD, fdivD, powD, eqD, neD, ltD, leD, gtD, geD, isD, isnD, L2.M.isNon, negD, ixD, Bf.f, Bg.f, lenD, L2.M.intD, maxD, minD, repD, strD, gmaxD, gminD, sumD, sortD, anyD, allD, mCall, frz, fzO, lend, wb, mTup, mLst, fzs, cD, mAsg, bTup, bTps, mApp, tupD, lstD, mRev, revD, ofs_inj, ee_ii, ee_ss, ee_bb, ee_nn, ee_is, ee_si, ee_in, ee_ni, ee_tt, ee_ll, ee_maps, ee_0, ee_1, ee_2, ee_3, at_lit, at_nat, at_m1, at_m2, scD, emD, sizeLine_eq, ixN, sm_lit, mSrc, itemsD, plOf, rng1D, bNm, mSl, mPt, mNoP, slD, mPar, keepT, tmsO, setA, mFlow, zipX, enumX, itemsX, intsOf, ints_all, boolsOf, shaped_lay, lay_int, lay_bool, lay_none, lay_dict, lay_tup, lay_list, lay_ints, sortX_ints, mPlF, mPlI, mRd, mPU, mPB, mFSet, mFNew, mNSet, mPApp, mPSetIx, mPPop, mMeth, mNew, isIns, cellO, mLstN, mAddN, mAppN, semX, mTold, mCallX, xRet, xExpr, xSet, mRaise, mM, isL, isS, mOrV, truD])
local macro_rules | `(tactic| walk_at "es") => `(tactic| simp [semF, shared, after, mSeq, mSkip, mIf, mRet, mRetN, mRetV, mSet, mSetIx, mExpr, mB, mU, mTm, mPl, mK, mVar, mOp, mCons, mNil, bor, bors, mTst, mAndT, mOrT, mNotT, mAndE, mOrE, mNotE, mIfE, mIsi, isiD, mChn, chnL, cmpD, binD, addD, subD, mulD, modD, fdivD, powD, eqD, neD, ltD, leD, gtD, geD, isD, isnD, L2.M.isNon, negD, ixD, Bf.f, Bg.f, lenD, L2.M.intD, maxD, minD, repD, strD, gmaxD, gminD, sumD, sortD, anyD, allD, mCall, frz, fzO, lend, wb, mTup, mLst, fzs, cD, mAsg, bTup, bTps, mApp, tupD, lstD, mRev, revD, ofs_inj, ee_ii, ee_ss, ee_bb, ee_nn, ee_is, ee_si, ee_in, ee_ni, ee_tt, ee_ll, ee_maps, ee_0, ee_1, ee_2, ee_3, at_lit, at_nat, at_m1, at_m2, scD, emD, sizeLine_eq, ixN, sm_lit, mSrc, itemsD, plOf, rng1D, bNm, mSl, mPt, mNoP, slD, mPar, keepT, tmsO, setA, mFlow, zipX, enumX, itemsX, intsOf, ints_all, boolsOf, shaped_lay, lay_int, lay_bool, lay_none, lay_dict, lay_tup, lay_list, lay_ints, sortX_ints, mPlF, mPlI, mRd, mPU, mPB, mFSet, mFNew, mNSet, mPApp, mPSetIx, mPPop, mMeth, mNew, isIns, cellO, mLstN, mAddN, mAppN, semX, mTold, mCallX, xRet, xExpr, xSet, mRaise, mM, isL, isS, mOrV, truD, *])
local macro_rules | `(tactic| walk_at "el") => `(tactic| simp [semF, shared, after, mSeq, mSkip, mIf, mRet, mRetN, mRetV, mSet, mSetIx, mExpr, mB, mU, mTm, mPl, mK, mVar, mOp, mCons, mNil, bor, bors, mTst, mAndT, mOrT, mNotT, mAndE, mOrE, mNotE, mIfE, mIsi, isiD, mChn, chnL, cmpD, binD, addD, subD, mulD, modD, fdivD, powD, eqD, neD, ltD, leD, gtD, geD, isD, isnD, L2.M.isNon, negD, ixD, Bf.f, Bg.f, lenD, L2.M.intD, maxD, minD, repD, strD, gmaxD, gminD, sumD, sortD, anyD, allD, mCall, frz, fzO, lend, wb, mTup, mLst, fzs, cD, mAsg, bTup, bTps, mApp, tupD, lstD, mRev, revD, ofs_inj, ee_ii, ee_ss, ee_bb, ee_nn, ee_is, ee_si, ee_in, ee_ni, ee_tt, ee_ll, ee_maps, ee_0, ee_1, ee_2, ee_3, at_lit, at_nat, at_m1, at_m2, scD, emD, sizeLine_eq, ixN, sm_lit, mSrc, itemsD, plOf, rng1D, bNm, mSl, mPt, mNoP, slD, mPar, keepT, tmsO, setA, mFlow, zipX, enumX, itemsX, intsOf, ints_all, boolsOf, shaped_lay, lay_int, lay_bool, lay_none, lay_dict, lay_tup, lay_list, lay_ints, sortX_ints, mPlF, mPlI, mRd, mPU, mPB, mFSet, mFNew, mNSet, mPApp, mPSetIx, mPPop, mMeth, mNew, isIns, cellO, mLstN, mAddN, mAppN, semX, mTold, mCallX, xRet, xExpr, xSet, mRaise, mM, isL, isS, mOrV, truD, mLc, lcL, sameC, wipeC, restC, mYes, *])
local macro_rules | `(tactic| walk_at "ef") => `(tactic| simp [semF, shared, after, mSeq, mSkip, mIf, mRet, mRetN, mRetV, mSet, mSetIx, mExpr, mB, mU, mTm, mPl, mK, mVar, mOp, mCons, mNil, bor, bors, mTst, mAndT, mOrT, mNotT, mAndE, mOrE, mNotE, mIfE, mIsi, isiD, mChn, chnL, cmpD, binD, addD, subD, mulD, modD, fdivD, powD, eqD, neD, ltD, leD, gtD, geD, isD, isnD, L2.M.isNon, negD, ixD, Bf.f, Bg.f, lenD, L2.M.intD, maxD, minD, repD, strD, gmaxD, gminD, sumD, sortD, anyD, allD, mCall, frz, fzO, lend, wb, mTup, mLst, fzs, cD, mAsg, bTup, bTps, mApp, tupD, lstD, mRev, revD, ofs_inj, ee_ii, ee_ss, ee_bb, ee_nn, ee_is, ee_si, ee_in, ee_ni, ee_tt, ee_ll, ee_maps, ee_0, ee_1, ee_2, ee_3, at_lit, at_nat, at_m1, at_m2, scD, emD, sizeLine_eq, ixN, sm_lit, mSrc, itemsD, plOf, rng1D, bNm, mSl, mPt, mNoP, slD, mPar, keepT, tmsO, setA, mFlow, zipX, enumX, itemsX, intsOf, ints_all, boolsOf, shaped_lay, lay_int, lay_bool, lay_none, lay_dict, lay_tup, lay_list, lay_ints, sortX_ints, mPlF, mPlI, mRd, mPU, mPB, mFSet, mFNew, mNSet, mPApp, mPSetIx, mPPop, mMeth, mNew, isIns, cellO, mLstN, mAddN, mAppN, semX, mTold, mCallX, xRet, xExpr, xSet, mRaise, mM, isL, isS, mOrV, truD, mFor, forL, mLc, lcL, sameC, wipeC, restC, mYes, *])
local macro_rules | `(tactic| walk_at "rg") => `(tactic| (and_intros <;> grind))
local macro_rules | `(tactic| walk_at "nx") => `(tactic| (apply wx_nx; focus (walk_at "ev"; try first | exact ⟨rfl, rfl⟩ | rfl)))
local macro_rules | `(tactic| walk_at "ns") => `(tactic| (apply wx_nx; focus (walk_at "es"; try first | exact ⟨rfl, rfl⟩ | rfl)))
local macro_rules | `(tactic| walk_at "rt") => `(tactic| (apply wx_rt; focus (walk_at "ev"; try first | exact ⟨rfl, rfl⟩ | rfl)))
local macro_rules | `(tactic| walk_at "rs") => `(tactic| (apply wx_rt; focus (walk_at "es"; try first | exact ⟨rfl, rfl⟩ | rfl)))
local macro_rules | `(tactic| walk_at "ed") => `(tactic| simp [semF, shared, after, mSeq, mSkip, mIf, mRet, mRetN, mRetV, mSet, mSetIx, mExpr, mB, mU, mTm, mPl, mK, mVar, mOp, mCons, mNil, bor, bors, mTst, mAndT, mOrT, mNotT, mAndE, mOrE, mNotE, mIfE, mIsi, isiD, mChn, chnL, cmpD, binD, addD, subD, mulD, modD, fdivD, powD, eqD, neD, ltD, leD, gtD, geD, isD, isnD, L2.M.isNon, negD, ixD, Bf.f, Bg.f, lenD, L2.M.intD, maxD, minD, repD, strD, gmaxD, gminD, sumD, sortD, anyD, allD, mCall, frz, fzO, lend, wb, mTup, mLst, fzs, cD, mAsg, bTup, bTps, mApp, tupD, lstD, mRev, revD, ofs_inj, ee_ii, ee_ss, ee_bb, ee_nn, ee_is, ee_si, ee_in, ee_ni, ee_tt, ee_ll, ee_maps, ee_0, ee_1, ee_2, ee_3, at_lit, at_nat, at_m1, at_m2, scD, emD, sizeLine_eq, ixN, sm_lit, mSrc, itemsD, plOf, rng1D, bNm, mSl, mPt, mNoP, slD, mPar, keepT, tmsO, setA, mFlow, zipX, enumX, itemsX, intsOf, ints_all, boolsOf, shaped_lay, lay_int, lay_bool, lay_none, lay_dict, lay_tup, lay_list, lay_ints, sortX_ints, mPlF, mPlI, mRd, mPU, mPB, mFSet, mFNew, mNSet, mPApp, mPSetIx, mPPop, mMeth, mNew, isIns, cellO, mLstN, mAddN, mAppN, semX, mTold, mCallX, xRet, xExpr, xSet, mRaise, mM, isL, isS, mOrV, truD, mDNew, mDIn, mDGet, mDLen, mDPut, kyD, mNNew, mN1, mTake, mFnV, mCallF, mNIn, mNGet, mNPut, mNVals, mNList, nKs, mDGetD, mDList, mNNe, *])
@[simp] theorem next_eq (s : Int) : g_law_next [.sh (.int s)] = some (.sh (.int (nxt s)), [.sh (.int s)]) := by
  have h1 : sm ((s + 7919) % 2147483647) := ⟨by omega, by omega⟩
  unfold g_law_next m_law_next nxt
  walk_at "es"
theorem cell_eq (ns : List Int) (k : Nat) : g_law_cell_at [.sh (.list (ns.map PyData.int)), .sh (.int k)] = some (.sh (.int (ns.getD k 0)), [.sh (.list (ns.map PyData.int)), .sh (.int k)]) := by
  unfold g_law_cell_at m_law_cell_at
  by_cases h : k < ns.length
  · walk_at "es"
  · walk_at "es"
@[simp] theorem cell0_eq (ns : List Int) : g_law_cell_at [.sh (.list (ns.map PyData.int)), .sh (.int 0)] = some (.sh (.int (ns.getD 0 0)), [.sh (.list (ns.map PyData.int)), .sh (.int 0)]) := cell_eq ns 0
@[simp] theorem pen_eq (x : Int) : g_law_pen_of [.sh (.int x)] = some (.ls (penL (pnOf x)), [.sh (.int x)]) := by
  unfold g_law_pen_of m_law_pen_of pnOf penL
  walk_at "es"
@[simp] theorem draw_eq (p : Pn) (n : Int) (h0 : 0 < n) (h1 : sm n) : g_law_draw [.ls (penL p), .sh (.int n)] = some (.sh (.int (dr p n)), [.ls (penL (dn p n)), .sh (.int n)]) := by
  unfold g_law_draw m_law_draw dr dn penL
  by_cases hb : p.b = 1
  · by_cases hl : 0 < p.l
    · walk_at "es"
    · walk_at "es"
  · walk_at "es"
/-- the cells that a law goes through: the script's first ones -/
theorem cells_int (ns : List Int) (k : Int) (d : PyData) (h : d ∈ (PyData.int (ns.getD 0 0)) :: (L2.M.cutL ns (some 1) (some k)).map PyData.int) : ∃ x, d = .int x := by
  simp only [List.mem_cons, List.mem_map] at h
  rcases h with h | ⟨y, _, h⟩
  · exact ⟨_, h⟩
  · exact ⟨_, h.symm⟩
end KW
namespace KW
open PySem PySem.Spec PyProof.Rows L2 L2.M
local macro_rules | `(tactic| walk_at "ev") => `(tactic| simp [semF, shared, after, mSeq, mSkip, mIf, mRet, mRetN, mRetV, mSet, mSetIx, mExpr, mB, mU, mTm, mPl, mK, mVar, mOp, mCons, mNil, bor, bors, mTst, mAndT, mOrT, mNotT, mAndE, mOrE, mNotE, mIfE, mIsi, isiD, mChn, chnL, cmpD, binD, addD, subD, mulD, modD, fdivD, powD, eqD, neD, ltD, leD, gtD, geD, isD, isnD, L2.M.isNon, negD, ixD, Bf.f, Bg.f, lenD, L2.M.intD, maxD, minD, repD, strD, gmaxD, gminD, sumD, sortD, anyD, allD, mCall, frz, fzO, lend, wb, mTup, mLst, fzs, cD, mAsg, bTup, bTps, mApp, tupD, lstD, mRev, revD, ofs_inj, ee_ii, ee_ss, ee_bb, ee_nn, ee_is, ee_si, ee_in, ee_ni, ee_tt, ee_ll, ee_maps, ee_0, ee_1, ee_2, ee_3, at_lit, at_nat, at_m1, at_m2, scD, emD, sizeLine_eq, ixN, sm_lit, mSrc, itemsD, plOf, rng1D, bNm, mSl, mPt, mNoP, slD, mPar, keepT, tmsO, setA, mFlow, zipX, enumX, itemsX, intsOf, ints_all, boolsOf, shaped_lay, lay_int, lay_bool, lay_none, lay_dict, lay_tup, lay_list, lay_ints, sortX_ints, mPlF, mPlI, mRd, mPU, mPB, mFSet, mFNew, mNSet, mPApp, mPSetIx, mPPop, mMeth, mNew, isIns, cellO, mLstN, mAddN, mAppN, semX, mTold, mCallX, xRet, xExpr, xSet, mRaise, mM, isL, isS, mOrV, truD])
local macro_rules | `(tactic| walk_at "es") => `(tactic| simp [semF, shared, after, mSeq, mSkip, mIf, mRet, mRetN, mRetV, mSet, mSetIx, mExpr, mB, mU, mTm, mPl, mK, mVar, mOp, mCons, mNil, bor, bors, mTst, mAndT, mOrT, mNotT, mAndE, mOrE, mNotE, mIfE, mIsi, isiD, mChn, chnL, cmpD, binD, addD, subD, mulD, modD, fdivD, powD, eqD, neD, ltD, leD, gtD, geD, isD, isnD, L2.M.isNon, negD, ixD, Bf.f, Bg.f, lenD, L2.M.intD, maxD, minD, repD, strD, gmaxD, gminD, sumD, sortD, anyD, allD, mCall, frz, fzO, lend, wb, mTup, mLst, fzs, cD, mAsg, bTup, bTps, mApp, tupD, lstD, mRev, revD, ofs_inj, ee_ii, ee_ss, ee_bb, ee_nn, ee_is, ee_si, ee_in, ee_ni, ee_tt, ee_ll, ee_maps, ee_0, ee_1, ee_2, ee_3, at_lit, at_nat, at_m1, at_m2, scD, emD, sizeLine_eq, ixN, sm_lit, mSrc, itemsD, plOf, rng1D, bNm, mSl, mPt, mNoP, slD, mPar, keepT, tmsO, setA, mFlow, zipX, enumX, itemsX, intsOf, ints_all, boolsOf, shaped_lay, lay_int, lay_bool, lay_none, lay_dict, lay_tup, lay_list, lay_ints, sortX_ints, mPlF, mPlI, mRd, mPU, mPB, mFSet, mFNew, mNSet, mPApp, mPSetIx, mPPop, mMeth, mNew, isIns, cellO, mLstN, mAddN, mAppN, semX, mTold, mCallX, xRet, xExpr, xSet, mRaise, mM, isL, isS, mOrV, truD, *])
local macro_rules | `(tactic| walk_at "el") => `(tactic| simp [semF, shared, after, mSeq, mSkip, mIf, mRet, mRetN, mRetV, mSet, mSetIx, mExpr, mB, mU, mTm, mPl, mK, mVar, mOp, mCons, mNil, bor, bors, mTst, mAndT, mOrT, mNotT, mAndE, mOrE, mNotE, mIfE, mIsi, isiD, mChn, chnL, cmpD, binD, addD, subD, mulD, modD, fdivD, powD, eqD, neD, ltD, leD, gtD, geD, isD, isnD, L2.M.isNon, negD, ixD, Bf.f, Bg.f, lenD, L2.M.intD, maxD, minD, repD, strD, gmaxD, gminD, sumD, sortD, anyD, allD, mCall, frz, fzO, lend, wb, mTup, mLst, fzs, cD, mAsg, bTup, bTps, mApp, tupD, lstD, mRev, revD, ofs_inj, ee_ii, ee_ss, ee_bb, ee_nn, ee_is, ee_si, ee_in, ee_ni, ee_tt, ee_ll, ee_maps, ee_0, ee_1, ee_2, ee_3, at_lit, at_nat, at_m1, at_m2, scD, emD, sizeLine_eq, ixN, sm_lit, mSrc, itemsD, plOf, rng1D, bNm, mSl, mPt, mNoP, slD, mPar, keepT, tmsO, setA, mFlow, zipX, enumX, itemsX, intsOf, ints_all, boolsOf, shaped_lay, lay_int, lay_bool, lay_none, lay_dict, lay_tup, lay_list, lay_ints, sortX_ints, mPlF, mPlI, mRd, mPU, mPB, mFSet, mFNew, mNSet, mPApp, mPSetIx, mPPop, mMeth, mNew, isIns, cellO, mLstN, mAddN, mAppN, semX, mTold, mCallX, xRet, xExpr, xSet, mRaise, mM, isL, isS, mOrV, truD, mLc, lcL, sameC, wipeC, restC, mYes, *])
local macro_rules | `(tactic| walk_at "ef") => `(tactic| simp [semF, shared, after, mSeq, mSkip, mIf, mRet, mRetN, mRetV, mSet, mSetIx, mExpr, mB, mU, mTm, mPl, mK, mVar, mOp, mCons, mNil, bor, bors, mTst, mAndT, mOrT, mNotT, mAndE, mOrE, mNotE, mIfE, mIsi, isiD, mChn, chnL, cmpD, binD, addD, subD, mulD, modD, fdivD, powD, eqD, neD, ltD, leD, gtD, geD, isD, isnD, L2.M.isNon, negD, ixD, Bf.f, Bg.f, lenD, L2.M.intD, maxD, minD, repD, strD, gmaxD, gminD, sumD, sortD, anyD, allD, mCall, frz, fzO, lend, wb, mTup, mLst, fzs, cD, mAsg, bTup, bTps, mApp, tupD, lstD, mRev, revD, ofs_inj, ee_ii, ee_ss, ee_bb, ee_nn, ee_is, ee_si, ee_in, ee_ni, ee_tt, ee_ll, ee_maps, ee_0, ee_1, ee_2, ee_3, at_lit, at_nat, at_m1, at_m2, scD, emD, sizeLine_eq, ixN, sm_lit, mSrc, itemsD, plOf, rng1D, bNm, mSl, mPt, mNoP, slD, mPar, keepT, tmsO, setA, mFlow, zipX, enumX, itemsX, intsOf, ints_all, boolsOf, shaped_lay, lay_int, lay_bool, lay_none, lay_dict, lay_tup, lay_list, lay_ints, sortX_ints, mPlF, mPlI, mRd, mPU, mPB, mFSet, mFNew, mNSet, mPApp, mPSetIx, mPPop, mMeth, mNew, isIns, cellO, mLstN, mAddN, mAppN, semX, mTold, mCallX, xRet, xExpr, xSet, mRaise, mM, isL, isS, mOrV, truD, mFor, forL, mLc, lcL, sameC, wipeC, restC, mYes, *])
local macro_rules | `(tactic| walk_at "rg") => `(tactic| (and_intros <;> grind))
local macro_rules | `(tactic| walk_at "nx") => `(tactic| (apply wx_nx; focus (walk_at "ev"; try first | exact ⟨rfl, rfl⟩ | rfl)))
local macro_rules | `(tactic| walk_at "ns") => `(tactic| (apply wx_nx; focus (walk_at "es"; try first | exact ⟨rfl, rfl⟩ | rfl)))
local macro_rules | `(tactic| walk_at "rt") => `(tactic| (apply wx_rt; focus (walk_at "ev"; try first | exact ⟨rfl, rfl⟩ | rfl)))
local macro_rules | `(tactic| walk_at "rs") => `(tactic| (apply wx_rt; focus (walk_at "es"; try first | exact ⟨rfl, rfl⟩ | rfl)))
local macro_rules | `(tactic| walk_at "ed") => `(tactic| simp [semF, shared, after, mSeq, mSkip, mIf, mRet, mRetN, mRetV, mSet, mSetIx, mExpr, mB, mU, mTm, mPl, mK, mVar, mOp, mCons, mNil, bor, bors, mTst, mAndT, mOrT, mNotT, mAndE, mOrE, mNotE, mIfE, mIsi, isiD, mChn, chnL, cmpD, binD, addD, subD, mulD, modD, fdivD, powD, eqD, neD, ltD, leD, gtD, geD, isD, isnD, L2.M.isNon, negD, ixD, Bf.f, Bg.f, lenD, L2.M.intD, maxD, minD, repD, strD, gmaxD, gminD, sumD, sortD, anyD, allD, mCall, frz, fzO, lend, wb, mTup, mLst, fzs, cD, mAsg, bTup, bTps, mApp, tupD, lstD, mRev, revD, ofs_inj, ee_ii, ee_ss, ee_bb, ee_nn, ee_is, ee_si, ee_in, ee_ni, ee_tt, ee_ll, ee_maps, ee_0, ee_1, ee_2, ee_3, at_lit, at_nat, at_m1, at_m2, scD, emD, sizeLine_eq, ixN, sm_lit, mSrc, itemsD, plOf, rng1D, bNm, mSl, mPt, mNoP, slD, mPar, keepT, tmsO, setA, mFlow, zipX, enumX, itemsX, intsOf, ints_all, boolsOf, shaped_lay, lay_int, lay_bool, lay_none, lay_dict, lay_tup, lay_list, lay_ints, sortX_ints, mPlF, mPlI, mRd, mPU, mPB, mFSet, mFNew, mNSet, mPApp, mPSetIx, mPPop, mMeth, mNew, isIns, cellO, mLstN, mAddN, mAppN, semX, mTold, mCallX, xRet, xExpr, xSet, mRaise, mM, isL, isS, mOrV, truD, mDNew, mDIn, mDGet, mDLen, mDPut, kyD, mNNew, mN1, mTake, mFnV, mCallF, mNIn, mNGet, mNPut, mNVals, mNList, nKs, mDGetD, mDList, mNNe, *])
theorem law_odd_eq (p : Pn) : Rt (g_law_odd [.ls (penL p)]) fun c cs => ∃ d q, Sml d ∧ c = .sh d ∧ cs = [.ls (penL q)] := by
  unfold g_law_odd m_law_odd
  apply rt_sem rfl
  walk_at "nx"
  generalize hL : (PyData.none :: _) = L
  have hl : L.length = 16 := by
    subst hL
    rfl
  have hs : ∀ d ∈ L, Sml d := by
    subst hL
    simp [Sml]
  obtain ⟨d, hm, hd⟩ := at_dr (xs := L) (p := p) (n := 16) (by decide) (by omega)
  replace hm := Hid.mk (hs d hm)
  clear hL hs
  apply wx_rt (c := .sh d) (ε1 := [.ls (penL (dn p 16)), .ls L])
  · walk_at "es"
  exact ⟨d, _, hm.get, rfl, rfl⟩
end KW
namespace KW
open PySem PySem.Spec PyProof.Rows L2 L2.M
local macro_rules | `(tactic| walk_at "ev") => `(tactic| simp [semF, shared, after, mSeq, mSkip, mIf, mRet, mRetN, mRetV, mSet, mSetIx, mExpr, mB, mU, mTm, mPl, mK, mVar, mOp, mCons, mNil, bor, bors, mTst, mAndT, mOrT, mNotT, mAndE, mOrE, mNotE, mIfE, mIsi, isiD, mChn, chnL, cmpD, binD, addD, subD, mulD, modD, fdivD, powD, eqD, neD, ltD, leD, gtD, geD, isD, isnD, L2.M.isNon, negD, ixD, Bf.f, Bg.f, lenD, L2.M.intD, maxD, minD, repD, strD, gmaxD, gminD, sumD, sortD, anyD, allD, mCall, frz, fzO, lend, wb, mTup, mLst, fzs, cD, mAsg, bTup, bTps, mApp, tupD, lstD, mRev, revD, ofs_inj, ee_ii, ee_ss, ee_bb, ee_nn, ee_is, ee_si, ee_in, ee_ni, ee_tt, ee_ll, ee_maps, ee_0, ee_1, ee_2, ee_3, at_lit, at_nat, at_m1, at_m2, scD, emD, sizeLine_eq, ixN, sm_lit, mSrc, itemsD, plOf, rng1D, bNm, mSl, mPt, mNoP, slD, mPar, keepT, tmsO, setA, mFlow, zipX, enumX, itemsX, intsOf, ints_all, boolsOf, shaped_lay, lay_int, lay_bool, lay_none, lay_dict, lay_tup, lay_list, lay_ints, sortX_ints, mPlF, mPlI, mRd, mPU, mPB, mFSet, mFNew, mNSet, mPApp, mPSetIx, mPPop, mMeth, mNew, isIns, cellO, mLstN, mAddN, mAppN, semX, mTold, mCallX, xRet, xExpr, xSet, mRaise, mM, isL, isS, mOrV, truD])
local macro_rules | `(tactic| walk_at "es") => `(tactic| simp [semF, shared, after, mSeq, mSkip, mIf, mRet, mRetN, mRetV, mSet, mSetIx, mExpr, mB, mU, mTm, mPl, mK, mVar, mOp, mCons, mNil, bor, bors, mTst, mAndT, mOrT, mNotT, mAndE, mOrE, mNotE, mIfE, mIsi, isiD, mChn, chnL, cmpD, binD, addD, subD, mulD, modD, fdivD, powD, eqD, neD, ltD, leD, gtD, geD, isD, isnD, L2.M.isNon, negD, ixD, Bf.f, Bg.f, lenD, L2.M.intD, maxD, minD, repD, strD, gmaxD, gminD, sumD, sortD, anyD, allD, mCall, frz, fzO, lend, wb, mTup, mLst, fzs, cD, mAsg, bTup, bTps, mApp, tupD, lstD, mRev, revD, ofs_inj, ee_ii, ee_ss, ee_bb, ee_nn, ee_is, ee_si, ee_in, ee_ni, ee_tt, ee_ll, ee_maps, ee_0, ee_1, ee_2, ee_3, at_lit, at_nat, at_m1, at_m2, scD, emD, sizeLine_eq, ixN, sm_lit, mSrc, itemsD, plOf, rng1D, bNm, mSl, mPt, mNoP, slD, mPar, keepT, tmsO, setA, mFlow, zipX, enumX, itemsX, intsOf, ints_all, boolsOf, shaped_lay, lay_int, lay_bool, lay_none, lay_dict, lay_tup, lay_list, lay_ints, sortX_ints, mPlF, mPlI, mRd, mPU, mPB, mFSet, mFNew, mNSet, mPApp, mPSetIx, mPPop, mMeth, mNew, isIns, cellO, mLstN, mAddN, mAppN, semX, mTold, mCallX, xRet, xExpr, xSet, mRaise, mM, isL, isS, mOrV, truD, *])
local macro_rules | `(tactic| walk_at "el") => `(tactic| simp [semF, shared, after, mSeq, mSkip, mIf, mRet, mRetN, mRetV, mSet, mSetIx, mExpr, mB, mU, mTm, mPl, mK, mVar, mOp, mCons, mNil, bor, bors, mTst, mAndT, mOrT, mNotT, mAndE, mOrE, mNotE, mIfE, mIsi, isiD, mChn, chnL, cmpD, binD, addD, subD, mulD, modD, fdivD, powD, eqD, neD, ltD, leD, gtD, geD, isD, isnD, L2.M.isNon, negD, ixD, Bf.f, Bg.f, lenD, L2.M.intD, maxD, minD, repD, strD, gmaxD, gminD, sumD, sortD, anyD, allD, mCall, frz, fzO, lend, wb, mTup, mLst, fzs, cD, mAsg, bTup, bTps, mApp, tupD, lstD, mRev, revD, ofs_inj, ee_ii, ee_ss, ee_bb, ee_nn, ee_is, ee_si, ee_in, ee_ni, ee_tt, ee_ll, ee_maps, ee_0, ee_1, ee_2, ee_3, at_lit, at_nat, at_m1, at_m2, scD, emD, sizeLine_eq, ixN, sm_lit, mSrc, itemsD, plOf, rng1D, bNm, mSl, mPt, mNoP, slD, mPar, keepT, tmsO, setA, mFlow, zipX, enumX, itemsX, intsOf, ints_all, boolsOf, shaped_lay, lay_int, lay_bool, lay_none, lay_dict, lay_tup, lay_list, lay_ints, sortX_ints, mPlF, mPlI, mRd, mPU, mPB, mFSet, mFNew, mNSet, mPApp, mPSetIx, mPPop, mMeth, mNew, isIns, cellO, mLstN, mAddN, mAppN, semX, mTold, mCallX, xRet, xExpr, xSet, mRaise, mM, isL, isS, mOrV, truD, mLc, lcL, sameC, wipeC, restC, mYes, *])
local macro_rules | `(tactic| walk_at "ef") => `(tactic| simp [semF, shared, after, mSeq, mSkip, mIf, mRet, mRetN, mRetV, mSet, mSetIx, mExpr, mB, mU, mTm, mPl, mK, mVar, mOp, mCons, mNil, bor, bors, mTst, mAndT, mOrT, mNotT, mAndE, mOrE, mNotE, mIfE, mIsi, isiD, mChn, chnL, cmpD, binD, addD, subD, mulD, modD, fdivD, powD, eqD, neD, ltD, leD, gtD, geD, isD, isnD, L2.M.isNon, negD, ixD, Bf.f, Bg.f, lenD, L2.M.intD, maxD, minD, repD, strD, gmaxD, gminD, sumD, sortD, anyD, allD, mCall, frz, fzO, lend, wb, mTup, mLst, fzs, cD, mAsg, bTup, bTps, mApp, tupD, lstD, mRev, revD, ofs_inj, ee_ii, ee_ss, ee_bb, ee_nn, ee_is, ee_si, ee_in, ee_ni, ee_tt, ee_ll, ee_maps, ee_0, ee_1, ee_2, ee_3, at_lit, at_nat, at_m1, at_m2, scD, emD, sizeLine_eq, ixN, sm_lit, mSrc, itemsD, plOf, rng1D, bNm, mSl, mPt, mNoP, slD, mPar, keepT, tmsO, setA, mFlow, zipX, enumX, itemsX, intsOf, ints_all, boolsOf, shaped_lay, lay_int, lay_bool, lay_none, lay_dict, lay_tup, lay_list, lay_ints, sortX_ints, mPlF, mPlI, mRd, mPU, mPB, mFSet, mFNew, mNSet, mPApp, mPSetIx, mPPop, mMeth, mNew, isIns, cellO, mLstN, mAddN, mAppN, semX, mTold, mCallX, xRet, xExpr, xSet, mRaise, mM, isL, isS, mOrV, truD, mFor, forL, mLc, lcL, sameC, wipeC, restC, mYes, *])
local macro_rules | `(tactic| walk_at "rg") => `(tactic| (and_intros <;> grind))
local macro_rules | `(tactic| walk_at "nx") => `(tactic| (apply wx_nx; focus (walk_at "ev"; try first | exact ⟨rfl, rfl⟩ | rfl)))
local macro_rules | `(tactic| walk_at "ns") => `(tactic| (apply wx_nx; focus (walk_at "es"; try first | exact ⟨rfl, rfl⟩ | rfl)))
local macro_rules | `(tactic| walk_at "rt") => `(tactic| (apply wx_rt; focus (walk_at "ev"; try first | exact ⟨rfl, rfl⟩ | rfl)))
local macro_rules | `(tactic| walk_at "rs") => `(tactic| (apply wx_rt; focus (walk_at "es"; try first | exact ⟨rfl, rfl⟩ | rfl)))
local macro_rules | `(tactic| walk_at "ed") => `(tactic| simp [semF, shared, after, mSeq, mSkip, mIf, mRet, mRetN, mRetV, mSet, mSetIx, mExpr, mB, mU, mTm, mPl, mK, mVar, mOp, mCons, mNil, bor, bors, mTst, mAndT, mOrT, mNotT, mAndE, mOrE, mNotE, mIfE, mIsi, isiD, mChn, chnL, cmpD, binD, addD, subD, mulD, modD, fdivD, powD, eqD, neD, ltD, leD, gtD, geD, isD, isnD, L2.M.isNon, negD, ixD, Bf.f, Bg.f, lenD, L2.M.intD, maxD, minD, repD, strD, gmaxD, gminD, sumD, sortD, anyD, allD, mCall, frz, fzO, lend, wb, mTup, mLst, fzs, cD, mAsg, bTup, bTps, mApp, tupD, lstD, mRev, revD, ofs_inj, ee_ii, ee_ss, ee_bb, ee_nn, ee_is, ee_si, ee_in, ee_ni, ee_tt, ee_ll, ee_maps, ee_0, ee_1, ee_2, ee_3, at_lit, at_nat, at_m1, at_m2, scD, emD, sizeLine_eq, ixN, sm_lit, mSrc, itemsD, plOf, rng1D, bNm, mSl, mPt, mNoP, slD, mPar, keepT, tmsO, setA, mFlow, zipX, enumX, itemsX, intsOf, ints_all, boolsOf, shaped_lay, lay_int, lay_bool, lay_none, lay_dict, lay_tup, lay_list, lay_ints, sortX_ints, mPlF, mPlI, mRd, mPU, mPB, mFSet, mFNew, mNSet, mPApp, mPSetIx, mPPop, mMeth, mNew, isIns, cellO, mLstN, mAddN, mAppN, semX, mTold, mCallX, xRet, xExpr, xSet, mRaise, mM, isL, isS, mOrV, truD, mDNew, mDIn, mDGet, mDLen, mDPut, kyD, mNNew, mN1, mTake, mFnV, mCallF, mNIn, mNGet, mNPut, mNVals, mNList, nKs, mDGetD, mDList, mNNe, *])
theorem law_whole_eq (d : PyData) : g_law_whole [.sh d] = some (.sh (.bool (whole d)), [.sh d]) := by
  unfold g_law_whole m_law_whole
  cases d <;> (walk_at "ev"; try rfl)
end KW
namespace KW
open PySem PySem.Spec PyProof.Rows L2 L2.M
local macro_rules | `(tactic| walk_at "ev") => `(tactic| simp [semF, shared, after, mSeq, mSkip, mIf, mRet, mRetN, mRetV, mSet, mSetIx, mExpr, mB, mU, mTm, mPl, mK, mVar, mOp, mCons, mNil, bor, bors, mTst, mAndT, mOrT, mNotT, mAndE, mOrE, mNotE, mIfE, mIsi, isiD, mChn, chnL, cmpD, binD, addD, subD, mulD, modD, fdivD, powD, eqD, neD, ltD, leD, gtD, geD, isD, isnD, L2.M.isNon, negD, ixD, Bf.f, Bg.f, lenD, L2.M.intD, maxD, minD, repD, strD, gmaxD, gminD, sumD, sortD, anyD, allD, mCall, frz, fzO, lend, wb, mTup, mLst, fzs, cD, mAsg, bTup, bTps, mApp, tupD, lstD, mRev, revD, ofs_inj, ee_ii, ee_ss, ee_bb, ee_nn, ee_is, ee_si, ee_in, ee_ni, ee_tt, ee_ll, ee_maps, ee_0, ee_1, ee_2, ee_3, at_lit, at_nat, at_m1, at_m2, scD, emD, sizeLine_eq, ixN, sm_lit, mSrc, itemsD, plOf, rng1D, bNm, mSl, mPt, mNoP, slD, mPar, keepT, tmsO, setA, mFlow, zipX, enumX, itemsX, intsOf, ints_all, boolsOf, shaped_lay, lay_int, lay_bool, lay_none, lay_dict, lay_tup, lay_list, lay_ints, sortX_ints, mPlF, mPlI, mRd, mPU, mPB, mFSet, mFNew, mNSet, mPApp, mPSetIx, mPPop, mMeth, mNew, isIns, cellO, mLstN, mAddN, mAppN, semX, mTold, mCallX, xRet, xExpr, xSet, mRaise, mM, isL, isS, mOrV, truD])
local macro_rules | `(tactic| walk_at "es") => `(tactic| simp [semF, shared, after, mSeq, mSkip, mIf, mRet, mRetN, mRetV, mSet, mSetIx, mExpr, mB, mU, mTm, mPl, mK, mVar, mOp, mCons, mNil, bor, bors, mTst, mAndT, mOrT, mNotT, mAndE, mOrE, mNotE, mIfE, mIsi, isiD, mChn, chnL, cmpD, binD, addD, subD, mulD, modD, fdivD, powD, eqD, neD, ltD, leD, gtD, geD, isD, isnD, L2.M.isNon, negD, ixD, Bf.f, Bg.f, lenD, L2.M.intD, maxD, minD, repD, strD, gmaxD, gminD, sumD, sortD, anyD, allD, mCall, frz, fzO, lend, wb, mTup, mLst, fzs, cD, mAsg, bTup, bTps, mApp, tupD, lstD, mRev, revD, ofs_inj, ee_ii, ee_ss, ee_bb, ee_nn, ee_is, ee_si, ee_in, ee_ni, ee_tt, ee_ll, ee_maps, ee_0, ee_1, ee_2, ee_3, at_lit, at_nat, at_m1, at_m2, scD, emD, sizeLine_eq, ixN, sm_lit, mSrc, itemsD, plOf, rng1D, bNm, mSl, mPt, mNoP, slD, mPar, keepT, tmsO, setA, mFlow, zipX, enumX, itemsX, intsOf, ints_all, boolsOf, shaped_lay, lay_int, lay_bool, lay_none, lay_dict, lay_tup, lay_list, lay_ints, sortX_ints, mPlF, mPlI, mRd, mPU, mPB, mFSet, mFNew, mNSet, mPApp, mPSetIx, mPPop, mMeth, mNew, isIns, cellO, mLstN, mAddN, mAppN, semX, mTold, mCallX, xRet, xExpr, xSet, mRaise, mM, isL, isS, mOrV, truD, *])
local macro_rules | `(tactic| walk_at "el") => `(tactic| simp [semF, shared, after, mSeq, mSkip, mIf, mRet, mRetN, mRetV, mSet, mSetIx, mExpr, mB, mU, mTm, mPl, mK, mVar, mOp, mCons, mNil, bor, bors, mTst, mAndT, mOrT, mNotT, mAndE, mOrE, mNotE, mIfE, mIsi, isiD, mChn, chnL, cmpD, binD, addD, subD, mulD, modD, fdivD, powD, eqD, neD, ltD, leD, gtD, geD, isD, isnD, L2.M.isNon, negD, ixD, Bf.f, Bg.f, lenD, L2.M.intD, maxD, minD, repD, strD, gmaxD, gminD, sumD, sortD, anyD, allD, mCall, frz, fzO, lend, wb, mTup, mLst, fzs, cD, mAsg, bTup, bTps, mApp, tupD, lstD, mRev, revD, ofs_inj, ee_ii, ee_ss, ee_bb, ee_nn, ee_is, ee_si, ee_in, ee_ni, ee_tt, ee_ll, ee_maps, ee_0, ee_1, ee_2, ee_3, at_lit, at_nat, at_m1, at_m2, scD, emD, sizeLine_eq, ixN, sm_lit, mSrc, itemsD, plOf, rng1D, bNm, mSl, mPt, mNoP, slD, mPar, keepT, tmsO, setA, mFlow, zipX, enumX, itemsX, intsOf, ints_all, boolsOf, shaped_lay, lay_int, lay_bool, lay_none, lay_dict, lay_tup, lay_list, lay_ints, sortX_ints, mPlF, mPlI, mRd, mPU, mPB, mFSet, mFNew, mNSet, mPApp, mPSetIx, mPPop, mMeth, mNew, isIns, cellO, mLstN, mAddN, mAppN, semX, mTold, mCallX, xRet, xExpr, xSet, mRaise, mM, isL, isS, mOrV, truD, mLc, lcL, sameC, wipeC, restC, mYes, *])
local macro_rules | `(tactic| walk_at "ef") => `(tactic| simp [semF, shared, after, mSeq, mSkip, mIf, mRet, mRetN, mRetV, mSet, mSetIx, mExpr, mB, mU, mTm, mPl, mK, mVar, mOp, mCons, mNil, bor, bors, mTst, mAndT, mOrT, mNotT, mAndE, mOrE, mNotE, mIfE, mIsi, isiD, mChn, chnL, cmpD, binD, addD, subD, mulD, modD, fdivD, powD, eqD, neD, ltD, leD, gtD, geD, isD, isnD, L2.M.isNon, negD, ixD, Bf.f, Bg.f, lenD, L2.M.intD, maxD, minD, repD, strD, gmaxD, gminD, sumD, sortD, anyD, allD, mCall, frz, fzO, lend, wb, mTup, mLst, fzs, cD, mAsg, bTup, bTps, mApp, tupD, lstD, mRev, revD, ofs_inj, ee_ii, ee_ss, ee_bb, ee_nn, ee_is, ee_si, ee_in, ee_ni, ee_tt, ee_ll, ee_maps, ee_0, ee_1, ee_2, ee_3, at_lit, at_nat, at_m1, at_m2, scD, emD, sizeLine_eq, ixN, sm_lit, mSrc, itemsD, plOf, rng1D, bNm, mSl, mPt, mNoP, slD, mPar, keepT, tmsO, setA, mFlow, zipX, enumX, itemsX, intsOf, ints_all, boolsOf, shaped_lay, lay_int, lay_bool, lay_none, lay_dict, lay_tup, lay_list, lay_ints, sortX_ints, mPlF, mPlI, mRd, mPU, mPB, mFSet, mFNew, mNSet, mPApp, mPSetIx, mPPop, mMeth, mNew, isIns, cellO, mLstN, mAddN, mAppN, semX, mTold, mCallX, xRet, xExpr, xSet, mRaise, mM, isL, isS, mOrV, truD, mFor, forL, mLc, lcL, sameC, wipeC, restC, mYes, *])
local macro_rules | `(tactic| walk_at "rg") => `(tactic| (and_intros <;> grind))
local macro_rules | `(tactic| walk_at "nx") => `(tactic| (apply wx_nx; focus (walk_at "ev"; try first | exact ⟨rfl, rfl⟩ | rfl)))
local macro_rules | `(tactic| walk_at "ns") => `(tactic| (apply wx_nx; focus (walk_at "es"; try first | exact ⟨rfl, rfl⟩ | rfl)))
local macro_rules | `(tactic| walk_at "rt") => `(tactic| (apply wx_rt; focus (walk_at "ev"; try first | exact ⟨rfl, rfl⟩ | rfl)))
local macro_rules | `(tactic| walk_at "rs") => `(tactic| (apply wx_rt; focus (walk_at "es"; try first | exact ⟨rfl, rfl⟩ | rfl)))
local macro_rules | `(tactic| walk_at "ed") => `(tactic| simp [semF, shared, after, mSeq, mSkip, mIf, mRet, mRetN, mRetV, mSet, mSetIx, mExpr, mB, mU, mTm, mPl, mK, mVar, mOp, mCons, mNil, bor, bors, mTst, mAndT, mOrT, mNotT, mAndE, mOrE, mNotE, mIfE, mIsi, isiD, mChn, chnL, cmpD, binD, addD, subD, mulD, modD, fdivD, powD, eqD, neD, ltD, leD, gtD, geD, isD, isnD, L2.M.isNon, negD, ixD, Bf.f, Bg.f, lenD, L2.M.intD, maxD, minD, repD, strD, gmaxD, gminD, sumD, sortD, anyD, allD, mCall, frz, fzO, lend, wb, mTup, mLst, fzs, cD, mAsg, bTup, bTps, mApp, tupD, lstD, mRev, revD, ofs_inj, ee_ii, ee_ss, ee_bb, ee_nn, ee_is, ee_si, ee_in, ee_ni, ee_tt, ee_ll, ee_maps, ee_0, ee_1, ee_2, ee_3, at_lit, at_nat, at_m1, at_m2, scD, emD, sizeLine_eq, ixN, sm_lit, mSrc, itemsD, plOf, rng1D, bNm, mSl, mPt, mNoP, slD, mPar, keepT, tmsO, setA, mFlow, zipX, enumX, itemsX, intsOf, ints_all, boolsOf, shaped_lay, lay_int, lay_bool, lay_none, lay_dict, lay_tup, lay_list, lay_ints, sortX_ints, mPlF, mPlI, mRd, mPU, mPB, mFSet, mFNew, mNSet, mPApp, mPSetIx, mPPop, mMeth, mNew, isIns, cellO, mLstN, mAddN, mAppN, semX, mTold, mCallX, xRet, xExpr, xSet, mRaise, mM, isL, isS, mOrV, truD, mDNew, mDIn, mDGet, mDLen, mDPut, kyD, mNNew, mN1, mTake, mFnV, mCallF, mNIn, mNGet, mNPut, mNVals, mNList, nKs, mDGetD, mDList, mNNe, *])
theorem all_bls {α : Type} (f : α → Bool) (xs : List α) : Bg.f .all [.list (xs.map fun x => PyData.bool (f x))] = some (.sh (.bool (xs.all f))) := by
  simp only [Bg.f, allD, any_map]
  rw [Option.map_some, List.all_map]
  rfl
def plB (need : Int) (A : List (Int × Int)) : PyData → Bool
  | .tuple [.int k, .int b] => decide (0 ≤ k) && plc need A k.toNat b
  | _ => false
theorem plB_prN (need : Int) (A : List (Int × Int)) (x : Nat × Int) : plB need A (prN x) = plc need A x.1 x.2 := by
  simp [plB, prN]
theorem pa_n {need : Int} {Y d : PyData} (h : NoT d) : g_is_place [.sh (.int need), .sh Y, .sh d] = some (.sh (.bool false), [.sh (.int need), .sh Y, .sh d]) := by
  unfold g_is_place m_is_place
  cases h <;> (walk_at "ev"; try rfl)
theorem pa_len {need N : Int} {Y : PyData} {ds : List PyData} (hN : (ds.length : Int) = N) (h : ¬ N = 2) : g_is_place [.sh (.int need), .sh Y, .sh (.tuple ds)] = some (.sh (.bool false), [.sh (.int need), .sh Y, .sh (.tuple ds)]) := by
  unfold g_is_place m_is_place
  walk_at "es"
theorem pa_w1 {need : Int} {Y a b : PyData} (w1 : g_is_whole [.sh a] = some (.sh (.bool false), [.sh a])) : g_is_place [.sh (.int need), .sh Y, .sh (.tuple [a, b])] = some (.sh (.bool false), [.sh (.int need), .sh Y, .sh (.tuple [a, b])]) := by
  unfold g_is_place m_is_place
  generalize g_is_whole = G at *
  walk_at "es"
theorem pa_w2 {need : Int} {Y a b : PyData} (w1 : g_is_whole [.sh a] = some (.sh (.bool true), [.sh a])) (w2 : g_is_whole [.sh b] = some (.sh (.bool false), [.sh b])) : g_is_place [.sh (.int need), .sh Y, .sh (.tuple [a, b])] = some (.sh (.bool false), [.sh (.int need), .sh Y, .sh (.tuple [a, b])]) := by
  unfold g_is_place m_is_place
  generalize g_is_whole = G at *
  walk_at "es"
inductive Frm : PyData → Prop where
  | no {d : PyData} (h : NoT d) : Frm d
  | len {ds : List PyData} (h : ds.length ≠ 2) : Frm (.tuple ds)
  | w1 {a b : PyData} (h : whole a = false) : Frm (.tuple [a, b])
  | w2 {a b : PyData} (h : whole a = true) (h2 : whole b = false) : Frm (.tuple [a, b])
  | ok (k b : Int) : Frm (.tuple [.int k, .int b])
theorem frm_any (d : PyData) : Frm d := by
  rcases tup_or d with ⟨ds, rfl⟩ | h
  · match ds with
    | [] => exact .len (by simp)
    | [a] => exact .len (by simp)
    | [a, b] =>
      cases h1 : whole a with
      | false => exact .w1 h1
      | true =>
        cases h2 : whole b with
        | false => exact .w2 h1 h2
        | true =>
          obtain ⟨k, rfl⟩ := whole_int h1
          obtain ⟨c, rfl⟩ := whole_int h2
          exact .ok k c
    | a :: b :: c :: r => exact .len (by simp)
  · exact .no h
theorem plB_tup {need : Int} {A : List (Int × Int)} {d : PyData} (h : plB need A d = true) : ∃ x : Nat × Int, d = prN x ∧ plc need A x.1 x.2 = true := by
  unfold plB at h
  split at h
  · rename_i k b
    rw [Bool.and_eq_true, decide_eq_true_eq] at h
    refine ⟨(k.toNat, b), ?_, h.2⟩
    unfold prN
    have : ((k.toNat : Nat) : Int) = k := by omega
    simp [this]
  · cases h
theorem is_place_any (need : Int) (A : List (Int × Int)) (d : PyData) : g_is_place [.sh (.int need), .sh (stD A), .sh d] = some (.sh (.bool (plB need A d)), [.sh (.int need), .sh (stD A), .sh d]) := by
  cases frm_any d with
  | no h =>
    have e : plB need A d = false := by cases h <;> rfl
    rw [e]
    exact pa_n h
  | len h =>
    rename_i ds
    have e : plB need A (.tuple ds) = false := by
      unfold plB
      split
      · rename_i e
        cases e
        simp at h
      · rfl
    rw [e]
    exact pa_len (N := (ds.length : Int)) rfl (by omega)
  | w1 h =>
    rename_i a b
    have e : plB need A (.tuple [a, b]) = false := by
      unfold plB
      split
      · rename_i e
        cases e
        cases h
      · rfl
    have w := is_whole_eq a
    rw [h] at w
    rw [e]
    exact pa_w1 w
  | w2 h h2 =>
    rename_i a b
    have e : plB need A (.tuple [a, b]) = false := by
      unfold plB
      split
      · rename_i e
        cases e
        cases h2
      · rfl
    have w := is_whole_eq a
    rw [h] at w
    have w2 := is_whole_eq b
    rw [h2] at w2
    rw [e]
    exact pa_w2 w w2
  | ok k b =>
    by_cases c : 0 ≤ k
    · obtain ⟨n, rfl⟩ : ∃ n : Nat, k = n := ⟨k.toNat, by omega⟩
      rw [show (PyData.tuple [.int (n : Int), .int b]) = prN (n, b) from rfl, plB_prN]
      exact is_place_eq need A n b
    · have e : plB need A (.tuple [.int k, .int b]) = false := by simp [plB, c]
      rw [e]
      exact pl_2 (N := (A.length : Int)) (by simp) (by omega) (is_whole_eq _) (is_whole_eq _)
def GoodL (need : Int) (A : List (Int × Int)) (ds : List PyData) : Prop := ∃ q, ds = q.map prN ∧ Sch need A q
def Good (need : Int) (A : List (Int × Int)) (d : PyData) : Prop := ∃ ds, d = .tuple ds ∧ GoodL need A ds
theorem prN_inj {x y : Nat × Int} (h : prN x = prN y) : x = y := by
  unfold prN at h
  injection h with h
  injection h with h1 h2
  injection h2 with h2 _
  injection h1 with h1
  injection h2 with h2
  exact Prod.ext (by omega) h2
theorem prNs_inj : ∀ {q r : Sq}, q.map prN = r.map prN → q = r
  | [], [], _ => rfl
  | [], _ :: _, h => by cases h
  | _ :: _, [], h => by cases h
  | x :: q, y :: r, h => by
    rw [List.map_cons, List.map_cons] at h
    injection h with h1 h2
    rw [prN_inj h1, prNs_inj h2]
theorem good_at {need : Int} {A : List (Int × Int)} {ds : List PyData} (h : GoodL need A ds) {i : Nat} (hi : i < ds.length) {q : Sq} (hq : ds.take i = q.map prN) : ∃ x, ds[i] = prN x ∧ Sch need A (q ++ [x]) := by
  obtain ⟨r, rfl, hs⟩ := h
  rw [← List.map_take] at hq
  have e := prNs_inj hq
  have hi2 : i < r.length := by simpa using hi
  refine ⟨r[i], by simp, ?_⟩
  rw [← e, ← List.take_succ_eq_append_getElem hi2]
  rw [← List.take_append_drop (i + 1) r] at hs
  exact sch_pre hs
theorem sg_a {need : Int} {Y d : PyData} {T : C} {b : Bool} (f : g_is_place [.sh (.int need), .sh Y, .sh d] = some (.sh (.bool b), [.sh (.int need), .sh Y, .sh d])) : (mCall [true, true, true] g_is_place (mCons (mPl 0) (mCons (mPl 1) (mCons (mPl 3) (mNil))))) [.sh (.int need), .sh Y, T, .sh d, .no] = some (.sh (.bool b), [.sh (.int need), .sh Y, T, .sh d, .no]) := by
  generalize g_is_place = G at *
  walk_at "es"
theorem sg_n {need : Int} {Y d : PyData} (h : NoT d) : g_schedule_good [.sh (.int need), .sh Y, .sh d] = some (.sh (.bool false), [.sh (.int need), .sh Y, .sh d]) := by
  unfold g_schedule_good m_schedule_good
  cases h <;> (walk_at "ev"; try rfl)
theorem sg_1 {need : Int} {Y : PyData} {T : List PyData} {b : Bool} (k : (mOp (Bg.f .all) (mCons (mTm (mLc (mSrc itemsD (mCons (mTm (mVar 2)) mNil)) (bNm 3) (mYes) (mCall [true, true, true] g_is_place (mCons (mPl 0) (mCons (mPl 1) (mCons (mPl 3) (mNil))))) [3])) (mNil))) [.sh (.int need), .sh Y, .sh (.tuple T), .no, .no] = some (.sh (.bool b), [.sh (.int need), .sh Y, .sh (.tuple T), .no, .no])) : (mIf (mOrT (mNotT (mTst (mIsi .tuple (mPl 2)))) (mNotT (mTst (mOp (Bg.f .all) (mCons (mTm (mLc (mSrc itemsD (mCons (mTm (mVar 2)) mNil)) (bNm 3) (mYes) (mCall [true, true, true] g_is_place (mCons (mPl 0) (mCons (mPl 1) (mCons (mPl 3) (mNil))))) [3])) (mNil)))))) (mSeq (mRet (mK (.bool false))) (mSkip)) (mSkip)) [.sh (.int need), .sh Y, .sh (.tuple T), .no, .no] = some (if b then .nx else .rt (.sh (.bool false)), [.sh (.int need), .sh Y, .sh (.tuple T), .no, .no]) := by
  generalize mOp (Bg.f .all) _ = MA at *
  cases b <;> walk_at "es"
theorem sg_2 {need N M : Int} {Y : PyData} {T : List PyData} (h : (T.length : Int) = N) (k : (mOp lsT (mCons (mTm (mLc (mSrc itemsD (mCons (mTm (mVar 2)) mNil)) (bNm 3) (mYes) (mB ixD (mPl 3) (mTm (mK (.int 0)))) [3])) (mNil))) [.sh (.int need), .sh Y, .sh (.tuple T), .no, .no] = some (.sh (.int M), [.sh (.int need), .sh Y, .sh (.tuple T), .no, .no])) : (mIf (mTst (mB (cmpD .NotEq) (mTm (mOp lsT (mCons (mTm (mLc (mSrc itemsD (mCons (mTm (mVar 2)) mNil)) (bNm 3) (mYes) (mB ixD (mPl 3) (mTm (mK (.int 0)))) [3])) (mNil)))) (mTm (mOp (Bf.f .len) (mCons (mPl 2) (mNil)))))) (mSeq (mRet (mK (.bool false))) (mSkip)) (mSkip)) [.sh (.int need), .sh Y, .sh (.tuple T), .no, .no] = some (if M = N then .nx else .rt (.sh (.bool false)), [.sh (.int need), .sh Y, .sh (.tuple T), .no, .no]) := by
  generalize mOp lsT _ = ML at *
  by_cases c : M = N <;> walk_at "es"
theorem sg_2e {need : Int} {Y T : PyData} {x : Nat × Int} : (mB ixD (mPl 3) (mTm (mK (.int 0)))) [.sh (.int need), .sh Y, .sh T, .sh (prN x), .no] = some (.sh (.int (x.1 : Int)), [.sh (.int need), .sh Y, .sh T, .sh (prN x), .no]) := by
  unfold prN
  generalize (x.1 : Int) = a
  walk_at "es"
theorem sg_3s {need : Int} {Y : PyData} {T U Z : List PyData} (hu : L2.M.cutL T (some 1) none = U) (hz : U.length ≤ 16777215) (h : List.zipWith (fun a b => PyData.tuple [a, b]) T U = Z) : (mSrc zipX (mCons (mTm (mVar 2)) (mCons (mTm (mSl (mPl 2) (mPt (mTm (mK (.int 1)))) (mNoP))) mNil))) [.sh (.int need), .sh Y, .sh (.tuple T), .no, .no] = some ((Z, []), [.sh (.int need), .sh Y, .sh (.tuple T), .no, .no]) := by
  walk_at "es"
theorem sg_3e {need : Int} {Y T : PyData} {a b c d : Int} : (mB (cmpD .LtE) (mTm (mB (binD .Add) (mTm (mB ixD (mPl 3) (mTm (mK (.int 1))))) (mPl 0))) (mTm (mB ixD (mPl 4) (mTm (mK (.int 1)))))) [.sh (.int need), .sh Y, .sh T, .sh (.tuple [.int a, .int b]), .sh (.tuple [.int c, .int d])] = some (.sh (.bool (decide (b + need ≤ d))), [.sh (.int need), .sh Y, .sh T, .sh (.tuple [.int a, .int b]), .sh (.tuple [.int c, .int d])]) := by
  walk_at "es"
theorem zw_prN : ∀ (a b : Sq), List.zipWith (fun a b => PyData.tuple [a, b]) (a.map prN) (b.map prN) = (a.zip b).map fun x => PyData.tuple [prN x.1, prN x.2]
  | [], _ => rfl
  | _ :: _, [] => rfl
  | x :: a, y :: b => by
    simp only [List.map_cons, List.zipWith_cons_cons, List.zip_cons_cons, zw_prN a b]
theorem pair_zip {need : Int} (hn : 0 ≤ need) : ∀ {q : Sq}, q.Pairwise (fun x y => x.2 + need ≤ y.2) ↔ ∀ z ∈ q.zip q.tail, z.1.2 + need ≤ z.2.2
  | [] => by simp
  | [x] => by simp
  | x :: y :: q => by
    have ih := pair_zip hn (q := y :: q)
    rw [List.pairwise_cons, ih, show (x :: y :: q).zip (x :: y :: q).tail = (x, y) :: (y :: q).zip (y :: q).tail from rfl]
    constructor
    · rintro ⟨h1, h2⟩ z hz
      rcases List.mem_cons.mp hz with rfl | hz
      · exact h1 y List.mem_cons_self
      · exact h2 z (by simpa using hz)
    · intro h
      have h0 := h (x, y) List.mem_cons_self
      have h2 : ∀ z ∈ (y :: q).zip (y :: q).tail, z.1.2 + need ≤ z.2.2 := fun z hz => h z (List.mem_cons_of_mem _ (by simpa using hz))
      refine ⟨fun w hw => ?_, h2⟩
      have hp := ih.mpr h2
      rcases List.mem_cons.mp hw with rfl | hw
      · exact h0
      · have := (List.pairwise_cons.mp hp).1 w hw
        dsimp only at h0
        omega
theorem tup_prN {need : Int} {A : List (Int × Int)} : ∀ {ds : List PyData}, ds.all (plB need A) = true → ∃ q : Sq, ds = q.map prN ∧ ∀ x ∈ q, plc need A x.1 x.2 = true
  | [], _ => ⟨[], rfl, fun x hx => by cases hx⟩
  | d :: ds, h => by
    rw [List.all_cons, Bool.and_eq_true] at h
    obtain ⟨x, rfl, hx⟩ := plB_tup h.1
    obtain ⟨q, rfl, hq⟩ := tup_prN h.2
    refine ⟨x :: q, rfl, fun y hy => ?_⟩
    rcases List.mem_cons.mp hy with rfl | hy
    · exact hx
    · exact hq y hy
theorem int_perm : ∀ (R L : List Int), R.Nodup → (∀ x ∈ R, x ∈ L) → L.length = R.length → L.Perm R
  | [], L, _, _, h => by
    have : L = [] := List.length_eq_zero_iff.mp (by simpa using h)
    subst this
    exact List.Perm.refl _
  | a :: R, L, hn, hs, h => by
    have ha := hs a List.mem_cons_self
    have p1 := List.perm_cons_erase ha
    have hn2 := List.nodup_cons.mp hn
    refine p1.trans (List.Perm.cons a (int_perm R (L.erase a) hn2.2 (fun x hx => ?_) ?_))
    · have hne : x ≠ a := fun e => hn2.1 (e ▸ hx)
      exact (List.mem_erase_of_ne hne).mpr (hs x (List.mem_cons_of_mem _ hx))
    · have := p1.length_eq
      simp at this h
      omega
theorem ds_nd {L : List Int} : (dsort L).length = L.length ↔ L.Nodup := by
  have nd : (dsort L).Nodup := (dsort_ris _).imp fun {a b} hh => by omega
  constructor
  · intro h
    have p := int_perm (dsort L) L nd (fun x hx => (dsort_mem _ _).mp hx) h.symm
    exact p.nodup_iff.mpr nd
  · intro h
    have p : (dsort L).Perm L := (List.perm_ext_iff_of_nodup nd h).mpr fun k => dsort_mem _ k
    exact p.length_eq
theorem nms_nd {q : Sq} : (nms q).Nodup ↔ (q.map (·.1)).Nodup := by
  unfold nms
  show List.Pairwise _ _ ↔ List.Pairwise _ _
  rw [List.pairwise_map, List.pairwise_map]
  constructor
  · intro h
    exact h.imp fun {a b} hh e => hh (by omega)
  · intro h
    exact h.imp fun {a b} hh e => hh (by omega)
theorem schedule_good_any {need : Int} (hn : 0 ≤ need) (A : List (Int × Int)) {d : PyData} (hd : Sml d) : ∃ b, (b = true ↔ Good need A d) ∧ g_schedule_good [.sh (.int need), .sh (stD A), .sh d] = some (.sh (.bool b), [.sh (.int need), .sh (stD A), .sh d]) := by
  rcases tup_or d with ⟨ds, rfl⟩ | h
  · have hl := hd ds rfl
    have main : Rt (g_schedule_good [.sh (.int need), .sh (stD A), .sh (.tuple ds)]) fun c cs => ∃ b, (b = true ↔ Good need A (.tuple ds)) ∧ c = .sh (.bool b) ∧ cs = [.sh (.int need), .sh (stD A), .sh (.tuple ds)] := by
      unfold g_schedule_good m_schedule_good
      apply rt_sem rfl
      have key : (mOp (Bg.f .all) (mCons (mTm (mLc (mSrc itemsD (mCons (mTm (mVar 2)) mNil)) (bNm 3) (mYes) (mCall [true, true, true] g_is_place (mCons (mPl 0) (mCons (mPl 1) (mCons (mPl 3) (mNil))))) [3])) (mNil))) [.sh (.int need), .sh (stD A), .sh (.tuple ds), .no, .no] = some (.sh (.bool (ds.all (plB need A))), [.sh (.int need), .sh (stD A), .sh (.tuple ds), .no, .no]) :=
        mLc_all (plB need A) (i := 3) (ds := ds) (ws := []) (c0 := .no) (src_items (c := .sh (.tuple ds)) rfl (.inr (.inr rfl))) rfl (fun x _ => sg_a (is_place_any need A x)) (by rw [sizeLine_eq]; omega)
      have k1 := sg_1 key
      cases q : ds.all (plB need A) with
      | false =>
        rw [q] at k1
        refine wx_fl k1 (by simp) ⟨false, ⟨fun h => (by cases h), ?_⟩, rfl, rfl⟩
        rintro ⟨ds', e, r, rfl, hs⟩
        injection e with e
        subst e
        rw [List.all_eq_false] at q
        obtain ⟨x, hx, hp⟩ := q
        obtain ⟨y, hy, rfl⟩ := List.mem_map.mp hx
        rw [plB_prN] at hp
        exact absurd (hs.p y hy) hp
      | true =>
        rw [q] at k1
        apply wx_nx k1
        obtain ⟨r, rfl, hr⟩ := tup_prN q
        have hrl : r.length ≤ 1000 := by simpa using hl
        have k2 : (mOp lsT (mCons (mTm (mLc (mSrc itemsD (mCons (mTm (mVar 2)) mNil)) (bNm 3) (mYes) (mB ixD (mPl 3) (mTm (mK (.int 0)))) [3])) (mNil))) [.sh (.int need), .sh (stD A), .sh (.tuple (r.map prN)), .no, .no] = some (.sh (.int ((dsort (nms r)).length : Nat)), [.sh (.int need), .sh (stD A), .sh (.tuple (r.map prN)), .no, .no]) := by
          refine e_op1 (mLc_enc prN (fun x => .int (x.1 : Int)) (xs := r) (i := 3) (ws := []) (c0 := .no) (src_items (c := .sh (.tuple (r.map prN))) rfl (.inr (.inr rfl))) rfl (fun x _ => ⟨_, sg_2e, rfl⟩) (by rw [sizeLine_eq]; omega)) rfl ?_
          have e : (r.map fun x => PyData.int (x.1 : Int)) = (nms r).map .int := by
            unfold nms
            rw [List.map_map]
            rfl
          rw [e]
          have e2 : lsT [.list ((nms r).map .int)] = if (nms r).length < 4000 then some (.sh (.int ((dsort (nms r)).length : Nat))) else none := by
            simp only [lsT, lsD, ints_all]
          rw [e2, if_pos (by simp [nms]; omega)]
        have k3 := sg_2 (N := (r.length : Int)) (by simp) k2
        have hnl : (nms r).length = r.length := by simp [nms]
        have hiff : (((dsort (nms r)).length : Nat) : Int) = (r.length : Int) ↔ (r.map (·.1)).Nodup := by
          rw [← nms_nd, ← ds_nd, hnl]
          omega
        by_cases c : (((dsort (nms r)).length : Nat) : Int) = (r.length : Int)
        · rw [if_pos c] at k3
          apply wx_nx k3
          have hcut : L2.M.cutL (r.map prN) (some 1) none = r.tail.map prN := by
            rw [cut_map, cut_from _ (by omega), show (1 : Int).toNat = 1 from rfl, List.drop_one]
          refine wx_rt (e_ret (e_op1 (mLc_two (fun x : (Nat × Int) × (Nat × Int) => prN x.1) (fun x => prN x.2) (fun x => .bool (decide (x.1.2 + need ≤ x.2.2))) (xs := r.zip r.tail) (ws := []) (c0 := .no) (c1 := .no) (sg_3s (T := r.map prN) hcut (by simp; omega) (zw_prN _ _)) (by decide) rfl rfl (fun x hx => ⟨_, sg_3e, rfl⟩) (by rw [sizeLine_eq, List.length_zip]; omega)) rfl (all_bls (fun x : (Nat × Int) × (Nat × Int) => decide (x.1.2 + need ≤ x.2.2)) _))) ⟨_, ?_, rfl, rfl⟩
          rw [List.all_eq_true]
          simp only [decide_eq_true_eq]
          rw [← pair_zip hn]
          constructor
          · intro hp
            exact ⟨_, rfl, r, rfl, hr, hiff.mp c, hp⟩
          · rintro ⟨ds', e, r', rfl, hs⟩
            injection e with e
            rw [prNs_inj e]
            exact hs.o
        · rw [if_neg c] at k3
          refine wx_fl k3 (by simp) ⟨false, ⟨fun h => (by cases h), ?_⟩, rfl, rfl⟩
          rintro ⟨ds', e, r', rfl, hs⟩
          injection e with e
          rw [prNs_inj e] at c hiff
          exact absurd (hiff.mpr hs.d) c
    obtain ⟨c, cs, e, b, hb, rfl, rfl⟩ := main
    exact ⟨b, hb, e⟩
  · refine ⟨false, ⟨fun h => (by cases h), ?_⟩, sg_n h⟩
    rintro ⟨ds, rfl, _⟩
    cases h
end KW
namespace KW
open PySem PySem.Spec PyProof.Rows L2 L2.M
local macro_rules | `(tactic| walk_at "ev") => `(tactic| simp [semF, shared, after, mSeq, mSkip, mIf, mRet, mRetN, mRetV, mSet, mSetIx, mExpr, mB, mU, mTm, mPl, mK, mVar, mOp, mCons, mNil, bor, bors, mTst, mAndT, mOrT, mNotT, mAndE, mOrE, mNotE, mIfE, mIsi, isiD, mChn, chnL, cmpD, binD, addD, subD, mulD, modD, fdivD, powD, eqD, neD, ltD, leD, gtD, geD, isD, isnD, L2.M.isNon, negD, ixD, Bf.f, Bg.f, lenD, L2.M.intD, maxD, minD, repD, strD, gmaxD, gminD, sumD, sortD, anyD, allD, mCall, frz, fzO, lend, wb, mTup, mLst, fzs, cD, mAsg, bTup, bTps, mApp, tupD, lstD, mRev, revD, ofs_inj, ee_ii, ee_ss, ee_bb, ee_nn, ee_is, ee_si, ee_in, ee_ni, ee_tt, ee_ll, ee_maps, ee_0, ee_1, ee_2, ee_3, at_lit, at_nat, at_m1, at_m2, scD, emD, sizeLine_eq, ixN, sm_lit, mSrc, itemsD, plOf, rng1D, bNm, mSl, mPt, mNoP, slD, mPar, keepT, tmsO, setA, mFlow, zipX, enumX, itemsX, intsOf, ints_all, boolsOf, shaped_lay, lay_int, lay_bool, lay_none, lay_dict, lay_tup, lay_list, lay_ints, sortX_ints, mPlF, mPlI, mRd, mPU, mPB, mFSet, mFNew, mNSet, mPApp, mPSetIx, mPPop, mMeth, mNew, isIns, cellO, mLstN, mAddN, mAppN, semX, mTold, mCallX, xRet, xExpr, xSet, mRaise, mM, isL, isS, mOrV, truD])
local macro_rules | `(tactic| walk_at "es") => `(tactic| simp [semF, shared, after, mSeq, mSkip, mIf, mRet, mRetN, mRetV, mSet, mSetIx, mExpr, mB, mU, mTm, mPl, mK, mVar, mOp, mCons, mNil, bor, bors, mTst, mAndT, mOrT, mNotT, mAndE, mOrE, mNotE, mIfE, mIsi, isiD, mChn, chnL, cmpD, binD, addD, subD, mulD, modD, fdivD, powD, eqD, neD, ltD, leD, gtD, geD, isD, isnD, L2.M.isNon, negD, ixD, Bf.f, Bg.f, lenD, L2.M.intD, maxD, minD, repD, strD, gmaxD, gminD, sumD, sortD, anyD, allD, mCall, frz, fzO, lend, wb, mTup, mLst, fzs, cD, mAsg, bTup, bTps, mApp, tupD, lstD, mRev, revD, ofs_inj, ee_ii, ee_ss, ee_bb, ee_nn, ee_is, ee_si, ee_in, ee_ni, ee_tt, ee_ll, ee_maps, ee_0, ee_1, ee_2, ee_3, at_lit, at_nat, at_m1, at_m2, scD, emD, sizeLine_eq, ixN, sm_lit, mSrc, itemsD, plOf, rng1D, bNm, mSl, mPt, mNoP, slD, mPar, keepT, tmsO, setA, mFlow, zipX, enumX, itemsX, intsOf, ints_all, boolsOf, shaped_lay, lay_int, lay_bool, lay_none, lay_dict, lay_tup, lay_list, lay_ints, sortX_ints, mPlF, mPlI, mRd, mPU, mPB, mFSet, mFNew, mNSet, mPApp, mPSetIx, mPPop, mMeth, mNew, isIns, cellO, mLstN, mAddN, mAppN, semX, mTold, mCallX, xRet, xExpr, xSet, mRaise, mM, isL, isS, mOrV, truD, *])
local macro_rules | `(tactic| walk_at "el") => `(tactic| simp [semF, shared, after, mSeq, mSkip, mIf, mRet, mRetN, mRetV, mSet, mSetIx, mExpr, mB, mU, mTm, mPl, mK, mVar, mOp, mCons, mNil, bor, bors, mTst, mAndT, mOrT, mNotT, mAndE, mOrE, mNotE, mIfE, mIsi, isiD, mChn, chnL, cmpD, binD, addD, subD, mulD, modD, fdivD, powD, eqD, neD, ltD, leD, gtD, geD, isD, isnD, L2.M.isNon, negD, ixD, Bf.f, Bg.f, lenD, L2.M.intD, maxD, minD, repD, strD, gmaxD, gminD, sumD, sortD, anyD, allD, mCall, frz, fzO, lend, wb, mTup, mLst, fzs, cD, mAsg, bTup, bTps, mApp, tupD, lstD, mRev, revD, ofs_inj, ee_ii, ee_ss, ee_bb, ee_nn, ee_is, ee_si, ee_in, ee_ni, ee_tt, ee_ll, ee_maps, ee_0, ee_1, ee_2, ee_3, at_lit, at_nat, at_m1, at_m2, scD, emD, sizeLine_eq, ixN, sm_lit, mSrc, itemsD, plOf, rng1D, bNm, mSl, mPt, mNoP, slD, mPar, keepT, tmsO, setA, mFlow, zipX, enumX, itemsX, intsOf, ints_all, boolsOf, shaped_lay, lay_int, lay_bool, lay_none, lay_dict, lay_tup, lay_list, lay_ints, sortX_ints, mPlF, mPlI, mRd, mPU, mPB, mFSet, mFNew, mNSet, mPApp, mPSetIx, mPPop, mMeth, mNew, isIns, cellO, mLstN, mAddN, mAppN, semX, mTold, mCallX, xRet, xExpr, xSet, mRaise, mM, isL, isS, mOrV, truD, mLc, lcL, sameC, wipeC, restC, mYes, *])
local macro_rules | `(tactic| walk_at "ef") => `(tactic| simp [semF, shared, after, mSeq, mSkip, mIf, mRet, mRetN, mRetV, mSet, mSetIx, mExpr, mB, mU, mTm, mPl, mK, mVar, mOp, mCons, mNil, bor, bors, mTst, mAndT, mOrT, mNotT, mAndE, mOrE, mNotE, mIfE, mIsi, isiD, mChn, chnL, cmpD, binD, addD, subD, mulD, modD, fdivD, powD, eqD, neD, ltD, leD, gtD, geD, isD, isnD, L2.M.isNon, negD, ixD, Bf.f, Bg.f, lenD, L2.M.intD, maxD, minD, repD, strD, gmaxD, gminD, sumD, sortD, anyD, allD, mCall, frz, fzO, lend, wb, mTup, mLst, fzs, cD, mAsg, bTup, bTps, mApp, tupD, lstD, mRev, revD, ofs_inj, ee_ii, ee_ss, ee_bb, ee_nn, ee_is, ee_si, ee_in, ee_ni, ee_tt, ee_ll, ee_maps, ee_0, ee_1, ee_2, ee_3, at_lit, at_nat, at_m1, at_m2, scD, emD, sizeLine_eq, ixN, sm_lit, mSrc, itemsD, plOf, rng1D, bNm, mSl, mPt, mNoP, slD, mPar, keepT, tmsO, setA, mFlow, zipX, enumX, itemsX, intsOf, ints_all, boolsOf, shaped_lay, lay_int, lay_bool, lay_none, lay_dict, lay_tup, lay_list, lay_ints, sortX_ints, mPlF, mPlI, mRd, mPU, mPB, mFSet, mFNew, mNSet, mPApp, mPSetIx, mPPop, mMeth, mNew, isIns, cellO, mLstN, mAddN, mAppN, semX, mTold, mCallX, xRet, xExpr, xSet, mRaise, mM, isL, isS, mOrV, truD, mFor, forL, mLc, lcL, sameC, wipeC, restC, mYes, *])
local macro_rules | `(tactic| walk_at "rg") => `(tactic| (and_intros <;> grind))
local macro_rules | `(tactic| walk_at "nx") => `(tactic| (apply wx_nx; focus (walk_at "ev"; try first | exact ⟨rfl, rfl⟩ | rfl)))
local macro_rules | `(tactic| walk_at "ns") => `(tactic| (apply wx_nx; focus (walk_at "es"; try first | exact ⟨rfl, rfl⟩ | rfl)))
local macro_rules | `(tactic| walk_at "rt") => `(tactic| (apply wx_rt; focus (walk_at "ev"; try first | exact ⟨rfl, rfl⟩ | rfl)))
local macro_rules | `(tactic| walk_at "rs") => `(tactic| (apply wx_rt; focus (walk_at "es"; try first | exact ⟨rfl, rfl⟩ | rfl)))
local macro_rules | `(tactic| walk_at "ed") => `(tactic| simp [semF, shared, after, mSeq, mSkip, mIf, mRet, mRetN, mRetV, mSet, mSetIx, mExpr, mB, mU, mTm, mPl, mK, mVar, mOp, mCons, mNil, bor, bors, mTst, mAndT, mOrT, mNotT, mAndE, mOrE, mNotE, mIfE, mIsi, isiD, mChn, chnL, cmpD, binD, addD, subD, mulD, modD, fdivD, powD, eqD, neD, ltD, leD, gtD, geD, isD, isnD, L2.M.isNon, negD, ixD, Bf.f, Bg.f, lenD, L2.M.intD, maxD, minD, repD, strD, gmaxD, gminD, sumD, sortD, anyD, allD, mCall, frz, fzO, lend, wb, mTup, mLst, fzs, cD, mAsg, bTup, bTps, mApp, tupD, lstD, mRev, revD, ofs_inj, ee_ii, ee_ss, ee_bb, ee_nn, ee_is, ee_si, ee_in, ee_ni, ee_tt, ee_ll, ee_maps, ee_0, ee_1, ee_2, ee_3, at_lit, at_nat, at_m1, at_m2, scD, emD, sizeLine_eq, ixN, sm_lit, mSrc, itemsD, plOf, rng1D, bNm, mSl, mPt, mNoP, slD, mPar, keepT, tmsO, setA, mFlow, zipX, enumX, itemsX, intsOf, ints_all, boolsOf, shaped_lay, lay_int, lay_bool, lay_none, lay_dict, lay_tup, lay_list, lay_ints, sortX_ints, mPlF, mPlI, mRd, mPU, mPB, mFSet, mFNew, mNSet, mPApp, mPSetIx, mPPop, mMeth, mNew, isIns, cellO, mLstN, mAddN, mAppN, semX, mTold, mCallX, xRet, xExpr, xSet, mRaise, mM, isL, isS, mOrV, truD, mDNew, mDIn, mDGet, mDLen, mDPut, kyD, mNNew, mN1, mTake, mFnV, mCallF, mNIn, mNGet, mNPut, mNVals, mNList, nKs, mDGetD, mDList, mNNe, *])
theorem sch_inv {need : Int} {A : List (Int × Int)} (hA : ∀ p ∈ A, 0 ≤ p.1) {q : Sq} {x : Nat × Int} (h : Sch need A (q ++ [x])) : plc need A x.1 x.2 = true ∧ x.1 ∉ q.map (·.1) ∧ fre need q ≤ x.2 := by
  have h1 := h.p x (by simp)
  refine ⟨h1, ?_, ?_⟩
  · have := h.d
    rw [List.map_append, List.nodup_append] at this
    intro hx
    exact this.2.2 _ hx _ (by simp) rfl
  · unfold fre
    split
    · obtain ⟨k1, k2, _⟩ := plc_iff.mp h1
      have : A.getD x.1 (0, 0) ∈ A := by
        rw [List.getD_eq_getElem?_getD, List.getElem?_eq_getElem k1]
        simp
      have := hA _ this
      omega
    · rename_i hq
      obtain ⟨r, y, rfl⟩ : ∃ r y, q = r ++ [y] := ⟨q.dropLast, q.getLast hq, (List.dropLast_concat_getLast hq).symm⟩
      have ho := h.o
      rw [List.append_assoc, List.pairwise_append] at ho
      have := (List.pairwise_cons.mp ho.2.1).1 x (by simp)
      rw [lb_snoc]
      exact this
theorem sch_ext {need : Int} (hn : 0 ≤ need) {A : List (Int × Int)} {q : Sq} (h : Sch need A q) {k : Nat} {b : Int} (h1 : plc need A k b = true) (h2 : k ∉ q.map (·.1)) (h3 : fre need q ≤ b) : Sch need A (q ++ [(k, b)]) := by
  refine sch_snoc hn h h1 h2 ?_
  by_cases e : q = []
  · exact .inl e
  · refine .inr ?_
    unfold fre at h3
    rwa [if_neg e] at h3
theorem in_ints (L : List Int) (k : Int) : cmpD .In (.int k) (.list (L.map .int)) = some (.sh (.bool (decide (k ∈ L)))) := by
  have h1 : SeqAt.shaped (.list (L.map PyData.int)) = true := by rw [shaped_lay, lay_list _ (by decide), lay_ints]
  have h2 : SeqAt.shaped (.int k) = true := by rw [shaped_lay, lay_int]
  have e : (L.map PyData.int).any (fun z => PyData.eqv z (.int k)) = decide (k ∈ L) := by
    rw [List.any_map, Bool.eq_iff_iff, List.any_eq_true, decide_eq_true_eq]
    constructor
    · rintro ⟨x, hx, hh⟩
      simp only [Function.comp, ee_ii, decide_eq_true_eq] at hh
      exact hh ▸ hx
    · intro hx
      exact ⟨_, hx, by simp [ee_ii]⟩
  rw [show cmpD .In = L2.M.inD from rfl, ← e]
  unfold inD
  simp only [h1, h2, Bool.and_self, if_true]
theorem lg_n {need : Int} {Y d : PyData} (h : NoT d) : g_law_good [.sh (.int need), .sh Y, .sh d] = some (.sh (.bool false), [.sh (.int need), .sh Y, .sh d]) := by
  unfold g_law_good m_law_good
  cases h <;> (walk_at "ev"; try rfl)
theorem lg_1n {need f : Int} {Y T d : PyData} {S : List PyData} {c6 c7 : C} (h : NoT d) : (mIf (mOrT (mNotT (mTst (mIsi .tuple (mPl 5)))) (mOrT (mTst (mB (cmpD .NotEq) (mTm (mOp (Bf.f .len) (mCons (mPl 5) (mNil)))) (mTm (mK (.int 2))))) (mOrT (mNotT (mTst (mCall [true] g_law_whole (mCons (mTm (mB ixD (mPl 5) (mTm (mK (.int 0))))) (mNil))))) (mNotT (mTst (mCall [true] g_law_whole (mCons (mTm (mB ixD (mPl 5) (mTm (mK (.int 1))))) (mNil)))))))) (mSeq (mRet (mK (.bool false))) (mSkip)) (mSkip)) [.sh (.int need), .sh Y, .sh T, .sh (.int f), .ls S, .sh d, c6, c7] = some (.rt (.sh (.bool false)), [.sh (.int need), .sh Y, .sh T, .sh (.int f), .ls S, .sh d, c6, c7]) := by
  cases h <;> walk_at "ev"
theorem lg_1l {need f N : Int} {Y T : PyData} {S D : List PyData} {c6 c7 : C} (h : (D.length : Int) = N) (h2 : ¬ N = 2) : (mIf (mOrT (mNotT (mTst (mIsi .tuple (mPl 5)))) (mOrT (mTst (mB (cmpD .NotEq) (mTm (mOp (Bf.f .len) (mCons (mPl 5) (mNil)))) (mTm (mK (.int 2))))) (mOrT (mNotT (mTst (mCall [true] g_law_whole (mCons (mTm (mB ixD (mPl 5) (mTm (mK (.int 0))))) (mNil))))) (mNotT (mTst (mCall [true] g_law_whole (mCons (mTm (mB ixD (mPl 5) (mTm (mK (.int 1))))) (mNil)))))))) (mSeq (mRet (mK (.bool false))) (mSkip)) (mSkip)) [.sh (.int need), .sh Y, .sh T, .sh (.int f), .ls S, .sh (.tuple D), c6, c7] = some (.rt (.sh (.bool false)), [.sh (.int need), .sh Y, .sh T, .sh (.int f), .ls S, .sh (.tuple D), c6, c7]) := by
  walk_at "es"
theorem lg_1w1 {need f : Int} {Y T a b : PyData} {S : List PyData} {c6 c7 : C} (w : g_law_whole [.sh a] = some (.sh (.bool false), [.sh a])) : (mIf (mOrT (mNotT (mTst (mIsi .tuple (mPl 5)))) (mOrT (mTst (mB (cmpD .NotEq) (mTm (mOp (Bf.f .len) (mCons (mPl 5) (mNil)))) (mTm (mK (.int 2))))) (mOrT (mNotT (mTst (mCall [true] g_law_whole (mCons (mTm (mB ixD (mPl 5) (mTm (mK (.int 0))))) (mNil))))) (mNotT (mTst (mCall [true] g_law_whole (mCons (mTm (mB ixD (mPl 5) (mTm (mK (.int 1))))) (mNil)))))))) (mSeq (mRet (mK (.bool false))) (mSkip)) (mSkip)) [.sh (.int need), .sh Y, .sh T, .sh (.int f), .ls S, .sh (.tuple [a, b]), c6, c7] = some (.rt (.sh (.bool false)), [.sh (.int need), .sh Y, .sh T, .sh (.int f), .ls S, .sh (.tuple [a, b]), c6, c7]) := by
  generalize g_law_whole = G at *
  walk_at "es"
theorem lg_1w2 {need f : Int} {Y T a b : PyData} {S : List PyData} {c6 c7 : C} (w : g_law_whole [.sh a] = some (.sh (.bool true), [.sh a])) (w2 : g_law_whole [.sh b] = some (.sh (.bool false), [.sh b])) : (mIf (mOrT (mNotT (mTst (mIsi .tuple (mPl 5)))) (mOrT (mTst (mB (cmpD .NotEq) (mTm (mOp (Bf.f .len) (mCons (mPl 5) (mNil)))) (mTm (mK (.int 2))))) (mOrT (mNotT (mTst (mCall [true] g_law_whole (mCons (mTm (mB ixD (mPl 5) (mTm (mK (.int 0))))) (mNil))))) (mNotT (mTst (mCall [true] g_law_whole (mCons (mTm (mB ixD (mPl 5) (mTm (mK (.int 1))))) (mNil)))))))) (mSeq (mRet (mK (.bool false))) (mSkip)) (mSkip)) [.sh (.int need), .sh Y, .sh T, .sh (.int f), .ls S, .sh (.tuple [a, b]), c6, c7] = some (.rt (.sh (.bool false)), [.sh (.int need), .sh Y, .sh T, .sh (.int f), .ls S, .sh (.tuple [a, b]), c6, c7]) := by
  generalize g_law_whole = G at *
  walk_at "es"
theorem lg_1 {need f k b : Int} {Y T : PyData} {S : List PyData} {c6 c7 : C} (w : g_law_whole [.sh (.int k)] = some (.sh (.bool true), [.sh (.int k)])) (w2 : g_law_whole [.sh (.int b)] = some (.sh (.bool true), [.sh (.int b)])) : (mIf (mOrT (mNotT (mTst (mIsi .tuple (mPl 5)))) (mOrT (mTst (mB (cmpD .NotEq) (mTm (mOp (Bf.f .len) (mCons (mPl 5) (mNil)))) (mTm (mK (.int 2))))) (mOrT (mNotT (mTst (mCall [true] g_law_whole (mCons (mTm (mB ixD (mPl 5) (mTm (mK (.int 0))))) (mNil))))) (mNotT (mTst (mCall [true] g_law_whole (mCons (mTm (mB ixD (mPl 5) (mTm (mK (.int 1))))) (mNil)))))))) (mSeq (mRet (mK (.bool false))) (mSkip)) (mSkip)) [.sh (.int need), .sh Y, .sh T, .sh (.int f), .ls S, .sh (.tuple [.int k, .int b]), c6, c7] = some (.nx, [.sh (.int need), .sh Y, .sh T, .sh (.int f), .ls S, .sh (.tuple [.int k, .int b]), c6, c7]) := by
  generalize g_law_whole = G at *
  walk_at "es"
theorem lg_2a {need f k b N : Int} {A S : List PyData} {T : PyData} {c6 c7 : C} (h : (A.length : Int) = N) (hk : ¬ (0 ≤ k ∧ k < N)) : (mIf (mOrT (mNotT (mTst (mChn (mTm (mK (.int 0))) [(cmpD .LtE, mTm (mB ixD (mPl 5) (mTm (mK (.int 0))))), (cmpD .Lt, mTm (mOp (Bf.f .len) (mCons (mPl 1) (mNil))))]))) (mOrT (mTst (mB (cmpD .In) (mTm (mB ixD (mPl 5) (mTm (mK (.int 0))))) (mPl 4))) (mTst (mB (cmpD .Lt) (mTm (mB ixD (mPl 5) (mTm (mK (.int 1))))) (mPl 3))))) (mSeq (mRet (mK (.bool false))) (mSkip)) (mSkip)) [.sh (.int need), .sh (.tuple A), .sh T, .sh (.int f), .ls S, .sh (.tuple [.int k, .int b]), c6, c7] = some (.rt (.sh (.bool false)), [.sh (.int need), .sh (.tuple A), .sh T, .sh (.int f), .ls S, .sh (.tuple [.int k, .int b]), c6, c7]) := by
  by_cases h0 : 0 ≤ k
  · have h1 : ¬ k < N := fun e => hk ⟨h0, e⟩
    clear hk
    walk_at "es"
  · clear hk
    walk_at "es"
theorem lg_2 {need f k b N : Int} {A S : List PyData} {T : PyData} {c6 c7 : C} {u : Bool} (h : (A.length : Int) = N) (h0 : 0 ≤ k) (h1 : k < N) (hi : cmpD .In (.int k) (.list S) = some (.sh (.bool u))) : (mIf (mOrT (mNotT (mTst (mChn (mTm (mK (.int 0))) [(cmpD .LtE, mTm (mB ixD (mPl 5) (mTm (mK (.int 0))))), (cmpD .Lt, mTm (mOp (Bf.f .len) (mCons (mPl 1) (mNil))))]))) (mOrT (mTst (mB (cmpD .In) (mTm (mB ixD (mPl 5) (mTm (mK (.int 0))))) (mPl 4))) (mTst (mB (cmpD .Lt) (mTm (mB ixD (mPl 5) (mTm (mK (.int 1))))) (mPl 3))))) (mSeq (mRet (mK (.bool false))) (mSkip)) (mSkip)) [.sh (.int need), .sh (.tuple A), .sh T, .sh (.int f), .ls S, .sh (.tuple [.int k, .int b]), c6, c7] = some (if u = true ∨ b < f then .rt (.sh (.bool false)) else .nx, [.sh (.int need), .sh (.tuple A), .sh T, .sh (.int f), .ls S, .sh (.tuple [.int k, .int b]), c6, c7]) := by
  generalize hI : cmpD .In = I at *
  cases u
  · by_cases c : b < f <;> walk_at "es"
  · walk_at "es"
theorem lg_3 {need f k b bt tm : Int} {A S : List PyData} {T : PyData} {c6 c7 : C} (ha : atI A k = some (.tuple [.int bt, .int tm])) : (mAsg [6, 7] [0, 1, 2] (bTup [bNm 6, bNm 7]) (mB ixD (mPl 1) (mTm (mB ixD (mPl 5) (mTm (mK (.int 0))))))) [.sh (.int need), .sh (.tuple A), .sh T, .sh (.int f), .ls S, .sh (.tuple [.int k, .int b]), c6, c7] = some (.nx, [.sh (.int need), .sh (.tuple A), .sh T, .sh (.int f), .ls S, .sh (.tuple [.int k, .int b]), .sh (.int bt), .sh (.int tm)]) := by
  walk_at "es"
theorem lg_4 {need f k b bt tm : Int} {Y T : PyData} {S : List PyData} : (mIf (mOrT (mTst (mB (cmpD .Lt) (mTm (mB ixD (mPl 5) (mTm (mK (.int 1))))) (mPl 6))) (mTst (mB (cmpD .Gt) (mTm (mB (binD .Add) (mTm (mB ixD (mPl 5) (mTm (mK (.int 1))))) (mPl 0))) (mTm (mB (binD .Add) (mPl 6) (mPl 7)))))) (mSeq (mRet (mK (.bool false))) (mSkip)) (mSkip)) [.sh (.int need), .sh Y, .sh T, .sh (.int f), .ls S, .sh (.tuple [.int k, .int b]), .sh (.int bt), .sh (.int tm)] = some (if b < bt ∨ bt + tm < b + need then .rt (.sh (.bool false)) else .nx, [.sh (.int need), .sh Y, .sh T, .sh (.int f), .ls S, .sh (.tuple [.int k, .int b]), .sh (.int bt), .sh (.int tm)]) := by
  by_cases c : b < bt
  · walk_at "es"
  · by_cases c2 : bt + tm < b + need <;> walk_at "es"
theorem lg_5 {need f k b : Int} {Y T : PyData} {S : List PyData} {c6 c7 : C} (h : S.length + 1 ≤ 16777216) : (mPar [0, 1, 2] [3, 4] (mCons (mTm (mB (binD .Add) (mTm (mB ixD (mPl 5) (mTm (mK (.int 1))))) (mPl 0))) (mCons (mTm (mB (binD .Add) (mPl 4) (mTm (mLst (mCons (mTm (mB ixD (mPl 5) (mTm (mK (.int 0))))) (mNil)))))) (mNil)))) [.sh (.int need), .sh Y, .sh T, .sh (.int f), .ls S, .sh (.tuple [.int k, .int b]), c6, c7] = some (.nx, [.sh (.int need), .sh Y, .sh T, .sh (.int (b + need)), .ls (S ++ [.int k]), .sh (.tuple [.int k, .int b]), c6, c7]) := by
  walk_at "es"
theorem nms_snoc (q : Sq) (x : Nat × Int) : nms (q ++ [x]) = nms q ++ [(x.1 : Int)] := by simp [nms]
theorem mem_nms {q : Sq} {k : Nat} : (k : Int) ∈ nms q ↔ k ∈ q.map (·.1) := by
  unfold nms
  rw [List.mem_map, List.mem_map]
  constructor
  · rintro ⟨x, hx, e⟩
    exact ⟨x, hx, by omega⟩
  · rintro ⟨x, hx, e⟩
    exact ⟨x, hx, by omega⟩
theorem fre_snoc (n : Int) (q : Sq) (x : Nat × Int) : fre n (q ++ [x]) = x.2 + n := by
  unfold fre
  rw [if_neg (by simp), lb_snoc]
theorem law_good_any {need : Int} (hn : 0 ≤ need) {A : List (Int × Int)} (hA : ∀ p ∈ A, 0 ≤ p.1) {d : PyData} (hd : Sml d) : ∃ b, (b = true ↔ Good need A d) ∧ g_law_good [.sh (.int need), .sh (stD A), .sh d] = some (.sh (.bool b), [.sh (.int need), .sh (stD A), .sh d]) := by
  rcases tup_or d with ⟨ds, rfl⟩ | h
  · have hl := hd ds rfl
    have main : Rt (g_law_good [.sh (.int need), .sh (stD A), .sh (.tuple ds)]) fun c cs => ∃ b, (b = true ↔ Good need A (.tuple ds)) ∧ c = .sh (.bool b) ∧ cs = [.sh (.int need), .sh (stD A), .sh (.tuple ds)] := by
      unfold g_law_good m_law_good
      apply rt_sem rfl
      apply wx_nx (ε1 := [.sh (.int need), .sh (stD A), .sh (.tuple ds), .no, .no, .no, .no, .no])
      · generalize stD A = Y
        clear hl hd
        walk_at "ev"
      apply wx_nx (ε1 := [.sh (.int need), .sh (stD A), .sh (.tuple ds), .sh (.int 0), .ls [], .no, .no, .no])
      · generalize stD A = Y
        clear hl hd
        walk_at "ev"
      apply wx_seq
      apply wx_for (ds := ds) (ws := []) (ε1 := [.sh (.int need), .sh (stD A), .sh (.tuple ds), .sh (.int 0), .ls [], .no, .no, .no]) fun i ε => ∃ (q : Sq) (c5 c6 c7 : C), ds.take i = q.map prN ∧ Sch need A q ∧ ε = [.sh (.int need), .sh (stD A), .sh (.tuple ds), .sh (.int (fre need q)), .ls ((nms q).map .int), c5, c6, c7]
      · generalize stD A = Y
        clear hl hd
        walk_at "ev"
      · rfl
      · exact ⟨[], _, _, _, by simp, sch_nil _ _, rfl⟩
      · intro i ε _ j hj
        cases hj
      · rintro i d ε hdi ⟨q, c5, c6, c7, hq, hs, rfl⟩
        obtain ⟨hi, rfl⟩ := List.getElem?_eq_some_iff.mp hdi
        have bad : ∀ {b : Bool}, b = false → (∀ x : Nat × Int, ds[i] = prN x → ¬ Sch need A (q ++ [x])) → (b = true ↔ Good need A (.tuple ds)) := by
          rintro b rfl hno
          refine ⟨fun h => (by cases h), ?_⟩
          rintro ⟨ds', e, hg⟩
          injection e with e
          subst e
          obtain ⟨x, e1, e2⟩ := good_at hg hi hq
          exact absurd e2 (hno x e1)
        have hq1 : ds.take (i + 1) = q.map prN ++ [ds[i]] := by rw [List.take_succ_eq_append_getElem hi, hq]
        have hql : q.length ≤ 1000 := by
          have := congrArg List.length hq
          rw [List.length_take, List.length_map] at this
          omega
        refine ⟨[.sh (.int need), .sh (stD A), .sh (.tuple ds), .sh (.int (fre need q)), .ls ((nms q).map .int), .sh ds[i], c6, c7], rfl, ?_⟩
        have hf := frm_any ds[i]
        clear hdi
        generalize ds[i] = d at *
        rcases hf with h | h | h | ⟨h, h2⟩ | ⟨k, b⟩
        · refine wx_rt (lg_1n h) ⟨false, bad rfl fun x e => ?_, rfl, rfl⟩
          rw [e] at h
          cases h
        · refine wx_rt (lg_1l rfl (by omega)) ⟨false, bad rfl fun x e => ?_, rfl, rfl⟩
          unfold prN at e
          injection e with e
          rw [e] at h
          exact absurd rfl h
        · rename_i a b
          have w := law_whole_eq a
          rw [h] at w
          refine wx_rt (lg_1w1 w) ⟨false, bad rfl fun x e => ?_, rfl, rfl⟩
          unfold prN at e
          injection e with e
          injection e with e _
          rw [e] at h
          cases h
        · rename_i a b
          have w := law_whole_eq a
          rw [h] at w
          have w2 := law_whole_eq b
          rw [h2] at w2
          refine wx_rt (lg_1w2 w w2) ⟨false, bad rfl fun x e => ?_, rfl, rfl⟩
          unfold prN at e
          injection e with e
          injection e with _ e
          injection e with e _
          rw [e] at h2
          cases h2
        · apply wx_nx (lg_1 (law_whole_eq _) (law_whole_eq _))
          have inj : ∀ x : Nat × Int, PyData.tuple [.int k, .int b] = prN x → k = (x.1 : Int) ∧ b = x.2 := by
            intro x e
            unfold prN at e
            injection e with e
            injection e with e1 e2
            injection e2 with e2 _
            injection e1 with e1
            injection e2 with e2
            exact ⟨e1, e2⟩
          by_cases hk : 0 ≤ k ∧ k < (A.length : Int)
          · obtain ⟨n, rfl⟩ : ∃ n : Nat, k = n := ⟨k.toNat, by omega⟩
            have e2 := lg_2 (need := need) (f := fre need q) (k := (n : Int)) (b := b) (N := (A.length : Int)) (A := A.map pr) (S := (nms q).map .int) (T := .tuple ds) (c6 := c6) (c7 := c7) (by simp) hk.1 hk.2 (in_ints _ _)
            simp only [decide_eq_true_eq] at e2
            by_cases c : (n : Int) ∈ nms q ∨ b < fre need q
            · rw [if_pos c] at e2
              refine wx_rt e2 ⟨false, bad rfl fun x e hs2 => ?_, rfl, rfl⟩
              obtain ⟨i1, i2, i3⟩ := sch_inv hA hs2
              obtain ⟨j1, j2⟩ := inj x e
              rcases c with c | c
              · rw [j1] at c
                exact i2 (mem_nms.mp c)
              · omega
            · rw [if_neg c] at e2
              apply wx_nx e2
              apply wx_nx (lg_3 (at_pr (by omega)))
              have e4 := lg_4 (need := need) (f := fre need q) (k := (n : Int)) (b := b) (bt := (A.getD n (0, 0)).1) (tm := (A.getD n (0, 0)).2) (Y := stD A) (T := .tuple ds) (S := (nms q).map .int)
              by_cases c2 : b < (A.getD n (0, 0)).1 ∨ (A.getD n (0, 0)).1 + (A.getD n (0, 0)).2 < b + need
              · rw [if_pos c2] at e4
                refine wx_rt e4 ⟨false, bad rfl fun x e hs2 => ?_, rfl, rfl⟩
                obtain ⟨i1, i2, i3⟩ := sch_inv hA hs2
                obtain ⟨j1, j2⟩ := inj x e
                have j1 : n = x.1 := by omega
                obtain ⟨_, p1, p2⟩ := plc_iff.mp i1
                rw [← j1] at p1 p2
                rcases c2 with c2 | c2 <;> omega
              · rw [if_neg c2] at e4
                apply wx_nx e4
                have hpl : plc need A n b = true := plc_iff.mpr ⟨by omega, by omega, by omega⟩
                have hs2 := sch_ext hn hs hpl (fun h => c (.inl (mem_nms.mpr h))) (by omega)
                apply wx_nx (lg_5 (by simp [nms]; omega))
                refine wx_skip ⟨q ++ [(n, b)], .sh (.tuple [.int (n : Int), .int b]), .sh (.int (A.getD n (0, 0)).1), .sh (.int (A.getD n (0, 0)).2), ?_, hs2, ?_⟩
                · rw [hq1, List.map_append]
                  rfl
                · rw [fre_snoc, nms_snoc, List.map_append]
                  rfl
          · refine wx_rt (lg_2a (N := (A.length : Int)) (by simp) hk) ⟨false, bad rfl fun x e hs2 => ?_, rfl, rfl⟩
            obtain ⟨i1, i2, i3⟩ := sch_inv hA hs2
            obtain ⟨j1, j2⟩ := inj x e
            obtain ⟨p0, _⟩ := plc_iff.mp i1
            omega
      · rintro ε ⟨q, c5, c6, c7, hq, hs, rfl⟩
        rw [List.take_length] at hq
        apply wx_rt (c := .sh (.bool true)) (ε1 := [.sh (.int need), .sh (stD A), .sh (.tuple ds), .sh (.int (fre need q)), .ls ((nms q).map .int), c5, c6, c7])
        · generalize stD A = Y
          generalize (nms q).map PyData.int = Z
          generalize fre need q = f
          clear hl hd hq
          walk_at "ev"
        exact ⟨true, ⟨fun _ => ⟨ds, rfl, q, hq, hs⟩, fun _ => rfl⟩, rfl, rfl⟩
    obtain ⟨c, cs, e, b, hb, rfl, rfl⟩ := main
    exact ⟨b, hb, e⟩
  · refine ⟨false, ⟨fun h => (by cases h), ?_⟩, lg_n h⟩
    rintro ⟨ds, rfl, _⟩
    cases h
end KW
namespace KW
open PySem PySem.Spec PyProof.Rows L2 L2.M
local macro_rules | `(tactic| walk_at "ev") => `(tactic| simp [semF, shared, after, mSeq, mSkip, mIf, mRet, mRetN, mRetV, mSet, mSetIx, mExpr, mB, mU, mTm, mPl, mK, mVar, mOp, mCons, mNil, bor, bors, mTst, mAndT, mOrT, mNotT, mAndE, mOrE, mNotE, mIfE, mIsi, isiD, mChn, chnL, cmpD, binD, addD, subD, mulD, modD, fdivD, powD, eqD, neD, ltD, leD, gtD, geD, isD, isnD, L2.M.isNon, negD, ixD, Bf.f, Bg.f, lenD, L2.M.intD, maxD, minD, repD, strD, gmaxD, gminD, sumD, sortD, anyD, allD, mCall, frz, fzO, lend, wb, mTup, mLst, fzs, cD, mAsg, bTup, bTps, mApp, tupD, lstD, mRev, revD, ofs_inj, ee_ii, ee_ss, ee_bb, ee_nn, ee_is, ee_si, ee_in, ee_ni, ee_tt, ee_ll, ee_maps, ee_0, ee_1, ee_2, ee_3, at_lit, at_nat, at_m1, at_m2, scD, emD, sizeLine_eq, ixN, sm_lit, mSrc, itemsD, plOf, rng1D, bNm, mSl, mPt, mNoP, slD, mPar, keepT, tmsO, setA, mFlow, zipX, enumX, itemsX, intsOf, ints_all, boolsOf, shaped_lay, lay_int, lay_bool, lay_none, lay_dict, lay_tup, lay_list, lay_ints, sortX_ints, mPlF, mPlI, mRd, mPU, mPB, mFSet, mFNew, mNSet, mPApp, mPSetIx, mPPop, mMeth, mNew, isIns, cellO, mLstN, mAddN, mAppN, semX, mTold, mCallX, xRet, xExpr, xSet, mRaise, mM, isL, isS, mOrV, truD])
local macro_rules | `(tactic| walk_at "es") => `(tactic| simp [semF, shared, after, mSeq, mSkip, mIf, mRet, mRetN, mRetV, mSet, mSetIx, mExpr, mB, mU, mTm, mPl, mK, mVar, mOp, mCons, mNil, bor, bors, mTst, mAndT, mOrT, mNotT, mAndE, mOrE, mNotE, mIfE, mIsi, isiD, mChn, chnL, cmpD, binD, addD, subD, mulD, modD, fdivD, powD, eqD, neD, ltD, leD, gtD, geD, isD, isnD, L2.M.isNon, negD, ixD, Bf.f, Bg.f, lenD, L2.M.intD, maxD, minD, repD, strD, gmaxD, gminD, sumD, sortD, anyD, allD, mCall, frz, fzO, lend, wb, mTup, mLst, fzs, cD, mAsg, bTup, bTps, mApp, tupD, lstD, mRev, revD, ofs_inj, ee_ii, ee_ss, ee_bb, ee_nn, ee_is, ee_si, ee_in, ee_ni, ee_tt, ee_ll, ee_maps, ee_0, ee_1, ee_2, ee_3, at_lit, at_nat, at_m1, at_m2, scD, emD, sizeLine_eq, ixN, sm_lit, mSrc, itemsD, plOf, rng1D, bNm, mSl, mPt, mNoP, slD, mPar, keepT, tmsO, setA, mFlow, zipX, enumX, itemsX, intsOf, ints_all, boolsOf, shaped_lay, lay_int, lay_bool, lay_none, lay_dict, lay_tup, lay_list, lay_ints, sortX_ints, mPlF, mPlI, mRd, mPU, mPB, mFSet, mFNew, mNSet, mPApp, mPSetIx, mPPop, mMeth, mNew, isIns, cellO, mLstN, mAddN, mAppN, semX, mTold, mCallX, xRet, xExpr, xSet, mRaise, mM, isL, isS, mOrV, truD, *])
local macro_rules | `(tactic| walk_at "el") => `(tactic| simp [semF, shared, after, mSeq, mSkip, mIf, mRet, mRetN, mRetV, mSet, mSetIx, mExpr, mB, mU, mTm, mPl, mK, mVar, mOp, mCons, mNil, bor, bors, mTst, mAndT, mOrT, mNotT, mAndE, mOrE, mNotE, mIfE, mIsi, isiD, mChn, chnL, cmpD, binD, addD, subD, mulD, modD, fdivD, powD, eqD, neD, ltD, leD, gtD, geD, isD, isnD, L2.M.isNon, negD, ixD, Bf.f, Bg.f, lenD, L2.M.intD, maxD, minD, repD, strD, gmaxD, gminD, sumD, sortD, anyD, allD, mCall, frz, fzO, lend, wb, mTup, mLst, fzs, cD, mAsg, bTup, bTps, mApp, tupD, lstD, mRev, revD, ofs_inj, ee_ii, ee_ss, ee_bb, ee_nn, ee_is, ee_si, ee_in, ee_ni, ee_tt, ee_ll, ee_maps, ee_0, ee_1, ee_2, ee_3, at_lit, at_nat, at_m1, at_m2, scD, emD, sizeLine_eq, ixN, sm_lit, mSrc, itemsD, plOf, rng1D, bNm, mSl, mPt, mNoP, slD, mPar, keepT, tmsO, setA, mFlow, zipX, enumX, itemsX, intsOf, ints_all, boolsOf, shaped_lay, lay_int, lay_bool, lay_none, lay_dict, lay_tup, lay_list, lay_ints, sortX_ints, mPlF, mPlI, mRd, mPU, mPB, mFSet, mFNew, mNSet, mPApp, mPSetIx, mPPop, mMeth, mNew, isIns, cellO, mLstN, mAddN, mAppN, semX, mTold, mCallX, xRet, xExpr, xSet, mRaise, mM, isL, isS, mOrV, truD, mLc, lcL, sameC, wipeC, restC, mYes, *])
local macro_rules | `(tactic| walk_at "ef") => `(tactic| simp [semF, shared, after, mSeq, mSkip, mIf, mRet, mRetN, mRetV, mSet, mSetIx, mExpr, mB, mU, mTm, mPl, mK, mVar, mOp, mCons, mNil, bor, bors, mTst, mAndT, mOrT, mNotT, mAndE, mOrE, mNotE, mIfE, mIsi, isiD, mChn, chnL, cmpD, binD, addD, subD, mulD, modD, fdivD, powD, eqD, neD, ltD, leD, gtD, geD, isD, isnD, L2.M.isNon, negD, ixD, Bf.f, Bg.f, lenD, L2.M.intD, maxD, minD, repD, strD, gmaxD, gminD, sumD, sortD, anyD, allD, mCall, frz, fzO, lend, wb, mTup, mLst, fzs, cD, mAsg, bTup, bTps, mApp, tupD, lstD, mRev, revD, ofs_inj, ee_ii, ee_ss, ee_bb, ee_nn, ee_is, ee_si, ee_in, ee_ni, ee_tt, ee_ll, ee_maps, ee_0, ee_1, ee_2, ee_3, at_lit, at_nat, at_m1, at_m2, scD, emD, sizeLine_eq, ixN, sm_lit, mSrc, itemsD, plOf, rng1D, bNm, mSl, mPt, mNoP, slD, mPar, keepT, tmsO, setA, mFlow, zipX, enumX, itemsX, intsOf, ints_all, boolsOf, shaped_lay, lay_int, lay_bool, lay_none, lay_dict, lay_tup, lay_list, lay_ints, sortX_ints, mPlF, mPlI, mRd, mPU, mPB, mFSet, mFNew, mNSet, mPApp, mPSetIx, mPPop, mMeth, mNew, isIns, cellO, mLstN, mAddN, mAppN, semX, mTold, mCallX, xRet, xExpr, xSet, mRaise, mM, isL, isS, mOrV, truD, mFor, forL, mLc, lcL, sameC, wipeC, restC, mYes, *])
local macro_rules | `(tactic| walk_at "rg") => `(tactic| (and_intros <;> grind))
local macro_rules | `(tactic| walk_at "nx") => `(tactic| (apply wx_nx; focus (walk_at "ev"; try first | exact ⟨rfl, rfl⟩ | rfl)))
local macro_rules | `(tactic| walk_at "ns") => `(tactic| (apply wx_nx; focus (walk_at "es"; try first | exact ⟨rfl, rfl⟩ | rfl)))
local macro_rules | `(tactic| walk_at "rt") => `(tactic| (apply wx_rt; focus (walk_at "ev"; try first | exact ⟨rfl, rfl⟩ | rfl)))
local macro_rules | `(tactic| walk_at "rs") => `(tactic| (apply wx_rt; focus (walk_at "es"; try first | exact ⟨rfl, rfl⟩ | rfl)))
local macro_rules | `(tactic| walk_at "ed") => `(tactic| simp [semF, shared, after, mSeq, mSkip, mIf, mRet, mRetN, mRetV, mSet, mSetIx, mExpr, mB, mU, mTm, mPl, mK, mVar, mOp, mCons, mNil, bor, bors, mTst, mAndT, mOrT, mNotT, mAndE, mOrE, mNotE, mIfE, mIsi, isiD, mChn, chnL, cmpD, binD, addD, subD, mulD, modD, fdivD, powD, eqD, neD, ltD, leD, gtD, geD, isD, isnD, L2.M.isNon, negD, ixD, Bf.f, Bg.f, lenD, L2.M.intD, maxD, minD, repD, strD, gmaxD, gminD, sumD, sortD, anyD, allD, mCall, frz, fzO, lend, wb, mTup, mLst, fzs, cD, mAsg, bTup, bTps, mApp, tupD, lstD, mRev, revD, ofs_inj, ee_ii, ee_ss, ee_bb, ee_nn, ee_is, ee_si, ee_in, ee_ni, ee_tt, ee_ll, ee_maps, ee_0, ee_1, ee_2, ee_3, at_lit, at_nat, at_m1, at_m2, scD, emD, sizeLine_eq, ixN, sm_lit, mSrc, itemsD, plOf, rng1D, bNm, mSl, mPt, mNoP, slD, mPar, keepT, tmsO, setA, mFlow, zipX, enumX, itemsX, intsOf, ints_all, boolsOf, shaped_lay, lay_int, lay_bool, lay_none, lay_dict, lay_tup, lay_list, lay_ints, sortX_ints, mPlF, mPlI, mRd, mPU, mPB, mFSet, mFNew, mNSet, mPApp, mPSetIx, mPPop, mMeth, mNew, isIns, cellO, mLstN, mAddN, mAppN, semX, mTold, mCallX, xRet, xExpr, xSet, mRaise, mM, isL, isS, mOrV, truD, mDNew, mDIn, mDGet, mDLen, mDPut, kyD, mNNew, mN1, mTake, mFnV, mCallF, mNIn, mNGet, mNPut, mNVals, mNList, nKs, mDGetD, mDList, mNNe, *])
def c1 (need : Int) (A : List (Int × Int)) (q : Sq) (k : Nat) : List Sq := if (!(nms q).contains (k : Int) && plc need A k (bgn need A q k)) = true then [q ++ [(k, bgn need A q k)]] else []
def cS (need : Int) (A : List (Int × Int)) (q : Sq) (k : Nat) : List Sq := (List.range k).flatMap (c1 need A q)
theorem cS_s (need : Int) (A : List (Int × Int)) (q : Sq) (k : Nat) : cS need A q (k + 1) = cS need A q k ++ c1 need A q k := by
  unfold cS
  rw [List.range_succ, List.flatMap_append]
  simp
def DomQ (need : Int) (q r : Sq) : Prop := ∃ s t, r = s ++ t ∧ nms s = nms q ∧ fre need q ≤ fre need s
theorem nms_len {q s : Sq} (h : nms s = nms q) : s.length = q.length := by
  have := congrArg List.length h
  simpa [nms] using this
theorem dom_step {need : Int} {A : List (Int × Int)} (hA : ∀ p ∈ A, 0 ≤ p.1) {q r : Sq} (hr : Sch need A r) (hd : DomQ need q r) : r.length ≤ q.length ∨ ∃ z ∈ cS need A q A.length, DomQ need z r := by
  obtain ⟨s, t, rfl, h1, h2⟩ := hd
  cases t with
  | nil =>
    left
    rw [List.append_nil, nms_len h1]
    exact Nat.le_refl _
  | cons x t =>
    right
    have hs2 : Sch need A (s ++ [x]) := sch_pre (r := t) (by simpa using hr)
    obtain ⟨i1, i2, i3⟩ := sch_inv hA hs2
    obtain ⟨p0, p1, p2⟩ := plc_iff.mp i1
    have hb : bgn need A q x.1 ≤ x.2 := by
      unfold bgn
      split <;> omega
    have hb2 : (A.getD x.1 (0, 0)).1 ≤ bgn need A q x.1 := by
      unfold bgn
      split <;> omega
    refine ⟨q ++ [(x.1, bgn need A q x.1)], ?_, s ++ [x], t, by simp, ?_, ?_⟩
    · refine List.mem_flatMap.mpr ⟨x.1, List.mem_range.mpr p0, ?_⟩
      unfold c1
      rw [if_pos]
      · exact List.mem_singleton.mpr rfl
      · rw [Bool.and_eq_true, Bool.not_eq_true', ← Bool.not_eq_true, List.contains_iff_mem, ← h1]
        exact ⟨fun h => i2 (mem_nms.mp h), plc_iff.mpr ⟨p0, hb2, by omega⟩⟩
    · rw [nms_snoc, nms_snoc, h1]
    · rw [fre_snoc, fre_snoc]
      dsimp only
      omega
theorem mem_cS {need : Int} (hn : 0 ≤ need) {A : List (Int × Int)} {q : Sq} (hq : Sch need A q) {k : Nat} {z : Sq} (h : z ∈ cS need A q k) : Sch need A z ∧ z.length = q.length + 1 := by
  obtain ⟨j, _, hz⟩ := List.mem_flatMap.mp h
  unfold c1 at hz
  split at hz
  · rename_i hc
    rw [Bool.and_eq_true, Bool.not_eq_true', ← Bool.not_eq_true, List.contains_iff_mem] at hc
    rw [List.mem_singleton.mp hz]
    refine ⟨sch_ext hn hq hc.2 (fun h => hc.1 (mem_nms.mpr h)) ?_, by simp⟩
    unfold bgn
    split <;> omega
  · cases hz
theorem cS_len {need : Int} {A : List (Int × Int)} {q : Sq} (hq : Sch need A q) : (cS need A q A.length).length + q.length ≤ A.length := by
  have e : ∀ k, (cS need A q k).length = ((List.range k).filter fun k : Nat => !(nms q).contains (k : Int) && plc need A k (bgn need A q k)).length := by
    intro k
    induction k with
    | zero => rfl
    | succ k ih =>
      rw [cS_s, List.length_append, ih, List.range_succ, List.filter_append, List.length_append]
      congr 1
      unfold c1
      by_cases h : (!(nms q).contains (k : Int) && plc need A k (bgn need A q k)) = true
      · rw [if_pos h, List.filter_cons_of_pos (by simpa using h)]
        rfl
      · rw [if_neg h, List.filter_cons_of_neg (by simpa using h)]
        rfl
  rw [e]
  have := nd_le (((List.range A.length).filter fun k : Nat => !(nms q).contains (k : Int) && plc need A k (bgn need A q k)) ++ q.map (·.1)) (List.range A.length) ?_ ?_
  · simpa using this
  · rw [List.nodup_append]
    refine ⟨List.nodup_range.filter _, hq.d, ?_⟩
    intro a ha b hb e
    subst e
    have := (List.mem_filter.mp ha).2
    rw [Bool.and_eq_true, Bool.not_eq_true', ← Bool.not_eq_true, List.contains_iff_mem] at this
    exact this.1 (mem_nms.mpr hb)
  · intro x hx
    rcases List.mem_append.mp hx with hx | hx
    · exact (List.mem_filter.mp hx).1
    · obtain ⟨y, hy, rfl⟩ := List.mem_map.mp hx
      exact List.mem_range.mpr (plc_iff.mp (hq.p y hy)).1
def tw : Nat → Nat
  | 0 => 1
  | r + 1 => 1 + (r + 1) * tw r
theorem tw_s (r : Nat) : tw (r + 1) = 1 + (r + 1) * tw r := rfl
theorem tw_pos : ∀ r, 1 ≤ tw r
  | 0 => Nat.le_refl _
  | r + 1 => by rw [tw_s]; omega
theorem tw_5 {r : Nat} (h : r ≤ 5) : tw r ≤ 326 := by
  match r, h with
  | 0, _ => decide
  | 1, _ => decide
  | 2, _ => decide
  | 3, _ => decide
  | 4, _ => decide
  | 5, _ => decide
def mW (A : List (Int × Int)) (W : List Sq) : Nat := (W.map fun q => tw (A.length - q.length)).sum
theorem mW_app (A : List (Int × Int)) (W V : List Sq) : mW A (W ++ V) = mW A W + mW A V := by simp [mW]
theorem mW_len (A : List (Int × Int)) : ∀ W : List Sq, W.length ≤ mW A W
  | [] => Nat.zero_le _
  | q :: W => by
    have := mW_len A W
    have := tw_pos (A.length - q.length)
    simp only [mW, List.map_cons, List.sum_cons, List.length_cons] at *
    omega
theorem mW_cS {need : Int} (hn : 0 ≤ need) {A : List (Int × Int)} {q : Sq} (hq : Sch need A q) : mW A (cS need A q A.length) < tw (A.length - q.length) := by
  have hl := cS_len hq
  have e : ∀ L : List Sq, (∀ z ∈ L, z.length = q.length + 1) → mW A L = L.length * tw (A.length - (q.length + 1)) := by
    intro L
    induction L with
    | nil => intro _; simp [mW]
    | cons z L ih =>
      intro h
      have e1 := ih fun z hz => h z (List.mem_cons_of_mem _ hz)
      have e2 := h z List.mem_cons_self
      simp only [mW, List.map_cons, List.sum_cons, List.length_cons] at *
      rw [e1, e2, Nat.add_mul]
      omega
  rw [e _ fun z hz => (mem_cS hn hq hz).2]
  generalize (cS need A q A.length).length = c at *
  cases hr : A.length - q.length with
  | zero =>
    have : c = 0 := by omega
    subst this
    simp [tw]
  | succ r =>
    have : A.length - (q.length + 1) = r := by omega
    rw [this, tw_s]
    have h2 : c ≤ r + 1 := by omega
    have := Nat.mul_le_mul_right (tw r) h2
    omega
structure InvM (need : Int) (A : List (Int × Int)) (m : Int) (W : List Sq) : Prop where
  w : ∀ q ∈ W, Sch need A q
  mx : ∃ q0, Sch need A q0 ∧ m = q0.length
  r : ∀ r, Sch need A r → (r.length : Int) ≤ m ∨ ∃ q ∈ W, DomQ need q r
theorem invM_0 (need : Int) (A : List (Int × Int)) : InvM need A 0 [[]] := by
  refine ⟨fun q hq => ?_, ⟨[], sch_nil _ _, rfl⟩, fun r _ => .inr ⟨[], List.mem_singleton.mpr rfl, [], r, rfl, rfl, Int.le_refl _⟩⟩
  rw [List.mem_singleton.mp hq]
  exact sch_nil _ _
theorem invM_s {need : Int} (hn : 0 ≤ need) {A : List (Int × Int)} (hA : ∀ p ∈ A, 0 ≤ p.1) {m : Int} {W : List Sq} {q : Sq} (h : InvM need A m (W ++ [q])) : InvM need A (if m < (q.length : Int) then (q.length : Int) else m) (W ++ cS need A q A.length) := by
  have hq := h.w q (by simp)
  refine ⟨fun z hz => ?_, ?_, fun r hr => ?_⟩
  · rcases List.mem_append.mp hz with hz | hz
    · exact h.w z (List.mem_append_left _ hz)
    · exact (mem_cS hn hq hz).1
  · split
    · exact ⟨q, hq, rfl⟩
    · exact h.mx
  · rcases h.r r hr with h1 | ⟨z, hz, h1⟩
    · left
      split <;> omega
    · rcases List.mem_append.mp hz with hz | hz
      · exact .inr ⟨z, List.mem_append_left _ hz, h1⟩
      · rw [List.mem_singleton.mp hz] at h1
        rcases dom_step hA hr h1 with h2 | ⟨y, hy, h2⟩
        · left
          split <;> omega
        · exact .inr ⟨y, List.mem_append_right _ hy, h2⟩
def enD (need : Int) (q : Sq) : PyData := .tuple [.int (fre need q), .tuple ((nms q).map .int)]
theorem lm_t0 {need m : Int} {Y : PyData} {c4 c5 c6 c7 c8 : C} : (mTst (mB (cmpD .NotEq) (mPl 3) (mTm (mLst (mNil))))) [.sh (.int need), .sh Y, .sh (.int m), .ls [], c4, c5, c6, c7, c8] = some (false, [.sh (.int need), .sh Y, .sh (.int m), .ls [], c4, c5, c6, c7, c8]) := by
  walk_at "ev"
theorem lm_t1 {need m : Int} {Y : PyData} {L : List PyData} {c4 c5 c6 c7 c8 : C} (h : cmpD .NotEq (.list L) (.list []) = some (.sh (.bool true))) : (mTst (mB (cmpD .NotEq) (mPl 3) (mTm (mLst (mNil))))) [.sh (.int need), .sh Y, .sh (.int m), .ls L, c4, c5, c6, c7, c8] = some (true, [.sh (.int need), .sh Y, .sh (.int m), .ls L, c4, c5, c6, c7, c8]) := by
  generalize cmpD .NotEq = G at *
  walk_at "es"
theorem ne_en (need : Int) {W : List Sq} (h : W ≠ []) : cmpD .NotEq (.list (W.map (enD need))) (.list []) = some (.sh (.bool true)) := by
  have h1 : SeqAt.shaped (.list (W.map (enD need))) = true := by
    rw [shaped_lay, lay_list _ (by decide), List.all_map, List.all_eq_true]
    intro p _
    simp [enD, lay_tup, lay_int, lay_ints]
  have h2 : SeqAt.shaped (.list []) = true := by decide +kernel
  cases W with
  | nil => exact absurd rfl h
  | cons w W =>
    simp only [List.map_cons] at *
    simp [cmpD, neD, h1, h2, ee_ll, ee_2]
theorem lm_p {need m f : Int} {Y D : PyData} {L L2 : List PyData} {c4 c5 c6 c7 c8 : C} (h1 : L.getLast? = some (.tuple [.int f, D])) (h2 : L.dropLast = L2) : (mAsg [4, 5] [0, 1] (bTup [bNm 4, bNm 5]) (mPop 3)) [.sh (.int need), .sh Y, .sh (.int m), .ls L, c4, c5, c6, c7, c8] = some (.nx, [.sh (.int need), .sh Y, .sh (.int m), .ls L2, .sh (.int f), .sh D, c6, c7, c8]) := by
  have e : mPop 3 [.sh (.int need), .sh Y, .sh (.int m), .ls L, c4, c5, c6, c7, c8] = some (.sh (.tuple [.int f, D]), [.sh (.int need), .sh Y, .sh (.int m), .ls L2, c4, c5, c6, c7, c8]) := by
    simp [mPop, h1, h2]
  generalize mPop 3 = P at *
  clear h1 h2
  walk_at "es"
theorem lm_m {need m f N : Int} {Y : PyData} {D L : List PyData} {c6 c7 c8 : C} (h : (D.length : Int) = N) : (mSet [0, 1] 2 (mOp (Bf.f .max) (mCons (mPl 2) (mCons (mTm (mOp (Bf.f .len) (mCons (mPl 5) (mNil)))) (mNil))))) [.sh (.int need), .sh Y, .sh (.int m), .ls L, .sh (.int f), .sh (.tuple D), c6, c7, c8] = some (.nx, [.sh (.int need), .sh Y, .sh (.int (if m < N then N else m)), .ls L, .sh (.int f), .sh (.tuple D), c6, c7, c8]) := by
  walk_at "es"
theorem lm_b {need m f k bt tm : Int} {Y D : PyData} {L : List PyData} {c8 : C} : (mSet [0, 1] 8 (mOp (Bf.f .max) (mCons (mPl 4) (mCons (mTm (mB ixD (mPl 7) (mTm (mK (.int 0))))) (mNil))))) [.sh (.int need), .sh Y, .sh (.int m), .ls L, .sh (.int f), .sh D, .sh (.int k), .sh (.tuple [.int bt, .int tm]), c8] = some (.nx, [.sh (.int need), .sh Y, .sh (.int m), .ls L, .sh (.int f), .sh D, .sh (.int k), .sh (.tuple [.int bt, .int tm]), .sh (.int (if f < bt then bt else f))]) := by
  walk_at "es"
theorem lm_i {need m f k bt tm b : Int} {Y : PyData} {D L : List PyData} {u : Bool} (hi : cmpD .NotIn (.int k) (.tuple D) = some (.sh (.bool u))) (hD : D.length ≤ 1000) (hL : L.length ≤ 1000) : (mIf (mAndT (mTst (mB (cmpD .NotIn) (mPl 6) (mPl 5))) (mTst (mB (cmpD .LtE) (mTm (mB (binD .Add) (mPl 8) (mPl 0))) (mTm (mB (binD .Add) (mTm (mB ixD (mPl 7) (mTm (mK (.int 0))))) (mTm (mB ixD (mPl 7) (mTm (mK (.int 1)))))))))) (mSeq (mApp 3 (mTup (mCons (mTm (mB (binD .Add) (mPl 8) (mPl 0))) (mCons (mTm (mB (binD .Add) (mPl 5) (mTm (mTup (mCons (mPl 6) (mNil)))))) (mNil))))) (mSkip)) (mSkip)) [.sh (.int need), .sh Y, .sh (.int m), .ls L, .sh (.int f), .sh (.tuple D), .sh (.int k), .sh (.tuple [.int bt, .int tm]), .sh (.int b)] = some (.nx, [.sh (.int need), .sh Y, .sh (.int m), .ls (if u = true ∧ b + need ≤ bt + tm then L ++ [.tuple [.int (b + need), .tuple (D ++ [.int k])]] else L), .sh (.int f), .sh (.tuple D), .sh (.int k), .sh (.tuple [.int bt, .int tm]), .sh (.int b)]) := by
  have hz : D.length + 1 ≤ 16777216 := by omega
  have hz2 : L.length < 16777216 := by omega
  generalize hI : cmpD .NotIn = I at *
  cases u
  · walk_at "es"
  · by_cases c : b + need ≤ bt + tm <;> walk_at "es"
theorem law_most_eq {need : Int} (hn : 0 ≤ need) {A : List (Int × Int)} (hA : ∀ p ∈ A, 0 ≤ p.1) (hl : A.length ≤ 5) {q : Sq} (hq : BestS need A q) : g_law_most [.sh (.int need), .sh (stD A)] = some (.sh (.int (q.length : Int)), [.sh (.int need), .sh (stD A)]) := by
  apply rt_eq
  unfold g_law_most m_law_most
  apply rt_sem rfl
  apply wx_nx (ε1 := [.sh (.int need), .sh (stD A), .sh (.int 0), .no, .no, .no, .no, .no, .no])
  · rfl
  apply wx_nx (ε1 := [.sh (.int need), .sh (stD A), .sh (.int 0), .ls [.tuple [.int 0, .tuple []]], .no, .no, .no, .no, .no])
  · generalize stD A = Y
    clear hA hl hq hn
    walk_at "ev"
  apply wx_seq
  apply wx_while (fun n ε => ∃ (m : Int) (W : List Sq) (c4 c5 c6 c7 c8 : C), ε = [.sh (.int need), .sh (stD A), .sh (.int m), .ls (W.map (enD need)), c4, c5, c6, c7, c8] ∧ InvM need A m W ∧ n = mW A W ∧ n ≤ 326) (mW A [[]]) ⟨0, [[]], _, _, _, _, _, rfl, invM_0 _ _, rfl, by simpa [mW] using tw_5 hl⟩
  rintro n ε ⟨m, W, c4, c5, c6, c7, c8, rfl, hI, rfl, h326⟩
  rcases List.eq_nil_or_concat W with rfl | ⟨W, z, rfl⟩
  · refine ⟨false, _, lm_t0, fun _ => ?_, fun h => (by cases h)⟩
    obtain ⟨q0, hq0, rfl⟩ := hI.mx
    have h1 : (q.length : Int) ≤ q0.length := by
      rcases hI.r q hq.1 with h | ⟨_, h, _⟩
      · exact h
      · cases h
    have h2 := hq.2 q0 hq0
    have e : (q0.length : Int) = q.length := by omega
    rw [e]
    apply wx_rt (c := .sh (.int (q.length : Int))) (ε1 := [.sh (.int need), .sh (stD A), .sh (.int (q.length : Int)), .ls [], c4, c5, c6, c7, c8])
    · generalize (q.length : Int) = v
      generalize stD A = Y
      clear hI hA h326 hq0 h1 h2 e hl hq hn
      walk_at "ev"
    exact ⟨rfl, rfl⟩
  · rw [List.concat_eq_append] at *
    have hlen := mW_len A (W ++ [z])
    have hWl : W.length + 1 ≤ 326 := by simpa using Nat.le_trans hlen h326
    refine ⟨true, [.sh (.int need), .sh (stD A), .sh (.int m), .ls ((W ++ [z]).map (enD need)), c4, c5, c6, c7, c8], lm_t1 (ne_en need (by simp)), fun h => (by cases h), fun _ => ?_⟩
    have hz := hI.w z (by simp)
    have hzl := sch_len hz
    apply wx_nx (lm_p (f := fre need z) (D := .tuple ((nms z).map .int)) (L2 := W.map (enD need)) (by simp [enD]) (by simp))
    apply wx_nx (lm_m (N := (z.length : Int)) (by simp [nms]))
    have hI2 := invM_s hn hA hI
    have hm2 := mW_cS hn hz
    have hm3 : mW A (W ++ [z]) = mW A W + tw (A.length - z.length) := by rw [mW_app]; simp [mW]
    generalize (if m < (z.length : Int) then (z.length : Int) else m) = m2 at *
    apply wx_seq
    apply wx_enumn (ds := A.map pr) (ε1 := [.sh (.int need), .sh (stD A), .sh (.int m2), .ls (W.map (enD need)), .sh (.int (fre need z)), .sh (.tuple ((nms z).map .int)), c6, c7, c8]) fun k ε => ∃ c6 c7 c8, ε = [.sh (.int need), .sh (stD A), .sh (.int m2), .ls ((W ++ cS need A z k).map (enD need)), .sh (.int (fre need z)), .sh (.tuple ((nms z).map .int)), c6, c7, c8]
    · have hz : A.length ≤ 1000 := by omega
      unfold stD
      generalize A.map pr = Y
      generalize W.map (enD need) = Z
      generalize (nms z).map PyData.int = U
      generalize fre need z = f
      clear hI2 hm2 hm3 hI hlen hq hA hl
      walk_at "ev"
    · exact ⟨c6, c7, c8, by simp [cS]⟩
    · rintro k hk ε ⟨c6, c7, c8, rfl⟩
      have hk : k < A.length := by simpa using hk
      have hgk : A.getD k (0, 0) = A[k] := by rw [List.getD_eq_getElem?_getD, List.getElem?_eq_getElem hk]; rfl
      refine ⟨[.sh (.int need), .sh (stD A), .sh (.int m2), .ls ((W ++ cS need A z k).map (enD need)), .sh (.int (fre need z)), .sh (.tuple ((nms z).map .int)), .sh (.int (k : Int)), .sh (.tuple [.int A[k].1, .int A[k].2]), c8], by simp [bTup, bTps, bNm, pr], ?_⟩
      apply wx_nx lm_b
      have hcl : (cS need A z k).length ≤ 5 := by
        have h1 := cS_len hz
        have h2 : ∀ j i, (cS need A z i).length ≤ (cS need A z (i + j)).length := by
          intro j
          induction j with
          | zero => intro i; exact Nat.le_refl _
          | succ j ih =>
            intro i
            rw [show i + (j + 1) = (i + j) + 1 from rfl, cS_s, List.length_append]
            have := ih i
            omega
        have h3 := h2 (A.length - k) k
        rw [show k + (A.length - k) = A.length by omega] at h3
        omega
      have hbg : (if fre need z < A[k].1 then A[k].1 else fre need z) = bgn need A z k := by unfold bgn; rw [hgk]
      rw [hbg]
      apply wx_nx (lm_i (nin_i (nms z) k) (by simp [nms]; omega) (by simp; omega))
      refine wx_skip ⟨.sh (.int (k : Int)), .sh (.tuple [.int A[k].1, .int A[k].2]), .sh (.int (bgn need A z k)), ?_⟩
      congr 4
      have e : (((!(nms z).contains (k : Int)) = true) ∧ bgn need A z k + need ≤ A[k].1 + A[k].2) ↔ ((!(nms z).contains (k : Int) && plc need A k (bgn need A z k)) = true) := by
        rw [Bool.and_eq_true, plc_iff, hgk]
        have : A[k].1 ≤ bgn need A z k := by
          rw [← hbg]
          split <;> omega
        constructor
        · rintro ⟨h1, h2⟩
          exact ⟨h1, hk, this, h2⟩
        · rintro ⟨h1, _, _, h2⟩
          exact ⟨h1, h2⟩
      rw [cS_s]
      unfold c1
      by_cases c : (!(nms z).contains (k : Int) && plc need A k (bgn need A z k)) = true
      · rw [if_pos c, if_pos (e.mpr c)]
        simp only [List.map_append, List.map_cons, List.map_nil, List.append_assoc]
        unfold enD
        rw [fre_snoc, nms_snoc]
        simp
      · rw [if_neg c, if_neg (fun h => c (e.mp h)), List.append_nil]
    · rintro ε ⟨c6, c7, c8, rfl⟩
      have e : (A.map pr).length = A.length := List.length_map _
      rw [e]
      refine wx_skip ⟨mW A (W ++ cS need A z A.length), ?_, m2, _, _, _, _, _, _, rfl, hI2, rfl, ?_⟩
      · rw [mW_app]
        omega
      · rw [mW_app]
        omega
end KW
namespace KW
open PySem PySem.Spec PyProof.Rows L2 L2.M
local macro_rules | `(tactic| walk_at "ev") => `(tactic| simp [semF, shared, after, mSeq, mSkip, mIf, mRet, mRetN, mRetV, mSet, mSetIx, mExpr, mB, mU, mTm, mPl, mK, mVar, mOp, mCons, mNil, bor, bors, mTst, mAndT, mOrT, mNotT, mAndE, mOrE, mNotE, mIfE, mIsi, isiD, mChn, chnL, cmpD, binD, addD, subD, mulD, modD, fdivD, powD, eqD, neD, ltD, leD, gtD, geD, isD, isnD, L2.M.isNon, negD, ixD, Bf.f, Bg.f, lenD, L2.M.intD, maxD, minD, repD, strD, gmaxD, gminD, sumD, sortD, anyD, allD, mCall, frz, fzO, lend, wb, mTup, mLst, fzs, cD, mAsg, bTup, bTps, mApp, tupD, lstD, mRev, revD, ofs_inj, ee_ii, ee_ss, ee_bb, ee_nn, ee_is, ee_si, ee_in, ee_ni, ee_tt, ee_ll, ee_maps, ee_0, ee_1, ee_2, ee_3, at_lit, at_nat, at_m1, at_m2, scD, emD, sizeLine_eq, ixN, sm_lit, mSrc, itemsD, plOf, rng1D, bNm, mSl, mPt, mNoP, slD, mPar, keepT, tmsO, setA, mFlow, zipX, enumX, itemsX, intsOf, ints_all, boolsOf, shaped_lay, lay_int, lay_bool, lay_none, lay_dict, lay_tup, lay_list, lay_ints, sortX_ints, mPlF, mPlI, mRd, mPU, mPB, mFSet, mFNew, mNSet, mPApp, mPSetIx, mPPop, mMeth, mNew, isIns, cellO, mLstN, mAddN, mAppN, semX, mTold, mCallX, xRet, xExpr, xSet, mRaise, mM, isL, isS, mOrV, truD])
local macro_rules | `(tactic| walk_at "es") => `(tactic| simp [semF, shared, after, mSeq, mSkip, mIf, mRet, mRetN, mRetV, mSet, mSetIx, mExpr, mB, mU, mTm, mPl, mK, mVar, mOp, mCons, mNil, bor, bors, mTst, mAndT, mOrT, mNotT, mAndE, mOrE, mNotE, mIfE, mIsi, isiD, mChn, chnL, cmpD, binD, addD, subD, mulD, modD, fdivD, powD, eqD, neD, ltD, leD, gtD, geD, isD, isnD, L2.M.isNon, negD, ixD, Bf.f, Bg.f, lenD, L2.M.intD, maxD, minD, repD, strD, gmaxD, gminD, sumD, sortD, anyD, allD, mCall, frz, fzO, lend, wb, mTup, mLst, fzs, cD, mAsg, bTup, bTps, mApp, tupD, lstD, mRev, revD, ofs_inj, ee_ii, ee_ss, ee_bb, ee_nn, ee_is, ee_si, ee_in, ee_ni, ee_tt, ee_ll, ee_maps, ee_0, ee_1, ee_2, ee_3, at_lit, at_nat, at_m1, at_m2, scD, emD, sizeLine_eq, ixN, sm_lit, mSrc, itemsD, plOf, rng1D, bNm, mSl, mPt, mNoP, slD, mPar, keepT, tmsO, setA, mFlow, zipX, enumX, itemsX, intsOf, ints_all, boolsOf, shaped_lay, lay_int, lay_bool, lay_none, lay_dict, lay_tup, lay_list, lay_ints, sortX_ints, mPlF, mPlI, mRd, mPU, mPB, mFSet, mFNew, mNSet, mPApp, mPSetIx, mPPop, mMeth, mNew, isIns, cellO, mLstN, mAddN, mAppN, semX, mTold, mCallX, xRet, xExpr, xSet, mRaise, mM, isL, isS, mOrV, truD, *])
local macro_rules | `(tactic| walk_at "el") => `(tactic| simp [semF, shared, after, mSeq, mSkip, mIf, mRet, mRetN, mRetV, mSet, mSetIx, mExpr, mB, mU, mTm, mPl, mK, mVar, mOp, mCons, mNil, bor, bors, mTst, mAndT, mOrT, mNotT, mAndE, mOrE, mNotE, mIfE, mIsi, isiD, mChn, chnL, cmpD, binD, addD, subD, mulD, modD, fdivD, powD, eqD, neD, ltD, leD, gtD, geD, isD, isnD, L2.M.isNon, negD, ixD, Bf.f, Bg.f, lenD, L2.M.intD, maxD, minD, repD, strD, gmaxD, gminD, sumD, sortD, anyD, allD, mCall, frz, fzO, lend, wb, mTup, mLst, fzs, cD, mAsg, bTup, bTps, mApp, tupD, lstD, mRev, revD, ofs_inj, ee_ii, ee_ss, ee_bb, ee_nn, ee_is, ee_si, ee_in, ee_ni, ee_tt, ee_ll, ee_maps, ee_0, ee_1, ee_2, ee_3, at_lit, at_nat, at_m1, at_m2, scD, emD, sizeLine_eq, ixN, sm_lit, mSrc, itemsD, plOf, rng1D, bNm, mSl, mPt, mNoP, slD, mPar, keepT, tmsO, setA, mFlow, zipX, enumX, itemsX, intsOf, ints_all, boolsOf, shaped_lay, lay_int, lay_bool, lay_none, lay_dict, lay_tup, lay_list, lay_ints, sortX_ints, mPlF, mPlI, mRd, mPU, mPB, mFSet, mFNew, mNSet, mPApp, mPSetIx, mPPop, mMeth, mNew, isIns, cellO, mLstN, mAddN, mAppN, semX, mTold, mCallX, xRet, xExpr, xSet, mRaise, mM, isL, isS, mOrV, truD, mLc, lcL, sameC, wipeC, restC, mYes, *])
local macro_rules | `(tactic| walk_at "ef") => `(tactic| simp [semF, shared, after, mSeq, mSkip, mIf, mRet, mRetN, mRetV, mSet, mSetIx, mExpr, mB, mU, mTm, mPl, mK, mVar, mOp, mCons, mNil, bor, bors, mTst, mAndT, mOrT, mNotT, mAndE, mOrE, mNotE, mIfE, mIsi, isiD, mChn, chnL, cmpD, binD, addD, subD, mulD, modD, fdivD, powD, eqD, neD, ltD, leD, gtD, geD, isD, isnD, L2.M.isNon, negD, ixD, Bf.f, Bg.f, lenD, L2.M.intD, maxD, minD, repD, strD, gmaxD, gminD, sumD, sortD, anyD, allD, mCall, frz, fzO, lend, wb, mTup, mLst, fzs, cD, mAsg, bTup, bTps, mApp, tupD, lstD, mRev, revD, ofs_inj, ee_ii, ee_ss, ee_bb, ee_nn, ee_is, ee_si, ee_in, ee_ni, ee_tt, ee_ll, ee_maps, ee_0, ee_1, ee_2, ee_3, at_lit, at_nat, at_m1, at_m2, scD, emD, sizeLine_eq, ixN, sm_lit, mSrc, itemsD, plOf, rng1D, bNm, mSl, mPt, mNoP, slD, mPar, keepT, tmsO, setA, mFlow, zipX, enumX, itemsX, intsOf, ints_all, boolsOf, shaped_lay, lay_int, lay_bool, lay_none, lay_dict, lay_tup, lay_list, lay_ints, sortX_ints, mPlF, mPlI, mRd, mPU, mPB, mFSet, mFNew, mNSet, mPApp, mPSetIx, mPPop, mMeth, mNew, isIns, cellO, mLstN, mAddN, mAppN, semX, mTold, mCallX, xRet, xExpr, xSet, mRaise, mM, isL, isS, mOrV, truD, mFor, forL, mLc, lcL, sameC, wipeC, restC, mYes, *])
local macro_rules | `(tactic| walk_at "rg") => `(tactic| (and_intros <;> grind))
local macro_rules | `(tactic| walk_at "nx") => `(tactic| (apply wx_nx; focus (walk_at "ev"; try first | exact ⟨rfl, rfl⟩ | rfl)))
local macro_rules | `(tactic| walk_at "ns") => `(tactic| (apply wx_nx; focus (walk_at "es"; try first | exact ⟨rfl, rfl⟩ | rfl)))
local macro_rules | `(tactic| walk_at "rt") => `(tactic| (apply wx_rt; focus (walk_at "ev"; try first | exact ⟨rfl, rfl⟩ | rfl)))
local macro_rules | `(tactic| walk_at "rs") => `(tactic| (apply wx_rt; focus (walk_at "es"; try first | exact ⟨rfl, rfl⟩ | rfl)))
local macro_rules | `(tactic| walk_at "ed") => `(tactic| simp [semF, shared, after, mSeq, mSkip, mIf, mRet, mRetN, mRetV, mSet, mSetIx, mExpr, mB, mU, mTm, mPl, mK, mVar, mOp, mCons, mNil, bor, bors, mTst, mAndT, mOrT, mNotT, mAndE, mOrE, mNotE, mIfE, mIsi, isiD, mChn, chnL, cmpD, binD, addD, subD, mulD, modD, fdivD, powD, eqD, neD, ltD, leD, gtD, geD, isD, isnD, L2.M.isNon, negD, ixD, Bf.f, Bg.f, lenD, L2.M.intD, maxD, minD, repD, strD, gmaxD, gminD, sumD, sortD, anyD, allD, mCall, frz, fzO, lend, wb, mTup, mLst, fzs, cD, mAsg, bTup, bTps, mApp, tupD, lstD, mRev, revD, ofs_inj, ee_ii, ee_ss, ee_bb, ee_nn, ee_is, ee_si, ee_in, ee_ni, ee_tt, ee_ll, ee_maps, ee_0, ee_1, ee_2, ee_3, at_lit, at_nat, at_m1, at_m2, scD, emD, sizeLine_eq, ixN, sm_lit, mSrc, itemsD, plOf, rng1D, bNm, mSl, mPt, mNoP, slD, mPar, keepT, tmsO, setA, mFlow, zipX, enumX, itemsX, intsOf, ints_all, boolsOf, shaped_lay, lay_int, lay_bool, lay_none, lay_dict, lay_tup, lay_list, lay_ints, sortX_ints, mPlF, mPlI, mRd, mPU, mPB, mFSet, mFNew, mNSet, mPApp, mPSetIx, mPPop, mMeth, mNew, isIns, cellO, mLstN, mAddN, mAppN, semX, mTold, mCallX, xRet, xExpr, xSet, mRaise, mM, isL, isS, mOrV, truD, mDNew, mDIn, mDGet, mDLen, mDPut, kyD, mNNew, mN1, mTake, mFnV, mCallF, mNIn, mNGet, mNPut, mNVals, mNList, nKs, mDGetD, mDList, mNNe, *])
structure Hs where
  fr : Int
  to : List PyData
  bu : Int
  bl : List PyData
  va : Int
def hst (n : Int) (s : Hs) (p : Int × Int) : Hs :=
  ⟨if p.1 + p.2 < (if s.fr < p.1 then p.1 else s.fr) + n then s.fr else (if s.fr < p.1 then p.1 else s.fr) + n,
   s.to ++ [if p.1 + p.2 < (if s.fr < p.1 then p.1 else s.fr) + n then .none else .int ((if s.fr < p.1 then p.1 else s.fr) + n)],
   (if s.bu < p.1 then p.1 else s.bu) + n,
   s.bl ++ [.int ((if s.bu < p.1 then p.1 else s.bu) + n)],
   s.va + (if p.1 + p.2 < (if s.bu < p.1 then p.1 else s.bu) + n then 1 else 0)⟩
def hs0 : Hs := ⟨0, [], 0, [], 0⟩
def hsF (n : Int) (as : List (Int × Int)) : Hs := as.foldl (hst n) hs0
theorem hsF_snoc (n : Int) (as : List (Int × Int)) (p : Int × Int) : hsF n (as ++ [p]) = hst n (hsF n as) p := by simp [hsF]
theorem hsF_len (n : Int) : ∀ (as : List (Int × Int)) (s : Hs), (as.foldl (hst n) s).to.length = s.to.length + as.length ∧ (as.foldl (hst n) s).bl.length = s.bl.length + as.length
  | [], s => ⟨rfl, rfl⟩
  | p :: as, s => by
    obtain ⟨h1, h2⟩ := hsF_len n as (hst n s p)
    have e1 : (hst n s p).to.length = s.to.length + 1 := by simp [hst]
    have e2 : (hst n s p).bl.length = s.bl.length + 1 := by simp [hst]
    simp only [List.foldl_cons, List.length_cons]
    omega
theorem hsF_len0 (n : Int) (as : List (Int × Int)) : (hsF n as).to.length = as.length ∧ (hsF n as).bl.length = as.length := by
  have := hsF_len n as hs0
  simpa [hs0, hsF] using this
theorem done_by_time_eq (n : Int) (as : List (Int × Int)) (hl : as.length ≤ 1000) : g_done_by_time [.sh (.int n), .sh (stD as)] = some (.ls (hsF n as).to, [.sh (.int n), .sh (stD as)]) := by
  apply rt_eq
  unfold g_done_by_time m_done_by_time
  apply rt_sem rfl
  generalize hS : stD as = sd
  walk_at "nx"
  walk_at "nx"
  apply wx_seq
  apply wx_sts (st := as) (ε1 := [.sh (.int n), .sh sd, .sh (.int 0), .ls [], .no, .no, .no]) fun i ε => ∃ c4 c5 c6, ε = [.sh (.int n), .sh sd, .sh (.int (hsF n (as.take i)).fr), .ls (hsF n (as.take i)).to, c4, c5, c6]
  · rw [← hS]
    clear hS hl
    unfold stD
    walk_at "ev"
  · exact ⟨_, _, _, rfl⟩
  · rintro i hi ε ⟨c4, c5, c6, rfl⟩
    have e : as.take (i + 1) = as.take i ++ [as[i]] := List.take_succ_eq_append_getElem hi
    obtain ⟨l1, _⟩ := hsF_len0 n (as.take i)
    have l2 : (hsF n (as.take i)).to.length < 16777216 := by
      rw [l1, List.length_take]
      omega
    rw [e, hsF_snoc]
    clear e l1 hS hl
    generalize hsF n (as.take i) = s at *
    generalize as[i] = p
    obtain ⟨b, t⟩ := p
    obtain ⟨f, to, bu, bl, va⟩ := s
    simp only [hst] at *
    refine ⟨_, rfl, ?_⟩
    apply wx_nx (ε1 := [.sh (.int n), .sh sd, .sh (.int f), .ls to, .sh (.int b), .sh (.int t), .sh (.int ((if f < b then b else f) + n))])
    · clear l2
      walk_at "ev"
    generalize (if f < b then b else f) + n = d
    by_cases c : b + t < d
    · simp only [if_pos c]
      walk_at "ns"
      exact wx_skip ⟨_, _, _, rfl⟩
    · simp only [if_neg c]
      walk_at "ns"
      exact wx_skip ⟨_, _, _, rfl⟩
  · rintro ε ⟨c4, c5, c6, rfl⟩
    rw [List.take_length]
    generalize hsF n as = s
    clear hS hl
    walk_at "rt"
    exact ⟨rfl, rfl⟩
structure Ask (as : List (Int × Int)) : Prop where
  l : as.length ≤ 8
  b : ∀ p ∈ as, (0 ≤ p.1 ∧ p.1 ≤ 10 ^ 5) ∧ (0 ≤ p.2 ∧ p.2 ≤ 10 ^ 6)
theorem law_askings_eq (p : Pn) : Rt (g_law_askings [.ls (penL p)]) fun c cs => ∃ n as p', (1 ≤ n ∧ n ≤ 1000) ∧ Ask as ∧ c = .sh (.tuple [.int n, stD as]) ∧ cs = [.ls (penL p')] := by
  have h3 := @pkd3
  unfold g_law_askings m_law_askings
  apply rt_sem rfl
  have m1 := dr_ab p 9 (by decide)
  walk_at "ns"
  generalize hw : gt [3, 12, 1000] _ = w
  have w1 : 3 ≤ w ∧ w ≤ 1000 := by
    rw [← hw]
    clear hw h3
    apply gd3 (P := fun v => 3 ≤ v ∧ v ≤ 1000)
    walk_at "rg"
  generalize hr : gt [1, 2, 4] _ = r
  have r1 : 1 ≤ r ∧ r ≤ 4 := by
    rw [← hr]
    clear hr h3
    apply gd3 (P := fun v => 1 ≤ v ∧ v ≤ 4)
    walk_at "rg"
  clear hw hr h3
  generalize dn (dn (dn p 9) 3) 3 = p1
  generalize dr p 9 = mn at *
  obtain ⟨N, rfl⟩ : ∃ N : Nat, mn = N := ⟨mn.toNat, by omega⟩
  have w2 : 0 < w := by omega
  have w3 : sm w := ⟨by omega, by omega⟩
  have n1 := dr_ab p1 w w2
  apply wx_nx (ε1 := [.ls (penL (dn p1 w)), .sh (.int N), .sh (.int w), .sh (.int r), .sh (.int (1 + dr p1 w)), .no, .no, .no])
  · clear m1 w1 r1 n1
    walk_at "es"
  generalize dn p1 w = p2
  have n2 : 1 ≤ 1 + dr p1 w ∧ 1 + dr p1 w ≤ 1000 := by omega
  generalize 1 + dr p1 w = n at *
  have b1 := dr_ab p2 3 (by decide)
  apply wx_nx (ε1 := [.ls (penL (dn p2 3)), .sh (.int N), .sh (.int w), .sh (.int r), .sh (.int n), .sh (.int (dr p2 3)), .ls [], .no])
  · clear m1 w1 r1 n1 n2 b1
    walk_at "ev"
  generalize dn p2 3 = p3
  generalize dr p2 3 = b at *
  apply wx_seq
  apply wx_for (ds := rangeD 0 1 N) (ws := []) (ε1 := [.ls (penL p3), .sh (.int N), .sh (.int w), .sh (.int r), .sh (.int n), .sh (.int b), .ls [], .no]) (fun i ε => ∃ (q : Pn) (c : Int) (as : List (Int × Int)) (c7 : C), ε = [.ls (penL q), .sh (.int N), .sh (.int w), .sh (.int r), .sh (.int n), .sh (.int c), .ls (as.map pr), c7] ∧ as.length = i ∧ 0 ≤ c ∧ c ≤ 3 + 1000 * i ∧ ∀ p ∈ as, (0 ≤ p.1 ∧ p.1 ≤ 10 ^ 5) ∧ (0 ≤ p.2 ∧ p.2 ≤ 10 ^ 6))
  · exact src_f (d := .int N) rfl (rng_nat (by omega))
  · rfl
  · exact ⟨_, _, [], _, rfl, rfl, b1.1, by omega, by simp⟩
  · intro i ε _ j hj
    cases hj
  · rintro i d ε hd ⟨q, c, as, c7, rfl, a1, a2, a3, a4⟩
    have hi : i < N := by
      have := (List.getElem?_eq_some_iff.mp hd).1
      simpa [rangeD] using this
    clear hd
    refine ⟨_, rfl, ?_⟩
    have w4 : 0 < w + 1 := by omega
    have w5 : sm (w + 1) := ⟨by omega, by omega⟩
    have c1 := dr_ab q (w + 1) w4
    apply wx_nx (ε1 := [.ls (penL (dn q (w + 1))), .sh (.int N), .sh (.int w), .sh (.int r), .sh (.int n), .sh (.int (c + dr q (w + 1))), .ls (as.map pr), .sh d])
    · clear m1 w1 r1 n1 n2 b1 a1 a2 a3 a4 c1 hi w2 w3
      walk_at "es"
    generalize dn q (w + 1) = q2
    have c2 : 0 ≤ c + dr q (w + 1) ∧ c + dr q (w + 1) ≤ 3 + 1000 * (i + 1) := by omega
    generalize c + dr q (w + 1) = cc at *
    have r2 : sm r := ⟨by omega, by omega⟩
    have n3 : sm n := ⟨by omega, by omega⟩
    have k0 : 0 ≤ r * n := Int.mul_nonneg (by omega) (by omega)
    have k1 : r * n ≤ 4 * 1000 := Int.mul_le_mul r1.2 n2.2 (by omega) (by omega)
    have k2 : 0 < r * n + w + 1 := by omega
    have k3 : sm (r * n + w + 1) := ⟨by omega, by omega⟩
    have k4 := dr_ab q2 (r * n + w + 1) k2
    have l1 : as.length < 16777216 := by omega
    apply wx_nx (ε1 := [.ls (penL (dn q2 (r * n + w + 1))), .sh (.int N), .sh (.int w), .sh (.int r), .sh (.int n), .sh (.int cc), .ls ((as ++ [(cc, dr q2 (r * n + w + 1))]).map pr), .sh d])
    · clear m1 w1 r1 n1 n2 b1 a1 a2 a3 a4 c1 hi w2 w3 w4 w5 c2 k0 k1 k4
      simp only [List.map_append, List.map_cons, List.map_nil]
      have l2 : (as.map pr).length < 16777216 := by simpa using l1
      generalize as.map pr = A at *
      clear l1
      simp only [pr]
      walk_at "es"
    refine wx_skip ⟨_, _, _, _, rfl, by simp [a1], c2.1, by omega, fun p hp => ?_⟩
    rcases List.mem_append.mp hp with hp | hp
    · exact a4 p hp
    · rw [List.mem_singleton.mp hp]
      exact ⟨⟨c2.1, by show cc ≤ _; omega⟩, k4.1, by show dr q2 (r * n + w + 1) ≤ _; omega⟩
  · rintro ε ⟨q, c, as, c7, rfl, a1, a2, a3, a4⟩
    have e : (rangeD 0 1 N).length = N := by simp [rangeD]
    rw [e] at a1 a3
    have l1 : as.length ≤ 16777216 := by omega
    apply wx_rt (c := .sh (.tuple [.int n, stD as])) (ε1 := [.ls (penL q), .sh (.int N), .sh (.int w), .sh (.int r), .sh (.int n), .sh (.int c), .ls (as.map pr), c7])
    · clear m1 w1 r1 n1 n2 b1 a1 a2 a3 a4 w2 w3 e
      have l2 : (as.map pr).length ≤ 16777216 := by simpa using l1
      unfold stD
      generalize as.map pr = A at *
      clear l1
      walk_at "es"
    exact ⟨n, as, q, n2, ⟨by omega, a4⟩, rfl, rfl⟩
def oD : Option Int → PyData
  | none => .none
  | some d => .int d
def sF (n : Int) : Nat → List (Option Int) → Sq
  | _, [] => []
  | k, none :: L => sF n (k + 1) L
  | k, some d :: L => (k, d - n) :: sF n (k + 1) L
theorem sF_snoc (n : Int) : ∀ (L : List (Option Int)) (k : Nat) (x : Option Int), sF n k (L ++ [x]) = sF n k L ++ match x with
    | none => []
    | some d => [(k + L.length, d - n)]
  | [], k, none => rfl
  | [], k, some d => rfl
  | none :: L, k, x => by
    rw [List.cons_append, sF, sF, sF_snoc n L (k + 1) x]
    cases x with
    | none => rfl
    | some d =>
      have : k + 1 + L.length = k + (none :: L : List (Option Int)).length := by simp; omega
      rw [this]
  | some c :: L, k, x => by
    rw [List.cons_append, sF, sF, sF_snoc n L (k + 1) x]
    cases x with
    | none => rfl
    | some d =>
      have : k + 1 + L.length = k + (some c :: L : List (Option Int)).length := by simp; omega
      rw [this]
      rfl
theorem sF_lt (n : Int) : ∀ (L : List (Option Int)) (k : Nat), ∀ x ∈ sF n k L, k ≤ x.1 ∧ x.1 < k + L.length
  | [], k, x, h => by cases h
  | none :: L, k, x, h => by
    have := sF_lt n L (k + 1) x h
    simp
    omega
  | some d :: L, k, x, h => by
    rw [sF] at h
    rcases List.mem_cons.mp h with rfl | h
    · simp
    · have := sF_lt n L (k + 1) x h
      simp
      omega
def leO (x : Option Int) (y : Int) : Bool := match x with
  | none => true
  | some d => decide (d ≤ y)
structure DnI (n : Int) (A : List (Int × Int)) (i : Nat) (L : List (Option Int)) (B : List Int) (s : Hs) : Prop where
  to : s.to = L.map oD
  bl : s.bl = B.map .int
  ll : L.length = i
  bb : B.length = i
  sc : Sch n A (sF n 0 L)
  fr : s.fr = fre n (sF n 0 L)
  le : s.fr ≤ s.bu
  al : (L.zip B).all (fun x => leO x.1 x.2) = true
  v0 : 0 ≤ s.va
  v1 : s.va = 0 → L.map oD = B.map .int ∧ s.fr = s.bu
  v2 : s.va ≠ 0 → none ∈ L
theorem dn_inv {n : Int} (hn : 0 ≤ n) {A : List (Int × Int)} (hA : ∀ p ∈ A, 0 ≤ p.1) : ∀ i, i ≤ A.length → ∃ L B, DnI n A i L B (hsF n (A.take i))
  | 0, _ => ⟨[], [], rfl, rfl, rfl, rfl, sch_nil _ _, rfl, Int.le_refl _, rfl, Int.le_refl _, fun _ => ⟨rfl, rfl⟩, fun h => absurd rfl h⟩
  | i + 1, hi => by
    obtain ⟨L, B, h⟩ := dn_inv hn hA i (by omega)
    have e : A.take (i + 1) = A.take i ++ [A[i]] := List.take_succ_eq_append_getElem (by omega)
    have h0 : 0 ≤ A[i].1 := hA _ (List.getElem_mem _)
    have hg : A.getD i (0, 0) = A[i] := by
      rw [List.getD_eq_getElem?_getD, List.getElem?_eq_getElem (by omega)]
      rfl
    rw [e, hsF_snoc]
    generalize hsF n (A.take i) = s at *
    obtain ⟨h1, h2, h3, h4, h5, h6, h7, h8, h9, h10, h11⟩ := h
    obtain ⟨fr, to, bu, bl, va⟩ := s
    simp only at h1 h2 h6 h7 h9 h10 h11
    subst h1 h2
    generalize hp : A[i] = p at *
    obtain ⟨b, t⟩ := p
    have hall : ∀ (x : Option Int) (y : Int), leO x y = true → ((L ++ [x]).zip (B ++ [y])).all (fun x => leO x.1 x.2) = true := by
      intro x y hxy
      rw [List.zip_append (by omega), List.all_append, h8]
      simpa using hxy
    by_cases c : b + t < (if fr < b then b else fr) + n
    · refine ⟨L ++ [none], B ++ [(if bu < b then b else bu) + n], ⟨by simp [hst, c, oD], by simp [hst], by simp [h3], by simp [h4], ?_, ?_, ?_, hall _ _ rfl, ?_, ?_, fun _ => by simp⟩⟩
      · rw [sF_snoc]
        simpa using h5
      · rw [sF_snoc]
        simp only [hst, if_pos c, List.append_nil]
        exact h6
      · simp only [hst, if_pos c]
        split <;> omega
      · simp only [hst]
        split <;> omega
      · intro hv
        simp only [hst] at hv
        have hv0 : va = 0 := by
          split at hv <;> omega
        obtain ⟨_, k2⟩ := h10 hv0
        subst k2
        rw [if_pos c] at hv
        omega
    · have hd : (if fr < b then b else fr) + n ≤ (if bu < b then b else bu) + n := by split <;> split <;> omega
      have hs : Sch n A (sF n 0 L ++ [(i, (if fr < b then b else fr) + n - n)]) := by
        refine sch_snoc hn h5 (plc_iff.mpr ⟨by omega, ?_, ?_⟩) (fun hm => ?_) ?_
        · rw [hg]
          dsimp only
          split <;> omega
        · rw [hg]
          dsimp only
          omega
        · obtain ⟨x, hx, ex⟩ := List.mem_map.mp hm
          have := sF_lt n L 0 x hx
          omega
        · by_cases z : sF n 0 L = []
          · exact .inl z
          · right
            unfold fre at h6
            rw [if_neg z] at h6
            split <;> omega
      refine ⟨L ++ [some ((if fr < b then b else fr) + n)], B ++ [(if bu < b then b else bu) + n], ⟨by simp [hst, c, oD], by simp [hst], by simp [h3], by simp [h4], ?_, ?_, ?_, hall _ _ (decide_eq_true hd), ?_, ?_, ?_⟩⟩
      · rw [sF_snoc]
        simp only [Nat.zero_add, h3]
        exact hs
      · rw [sF_snoc]
        simp only [hst, if_neg c]
        rw [fre_snoc]
        dsimp only
        omega
      · simp only [hst, if_neg c]
        exact hd
      · simp only [hst]
        split <;> omega
      · intro hv
        simp only [hst] at hv ⊢
        have hv0 : va = 0 := by
          split at hv <;> omega
        obtain ⟨k1, k2⟩ := h10 hv0
        subst k2
        rw [if_neg c]
        exact ⟨by simp [k1, oD], rfl⟩
      · intro hv
        simp only [hst] at hv
        by_cases z : va = 0
        · obtain ⟨k1, k2⟩ := h10 z
          subst k2
          rw [if_neg c] at hv
          omega
        · exact List.mem_append_left _ (h11 z)
end KW
namespace KW
open PySem PySem.Spec PyProof.Rows L2 L2.M
local macro_rules | `(tactic| walk_at "ev") => `(tactic| simp [semF, shared, after, mSeq, mSkip, mIf, mRet, mRetN, mRetV, mSet, mSetIx, mExpr, mB, mU, mTm, mPl, mK, mVar, mOp, mCons, mNil, bor, bors, mTst, mAndT, mOrT, mNotT, mAndE, mOrE, mNotE, mIfE, mIsi, isiD, mChn, chnL, cmpD, binD, addD, subD, mulD, modD, fdivD, powD, eqD, neD, ltD, leD, gtD, geD, isD, isnD, L2.M.isNon, negD, ixD, Bf.f, Bg.f, lenD, L2.M.intD, maxD, minD, repD, strD, gmaxD, gminD, sumD, sortD, anyD, allD, mCall, frz, fzO, lend, wb, mTup, mLst, fzs, cD, mAsg, bTup, bTps, mApp, tupD, lstD, mRev, revD, ofs_inj, ee_ii, ee_ss, ee_bb, ee_nn, ee_is, ee_si, ee_in, ee_ni, ee_tt, ee_ll, ee_maps, ee_0, ee_1, ee_2, ee_3, at_lit, at_nat, at_m1, at_m2, scD, emD, sizeLine_eq, ixN, sm_lit, mSrc, itemsD, plOf, rng1D, bNm, mSl, mPt, mNoP, slD, mPar, keepT, tmsO, setA, mFlow, zipX, enumX, itemsX, intsOf, ints_all, boolsOf, shaped_lay, lay_int, lay_bool, lay_none, lay_dict, lay_tup, lay_list, lay_ints, sortX_ints, mPlF, mPlI, mRd, mPU, mPB, mFSet, mFNew, mNSet, mPApp, mPSetIx, mPPop, mMeth, mNew, isIns, cellO, mLstN, mAddN, mAppN, semX, mTold, mCallX, xRet, xExpr, xSet, mRaise, mM, isL, isS, mOrV, truD])
local macro_rules | `(tactic| walk_at "es") => `(tactic| simp [semF, shared, after, mSeq, mSkip, mIf, mRet, mRetN, mRetV, mSet, mSetIx, mExpr, mB, mU, mTm, mPl, mK, mVar, mOp, mCons, mNil, bor, bors, mTst, mAndT, mOrT, mNotT, mAndE, mOrE, mNotE, mIfE, mIsi, isiD, mChn, chnL, cmpD, binD, addD, subD, mulD, modD, fdivD, powD, eqD, neD, ltD, leD, gtD, geD, isD, isnD, L2.M.isNon, negD, ixD, Bf.f, Bg.f, lenD, L2.M.intD, maxD, minD, repD, strD, gmaxD, gminD, sumD, sortD, anyD, allD, mCall, frz, fzO, lend, wb, mTup, mLst, fzs, cD, mAsg, bTup, bTps, mApp, tupD, lstD, mRev, revD, ofs_inj, ee_ii, ee_ss, ee_bb, ee_nn, ee_is, ee_si, ee_in, ee_ni, ee_tt, ee_ll, ee_maps, ee_0, ee_1, ee_2, ee_3, at_lit, at_nat, at_m1, at_m2, scD, emD, sizeLine_eq, ixN, sm_lit, mSrc, itemsD, plOf, rng1D, bNm, mSl, mPt, mNoP, slD, mPar, keepT, tmsO, setA, mFlow, zipX, enumX, itemsX, intsOf, ints_all, boolsOf, shaped_lay, lay_int, lay_bool, lay_none, lay_dict, lay_tup, lay_list, lay_ints, sortX_ints, mPlF, mPlI, mRd, mPU, mPB, mFSet, mFNew, mNSet, mPApp, mPSetIx, mPPop, mMeth, mNew, isIns, cellO, mLstN, mAddN, mAppN, semX, mTold, mCallX, xRet, xExpr, xSet, mRaise, mM, isL, isS, mOrV, truD, *])
local macro_rules | `(tactic| walk_at "el") => `(tactic| simp [semF, shared, after, mSeq, mSkip, mIf, mRet, mRetN, mRetV, mSet, mSetIx, mExpr, mB, mU, mTm, mPl, mK, mVar, mOp, mCons, mNil, bor, bors, mTst, mAndT, mOrT, mNotT, mAndE, mOrE, mNotE, mIfE, mIsi, isiD, mChn, chnL, cmpD, binD, addD, subD, mulD, modD, fdivD, powD, eqD, neD, ltD, leD, gtD, geD, isD, isnD, L2.M.isNon, negD, ixD, Bf.f, Bg.f, lenD, L2.M.intD, maxD, minD, repD, strD, gmaxD, gminD, sumD, sortD, anyD, allD, mCall, frz, fzO, lend, wb, mTup, mLst, fzs, cD, mAsg, bTup, bTps, mApp, tupD, lstD, mRev, revD, ofs_inj, ee_ii, ee_ss, ee_bb, ee_nn, ee_is, ee_si, ee_in, ee_ni, ee_tt, ee_ll, ee_maps, ee_0, ee_1, ee_2, ee_3, at_lit, at_nat, at_m1, at_m2, scD, emD, sizeLine_eq, ixN, sm_lit, mSrc, itemsD, plOf, rng1D, bNm, mSl, mPt, mNoP, slD, mPar, keepT, tmsO, setA, mFlow, zipX, enumX, itemsX, intsOf, ints_all, boolsOf, shaped_lay, lay_int, lay_bool, lay_none, lay_dict, lay_tup, lay_list, lay_ints, sortX_ints, mPlF, mPlI, mRd, mPU, mPB, mFSet, mFNew, mNSet, mPApp, mPSetIx, mPPop, mMeth, mNew, isIns, cellO, mLstN, mAddN, mAppN, semX, mTold, mCallX, xRet, xExpr, xSet, mRaise, mM, isL, isS, mOrV, truD, mLc, lcL, sameC, wipeC, restC, mYes, *])
local macro_rules | `(tactic| walk_at "ef") => `(tactic| simp [semF, shared, after, mSeq, mSkip, mIf, mRet, mRetN, mRetV, mSet, mSetIx, mExpr, mB, mU, mTm, mPl, mK, mVar, mOp, mCons, mNil, bor, bors, mTst, mAndT, mOrT, mNotT, mAndE, mOrE, mNotE, mIfE, mIsi, isiD, mChn, chnL, cmpD, binD, addD, subD, mulD, modD, fdivD, powD, eqD, neD, ltD, leD, gtD, geD, isD, isnD, L2.M.isNon, negD, ixD, Bf.f, Bg.f, lenD, L2.M.intD, maxD, minD, repD, strD, gmaxD, gminD, sumD, sortD, anyD, allD, mCall, frz, fzO, lend, wb, mTup, mLst, fzs, cD, mAsg, bTup, bTps, mApp, tupD, lstD, mRev, revD, ofs_inj, ee_ii, ee_ss, ee_bb, ee_nn, ee_is, ee_si, ee_in, ee_ni, ee_tt, ee_ll, ee_maps, ee_0, ee_1, ee_2, ee_3, at_lit, at_nat, at_m1, at_m2, scD, emD, sizeLine_eq, ixN, sm_lit, mSrc, itemsD, plOf, rng1D, bNm, mSl, mPt, mNoP, slD, mPar, keepT, tmsO, setA, mFlow, zipX, enumX, itemsX, intsOf, ints_all, boolsOf, shaped_lay, lay_int, lay_bool, lay_none, lay_dict, lay_tup, lay_list, lay_ints, sortX_ints, mPlF, mPlI, mRd, mPU, mPB, mFSet, mFNew, mNSet, mPApp, mPSetIx, mPPop, mMeth, mNew, isIns, cellO, mLstN, mAddN, mAppN, semX, mTold, mCallX, xRet, xExpr, xSet, mRaise, mM, isL, isS, mOrV, truD, mFor, forL, mLc, lcL, sameC, wipeC, restC, mYes, *])
local macro_rules | `(tactic| walk_at "rg") => `(tactic| (and_intros <;> grind))
local macro_rules | `(tactic| walk_at "nx") => `(tactic| (apply wx_nx; focus (walk_at "ev"; try first | exact ⟨rfl, rfl⟩ | rfl)))
local macro_rules | `(tactic| walk_at "ns") => `(tactic| (apply wx_nx; focus (walk_at "es"; try first | exact ⟨rfl, rfl⟩ | rfl)))
local macro_rules | `(tactic| walk_at "rt") => `(tactic| (apply wx_rt; focus (walk_at "ev"; try first | exact ⟨rfl, rfl⟩ | rfl)))
local macro_rules | `(tactic| walk_at "rs") => `(tactic| (apply wx_rt; focus (walk_at "es"; try first | exact ⟨rfl, rfl⟩ | rfl)))
local macro_rules | `(tactic| walk_at "ed") => `(tactic| simp [semF, shared, after, mSeq, mSkip, mIf, mRet, mRetN, mRetV, mSet, mSetIx, mExpr, mB, mU, mTm, mPl, mK, mVar, mOp, mCons, mNil, bor, bors, mTst, mAndT, mOrT, mNotT, mAndE, mOrE, mNotE, mIfE, mIsi, isiD, mChn, chnL, cmpD, binD, addD, subD, mulD, modD, fdivD, powD, eqD, neD, ltD, leD, gtD, geD, isD, isnD, L2.M.isNon, negD, ixD, Bf.f, Bg.f, lenD, L2.M.intD, maxD, minD, repD, strD, gmaxD, gminD, sumD, sortD, anyD, allD, mCall, frz, fzO, lend, wb, mTup, mLst, fzs, cD, mAsg, bTup, bTps, mApp, tupD, lstD, mRev, revD, ofs_inj, ee_ii, ee_ss, ee_bb, ee_nn, ee_is, ee_si, ee_in, ee_ni, ee_tt, ee_ll, ee_maps, ee_0, ee_1, ee_2, ee_3, at_lit, at_nat, at_m1, at_m2, scD, emD, sizeLine_eq, ixN, sm_lit, mSrc, itemsD, plOf, rng1D, bNm, mSl, mPt, mNoP, slD, mPar, keepT, tmsO, setA, mFlow, zipX, enumX, itemsX, intsOf, ints_all, boolsOf, shaped_lay, lay_int, lay_bool, lay_none, lay_dict, lay_tup, lay_list, lay_ints, sortX_ints, mPlF, mPlI, mRd, mPU, mPB, mFSet, mFNew, mNSet, mPApp, mPSetIx, mPPop, mMeth, mNew, isIns, cellO, mLstN, mAddN, mAppN, semX, mTold, mCallX, xRet, xExpr, xSet, mRaise, mM, isL, isS, mOrV, truD, mDNew, mDIn, mDGet, mDLen, mDPut, kyD, mNNew, mN1, mTake, mFnV, mCallF, mNIn, mNGet, mNPut, mNVals, mNList, nKs, mDGetD, mDList, mNNe, *])
theorem mr_1 {need : Int} {Y F : List PyData} (h : L2.M.cutL Y none (some 5) = F) (hz : F.length ≤ 16777215) : (mSet [0, 1] 2 (mSl (mPl 1) (mNoP) (mPt (mTm (mK (.int 5)))))) [.sh (.int need), .sh (.tuple Y), .no, .no, .no, .no, .no] = some (.nx, [.sh (.int need), .sh (.tuple Y), .sh (.tuple F), .no, .no, .no, .no]) := by
  walk_at "es"
theorem mr_2 {need m : Int} {Y F : PyData} {T : Str} {c3 c4 c5 : C} (f1 : g_most_served [.sh (.int need), .sh F] = some (.sh (.int m), [.sh (.int need), .sh F])) (f2 : g_law_most [.sh (.int need), .sh F] = some (.sh (.int m), [.sh (.int need), .sh F])) (hr : reprG [.int m] = some (.sh (.str T))) : (mIf (mTst (mB (cmpD .NotEq) (mTm (mOp reprG (mCons (mTm (mCall [true, true] g_most_served (mCons (mPl 0) (mCons (mPl 2) (mNil))))) (mNil)))) (mTm (mOp reprG (mCons (mTm (mCall [true, true] g_law_most (mCons (mPl 0) (mCons (mPl 2) (mNil))))) (mNil)))))) (mSeq (mRet (mK (.bool false))) (mSkip)) (mSkip)) [.sh (.int need), .sh Y, .sh F, c3, c4, c5, .no] = some (.nx, [.sh (.int need), .sh Y, .sh F, c3, c4, c5, .no]) := by
  generalize g_most_served = G1 at *
  generalize g_law_most = G2 at *
  generalize reprG = RG at *
  walk_at "es"
theorem mr_3 {need : Int} {Y F S R : PyData} {c3 c5 : C} (f : g_schedule_for [.sh (.int need), .sh S] = some (.sh R, [.sh (.int need), .sh S])) : (mSet [0, 1] 5 (mCall [true, true] g_schedule_for (mCons (mPl 0) (mCons (mPl 4) (mNil))))) [.sh (.int need), .sh Y, .sh F, c3, .sh S, c5, .no] = some (.nx, [.sh (.int need), .sh Y, .sh F, c3, .sh S, .sh R, .no]) := by
  generalize g_schedule_for = G1 at *
  walk_at "es"
theorem mr_4 {need N : Int} {Y F S : PyData} {R : List PyData} {c3 : C} (hN : (R.length : Int) = N) (f1 : g_law_good [.sh (.int need), .sh S, .sh (.tuple R)] = some (.sh (.bool true), [.sh (.int need), .sh S, .sh (.tuple R)])) (f2 : g_most_served [.sh (.int need), .sh S] = some (.sh (.int N), [.sh (.int need), .sh S])) : (mIf (mOrT (mNotT (mTst (mCall [true, true, true] g_law_good (mCons (mPl 0) (mCons (mPl 4) (mCons (mPl 5) (mNil))))))) (mTst (mB (cmpD .NotEq) (mTm (mOp (Bf.f .len) (mCons (mPl 5) (mNil)))) (mTm (mCall [true, true] g_most_served (mCons (mPl 0) (mCons (mPl 4) (mNil)))))))) (mSeq (mRet (mK (.bool false))) (mSkip)) (mSkip)) [.sh (.int need), .sh Y, .sh F, c3, .sh S, .sh (.tuple R), .no] = some (.nx, [.sh (.int need), .sh Y, .sh F, c3, .sh S, .sh (.tuple R), .no]) := by
  generalize g_law_good = G1 at *
  generalize g_most_served = G2 at *
  walk_at "es"
theorem mr_5 {need N M : Int} {Y F S : PyData} {R Z : List PyData} {c3 : C} (hN : (R.length : Int) = N) (hM : (Z.length : Int) = M) (hle : ¬ N < M) (k : (mLc (mSrc itemsD (mCons (mTm (mCall [true, true] g_done_by_time (mCons (mPl 0) (mCons (mPl 4) (mNil))))) mNil)) (bNm 6) (mTst (mB (cmpD .IsNot) (mPl 6) (mTm (mK .none)))) (mK (.int 1)) [6]) [.sh (.int need), .sh Y, .sh F, c3, .sh S, .sh (.tuple R), .no] = some (.ls Z, [.sh (.int need), .sh Y, .sh F, c3, .sh S, .sh (.tuple R), .no])) : (mIf (mTst (mB (cmpD .Lt) (mTm (mOp (Bf.f .len) (mCons (mPl 5) (mNil)))) (mTm (mOp (Bf.f .len) (mCons (mTm (mLc (mSrc itemsD (mCons (mTm (mCall [true, true] g_done_by_time (mCons (mPl 0) (mCons (mPl 4) (mNil))))) mNil)) (bNm 6) (mTst (mB (cmpD .IsNot) (mPl 6) (mTm (mK .none)))) (mK (.int 1)) [6])) (mNil)))))) (mSeq (mRet (mK (.bool false))) (mSkip)) (mSkip)) [.sh (.int need), .sh Y, .sh F, c3, .sh S, .sh (.tuple R), .no] = some (.nx, [.sh (.int need), .sh Y, .sh F, c3, .sh S, .sh (.tuple R), .no]) := by
  generalize mLc _ _ _ _ _ = ML at *
  walk_at "es"
theorem mr_5t {need : Int} {x : Option Int} {Y F S R : PyData} {c3 : C} : (mTst (mB (cmpD .IsNot) (mPl 6) (mTm (mK .none)))) [.sh (.int need), .sh Y, .sh F, c3, .sh S, .sh R, .sh (oD x)] = some (x.isSome, [.sh (.int need), .sh Y, .sh F, c3, .sh S, .sh R, .sh (oD x)]) := by
  cases x <;> (unfold oD; walk_at "ev")
theorem mr_5s {need : Int} {Y F S R : PyData} {c3 : C} {Z : List PyData} (f : g_done_by_time [.sh (.int need), .sh S] = some (.ls Z, [.sh (.int need), .sh S])) : (mCall [true, true] g_done_by_time (mCons (mPl 0) (mCons (mPl 4) (mNil)))) [.sh (.int need), .sh Y, .sh F, c3, .sh S, .sh R, .no] = some (.ls Z, [.sh (.int need), .sh Y, .sh F, c3, .sh S, .sh R, .no]) := by
  generalize g_done_by_time = G1 at *
  walk_at "es"
theorem mr_ds {need : Int} {Y F : PyData} {c3 c4 c5 : C} : (mSrc itemsD (mCons (mTm (mTup (mCons (mPl 2) (mCons (mPl 1) (mNil))))) mNil)) [.sh (.int need), .sh Y, .sh F, c3, c4, c5, .no] = some (([F, Y], []), [.sh (.int need), .sh Y, .sh F, c3, c4, c5, .no]) := by
  walk_at "ev"
theorem sF_cnt (n : Int) : ∀ (L : List (Option Int)) (k : Nat), (L.filter (·.isSome)).length = (sF n k L).length
  | [], _ => rfl
  | none :: L, k => by
    have := sF_cnt n L (k + 1)
    simpa [sF] using this
  | some d :: L, k => by
    have := sF_cnt n L (k + 1)
    simpa [sF] using this
theorem rep_int (m : Nat) (h : m ≤ 1000) : ∃ T : Str, reprG [.int (m : Int)] = some (.sh (.str T)) := ⟨_, reprG_eq (shw_i20 0 (by omega) (by omega)) (by decide) (by rw [sizeLine_eq]; decide)⟩
theorem good_sq {need : Int} {A : List (Int × Int)} {q : Sq} (h : Sch need A q) : Good need A (sqD q) := ⟨_, rfl, q, rfl, h⟩
theorem law_good_yes {need : Int} (hn : 0 ≤ need) {A : List (Int × Int)} (hA : ∀ p ∈ A, 0 ≤ p.1) {q : Sq} (h : Sch need A q) (hl : q.length ≤ 1000) : g_law_good [.sh (.int need), .sh (stD A), .sh (sqD q)] = some (.sh (.bool true), [.sh (.int need), .sh (stD A), .sh (sqD q)]) := by
  obtain ⟨b, hb, e⟩ := law_good_any hn hA (d := sqD q) (sml_tup (by simp; omega))
  rw [hb.mpr (good_sq h)] at e
  exact e
theorem law_most_right_eq {n : Int} (hn : 1 ≤ n) {A : List (Int × Int)} (hA : Ask A) : g_law_most_right [.sh (.int n), .sh (stD A)] = some (.sh (.bool true), [.sh (.int n), .sh (stD A)]) := by
  have hl := hA.l
  have hA0 : ∀ p ∈ A, 0 ≤ p.1 := fun p hp => (hA.b p hp).1.1
  have hF0 : ∀ p ∈ A.take 5, 0 ≤ p.1 := fun p hp => hA0 p (List.mem_of_mem_take hp)
  have hFl : (A.take 5).length ≤ 5 := by rw [List.length_take]; omega
  apply rt_eq
  unfold g_law_most_right m_law_most_right
  apply rt_sem rfl
  apply wx_nx (mr_1 (Y := A.map pr) (F := (A.take 5).map pr) (by rw [cut_map, cut_to _ (by omega)]; rfl) (by simp; omega))
  apply wx_seq
  apply wx_each (ds := rangeD 0 1 2) (ε1 := [.sh (.int n), .sh (stD A), .sh (stD (A.take 5)), .no, .no, .no, .no]) fun ε => ∃ c3 c4 c5, ε = [.sh (.int n), .sh (stD A), .sh (stD (A.take 5)), c3, c4, c5, .no]
  · rfl
  · exact ⟨_, _, _, rfl⟩
  · rintro d ε _ ⟨c3, c4, c5, rfl⟩
    refine ⟨[.sh (.int n), .sh (stD A), .sh (stD (A.take 5)), .sh d, c4, c5, .no], rfl, ?_⟩
    obtain ⟨q, hB, eb⟩ := best_schedule_eq (need := n) (by omega) (A := A.take 5) (by omega) hF0
    have hq := sch_len hB.1
    obtain ⟨T, hT⟩ := rep_int q.length (by omega)
    apply wx_nx (mr_2 (most_served_eq eb) (law_most_eq (by omega) hF0 hFl hB) hT)
    apply wx_seq
    apply wx_each (ds := [stD (A.take 5), stD A]) (ε1 := [.sh (.int n), .sh (stD A), .sh (stD (A.take 5)), .sh d, c4, c5, .no]) fun ε => ∃ c4 c5, ε = [.sh (.int n), .sh (stD A), .sh (stD (A.take 5)), .sh d, c4, c5, .no]
    · exact mr_ds
    · exact ⟨_, _, rfl⟩
    · rintro x ε hx ⟨c4, c5, rfl⟩
      obtain ⟨B, rfl, hBl, hB0⟩ : ∃ B : List (Int × Int), x = stD B ∧ B.length ≤ 8 ∧ ∀ p ∈ B, 0 ≤ p.1 := by
        simp only [List.mem_cons, List.not_mem_nil, or_false] at hx
        rcases hx with rfl | rfl
        · exact ⟨_, rfl, by omega, hF0⟩
        · exact ⟨_, rfl, hl, hA0⟩
      clear hx
      refine ⟨[.sh (.int n), .sh (stD A), .sh (stD (A.take 5)), .sh d, .sh (stD B), c5, .no], rfl, ?_⟩
      obtain ⟨r, hBr, er⟩ := best_schedule_eq (need := n) (by omega) hBl hB0
      have hr := sch_len hBr.1
      obtain ⟨L, K, hI⟩ := dn_inv (n := n) (by omega) hB0 B.length (Nat.le_refl _)
      rw [List.take_length] at hI
      have f1 := done_by_time_eq n B (by omega)
      rw [hI.to] at f1
      have hle := hBr.2 _ hI.sc
      have hll := hI.ll
      apply wx_nx (mr_3 (schedule_for_eq er))
      apply wx_nx (mr_4 (N := (r.length : Int)) (R := r.map prN) (by simp) (law_good_yes (by omega) hB0 hBr.1 (by omega)) (most_served_eq er))
      apply wx_nx (mr_5 (Z := (L.filter (·.isSome)).map fun _ => .int 1) (N := (r.length : Int)) (M := ((sF n 0 L).length : Int)) (by simp) (by rw [List.length_map, sF_cnt n L 0]) (by omega) ?_)
      rotate_left
      · exact mLc_encF oD (fun _ => .int 1) (fun x => x.isSome) (xs := L) (i := 6) (c0 := .no) (ws := []) (ε1 := [.sh (.int n), .sh (stD A), .sh (stD (A.take 5)), .sh d, .sh (stD B), .sh (sqD r), .no]) (src_items (c := .ls (L.map oD)) (mr_5s f1) (.inl rfl)) rfl (fun x _ => mr_5t) (fun x _ _ => ⟨_, rfl, rfl⟩) (by rw [sizeLine_eq]; omega)
      exact wx_skip ⟨_, _, rfl⟩
    · rintro ε ⟨c4, c5, rfl⟩
      exact wx_skip ⟨_, _, _, rfl⟩
  · rintro ε ⟨c3, c4, c5, rfl⟩
    exact wx_rt rfl ⟨rfl, rfl⟩
end KW
namespace KW
open PySem PySem.Spec PyProof.Rows L2 L2.M
local macro_rules | `(tactic| walk_at "ev") => `(tactic| simp [semF, shared, after, mSeq, mSkip, mIf, mRet, mRetN, mRetV, mSet, mSetIx, mExpr, mB, mU, mTm, mPl, mK, mVar, mOp, mCons, mNil, bor, bors, mTst, mAndT, mOrT, mNotT, mAndE, mOrE, mNotE, mIfE, mIsi, isiD, mChn, chnL, cmpD, binD, addD, subD, mulD, modD, fdivD, powD, eqD, neD, ltD, leD, gtD, geD, isD, isnD, L2.M.isNon, negD, ixD, Bf.f, Bg.f, lenD, L2.M.intD, maxD, minD, repD, strD, gmaxD, gminD, sumD, sortD, anyD, allD, mCall, frz, fzO, lend, wb, mTup, mLst, fzs, cD, mAsg, bTup, bTps, mApp, tupD, lstD, mRev, revD, ofs_inj, ee_ii, ee_ss, ee_bb, ee_nn, ee_is, ee_si, ee_in, ee_ni, ee_tt, ee_ll, ee_maps, ee_0, ee_1, ee_2, ee_3, at_lit, at_nat, at_m1, at_m2, scD, emD, sizeLine_eq, ixN, sm_lit, mSrc, itemsD, plOf, rng1D, bNm, mSl, mPt, mNoP, slD, mPar, keepT, tmsO, setA, mFlow, zipX, enumX, itemsX, intsOf, ints_all, boolsOf, shaped_lay, lay_int, lay_bool, lay_none, lay_dict, lay_tup, lay_list, lay_ints, sortX_ints, mPlF, mPlI, mRd, mPU, mPB, mFSet, mFNew, mNSet, mPApp, mPSetIx, mPPop, mMeth, mNew, isIns, cellO, mLstN, mAddN, mAppN, semX, mTold, mCallX, xRet, xExpr, xSet, mRaise, mM, isL, isS, mOrV, truD])
local macro_rules | `(tactic| walk_at "es") => `(tactic| simp [semF, shared, after, mSeq, mSkip, mIf, mRet, mRetN, mRetV, mSet, mSetIx, mExpr, mB, mU, mTm, mPl, mK, mVar, mOp, mCons, mNil, bor, bors, mTst, mAndT, mOrT, mNotT, mAndE, mOrE, mNotE, mIfE, mIsi, isiD, mChn, chnL, cmpD, binD, addD, subD, mulD, modD, fdivD, powD, eqD, neD, ltD, leD, gtD, geD, isD, isnD, L2.M.isNon, negD, ixD, Bf.f, Bg.f, lenD, L2.M.intD, maxD, minD, repD, strD, gmaxD, gminD, sumD, sortD, anyD, allD, mCall, frz, fzO, lend, wb, mTup, mLst, fzs, cD, mAsg, bTup, bTps, mApp, tupD, lstD, mRev, revD, ofs_inj, ee_ii, ee_ss, ee_bb, ee_nn, ee_is, ee_si, ee_in, ee_ni, ee_tt, ee_ll, ee_maps, ee_0, ee_1, ee_2, ee_3, at_lit, at_nat, at_m1, at_m2, scD, emD, sizeLine_eq, ixN, sm_lit, mSrc, itemsD, plOf, rng1D, bNm, mSl, mPt, mNoP, slD, mPar, keepT, tmsO, setA, mFlow, zipX, enumX, itemsX, intsOf, ints_all, boolsOf, shaped_lay, lay_int, lay_bool, lay_none, lay_dict, lay_tup, lay_list, lay_ints, sortX_ints, mPlF, mPlI, mRd, mPU, mPB, mFSet, mFNew, mNSet, mPApp, mPSetIx, mPPop, mMeth, mNew, isIns, cellO, mLstN, mAddN, mAppN, semX, mTold, mCallX, xRet, xExpr, xSet, mRaise, mM, isL, isS, mOrV, truD, *])
local macro_rules | `(tactic| walk_at "el") => `(tactic| simp [semF, shared, after, mSeq, mSkip, mIf, mRet, mRetN, mRetV, mSet, mSetIx, mExpr, mB, mU, mTm, mPl, mK, mVar, mOp, mCons, mNil, bor, bors, mTst, mAndT, mOrT, mNotT, mAndE, mOrE, mNotE, mIfE, mIsi, isiD, mChn, chnL, cmpD, binD, addD, subD, mulD, modD, fdivD, powD, eqD, neD, ltD, leD, gtD, geD, isD, isnD, L2.M.isNon, negD, ixD, Bf.f, Bg.f, lenD, L2.M.intD, maxD, minD, repD, strD, gmaxD, gminD, sumD, sortD, anyD, allD, mCall, frz, fzO, lend, wb, mTup, mLst, fzs, cD, mAsg, bTup, bTps, mApp, tupD, lstD, mRev, revD, ofs_inj, ee_ii, ee_ss, ee_bb, ee_nn, ee_is, ee_si, ee_in, ee_ni, ee_tt, ee_ll, ee_maps, ee_0, ee_1, ee_2, ee_3, at_lit, at_nat, at_m1, at_m2, scD, emD, sizeLine_eq, ixN, sm_lit, mSrc, itemsD, plOf, rng1D, bNm, mSl, mPt, mNoP, slD, mPar, keepT, tmsO, setA, mFlow, zipX, enumX, itemsX, intsOf, ints_all, boolsOf, shaped_lay, lay_int, lay_bool, lay_none, lay_dict, lay_tup, lay_list, lay_ints, sortX_ints, mPlF, mPlI, mRd, mPU, mPB, mFSet, mFNew, mNSet, mPApp, mPSetIx, mPPop, mMeth, mNew, isIns, cellO, mLstN, mAddN, mAppN, semX, mTold, mCallX, xRet, xExpr, xSet, mRaise, mM, isL, isS, mOrV, truD, mLc, lcL, sameC, wipeC, restC, mYes, *])
local macro_rules | `(tactic| walk_at "ef") => `(tactic| simp [semF, shared, after, mSeq, mSkip, mIf, mRet, mRetN, mRetV, mSet, mSetIx, mExpr, mB, mU, mTm, mPl, mK, mVar, mOp, mCons, mNil, bor, bors, mTst, mAndT, mOrT, mNotT, mAndE, mOrE, mNotE, mIfE, mIsi, isiD, mChn, chnL, cmpD, binD, addD, subD, mulD, modD, fdivD, powD, eqD, neD, ltD, leD, gtD, geD, isD, isnD, L2.M.isNon, negD, ixD, Bf.f, Bg.f, lenD, L2.M.intD, maxD, minD, repD, strD, gmaxD, gminD, sumD, sortD, anyD, allD, mCall, frz, fzO, lend, wb, mTup, mLst, fzs, cD, mAsg, bTup, bTps, mApp, tupD, lstD, mRev, revD, ofs_inj, ee_ii, ee_ss, ee_bb, ee_nn, ee_is, ee_si, ee_in, ee_ni, ee_tt, ee_ll, ee_maps, ee_0, ee_1, ee_2, ee_3, at_lit, at_nat, at_m1, at_m2, scD, emD, sizeLine_eq, ixN, sm_lit, mSrc, itemsD, plOf, rng1D, bNm, mSl, mPt, mNoP, slD, mPar, keepT, tmsO, setA, mFlow, zipX, enumX, itemsX, intsOf, ints_all, boolsOf, shaped_lay, lay_int, lay_bool, lay_none, lay_dict, lay_tup, lay_list, lay_ints, sortX_ints, mPlF, mPlI, mRd, mPU, mPB, mFSet, mFNew, mNSet, mPApp, mPSetIx, mPPop, mMeth, mNew, isIns, cellO, mLstN, mAddN, mAppN, semX, mTold, mCallX, xRet, xExpr, xSet, mRaise, mM, isL, isS, mOrV, truD, mFor, forL, mLc, lcL, sameC, wipeC, restC, mYes, *])
local macro_rules | `(tactic| walk_at "rg") => `(tactic| (and_intros <;> grind))
local macro_rules | `(tactic| walk_at "nx") => `(tactic| (apply wx_nx; focus (walk_at "ev"; try first | exact ⟨rfl, rfl⟩ | rfl)))
local macro_rules | `(tactic| walk_at "ns") => `(tactic| (apply wx_nx; focus (walk_at "es"; try first | exact ⟨rfl, rfl⟩ | rfl)))
local macro_rules | `(tactic| walk_at "rt") => `(tactic| (apply wx_rt; focus (walk_at "ev"; try first | exact ⟨rfl, rfl⟩ | rfl)))
local macro_rules | `(tactic| walk_at "rs") => `(tactic| (apply wx_rt; focus (walk_at "es"; try first | exact ⟨rfl, rfl⟩ | rfl)))
local macro_rules | `(tactic| walk_at "ed") => `(tactic| simp [semF, shared, after, mSeq, mSkip, mIf, mRet, mRetN, mRetV, mSet, mSetIx, mExpr, mB, mU, mTm, mPl, mK, mVar, mOp, mCons, mNil, bor, bors, mTst, mAndT, mOrT, mNotT, mAndE, mOrE, mNotE, mIfE, mIsi, isiD, mChn, chnL, cmpD, binD, addD, subD, mulD, modD, fdivD, powD, eqD, neD, ltD, leD, gtD, geD, isD, isnD, L2.M.isNon, negD, ixD, Bf.f, Bg.f, lenD, L2.M.intD, maxD, minD, repD, strD, gmaxD, gminD, sumD, sortD, anyD, allD, mCall, frz, fzO, lend, wb, mTup, mLst, fzs, cD, mAsg, bTup, bTps, mApp, tupD, lstD, mRev, revD, ofs_inj, ee_ii, ee_ss, ee_bb, ee_nn, ee_is, ee_si, ee_in, ee_ni, ee_tt, ee_ll, ee_maps, ee_0, ee_1, ee_2, ee_3, at_lit, at_nat, at_m1, at_m2, scD, emD, sizeLine_eq, ixN, sm_lit, mSrc, itemsD, plOf, rng1D, bNm, mSl, mPt, mNoP, slD, mPar, keepT, tmsO, setA, mFlow, zipX, enumX, itemsX, intsOf, ints_all, boolsOf, shaped_lay, lay_int, lay_bool, lay_none, lay_dict, lay_tup, lay_list, lay_ints, sortX_ints, mPlF, mPlI, mRd, mPU, mPB, mFSet, mFNew, mNSet, mPApp, mPSetIx, mPPop, mMeth, mNew, isIns, cellO, mLstN, mAddN, mAppN, semX, mTold, mCallX, xRet, xExpr, xSet, mRaise, mM, isL, isS, mOrV, truD, mDNew, mDIn, mDGet, mDLen, mDPut, kyD, mNNew, mN1, mTake, mFnV, mCallF, mNIn, mNGet, mNPut, mNVals, mNList, nKs, mDGetD, mDList, mNNe, *])
def nmL (s : List Nat) : List PyData := s.map fun k : Nat => .int (k : Int)
theorem nmL_len (s : List Nat) : (nmL s).length = s.length := List.length_map _
theorem nmL_ne (s : List Nat) : cmpD .NotEq (.list (nmL s)) (.list []) = some (.sh (.bool (!s.isEmpty))) := by
  have e : (L2.M.neD (.list (nmL s)) (.list [])) = if scD (.list (nmL s)) (.list []) || (SeqAt.shaped (.list (nmL s)) && SeqAt.shaped (.list [])) then some (.sh (.bool (!PyData.eqv (.list (nmL s)) (.list [])))) else none := rfl
  have h1 : SeqAt.shaped (.list (nmL s)) = true := by
    unfold nmL
    rw [shaped_lay, lay_list _ (by decide), List.all_map, List.all_eq_true]
    intro x _
    exact lay_int _ _
  have h2 : SeqAt.shaped (.list []) = true := by decide +kernel
  rw [show cmpD .NotEq = L2.M.neD from rfl, e, h1, h2, if_pos (by simp), ee_ll]
  cases s with
  | nil => rfl
  | cons x s => rfl
theorem e_popat {i k : Nat} {m : EM} {ε ε1 : Cs} {xs xs0 : List PyData} {d : PyData} (h0 : ε[i]? = some (.ls xs0)) (h : m ε = some (.sh (.int (k : Int)), ε1)) (h1 : ε1[i]? = some (.ls xs)) (hk : xs[k]? = some d) (hz : xs.length ≤ sizeLine) : mPopAt i m ε = some (.sh d, ε1.set i (.ls (xs.eraseIdx k))) := by
  have hk2 : k < xs.length := (List.getElem?_eq_some_iff.mp hk).1
  unfold mPopAt
  rw [h0]
  simp only [h, Option.bind_eq_bind, Option.bind_some, h1]
  rw [if_pos ⟨by omega, by omega, hz⟩, Int.toNat_natCast, hk]
  rfl
theorem erase_nm (s : List Nat) (k : Nat) : (nmL s).eraseIdx k = nmL (s.eraseIdx k) := by
  unfold nmL
  induction s generalizing k with
  | nil => simp
  | cons x s ih =>
    cases k with
    | zero => simp
    | succ k => simp [ih]
theorem pop_perm : ∀ (L : List Nat) (k : Nat) (h : k < L.length), L.Perm (L[k] :: L.eraseIdx k)
  | [], k, h => by cases h
  | x :: L, 0, h => List.Perm.refl _
  | x :: L, k + 1, h => by
    have ih := pop_perm L k (by simpa using h)
    exact (List.Perm.cons x ih).trans (List.Perm.swap _ _ _)
theorem ld_0 {P Y L : List PyData} {need : Int} (k : (mLrg (mOp (Bf.f .len) (mCons (mPl 2) (mNil)))) [.ls P, .sh (.int need), .sh (.tuple Y), .no, .no, .no, .no, .no, .no, .no] = some (.ls L, [.ls P, .sh (.int need), .sh (.tuple Y), .no, .no, .no, .no, .no, .no, .no])) : (mPar [0, 1, 2] [3, 4, 5] (mCons (mTm (mLrg (mOp (Bf.f .len) (mCons (mPl 2) (mNil))))) (mCons (mTm (mK (.int 0))) (mCons (mTm (mLst (mNil))) (mNil))))) [.ls P, .sh (.int need), .sh (.tuple Y), .no, .no, .no, .no, .no, .no, .no] = some (.nx, [.ls P, .sh (.int need), .sh (.tuple Y), .ls L, .sh (.int 0), .ls [], .no, .no, .no, .no]) := by
  generalize mLrg _ = ML at *
  walk_at "es"
theorem ld_0r {P : List PyData} {A : List (Int × Int)} {need : Int} (hA : A.length ≤ 8) : (mLrg (mOp (Bf.f .len) (mCons (mPl 2) (mNil)))) [.ls P, .sh (.int need), .sh (.tuple (A.map pr)), .no, .no, .no, .no, .no, .no, .no] = some (.ls (nmL (List.range A.length)), [.ls P, .sh (.int need), .sh (.tuple (A.map pr)), .no, .no, .no, .no, .no, .no, .no]) := by
  have e3 : mOp (Bf.f .len) (mCons (mPl 2) (mNil)) [.ls P, .sh (.int need), .sh (.tuple (A.map pr)), .no, .no, .no, .no, .no, .no, .no] = some (.sh (.int (A.length : Int)), [.ls P, .sh (.int need), .sh (.tuple (A.map pr)), .no, .no, .no, .no, .no, .no, .no]) := by
    have hz : (A.map pr).length = A.length := List.length_map _
    generalize A.map pr = Y at *
    generalize A.length = n at *
    walk_at "es"
  unfold mLrg
  rw [e3]
  have e4 : rangeD 0 1 A.length = nmL (List.range A.length) := by
    unfold rangeD nmL
    simp
  simp [e4]
  omega
theorem ld_t {P : List PyData} {Y : PyData} {need : Int} {L : List Nat} {c4 c5 c6 c7 c8 c9 : C} : (mTst (mB (cmpD .NotEq) (mPl 3) (mTm (mLst (mNil))))) [.ls P, .sh (.int need), .sh Y, .ls (nmL L), c4, c5, c6, c7, c8, c9] = some (!L.isEmpty, [.ls P, .sh (.int need), .sh Y, .ls (nmL L), c4, c5, c6, c7, c8, c9]) := by
  have h := nmL_ne L
  generalize cmpD .NotEq = G at *
  generalize nmL L = Z at *
  walk_at "es"
theorem ld_pe {P P2 : List PyData} {Y : PyData} {need N v : Int} {L : List PyData} {c4 c5 c6 c7 c8 c9 : C} (hN : (L.length : Int) = N) (f : g_law_draw [.ls P, .sh (.int N)] = some (.sh (.int v), [.ls P2, .sh (.int N)])) : (mCall [true, true] g_law_draw (mCons (mPl 0) (mCons (mTm (mOp (Bf.f .len) (mCons (mPl 3) (mNil)))) (mNil)))) [.ls P, .sh (.int need), .sh Y, .ls L, c4, c5, c6, c7, c8, c9] = some (.sh (.int v), [.ls P2, .sh (.int need), .sh Y, .ls L, c4, c5, c6, c7, c8, c9]) := by
  generalize g_law_draw = G at *
  walk_at "es"
theorem ld_a {P : List PyData} {Y : List PyData} {need k bt tm : Int} {c3 c4 c5 c7 c8 c9 : C} (h : atI Y k = some (.tuple [.int bt, .int tm])) : (mAsg [7, 8] [0, 1, 2] (bTup [bNm 7, bNm 8]) (mB ixD (mPl 2) (mPl 6))) [.ls P, .sh (.int need), .sh (.tuple Y), c3, c4, c5, .sh (.int k), c7, c8, c9] = some (.nx, [.ls P, .sh (.int need), .sh (.tuple Y), c3, c4, c5, .sh (.int k), .sh (.int bt), .sh (.int tm), c9]) := by
  walk_at "es"
theorem ld_b {P P2 P3 : List PyData} {need f bt v w x : Int} {c2 c3 c5 c6 c8 c9 : C} (f1 : g_law_draw [.ls P, .sh (.int 3)] = some (.sh (.int v), [.ls P2, .sh (.int 3)])) (f2 : g_law_draw [.ls P2, .sh (.int 3)] = some (.sh (.int w), [.ls P3, .sh (.int 3)])) (h : atI ([.int 0, .int 0, .int v] : List PyData) w = some (.int x)) : (mSet [0, 1, 2] 9 (mB (binD .Add) (mTm (mOp (Bf.f .max) (mCons (mPl 4) (mCons (mPl 7) (mNil))))) (mTm (mB ixD (mTm (mLst (mCons (mTm (mK (.int 0))) (mCons (mTm (mK (.int 0))) (mCons (mTm (mCall [true, true] g_law_draw (mCons (mPl 0) (mCons (mTm (mK (.int 3))) (mNil))))) (mNil)))))) (mTm (mCall [true, true] g_law_draw (mCons (mPl 0) (mCons (mTm (mK (.int 3))) (mNil))))))))) [.ls P, .sh (.int need), c2, c3, .sh (.int f), c5, c6, .sh (.int bt), c8, c9] = some (.nx, [.ls P3, .sh (.int need), c2, c3, .sh (.int f), c5, c6, .sh (.int bt), c8, .sh (.int ((if f < bt then bt else f) + x))]) := by
  generalize g_law_draw = G at *
  walk_at "es"
theorem ld_i {P S : List PyData} {need f bt tm k b : Int} {c2 c3 : C} (hS : S.length < 16777216) : (mIf (mTst (mB (cmpD .LtE) (mTm (mB (binD .Add) (mPl 9) (mPl 1))) (mTm (mB (binD .Add) (mPl 7) (mPl 8))))) (mSeq (mApp 5 (mTup (mCons (mPl 6) (mCons (mPl 9) (mNil))))) (mSeq (mSet [0, 1, 2] 4 (mB (binD .Add) (mPl 9) (mPl 1))) (mSkip))) (mSkip)) [.ls P, .sh (.int need), c2, c3, .sh (.int f), .ls S, .sh (.int k), .sh (.int bt), .sh (.int tm), .sh (.int b)] = some (.nx, if b + need ≤ bt + tm then [.ls P, .sh (.int need), c2, c3, .sh (.int (b + need)), .ls (S ++ [.tuple [.int k, .int b]]), .sh (.int k), .sh (.int bt), .sh (.int tm), .sh (.int b)] else [.ls P, .sh (.int need), c2, c3, .sh (.int f), .ls S, .sh (.int k), .sh (.int bt), .sh (.int tm), .sh (.int b)]) := by
  by_cases c : b + need ≤ bt + tm <;> walk_at "es"
theorem ld_r {P S : List PyData} {need : Int} {c2 c3 c4 c6 c7 c8 c9 : C} (hS : S.length < 16777216) : (mRet (mOp (Bf.f .tuple) (mCons (mPl 5) (mNil)))) [.ls P, .sh (.int need), c2, c3, c4, .ls S, c6, c7, c8, c9] = some (.rt (.sh (.tuple S)), [.ls P, .sh (.int need), c2, c3, c4, .ls S, c6, c7, c8, c9]) := by
  have hz : S.length ≤ 16777216 := by omega
  walk_at "es"
theorem at_001 {v w : Int} (hv : 0 ≤ v) (h0 : 0 ≤ w) (h1 : w < 3) : ∃ x : Int, atI ([.int 0, .int 0, .int v] : List PyData) w = some (.int x) ∧ 0 ≤ x := by
  have : w = 0 ∨ w = 1 ∨ w = 2 := by omega
  rcases this with rfl | rfl | rfl
  · exact ⟨0, rfl, Int.le_refl _⟩
  · exact ⟨0, rfl, Int.le_refl _⟩
  · exact ⟨v, rfl, hv⟩
theorem law_drawn_eq (p : Pn) {need : Int} (hn : 0 ≤ need) {A : List (Int × Int)} (hA : A.length ≤ 8) : Rt (g_law_drawn [.ls (penL p), .sh (.int need), .sh (stD A)]) fun c cs => ∃ (q : Sq) (p' : Pn), Sch need A q ∧ c = .sh (sqD q) ∧ cs = [.ls (penL p'), .sh (.int need), .sh (stD A)] := by
  unfold g_law_drawn m_law_drawn
  apply rt_sem rfl
  apply wx_nx (ld_0 (ld_0r hA))
  apply wx_seq
  apply wx_while (fun n ε => ∃ (p : Pn) (L : List Nat) (q : Sq) (c6 c7 c8 c9 : C), ε = [.ls (penL p), .sh (.int need), .sh (stD A), .ls (nmL L), .sh (.int (fre need q)), .ls (q.map prN), c6, c7, c8, c9] ∧ n = L.length ∧ Sch need A q ∧ L.Nodup ∧ ∀ k ∈ L, k < A.length ∧ k ∉ q.map (·.1)) A.length ⟨p, List.range A.length, [], _, _, _, _, rfl, by simp, sch_nil _ _, List.nodup_range, fun k hk => ⟨List.mem_range.mp hk, by simp⟩⟩
  rintro n ε ⟨p, L, q, c6, c7, c8, c9, rfl, rfl, hs, hnd, hk⟩
  have hql := sch_len hs
  refine ⟨_, _, ld_t, fun h => ?_, fun h => ?_⟩
  · refine wx_rt (ld_r (by simp; omega)) ⟨q, p, hs, rfl, rfl⟩
  · have hne : L ≠ [] := by
      intro e
      rw [e] at h
      simp at h
    have hpos : 0 < L.length := List.length_pos_iff.mpr hne
    have hLl : L.length ≤ A.length := by
      have := nd_le L (List.range A.length) hnd fun k h => List.mem_range.mpr (hk k h).1
      simpa using this
    have hd := dr_ab p (L.length : Int) (by omega)
    have hdr := draw_eq p (L.length : Int) (by omega) ⟨by omega, by omega⟩
    generalize dr p (L.length : Int) = v at *
    generalize dn p (L.length : Int) = p2 at *
    obtain ⟨j, rfl⟩ : ∃ j : Nat, v = j := ⟨v.toNat, by omega⟩
    have hj : j < L.length := by omega
    have hLj : (nmL L)[j]? = some (.int ((L[j] : Nat) : Int)) := by
      unfold nmL
      rw [List.getElem?_map, List.getElem?_eq_getElem hj]
      rfl
    apply wx_nx (e_set (i := 6) (e_popat (xs := nmL L) rfl (ld_pe (N := (L.length : Int)) (by rw [nmL_len]) hdr) rfl hLj (by rw [sizeLine_eq, nmL_len]; omega)) (by simp) (by simp))
    have he : (nmL L).eraseIdx j = nmL (L.eraseIdx j) := erase_nm L j
    rw [he]
    have hm := hk L[j] (List.getElem_mem hj)
    have hperm : L.Perm (L[j] :: L.eraseIdx j) := pop_perm L j hj
    have hnd2 := (hperm.nodup_iff.mp hnd)
    have hsub : ∀ k ∈ L.eraseIdx j, k ∈ L := fun k h => List.mem_of_mem_eraseIdx h
    have hl2 : (L.eraseIdx j).length < L.length := by
      rw [List.length_eraseIdx_of_lt hj]
      omega
    generalize L.eraseIdx j = M at *
    generalize L[j] = k at *
    have hgk : A.getD k (0, 0) = A[k]'hm.1 := by rw [List.getD_eq_getElem?_getD, List.getElem?_eq_getElem hm.1]; rfl
    apply wx_nx (ld_a (at_pr hm.1))
    have d1 := draw_eq p2 3 (by decide) ⟨by decide, by decide⟩
    have d2 := draw_eq (dn p2 3) 3 (by decide) ⟨by decide, by decide⟩
    have b1 := dr_ab p2 3 (by decide)
    have b2 := dr_ab (dn p2 3) 3 (by decide)
    obtain ⟨x, hx, hx0⟩ := at_001 b1.1 b2.1 b2.2
    apply wx_nx (ld_b d1 d2 hx)
    have hb : fre need q ≤ (if fre need q < (A.getD k (0, 0)).1 then (A.getD k (0, 0)).1 else fre need q) + x ∧ (A.getD k (0, 0)).1 ≤ (if fre need q < (A.getD k (0, 0)).1 then (A.getD k (0, 0)).1 else fre need q) + x := by
      split <;> omega
    generalize (if fre need q < (A.getD k (0, 0)).1 then (A.getD k (0, 0)).1 else fre need q) + x = b at *
    apply wx_nx (ld_i (by simp; omega))
    by_cases c : b + need ≤ (A.getD k (0, 0)).1 + (A.getD k (0, 0)).2
    · rw [if_pos c]
      have hs2 : Sch need A (q ++ [(k, b)]) := sch_ext hn hs (plc_iff.mpr ⟨hm.1, hb.2, c⟩) hm.2 hb.1
      refine wx_skip ⟨M.length, hl2, dn (dn p2 3) 3, M, q ++ [(k, b)], .sh (.int (k : Int)), .sh (.int (A.getD k (0, 0)).1), .sh (.int (A.getD k (0, 0)).2), .sh (.int b), ?_, rfl, hs2, (List.nodup_cons.mp hnd2).2, fun z hz => ⟨(hk z (hsub z hz)).1, ?_⟩⟩
      · rw [fre_snoc, List.map_append]
        rfl
      · rw [List.map_append]
        intro h
        rcases List.mem_append.mp h with h | h
        · exact (hk z (hsub z hz)).2 h
        · have : z = k := by simpa using h
          exact (List.nodup_cons.mp hnd2).1 (this ▸ hz)
    · rw [if_neg c]
      exact wx_skip ⟨M.length, hl2, dn (dn p2 3) 3, M, q, .sh (.int (k : Int)), .sh (.int (A.getD k (0, 0)).1), .sh (.int (A.getD k (0, 0)).2), .sh (.int b), rfl, rfl, hs, (List.nodup_cons.mp hnd2).2, fun z hz => hk z (hsub z hz)⟩
end KW
namespace KW
open PySem PySem.Spec PyProof.Rows L2 L2.M
local macro_rules | `(tactic| walk_at "ev") => `(tactic| simp [semF, shared, after, mSeq, mSkip, mIf, mRet, mRetN, mRetV, mSet, mSetIx, mExpr, mB, mU, mTm, mPl, mK, mVar, mOp, mCons, mNil, bor, bors, mTst, mAndT, mOrT, mNotT, mAndE, mOrE, mNotE, mIfE, mIsi, isiD, mChn, chnL, cmpD, binD, addD, subD, mulD, modD, fdivD, powD, eqD, neD, ltD, leD, gtD, geD, isD, isnD, L2.M.isNon, negD, ixD, Bf.f, Bg.f, lenD, L2.M.intD, maxD, minD, repD, strD, gmaxD, gminD, sumD, sortD, anyD, allD, mCall, frz, fzO, lend, wb, mTup, mLst, fzs, cD, mAsg, bTup, bTps, mApp, tupD, lstD, mRev, revD, ofs_inj, ee_ii, ee_ss, ee_bb, ee_nn, ee_is, ee_si, ee_in, ee_ni, ee_tt, ee_ll, ee_maps, ee_0, ee_1, ee_2, ee_3, at_lit, at_nat, at_m1, at_m2, scD, emD, sizeLine_eq, ixN, sm_lit, mSrc, itemsD, plOf, rng1D, bNm, mSl, mPt, mNoP, slD, mPar, keepT, tmsO, setA, mFlow, zipX, enumX, itemsX, intsOf, ints_all, boolsOf, shaped_lay, lay_int, lay_bool, lay_none, lay_dict, lay_tup, lay_list, lay_ints, sortX_ints, mPlF, mPlI, mRd, mPU, mPB, mFSet, mFNew, mNSet, mPApp, mPSetIx, mPPop, mMeth, mNew, isIns, cellO, mLstN, mAddN, mAppN, semX, mTold, mCallX, xRet, xExpr, xSet, mRaise, mM, isL, isS, mOrV, truD])
local macro_rules | `(tactic| walk_at "es") => `(tactic| simp [semF, shared, after, mSeq, mSkip, mIf, mRet, mRetN, mRetV, mSet, mSetIx, mExpr, mB, mU, mTm, mPl, mK, mVar, mOp, mCons, mNil, bor, bors, mTst, mAndT, mOrT, mNotT, mAndE, mOrE, mNotE, mIfE, mIsi, isiD, mChn, chnL, cmpD, binD, addD, subD, mulD, modD, fdivD, powD, eqD, neD, ltD, leD, gtD, geD, isD, isnD, L2.M.isNon, negD, ixD, Bf.f, Bg.f, lenD, L2.M.intD, maxD, minD, repD, strD, gmaxD, gminD, sumD, sortD, anyD, allD, mCall, frz, fzO, lend, wb, mTup, mLst, fzs, cD, mAsg, bTup, bTps, mApp, tupD, lstD, mRev, revD, ofs_inj, ee_ii, ee_ss, ee_bb, ee_nn, ee_is, ee_si, ee_in, ee_ni, ee_tt, ee_ll, ee_maps, ee_0, ee_1, ee_2, ee_3, at_lit, at_nat, at_m1, at_m2, scD, emD, sizeLine_eq, ixN, sm_lit, mSrc, itemsD, plOf, rng1D, bNm, mSl, mPt, mNoP, slD, mPar, keepT, tmsO, setA, mFlow, zipX, enumX, itemsX, intsOf, ints_all, boolsOf, shaped_lay, lay_int, lay_bool, lay_none, lay_dict, lay_tup, lay_list, lay_ints, sortX_ints, mPlF, mPlI, mRd, mPU, mPB, mFSet, mFNew, mNSet, mPApp, mPSetIx, mPPop, mMeth, mNew, isIns, cellO, mLstN, mAddN, mAppN, semX, mTold, mCallX, xRet, xExpr, xSet, mRaise, mM, isL, isS, mOrV, truD, *])
local macro_rules | `(tactic| walk_at "el") => `(tactic| simp [semF, shared, after, mSeq, mSkip, mIf, mRet, mRetN, mRetV, mSet, mSetIx, mExpr, mB, mU, mTm, mPl, mK, mVar, mOp, mCons, mNil, bor, bors, mTst, mAndT, mOrT, mNotT, mAndE, mOrE, mNotE, mIfE, mIsi, isiD, mChn, chnL, cmpD, binD, addD, subD, mulD, modD, fdivD, powD, eqD, neD, ltD, leD, gtD, geD, isD, isnD, L2.M.isNon, negD, ixD, Bf.f, Bg.f, lenD, L2.M.intD, maxD, minD, repD, strD, gmaxD, gminD, sumD, sortD, anyD, allD, mCall, frz, fzO, lend, wb, mTup, mLst, fzs, cD, mAsg, bTup, bTps, mApp, tupD, lstD, mRev, revD, ofs_inj, ee_ii, ee_ss, ee_bb, ee_nn, ee_is, ee_si, ee_in, ee_ni, ee_tt, ee_ll, ee_maps, ee_0, ee_1, ee_2, ee_3, at_lit, at_nat, at_m1, at_m2, scD, emD, sizeLine_eq, ixN, sm_lit, mSrc, itemsD, plOf, rng1D, bNm, mSl, mPt, mNoP, slD, mPar, keepT, tmsO, setA, mFlow, zipX, enumX, itemsX, intsOf, ints_all, boolsOf, shaped_lay, lay_int, lay_bool, lay_none, lay_dict, lay_tup, lay_list, lay_ints, sortX_ints, mPlF, mPlI, mRd, mPU, mPB, mFSet, mFNew, mNSet, mPApp, mPSetIx, mPPop, mMeth, mNew, isIns, cellO, mLstN, mAddN, mAppN, semX, mTold, mCallX, xRet, xExpr, xSet, mRaise, mM, isL, isS, mOrV, truD, mLc, lcL, sameC, wipeC, restC, mYes, *])
local macro_rules | `(tactic| walk_at "ef") => `(tactic| simp [semF, shared, after, mSeq, mSkip, mIf, mRet, mRetN, mRetV, mSet, mSetIx, mExpr, mB, mU, mTm, mPl, mK, mVar, mOp, mCons, mNil, bor, bors, mTst, mAndT, mOrT, mNotT, mAndE, mOrE, mNotE, mIfE, mIsi, isiD, mChn, chnL, cmpD, binD, addD, subD, mulD, modD, fdivD, powD, eqD, neD, ltD, leD, gtD, geD, isD, isnD, L2.M.isNon, negD, ixD, Bf.f, Bg.f, lenD, L2.M.intD, maxD, minD, repD, strD, gmaxD, gminD, sumD, sortD, anyD, allD, mCall, frz, fzO, lend, wb, mTup, mLst, fzs, cD, mAsg, bTup, bTps, mApp, tupD, lstD, mRev, revD, ofs_inj, ee_ii, ee_ss, ee_bb, ee_nn, ee_is, ee_si, ee_in, ee_ni, ee_tt, ee_ll, ee_maps, ee_0, ee_1, ee_2, ee_3, at_lit, at_nat, at_m1, at_m2, scD, emD, sizeLine_eq, ixN, sm_lit, mSrc, itemsD, plOf, rng1D, bNm, mSl, mPt, mNoP, slD, mPar, keepT, tmsO, setA, mFlow, zipX, enumX, itemsX, intsOf, ints_all, boolsOf, shaped_lay, lay_int, lay_bool, lay_none, lay_dict, lay_tup, lay_list, lay_ints, sortX_ints, mPlF, mPlI, mRd, mPU, mPB, mFSet, mFNew, mNSet, mPApp, mPSetIx, mPPop, mMeth, mNew, isIns, cellO, mLstN, mAddN, mAppN, semX, mTold, mCallX, xRet, xExpr, xSet, mRaise, mM, isL, isS, mOrV, truD, mFor, forL, mLc, lcL, sameC, wipeC, restC, mYes, *])
local macro_rules | `(tactic| walk_at "rg") => `(tactic| (and_intros <;> grind))
local macro_rules | `(tactic| walk_at "nx") => `(tactic| (apply wx_nx; focus (walk_at "ev"; try first | exact ⟨rfl, rfl⟩ | rfl)))
local macro_rules | `(tactic| walk_at "ns") => `(tactic| (apply wx_nx; focus (walk_at "es"; try first | exact ⟨rfl, rfl⟩ | rfl)))
local macro_rules | `(tactic| walk_at "rt") => `(tactic| (apply wx_rt; focus (walk_at "ev"; try first | exact ⟨rfl, rfl⟩ | rfl)))
local macro_rules | `(tactic| walk_at "rs") => `(tactic| (apply wx_rt; focus (walk_at "es"; try first | exact ⟨rfl, rfl⟩ | rfl)))
local macro_rules | `(tactic| walk_at "ed") => `(tactic| simp [semF, shared, after, mSeq, mSkip, mIf, mRet, mRetN, mRetV, mSet, mSetIx, mExpr, mB, mU, mTm, mPl, mK, mVar, mOp, mCons, mNil, bor, bors, mTst, mAndT, mOrT, mNotT, mAndE, mOrE, mNotE, mIfE, mIsi, isiD, mChn, chnL, cmpD, binD, addD, subD, mulD, modD, fdivD, powD, eqD, neD, ltD, leD, gtD, geD, isD, isnD, L2.M.isNon, negD, ixD, Bf.f, Bg.f, lenD, L2.M.intD, maxD, minD, repD, strD, gmaxD, gminD, sumD, sortD, anyD, allD, mCall, frz, fzO, lend, wb, mTup, mLst, fzs, cD, mAsg, bTup, bTps, mApp, tupD, lstD, mRev, revD, ofs_inj, ee_ii, ee_ss, ee_bb, ee_nn, ee_is, ee_si, ee_in, ee_ni, ee_tt, ee_ll, ee_maps, ee_0, ee_1, ee_2, ee_3, at_lit, at_nat, at_m1, at_m2, scD, emD, sizeLine_eq, ixN, sm_lit, mSrc, itemsD, plOf, rng1D, bNm, mSl, mPt, mNoP, slD, mPar, keepT, tmsO, setA, mFlow, zipX, enumX, itemsX, intsOf, ints_all, boolsOf, shaped_lay, lay_int, lay_bool, lay_none, lay_dict, lay_tup, lay_list, lay_ints, sortX_ints, mPlF, mPlI, mRd, mPU, mPB, mFSet, mFNew, mNSet, mPApp, mPSetIx, mPPop, mMeth, mNew, isIns, cellO, mLstN, mAddN, mAppN, semX, mTold, mCallX, xRet, xExpr, xSet, mRaise, mM, isL, isS, mOrV, truD, mDNew, mDIn, mDGet, mDLen, mDPut, kyD, mNNew, mN1, mTake, mFnV, mCallF, mNIn, mNGet, mNPut, mNVals, mNList, nKs, mDGetD, mDList, mNNe, *])
theorem lb_1 {P P2 P3 : List PyData} {S o : PyData} {need v : Int} (f1 : g_law_draw [.ls P, .sh (.int 17)] = some (.sh (.int v), [.ls P2, .sh (.int 17)])) (f2 : g_law_odd [.ls P2] = some (.sh o, [.ls P3])) : (mPar [0, 1, 2] [3, 4] (mCons (mTm (mCall [true, true] g_law_draw (mCons (mPl 0) (mCons (mTm (mK (.int 17))) (mNil))))) (mCons (mTm (mCall [true] g_law_odd (mCons (mPl 0) (mNil)))) (mNil)))) [.ls P, .sh (.int need), .sh S, .no, .no, .no, .no, .no, .no, .no] = some (.nx, [.ls P3, .sh (.int need), .sh S, .sh (.int v), .sh o, .no, .no, .no, .no, .no]) := by
  generalize g_law_draw = G at *
  generalize g_law_odd = G2 at *
  walk_at "es"
theorem lb_2e {P : List PyData} {o d : PyData} {need v : Int} (h : atI ([.tuple [.tuple [.int 0, .int 0]], .list [], .tuple [o], .tuple [.tuple [.int (-1), .int 0]], .tuple [.tuple [.int 0, .bool true]]] : List PyData) (v % 5) = some d) : (mIf (mTst (mB (cmpD .Eq) (mPl 2) (mTm (mTup (mNil))))) (mSeq (mRet (mB ixD (mTm (mLst (mCons (mTm (mTup (mCons (mTm (mTup (mCons (mTm (mK (.int 0))) (mCons (mTm (mK (.int 0))) (mNil))))) (mNil)))) (mCons (mTm (mLst (mNil))) (mCons (mTm (mTup (mCons (mPl 4) (mNil)))) (mCons (mTm (mTup (mCons (mTm (mTup (mCons (mTm (mU negD (mTm (mK (.int 1))))) (mCons (mTm (mK (.int 0))) (mNil))))) (mNil)))) (mCons (mTm (mTup (mCons (mTm (mTup (mCons (mTm (mK (.int 0))) (mCons (mTm (mK (.bool true))) (mNil))))) (mNil)))) (mNil)))))))) (mTm (mB (binD .Mod) (mPl 3) (mTm (mK (.int 5))))))) (mSkip)) (mSkip)) [.ls P, .sh (.int need), .sh (.tuple []), .sh (.int v), .sh o, .no, .no, .no, .no, .no] = some (.rt (.sh d), [.ls P, .sh (.int need), .sh (.tuple []), .sh (.int v), .sh o, .no, .no, .no, .no, .no]) := by
  walk_at "es"
theorem lb_2 {P : List PyData} {o S : PyData} {need v : Int} (h : cmpD .Eq S (.tuple []) = some (.sh (.bool false))) : (mIf (mTst (mB (cmpD .Eq) (mPl 2) (mTm (mTup (mNil))))) (mSeq (mRet (mB ixD (mTm (mLst (mCons (mTm (mTup (mCons (mTm (mTup (mCons (mTm (mK (.int 0))) (mCons (mTm (mK (.int 0))) (mNil))))) (mNil)))) (mCons (mTm (mLst (mNil))) (mCons (mTm (mTup (mCons (mPl 4) (mNil)))) (mCons (mTm (mTup (mCons (mTm (mTup (mCons (mTm (mU negD (mTm (mK (.int 1))))) (mCons (mTm (mK (.int 0))) (mNil))))) (mNil)))) (mCons (mTm (mTup (mCons (mTm (mTup (mCons (mTm (mK (.int 0))) (mCons (mTm (mK (.bool true))) (mNil))))) (mNil)))) (mNil)))))))) (mTm (mB (binD .Mod) (mPl 3) (mTm (mK (.int 5))))))) (mSkip)) (mSkip)) [.ls P, .sh (.int need), .sh S, .sh (.int v), .sh o, .no, .no, .no, .no, .no] = some (.nx, [.ls P, .sh (.int need), .sh S, .sh (.int v), .sh o, .no, .no, .no, .no, .no]) := by
  generalize cmpD .Eq = G at *
  walk_at "es"
theorem lb_3 {P P2 S : List PyData} {o : PyData} {need v N k : Int} (h : (S.length : Int) = N) (f1 : g_law_draw [.ls P, .sh (.int N)] = some (.sh (.int k), [.ls P2, .sh (.int N)])) : (mSet [0, 1, 2] 5 (mCall [true, true] g_law_draw (mCons (mPl 0) (mCons (mTm (mOp (Bf.f .len) (mCons (mPl 2) (mNil)))) (mNil))))) [.ls P, .sh (.int need), .sh (.tuple S), .sh (.int v), .sh o, .no, .no, .no, .no, .no] = some (.nx, [.ls P2, .sh (.int need), .sh (.tuple S), .sh (.int v), .sh o, .sh (.int k), .no, .no, .no, .no]) := by
  generalize g_law_draw = G at *
  walk_at "es"
theorem lb_4 {P S : List PyData} {o : PyData} {need v k a b : Int} (h : atI S k = some (.tuple [.int a, .int b])) : (mAsg [6, 7] [0, 1, 2] (bTup [bNm 6, bNm 7]) (mB ixD (mPl 2) (mPl 5))) [.ls P, .sh (.int need), .sh (.tuple S), .sh (.int v), .sh o, .sh (.int k), .no, .no, .no, .no] = some (.nx, [.ls P, .sh (.int need), .sh (.tuple S), .sh (.int v), .sh o, .sh (.int k), .sh (.int a), .sh (.int b), .no, .no]) := by
  walk_at "es"
theorem lb_5 {P S : List PyData} {o : PyData} {need v k a b a0 b0 a1 b1 : Int} (h0 : atI S 0 = some (.tuple [.int a0, .int b0])) (h1 : atI S (-1) = some (.tuple [.int a1, .int b1])) : (mSet [0, 1, 2] 8 (mLst (mCons (mTm (mTup (mCons (mPl 6) (mCons (mTm (mB (binD .Sub) (mPl 7) (mTm (mK (.int 1))))) (mNil))))) (mCons (mTm (mTup (mCons (mPl 6) (mCons (mTm (mB (binD .Add) (mPl 7) (mTm (mK (.int 1))))) (mNil))))) (mCons (mTm (mTup (mCons (mPl 6) (mCons (mTm (mU negD (mTm (mK (.int 1))))) (mNil))))) (mCons (mTm (mTup (mCons (mTm (mB ixD (mTm (mB ixD (mPl 2) (mTm (mK (.int 0))))) (mTm (mK (.int 0))))) (mCons (mPl 7) (mNil))))) (mCons (mTm (mTup (mCons (mTm (mB ixD (mTm (mB ixD (mPl 2) (mTm (mU negD (mTm (mK (.int 1))))))) (mTm (mK (.int 0))))) (mCons (mPl 7) (mNil))))) (mNil)))))))) [.ls P, .sh (.int need), .sh (.tuple S), .sh (.int v), .sh o, .sh (.int k), .sh (.int a), .sh (.int b), .no, .no] = some (.nx, [.ls P, .sh (.int need), .sh (.tuple S), .sh (.int v), .sh o, .sh (.int k), .sh (.int a), .sh (.int b), .ls [.tuple [.int a, .int (b - 1)], .tuple [.int a, .int (b + 1)], .tuple [.int a, .int (-1)], .tuple [.int a0, .int b], .tuple [.int a1, .int b]], .no]) := by
  rw [at_lit] at h0
  rw [at_m1] at h1
  walk_at "es"
theorem lb_6 {P S L : List PyData} {o : PyData} {need v k a b : Int} (hl : L.length = 5) : (mSet [0, 1, 2] 8 (mB (binD .Add) (mPl 8) (mTm (mLst (mCons (mTm (mTup (mCons (mTm (mK (.int 8))) (mCons (mPl 7) (mNil))))) (mCons (mTm (mTup (mCons (mTm (mU negD (mTm (mK (.int 1))))) (mCons (mPl 7) (mNil))))) (mCons (mTm (mTup (mCons (mTm (mK (.bool true))) (mCons (mPl 7) (mNil))))) (mCons (mTm (mTup (mCons (mPl 6) (mCons (mTm (mK .none)) (mNil))))) (mCons (mTm (mTup (mCons (mPl 6) (mCons (mTm (mK (.bool true))) (mNil))))) (mCons (mTm (mLst (mCons (mPl 6) (mCons (mPl 7) (mNil))))) (mNil))))))))))) [.ls P, .sh (.int need), .sh (.tuple S), .sh (.int v), .sh o, .sh (.int k), .sh (.int a), .sh (.int b), .ls L, .no] = some (.nx, [.ls P, .sh (.int need), .sh (.tuple S), .sh (.int v), .sh o, .sh (.int k), .sh (.int a), .sh (.int b), .ls (L ++ [.tuple [.int 8, .int b], .tuple [.int (-1), .int b], .tuple [.bool true, .int b], .tuple [.int a, .none], .tuple [.int a, .bool true], .list [.int a, .int b]]), .no]) := by
  walk_at "es"
theorem lb_7 {P S L : List PyData} {o : PyData} {need v k a b : Int} (hl : L.length = 11) : (mSet [0, 1, 2] 8 (mB (binD .Add) (mPl 8) (mTm (mLst (mCons (mTm (mTup (mCons (mPl 6) (mCons (mPl 7) (mCons (mTm (mK (.int 0))) (mNil)))))) (mCons (mPl 4) (mNil))))))) [.ls P, .sh (.int need), .sh (.tuple S), .sh (.int v), .sh o, .sh (.int k), .sh (.int a), .sh (.int b), .ls L, .no] = some (.nx, [.ls P, .sh (.int need), .sh (.tuple S), .sh (.int v), .sh o, .sh (.int k), .sh (.int a), .sh (.int b), .ls (L ++ [.tuple [.int a, .int b, .int 0], o]), .no]) := by
  walk_at "es"
theorem lb_8n {P S L : List PyData} {o : PyData} {need v k a b : Int} (hl : L.length = 13) (h : ¬ v < 13) : (mIf (mTst (mB (cmpD .Lt) (mPl 3) (mTm (mOp (Bf.f .len) (mCons (mPl 8) (mNil)))))) (mSeq (mRet (mB (binD .Add) (mTm (mB (binD .Add) (mTm (mSl (mPl 2) (mNoP) (mPt (mPl 5)))) (mTm (mTup (mCons (mTm (mB ixD (mPl 8) (mPl 3))) (mNil)))))) (mTm (mSl (mPl 2) (mPt (mTm (mB (binD .Add) (mPl 5) (mTm (mK (.int 1)))))) (mNoP))))) (mSkip)) (mSkip)) [.ls P, .sh (.int need), .sh (.tuple S), .sh (.int v), .sh o, .sh (.int k), .sh (.int a), .sh (.int b), .ls L, .no] = some (.nx, [.ls P, .sh (.int need), .sh (.tuple S), .sh (.int v), .sh o, .sh (.int k), .sh (.int a), .sh (.int b), .ls L, .no]) := by
  walk_at "es"
theorem lb_8 {P S L A B : List PyData} {o x : PyData} {need v k a b : Int} (hl : L.length = 13) (h : v < 13) (hx : atI L v = some x) (hA : L2.M.cutL S none (some k) = A) (hB : L2.M.cutL S (some (k + 1)) none = B) (zA : A.length ≤ 1000) (zB : B.length ≤ 1000) : (mIf (mTst (mB (cmpD .Lt) (mPl 3) (mTm (mOp (Bf.f .len) (mCons (mPl 8) (mNil)))))) (mSeq (mRet (mB (binD .Add) (mTm (mB (binD .Add) (mTm (mSl (mPl 2) (mNoP) (mPt (mPl 5)))) (mTm (mTup (mCons (mTm (mB ixD (mPl 8) (mPl 3))) (mNil)))))) (mTm (mSl (mPl 2) (mPt (mTm (mB (binD .Add) (mPl 5) (mTm (mK (.int 1)))))) (mNoP))))) (mSkip)) (mSkip)) [.ls P, .sh (.int need), .sh (.tuple S), .sh (.int v), .sh o, .sh (.int k), .sh (.int a), .sh (.int b), .ls L, .no] = some (.rt (.sh (.tuple (A ++ [x] ++ B))), [.ls P, .sh (.int need), .sh (.tuple S), .sh (.int v), .sh o, .sh (.int k), .sh (.int a), .sh (.int b), .ls L, .no]) := by
  have z1 : A.length + 1 ≤ 16777216 := by omega
  have z2 : A.length + 1 + B.length ≤ 16777216 := by omega
  walk_at "es"
theorem lb_9 {P S L A B : List PyData} {o : PyData} {need v k a b a1 b1 : Int} (hA : L2.M.cutL S none (some k) = A) (hB : L2.M.cutL S (some (k + 1)) none = B) (zA : A.length ≤ 1000) (zB : B.length ≤ 1000) (zS : S.length ≤ 1000) (h1 : atI S (-1) = some (.tuple [.int a1, .int b1])) : (mSet [0, 1, 2] 9 (mLst (mCons (mTm (mB (binD .Add) (mTm (mSl (mPl 2) (mNoP) (mPt (mPl 5)))) (mTm (mSl (mPl 2) (mPt (mTm (mB (binD .Add) (mPl 5) (mTm (mK (.int 1)))))) (mNoP))))) (mCons (mTm (mRev (mPl 2))) (mCons (mTm (mOp (Bf.f .list) (mCons (mPl 2) (mNil)))) (mCons (mTm (mB (binD .Add) (mPl 2) (mTm (mTup (mCons (mTm (mTup (mCons (mPl 6) (mCons (mTm (mB (binD .Add) (mTm (mB ixD (mTm (mB ixD (mPl 2) (mTm (mU negD (mTm (mK (.int 1))))))) (mTm (mK (.int 1))))) (mPl 1))) (mNil))))) (mNil)))))) (mNil))))))) [.ls P, .sh (.int need), .sh (.tuple S), .sh (.int v), .sh o, .sh (.int k), .sh (.int a), .sh (.int b), .ls L, .no] = some (.nx, [.ls P, .sh (.int need), .sh (.tuple S), .sh (.int v), .sh o, .sh (.int k), .sh (.int a), .sh (.int b), .ls L, .ls [.tuple (A ++ B), .tuple S.reverse, .list S, .tuple (S ++ [.tuple [.int a, .int (b1 + need)]])]]) := by
  rw [at_m1] at h1
  have z2 : A.length + B.length ≤ 16777216 := by omega
  have z3 : S.length + 1 ≤ 16777216 := by omega
  have z4 : S.length ≤ 16777216 := by omega
  walk_at "es"
theorem lb_10 {P L M : List PyData} {o S x : PyData} {need v k a b : Int} (hl : L.length = 13) (hx : atI M (v - 13) = some x) : (mRet (mB ixD (mPl 9) (mTm (mB (binD .Sub) (mPl 3) (mTm (mOp (Bf.f .len) (mCons (mPl 8) (mNil)))))))) [.ls P, .sh (.int need), .sh S, .sh (.int v), .sh o, .sh (.int k), .sh (.int a), .sh (.int b), .ls L, .ls M] = some (.rt (.sh x), [.ls P, .sh (.int need), .sh S, .sh (.int v), .sh o, .sh (.int k), .sh (.int a), .sh (.int b), .ls L, .ls M]) := by
  walk_at "es"
theorem eq_sq0 {q : Sq} (h : q ≠ []) : cmpD .Eq (sqD q) (.tuple []) = some (.sh (.bool false)) := by
  have h1 : SeqAt.shaped (sqD q) = true := by
    unfold sqD
    rw [shaped_lay, lay_tup _ (by decide), List.all_map, List.all_eq_true]
    intro x _
    simp [prN, lay_tup, lay_int]
  have h2 : SeqAt.shaped (.tuple []) = true := by decide +kernel
  rw [show cmpD .Eq = L2.M.eqD from rfl]
  unfold L2.M.eqD
  rw [h1, h2, if_pos (by simp)]
  unfold sqD
  rw [ee_tt]
  cases q with
  | nil => exact absurd rfl h
  | cons x q => rfl
theorem law_bent_eq (p : Pn) (need : Int) {q : Sq} (hq : q.length ≤ 8) : Rt (g_law_bent [.ls (penL p), .sh (.int need), .sh (sqD q)]) fun c cs => ∃ (d : PyData) (p' : Pn), Sml d ∧ c = .sh d ∧ cs = [.ls (penL p'), .sh (.int need), .sh (sqD q)] := by
  unfold g_law_bent m_law_bent
  apply rt_sem rfl
  have d0 := draw_eq p 17 (by decide) ⟨by decide, by decide⟩
  have v0 := dr_ab p 17 (by decide)
  obtain ⟨_, _, e1, o, p2, ho, rfl, rfl⟩ := law_odd_eq (dn p 17)
  generalize dr p 17 = v at *
  apply wx_nx (lb_1 d0 e1)
  clear e1 d0
  by_cases hne : q = []
  · subst hne
    obtain ⟨d, hm, hd⟩ := at_in (xs := ([.tuple [.tuple [.int 0, .int 0]], .list [], .tuple [o], .tuple [.tuple [.int (-1), .int 0]], .tuple [.tuple [.int 0, .bool true]]] : List PyData)) (i := v % 5) (by omega) (by simp; omega)
    refine wx_rt (lb_2e hd) ⟨d, p2, ?_, rfl, rfl⟩
    simp only [List.mem_cons, List.not_mem_nil, or_false] at hm
    rcases hm with rfl | rfl | rfl | rfl | rfl
    · exact sml_tup (by simp)
    · intro ds e
      cases e
    · exact sml_tup (by simp)
    · exact sml_tup (by simp)
    · exact sml_tup (by simp)
  · apply wx_nx (lb_2 (eq_sq0 hne))
    have hpos : 0 < q.length := List.length_pos_iff.mpr hne
    have d1 := draw_eq p2 (q.length : Int) (by omega) ⟨by omega, by omega⟩
    have k0 := dr_ab p2 (q.length : Int) (by omega)
    generalize dr p2 (q.length : Int) = k at *
    generalize dn p2 (q.length : Int) = p3 at *
    obtain ⟨j, rfl⟩ : ∃ j : Nat, k = j := ⟨k.toNat, by omega⟩
    have hj : j < q.length := by omega
    apply wx_nx (lb_3 (N := (q.length : Int)) (by simp) d1)
    have a0 : atI (q.map prN) (j : Int) = some (.tuple [.int (q[j].1 : Int), .int q[j].2]) := by
      rw [at_nat, List.getElem?_map, List.getElem?_eq_getElem hj]
      rfl
    have a1 : ∃ x : Nat × Int, atI (q.map prN) 0 = some (.tuple [.int (x.1 : Int), .int x.2]) := by
      refine ⟨q[0], ?_⟩
      rw [at_lit, List.getElem?_map, List.getElem?_eq_getElem hpos]
      rfl
    have a2 : ∃ x : Nat × Int, atI (q.map prN) (-1) = some (.tuple [.int (x.1 : Int), .int x.2]) := by
      refine ⟨q.getLast hne, ?_⟩
      rw [at_m1, List.getLast?_map, List.getLast?_eq_some_getLast hne]
      rfl
    obtain ⟨x0, a1⟩ := a1
    obtain ⟨x1, a2⟩ := a2
    have hS : (q.map prN).length = q.length := List.length_map _
    have cA : L2.M.cutL (q.map prN) none (some (j : Int)) = (q.take j).map prN := by
      rw [cut_map, cut_to _ (by omega), Int.toNat_natCast]
    have cB : L2.M.cutL (q.map prN) (some ((j : Int) + 1)) none = (q.drop (j + 1)).map prN := by
      rw [cut_map, cut_from _ (by omega)]
      rfl
    have lA : ((q.take j).map prN).length ≤ 8 := by simp; omega
    have lB : ((q.drop (j + 1)).map prN).length ≤ 8 := by simp; omega
    unfold sqD
    generalize (q.take j).map prN = A at *
    generalize (q.drop (j + 1)).map prN = B at *
    generalize (q[j].1 : Int) = a at *
    generalize q[j].2 = b at *
    generalize q.map prN = S at *
    apply wx_nx (lb_4 a0)
    apply wx_nx (lb_5 a1 a2)
    apply wx_nx (lb_6 rfl)
    apply wx_nx (lb_7 rfl)
    generalize hL : ([PyData.tuple [.int a, .int (b - 1)], .tuple [.int a, .int (b + 1)], .tuple [.int a, .int (-1)], .tuple [.int (x0.1 : Int), .int b], .tuple [.int (x1.1 : Int), .int b]] ++ [.tuple [.int 8, .int b], .tuple [.int (-1), .int b], .tuple [.bool true, .int b], .tuple [.int a, .none], .tuple [.int a, .bool true], .list [.int a, .int b]] ++ [.tuple [.int a, .int b, .int 0], o]) = L
    have hl : L.length = 13 := by rw [← hL]; rfl
    clear hL
    by_cases hv : v < 13
    · obtain ⟨x, hxm, hx⟩ := at_in (xs := L) (i := v) v0.1 (by omega)
      refine wx_rt (lb_8 hl hv hx cA cB (by omega) (by omega)) ⟨_, p3, ?_, rfl, rfl⟩
      exact sml_tup (by simp; omega)
    · apply wx_nx (lb_8n hl hv)
      apply wx_nx (lb_9 cA cB (by omega) (by omega) (by omega) a2)
      obtain ⟨x, hxm, hx⟩ := at_in (xs := [PyData.tuple (A ++ B), .tuple S.reverse, .list S, .tuple (S ++ [.tuple [.int a, .int (x1.2 + need)]])]) (i := v - 13) (by omega) (by simp; omega)
      refine wx_rt (lb_10 hl hx) ⟨x, p3, ?_, rfl, rfl⟩
      simp only [List.mem_cons, List.not_mem_nil, or_false] at hxm
      rcases hxm with rfl | rfl | rfl | rfl
      · exact sml_tup (by simp; omega)
      · exact sml_tup (by simp; omega)
      · intro ds e
        cases e
      · exact sml_tup (by simp; omega)
end KW
namespace KW
open PySem PySem.Spec PyProof.Rows L2 L2.M
local macro_rules | `(tactic| walk_at "ev") => `(tactic| simp [semF, shared, after, mSeq, mSkip, mIf, mRet, mRetN, mRetV, mSet, mSetIx, mExpr, mB, mU, mTm, mPl, mK, mVar, mOp, mCons, mNil, bor, bors, mTst, mAndT, mOrT, mNotT, mAndE, mOrE, mNotE, mIfE, mIsi, isiD, mChn, chnL, cmpD, binD, addD, subD, mulD, modD, fdivD, powD, eqD, neD, ltD, leD, gtD, geD, isD, isnD, L2.M.isNon, negD, ixD, Bf.f, Bg.f, lenD, L2.M.intD, maxD, minD, repD, strD, gmaxD, gminD, sumD, sortD, anyD, allD, mCall, frz, fzO, lend, wb, mTup, mLst, fzs, cD, mAsg, bTup, bTps, mApp, tupD, lstD, mRev, revD, ofs_inj, ee_ii, ee_ss, ee_bb, ee_nn, ee_is, ee_si, ee_in, ee_ni, ee_tt, ee_ll, ee_maps, ee_0, ee_1, ee_2, ee_3, at_lit, at_nat, at_m1, at_m2, scD, emD, sizeLine_eq, ixN, sm_lit, mSrc, itemsD, plOf, rng1D, bNm, mSl, mPt, mNoP, slD, mPar, keepT, tmsO, setA, mFlow, zipX, enumX, itemsX, intsOf, ints_all, boolsOf, shaped_lay, lay_int, lay_bool, lay_none, lay_dict, lay_tup, lay_list, lay_ints, sortX_ints, mPlF, mPlI, mRd, mPU, mPB, mFSet, mFNew, mNSet, mPApp, mPSetIx, mPPop, mMeth, mNew, isIns, cellO, mLstN, mAddN, mAppN, semX, mTold, mCallX, xRet, xExpr, xSet, mRaise, mM, isL, isS, mOrV, truD])
local macro_rules | `(tactic| walk_at "es") => `(tactic| simp [semF, shared, after, mSeq, mSkip, mIf, mRet, mRetN, mRetV, mSet, mSetIx, mExpr, mB, mU, mTm, mPl, mK, mVar, mOp, mCons, mNil, bor, bors, mTst, mAndT, mOrT, mNotT, mAndE, mOrE, mNotE, mIfE, mIsi, isiD, mChn, chnL, cmpD, binD, addD, subD, mulD, modD, fdivD, powD, eqD, neD, ltD, leD, gtD, geD, isD, isnD, L2.M.isNon, negD, ixD, Bf.f, Bg.f, lenD, L2.M.intD, maxD, minD, repD, strD, gmaxD, gminD, sumD, sortD, anyD, allD, mCall, frz, fzO, lend, wb, mTup, mLst, fzs, cD, mAsg, bTup, bTps, mApp, tupD, lstD, mRev, revD, ofs_inj, ee_ii, ee_ss, ee_bb, ee_nn, ee_is, ee_si, ee_in, ee_ni, ee_tt, ee_ll, ee_maps, ee_0, ee_1, ee_2, ee_3, at_lit, at_nat, at_m1, at_m2, scD, emD, sizeLine_eq, ixN, sm_lit, mSrc, itemsD, plOf, rng1D, bNm, mSl, mPt, mNoP, slD, mPar, keepT, tmsO, setA, mFlow, zipX, enumX, itemsX, intsOf, ints_all, boolsOf, shaped_lay, lay_int, lay_bool, lay_none, lay_dict, lay_tup, lay_list, lay_ints, sortX_ints, mPlF, mPlI, mRd, mPU, mPB, mFSet, mFNew, mNSet, mPApp, mPSetIx, mPPop, mMeth, mNew, isIns, cellO, mLstN, mAddN, mAppN, semX, mTold, mCallX, xRet, xExpr, xSet, mRaise, mM, isL, isS, mOrV, truD, *])
local macro_rules | `(tactic| walk_at "el") => `(tactic| simp [semF, shared, after, mSeq, mSkip, mIf, mRet, mRetN, mRetV, mSet, mSetIx, mExpr, mB, mU, mTm, mPl, mK, mVar, mOp, mCons, mNil, bor, bors, mTst, mAndT, mOrT, mNotT, mAndE, mOrE, mNotE, mIfE, mIsi, isiD, mChn, chnL, cmpD, binD, addD, subD, mulD, modD, fdivD, powD, eqD, neD, ltD, leD, gtD, geD, isD, isnD, L2.M.isNon, negD, ixD, Bf.f, Bg.f, lenD, L2.M.intD, maxD, minD, repD, strD, gmaxD, gminD, sumD, sortD, anyD, allD, mCall, frz, fzO, lend, wb, mTup, mLst, fzs, cD, mAsg, bTup, bTps, mApp, tupD, lstD, mRev, revD, ofs_inj, ee_ii, ee_ss, ee_bb, ee_nn, ee_is, ee_si, ee_in, ee_ni, ee_tt, ee_ll, ee_maps, ee_0, ee_1, ee_2, ee_3, at_lit, at_nat, at_m1, at_m2, scD, emD, sizeLine_eq, ixN, sm_lit, mSrc, itemsD, plOf, rng1D, bNm, mSl, mPt, mNoP, slD, mPar, keepT, tmsO, setA, mFlow, zipX, enumX, itemsX, intsOf, ints_all, boolsOf, shaped_lay, lay_int, lay_bool, lay_none, lay_dict, lay_tup, lay_list, lay_ints, sortX_ints, mPlF, mPlI, mRd, mPU, mPB, mFSet, mFNew, mNSet, mPApp, mPSetIx, mPPop, mMeth, mNew, isIns, cellO, mLstN, mAddN, mAppN, semX, mTold, mCallX, xRet, xExpr, xSet, mRaise, mM, isL, isS, mOrV, truD, mLc, lcL, sameC, wipeC, restC, mYes, *])
local macro_rules | `(tactic| walk_at "ef") => `(tactic| simp [semF, shared, after, mSeq, mSkip, mIf, mRet, mRetN, mRetV, mSet, mSetIx, mExpr, mB, mU, mTm, mPl, mK, mVar, mOp, mCons, mNil, bor, bors, mTst, mAndT, mOrT, mNotT, mAndE, mOrE, mNotE, mIfE, mIsi, isiD, mChn, chnL, cmpD, binD, addD, subD, mulD, modD, fdivD, powD, eqD, neD, ltD, leD, gtD, geD, isD, isnD, L2.M.isNon, negD, ixD, Bf.f, Bg.f, lenD, L2.M.intD, maxD, minD, repD, strD, gmaxD, gminD, sumD, sortD, anyD, allD, mCall, frz, fzO, lend, wb, mTup, mLst, fzs, cD, mAsg, bTup, bTps, mApp, tupD, lstD, mRev, revD, ofs_inj, ee_ii, ee_ss, ee_bb, ee_nn, ee_is, ee_si, ee_in, ee_ni, ee_tt, ee_ll, ee_maps, ee_0, ee_1, ee_2, ee_3, at_lit, at_nat, at_m1, at_m2, scD, emD, sizeLine_eq, ixN, sm_lit, mSrc, itemsD, plOf, rng1D, bNm, mSl, mPt, mNoP, slD, mPar, keepT, tmsO, setA, mFlow, zipX, enumX, itemsX, intsOf, ints_all, boolsOf, shaped_lay, lay_int, lay_bool, lay_none, lay_dict, lay_tup, lay_list, lay_ints, sortX_ints, mPlF, mPlI, mRd, mPU, mPB, mFSet, mFNew, mNSet, mPApp, mPSetIx, mPPop, mMeth, mNew, isIns, cellO, mLstN, mAddN, mAppN, semX, mTold, mCallX, xRet, xExpr, xSet, mRaise, mM, isL, isS, mOrV, truD, mFor, forL, mLc, lcL, sameC, wipeC, restC, mYes, *])
local macro_rules | `(tactic| walk_at "rg") => `(tactic| (and_intros <;> grind))
local macro_rules | `(tactic| walk_at "nx") => `(tactic| (apply wx_nx; focus (walk_at "ev"; try first | exact ⟨rfl, rfl⟩ | rfl)))
local macro_rules | `(tactic| walk_at "ns") => `(tactic| (apply wx_nx; focus (walk_at "es"; try first | exact ⟨rfl, rfl⟩ | rfl)))
local macro_rules | `(tactic| walk_at "rt") => `(tactic| (apply wx_rt; focus (walk_at "ev"; try first | exact ⟨rfl, rfl⟩ | rfl)))
local macro_rules | `(tactic| walk_at "rs") => `(tactic| (apply wx_rt; focus (walk_at "es"; try first | exact ⟨rfl, rfl⟩ | rfl)))
local macro_rules | `(tactic| walk_at "ed") => `(tactic| simp [semF, shared, after, mSeq, mSkip, mIf, mRet, mRetN, mRetV, mSet, mSetIx, mExpr, mB, mU, mTm, mPl, mK, mVar, mOp, mCons, mNil, bor, bors, mTst, mAndT, mOrT, mNotT, mAndE, mOrE, mNotE, mIfE, mIsi, isiD, mChn, chnL, cmpD, binD, addD, subD, mulD, modD, fdivD, powD, eqD, neD, ltD, leD, gtD, geD, isD, isnD, L2.M.isNon, negD, ixD, Bf.f, Bg.f, lenD, L2.M.intD, maxD, minD, repD, strD, gmaxD, gminD, sumD, sortD, anyD, allD, mCall, frz, fzO, lend, wb, mTup, mLst, fzs, cD, mAsg, bTup, bTps, mApp, tupD, lstD, mRev, revD, ofs_inj, ee_ii, ee_ss, ee_bb, ee_nn, ee_is, ee_si, ee_in, ee_ni, ee_tt, ee_ll, ee_maps, ee_0, ee_1, ee_2, ee_3, at_lit, at_nat, at_m1, at_m2, scD, emD, sizeLine_eq, ixN, sm_lit, mSrc, itemsD, plOf, rng1D, bNm, mSl, mPt, mNoP, slD, mPar, keepT, tmsO, setA, mFlow, zipX, enumX, itemsX, intsOf, ints_all, boolsOf, shaped_lay, lay_int, lay_bool, lay_none, lay_dict, lay_tup, lay_list, lay_ints, sortX_ints, mPlF, mPlI, mRd, mPU, mPB, mFSet, mFNew, mNSet, mPApp, mPSetIx, mPPop, mMeth, mNew, isIns, cellO, mLstN, mAddN, mAppN, semX, mTold, mCallX, xRet, xExpr, xSet, mRaise, mM, isL, isS, mOrV, truD, mDNew, mDIn, mDGet, mDLen, mDPut, kyD, mNNew, mN1, mTake, mFnV, mCallF, mNIn, mNGet, mNPut, mNVals, mNList, nKs, mDGetD, mDList, mNNe, *])
theorem lw_a {sc c1 c3 c4 c5 c6 c7 c9 c10 : C} {P P2 : List PyData} {n : Int} {Y : PyData} (f : g_law_askings [.ls P] = some (.sh (.tuple [.int n, Y]), [.ls P2])) : (mAsg [3, 4] [] (bTup [bNm 3, bNm 4]) (mCall [true] g_law_askings (mCons (mPl 2) (mNil)))) [sc, c1, .ls P, c3, c4, c5, c6, c7, .no, c9, c10] = some (.nx, [sc, c1, .ls P2, .sh (.int n), .sh Y, c5, c6, c7, .no, c9, c10]) := by
  generalize g_law_askings = G at *
  walk_at "es"
theorem lw_b {sc c1 c2 c5 c6 c7 c9 c10 : C} {n : Int} {Y : PyData} (f : g_law_most_right [.sh (.int n), .sh Y] = some (.sh (.bool true), [.sh (.int n), .sh Y])) : (mIf (mNotT (mTst (mCall [true, true] g_law_most_right (mCons (mPl 3) (mCons (mPl 4) (mNil)))))) (mSeq (mRet (mK (.bool false))) (mSkip)) (mSkip)) [sc, c1, c2, .sh (.int n), .sh Y, c5, c6, c7, .no, c9, c10] = some (.nx, [sc, c1, c2, .sh (.int n), .sh Y, c5, c6, c7, .no, c9, c10]) := by
  generalize g_law_most_right = G at *
  walk_at "es"
theorem lw_c {sc c1 c5 c6 c7 c9 c10 : C} {P P2 : List PyData} {n : Int} {Y S : PyData} (f : g_law_drawn [.ls P, .sh (.int n), .sh Y] = some (.sh S, [.ls P2, .sh (.int n), .sh Y])) : (mSet [] 6 (mCall [true, true, true] g_law_drawn (mCons (mPl 2) (mCons (mPl 3) (mCons (mPl 4) (mNil)))))) [sc, c1, .ls P, .sh (.int n), .sh Y, c5, c6, c7, .no, c9, c10] = some (.nx, [sc, c1, .ls P2, .sh (.int n), .sh Y, c5, .sh S, c7, .no, c9, c10]) := by
  generalize g_law_drawn = G at *
  walk_at "es"
theorem lw_de {sc c1 c5 c7 c9 c10 x : C} {P P2 : List PyData} {n : Int} {Y S d : PyData} (f : g_law_bent [.ls P, .sh (.int n), .sh S] = some (.sh d, [.ls P2, .sh (.int n), .sh S])) : (mCall [true, true, true] g_law_bent (mCons (mPl 2) (mCons (mPl 3) (mCons (mPl 6) (mNil))))) [sc, c1, .ls P, .sh (.int n), .sh Y, c5, .sh S, c7, x, c9, c10] = some (.sh d, [sc, c1, .ls P2, .sh (.int n), .sh Y, c5, .sh S, c7, x, c9, c10]) := by
  generalize g_law_bent = G at *
  walk_at "es"
theorem lw_d {sc c1 c5 c7 c9 c10 : C} {P P2 : List PyData} {n : Int} {Y S : PyData} {Z : List PyData} (f : (mLc (mSrc rng1D (mCons (mTm (mK (.int 3))) (mNil))) (bNm 8) (mYes) (mCall [true, true, true] g_law_bent (mCons (mPl 2) (mCons (mPl 3) (mCons (mPl 6) (mNil))))) [8]) [sc, c1, .ls P, .sh (.int n), .sh Y, c5, .sh S, c7, .no, c9, c10] = some (.ls Z, [sc, c1, .ls P2, .sh (.int n), .sh Y, c5, .sh S, c7, .no, c9, c10])) : (mSet [] 7 (mLc (mSrc rng1D (mCons (mTm (mK (.int 3))) (mNil))) (bNm 8) (mYes) (mCall [true, true, true] g_law_bent (mCons (mPl 2) (mCons (mPl 3) (mCons (mPl 6) (mNil))))) [8])) [sc, c1, .ls P, .sh (.int n), .sh Y, c5, .sh S, c7, .no, c9, c10] = some (.nx, [sc, c1, .ls P2, .sh (.int n), .sh Y, c5, .sh S, .ls Z, .no, c9, c10]) := by
  generalize mLc _ _ _ _ _ = ML at *
  walk_at "es"
theorem lw_es {sc c1 c5 c9 c10 : C} {P P2 : List PyData} {n : Int} {Y S o : PyData} {Z : List PyData} (hz : Z.length ≤ 1000) (f : g_law_odd [.ls P] = some (.sh o, [.ls P2])) : (mSrc itemsD (mCons (mTm (mB (binD .Add) (mTm (mLst (mCons (mPl 6) (mCons (mTm (mCall [true] g_law_odd (mCons (mPl 2) (mNil)))) (mNil))))) (mPl 7))) mNil)) [sc, c1, .ls P, .sh (.int n), .sh Y, c5, .sh S, .ls Z, .no, c9, c10] = some (([S, o] ++ Z, []), [sc, c1, .ls P2, .sh (.int n), .sh Y, c5, .sh S, .ls Z, .no, c9, c10]) := by
  have hz2 : 2 + Z.length ≤ 16777216 := by omega
  have hz3 : Z.length + 1 + 1 ≤ 16777216 := by omega
  generalize g_law_odd = G at *
  walk_at "es"
theorem lw_e {sc c1 c2 c5 c6 c7 c10 : C} {n : Int} {Y d : PyData} {b : Bool} (f : g_law_good [.sh (.int n), .sh Y, .sh d] = some (.sh (.bool b), [.sh (.int n), .sh Y, .sh d])) : (mSet [] 10 (mCall [true, true, true] g_law_good (mCons (mPl 3) (mCons (mPl 4) (mCons (mPl 9) (mNil)))))) [sc, c1, c2, .sh (.int n), .sh Y, c5, c6, c7, .no, .sh d, c10] = some (.nx, [sc, c1, c2, .sh (.int n), .sh Y, c5, c6, c7, .no, .sh d, .sh (.bool b)]) := by
  generalize g_law_good = G at *
  walk_at "es"
theorem lw_f {sc c1 c2 c5 c6 c7 : C} {n : Int} {Y d : PyData} {b : Bool} {T : Str} (f : g_schedule_good [.sh (.int n), .sh Y, .sh d] = some (.sh (.bool b), [.sh (.int n), .sh Y, .sh d])) (hr : reprG [.list [.bool b, .bool b]] = some (.sh (.str T))) : (mIf (mTst (mB (cmpD .NotEq) (mTm (mOp reprG (mCons (mTm (mB (binD .Mult) (mTm (mLst (mCons (mTm (mCall [true, true, true] g_schedule_good (mCons (mPl 3) (mCons (mPl 4) (mCons (mPl 9) (mNil)))))) (mNil)))) (mTm (mK (.int 2))))) (mNil)))) (mTm (mOp reprG (mCons (mTm (mLst (mCons (mPl 10) (mCons (mPl 10) (mNil))))) (mNil)))))) (mSeq (mRet (mK (.bool false))) (mSkip)) (mSkip)) [sc, c1, c2, .sh (.int n), .sh Y, c5, c6, c7, .no, .sh d, .sh (.bool b)] = some (.nx, [sc, c1, c2, .sh (.int n), .sh Y, c5, c6, c7, .no, .sh d, .sh (.bool b)]) := by
  generalize g_schedule_good = G at *
  generalize reprG = RG at *
  walk_at "es"
theorem lw_g {sc c1 c2 c5 c7 c9 c10 : C} {n N m : Int} {Y : PyData} {S : List PyData} (hN : (S.length : Int) = N) (hle : ¬ m < N) (f : g_most_served [.sh (.int n), .sh Y] = some (.sh (.int m), [.sh (.int n), .sh Y])) : (mIf (mTst (mB (cmpD .Gt) (mTm (mOp (Bf.f .len) (mCons (mPl 6) (mNil)))) (mTm (mCall [true, true] g_most_served (mCons (mPl 3) (mCons (mPl 4) (mNil))))))) (mSeq (mRet (mK (.bool false))) (mSkip)) (mSkip)) [sc, c1, c2, .sh (.int n), .sh Y, c5, .sh (.tuple S), c7, .no, c9, c10] = some (.nx, [sc, c1, c2, .sh (.int n), .sh Y, c5, .sh (.tuple S), c7, .no, c9, c10]) := by
  generalize g_most_served = G at *
  walk_at "es"
theorem rp_bb (b : Bool) : reprG [.list [.bool b, .bool b]] = some (.sh (.str (PyData.list [.bool b, .bool b]).shown)) :=
  reprG_eq (shw_lst (k := 2) (n := 5) (shw_cons (shw_bool 2 b) (shw_cons (shw_bool 2 b) shw_nil))) (by decide) (by rw [sizeLine_eq]; simp)
theorem bents_lc {q : Sq} (h : q.length ≤ 8) (p : Pn) (n : Int) (Y : PyData) (sc c1 c5 c7 c9 c10 : C) : ∃ (ds : List PyData) (p' : Pn), (mLc (mSrc rng1D (mCons (mTm (mK (.int 3))) (mNil))) (bNm 8) (mYes) (mCall [true, true, true] g_law_bent (mCons (mPl 2) (mCons (mPl 3) (mCons (mPl 6) (mNil))))) [8]) [sc, c1, .ls (penL p), .sh (.int n), .sh Y, c5, .sh (sqD q), c7, .no, c9, c10] = some (.ls ds, [sc, c1, .ls (penL p'), .sh (.int n), .sh Y, c5, .sh (sqD q), c7, .no, c9, c10]) ∧ (∀ d ∈ ds, Sml d) ∧ ds.length ≤ 3 := by
  obtain ⟨out, ε2, e, p', rfl, ho, hl⟩ := lc_rule (src := (mSrc rng1D (mCons (mTm (mK (.int 3))) (mNil)))) (bind := bNm 8) (tests := mYes) (elt := (mCall [true, true, true] g_law_bent (mCons (mPl 2) (mCons (mPl 3) (mCons (mPl 6) (mNil)))))) (own := [8]) (ws := []) (ε := [sc, c1, .ls (penL p), .sh (.int n), .sh Y, c5, .sh (sqD q), c7, .no, c9, c10]) (ε1 := [sc, c1, .ls (penL p), .sh (.int n), .sh Y, c5, .sh (sqD q), c7, .no, c9, c10]) (ds := rangeD 0 1 3)
    (fun i out ε2 => ∃ (p : Pn), ε2 = [sc, c1, .ls (penL p), .sh (.int n), .sh Y, c5, .sh (sqD q), c7, .no, c9, c10] ∧ (∀ d ∈ out, Sml d) ∧ out.length = i)
    (by walk_at "ev") rfl ⟨p, rfl, (fun P hP => by cases hP), rfl⟩ (fun _ _ _ _ j hj => by cases hj) (by simp [rangeD, sizeLine_eq])
    (by
      rintro i d out ε2 hd ⟨p, rfl, ho, hl⟩
      obtain ⟨_, _, e1, d2, p2, hth, rfl, rfl⟩ := law_bent_eq p n h
      refine ⟨[sc, c1, .ls (penL p), .sh (.int n), .sh Y, c5, .sh (sqD q), c7, .sh d, c9, c10], true, _, rfl, rfl, fun h => (by cases h), fun _ => ⟨.sh d2, d2, [sc, c1, .ls (penL p2), .sh (.int n), .sh Y, c5, .sh (sqD q), c7, .sh d, c9, c10], lw_de e1, rfl, p2, rfl, ?_, by simp [hl]⟩⟩
      intro x hx
      rcases List.mem_append.mp hx with hx | hx
      · exact ho x hx
      · rw [List.mem_singleton.mp hx]
        exact hth)
  exact ⟨out, p', e, ho, by rw [hl]; simp [rangeD]⟩
theorem law_true (ns : List Int) (hl : ns.length ≤ 63) : ∃ cs', semF [false] 11 m_law [.sh (.list (ns.map PyData.int))] = some (.sh (.bool true), cs') := by
  have main : Rt (semF [false] 11 m_law [.sh (.list (ns.map PyData.int))]) fun c _ => c = .sh (.bool true) := by
    unfold m_law
    apply rt_sem rfl
    apply wx_seq
    apply wx_each (ds := (PyData.int (ns.getD 0 0)) :: (L2.M.cutL ns (some 1) (some 3)).map PyData.int) (ε1 := [.sh (.list (ns.map PyData.int)), .no, .no, .no, .no, .no, .no, .no, .no, .no, .no]) fun ε => ∃ c1 c2 c3 c4 c5 c6 c7 c9 c10, ε = [.sh (.list (ns.map PyData.int)), c1, c2, c3, c4, c5, c6, c7, .no, c9, c10]
    · have hz := cut_len ns (some 1) (some 3)
      have h6 : 1 + (L2.M.cutL ns (some 1) (some 3)).length ≤ 16777216 := by omega
      have h7 : (L2.M.cutL ns (some 1) (some 3)).length + 1 ≤ 16777216 := by omega
      have h8 : (L2.M.cutL ns (some 1) (some 3)).length ≤ 16777215 := by omega
      have h9 := @cut_map
      walk_at "es"
    · exact ⟨_, _, _, _, _, _, _, _, _, rfl⟩
    · rintro d ε hd ⟨c1, c2, c3, c4, c5, c6, c7, c9, c10, rfl⟩
      obtain ⟨x, rfl⟩ := cells_int ns 3 d hd
      clear hd hl
      generalize hsc : C.sh (PyData.list (ns.map PyData.int)) = sc
      clear hsc
      refine ⟨_, rfl, ?_⟩
      walk_at "nx"
      obtain ⟨_, _, e3, n, A, p1, hn, hA, rfl, rfl⟩ := law_askings_eq (pnOf x)
      have hA0 : ∀ p ∈ A, 0 ≤ p.1 := fun p hp => (hA.b p hp).1.1
      apply wx_nx (lw_a e3)
      apply wx_nx (lw_b (law_most_right_eq hn.1 hA))
      obtain ⟨q, hB, eb⟩ := best_schedule_eq (need := n) (by omega) hA.l hA0
      apply wx_seq
      apply wx_each (ds := rangeD 0 1 4) (ε1 := [sc, .sh (.int x), .ls (penL p1), .sh (.int n), .sh (stD A), c5, c6, c7, .no, c9, c10]) fun ε => ∃ p c5 c6 c7 c9 c10, ε = [sc, .sh (.int x), .ls (penL p), .sh (.int n), .sh (stD A), c5, c6, c7, .no, c9, c10]
      · rfl
      · exact ⟨_, _, _, _, _, _, rfl⟩
      · rintro t ε _ ⟨p, c5, c6, c7, c9, c10, rfl⟩
        refine ⟨[sc, .sh (.int x), .ls (penL p), .sh (.int n), .sh (stD A), .sh t, c6, c7, .no, c9, c10], rfl, ?_⟩
        obtain ⟨_, _, e4, r, p2, hr, rfl, rfl⟩ := law_drawn_eq p (need := n) (by omega) hA.l
        have hrl := sch_len hr
        have hal := hA.l
        apply wx_nx (lw_c e4)
        obtain ⟨Z, p3, e5, hZ, hZl⟩ := bents_lc (q := r) (by omega) p2 n (stD A) sc (.sh (.int x)) (.sh t) c7 c9 c10
        apply wx_nx (lw_d e5)
        obtain ⟨_, _, e6, o, p4, ho, rfl, rfl⟩ := law_odd_eq p3
        apply wx_seq
        apply wx_each (ds := [sqD r, o] ++ Z) (ε1 := [sc, .sh (.int x), .ls (penL p4), .sh (.int n), .sh (stD A), .sh t, .sh (sqD r), .ls Z, .no, c9, c10]) fun ε => ∃ c9 c10, ε = [sc, .sh (.int x), .ls (penL p4), .sh (.int n), .sh (stD A), .sh t, .sh (sqD r), .ls Z, .no, c9, c10]
        · exact lw_es (by omega) e6
        · exact ⟨_, _, rfl⟩
        · rintro d ε hd ⟨c9, c10, rfl⟩
          have hs : Sml d := by
            rcases List.mem_append.mp hd with hd | hd
            · simp only [List.mem_cons, List.not_mem_nil, or_false] at hd
              rcases hd with rfl | rfl
              · exact sml_tup (by simp; omega)
              · exact ho
            · exact hZ d hd
          refine ⟨[sc, .sh (.int x), .ls (penL p4), .sh (.int n), .sh (stD A), .sh t, .sh (sqD r), .ls Z, .no, .sh d, c10], rfl, ?_⟩
          obtain ⟨b, hb, eb1⟩ := law_good_any (need := n) (by omega) hA0 hs
          obtain ⟨b2, hb2, eb2⟩ := schedule_good_any (need := n) (by omega) A hs
          have e : b2 = b := by
            rw [Bool.eq_iff_iff, hb, hb2]
          rw [e] at eb2
          apply wx_nx (lw_e eb1)
          apply wx_nx (lw_f eb2 (rp_bb b))
          exact wx_skip ⟨_, _, rfl⟩
        · rintro ε ⟨c9, c10, rfl⟩
          have hle := hB.2 r hr
          apply wx_nx (lw_g (S := r.map prN) (N := (r.length : Int)) (m := (q.length : Int)) (by simp) (by omega) (most_served_eq eb))
          exact wx_skip ⟨_, _, _, _, _, _, rfl⟩
      · rintro ε ⟨p, c5, c6, c7, c9, c10, rfl⟩
        exact wx_skip ⟨_, _, _, _, _, _, _, _, _, rfl⟩
    rintro ε ⟨c1, c2, c3, c4, c5, c6, c7, c9, c10, rfl⟩
    apply wx_rt
    · walk_at "ev"
      exact ⟨rfl, rfl⟩
    exact rfl
  obtain ⟨c, cs, e, rfl⟩ := main
  exact ⟨cs, e⟩
end KW
namespace KW
open PySem PySem.Spec PyProof.Rows L2 L2.M
abbrev R : PySem.W.OpenRow := PySem.W.OpenLaw.row PySem.Challenge.rw_knockpurse_k55_schedules
abbrev hk : PySem.W.Hook := He.hookD 4 fa fn
def ob (s : PySem.W.SharedT) : He.AlD := He.obsDG 4 fa fn (HandSHeadRun.getT s)
theorem ob_eq (s : PySem.W.SharedT) : ob s = hk.obs s.abs := He.obsDG_eq (HandSHeadRun.getT_eq s)
theorem run (w : World) : HandSHeadRun.RunEq R (PySem.W.view R.prog [22]) hk ob 1780 ["is_whole", "done_by_time", "is_place", "schedule_good", "best_schedule", "most_served", "schedule_for", "_law_cell_at", "_law_next", "_law_pen_of", "_law_draw", "_law_askings", "_law_odd", "_law_whole", "_law_good", "_law_drawn", "_law_bent", "_law_most", "_law_most_right"] w := by
  intro os
  kernel_rfl
end KW
open PySem PySem.W PySem.Calls PyProof.Rows
theorem PySem.Challenge.cw_knockpurse_k55_schedules_holds : PySem.Challenge.rw_knockpurse_k55_schedules.Holds := by
  w_on; o_law
  refine HandSHeadRun.head_any (r := OpenLaw.row PySem.Challenge.rw_knockpurse_k55_schedules) (q := view (OpenLaw.row PySem.Challenge.rw_knockpurse_k55_schedules).prog [22]) (H := KW.hk) (ob := KW.ob) (M := 1780) (loose := ["is_whole", "done_by_time", "is_place", "schedule_good", "best_schedule", "most_served", "schedule_for", "_law_cell_at", "_law_next", "_law_pen_of", "_law_draw", "_law_askings", "_law_odd", "_law_whole", "_law_good", "_law_drawn", "_law_bent", "_law_most", "_law_most_right"]) (d := HandSHeadRun.topDef (OpenLaw.row PySem.Challenge.rw_knockpurse_k55_schedules).prog 22) (kwd := []) KW.ob_eq
    (by kernel_rfl) (fun s => by kernel_rfl) KW.run (by kernel_rfl) (by kernel_rfl) (by kernel_rfl) (by rfl) (by first | assumption | decide +kernel) (by decide +kernel) ⟨rfl, rfl, rfl, rfl, rfl, by decide +kernel⟩ ?hw ?hc
  case hw => w_witness2
  case hc =>
    refine L2.M.walkG (l := PySem.Challenge.rw_knockpurse_k55_schedules) (n := 63) (k := 6) (x := "_law_script") rfl (by decide) (by kernel_rfl) ⟨⟨rfl, by decide, by decide⟩, rfl⟩ ?F
    intro w mg fa h Y G hmg0
    obtain ⟨K, KX, c⟩ := Y
    have hmg : mg ("law" : PySem.Str) = some (.ref fa) := by
      have e : (HandSHeadRun.topDef (OpenLaw.row PySem.Challenge.rw_knockpurse_k55_schedules).prog 22).name = ("law" : PySem.Str) := by kernel_rfl
      rw [← e]
      exact hmg0
    obtain ⟨fd, hb, hF⟩ := L2.M.topG (P := (PySem.Challenge.rw_knockpurse_k55_schedules).prog) (w := w) ⟨h, KX, G, c⟩ 19 19 (k := 5) (m := KW.m_law) rfl rfl rfl KW.pl_law KW.sc_law hmg (fun base => KW.bd_law ⟨h, KX, G, c⟩)
    exact ⟨K, fd, _, KX, hb, fun H a ns hl O hS => L2.M.sp_law O hS (KW.law_true ns hl), hF⟩
