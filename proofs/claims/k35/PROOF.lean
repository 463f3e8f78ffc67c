import PyProof.Rows.All
import Wide.All
import OpenK.AllK
import Wide.FinOn
import KE.KStateDown
import HandS.Base
import HandS.Call
import HandS.Ends
import HandS.More
import HandS.Words
import HandS.WordsExc
import HandS.Defaults
import HandS.Head0
import HandS.Head1
import HandS.Head2
import HandS.HeadEnd
import HandS.HeadHook1
import HandS.HeadHook2
import HandS.ForMost
import HandS.IsInst
import KE.KDictKeyed
import HandS.TupAny
import HandS.TupMul
import HandS.Style
import HandS.Wide
import HandS.Deep
import HandS.SortInts
import HandS.RaiseMore
import HandS.WideBits
import KE.KEqNest
import HandS.Walk
import HandS.ExcCtx
import HandS.Dict
import HandS.Zip
import KE.GoesEnum
import KE.KSortTupG
import HandS.TupSets
import HandS.Conv
import HandS.TryOnly
import HandS.Small
import HandS.ExcIs
import HandS.ExcField
import HandS.HotCalls
import HandS.ExcInit
import HandS.Flow
import HandS.SetFor
import HandS.Rev
import HandS.WordsDict
import HandS.Iter
import KE.KDictLaw
import KE.KDictCopyH
import KE.KDictDisplayH
import KE.DataCmp
import KE.DataMinMax
import KE.SortData
import KE.KDictPairs
import HandS.Text
import HandS.Steps
import HandS.Replace
import HandS.ReplaceLit
import HandS.ReplaceDef
import KE.KEqDict
import PyProof.SeqIndex
import HandS.DeepEq
import PyProof.NeKinds
import KE.KDictList
import KE.KIntText
import PySem.Challenge.RW_knockpurse_k35_the_most_in_a_stretch
set_option Elab.async false
set_option linter.all false
set_option maxRecDepth 100000
set_option maxHeartbeats 0
namespace L2.M
open PySem PySem.Spec PyProof.Rows
abbrev D := PyData
def keyD : Key → D
  | .inl i => .int i
  | .inr x => .str x
/-- a tuple, known to have no dict of its own -/
def HdT (F : Hp) (a : Addr) (xs : List V) : Prop := ∃ o : Obj, o.dict = none ∧ F a = some (.frz o (.tup xs))
theorem HdT.sq {K : PySem.W.Frag} {F : Hp} {a : Addr} {xs : List V} (h : HdT F a xs) : SqT K F a xs := by
  obtain ⟨o, _, h⟩ := h
  exact .inl (.inr ⟨o, h⟩)
theorem HdT.mono {F F' : Hp} {a : Addr} {xs : List V} (e : Same F F') (h : HdT F a xs) : HdT F' a xs := by
  obtain ⟨o, h1, h⟩ := h
  exact ⟨o, h1, e _ _ h⟩
mutual
def Rep (K : PySem.W.Frag) (F : Hp) : V → D → Prop
  | v, .none => v = .non
  | v, .bool b => v = .bl b
  | v, .int i => v = .int i
  | v, .str x => v = .str x
  | v, .list ds => ∃ a vs, v = .ref a ∧ SqL K F a vs ∧ Reps K F vs ds
  | v, .tuple ds => ∃ a vs, v = .ref a ∧ HdT F a vs ∧ Reps K F vs ds
  | v, .dict kds => ∃ a kvs, v = .ref a ∧ F a = some (.dK kvs) ∧ RepKs K F kvs kds
def Reps (K : PySem.W.Frag) (F : Hp) : List V → List D → Prop
  | vs, [] => vs = []
  | vs, d :: ds => ∃ v r, vs = v :: r ∧ Rep K F v d ∧ Reps K F r ds
def RepKs (K : PySem.W.Frag) (F : Hp) : List (Key × V) → List (D × D) → Prop
  | kvs, [] => kvs = []
  | kvs, (k, d) :: kds => ∃ key v r, kvs = (key, v) :: r ∧ k = keyD key ∧ Rep K F v d ∧ RepKs K F r kds
end
theorem sameL {K : PySem.W.Frag} {H H' : Hp} {a : Addr} {xs : List V} (e : Same H H') (h : SqL K H a xs) : SqL K H' a xs := e.seq h
theorem sameT {K : PySem.W.Frag} {H H' : Hp} {a : Addr} {xs : List V} (e : Same H H') (h : SqT K H a xs) : SqT K H' a xs := by
  rcases h with (h | ⟨o, h⟩) | h
  · exact .inl (.inl (e _ _ h))
  · exact .inl (.inr ⟨o, e _ _ h⟩)
  · exact .inr h
section
variable {K : PySem.W.Frag} {F F' : Hp}
mutual
theorem Rep.mono (e : Same F F') : ∀ (d : D) (v : V), Rep K F v d → Rep K F' v d
  | .none, v, h => h
  | .bool b, v, h => h
  | .int b, v, h => h
  | .str b, v, h => h
  | .list ds, v, ⟨a, vs, h1, h2, h3⟩ => ⟨a, vs, h1, sameL e h2, Reps.mono e ds vs h3⟩
  | .tuple ds, v, ⟨a, vs, h1, h2, h3⟩ => ⟨a, vs, h1, h2.mono e, Reps.mono e ds vs h3⟩
  | .dict kds, v, ⟨a, vs, h1, h2, h3⟩ => ⟨a, vs, h1, e _ _ h2, RepKs.mono e kds vs h3⟩
theorem Reps.mono (e : Same F F') : ∀ (ds : List D) (vs : List V), Reps K F vs ds → Reps K F' vs ds
  | [], vs, h => h
  | d :: ds, vs, ⟨v, r, h1, h2, h3⟩ => ⟨v, r, h1, Rep.mono e d v h2, Reps.mono e ds r h3⟩
theorem RepKs.mono (e : Same F F') : ∀ (ds : List (D × D)) (vs : List (Key × V)), RepKs K F vs ds → RepKs K F' vs ds
  | [], vs, h => h
  | (k, d) :: ds, vs, ⟨key, v, r, h1, h0, h2, h3⟩ => ⟨key, v, r, h1, h0, Rep.mono e d v h2, RepKs.mono e ds r h3⟩
end
theorem Reps.length : ∀ {ds : List D} {vs : List V}, Reps K F vs ds → vs.length = ds.length
  | [], vs, h => by cases (show vs = [] from h); rfl
  | d :: ds, vs, ⟨v, r, h1, h2, h3⟩ => by subst h1; simp [Reps.length h3]
theorem Reps.get : ∀ {ds : List D} {vs : List V} {i : Nat} {d : D}, Reps K F vs ds → ds[i]? = some d → ∃ v, vs[i]? = some v ∧ Rep K F v d
  | [], vs, i, d, h, e => by simp at e
  | d :: ds, vs, 0, d', ⟨v, r, h1, h2, h3⟩, e => by
    simp at e; subst e; subst h1; exact ⟨v, rfl, h2⟩
  | d :: ds, vs, i + 1, d', ⟨v, r, h1, h2, h3⟩, e => by
    subst h1
    obtain ⟨v', e1, e2⟩ := Reps.get (i := i) h3 (by simpa using e)
    exact ⟨v', by simpa using e1, e2⟩
theorem Reps.append : ∀ {ds es : List D} {vs ws : List V}, Reps K F vs ds → Reps K F ws es → Reps K F (vs ++ ws) (ds ++ es)
  | [], es, vs, ws, h, g => by cases (show vs = [] from h); exact g
  | d :: ds, es, vs, ws, ⟨v, r, h1, h2, h3⟩, g => by subst h1; exact ⟨v, r ++ ws, rfl, h2, Reps.append h3 g⟩
theorem Reps.one {v : V} {d : D} (h : Rep K F v d) : Reps K F [v] [d] := ⟨v, [], rfl, h, rfl⟩
theorem Reps.take : ∀ {ds : List D} {vs : List V} (n : Nat), Reps K F vs ds → Reps K F (vs.take n) (ds.take n)
  | _, _, 0, _ => by simp [Reps]
  | [], vs, n + 1, h => by cases (show vs = [] from h); simp [Reps]
  | d :: ds, vs, n + 1, ⟨v, r, h1, h2, h3⟩ => by subst h1; exact ⟨v, _, rfl, h2, Reps.take n h3⟩
theorem Reps.drop : ∀ {ds : List D} {vs : List V} (n : Nat), Reps K F vs ds → Reps K F (vs.drop n) (ds.drop n)
  | _, _, 0, h => h
  | [], vs, n + 1, h => by cases (show vs = [] from h); simp [Reps]
  | d :: ds, vs, n + 1, ⟨v, r, h1, h2, h3⟩ => by subst h1; exact Reps.drop n h3
theorem Reps.set {v : V} {d : D} (g : Rep K F v d) : ∀ {ds : List D} {vs : List V} (n : Nat), Reps K F vs ds → Reps K F (vs.set n v) (ds.set n d)
  | [], vs, n, h => by cases (show vs = [] from h); simp [Reps]
  | d' :: ds, vs, 0, ⟨v', r, h1, h2, h3⟩ => by subst h1; exact ⟨v, r, rfl, g, h3⟩
  | d' :: ds, vs, n + 1, ⟨v', r, h1, h2, h3⟩ => by subst h1; exact ⟨v', _, rfl, h2, Reps.set g n h3⟩
theorem Reps.erase : ∀ {ds : List D} {vs : List V} (n : Nat), Reps K F vs ds → Reps K F (vs.eraseIdx n) (ds.eraseIdx n)
  | [], vs, n, h => by cases (show vs = [] from h); simp [Reps]
  | d' :: ds, vs, 0, ⟨v', r, h1, h2, h3⟩ => by subst h1; exact h3
  | d' :: ds, vs, n + 1, ⟨v', r, h1, h2, h3⟩ => by subst h1; exact ⟨v', _, rfl, h2, Reps.erase n h3⟩
theorem Reps.reverse : ∀ {ds : List D} {vs : List V}, Reps K F vs ds → Reps K F vs.reverse ds.reverse
  | [], vs, h => by cases (show vs = [] from h); simp [Reps]
  | d :: ds, vs, ⟨v, r, h1, h2, h3⟩ => by
    subst h1
    rw [List.reverse_cons, List.reverse_cons]
    exact Reps.append (Reps.reverse h3) (Reps.one h2)
theorem Reps.replicate {ds : List D} {vs : List V} (h : Reps K F vs ds) : ∀ n : Nat, Reps K F (List.replicate n vs).flatten (List.replicate n ds).flatten
  | 0 => by simp [Reps]
  | n + 1 => by
    rw [List.replicate_succ, List.replicate_succ, List.flatten_cons, List.flatten_cons]
    exact Reps.append h (Reps.replicate h n)
end
inductive Kd where
  | ls | ins (cls : Str) (fs : List Str) | dn (ks : List D)
/-- an error on its way: its class by its name, its fields -/
structure Xn where
  cls : Str
  as : List (Str × D)
inductive C where
  | no | sh (d : D) | ls (ds : List D) | dc (k : Nat) (kvs : List (D × D)) | ob (k : Kd) (cs : List C)
  | px (a : Addr) (cls : Value) (d : Option Addr) (x : Xn)
  | fn (x : Str) | fd (kds : List (D × D)) | fk (kds : List (D × D))
abbrev Cs := List C
/-- what is written once and for all: the program's fragment, the world -/
abbrev Ek := PySem.W.Frag × World
abbrev _root_.L2.Cx.E (X : Cx) : Ek := (X.K, X.w)
mutual
def nKey : D → Option NestedKey
  | .none => some .none
  | .bool b => some (.num (if b = true then 1 else 0))
  | .int i => some (.num i)
  | .str x => some (.text x)
  | .tuple ds => (nKeys ds).map .tup
  | _ => none
def nKeys : List D → Option (List NestedKey)
  | [] => some []
  | d :: ds => match nKey d, nKeys ds with
    | some k, some ks => some (k :: ks)
    | _, _ => none
end
abbrev NEnt := NestedKey × Addr
def nkE (w : World) (x : NEnt × Value) : DictEntry := ⟨x.1.1.hash w, .ref x.1.2, x.2⟩
/-- a dict whose keys are tuples, nested, told by its object -/
def nkO (w : World) (a : Addr) (xs : List (NEnt × V)) : HO := .ext fun h => xs.length ≤ sizeLine ∧ (a == sysModules) = false ∧ ∃ vs : List (NEnt × Value), Paired (fun (p : NEnt × V) (q : NEnt × Value) => p.1 = q.1 ∧ RelV p.2 q.2) xs vs ∧ ∃ o es ep, h.get? a = some o ∧ o.ExactDict ∧ o.data = .dict es ep ∧ es.toList = vs.map (nkE w) ∧ (xs.map (·.1.1)).Nodup
def KeysN (K : PySem.W.Frag) (F : Hp) : List NEnt → List D → Prop
  | bs, [] => bs = []
  | bs, k :: ks => ∃ b r, bs = b :: r ∧ nKey k = some b.1 ∧ b.1.depth ≤ 8 ∧ Rep K F (.ref b.2) k ∧ KeysN K F r ks
def RepX (K : Ek) (F : Hp) (cls : Value) (d : Option Addr) (x : Xn) : Prop := cls = .ref (He.ga K.1 x.cls) ∧ ((x.as = [] ∧ d = none) ∨ ∃ dx fs, d = some dx ∧ F dx = some (.xd fs) ∧ fs.map (·.1) = x.as.map (·.1) ∧ Reps K.1 F (fs.map (·.2)) (x.as.map (·.2)))
def RepTs (K : PySem.W.Frag) (F : Hp) : List (List Key × V) → List (D × D) → Prop
  | kvs, [] => kvs = []
  | kvs, (k, d) :: kds => ∃ key v r, kvs = (key, v) :: r ∧ k = .tuple (key.map keyD) ∧ Rep K F v d ∧ RepTs K F r kds
/-- a dict of one's own -/
def DcAt (K : PySem.W.Frag) (F H : Hp) (a : Addr) : Nat → List (D × D) → Prop
  | 0, kds => ∃ kvs, H a = some (.dK kvs) ∧ RepKs K F kvs kds
  | 1, kds => ∃ kvs, H a = some (.dT kvs) ∧ RepTs K F kvs kds
  | _, _ => False
def ObAt (K : Ek) (F H : Hp) (a : Addr) (vs : List V) : Kd → Prop
  | .ls => H a = some (.lst vs)
  | .ins x fs => ∃ dx, H a = some (.ins (He.ga K.1 x) dx (fs.zip vs)) ∧ fs.length = vs.length ∧ fs.Nodup
  | .dn ks => ∃ bs : List NEnt, H a = some (nkO K.2 a (bs.zip vs)) ∧ bs.length = vs.length ∧ KeysN K.1 F bs ks ∧ (bs.map (·.1)).Nodup
def Kd.pl : Kd → Prop
  | .dn _ => False
  | _ => True
/-- .. of a thing with places -/
def ObP (K : Ek) (H : Hp) (a : Addr) (vs : List V) : Kd → Prop
  | .ls => H a = some (.lst vs)
  | .ins x fs => ∃ dx, H a = some (.ins (He.ga K.1 x) dx (fs.zip vs)) ∧ fs.length = vs.length ∧ fs.Nodup
  | .dn _ => False
theorem ObP.at {K : Ek} {F H : Hp} {a : Addr} {vs : List V} : ∀ {k : Kd}, ObP K H a vs k → ObAt K F H a vs k
  | .ls, h => h
  | .ins _ _, h => h
  | .dn _, h => h.elim
theorem ObP.pl {K : Ek} {H : Hp} {a : Addr} {vs : List V} : ∀ {k : Kd}, ObP K H a vs k → k.pl
  | .ls, h => trivial
  | .ins _ _, h => trivial
  | .dn _, h => h.elim
theorem ObAt.p {K : Ek} {F H : Hp} {a : Addr} {vs : List V} : ∀ {k : Kd}, k.pl → ObAt K F H a vs k → ObP K H a vs k
  | .ls, _, h => h
  | .ins _ _, _, h => h
  | .dn _, h, _ => h.elim
theorem ObP.frame {K : Ek} {H H' : Hp} {a : Addr} {vs : List V} (h' : H' a = H a) : ∀ {k : Kd}, ObP K H a vs k → ObP K H' a vs k
  | .ls, h => h'.trans h
  | .ins _ _, ⟨dx, h2, h3⟩ => ⟨dx, h'.trans h2, h3⟩
  | .dn _, h => h.elim
/-- a dict with nested keys that is changed no more -/
def FdAt (K : Ek) (F : Hp) (a : Addr) (kds : List (D × D)) : Prop := ∃ od bs vs, F a = some (.frz od (nkO K.2 a (bs.zip vs))) ∧ bs.length = vs.length ∧ KeysN K.1 F bs (kds.map (·.1)) ∧ Reps K.1 F vs (kds.map (·.2))
/-- a dict whose keys are numbers and texts that is changed no more -/
def FkAt (K : Ek) (F : Hp) (a : Addr) (kds : List (D × D)) : Prop := ∃ od kvs, F a = some (.frz od (.dK kvs)) ∧ RepKs K.1 F kvs kds
mutual
/-- a cell is held: the addresses that are its own -/
def RpC (K : Ek) (F H : Hp) : Option V → C → List Addr → Prop
  | o, .no, A => A = []
  | o, .sh d, A => A = [] ∧ ∃ v, o = some v ∧ Rep K.1 F v d
  | o, .ls ds, A => ∃ a vs, o = some (.ref a) ∧ A = [a] ∧ H a = some (.lst vs) ∧ Reps K.1 F vs ds
  | o, .dc k kds, A => ∃ a, o = some (.ref a) ∧ A = [a] ∧ DcAt K.1 F H a k kds
  | o, .px a cls d x, A => A = [] ∧ o = some (.ref a) ∧ RepX K F cls d x
  | o, .fn x, A => A = [] ∧ o = some (.ref (He.ga K.1 x))
  | o, .fd kds, A => A = [] ∧ ∃ a, o = some (.ref a) ∧ FdAt K F a kds
  | o, .fk kds, A => A = [] ∧ ∃ a, o = some (.ref a) ∧ FkAt K F a kds
  | o, .ob k cs, A => ∃ a vs fs, o = some (.ref a) ∧ A = a :: fs.flatten ∧ ObAt K F H a vs k ∧ RpCs K F H (vs.map some) cs fs
def RpCs (K : Ek) (F H : Hp) : List (Option V) → List C → List (List Addr) → Prop
  | os, [], fs => os = [] ∧ fs = []
  | os, c :: cs, fs => ∃ o r f fr, os = o :: r ∧ fs = f :: fr ∧ RpC K F H o c f ∧ RpCs K F H r cs fr
end
section
variable {K : Ek} {F F' H H' : Hp}
theorem RepTs.mono (e : Same F F') : ∀ (ds : List (D × D)) (vs : List (List Key × V)), RepTs K.1 F vs ds → RepTs K.1 F' vs ds
  | [], vs, h => h
  | (k, d) :: ds, vs, ⟨key, v, r, h1, h0, h2, h3⟩ => ⟨key, v, r, h1, h0, Rep.mono e d v h2, RepTs.mono e ds r h3⟩
theorem RepX.mono {cls : Value} {d : Option Addr} {x : Xn} (e : Same F F') (h : RepX K F cls d x) : RepX K F' cls d x := by
  obtain ⟨h1, h2 | ⟨dx, fs, h2, h3, h4, h5⟩⟩ := h
  · exact ⟨h1, .inl h2⟩
  · exact ⟨h1, .inr ⟨dx, fs, h2, e _ _ h3, h4, Reps.mono e _ _ h5⟩⟩
theorem DcAt.frame (e : Same F F') {a : Addr} (h' : H' a = H a) : ∀ {k : Nat} {kds : List (D × D)}, DcAt K.1 F H a k kds → DcAt K.1 F' H' a k kds
  | 0, kds, ⟨kvs, h1, h2⟩ => ⟨kvs, h'.trans h1, RepKs.mono e _ _ h2⟩
  | 1, kds, ⟨kvs, h1, h2⟩ => ⟨kvs, h'.trans h1, RepTs.mono e _ _ h2⟩
  | _ + 2, kds, h => h
theorem DcAt.live {a : Addr} : ∀ {k : Nat} {kds : List (D × D)}, DcAt K.1 F H a k kds → H a ≠ none
  | 0, kds, ⟨kvs, h1, h2⟩ => by rw [h1]; exact fun z => nomatch z
  | 1, kds, ⟨kvs, h1, h2⟩ => by rw [h1]; exact fun z => nomatch z
  | _ + 2, kds, h => h.elim
theorem KeysN.mono (e : Same F F') : ∀ {ks : List D} {bs : List NEnt}, KeysN K.1 F bs ks → KeysN K.1 F' bs ks
  | [], bs, h => h
  | k :: ks, bs, ⟨b, r, h1, h2, h3, h4, h5⟩ => ⟨b, r, h1, h2, h3, Rep.mono e _ _ h4, KeysN.mono e h5⟩
theorem ObAt.frame (e : Same F F') {a : Addr} {vs : List V} (h' : H' a = H a) : ∀ {k : Kd}, ObAt K F H a vs k → ObAt K F' H' a vs k
  | .ls, h => h'.trans h
  | .ins _ _, ⟨dx, h2, h3⟩ => ⟨dx, h'.trans h2, h3⟩
  | .dn _, ⟨bs, h2, h3, h4, h5⟩ => ⟨bs, h'.trans h2, h3, h4.mono (K := K) e, h5⟩
theorem ObAt.live {a : Addr} {vs : List V} : ∀ {k : Kd}, ObAt K F H a vs k → H a ≠ none
  | .ls, h => by rw [show H a = _ from h]; exact fun z => nomatch z
  | .ins _ _, ⟨dx, h2, h3⟩ => by rw [h2]; exact fun z => nomatch z
  | .dn _, ⟨bs, h2, _⟩ => by rw [h2]; exact fun z => nomatch z
theorem FkAt.mono (e : Same F F') {a : Addr} {kds : List (D × D)} (h : FkAt K F a kds) : FkAt K F' a kds := by
  obtain ⟨od, kvs, h1, h2⟩ := h
  exact ⟨od, kvs, e _ _ h1, RepKs.mono e _ _ h2⟩
theorem FdAt.mono (e : Same F F') {a : Addr} {kds : List (D × D)} (h : FdAt K F a kds) : FdAt K F' a kds := by
  obtain ⟨od, bs, vs, h1, h2, h3, h4⟩ := h
  exact ⟨od, bs, vs, e _ _ h1, h2, h3.mono (K := K) e, Reps.mono e _ _ h4⟩
mutual
theorem RpC.frame (e : Same F F') : ∀ {c : C} {o : Option V} {A : List Addr}, (∀ b ∈ A, H' b = H b) → RpC K F H o c A → RpC K F' H' o c A
  | .no, o, A, k, h => h
  | .sh d, o, A, k, ⟨h1, v, h2, h3⟩ => ⟨h1, v, h2, Rep.mono e _ _ h3⟩
  | .ls ds, o, A, k, ⟨a, vs, h1, h2, h3, h4⟩ => ⟨a, vs, h1, h2, (k a (by rw [h2]; exact List.mem_cons_self)).trans h3, Reps.mono e _ _ h4⟩
  | .dc n kds, o, A, k, ⟨a, h1, h2, h3⟩ => ⟨a, h1, h2, DcAt.frame e (k a (by rw [h2]; exact List.mem_cons_self)) h3⟩
  | .px a cls d x, o, A, k, ⟨h1, h2, h3⟩ => ⟨h1, h2, h3.mono e⟩
  | .fn x, o, A, k, h => h
  | .fd kds, o, A, k, ⟨h1, a, h2, h3⟩ => ⟨h1, a, h2, h3.mono e⟩
  | .fk kds, o, A, k, ⟨h1, a, h2, h3⟩ => ⟨h1, a, h2, h3.mono e⟩
  | .ob n cs, o, A, k, ⟨a, vs, fs, h1, h2, h3, h4⟩ => ⟨a, vs, fs, h1, h2, ObAt.frame e (k a (by rw [h2]; exact List.mem_cons_self)) h3, RpCs.frame e (fun b hb => k b (by rw [h2]; exact List.mem_cons_of_mem _ hb)) h4⟩
theorem RpCs.frame (e : Same F F') : ∀ {cs : List C} {os : List (Option V)} {fs : List (List Addr)}, (∀ b ∈ fs.flatten, H' b = H b) → RpCs K F H os cs fs → RpCs K F' H' os cs fs
  | [], os, fs, k, h => h
  | c :: cs, os, fs, k, ⟨o, r, f, fr, h1, h2, h3, h4⟩ => ⟨o, r, f, fr, h1, h2, RpC.frame e (fun b hb => k b (by rw [h2]; simp [hb])) h3, RpCs.frame e (fun b hb => k b (by rw [h2, List.flatten_cons]; exact List.mem_append_right _ hb)) h4⟩
end
mutual
theorem RpC.live : ∀ {c : C} {o : Option V} {A : List Addr}, RpC K F H o c A → ∀ b ∈ A, H b ≠ none
  | .no, o, A, h, b, hb => by rw [show A = [] from h] at hb; cases hb
  | .sh d, o, A, ⟨h1, _⟩, b, hb => by rw [h1] at hb; cases hb
  | .ls ds, o, A, ⟨a, vs, h1, h2, h3, h4⟩, b, hb => by
    rw [h2] at hb
    obtain rfl := List.mem_singleton.mp hb
    rw [h3]; exact fun z => nomatch z
  | .dc n kds, o, A, ⟨a, h1, h2, h3⟩, b, hb => by
    rw [h2] at hb
    obtain rfl := List.mem_singleton.mp hb
    exact h3.live (K := K)
  | .px a cls d x, o, A, ⟨h1, _⟩, b, hb => by rw [h1] at hb; cases hb
  | .fn x, o, A, ⟨h1, _⟩, b, hb => by rw [h1] at hb; cases hb
  | .fd kds, o, A, ⟨h1, _⟩, b, hb => by rw [h1] at hb; cases hb
  | .fk kds, o, A, ⟨h1, _⟩, b, hb => by rw [h1] at hb; cases hb
  | .ob n cs, o, A, ⟨a, vs, fs, h1, h2, h3, h4⟩, b, hb => by
    rw [h2] at hb
    rcases List.mem_cons.mp hb with rfl | hb
    · exact h3.live
    · exact RpCs.live h4 b hb
theorem RpCs.live : ∀ {cs : List C} {os : List (Option V)} {fs : List (List Addr)}, RpCs K F H os cs fs → ∀ b ∈ fs.flatten, H b ≠ none
  | [], os, fs, ⟨_, h⟩, b, hb => by rw [h] at hb; cases hb
  | c :: cs, os, fs, ⟨o, r, f, fr, h1, h2, h3, h4⟩, b, hb => by
    rw [h2, List.flatten_cons] at hb
    rcases List.mem_append.mp hb with hb | hb
    · exact RpC.live h3 b hb
    · exact RpCs.live h4 b hb
end
theorem RpCs.len : ∀ {cs : List C} {os : List (Option V)} {fs : List (List Addr)}, RpCs K F H os cs fs → os.length = cs.length ∧ fs.length = cs.length
  | [], os, fs, ⟨h1, h2⟩ => by rw [h1, h2]; exact ⟨rfl, rfl⟩
  | c :: cs, os, fs, ⟨o, r, f, fr, h1, h2, h3, h4⟩ => by
    obtain ⟨e1, e2⟩ := h4.len
    rw [h1, h2]
    simp [e1, e2]
theorem RpCs.get : ∀ {cs : List C} {os : List (Option V)} {fs : List (List Addr)} {i : Nat} {c : C}, RpCs K F H os cs fs → cs[i]? = some c → ∃ o f, os[i]? = some o ∧ fs[i]? = some f ∧ RpC K F H o c f
  | [], os, fs, i, c, h, e => by simp at e
  | c :: cs, os, fs, 0, c', ⟨o, r, f, fr, h1, h2, h3, h4⟩, e => by
    simp at e; subst e h1 h2
    exact ⟨o, f, rfl, rfl, h3⟩
  | c :: cs, os, fs, i + 1, c', ⟨o, r, f, fr, h1, h2, h3, h4⟩, e => by
    subst h1 h2
    obtain ⟨o', f', e1, e2, e3⟩ := h4.get (by simpa using e)
    exact ⟨o', f', by simpa using e1, by simpa using e2, e3⟩
/-- a place rewritten -/
theorem RpCs.set {o : Option V} {c : C} {f : List Addr} (h0 : RpC K F H o c f) : ∀ {cs : List C} {os : List (Option V)} {fs : List (List Addr)} (i : Nat), RpCs K F H os cs fs → RpCs K F H (os.set i o) (cs.set i c) (fs.set i f)
  | [], os, fs, i, ⟨h1, h2⟩ => by rw [h1, h2]; exact ⟨rfl, rfl⟩
  | c' :: cs, os, fs, 0, ⟨o', r, f', fr, h1, h2, h3, h4⟩ => by rw [h1, h2]; exact ⟨o, r, f, fr, rfl, rfl, h0, h4⟩
  | c' :: cs, os, fs, i + 1, ⟨o', r, f', fr, h1, h2, h3, h4⟩ => by rw [h1, h2]; exact ⟨o', _, f', _, rfl, rfl, h3, RpCs.set h0 i h4⟩
theorem RpCs.append : ∀ {cs cs' : List C} {os os' : List (Option V)} {fs fs' : List (List Addr)}, RpCs K F H os cs fs → RpCs K F H os' cs' fs' → RpCs K F H (os ++ os') (cs ++ cs') (fs ++ fs')
  | [], cs', os, os', fs, fs', ⟨h1, h2⟩, g => by rw [h1, h2]; exact g
  | c :: cs, cs', os, os', fs, fs', ⟨o, r, f, fr, h1, h2, h3, h4⟩, g => by rw [h1, h2]; exact ⟨o, _, f, _, rfl, rfl, h3, h4.append g⟩
theorem RpCs.nos (n : Nat) (os : List (Option V)) (h : os.length = n) : RpCs K F H os (List.replicate n .no) (List.replicate n []) := by
  induction n generalizing os with
  | zero => exact ⟨List.length_eq_zero_iff.mp h, rfl⟩
  | succ n ih =>
    cases os with
    | nil => cases h
    | cons o r => exact ⟨o, r, [], _, rfl, rfl, rfl, ih r (by simpa using h)⟩
end
theorem flat_set {fs : List (List Addr)} {i : Nat} {f : List Addr} {b : Addr} (h : b ∈ (fs.set i f).flatten) : b ∈ f ∨ ∃ (j : Nat) (g : List Addr), j ≠ i ∧ fs[j]? = some g ∧ b ∈ g := by
  obtain ⟨g, hg, hb⟩ := List.mem_flatten.mp h
  obtain ⟨j, hj⟩ := List.mem_iff_getElem?.mp hg
  by_cases e : j = i
  · subst e
    by_cases hl : j < fs.length
    · rw [List.getElem?_set_self hl] at hj; cases hj; exact .inl hb
    · rw [List.getElem?_eq_none (by simpa using hl)] at hj; cases hj
  · rw [List.getElem?_set_ne (Ne.symm e)] at hj
    exact .inr ⟨j, g, e, hj, hb⟩
theorem flat_get {fs : List (List Addr)} {i : Nat} {f : List Addr} {b : Addr} (h : fs[i]? = some f) (hb : b ∈ f) : b ∈ fs.flatten := List.mem_flatten.mpr ⟨f, List.mem_of_getElem? h, hb⟩
theorem nodup_apart : ∀ {fs : List (List Addr)}, fs.flatten.Nodup → ∀ {i j : Nat} {f g : List Addr} {b : Addr}, fs[i]? = some f → fs[j]? = some g → b ∈ f → b ∈ g → i = j
  | [], _, i, j, f, g, b, h, _, _, _ => by simp at h
  | e :: fs, n, i, j, f, g, b, h1, h2, h3, h4 => by
    rw [List.flatten_cons, List.nodup_append] at n
    obtain ⟨n1, n2, n3⟩ := n
    cases i with
    | zero =>
      simp at h1; subst h1
      cases j with
      | zero => rfl
      | succ j => exact absurd rfl (n3 b h3 b (flat_get (by simpa using h2) h4))
    | succ i =>
      cases j with
      | zero =>
        simp at h2; subst h2
        exact absurd rfl (n3 b h4 b (flat_get (by simpa using h1) h3))
      | succ j => exact congrArg (· + 1) (nodup_apart n2 (by simpa using h1) (by simpa using h2) h3 h4)
theorem nodup_get : ∀ {fs : List (List Addr)} {i : Nat} {f : List Addr}, fs.flatten.Nodup → fs[i]? = some f → f.Nodup
  | [], i, f, _, h => by simp at h
  | e :: fs, 0, f, n, h => by
    simp at h; subst h
    rw [List.flatten_cons, List.nodup_append] at n
    exact n.1
  | e :: fs, i + 1, f, n, h => by
    rw [List.flatten_cons, List.nodup_append] at n
    exact nodup_get n.2.1 (by simpa using h)
theorem nodup_set {f : List Addr} (nf : f.Nodup) : ∀ {fs : List (List Addr)} {i : Nat}, fs.flatten.Nodup → (∀ (j : Nat) (g : List Addr), j ≠ i → fs[j]? = some g → ∀ b ∈ f, b ∉ g) → (fs.set i f).flatten.Nodup
  | [], i, n, h => by simp
  | e :: fs, 0, n, h => by
    rw [List.flatten_cons, List.nodup_append] at n
    show (f :: fs).flatten.Nodup
    rw [List.flatten_cons, List.nodup_append]
    refine ⟨nf, n.2.1, fun a ha b hb z => ?_⟩
    subst z
    obtain ⟨g, hg, hb⟩ := List.mem_flatten.mp hb
    obtain ⟨j, hj⟩ := List.mem_iff_getElem?.mp hg
    exact h (j + 1) g (by simp) (by simpa using hj) a ha hb
  | e :: fs, i + 1, n, h => by
    rw [List.flatten_cons, List.nodup_append] at n
    obtain ⟨n1, n2, n3⟩ := n
    show (e :: fs.set i f).flatten.Nodup
    rw [List.flatten_cons, List.nodup_append]
    refine ⟨n1, nodup_set nf n2 fun j g hj hg b hb => h (j + 1) g (by simpa using hj) (by simpa using hg) b hb, fun a ha b hb z => ?_⟩
    subst z
    rcases flat_set hb with hb | ⟨j, g, hj, hg, hb⟩
    · exact h 0 e (by simp) rfl a hb ha
    · exact n3 a ha a (flat_get hg hb) rfl
abbrev Tms := List (V × C)
structure Sep (K : Ek) (F R H : Hp) (σ : St) (ε : Cs) (T : Tms) : Prop where
  sub : Same F H
  rs : Same R H
  dis : ∀ b, F b ≠ none → R b = none
  ex : ∃ fs gs, RpCs K F H σ ε fs ∧ RpCs K F H (T.map fun p => some p.1) (T.map (·.2)) gs ∧ (fs.flatten ++ gs.flatten).Nodup ∧ ∀ b ∈ fs.flatten ++ gs.flatten, F b = none ∧ R b = none
section
variable {K : Ek} {F R H F' R' H' : Hp} {σ σ' : St} {ε ε' : Cs} {T T' : Tms} {v w : V} {c c' : C} {i : Nat} {d : D}
theorem Sep.len (s : Sep K F R H σ ε T) : σ.length = ε.length := by
  obtain ⟨_, _, _, ⟨fs, gs, h1, _⟩⟩ := s
  exact h1.len.1
/-- a temporary is dropped -/
theorem Sep.drop (s : Sep K F R H σ ε ((v, c) :: T)) : Sep K F R H σ ε T := by
  obtain ⟨a1, a2, a3, ⟨fs, gs, h1, ⟨o, r, f, fr, e1, e2, h2, h3⟩, n, m⟩⟩ := s
  subst e2
  obtain ⟨-, rfl⟩ := List.cons.inj e1
  have sl : ∀ b, b ∈ fs.flatten ++ fr.flatten → b ∈ fs.flatten ++ (f :: fr).flatten := fun b hb => by
    simp only [List.flatten_cons, List.mem_append] at hb ⊢
    rcases hb with hb | hb
    · exact .inl hb
    · exact .inr (.inr hb)
  refine ⟨a1, a2, a3, fs, fr, h1, h3, ?_, fun b hb => m b (sl b hb)⟩
  rw [List.flatten_cons, List.nodup_append] at n
  obtain ⟨n1, n2, n3⟩ := n
  rw [List.nodup_append] at n2
  rw [List.nodup_append]
  exact ⟨n1, n2.2.1, fun a ha b hb => n3 a ha b (List.mem_append_right _ hb)⟩
theorem Sep.drops : ∀ (T0 : Tms), Sep K F R H σ ε (T0 ++ T) → Sep K F R H σ ε T
  | [], s => s
  | (_, _) :: T0, s => Sep.drops T0 s.drop
/-- a temporary of no own addresses -/
theorem Sep.addSh (s : Sep K F R H σ ε T) (r : Rep K.1 F v d) : Sep K F R H σ ε ((v, .sh d) :: T) := by
  obtain ⟨a1, a2, a3, ⟨fs, gs, h1, h2, n, m⟩⟩ := s
  exact ⟨a1, a2, a3, fs, [] :: gs, h1, ⟨_, _, _, _, rfl, rfl, ⟨rfl, v, rfl, r⟩, h2⟩, by simpa using n, by simpa using m⟩
/-- the cell of a slot, read -/
theorem Sep.cell (s : Sep K F R H σ ε T) (h : ε[i]? = some c) : ∃ o f, σ[i]? = some o ∧ RpC K F H o c f := by
  obtain ⟨a1, a2, a3, ⟨fs, gs, h1, h2, n, m⟩⟩ := s
  obtain ⟨o, f, e1, e2, e3⟩ := h1.get h
  exact ⟨o, f, e1, e3⟩
theorem Sep.sh (s : Sep K F R H σ ε T) (h : ε[i]? = some (.sh d)) : ∃ v, σ[i]? = some (some v) ∧ Rep K.1 F v d := by
  obtain ⟨o, f, e1, _, v, rfl, r⟩ := s.cell h
  exact ⟨v, e1, r⟩
theorem Sep.lst {ds : List D} (s : Sep K F R H σ ε T) (h : ε[i]? = some (.ls ds)) : ∃ a vs, σ[i]? = some (some (.ref a)) ∧ H a = some (.lst vs) ∧ Reps K.1 F vs ds := by
  obtain ⟨o, f, e1, a, vs, rfl, _, h1, h2⟩ := s.cell h
  exact ⟨a, vs, e1, h1, h2⟩
theorem Sep.val (s : Sep K F R H σ ε T) (h : ε[i]? = some c) (hn : c ≠ .no) : ∃ v, σ[i]? = some (some v) := by
  obtain ⟨o, f, e1, h1⟩ := s.cell h
  cases c with
  | no => exact absurd rfl hn
  | sh d => obtain ⟨_, v, rfl, _⟩ := h1; exact ⟨v, e1⟩
  | ls d => obtain ⟨a, vs, rfl, _⟩ := h1; exact ⟨_, e1⟩
  | dc k d => obtain ⟨a, rfl, _⟩ := h1; exact ⟨_, e1⟩
  | ob k d => obtain ⟨a, vs, fs, rfl, _⟩ := h1; exact ⟨_, e1⟩
  | px _ _ _ _ => obtain ⟨_, rfl, _⟩ := h1; exact ⟨_, e1⟩
  | fn _ => obtain ⟨_, rfl⟩ := h1; exact ⟨_, e1⟩
  | fd _ => obtain ⟨_, _, rfl, _⟩ := h1; exact ⟨_, e1⟩
  | fk _ => obtain ⟨_, _, rfl, _⟩ := h1; exact ⟨_, e1⟩
/-- a slot's cell is dropped -/
theorem Sep.dropAt (s : Sep K F R H σ ε T) (i : Nat) : Sep K F R H σ (ε.set i .no) T := by
  obtain ⟨a1, a2, a3, ⟨fs, gs, h1, h2, n, m⟩⟩ := s
  by_cases hi : i < ε.length
  · obtain ⟨o, f, e1, e2, e3⟩ := h1.get (List.getElem?_eq_getElem hi)
    have h1' := RpCs.set (o := o) (c := .no) (f := []) (K := K) (F := F) (H := H) rfl i h1
    have eo : σ.set i o = σ := by
      apply List.ext_getElem?
      intro j
      by_cases e : j = i
      · subst e
        rw [List.getElem?_set_self (by rw [h1.len.1]; exact hi), e1]
      · rw [List.getElem?_set_ne (Ne.symm e)]
    rw [eo] at h1'
    have sl : ∀ b, b ∈ (fs.set i []).flatten → b ∈ fs.flatten := fun b hb => by
      rcases flat_set hb with hb | ⟨j, g, _, hg, hb⟩
      · cases hb
      · exact flat_get hg hb
    rw [List.nodup_append] at n
    obtain ⟨n1, n2, n3⟩ := n
    refine ⟨a1, a2, a3, fs.set i [], gs, h1', h2, ?_, fun b hb => m b ?_⟩
    · rw [List.nodup_append]
      exact ⟨nodup_set (by simp) n1 (fun _ _ _ _ b hb => by cases hb), n2, fun a ha b hb => n3 a (sl a ha) b hb⟩
    · rcases List.mem_append.mp hb with hb | hb
      · exact List.mem_append_left _ (sl b hb)
      · exact List.mem_append_right _ hb
  · rw [List.set_eq_of_length_le (by omega)]
    exact ⟨a1, a2, a3, fs, gs, h1, h2, n, m⟩
/-- a slot's cell is taken out -/
theorem Sep.take (s : Sep K F R H σ ε T) (h : ε[i]? = some c) (hv : σ[i]? = some (some v)) : Sep K F R H σ (ε.set i .no) ((v, c) :: T) := by
  obtain ⟨a1, a2, a3, ⟨fs, gs, h1, h2, n, m⟩⟩ := s
  obtain ⟨o, f, e1, e2, e3⟩ := h1.get h
  rw [hv] at e1
  cases e1
  have hi : i < ε.length := (List.getElem?_eq_some_iff.mp h).1
  have h1' := RpCs.set (o := some v) (c := .no) (f := []) (K := K) (F := F) (H := H) rfl i h1
  have eo : σ.set i (some v) = σ := by
    apply List.ext_getElem?
    intro j
    by_cases e : j = i
    · subst e
      rw [List.getElem?_set_self (by rw [h1.len.1]; exact hi), hv]
    · rw [List.getElem?_set_ne (Ne.symm e)]
  rw [eo] at h1'
  have sl : ∀ b, b ∈ (fs.set i []).flatten → b ∈ fs.flatten ∧ b ∉ f := fun b hb => by
    rcases flat_set hb with hb | ⟨j, g, hj, hg, hb⟩
    · cases hb
    · refine ⟨flat_get hg hb, fun z => hj ?_⟩
      exact nodup_apart (List.nodup_append.mp n).1 hg e2 hb z
  rw [List.nodup_append] at n
  obtain ⟨n1, n2, n3⟩ := n
  refine ⟨a1, a2, a3, fs.set i [], f :: gs, h1', ⟨_, _, _, _, rfl, rfl, e3, h2⟩, ?_, fun b hb => m b ?_⟩
  · rw [List.flatten_cons, List.nodup_append, List.nodup_append]
    refine ⟨nodup_set (by simp) n1 (fun _ _ _ _ b hb => by cases hb), ⟨nodup_get n1 e2, n2, fun a ha b hb => n3 a (flat_get e2 ha) b hb⟩, fun a ha b hb z => ?_⟩
    subst z
    obtain ⟨k1, k2⟩ := sl a ha
    rcases List.mem_append.mp hb with hb | hb
    · exact k2 hb
    · exact n3 a k1 a hb rfl
  · simp only [List.flatten_cons, List.mem_append] at hb ⊢
    rcases hb with hb | hb | hb
    · exact .inl (sl b hb).1
    · exact .inl (flat_get e2 hb)
    · exact .inr hb
/-- a temporary is stored to a slot (the slot's value is v from then on) -/
theorem Sep.store (s : Sep K F R H σ ε ((v, c) :: T)) (i : Nat) : Sep K F R H (σ.set i (some v)) (ε.set i c) T := by
  obtain ⟨a1, a2, a3, ⟨fs, gs, h1, ⟨o, r, f, fr, e1, e2, h2, h3⟩, n, m⟩⟩ := s
  subst e2
  obtain ⟨rfl, rfl⟩ := List.cons.inj e1
  have h1' := RpCs.set h2 i h1
  rw [List.flatten_cons, List.nodup_append, List.nodup_append] at n
  obtain ⟨n1, ⟨n2, n4, n5⟩, n3⟩ := n
  refine ⟨a1, a2, a3, fs.set i f, fr, h1', h3, ?_, fun b hb => m b ?_⟩
  · rw [List.nodup_append]
    refine ⟨nodup_set n2 n1 fun j g hj hg b hb hg2 => n3 b (flat_get hg hg2) b (List.mem_append_left _ hb) rfl, n4, fun a ha b hb z => ?_⟩
    subst z
    rcases flat_set ha with ha | ⟨j, g, hj, hg, ha⟩
    · exact n5 a ha a hb rfl
    · exact n3 a (flat_get hg ha) a (List.mem_append_right _ hb) rfl
  · simp only [List.flatten_cons, List.mem_append] at hb ⊢
    rcases hb with hb | hb
    · rcases flat_set hb with hb | ⟨j, g, hj, hg, hb⟩
      · exact .inr (.inl hb)
      · exact .inl (flat_get hg hb)
    · exact .inr (.inr hb)
theorem set_same {α : Type} {xs : List α} {i : Nat} {x : α} (h : xs[i]? = some x) : xs.set i x = xs := by
  apply List.ext_getElem?
  intro j
  by_cases e : j = i
  · subst e
    rw [List.getElem?_set_self (List.getElem?_eq_some_iff.mp h).1, h]
  · rw [List.getElem?_set_ne (Ne.symm e)]
/-- .. where the slot's value is v already -/
theorem Sep.put (s : Sep K F R H σ ε ((v, c) :: T)) (hv : σ[i]? = some (some v)) : Sep K F R H σ (ε.set i c) T := by
  have := s.store i
  rwa [set_same hv] at this
theorem Sep.copy (s : Sep K F R H σ ε T) (h : ε[i]? = some (.sh d)) (hv : σ[i]? = some (some v)) : Sep K F R H σ ε ((v, .sh d) :: T) := by
  obtain ⟨w, e, r⟩ := s.sh h
  rw [hv] at e
  cases e
  exact s.addSh r
theorem Sep.repT (s : Sep K F R H σ ε ((v, .sh d) :: T)) : Rep K.1 F v d := by
  obtain ⟨a1, a2, a3, ⟨fs, gs, h1, ⟨o, r, f, fr, e1, e2, ⟨_, w, e3, h2⟩, h3⟩, n, m⟩⟩ := s
  obtain ⟨rfl, rfl⟩ := List.cons.inj e1
  cases e3
  exact h2
theorem Sep.headT (s : Sep K F R H σ ε ((v, c) :: T)) : ∃ f, RpC K F H (some v) c f ∧ ∀ b ∈ f, F b = none ∧ R b = none := by
  obtain ⟨a1, a2, a3, ⟨fs, gs, h1, ⟨o, r, f, fr, e1, e2, h2, h3⟩, n, m⟩⟩ := s
  obtain ⟨rfl, rfl⟩ := List.cons.inj e1
  exact ⟨f, h2, fun b hb => m b (by rw [e2]; simp [hb])⟩
/-- a temporary waits aside while all else goes on -/
theorem Sep.hide (s : Sep K F R H σ ε ((v, c) :: T)) : ∃ R1, Same R R1 ∧ Sep K F R1 H σ ε T ∧ ∀ F' H' σ' ε' T', Same F F' → Sep K F' R1 H' σ' ε' T' → Sep K F' R H' σ' ε' ((v, c) :: T') := by
  obtain ⟨a1, a2, a3, ⟨fs, gs, h1, ⟨o, r, f, fr, e1, e2, h2, h3⟩, n, m⟩⟩ := s
  subst e2
  obtain ⟨rfl, rfl⟩ := List.cons.inj e1
  let R1 : Hp := fun b => if b ∈ f then H b else R b
  have i1 : ∀ {b}, b ∈ f → R1 b = H b := fun {b} hb => if_pos hb
  have i2 : ∀ {b}, b ∉ f → R1 b = R b := fun {b} hb => if_neg hb
  have fin : ∀ b, b ∈ f → F b = none ∧ R b = none := fun b hb => m b (by simp [hb])
  have lv := RpC.live h2
  have sR : Same R R1 := fun b u e => by
    rw [i2 fun z => by rw [(fin b z).2] at e; cases e]; exact e
  rw [List.flatten_cons, List.nodup_append, List.nodup_append] at n
  obtain ⟨n1, ⟨n2, n4, n5⟩, n3⟩ := n
  refine ⟨R1, sR, ⟨a1, fun b u e => ?_, fun b hb => ?_, fs, fr, h1, h3, ?_, fun b hb => ?_⟩, fun F' H' σ' ε' T' fm s' => ?_⟩
  · by_cases q : b ∈ f
    · rw [i1 q] at e; exact e
    · rw [i2 q] at e; exact a2 b u e
  · rw [i2 fun z => hb (fin b z).1]; exact a3 b hb
  · rw [List.nodup_append]
    exact ⟨n1, n4, fun a ha b hb => n3 a ha b (List.mem_append_right _ hb)⟩
  · have q : b ∉ f := fun z => by
      rcases List.mem_append.mp hb with hb | hb
      · exact n3 b hb b (List.mem_append_left _ z) rfl
      · exact n5 b z b hb rfl
    rw [i2 q]
    refine m b ?_
    simp only [List.flatten_cons, List.mem_append] at hb ⊢
    rcases hb with hb | hb
    · exact .inl hb
    · exact .inr (.inr hb)
  · obtain ⟨b1, b2, b3, ⟨fs', gs', k1, k2, n', m'⟩⟩ := s'
    have live' : ∀ b, b ∈ f → R1 b ≠ none := fun b hb => by rw [i1 hb]; exact lv b hb
    have heq : ∀ b ∈ f, H' b = H b := fun b hb => by
      cases q : H b with
      | none => exact absurd q (lv b hb)
      | some u => exact b2 b u ((i1 hb).trans q)
    have fF : ∀ b ∈ f, F' b = none := fun b hb => by
      by_cases q : F' b = none
      · exact q
      · exact absurd (b3 b q) (live' b hb)
    have nf : ∀ b, b ∈ fs'.flatten ++ gs'.flatten → b ∉ f := fun b hb z => live' b z (m' b hb).2
    refine ⟨b1, fun b u e => b2 b u (sR b u e), fun b hb => ?_, fs', f :: gs', k1, ⟨_, _, _, _, rfl, rfl, RpC.frame fm heq h2, k2⟩, ?_, fun b hb => ?_⟩
    · have z := b3 b hb
      cases q : R b with
      | none => rfl
      | some u => rw [sR b u q] at z; cases z
    · rw [List.flatten_cons]
      rw [List.nodup_append] at n' ⊢
      rw [List.nodup_append]
      refine ⟨n'.1, ⟨n2, n'.2.1, fun a ha b hb z => nf b (List.mem_append_right _ hb) (z ▸ ha)⟩, fun a ha b hb z => ?_⟩
      rcases List.mem_append.mp hb with hb | hb
      · exact nf a (List.mem_append_left _ ha) (z ▸ hb)
      · exact n'.2.2 a ha b hb z
    · simp only [List.flatten_cons, List.mem_append] at hb
      rcases hb with hb | hb | hb
      · obtain ⟨z1, z2⟩ := m' b (List.mem_append_left _ hb)
        rw [i2 (nf b (List.mem_append_left _ hb))] at z2
        exact ⟨z1, z2⟩
      · exact ⟨fF b hb, (fin b hb).2⟩
      · obtain ⟨z1, z2⟩ := m' b (List.mem_append_right _ hb)
        rw [i2 (nf b (List.mem_append_right _ hb))] at z2
        exact ⟨z1, z2⟩
/-- the slots wait aside: the temporaries are a frame of their own -/
theorem Sep.enter (s : Sep K F R H σ ε T) : ∃ R1, Sep K F R1 H (T.map fun p => some p.1) (T.map (·.2)) [] ∧ ∀ F' H' cs' T', Same F F' → Sep K F' R1 H' (T.map fun p => some p.1) cs' T' → Sep K F' R H' σ ε ((T.map (·.1)).zip cs' ++ T') := by
  obtain ⟨a1, a2, a3, ⟨fs, gs, h1, h2, n, m⟩⟩ := s
  let f := fs.flatten
  let R1 : Hp := fun b => if b ∈ f then H b else R b
  have i1 : ∀ {b}, b ∈ f → R1 b = H b := fun {b} hb => if_pos hb
  have i2 : ∀ {b}, b ∉ f → R1 b = R b := fun {b} hb => if_neg hb
  have fin : ∀ b, b ∈ f → F b = none ∧ R b = none := fun b hb => m b (List.mem_append_left _ hb)
  have lv := RpCs.live h1
  have sR : Same R R1 := fun b u e => by
    rw [i2 fun z => by rw [(fin b z).2] at e; cases e]; exact e
  rw [List.nodup_append] at n
  obtain ⟨n1, n2, n3⟩ := n
  refine ⟨R1, ⟨a1, fun b u e => ?_, fun b hb => ?_, gs, [], h2, ⟨rfl, rfl⟩, by simpa using n2, fun b hb => ?_⟩, fun F' H' cs' T' fm s' => ?_⟩
  · by_cases q : b ∈ f
    · rw [i1 q] at e; exact e
    · rw [i2 q] at e; exact a2 b u e
  · rw [i2 fun z => hb (fin b z).1]; exact a3 b hb
  · have hb : b ∈ gs.flatten := by simpa using hb
    rw [i2 fun z => n3 b z b hb rfl]
    exact m b (List.mem_append_right _ hb)
  · obtain ⟨b1, b2, b3, ⟨fs', gs', k1, k2, n', m'⟩⟩ := s'
    have live' : ∀ b, b ∈ f → R1 b ≠ none := fun b hb => by rw [i1 hb]; exact lv b hb
    have heq : ∀ b ∈ fs.flatten, H' b = H b := fun b hb => by
      cases q : H b with
      | none => exact absurd q (lv b hb)
      | some u => exact b2 b u ((i1 hb).trans q)
    have fF : ∀ b ∈ f, F' b = none := fun b hb => by
      by_cases q : F' b = none
      · exact q
      · exact absurd (b3 b q) (live' b hb)
    have nf : ∀ b, b ∈ fs'.flatten ++ gs'.flatten → b ∉ f := fun b hb z => live' b z (m' b hb).2
    have lc : (T.map (·.1)).length = cs'.length := by
      have := k1.len.1
      simpa using this
    have ez1 : ((T.map (·.1)).zip cs').map (fun p => some p.1) = T.map fun p => some p.1 := by
      rw [show (fun p : V × C => some p.1) = (fun x => some x) ∘ (fun p : V × C => p.1) from rfl, ← List.map_map, List.map_fst_zip (by omega), List.map_map]
    have ez2 : ((T.map (·.1)).zip cs').map (·.2) = cs' := List.map_snd_zip (by omega)
    refine ⟨b1, fun b u e => b2 b u (sR b u e), fun b hb => ?_, fs, fs' ++ gs', RpCs.frame fm heq h1, ?_, ?_, fun b hb => ?_⟩
    · have z := b3 b hb
      cases q : R b with
      | none => rfl
      | some u => rw [sR b u q] at z; cases z
    · rw [List.map_append, List.map_append, ez1, ez2]
      exact k1.append k2
    · rw [List.flatten_append, List.nodup_append]
      exact ⟨n1, n', fun a ha b hb z => nf b hb (z ▸ ha)⟩
    · rw [List.flatten_append] at hb
      rcases List.mem_append.mp hb with hb | hb
      · exact ⟨fF b hb, (fin b hb).2⟩
      · obtain ⟨z1, z2⟩ := m' b hb
        rw [i2 (nf b hb)] at z2
        exact ⟨z1, z2⟩
end
end L2.M
namespace L2.M
open PySem PySem.Spec PyProof.Rows
def cD : C → Option D
  | .sh d => some d
  | .ls ds => some (.list ds)
  | _ => none
/-- a result of an operation, read where it came to -/
def RepC (K : PySem.W.Frag) (F H : Hp) (v : V) : C → Prop
  | .sh d => Rep K F v d
  | .ls ds => ∃ a vs, v = .ref a ∧ H a = some (.lst vs) ∧ F a = none ∧ Reps K F vs ds
  | _ => False
/-- what a pure operation leaves -/
structure Grow (K : PySem.W.Frag) (F H F' H' : Hp) (v : V) (c : C) : Prop where
  fm : Same F F'
  hm : Same H H'
  sub : Same F' H'
  ff : ∀ b, F b = none → F' b ≠ none → H b = none
  rep : RepC K F' H' v c
  new : ∀ (ds : List D) (a : Addr), c = .ls ds → v = .ref a → H a = none
/-- a heap that grew -/
structure Grw (F H F' H' : Hp) : Prop where
  fm : Same F F'
  hm : Same H H'
  sub : Same F' H'
  ff : ∀ b, F b = none → F' b ≠ none → H b = none
theorem Grow.grw {K : PySem.W.Frag} {F H F' H' : Hp} {v : V} {c : C} (g : Grow K F H F' H' v c) : Grw F H F' H' := ⟨g.fm, g.hm, g.sub, g.ff⟩
theorem Grw.refl {F H : Hp} (s : Same F H) : Grw F H F H := ⟨Same.refl F, Same.refl H, s, fun b h h' => absurd h h'⟩
theorem Grw.laid {F H : Hp} (s : Same F H) {p : Addr} {u : HO} (hp : H p = none) : Grw F H (upd F p u) (upd H p u) := by
  have fp : F p = none := s.free hp
  refine ⟨fun b x e => by rw [upd_ne (ne_of_none e fp)]; exact e, fun b x e => by rw [upd_ne (ne_of_none e hp)]; exact e, fun b x e => ?_, fun b h h' => ?_⟩
  · by_cases hb : b = p
    · subst hb; rw [upd_same] at e ⊢; exact e
    · rw [upd_ne hb] at e ⊢; exact s b x e
  · by_cases hb : b = p
    · subst hb; exact hp
    · rw [upd_ne hb] at h'; exact absurd h h'
section
variable {K : Ek} {F R H F' R' H' : Hp} {σ σ' : St} {ε ε' : Cs} {T T' T1 : Tms} {v w : V} {c c' : C} {i : Nat} {d : D}
theorem Sep.grow (s : Sep K F R H σ ε T) (g : Grw F H F' H') : Sep K F' R H' σ ε T := by
  obtain ⟨a1, a2, a3, ⟨fs, gs, h1, h2, n, m⟩⟩ := s
  have l1 := RpCs.live h1
  have l2 := RpCs.live h2
  have eq : ∀ b, H b ≠ none → H' b = H b := fun b hb => by
    cases q : H b with
    | none => exact absurd q hb
    | some u => exact g.hm b u q
  refine ⟨g.sub, a2.trans g.hm, fun b hb => ?_, fs, gs, RpCs.frame g.fm (fun b hb => eq b (l1 b hb)) h1, RpCs.frame g.fm (fun b hb => eq b (l2 b hb)) h2, n, fun b hb => ⟨?_, (m b hb).2⟩⟩
  · by_cases q : F b = none
    · exact a2.free (g.ff b q hb)
    · exact a3 b q
  · by_cases q : F' b = none
    · exact q
    · have z := g.ff b (m b hb).1 q
      rcases List.mem_append.mp hb with hb | hb
      · exact absurd z (l1 b hb)
      · exact absurd z (l2 b hb)
/-- what some temporaries hold, and what they may become -/
theorem Sep.opens (s : Sep K F R H σ ε (T1 ++ T)) : ∃ gs, RpCs K F H (T1.map fun p => some p.1) (T1.map (·.2)) gs ∧ gs.flatten.Nodup ∧ (∀ b ∈ gs.flatten, F b = none) ∧
    ∀ v c H' f, RpC K F H' (some v) c f → f.Nodup → (∀ b ∈ f, b ∈ gs.flatten ∨ H b = none) → (∀ b u, b ∉ gs.flatten → H b = some u → H' b = some u) → Sep K F R H' σ ε ((v, c) :: T) := by
  obtain ⟨a1, a2, a3, ⟨fs, gs, h1, h2, n, m⟩⟩ := s
  have split : ∀ (T1 : Tms) {gs : List (List Addr)}, RpCs K F H ((T1 ++ T).map fun p => some p.1) ((T1 ++ T).map (·.2)) gs → ∃ g1 g2, gs = g1 ++ g2 ∧ RpCs K F H (T1.map fun p => some p.1) (T1.map (·.2)) g1 ∧ RpCs K F H (T.map fun p => some p.1) (T.map (·.2)) g2 := by
    intro T1
    induction T1 with
    | nil => intro gs h; exact ⟨[], gs, rfl, ⟨rfl, rfl⟩, h⟩
    | cons x T1 ih =>
      intro gs h
      obtain ⟨o, r, f, fr, e1, e2, h3, h4⟩ := h
      obtain ⟨rfl, rfl⟩ := List.cons.inj e1
      obtain ⟨g1, g2, e3, h5, h6⟩ := ih h4
      exact ⟨f :: g1, g2, by rw [e2, e3]; rfl, ⟨_, _, _, _, rfl, rfl, h3, h5⟩, h6⟩
  obtain ⟨g1, g2, rfl, h3, h4⟩ := split T1 h2
  rw [List.flatten_append] at n m
  rw [List.nodup_append, List.nodup_append] at n
  obtain ⟨n1, ⟨n2, n4, n5⟩, n3⟩ := n
  refine ⟨g1, h3, n2, fun b hb => (m b (by simp [List.mem_append, hb])).1, fun v c H' f k1 k2 k3 k4 => ?_⟩
  have l1 := RpCs.live h1
  have l4 := RpCs.live h4
  have eq1 : ∀ b ∈ fs.flatten, H' b = H b := fun b hb => by
    cases q : H b with
    | none => exact absurd q (l1 b hb)
    | some u => exact k4 b u (fun z => n3 b hb b (List.mem_append_left _ z) rfl) q
  have eq2 : ∀ b ∈ g2.flatten, H' b = H b := fun b hb => by
    cases q : H b with
    | none => exact absurd q (l4 b hb)
    | some u => exact k4 b u (fun z => n5 b z b hb rfl) q
  have fin : ∀ b ∈ g1.flatten, F b = none ∧ R b = none := fun b hb => m b (by simp [List.mem_append, hb])
  refine ⟨fun b u e => k4 b u (fun z => by rw [(fin b z).1] at e; cases e) (a1 b u e), fun b u e => k4 b u (fun z => by rw [(fin b z).2] at e; cases e) (a2 b u e), a3, fs, f :: g2, RpCs.frame (Same.refl F) eq1 h1,
    ⟨_, _, _, _, rfl, rfl, k1, RpCs.frame (Same.refl F) eq2 h4⟩, ?_, fun b hb => ?_⟩
  · rw [List.flatten_cons, List.nodup_append, List.nodup_append]
    refine ⟨n1, ⟨k2, n4, fun a ha b hb z => ?_⟩, fun a ha b hb z => ?_⟩
    · subst z
      rcases k3 a ha with q | q
      · exact n5 a q a hb rfl
      · exact l4 a hb q
    · subst z
      rcases List.mem_append.mp hb with hb | hb
      · rcases k3 a hb with q | q
        · exact n3 a ha a (List.mem_append_left _ q) rfl
        · exact l1 a ha q
      · exact n3 a ha a (List.mem_append_right _ hb) rfl
  · simp only [List.flatten_cons, List.mem_append] at hb
    rcases hb with hb | hb | hb
    · exact m b (List.mem_append_left _ hb)
    · rcases k3 b hb with q | q
      · exact fin b q
      · exact ⟨a1.free q, a2.free q⟩
    · exact m b (List.mem_append_right _ (List.mem_append_right _ hb))
/-- some temporaries become one thing -/
theorem Sep.change (s : Sep K F R H σ ε (T1 ++ T)) (k : ∀ gs, RpCs K F H (T1.map fun p => some p.1) (T1.map (·.2)) gs → gs.flatten.Nodup → (∀ b ∈ gs.flatten, F b = none) → ∃ f, RpC K F H' (some v) c f ∧ f.Nodup ∧ (∀ b ∈ f, b ∈ gs.flatten ∨ H b = none) ∧ ∀ b u, b ∉ gs.flatten → H b = some u → H' b = some u) :
    Sep K F R H' σ ε ((v, c) :: T) := by
  obtain ⟨gs, g1, g2, g3, g4⟩ := s.opens
  obtain ⟨f, k1, k2, k3, k4⟩ := k gs g1 g2 g3
  exact g4 _ _ _ f k1 k2 k3 k4
/-- a new list -/
theorem Sep.newL (s : Sep K F R H σ ε T) {p : Addr} {vs : List V} {ds : List D} (hp : H p = none) (r : Reps K.1 F vs ds) : Sep K F R (upd H p (.lst vs)) σ ε ((.ref p, .ls ds) :: T) :=
  Sep.change (T1 := []) s fun gs h n _ => ⟨[p], ⟨p, vs, rfl, rfl, upd_same, r⟩, by simp, fun b hb => .inr (by rw [List.mem_singleton.mp hb]; exact hp), fun b u _ e => by rw [upd_ne (ne_of_none e hp)]; exact e⟩
theorem Sep.newF (s : Sep K F R H σ ε T) {p : Addr} {u : HO} (hp : H p = none) : Sep K (upd F p u) R (upd H p u) σ ε T := s.grow (Grw.laid s.sub hp)
theorem Sep.hd {a : Addr} {ds : List D} (s : Sep K F R H σ ε ((.ref a, .ls ds) :: T)) : ∃ vs, H a = some (.lst vs) ∧ Reps K.1 F vs ds ∧ F a = none := by
  obtain ⟨f, ⟨b, vs, e1, e2, e3, e4⟩, m⟩ := s.headT
  cases e1
  exact ⟨vs, e3, e4, (m a (by rw [e2]; exact List.mem_cons_self)).1⟩
theorem Sep.hdL {ds : List D} (s : Sep K F R H σ ε ((v, .ls ds) :: T)) : ∃ a vs, v = .ref a ∧ H a = some (.lst vs) ∧ F a = none ∧ Reps K.1 F vs ds := by
  obtain ⟨f, ⟨b, vs, e1, e2, e3, e4⟩, m⟩ := s.headT
  cases e1
  exact ⟨b, vs, rfl, e3, (m b (by rw [e2]; exact List.mem_cons_self)).1, e4⟩
/-- an own list rewritten -/
theorem Sep.wr {a : Addr} {ds es : List D} {ws : List V} (s : Sep K F R H σ ε ((.ref a, .ls ds) :: T)) (r : Reps K.1 F ws es) : Sep K F R (upd H a (.lst ws)) σ ε ((.ref a, .ls es) :: T) :=
  Sep.change (T1 := [(.ref a, .ls ds)]) s fun gs h n _ => by
    obtain ⟨o, r0, f, fr, e1, e2, ⟨b, vs, e3, e4, e5, e6⟩, h4⟩ := h
    obtain ⟨rfl, rfl⟩ := List.cons.inj e1
    cases e3
    have ha : a ∈ gs.flatten := by rw [e2, e4]; simp
    exact ⟨[a], ⟨a, ws, rfl, rfl, upd_same, r⟩, by simp, fun b hb => .inl (by rw [List.mem_singleton.mp hb]; exact ha), fun b u hb e => by rw [upd_ne (by rintro rfl; exact hb ha)]; exact e⟩
/-- what is held becomes frozen -/
theorem Sep.freeze (s : Sep K F R H σ ε ((v, c) :: T)) (h : cD c = some d) : ∃ F', Same F F' ∧ Rep K.1 F' v d ∧ Sep K F' R H σ ε T := by
  obtain ⟨a1, a2, a3, ⟨fs, gs, h1, ⟨o, r, f, fr, e1, e2, h2, h3⟩, n, m⟩⟩ := s
  subst e2
  obtain ⟨rfl, rfl⟩ := List.cons.inj e1
  let F' : Hp := fun b => if b ∈ f then H b else F b
  have i1 : ∀ {b}, b ∈ f → F' b = H b := fun {b} hb => if_pos hb
  have i2 : ∀ {b}, b ∉ f → F' b = F b := fun {b} hb => if_neg hb
  have fin : ∀ b, b ∈ f → F b = none ∧ R b = none := fun b hb => m b (by simp [hb])
  have fm : Same F F' := fun b u e => by
    rw [i2 fun z => by rw [(fin b z).1] at e; cases e]; exact e
  rw [List.flatten_cons, List.nodup_append, List.nodup_append] at n
  obtain ⟨n1, ⟨n2, n4, n5⟩, n3⟩ := n
  refine ⟨F', fm, ?_, ⟨fun b u e => ?_, a2, fun b hb => ?_, fs, fr, RpCs.frame fm (fun _ _ => rfl) h1, RpCs.frame fm (fun _ _ => rfl) h3, ?_, fun b hb => ?_⟩⟩
  · cases c with
    | no => cases h
    | sh d' =>
      cases h
      obtain ⟨_, w, e, q⟩ := h2
      cases e
      exact Rep.mono fm _ _ q
    | ls ds =>
      cases h
      obtain ⟨a, vs, e, e3, e4, e5⟩ := h2
      cases e
      exact ⟨a, vs, rfl, .inl (.inl ((i1 (by rw [e3]; exact List.mem_cons_self)).trans e4)), Reps.mono fm _ _ e5⟩
    | dc k kds => cases h
    | ob k cs => cases h
    | px _ _ _ _ => cases h
    | fn _ => cases h
    | fd _ => cases h
    | fk _ => cases h
  · by_cases q : b ∈ f
    · rw [i1 q] at e; exact e
    · rw [i2 q] at e; exact a1 b u e
  · by_cases q : b ∈ f
    · exact (fin b q).2
    · rw [i2 q] at hb; exact a3 b hb
  · rw [List.nodup_append]
    exact ⟨n1, n4, fun a ha b hb => n3 a ha b (List.mem_append_right _ hb)⟩
  · have q : b ∉ f := fun z => by
      rcases List.mem_append.mp hb with hb | hb
      · exact n3 b hb b (List.mem_append_left _ z) rfl
      · exact n5 b z b hb rfl
    rw [i2 q]
    refine m b ?_
    simp only [List.flatten_cons, List.mem_append] at hb ⊢
    rcases hb with hb | hb
    · exact .inl hb
    · exact .inr (.inr hb)
/-- a slot's cell frozen -/
theorem Sep.freezeAt (s : Sep K F R H σ ε T) (h : ε[i]? = some c) (hd : cD c = some d) : ∃ F' v, Same F F' ∧ σ[i]? = some (some v) ∧ Rep K.1 F' v d ∧ Sep K F' R H σ (ε.set i (.sh d)) T := by
  obtain ⟨v, hv⟩ := s.val h (by rintro rfl; cases hd)
  obtain ⟨F', fm, r, s'⟩ := (s.take h hv).freeze hd
  have := (s'.addSh r).put hv
  rw [List.set_set] at this
  exact ⟨F', v, fm, hv, r, this⟩
/-- a pure operation's result is held -/
theorem Sep.res (s : Sep K F R H σ ε T) (g : Grow K.1 F H F' H' v c) : Sep K F' R H' σ ε ((v, c) :: T) := by
  have s' := s.grow g.grw
  cases c with
  | no => exact g.rep.elim
  | sh d => exact s'.addSh g.rep
  | ls ds =>
    obtain ⟨a, vs, rfl, h1, h2, h3⟩ := g.rep
    have hn := g.new ds a rfl rfl
    -- the rest does not hold a
    obtain ⟨a1, a2, a3, ⟨fs, gs, k1, k2, n, m⟩⟩ := s
    obtain ⟨b1, b2, b3, ⟨fs', gs', k1', k2', n', m'⟩⟩ := s'
    have eq : ∀ b, H b ≠ none → H' b = H b := fun b hb => by
      cases q : H b with
      | none => exact absurd q hb
      | some u => exact g.hm b u q
    have q1 := RpCs.frame g.fm (fun b hb => eq b (RpCs.live k1 b hb)) k1
    have q2 := RpCs.frame g.fm (fun b hb => eq b (RpCs.live k2 b hb)) k2
    have na1 : a ∉ fs.flatten := fun z => RpCs.live k1 a z hn
    have na2 : a ∉ gs.flatten := fun z => RpCs.live k2 a z hn
    have fF : ∀ b, b ∈ fs.flatten ++ gs.flatten → F' b = none := fun b hb => by
      by_cases q : F' b = none
      · exact q
      · have z := g.ff b (m b hb).1 q
        rcases List.mem_append.mp hb with hb | hb
        · exact absurd z (RpCs.live k1 b hb)
        · exact absurd z (RpCs.live k2 b hb)
    refine ⟨b1, b2, b3, fs, [a] :: gs, q1, ⟨_, _, _, _, rfl, rfl, ⟨a, vs, rfl, rfl, h1, h3⟩, q2⟩, ?_, fun b hb => ?_⟩
    · rw [List.nodup_append] at n
      rw [List.flatten_cons, List.nodup_append, List.nodup_append]
      refine ⟨n.1, ⟨by simp, n.2.1, fun x hx y hy z => na2 (by rw [← List.mem_singleton.mp hx, z]; exact hy)⟩, fun x hx y hy z => ?_⟩
      subst z
      rcases List.mem_append.mp hy with hy | hy
      · exact na1 (by rw [← List.mem_singleton.mp hy]; exact hx)
      · exact n.2.2 x hx x hy rfl
    · simp only [List.flatten_cons, List.mem_append, List.mem_singleton] at hb
      rcases hb with hb | rfl | hb
      · exact ⟨fF b (List.mem_append_left _ hb), (m b (List.mem_append_left _ hb)).2⟩
      · exact ⟨h2, a2.free hn⟩
      · exact ⟨fF b (List.mem_append_right _ hb), (m b (List.mem_append_right _ hb)).2⟩
  | dc k kds => exact g.rep.elim
  | ob k cs => exact g.rep.elim
  | px _ _ _ _ => exact g.rep.elim
  | fn _ => exact g.rep.elim
  | fd _ => exact g.rep.elim
  | fk _ => exact g.rep.elim
end
abbrev EM := Cs → Option (C × Cs)
def tE (K : Ek) (m : EM) : TE := fun σ H Q => ∃ F R ε c ε', Sep K F R H σ ε [] ∧ m ε = some (c, ε') ∧ ∀ v F' H', Same F F' → Sep K F' R H' σ ε' [(v, c)] → Q v H'
/-- an operand: the object that a slot names (read when the operation is done), or a value of its own -/
inductive Opd where
  | pl (i : Nat) | tm (c : C)
inductive OpV (σ : St) : List V → List Opd → Prop where
  | nil : OpV σ [] []
  | pl {i : Nat} {v : V} {vs : List V} {os : List Opd} : σ[i]? = some (some v) → OpV σ vs os → OpV σ (v :: vs) (.pl i :: os)
  | tm {c : C} {v : V} {vs : List V} {os : List Opd} : OpV σ vs os → OpV σ (v :: vs) (.tm c :: os)
theorem OpV.len {σ : St} {vs : List V} {os : List Opd} (h : OpV σ vs os) : vs.length = os.length := by
  induction h with
  | nil => rfl
  | pl _ _ ih => simp [ih]
  | tm _ ih => simp [ih]
def tmO : List Opd → List V → Tms
  | .tm c :: os, v :: vs => (v, c) :: tmO os vs
  | .pl _ :: os, _ :: vs => tmO os vs
  | _, _ => []
abbrev OM := Cs → Option (Opd × Cs)
abbrev AM := Cs → Option (List Opd × Cs)
def tO (K : Ek) (m : OM) : TE := fun σ H Q => ∃ F R ε o ε', Sep K F R H σ ε [] ∧ m ε = some (o, ε') ∧ ∀ v F' H', Same F F' → OpV σ [v] [o] → Sep K F' R H' σ ε' (tmO [o] [v]) → Q v H'
def tA (K : Ek) (m : AM) : TA := fun σ H Q => ∃ F R ε os ε', Sep K F R H σ ε [] ∧ m ε = some (os, ε') ∧ ∀ vs F' H', Same F F' → OpV σ vs os → Sep K F' R H' σ ε' (tmO os vs) → Q vs H'
def mNil : AM := fun ε => some ([], ε)
def mCons (m : OM) (r : AM) : AM := fun ε => do
  let (o, ε1) ← m ε
  let (os, ε2) ← r ε1
  some (o :: os, ε2)
theorem tA_nil {K : Ek} {σ : St} {H : Hp} {Q : List V → Hp → Prop} (h : tA K mNil σ H Q) : tNil σ H Q := by
  obtain ⟨F, R, ε, os, ε', o, e, q⟩ := h
  cases e
  exact q [] F H (Same.refl F) .nil o
theorem tA_cons {K : Ek} {m : OM} {r : AM} {σ : St} {H : Hp} {Q : List V → Hp → Prop} (h : tA K (mCons m r) σ H Q) : tCons (tO K m) (tA K r) σ H Q := by
  obtain ⟨F, R, ε, os, ε', o, e, q⟩ := h
  unfold mCons at e
  cases e1 : m ε with
  | none => rw [e1] at e; cases e
  | some p =>
    obtain ⟨o1, ε1⟩ := p
    rw [e1] at e
    cases e2 : r ε1 with
    | none => simp [e2] at e
    | some p2 =>
      obtain ⟨os2, ε2⟩ := p2
      simp [e2] at e
      obtain ⟨rfl, rfl⟩ := e
      refine ⟨F, R, ε, o1, ε1, o, e1, fun v F1 H1 fm1 v1 s1 => ?_⟩
      cases v1 with
      | pl hv _ => exact ⟨F1, R, ε1, os2, ε2, s1, e2, fun vs F2 H2 fm2 v2 s2 => q (v :: vs) F2 H2 (fm1.trans fm2) (.pl hv v2) s2⟩
      | tm _ =>
        obtain ⟨R1, _, s1', back⟩ := s1.hide
        exact ⟨F1, R1, ε1, os2, ε2, s1', e2, fun vs F2 H2 fm2 v2 s2 => q (v :: vs) F2 H2 (fm1.trans fm2) (.tm v2) (back F2 H2 σ ε2 _ fm2 s2)⟩
def bor (ε : Cs) : Opd → Option D
  | .pl i => match ε[i]? with
    | some (.sh d) => some d
    | some (.ls ds) => some (.list ds)
    | _ => none
  | .tm (.sh d) => some d
  | .tm (.ls ds) => some (.list ds)
  | .tm _ => none
def bors (ε : Cs) : List Opd → Option (List D)
  | [] => some []
  | o :: os => do
    let d ← bor ε o
    let ds ← bors ε os
    some (d :: ds)
def RepB (K : PySem.W.Frag) (F H : Hp) (v : V) (d : D) : Prop := Rep K F v d ∨ ∃ a ws ds, v = .ref a ∧ d = .list ds ∧ H a = some (.lst ws) ∧ Reps K F ws ds
inductive RepBs (K : PySem.W.Frag) (F H : Hp) : List V → List D → Prop where
  | nil : RepBs K F H [] []
  | cons {v : V} {d : D} {vs : List V} {ds : List D} : RepB K F H v d → RepBs K F H vs ds → RepBs K F H (v :: vs) (d :: ds)
section
variable {K : Ek} {F R H : Hp} {σ : St} {ε : Cs} {T : Tms}
theorem Sep.repB_pl {i : Nat} {d : D} {v : V} (s : Sep K F R H σ ε T) (hv : σ[i]? = some (some v)) (e1 : bor ε (.pl i) = some d) : RepB K.1 F H v d := by
  unfold bor at e1
  cases e3 : ε[i]? with
  | none => simp [e3] at e1
  | some c =>
    cases c with
    | no => simp [e3] at e1
    | sh d' =>
      simp [e3] at e1
      subst e1
      obtain ⟨w, h1, h2⟩ := s.sh e3
      rw [hv] at h1
      cases h1
      exact .inl h2
    | ls es =>
      simp [e3] at e1
      subst e1
      obtain ⟨a, ws, h1, h2, h4⟩ := s.lst e3
      rw [hv] at h1
      cases h1
      exact .inr ⟨a, ws, es, rfl, rfl, h2, h4⟩
    | dc _ _ => simp [e3] at e1
    | ob _ _ => simp [e3] at e1
    | px _ _ _ _ => simp [e3] at e1
    | fn _ => simp [e3] at e1
    | fd _ => simp [e3] at e1
    | fk _ => simp [e3] at e1
theorem Sep.repB_tm {c : C} {d : D} {v : V} (s : Sep K F R H σ ε ((v, c) :: T)) (e1 : bor ε (.tm c) = some d) : RepB K.1 F H v d := by
  cases c with
  | no => cases e1
  | sh d' => cases e1; exact .inl s.repT
  | ls es =>
    cases e1
    obtain ⟨a, vs, rfl, h1, h2, h3⟩ := s.hdL
    exact .inr ⟨a, vs, es, rfl, rfl, h1, h3⟩
  | dc _ _ => cases e1
  | ob _ _ => cases e1
  | px _ _ _ _ => cases e1
  | fn _ => cases e1
  | fd _ => cases e1
  | fk _ => cases e1
theorem bors_ok : ∀ {os : List Opd} {vs : List V} {T : Tms} {ds : List D}, Sep K F R H σ ε (tmO os vs ++ T) → OpV σ vs os → bors ε os = some ds → RepBs K.1 F H vs ds
  | [], vs, T, ds, s, h, e => by
    cases h
    cases e
    exact .nil
  | o :: os, vs, T, ds, s, h, e => by
    unfold bors at e
    cases e1 : bor ε o with
    | none => simp [e1] at e
    | some d =>
      cases e2 : bors ε os with
      | none => simp [e1, e2] at e
      | some ds2 =>
        simp [e1, e2] at e
        subst e
        cases h with
        | pl hv h2 => exact .cons (s.repB_pl hv e1) (bors_ok s h2 e2)
        | tm h2 => exact .cons (s.repB_tm e1) (bors_ok s.drop h2 e2)
end
/-- an operation by its table: f tells its answer, r is what the hand layer asks -/
def FnB (K : PySem.W.Frag) (f : List D → Option C) (r : List V → Hp → VK → Prop) : Prop :=
  ∀ F H vs ds c Q, Same F H → RepBs K F H vs ds → f ds = some c → (∀ v F' H', Grow K F H F' H' v c → Q v H') → r vs H Q
def mOp (f : List D → Option C) (ma : AM) : EM := fun ε => do
  let (os, ε1) ← ma ε
  let ds ← bors ε1 os
  let c ← f ds
  some (c, ε1)
theorem op_sem {K : Ek} {f : List D → Option C} {r : List V → Hp → VK → Prop} (hf : FnB K.1 f r) {ma : AM} {σ : St} {H : Hp} {Q : VK} (h : tE K (mOp f ma) σ H Q) : tA K ma σ H (fun vs H' => r vs H' Q) := by
  obtain ⟨F, R, ε, c, ε', o, e, q⟩ := h
  unfold mOp at e
  cases e1 : ma ε with
  | none => simp [e1] at e
  | some p =>
    obtain ⟨os, ε1⟩ := p
    cases e2 : bors ε1 os with
    | none => simp [e1, e2] at e
    | some ds =>
      cases e3 : f ds with
      | none => simp [e1, e2, e3] at e
      | some c' =>
        simp [e1, e2, e3] at e
        obtain ⟨rfl, rfl⟩ := e
        refine ⟨F, R, ε, os, ε1, o, e1, fun vs F1 H1 fm1 v1 s1 => ?_⟩
        rw [← List.append_nil (tmO os vs)] at s1
        refine hf F1 H1 vs ds c' Q s1.sub (bors_ok s1 v1 e2) e3 fun v F2 H2 g => ?_
        exact q v F2 H2 (fm1.trans g.fm) ((s1.drops _).res g)
end L2.M
namespace L2.M
open PySem PySem.Spec PyProof.Rows
section
variable {X : Cx} {e : Expr} {t t' : TE}
theorem _root_.L2.PE.weak (h : PE X e t) (w : ∀ σ H Q, t' σ H Q → t σ H Q) : PE X e t' := ⟨fun pins s σ H Q I q => h.run pins s σ H Q I (w σ H Q q)⟩
theorem _root_.L2.PT.weak {t t' : TT} (h : PT X e t) (w : ∀ σ H Q, t' σ H Q → t σ H Q) : PT X e t' := ⟨fun pins s σ H Q I q => h.run pins s σ H Q I (w σ H Q q)⟩
theorem _root_.L2.PW.weak {t t' : TT} (h : PW X e t) (w : ∀ σ H Q, t' σ H Q → t σ H Q) : PW X e t' := ⟨fun wh pins s σ H Q I q => h.run wh pins s σ H Q I (w σ H Q q)⟩
theorem _root_.L2.PA.weak {es : List Expr} {t t' : TA} (h : PA X es t) (w : ∀ σ H Q, t' σ H Q → t σ H Q) : PA X es t' := ⟨fun pos pins s σ H Q I q => h.run pos pins s σ H Q I (w σ H Q q)⟩
end
theorem tO_mono {K : Ek} {m : OM} {σ : St} {H : Hp} {Q Q' : VK} (h : tO K m σ H Q) (w : ∀ v H', Q v H' → Q' v H') : tO K m σ H Q' := by
  obtain ⟨F, R, ε, o, ε', a, b, c⟩ := h
  exact ⟨F, R, ε, o, ε', a, b, fun v F' H' fm s r => w _ _ (c v F' H' fm s r)⟩
theorem tA_mono {K : Ek} {m : AM} {σ : St} {H : Hp} {Q Q' : List V → Hp → Prop} (h : tA K m σ H Q) (w : ∀ v H', Q v H' → Q' v H') : tA K m σ H Q' := by
  obtain ⟨F, R, ε, o, ε', a, b, c⟩ := h
  exact ⟨F, R, ε, o, ε', a, b, fun v F' H' fm s r => w _ _ (c v F' H' fm s r)⟩
def mK (d : D) : EM := fun ε => some (.sh d, ε)
theorem tE_k {K : Ek} {d : D} {v : V} (r : ∀ F, Rep K.1 F v d) {σ : St} {H : Hp} {Q : VK} (h : tE K (mK d) σ H Q) : tC v σ H Q := by
  obtain ⟨F, R, ε, c, ε', o, e, q⟩ := h
  cases e
  exact q v F H (Same.refl F) (o.addSh (r F))
section
variable {X : Cx} {pos : Pos} {j : Nat}
theorem me_int {i : Int} : PE X (.Constant (.int i) j pos) (tE X.E (mK (.int i))) := pe_int.weak fun _ _ _ => tE_k (d := .int i) (v := .int i) fun _ => by simp [Rep]
theorem me_bl {i : Bool} : PE X (.Constant (.bool i) j pos) (tE X.E (mK (.bool i))) := pe_bl.weak fun _ _ _ => tE_k (d := .bool i) (v := .bl i) fun _ => by simp [Rep]
end
def mPl (i : Nat) : OM := fun ε => match ε[i]? with
  | some (.sh _) => some (.pl i, ε)
  | some (.ls _) => some (.pl i, ε)
  | some (.dc _ _) => some (.pl i, ε)
  | some (.ob _ _) => some (.pl i, ε)
  | some (.px _ _ _ _) => some (.pl i, ε)
  | some (.fn _) => some (.pl i, ε)
  | some (.fd _) => some (.pl i, ε)
  | some (.fk _) => some (.pl i, ε)
  | _ => none
theorem mPl_eq {i : Nat} {ε ε' : Cs} {o : Opd} (h : mPl i ε = some (o, ε')) : o = .pl i ∧ ε' = ε ∧ ∃ c, ε[i]? = some c ∧ c ≠ .no := by
  unfold mPl at h
  split at h
  · rename_i hh; cases h; exact ⟨rfl, rfl, _, hh, fun z => nomatch z⟩
  · rename_i hh; cases h; exact ⟨rfl, rfl, _, hh, fun z => nomatch z⟩
  · rename_i hh; cases h; exact ⟨rfl, rfl, _, hh, fun z => nomatch z⟩
  · rename_i hh; cases h; exact ⟨rfl, rfl, _, hh, fun z => nomatch z⟩
  · rename_i hh; cases h; exact ⟨rfl, rfl, _, hh, fun z => nomatch z⟩
  · rename_i hh; cases h; exact ⟨rfl, rfl, _, hh, fun z => nomatch z⟩
  · rename_i hh; cases h; exact ⟨rfl, rfl, _, hh, fun z => nomatch z⟩
  · rename_i hh; cases h; exact ⟨rfl, rfl, _, hh, fun z => nomatch z⟩
  · cases h
theorem mo_name {X : Cx} {i : Nat} {x : Str} {pos : Pos} (h : PE X (.Name x pos) (tVar i)) : PE X (.Name x pos) (tO X.E (mPl i)) := h.weak fun σ H Q q => by
  obtain ⟨F, R, ε, o, ε', s, e, q⟩ := q
  obtain ⟨rfl, rfl, c, hc, hn⟩ := mPl_eq e
  obtain ⟨v, hv⟩ := s.val hc hn
  exact ⟨v, hv, q v F H (Same.refl F) (.pl hv .nil) s⟩
/-- a name as a value: an owned list is frozen -/
def mVar (i : Nat) : EM := fun ε => match ε[i]? with
  | some (.sh d) => some (.sh d, ε)
  | some (.ls ds) => some (.sh (.list ds), ε.set i (.sh (.list ds)))
  | _ => none
theorem Sep.frzVal {K : Ek} {F R H : Hp} {σ : St} {ε : Cs} {i : Nat} {c : C} {d : D} (s : Sep K F R H σ ε []) (h : ε[i]? = some c) (hd : cD c = some d) {Q : VK} (q : ∀ v F' H', Same F F' → Sep K F' R H' σ (ε.set i (.sh d)) [(v, .sh d)] → Q v H') : ∃ v, σ[i]? = some (some v) ∧ Q v H := by
  obtain ⟨F', v, fm, hv, r, s'⟩ := s.freezeAt h hd
  exact ⟨v, hv, q v F' H fm (s'.addSh r)⟩
theorem me_name {X : Cx} {i : Nat} {x : Str} {pos : Pos} (h : PE X (.Name x pos) (tVar i)) : PE X (.Name x pos) (tE X.E (mVar i)) := h.weak fun σ H Q q => by
  obtain ⟨F, R, ε, c, ε', s, e, q⟩ := q
  unfold mVar at e
  split at e
  · rename_i d hd
    cases e
    obtain ⟨v, h1, h2⟩ := s.sh hd
    exact ⟨v, h1, q v F H (Same.refl F) (s.addSh h2)⟩
  · rename_i ds hd
    cases e
    exact s.frzVal hd rfl q
  · cases e
def mTm (m : EM) : OM := fun ε => do
  let (c, ε1) ← m ε
  some (.tm c, ε1)
theorem tO_tm {K : Ek} {m : EM} {σ : St} {H : Hp} {Q : VK} (h : tO K (mTm m) σ H Q) : tE K m σ H Q := by
  obtain ⟨F, R, ε, o, ε', s, e, q⟩ := h
  unfold mTm at e
  cases e1 : m ε with
  | none => simp [e1] at e
  | some p =>
    obtain ⟨c, ε1⟩ := p
    simp [e1] at e
    obtain ⟨rfl, rfl⟩ := e
    exact ⟨F, R, ε, c, ε1, s, e1, fun v F' H' fm p => q v F' H' fm (.tm .nil) p⟩
theorem mo_tm {X : Cx} {e : Expr} {m : EM} (h : PE X e (tE X.E m)) : PE X e (tO X.E (mTm m)) := h.weak fun _ _ _ => tO_tm
def fzO : Opd → Cs → Option (D × Cs)
  | .pl i, ε => match ε[i]? with
    | some (.sh d) => some (d, ε)
    | some (.ls ds) => some (.list ds, ε.set i (.sh (.list ds)))
    | _ => none
  | .tm (.sh d), ε => some (d, ε)
  | .tm (.ls ds), ε => some (.list ds, ε)
  | .tm _, _ => none
def fzs : List Opd → Cs → Option (List D × Cs)
  | [], ε => some ([], ε)
  | o :: os, ε => do
    let (d, ε1) ← fzO o ε
    let (ds, ε2) ← fzs os ε1
    some (d :: ds, ε2)
section
variable {K : Ek} {F R H : Hp} {σ : St} {ε ε' : Cs} {T : Tms}
theorem fzO_pl {i : Nat} {v : V} {d : D} (s : Sep K F R H σ ε T) (hv : σ[i]? = some (some v)) (e : fzO (.pl i) ε = some (d, ε')) : ∃ F', Same F F' ∧ Rep K.1 F' v d ∧ Sep K F' R H σ ε' T := by
  have own : ∀ {c : C}, ε[i]? = some c → cD c = some d → ε' = ε.set i (.sh d) → ∃ F', Same F F' ∧ Rep K.1 F' v d ∧ Sep K F' R H σ ε' T := fun {c} h1 h2 h3 => by
    obtain ⟨F', w, fm, hw, r, s'⟩ := s.freezeAt h1 h2
    rw [hv] at hw
    cases hw
    exact ⟨F', fm, r, h3 ▸ s'⟩
  unfold fzO at e
  simp only at e
  split at e
  · rename_i d' hd
    cases e
    obtain ⟨w, h1, h2⟩ := s.sh hd
    rw [hv] at h1
    cases h1
    exact ⟨F, Same.refl F, h2, s⟩
  · rename_i ds hd
    cases e
    exact own hd rfl rfl
  · cases e
theorem fzO_tm {c : C} {v : V} {d : D} (s : Sep K F R H σ ε ((v, c) :: T)) (e : fzO (.tm c) ε = some (d, ε')) : ε' = ε ∧ ∃ F', Same F F' ∧ Rep K.1 F' v d ∧ Sep K F' R H σ ε T := by
  have h : cD c = some d ∧ ε' = ε := by
    unfold fzO at e
    split at e
    · rename_i h; cases h
    · rename_i h; cases h; cases e; exact ⟨rfl, rfl⟩
    · rename_i h; cases h; cases e; exact ⟨rfl, rfl⟩
    · cases e
  exact ⟨h.2, s.freeze h.1⟩
end
theorem fzs_ok {K : Ek} {R H : Hp} {σ : St} {T : Tms} : ∀ {os : List Opd} {vs : List V} {F : Hp} {ε ε' : Cs} {ds : List D}, Sep K F R H σ ε (tmO os vs ++ T) → OpV σ vs os → fzs os ε = some (ds, ε') → ∃ F', Same F F' ∧ Reps K.1 F' vs ds ∧ Sep K F' R H σ ε' T
  | [], vs, F, ε, ε', ds, s, h, e => by
    cases h
    cases e
    exact ⟨F, Same.refl F, rfl, s⟩
  | o :: os, vs, F, ε, ε', ds, s, h, e => by
    unfold fzs at e
    cases e1 : fzO o ε with
    | none => simp [e1] at e
    | some p =>
      obtain ⟨d, ε1⟩ := p
      cases e2 : fzs os ε1 with
      | none => simp [e1, e2] at e
      | some p2 =>
        obtain ⟨ds2, ε2⟩ := p2
        simp [e1, e2] at e
        obtain ⟨rfl, rfl⟩ := e
        cases h with
        | @pl _ v vs' _ hv h2 =>
          obtain ⟨F1, fm1, r1, s1⟩ := fzO_pl s hv e1
          obtain ⟨F2, fm2, r2, s2⟩ := fzs_ok (os := os) (vs := vs') s1 h2 e2
          exact ⟨F2, fm1.trans fm2, ⟨_, _, rfl, Rep.mono fm2 _ _ r1, r2⟩, s2⟩
        | tm h2 =>
          obtain ⟨rfl, F1, fm1, r1, s1⟩ := fzO_tm s e1
          obtain ⟨F2, fm2, r2, s2⟩ := fzs_ok s1 h2 e2
          exact ⟨F2, fm1.trans fm2, ⟨_, _, rfl, Rep.mono fm2 _ _ r1, r2⟩, s2⟩
def lend : List Opd → Cs → Option (List C × Cs)
  | [], ε => some ([], ε)
  | .pl i :: os, ε => match ε[i]? with
    | some (.sh d) => do
      let (cs, ε1) ← lend os ε
      some (.sh d :: cs, ε1)
    | some .no => none
    | none => none
    | some c => do
      let (cs, ε1) ← lend os (ε.set i .no)
      some (c :: cs, ε1)
  | .tm c :: os, ε => do
    let (cs, ε1) ← lend os ε
    some (c :: cs, ε1)
theorem lend_ok {K : Ek} {F H : Hp} {σ : St} {T : Tms} : ∀ {os : List Opd} {vs : List V} {R : Hp} {ε ε' : Cs} {cs : List C}, Sep K F R H σ ε (tmO os vs ++ T) → OpV σ vs os → lend os ε = some (cs, ε') → Sep K F R H σ ε' (vs.zip cs ++ T) ∧ cs.length = os.length
  | [], vs, R, ε, ε', cs, s, h, e => by
    cases h
    cases e
    exact ⟨s, rfl⟩
  | .tm c :: os, vs, R, ε, ε', cs, s, h, e => by
    unfold lend at e
    cases e2 : lend os ε with
    | none => simp [e2] at e
    | some p =>
      obtain ⟨cs2, ε2⟩ := p
      simp [e2] at e
      obtain ⟨rfl, rfl⟩ := e
      cases h with
      | tm h2 =>
        obtain ⟨R1, _, s1, back⟩ := s.hide
        obtain ⟨s2, l2⟩ := lend_ok s1 h2 e2
        exact ⟨back F H σ ε2 _ (Same.refl F) s2, by simp [l2]⟩
  | .pl i :: os, vs, R, ε, ε', cs, s, h, e => by
    cases h with
    | @pl _ v vs' _ hv h2 =>
      have fin : ∀ {c : C} {ε1 : Cs}, Sep K F R H σ ε1 ((v, c) :: (tmO os vs' ++ T)) → (do let (cs, ε2) ← lend os ε1; some (c :: cs, ε2)) = some (cs, ε') → Sep K F R H σ ε' ((v :: vs').zip cs ++ T) ∧ cs.length = (Opd.pl i :: os).length := fun {c ε1} s1 e => by
        cases e2 : lend os ε1 with
        | none => simp [e2] at e
        | some p =>
          obtain ⟨cs2, ε2⟩ := p
          simp [e2] at e
          obtain ⟨rfl, rfl⟩ := e
          obtain ⟨R1, _, s2, back⟩ := s1.hide
          obtain ⟨s3, l3⟩ := lend_ok s2 h2 e2
          exact ⟨back F H σ ε2 _ (Same.refl F) s3, by simp [l3]⟩
      unfold lend at e
      cases hc : ε[i]? with
      | none => simp [hc] at e
      | some c =>
        cases c with
        | no => simp [hc] at e
        | sh d => exact fin (s.copy hc hv) (by simpa [hc] using e)
        | ls ds => exact fin (s.take hc hv) (by simpa [hc] using e)
        | dc k ds => exact fin (s.take hc hv) (by simpa [hc] using e)
        | ob k ds => exact fin (s.take hc hv) (by simpa [hc] using e)
        | px _ _ _ _ => exact fin (s.take hc hv) (by simpa [hc] using e)
        | fn _ => exact fin (s.take hc hv) (by simpa [hc] using e)
        | fd _ => exact fin (s.take hc hv) (by simpa [hc] using e)
        | fk _ => exact fin (s.take hc hv) (by simpa [hc] using e)
def tTupH (t : TA) : TE := fun σ H Q => t σ H fun xs H1 => xs.length ≤ sizeLine ∧ ∀ (p : Addr) (o : Obj), o.dict = none → H1 p = none → Q (.ref p) (upd H1 p (.frz o (.tup xs)))
/-- a tuple is laid, known to have no dict -/
theorem pe_tupH {X : Cx} {es : List Expr} {t : TA} {x1 : Nat} {pos : Pos} (h : PA X es t) : PE X (.Tuple es x1 pos) (tTupH t) := by
  refine ⟨fun pins s σ H Q I hq => ?_⟩
  refine wpAny_Tuple_spliced (thn (h.run pos pins s σ H _ I hq) fun us s1 ⟨xs, H1, I1, r, z, q⟩ => ⟨by rw [← r.length]; exact z, ?_⟩)
  have hf : H1 s1.heap.objs.size = none := I1.hok.fresh (Nat.le_refl _)
  refine ⟨.ref s1.heap.objs.size, upd H1 s1.heap.objs.size (.frz { cls := .type "tuple", data := .seq us.toArray } (.tup xs)), I1.laid (t' := s1.toks) (fun b u e => Heap.get?_push_of_some _ e) (Nat.le_refl _) ?_, rfl, q _ _ rfl hf⟩
  exact ⟨Heap.get?_push_size _ rfl, z, us, r, IsTup.new _ _⟩
def mTup (ma : AM) : EM := fun ε => do
  let (os, ε1) ← ma ε
  let (ds, ε2) ← fzs os ε1
  if ds.length ≤ sizeLine then some (.sh (.tuple ds), ε2) else none
def mLst (ma : AM) : EM := fun ε => do
  let (os, ε1) ← ma ε
  let (ds, ε2) ← fzs os ε1
  if ds.length ≤ sizeLine then some (.ls ds, ε2) else none
/-- a list of own things -/
def mLstN (ma : AM) : EM := fun ε => do
  let (os, ε1) ← ma ε
  let (cs, ε2) ← lend os ε1
  if cs.length ≤ sizeLine then some (.ob .ls cs, ε2) else none
theorem tE_tup {K : Ek} {ma : AM} {σ : St} {H : Hp} {Q : VK} (h : tE K (mTup ma) σ H Q) : tTupH (tA K ma) σ H Q := by
  obtain ⟨F, R, ε, c, ε', s, e, q⟩ := h
  unfold mTup at e
  cases e1 : ma ε with
  | none => simp [e1] at e
  | some p =>
    obtain ⟨os, ε1⟩ := p
    cases e2 : fzs os ε1 with
    | none => simp [e1, e2] at e
    | some p2 =>
      obtain ⟨ds, ε2⟩ := p2
      simp [e1, e2] at e
      obtain ⟨hl, rfl, rfl⟩ := e
      refine ⟨F, R, ε, os, ε1, s, e1, fun vs F1 H1 fm1 v1 s1 => ?_⟩
      rw [← List.append_nil (tmO os vs)] at s1
      obtain ⟨F2, fm2, r2, s2⟩ := fzs_ok s1 v1 e2
      refine ⟨by rw [r2.length]; exact hl, fun p o ho hp => ?_⟩
      have g := Grw.laid (u := .frz o (.tup vs)) s2.sub hp
      exact q _ _ _ ((fm1.trans fm2).trans g.fm) ((s2.grow g).addSh ⟨p, vs, rfl, ⟨o, ho, upd_same⟩, Reps.mono g.fm _ _ r2⟩)
theorem tE_lst {K : Ek} {ma : AM} {σ : St} {H : Hp} {Q : VK} (h : tE K (mLst ma) σ H Q) : tLst (tA K ma) σ H Q := by
  obtain ⟨F, R, ε, c, ε', s, e, q⟩ := h
  unfold mLst at e
  cases e1 : ma ε with
  | none => simp [e1] at e
  | some p =>
    obtain ⟨os, ε1⟩ := p
    cases e2 : fzs os ε1 with
    | none => simp [e1, e2] at e
    | some p2 =>
      obtain ⟨ds, ε2⟩ := p2
      simp [e1, e2] at e
      obtain ⟨hl, rfl, rfl⟩ := e
      refine ⟨F, R, ε, os, ε1, s, e1, fun vs F1 H1 fm1 v1 s1 => ?_⟩
      rw [← List.append_nil (tmO os vs)] at s1
      obtain ⟨F2, fm2, r2, s2⟩ := fzs_ok s1 v1 e2
      refine ⟨by rw [r2.length]; exact hl, fun p hp => ?_⟩
      exact q _ _ _ (fm1.trans fm2) (s2.newL hp r2)
section
variable {X : Cx} {es : List Expr} {m : AM} {pos : Pos} {k : Nat}
theorem me_tup (h : PA X es (tA X.E m)) : PE X (.Tuple es k pos) (tE X.E (mTup m)) := (pe_tupH h).weak fun _ _ _ => tE_tup
theorem me_lst (h : PA X es (tA X.E m)) : PE X (.List es pos) (tE X.E (mLst m)) := (pe_lst h).weak fun _ _ _ => tE_lst
theorem ma_nil : PA X [] (tA X.E mNil) := pa_nil.weak fun _ _ _ => tA_nil
end
def mU (f : D → Option C) (a : OM) : EM := fun ε => do
  let (o1, ε1) ← a ε
  let d1 ← bor ε1 o1
  let c ← f d1
  some (c, ε1)
def mB (f : D → D → Option C) (a b : OM) : EM := fun ε => do
  let (o1, ε1) ← a ε
  let (o2, ε2) ← b ε1
  let d1 ← bor ε2 o1
  let d2 ← bor ε2 o2
  let c ← f d1 d2
  some (c, ε2)
def Fn2 (K : PySem.W.Frag) (f : D → D → Option C) (r : V → V → Hp → VK → Prop) : Prop :=
  ∀ F H x y d e c Q, Same F H → RepB K F H x d → RepB K F H y e → f d e = some c → (∀ v F' H', Grow K F H F' H' v c → Q v H') → r x y H Q
def lf2 (f : D → D → Option C) : List D → Option C | [a, b] => f a b | _ => none
theorem mB_eq (f : D → D → Option C) (a b : OM) : mB f a b = mOp (lf2 f) (mCons a (mCons b mNil)) := by
  funext ε
  unfold mB mOp mCons mNil
  cases a ε with
  | none => rfl
  | some p =>
    obtain ⟨o, ε1⟩ := p
    cases hb : b ε1 with
    | none => simp [hb]
    | some p2 =>
      obtain ⟨o2, ε2⟩ := p2
      simp [hb, bors]
      cases bor ε2 o <;> simp
      cases bor ε2 o2 <;> rfl
theorem RepBs.one {K : PySem.W.Frag} {F H : Hp} {vs : List V} {d : D} (h : RepBs K F H vs [d]) : ∃ x, vs = [x] ∧ RepB K F H x d := by
  cases h with
  | cons h t => cases t; exact ⟨_, rfl, h⟩
theorem RepBs.two {K : PySem.W.Frag} {F H : Hp} {vs : List V} {d e : D} (h : RepBs K F H vs [d, e]) : ∃ x y, vs = [x, y] ∧ RepB K F H x d ∧ RepB K F H y e := by
  cases h with
  | cons h t =>
    obtain ⟨y, rfl, h2⟩ := t.one
    exact ⟨_, y, rfl, h, h2⟩
theorem tE_b {K : Ek} {f : D → D → Option C} {r : R2} (hf : Fn2 K.1 f r) {a b : OM} {σ : St} {H : Hp} {Q : VK} (h : tE K (mB f a b) σ H Q) : tOp r (tO K a) (tO K b) σ H Q := by
  rw [mB_eq] at h
  have hB : FnB K.1 (lf2 f) (fun vs H Q => ∃ x y, vs = [x, y] ∧ r x y H Q) := by
    intro F H vs ds c Q s hr e q
    match ds, e with
    | [d, d2], e =>
      obtain ⟨x, y, rfl, h1, h2⟩ := hr.two
      exact ⟨x, y, rfl, hf F H x y d d2 c Q s h1 h2 e q⟩
  have := tA_cons (op_sem hB h)
  refine tO_mono this fun v H' h2 => ?_
  refine tO_mono (tA_cons h2) fun w H'' h3 => ?_
  have h4 := tA_nil h3
  obtain ⟨x, y, e, h5⟩ := h4
  cases e
  exact h5
section
variable {X : Cx} {a b : Expr} {ma mb : OM} {pos : Pos}
theorem me_bin {op : Operator} {f : D → D → Option C} {r : R2} (ho : OpR X (binaryOp op) r) (hf : Fn2 X.K f r) (ha : PE X a (tO X.E ma)) (hb : PE X b (tO X.E mb)) : PE X (.BinOp a op b pos) (tE X.E (mB f ma mb)) :=
  (pe_op ho ha hb).weak fun _ _ _ => tE_b hf
theorem me_cmp {op : CmpOp} {f : D → D → Option C} {r : R2} (ho : OpR X (compareOp op) r) (hf : Fn2 X.K f r) (ha : PE X a (tO X.E ma)) (hb : PE X b (tO X.E mb)) (hm : behindInMarks op b = false) : PE X (.Compare a [op] [b] pos) (tE X.E (mB f ma mb)) :=
  (pe_cmpR ho ha hb hm).weak fun _ _ _ => tE_b hf
theorem me_ix {f : D → D → Option C} {r : R2} (ho : IxR X r) (hf : Fn2 X.K f r) (ha : PE X a (tO X.E ma)) (hb : PE X b (tO X.E mb)) (hs : PlainIx b) : PE X (.Subscript a b pos) (tE X.E (mB f ma mb)) :=
  (pe_ix ho ha hb hs).weak fun _ _ _ => tE_b hf
end
section
variable {X : Cx} {e : Expr} {es : List Expr} {m : AM} {x : Str} {p pos : Pos} {id T : String} {r : List V → Hp → VK → Prop} {f : List D → Option C}
theorem me_callB (hc : CallR X (.builtin id) r) (hf : FnB X.K f r) (hg : Gl X x) (hm : X.mg x = none) (hv : bootBuiltins x = some (.builtin id)) (ha : PA X (e :: es) (tA X.E m)) (hn : x ≠ "__name__") (hdb : (x == ("__debug__" : Str)) = false)
    (he : starEach (e :: es) X.env = (false, eval e X.env) :: starEach es X.env) (hpl : (backTo pos (starEach es X.env)).any (·.1) = false) : PE X (.Call (.Name x p) (e :: es) [] pos) (tE X.E (mOp f m)) :=
  (pe_callB hc hg hm hv ha hn hdb he hpl).weak fun _ _ _ h => op_sem hf h
theorem me_callTy (hc : CallR X (.type T) r) (hf : FnB X.K f r) (hg : Gl X x) (hm : X.mg x = none) (hv : bootBuiltins x = some (.type T)) (ha : PA X (e :: es) (tA X.E m)) (hn : x ≠ "__name__") (hdb : (x == ("__debug__" : Str)) = false)
    (he : starEach (e :: es) X.env = (false, eval e X.env) :: starEach es X.env) (hpl : (backTo pos (starEach es X.env)).any (·.1) = false) : PE X (.Call (.Name x p) (e :: es) [] pos) (tE X.E (mOp f m)) :=
  (pe_callTy hc hg hm hv ha hn hdb he hpl).weak fun _ _ _ h => op_sem hf h
end
end L2.M
namespace L2.M
open PySem PySem.Spec PyProof.Rows
abbrev TM := Cs → Option (Bool × Cs)
def tT (K : Ek) (m : TM) : TT := fun σ H Q => ∃ F R ε b ε', Sep K F R H σ ε [] ∧ m ε = some (b, ε') ∧ ∀ F' H', Same F F' → Sep K F' R H' σ ε' [] → Q b H'
def mTst (m : EM) : TM := fun ε => match m ε with
  | some (.sh (.bool b), ε') => some (b, ε')
  | _ => none
theorem Sep.boolT {K : Ek} {F R H : Hp} {σ : St} {ε : Cs} {T : Tms} {v : V} {b : Bool} (s : Sep K F R H σ ε ((v, .sh (.bool b)) :: T)) : v = .bl b := by
  have r := s.repT
  simpa only [Rep] using r
section
variable {K : Ek} {σ : St} {H : Hp}
theorem tE_tst {m : EM} {Q : Bool → Hp → Prop} (h : tT K (mTst m) σ H Q) : tE K m σ H (fun x H' => ∃ k, x = .bl k ∧ Q k H') := by
  obtain ⟨F, R, ε, b, ε', o, e, q⟩ := h
  unfold mTst at e
  split at e
  · rename_i b' ε1 hm
    cases e
    exact ⟨F, R, ε, _, ε', o, hm, fun v F' H' fm p => ⟨b, p.boolT, q F' H' fm p.drop⟩⟩
  · cases e
end
section
variable {X : Cx} {a b e : Expr} {ma mb : OM} {m : EM} {pos : Pos} {rest : List Expr}
theorem mt_cmp {op : CmpOp} {f : D → D → Option C} {r : R2} (ho : OpR X (compareOp op) r) (hf : Fn2 X.K f r) (ha : PE X a (tO X.E ma)) (hb : PE X b (tO X.E mb)) (hm : behindInMarks op b = false) : PT X (.Compare a [op] [b] pos) (tT X.E (mTst (mB f ma mb))) :=
  (pt_cmpR ho ha hb hm).weak fun _ _ _ h => tE_b hf (tE_tst h)
def mNotT (m : TM) : TM := fun ε => do
  let (b, ε1) ← m ε
  some (!b, ε1)
def mAndT (m n : TM) : TM := fun ε => do
  let (b, ε1) ← m ε
  if b then n ε1 else some (false, ε1)
def mOrT (m n : TM) : TM := fun ε => do
  let (b, ε1) ← m ε
  if b then some (true, ε1) else n ε1
theorem tT_bind {K : Ek} {m : TM} {n : Bool → TM} {σ : St} {H : Hp} {Q : Bool → Hp → Prop} (h : tT K (fun ε => do let (b, ε1) ← m ε; n b ε1) σ H Q) : tT K m σ H fun b H1 => tT K (n b) σ H1 Q := by
  obtain ⟨F, R, ε, c, ε', o, e, q⟩ := h
  cases e1 : m ε with
  | none => simp [e1] at e
  | some p =>
    obtain ⟨b, ε1⟩ := p
    simp [e1] at e
    exact ⟨F, R, ε, b, ε1, o, e1, fun F1 H1 fm1 s1 => ⟨F1, R, ε1, c, ε', s1, e, fun F2 H2 fm2 s2 => q F2 H2 (fm1.trans fm2) s2⟩⟩
theorem tT_pure {K : Ek} {b : Bool} {σ : St} {H : Hp} {Q : Bool → Hp → Prop} (h : tT K (fun ε => some (b, ε)) σ H Q) : Q b H := by
  obtain ⟨F, R, ε, c, ε', o, e, q⟩ := h
  cases e
  exact q F H (Same.refl F) o
theorem tT_mono {K : Ek} {m : TM} {σ : St} {H : Hp} {Q Q' : Bool → Hp → Prop} (h : tT K m σ H Q) (w : ∀ v H', Q v H' → Q' v H') : tT K m σ H Q' := by
  obtain ⟨F, R, ε, o, ε', a, b, c⟩ := h
  exact ⟨F, R, ε, o, ε', a, b, fun F' H' fm s => w _ _ (c F' H' fm s)⟩
theorem mt_and {m n : TM} (h : PT X a (tT X.E m)) (g : PW X (.BoolOp .And (b :: rest) pos) (tT X.E n)) : PW X (.BoolOp .And (a :: b :: rest) pos) (tT X.E (mAndT m n)) := (pw_and h g).weak fun σ H Q q =>
  tT_mono (tT_bind (n := fun b ε => if b then n ε else some (false, ε)) q) fun b _ z => by
    cases b with
    | true => rw [if_pos rfl]; exact z
    | false => rw [if_neg Bool.false_ne_true]; exact tT_pure z
theorem mt_or {m n : TM} (h : PT X a (tT X.E m)) (g : PW X (.BoolOp .Or (b :: rest) pos) (tT X.E n)) : PW X (.BoolOp .Or (a :: b :: rest) pos) (tT X.E (mOrT m n)) := (pw_or h g).weak fun σ H Q q =>
  tT_mono (tT_bind (n := fun b ε => if b then some (true, ε) else n ε) q) fun b _ z => by
    cases b with
    | true => rw [if_pos rfl]; exact tT_pure z
    | false => rw [if_neg Bool.false_ne_true]; exact z
theorem mt_and1 {m : TM} (h : PT X a (tT X.E m)) : PW X (.BoolOp .And [a] pos) (tT X.E m) := pw_and1 h
theorem mt_or1 {m : TM} (h : PT X a (tT X.E m)) : PW X (.BoolOp .Or [a] pos) (tT X.E m) := pw_or1 h
def mNotE (m : EM) : EM := fun ε => match m ε with
  | some (.sh (.bool b), ε1) => some (.sh (.bool (!b)), ε1)
  | _ => none
def mAndE (m n : EM) : EM := fun ε => match m ε with
  | some (.sh (.bool true), ε1) => n ε1
  | some (.sh (.bool false), ε1) => some (.sh (.bool false), ε1)
  | _ => none
def mOrE (m n : EM) : EM := fun ε => match m ε with
  | some (.sh (.bool true), ε1) => some (.sh (.bool true), ε1)
  | some (.sh (.bool false), ε1) => n ε1
  | _ => none
def mIfE (t : TM) (m n : EM) : EM := fun ε => do
  let (b, ε1) ← t ε
  if b then m ε1 else n ε1
theorem me_ife {c : Expr} {t : TM} {n : EM} (hc : PT X c (tT X.E t)) (h : PE X a (tE X.E m)) (g : PE X b (tE X.E n)) : PE X (.IfExp c a b pos) (tE X.E (mIfE t m n)) := (pe_ifExp hc h g).weak fun σ H Q q => by
  obtain ⟨F, R, ε, c, ε', o, e, q⟩ := q
  unfold mIfE at e
  cases e1 : t ε with
  | none => simp [e1] at e
  | some p =>
    obtain ⟨k, ε1⟩ := p
    simp [e1] at e
    refine ⟨F, R, ε, k, ε1, o, e1, fun F1 H1 fm1 s1 => ?_⟩
    cases k with
    | true =>
      rw [if_pos rfl]
      simp at e
      exact ⟨F1, R, ε1, c, ε', s1, e, fun w F2 H2 fm2 p2 => q w F2 H2 (fm1.trans fm2) p2⟩
    | false =>
      rw [if_neg Bool.false_ne_true]
      simp at e
      exact ⟨F1, R, ε1, c, ε', s1, e, fun w F2 H2 fm2 p2 => q w F2 H2 (fm1.trans fm2) p2⟩
end
abbrev GM := List C → Option (C × List C)
def spOf (K : Ek) (np : Nat) (g : GM) : Sp := fun vs H Q _ => vs.length = np ∧ ∃ F R cs c cs', Sep K F R H (vs.map some) cs [] ∧ g cs = some (c, cs') ∧ ∀ v F' H', Same F F' → Sep K F' R H' (vs.map some) cs' [(v, c)] → Q v H'
def frz : List Bool → List Opd → Cs → Option (List Opd × Cs)
  | [], [], ε => some ([], ε)
  | true :: bs, o :: os, ε => do
    let (os', ε1) ← frz bs os ε
    some (o :: os', ε1)
  | false :: bs, o :: os, ε => do
    let (d, ε1) ← fzO o ε
    let (os', ε2) ← frz bs os ε1
    some (.tm (.sh d) :: os', ε2)
  | _, _, _ => none
def wb : List Opd → List C → Cs → Cs
  | .pl i :: os, c :: cs, ε => wb os cs (ε.set i c)
  | .tm _ :: os, _ :: cs, ε => wb os cs ε
  | _, _, ε => ε
def mCall (io : List Bool) (g : GM) (ma : AM) : EM := fun ε => do
  let (os, ε1) ← ma ε
  let (os2, ε2) ← frz io os ε1
  let (cs, ε3) ← lend os2 ε2
  let (c, cs') ← g cs
  some (c, wb os2 cs' ε3)
theorem frz_ok {K : Ek} {H : Hp} {σ : St} {T : Tms} : ∀ {bs : List Bool} {os os2 : List Opd} {vs : List V} {F R : Hp} {ε ε' : Cs}, Sep K F R H σ ε (tmO os vs ++ T) → OpV σ vs os → frz bs os ε = some (os2, ε') →
    ∃ F', Same F F' ∧ Sep K F' R H σ ε' (tmO os2 vs ++ T) ∧ OpV σ vs os2 ∧ os2.length = bs.length
  | [], [], os2, vs, F, R, ε, ε', s, h, e => by
    cases h
    cases e
    exact ⟨F, Same.refl F, s, .nil, rfl⟩
  | true :: bs, o :: os, os2, vs, F, R, ε, ε', s, h, e => by
    unfold frz at e
    cases e1 : frz bs os ε with
    | none => simp [e1] at e
    | some p =>
      obtain ⟨os', ε1⟩ := p
      simp [e1] at e
      obtain ⟨rfl, rfl⟩ := e
      cases h with
      | @pl _ v vs' _ hv h2 =>
        obtain ⟨F', fm, s', v', l'⟩ := frz_ok (os := os) (vs := vs') s h2 e1
        exact ⟨F', fm, s', .pl hv v', by simp [l']⟩
      | @tm c v vs' _ h2 =>
        obtain ⟨R1, _, s1, back⟩ := Sep.hide (T := tmO os vs' ++ T) s
        obtain ⟨F', fm, s', v', l'⟩ := frz_ok s1 h2 e1
        exact ⟨F', fm, back F' H σ ε1 _ fm s', .tm v', by simp [l']⟩
  | false :: bs, o :: os, os2, vs, F, R, ε, ε', s, h, e => by
    unfold frz at e
    cases e1 : fzO o ε with
    | none => simp [e1] at e
    | some p =>
      obtain ⟨d, ε1⟩ := p
      cases e2 : frz bs os ε1 with
      | none => simp [e1, e2] at e
      | some p2 =>
        obtain ⟨os', ε2⟩ := p2
        simp [e1, e2] at e
        obtain ⟨rfl, rfl⟩ := e
        cases h with
        | @pl _ v vs' _ hv h2 =>
          obtain ⟨F1, fm1, r1, s1⟩ := fzO_pl s hv e1
          obtain ⟨F2, fm2, s2, v2, l2⟩ := frz_ok (os := os) (vs := vs') s1 h2 e2
          exact ⟨F2, fm1.trans fm2, s2.addSh (Rep.mono fm2 _ _ r1), .tm v2, by simp [l2]⟩
        | @tm c v vs' _ h2 =>
          obtain ⟨rfl, F1, fm1, r1, s1⟩ := fzO_tm (T := tmO os vs' ++ T) s e1
          obtain ⟨F2, fm2, s2, v2, l2⟩ := frz_ok s1 h2 e2
          exact ⟨F2, fm1.trans fm2, s2.addSh (Rep.mono fm2 _ _ r1), .tm v2, by simp [l2]⟩
  | [], _ :: _, _, _, _, _, _, _, _, _, e => by simp [frz] at e
  | true :: _, [], _, _, _, _, _, _, _, _, e => by simp [frz] at e
  | false :: _, [], _, _, _, _, _, _, _, _, e => by simp [frz] at e
theorem wb_ok {K : Ek} {F R H : Hp} {σ : St} {T : Tms} : ∀ {os : List Opd} {vs : List V} {cs : List C} {ε : Cs}, Sep K F R H σ ε (vs.zip cs ++ T) → OpV σ vs os → cs.length = os.length → Sep K F R H σ (wb os cs ε) T
  | [], vs, cs, ε, s, h, l => by
    cases h
    cases cs with
    | nil => exact s
    | cons _ _ => cases l
  | o :: os, vs, [], ε, s, h, l => by cases l
  | o :: os, vs, c :: cs, ε, s, h, l => by
    cases h with
    | pl hv h2 =>
      unfold wb
      exact wb_ok (Sep.put s hv) h2 (by simpa using l)
    | tm h2 =>
      unfold wb
      exact wb_ok (Sep.drop s) h2 (by simpa using l)
theorem zip_snd {α β : Type} {xs : List α} {ys : List β} (h : ys.length = xs.length) : (xs.zip ys).map (·.2) = ys := List.map_snd_zip (by omega)
theorem zip_fst {α β : Type} {xs : List α} {ys : List β} (h : ys.length = xs.length) : (xs.zip ys).map (·.1) = xs := List.map_fst_zip (by omega)
theorem zip_fsts {β : Type} {xs : List V} {ys : List β} (h : ys.length = xs.length) : (xs.zip ys).map (fun p => some p.1) = xs.map some := by
  rw [show (fun p : V × β => some p.1) = (fun x => some x) ∘ (fun p : V × β => p.1) from rfl, ← List.map_map, zip_fst h]
/-- the callee's frame, and the way back -/
theorem call_sep {K : Ek} {F R H : Hp} {σ : St} {ε3 : Cs} {os : List Opd} {vs : List V} {cs : List C} (s : Sep K F R H σ ε3 (vs.zip cs)) (ho : OpV σ vs os) (hl : cs.length = os.length) :
    ∃ R1, Sep K F R1 H (vs.map some) cs [] ∧ ∀ F' H' cs' T', Same F F' → Sep K F' R1 H' (vs.map some) cs' T' → Sep K F' R H' σ (wb os cs' ε3) T' := by
  have lv := ho.len
  obtain ⟨R1, s1, back⟩ := s.enter
  rw [zip_fsts (by omega), zip_snd (by omega)] at s1
  refine ⟨R1, s1, fun F' H' cs' T' fm s' => ?_⟩
  have lc : cs'.length = vs.length := by have := s'.len; simp at this; omega
  have := back F' H' cs' T' fm (by rw [zip_fsts (by omega)]; exact s')
  rw [zip_fst (by omega)] at this
  exact wb_ok this ho (by omega)
theorem tE_call {K : Ek} {np : Nat} {g : GM} {io : List Bool} {ma : AM} {σ : St} {H : Hp} {Q : VK} (hio : io.length = np) (h : tE K (mCall io g ma) σ H Q) : tCall (spOf K np g) [] E0 (tA K ma) σ H Q := by
  obtain ⟨F, R, ε, c, ε', ok, e, q⟩ := h
  unfold mCall at e
  cases e1 : ma ε with
  | none => simp [e1] at e
  | some p =>
    obtain ⟨os, ε1⟩ := p
    cases e2 : frz io os ε1 with
    | none => simp [e1, e2] at e
    | some p2 =>
      obtain ⟨os2, ε2⟩ := p2
      cases e3 : lend os2 ε2 with
      | none => simp [e1, e2, e3] at e
      | some p3 =>
        obtain ⟨cs, ε3⟩ := p3
        cases e4 : g cs with
        | none => simp [e1, e2, e3, e4] at e
        | some p4 =>
          obtain ⟨c', cs'⟩ := p4
          simp [e1, e2, e3, e4] at e
          obtain ⟨rfl, rfl⟩ := e
          refine ⟨F, R, ε, os, ε1, ok, e1, fun vs F1 H1 fm1 v1 s1 => ?_⟩
          rw [← List.append_nil (tmO os vs)] at s1
          obtain ⟨F2, fm2, s2, v2, l2⟩ := frz_ok s1 v1 e2
          obtain ⟨s3, l3⟩ := lend_ok s2 v2 e3
          rw [List.append_nil] at s3
          obtain ⟨R1, s4, back⟩ := call_sep s3 v2 l3
          refine ⟨by rw [List.append_nil, v2.len, l2]; exact hio, F2, R1, cs, c', cs', by rw [List.append_nil]; exact s4, e4, fun v F' H' fm p => ?_⟩
          rw [List.append_nil] at p
          exact q v F' H' ((fm1.trans fm2).trans fm) (back F' H' cs' _ fm p)
end L2.M
namespace L2.M
open PySem PySem.Spec PyProof.Rows
section
variable {K : PySem.W.Frag} {F H : Hp} {x : V}
theorem rb_non (h : RepB K F H x .none) : x = .non := by
  rcases h with h | ⟨_, _, _, _, h, _⟩
  · simpa only [Rep] using h
  · cases h
theorem rb_bool {b : Bool} (h : RepB K F H x (.bool b)) : x = .bl b := by
  rcases h with h | ⟨_, _, _, _, h, _⟩
  · simpa only [Rep] using h
  · cases h
theorem rb_int {i : Int} (h : RepB K F H x (.int i)) : x = .int i := by
  rcases h with h | ⟨_, _, _, _, h, _⟩
  · simpa only [Rep] using h
  · cases h
theorem rb_str {i : Str} (h : RepB K F H x (.str i)) : x = .str i := by
  rcases h with h | ⟨_, _, _, _, h, _⟩
  · simpa only [Rep] using h
  · cases h
theorem rb_tup {ds : List D} (s : Same F H) (h : RepB K F H x (.tuple ds)) : ∃ a vs, x = .ref a ∧ HdT F a vs ∧ SqT K H a vs ∧ Reps K F vs ds := by
  rcases h with ⟨a, vs, h1, h2, h3⟩ | ⟨_, _, _, _, h, _⟩
  · exact ⟨a, vs, h1, h2, (h2.mono s).sq, h3⟩
  · cases h
theorem rb_lst {ds : List D} (s : Same F H) (h : RepB K F H x (.list ds)) : ∃ a vs, x = .ref a ∧ SqL K H a vs ∧ Reps K F vs ds := by
  rcases h with ⟨a, vs, h1, h2, h3⟩ | ⟨a, ws, es, h1, h2, h3, h4⟩
  · exact ⟨a, vs, h1, sameL s h2, h3⟩
  · cases h2
    exact ⟨a, ws, h1, .inl (.inl h3), h4⟩
mutual
theorem Rep.dp (s : Same F H) : ∀ (d : D) (v : V), Rep K F v d → PyData.canLay0 d = true → Dp K H v d
  | .none, v, h, _ => by simp only [Rep] at h; subst h; exact .non
  | .bool b, v, h, _ => by simp only [Rep] at h; subst h; exact .bl b
  | .int b, v, h, _ => by simp only [Rep] at h; subst h; exact .int b
  | .str b, v, h, _ => by simp only [Rep] at h; subst h; exact .str b
  | .list ds, v, ⟨a, vs, h1, h2, h3⟩, hc => by subst h1; exact .lst (sameL s h2) (Reps.dp s ds vs h3 (by simpa [PyData.canLay0] using hc))
  | .tuple ds, v, ⟨a, vs, h1, h2, h3⟩, hc => by subst h1; exact .tup (h2.mono s).sq (Reps.dp s ds vs h3 (by simpa [PyData.canLay0] using hc))
  | .dict kds, v, _, hc => by simp [PyData.canLay0] at hc
theorem Reps.dp (s : Same F H) : ∀ (ds : List D) (vs : List V), Reps K F vs ds → PyData.canLayAll0 ds = true → DpAll K H vs ds
  | [], vs, h, _ => by cases (show vs = [] from h); exact .nil
  | d :: ds, vs, ⟨v, r, h1, h2, h3⟩, hc => by
    subst h1
    simp only [PyData.canLayAll0, Bool.and_eq_true] at hc
    exact .cons (Rep.dp s d v h2 hc.1) (Reps.dp s ds r h3 hc.2)
end
theorem rb_dp {d : D} (s : Same F H) (h : RepB K F H x d) (hc : PyData.canLay0 d = true) : Dp K H x d := by
  rcases h with h | ⟨a, ws, ds, h1, h2, h3, h4⟩
  · exact Rep.dp s d x h hc
  · subst h1 h2
    exact .lst (.inl (.inl h3)) (Reps.dp s ds ws h4 (by simpa [PyData.canLay0] using hc))
end
theorem list_mulW (l : Addr) (items : Array Value) (n : Nat) (x : Int) (u : Tok) (dd : Option Addr) (sl : Array (Option Value)) (hc0 : ¬(!Builtin.List.listFitsIndex x) = true) (hc1 : ¬items.size * x.toNat > (2 ^ 63 - 1) / 8) (hc2 : ¬Builtin.List.listTooLong (items.size * x.toNat) = true) :
    Meets (Builtin.«list.__mul__» ⟨[.ref l, .int x u], []⟩) (fun _ R s => s.heap.get? l = some { cls := .type "list", dict := dd, data := .seq items n, slots := sl } ∧ R (.ok (.ret (Value.ref s.heap.objs.size))) { s with heap := s.heap.push { cls := Value.type "list", data := Data.seq (List.foldl (fun x1 x2 => x1 ++ x2) #[] (List.replicate (if items.isEmpty = true then 0 else x.toNat) items)) }, toks := s.toks }) :=
  .of_wp fun prog w A R s h => by
    obtain ⟨hp, g, d, tk, os⟩ := s; obtain ⟨hl, h⟩ := h
    have hsz := AutoListH.joined_fits hc2
    wp_walk using wpAny_loadPart' hl; refine wpAny_ite_false (decide_eq_false (Nat.not_lt.mpr hsz)) ?_; wp_walk using wpAny_loadPart' hl; exact ⟨_, rfl, h⟩
theorem int_rmulW (a : Int) (t : Tok) (l : Addr) (items : Array Value) (n : Nat) (dd : Option Addr) (sl : Array (Option Value)) :
    Meets (Builtin.«int.__rmul__» ⟨[.int a t, .ref l], []⟩) (fun _ R s => s.heap.get? l = some { cls := .type "list", dict := dd, data := .seq items n, slots := sl } ∧ R (.ok (.ret Value.notImplemented)) s) :=
  .of_wp fun prog w A R s h => by obtain ⟨hp, g, d, tk, os⟩ := s; obtain ⟨hl, h⟩ := h; wp_walk using wpAny_loadPart' hl; exact ⟨_, rfl, h⟩
section
variable {K : PySem.W.Frag} {F H : Hp} {Q : VK}
theorem gv {v : V} {d : D} (s : Same F H) (r : Rep K F v d) (q : ∀ v F' H', Grow K F H F' H' v (.sh d) → Q v H') : Q v H :=
  q v F H ⟨Same.refl F, Same.refl H, s, fun b h h' => absurd h h', r, fun _ _ z => nomatch z⟩
theorem g_int {i : Int} (s : Same F H) (q : ∀ v F' H', Grow K F H F' H' v (.sh (.int i)) → Q v H') : Q (.int i) H := gv s (by simp only [Rep]) q
theorem g_bool {i : Bool} (s : Same F H) (q : ∀ v F' H', Grow K F H F' H' v (.sh (.bool i)) → Q v H') : Q (.bl i) H := gv s (by simp only [Rep]) q
theorem g_str {i : Str} (s : Same F H) (q : ∀ v F' H', Grow K F H F' H' v (.sh (.str i)) → Q v H') : Q (.str i) H := gv s (by simp only [Rep]) q
theorem g_tup {vs : List V} {ds : List D} (s : Same F H) (r : Reps K F vs ds) (q : ∀ v F' H', Grow K F H F' H' v (.sh (.tuple ds)) → Q v H') : ∀ (p : Addr) (o : Obj), o.dict = none → H p = none → Q (.ref p) (upd H p (.frz o (.tup vs))) := fun p o ho hp => by
  have g := Grw.laid (u := .frz o (.tup vs)) s hp
  exact q (.ref p) _ _ ⟨g.fm, g.hm, g.sub, g.ff, ⟨p, vs, rfl, ⟨o, ho, upd_same⟩, Reps.mono g.fm _ _ r⟩, fun _ _ z => nomatch z⟩
theorem g_lst {vs : List V} {ds : List D} (s : Same F H) (r : Reps K F vs ds) (q : ∀ v F' H', Grow K F H F' H' v (.ls ds) → Q v H') : ∀ p, H p = none → Q (.ref p) (upd H p (.lst vs)) := fun p hp => by
  have hm : Same H (upd H p (.lst vs)) := fun b x e => by rw [upd_ne (ne_of_none e hp)]; exact e
  exact q (.ref p) F _ ⟨Same.refl F, hm, s.trans hm, fun b h h' => absurd h h', ⟨p, vs, rfl, upd_same, s.free hp, r⟩, fun ds a _ z => by cases z; exact hp⟩
end
section
variable {X : Cx}
/-- a tuple laid behind an operation, known to have no dict -/
theorem laidH {pins : List (Addr × Obj)} {σ : St} {H : Hp} {s : Shared} {Q : VK} {ys : List V} {us : List Value} (I : Inv X pins σ H s) (r : Vals ys us) (hz : ys.length ≤ sizeLine) (q : ∀ (p : Addr) (o : Obj), o.dict = none → H p = none → Q (.ref p) (upd H p (.frz o (.tup ys)))) : EP X pins σ Q (.ref s.heap.objs.size) { s with heap := s.heap.push { cls := .type "tuple", data := .seq us.toArray } } := by
  refine ⟨.ref s.heap.objs.size, _, I.laid (t' := s.toks) (o := .frz { cls := .type "tuple", data := .seq us.toArray } (.tup ys)) (fun b ob q => Heap.get?_push_of_some _ q) (Nat.le_refl _) ?_, rfl, q _ _ rfl (I.hok.fresh (Nat.le_refl _))⟩
  exact ⟨Heap.get?_push_size _ rfl, hz, us, r, IsTup.new _ _⟩
def rCatH (K : PySem.W.Frag) : R2 := fun x y H Q => ∃ a b xs ys, x = .ref a ∧ y = .ref b ∧ SqT K H a xs ∧ SqT K H b ys ∧ xs.length + ys.length ≤ sizeLine ∧
  (xs = [] → Q (.ref b) H) ∧ (xs ≠ [] → ys = [] → Q (.ref a) H) ∧ (xs ≠ [] → ys ≠ [] → ∀ (p : Addr) (o : Obj), o.dict = none → H p = none → Q (.ref p) (upd H p (.frz o (.tup (xs ++ ys)))))
theorem op_catH : OpR X (binaryOp .Add) (rCatH X.K) := by
  rintro pins s σ H x y v u Q I rx ry ⟨a, b, xs, ys, rfl, rfl, ha, hb, hz, q0, q1, q2⟩
  cases rx
  cases ry
  obtain ⟨its, r1, p1, _⟩ := I.tuple ha
  obtain ⟨its2, r2, p2, _⟩ := I.tuple hb
  by_cases hx : xs = []
  · subst hx
    cases r1
    exact cat_tup0 p1 p2 ⟨.ref b, H, I, rfl, q0 rfl⟩
  · refine HT.cat_tup p1 p2 (fun z => hx (r1.nil_iff.mp z)) (fun z => ⟨.ref a, H, I, rfl, q1 hx (r2.nil_iff.mp z)⟩) (fun z => ?_) (by rw [← r1.length, ← r2.length]; exact hz)
    exact laidH I (r1.append r2) (by rw [List.length_append]; exact hz) (q2 hx fun w => z (r2.nil_iff.mpr w))
def rRepH (K : PySem.W.Frag) : R2 := fun x y H Q => ∃ l k xs, x = .ref l ∧ y = .int k ∧ SqT K H l xs ∧ xs ≠ [] ∧ 2 ≤ k ∧ k ≤ 1000 ∧ xs.length ≤ 1000 ∧ ∀ (p : Addr) (o : Obj), o.dict = none → H p = none → Q (.ref p) (upd H p (.frz o (.tup (List.replicate k.toNat xs).flatten)))
theorem op_repH : OpR X (binaryOp .Mult) (rRepH X.K) := by
  rintro pins s σ H x y v u Q I rx ry ⟨l, k, xs, rfl, rfl, hT, hne, h1, h2, hz, q⟩
  cases rx
  obtain ⟨t, rfl⟩ := ry
  obtain ⟨its, r, ⟨⟨cls, dd, data, sl⟩, ho, hc, n, hd⟩, hs⟩ := I.tuple hT
  cases (show cls = .type "tuple" from hc)
  cases (show data = .seq its.toArray n from hd)
  have le : its.length = xs.length := r.length.symm
  have hn : its ≠ [] := fun e => hne (r.nil_iff.mp e)
  have e0 : its.toArray.isEmpty = false := by cases its <;> simp_all
  have e1 : ((its.toArray.size : Nat) : Int) * k ≤ 1000000 := by
    rw [List.size_toArray, le]
    have : ((xs.length : Nat) : Int) * k ≤ 1000 * k := Int.mul_le_mul_of_nonneg_right (by omega) (by omega)
    omega
  have e2 : k.toNat * xs.length ≤ 1000 * 1000 := Nat.mul_le_mul (by omega) hz
  have b0 : (decide (k < -(2 ^ 63)) || decide (k ≥ 2 ^ 63)) = false := by simp; omega
  have b1 : (its.toArray.isEmpty || k == 1) = false := by rw [e0]; simp; omega
  have b2 : (decide (k ≤ 0) || its.toArray.isEmpty) = false := by rw [e0]; simp; omega
  have b3 : Builtin.Tuple.tupleTooMany (((its.toArray.size : Nat) : Int) * k) = false := by
    unfold Builtin.Tuple.tupleTooMany
    rw [sizeLine_eq]
    exact decide_eq_false (by omega)
  have z1 : (List.replicate k.toNat its).flatten.length ≤ sizeLine := by
    rw [PyProof.Rows.lm_len_rep_flat, le, sizeLine_eq]
    omega
  have z2 : (List.replicate k.toNat xs).flatten.length ≤ sizeLine := by
    rw [PyProof.Rows.lm_len_rep_flat, sizeLine_eq]
    omega
  have tis : s.TypeIs (.ref l) "tuple" := ⟨_, ho, rfl⟩
  refine wpAny_binaryOp_repeat_ref (T := "tuple") (U := "int") (by decide) tis (fun s' => typeIs_int s' k t) noFill_tuple_mul F.fills_int_mul F.slot_int_rmul repeat_tuple F.slot_int_index.lookup
    (call_meets F.slot_int_rmul (typeIs_int s k t) F.entry_int_rmul (F.args_int_rmul_2 _ _) (int_rmul_tuple k t l its.toArray n dd sl)
      ⟨ho, rfl, tis, call_meets F.slot_tuple_mul tis F.entry_tuple_mul (F.args_tuple_mul_2 _ _) (tuple_mulW l its.toArray n dd sl k t b0 b1 b2 (by omega) b3 (by rw [size_rep, List.size_toArray]; exact z1)) ⟨ho, ?_⟩⟩)
  rw [size_rep]
  exact laidH I (r.rep k.toNat) z2 q
def rCatL (K : PySem.W.Frag) : R2 := fun x y H Q => ∃ l b xs zs, x = .ref l ∧ y = .ref b ∧ SqL K H l xs ∧ SqL K H b zs ∧ xs.length + zs.length ≤ sizeLine ∧ ∀ p, H p = none → Q (.ref p) (upd H p (.lst (xs ++ zs)))
theorem op_catL : OpR X (binaryOp .Add) (rCatL X.K) := by
  intro pins s σ H x y v u Q I rx ry h
  obtain ⟨l, b, xs, zs, rfl, rfl, hH, hB, hz, q⟩ := h
  cases rx
  cases ry
  obtain ⟨its, r, ⟨o, n, e, hc, hd, hq⟩, _⟩ := I.list hH
  obtain ⟨its2, r2, ⟨o2, n2, e2, hc2, hd2, hq2⟩, _⟩ := I.list hB
  have hl := r.length
  have hl2 := r2.length
  obtain ⟨cls, dd, data, sl⟩ := o
  obtain ⟨cls2, dd2, data2, sl2⟩ := o2
  simp only at hc hd hq hc2 hd2 hq2
  subst hc hd hq hc2 hd2 hq2
  refine concat_meets ⟨_, e, rfl⟩ ⟨_, e2, rfl⟩ noFill_list_add seq_list_add F.slot_list_add F.entry_list_add (F.args_list_add_2 _ _) (list_addW l b its.toArray its2.toArray n n2 none none sl sl2 (by rw [List.size_toArray, List.size_toArray]; omega)) ⟨e, e2, ?_⟩
  have ea : its.toArray ++ its2.toArray = (its ++ its2).toArray := by simp
  rw [ea]
  exact ⟨.ref _, _, I.lnew (t' := s.toks) (r.append r2) (by rw [List.length_append]; omega), rfl, q _ I.fresh⟩
end
theorem OpR.no {X : Cx} {f : Value → Value → Sem Value} : OpR X f (fun _ _ _ _ => False) := fun _ _ _ _ _ _ _ _ _ _ _ _ h => h.elim
theorem CallR.no {X : Cx} {f : Value} : CallR X f (fun _ _ _ => False) := fun _ _ _ _ _ _ _ _ _ h => h.elim
def sm (i : Int) : Prop := -(2 ^ 200) < i ∧ i < 2 ^ 200
instance (i : Int) : Decidable (sm i) := inferInstanceAs (Decidable (_ ∧ _))
theorem sm_lit {i : Int} (h1 : -(2 ^ 200) < i) (h2 : i < 2 ^ 200) : sm i := ⟨h1, h2⟩
theorem log2_le {i : Int} (h1 : -(2 ^ 200) < i) (h2 : i < 2 ^ 200) : i.natAbs.log2 < 200 := by
  by_cases hz : i.natAbs = 0
  · rw [hz]; decide
  · exact (Nat.log2_lt hz).mpr (by omega)
def addD : D → D → Option C
  | .int i, .int j => some (.sh (.int (i + j)))
  | .str a, .str b => if a.length + b.length ≤ sizeLine then some (.sh (.str (a ++ b))) else none
  | .list a, .list b => if a.length + b.length ≤ sizeLine then some (.ls (a ++ b)) else none
  | .tuple a, .tuple b => if a.length + b.length ≤ sizeLine then some (.sh (.tuple (a ++ b))) else none
  | _, _ => none
def subD : D → D → Option C
  | .int i, .int j => some (.sh (.int (i - j)))
  | _, _ => none
def mulD : D → D → Option C
  | .int i, .int j => if sm i ∧ sm j then some (.sh (.int (i * j))) else none
  | .list a, .int k => if -(2 ^ 63) ≤ k ∧ k < 2 ^ 63 ∧ a.length * k.toNat ≤ sizeLine then some (.ls (List.replicate k.toNat a).flatten) else none
  | .tuple a, .int k => if (0 < a.length ∧ 2 ≤ k ∧ k ≤ 1000 ∧ a.length ≤ 1000) ∨ (-(2 ^ 63) ≤ k ∧ k < 2 ^ 63 ∧ (a.length = 0 ∨ k ≤ 1)) then some (.sh (.tuple (List.replicate k.toNat a).flatten)) else none
  | _, _ => none
def fdivD : D → D → Option C
  | .int i, .int j => if 0 < j ∧ sm j then some (.sh (.int (i / j))) else none
  | _, _ => none
def modD : D → D → Option C
  | .int i, .int j => if 0 < j then some (.sh (.int (i % j))) else none
  | _, _ => none
def powD : D → D → Option C
  | .int i, .int j => if 0 ≤ j ∧ j ≤ 1000000 ∧ i.natAbs < 2 ^ 64 then some (.sh (.int (i ^ j.toNat))) else none
  | _, _ => none
def shlD : D → D → Option C
  | .int i, .int j => if 0 ≤ j ∧ j ≤ 1000000 ∧ i.natAbs < 2 ^ 64 then some (.sh (.int (i * 2 ^ j.toNat))) else none
  | _, _ => none
def shrD : D → D → Option C
  | .int i, .int j => if 0 ≤ j then some (.sh (.int (i / 2 ^ j.toNat))) else none
  | _, _ => none
def andD : D → D → Option C
  | .int i, .int j => some (.sh (.int (Builtin.bitAnd i j)))
  | _, _ => none
def orD : D → D → Option C
  | .int i, .int j => some (.sh (.int (Builtin.bitOr i j)))
  | _, _ => none
def binD : Operator → D → D → Option C
  | .Add => addD
  | .Sub => subD
  | .Mult => mulD
  | .FloorDiv => fdivD
  | .Mod => modD
  | .Pow => powD
  | .LShift => shlD
  | .RShift => shrD
  | .BitAnd => andD
  | .BitOr => orD
  | _ => fun _ _ => none
section
variable {X : Cx}
/-- an operator on whole numbers -/
theorem ints_ok {f : Value → Value → Sem Value} {C0 : Int → Int → Prop} {g : Int → Int → Int} (h : OpR X f (rI C0 fun i j => .int (g i j))) {t : D → D → Option C}
    (ht : ∀ d e c, t d e = some c → ∃ i j, d = .int i ∧ e = .int j ∧ C0 i j ∧ c = .sh (.int (g i j))) : ∃ r, OpR X f r ∧ Fn2 X.K t r := by
  refine ⟨_, h, fun F H x y d e c Q s h1 h2 he q => ?_⟩
  obtain ⟨i, j, rfl, rfl, hc, rfl⟩ := ht d e c he
  exact ⟨i, j, rb_int h1, rb_int h2, hc, g_int s q⟩
theorem ints_ok0 {f : Value → Value → Sem Value} {g : Int → Int → Int} (h : OpR X f (rI0 fun i j => .int (g i j))) {t : D → D → Option C}
    (ht : ∀ d e c, t d e = some c → ∃ i j, d = .int i ∧ e = .int j ∧ c = .sh (.int (g i j))) : ∃ r, OpR X f r ∧ Fn2 X.K t r := by
  refine ⟨_, h, fun F H x y d e c Q s h1 h2 he q => ?_⟩
  obtain ⟨i, j, rfl, rfl, rfl⟩ := ht d e c he
  exact ⟨i, j, rb_int h1, rb_int h2, g_int s q⟩
theorem add_ok : ∃ r, OpR X (binaryOp .Add) r ∧ Fn2 X.K addD r := by
  refine ⟨_, op_add.or (op_add_str.or (op_catL.or op_catH)), fun F H x y d e c Q s h1 h2 he q => ?_⟩
  unfold addD at he
  split at he
  · cases he
    exact .inl ⟨_, _, rb_int h1, rb_int h2, g_int s q⟩
  · split at he
    · cases he
      exact .inr (.inl ⟨_, _, rb_str h1, rb_str h2, by assumption, g_str s q⟩)
    · cases he
  · split at he
    · rename_i hl
      cases he
      obtain ⟨a, vs, rfl, g1, g2⟩ := rb_lst s h1
      obtain ⟨b, ws, rfl, k1, k2⟩ := rb_lst s h2
      refine .inr (.inr (.inl ⟨a, b, vs, ws, rfl, rfl, g1, k1, by rw [g2.length, k2.length]; exact hl, g_lst s (g2.append k2) q⟩))
    · cases he
  · split at he
    · rename_i hl
      cases he
      obtain ⟨a, vs, rfl, g0, g1, g2⟩ := rb_tup s h1
      obtain ⟨b, ws, rfl, k0, k1, k2⟩ := rb_tup s h2
      refine .inr (.inr (.inr ⟨a, b, vs, ws, rfl, rfl, g1, k1, by rw [g2.length, k2.length]; exact hl, fun e => ?_, fun _ e => ?_, fun _ _ => g_tup s (g2.append k2) q⟩))
      · subst e
        have hz := g2.length
        have e2 : _ = [] := List.eq_nil_of_length_eq_zero hz.symm
        rw [e2] at q
        exact gv s (d := .tuple _) ⟨b, ws, rfl, k0, k2⟩ q
      · subst e
        have hz := k2.length
        have e2 : _ = [] := List.eq_nil_of_length_eq_zero hz.symm
        rw [e2, List.append_nil] at q
        exact gv s (d := .tuple _) ⟨a, vs, rfl, g0, g2⟩ q
    · cases he
  · cases he
def rRepL (K : PySem.W.Frag) : R2 := fun x y H Q => ∃ l k xs, x = .ref l ∧ y = .int k ∧ SqL K H l xs ∧ -(2 ^ 63) ≤ k ∧ k < 2 ^ 63 ∧ xs.length * k.toNat ≤ sizeLine ∧ ∀ p, H p = none → Q (.ref p) (upd H p (.lst (List.replicate k.toNat xs).flatten))
theorem op_repL : OpR X (binaryOp .Mult) (rRepL X.K) := by
  intro pins s σ H x y v u Q I rx ry h
  obtain ⟨l, k, xs, rfl, rfl, hH, h1, h2, hz, q⟩ := h
  cases rx
  obtain ⟨t, rfl⟩ := ry
  obtain ⟨its, r, ⟨o, n, e, hc, hd, hq⟩, _⟩ := I.list hH
  have hl := r.length
  obtain ⟨cls, dd, data, sl⟩ := o
  simp only at hc hd hq
  subst hc hd hq
  have hlen : its.toArray.size * k.toNat ≤ sizeLine := by rw [List.size_toArray, ← hl]; exact hz
  have hcap : ¬ its.toArray.size * k.toNat > (2 ^ 63 - 1) / 8 := by
    have : (sizeLine : Nat) ≤ (2 ^ 63 - 1) / 8 := by decide
    omega
  have hfit : ¬ (!Builtin.List.listFitsIndex k) = true := by
    rw [fitsIndex_both h1 h2]
    exact Bool.false_ne_true
  have hlong : ¬ Builtin.List.listTooLong (its.toArray.size * k.toNat) = true := by
    rw [notLongL hlen]
    exact Bool.false_ne_true
  have hnew : List.foldl (fun x1 x2 => x1 ++ x2) #[] (List.replicate (if its.toArray.isEmpty = true then 0 else k.toNat) its.toArray) = (List.replicate k.toNat its).flatten.toArray := by
    have f0 : ∀ m : Nat, List.foldl (fun x1 x2 => x1 ++ x2) #[] (List.replicate m its.toArray) = (List.replicate m its).flatten.toArray := fun m => by
      have := foldl_rep its m []
      rw [List.nil_append] at this
      exact this
    rw [f0]
    cases its with
    | nil => simp
    | cons a r' => rw [if_neg (by simp)]
  refine wpAny_binaryOp_repeat_ref (T := "list") (U := "int") (by decide) ⟨_, e, rfl⟩ (fun s' => typeIs_int s' k t) noFill_list_mul F.fills_int_mul F.slot_int_rmul repeat_list F.slot_int_index.lookup
    (call_meets F.slot_int_rmul (typeIs_int s k t) F.entry_int_rmul (F.args_int_rmul_2 _ _) (int_rmulW k t l its.toArray n none sl)
      ⟨e, rfl, ⟨_, e, rfl⟩, call_meets F.slot_list_mul ⟨_, e, rfl⟩ F.entry_list_mul (F.args_list_mul_2 _ _) (list_mulW l its.toArray n k t none sl hfit hcap hlong) ⟨e, ?_⟩⟩)
  rw [hnew]
  exact ⟨.ref _, _, I.lnew (t' := s.toks) (r.rep k.toNat) (by rw [PyProof.Rows.lm_len_rep_flat, Nat.mul_comm]; exact hz), rfl, q _ I.fresh⟩
theorem int2 {t : D → D → Option C} (hno : ∀ d e, (∀ i j, d = .int i → e = .int j → False) → t d e = none) {P : Int → Int → C → Prop} (hi : ∀ i j c, t (.int i) (.int j) = some c → P i j c) : ∀ d e c, t d e = some c → ∃ i j, d = .int i ∧ e = .int j ∧ P i j c := by
  intro d e c h
  by_cases hd : ∃ i, d = .int i
  · obtain ⟨i, rfl⟩ := hd
    by_cases he : ∃ j, e = .int j
    · obtain ⟨j, rfl⟩ := he
      exact ⟨i, j, rfl, rfl, hi i j c h⟩
    · rw [hno _ _ fun i' j _ z => he ⟨j, z⟩] at h
      cases h
  · rw [hno _ _ fun i j z _ => hd ⟨i, z⟩] at h
    cases h
theorem tuple_mul1 (l : Addr) (items : Array Value) (n : Nat) (dd : Option Addr) (sl : Array (Option Value)) (x : Int) (u : Tok) (c0 : (decide (x < -(2 ^ 63)) || decide (x ≥ 2 ^ 63)) = false) (c1 : (items.isEmpty || x == 1) = true) :
    Meets (Builtin.«tuple.__mul__» ⟨[.ref l, .int x u], []⟩) (fun _ R s => s.heap.get? l = some { cls := .type "tuple", dict := dd, data := .seq items n, slots := sl } ∧ R (.ok (.ret (Value.ref l))) s) := .of_wp fun prog w A R ⟨hp, g, d, tk, os⟩ ⟨hl, h⟩ => by
  have f1 := AutoSeq1.idx_int; wp_walk using wpAny_loadPart' hl
  repeat (first | (refine wpAny_ite_false (decide_eq_false (by rw [c0]; decide)) ?_; wp_walk using wpAny_loadPart' hl) | (refine wpAny_ite_true (decide_eq_true c1) ?_; wp_walk using wpAny_loadPart' hl))
  exact ⟨_, rfl, h⟩
theorem tuple_mul0 (l : Addr) (items : Array Value) (n : Nat) (dd : Option Addr) (sl : Array (Option Value)) (x : Int) (u : Tok) (c0 : (decide (x < -(2 ^ 63)) || decide (x ≥ 2 ^ 63)) = false) (c1 : (items.isEmpty || x == 1) = false) (c2 : (decide (x ≤ 0) || items.isEmpty) = true) :
    Meets (Builtin.«tuple.__mul__» ⟨[.ref l, .int x u], []⟩) (fun _ R s => s.heap.get? l = some { cls := .type "tuple", dict := dd, data := .seq items n, slots := sl } ∧ R (.ok (.ret (Value.ref s.heap.objs.size))) { s with heap := s.heap.push { cls := Value.type "tuple", data := Data.seq #[] } }) := .of_wp fun prog w A R ⟨hp, g, d, tk, os⟩ ⟨hl, h⟩ => by
  have f1 := AutoSeq1.idx_int; wp_walk using wpAny_loadPart' hl
  repeat (first | (refine wpAny_ite_false (decide_eq_false (by rw [c0]; decide)) ?_; wp_walk using wpAny_loadPart' hl) | (refine wpAny_ite_false (decide_eq_false (by rw [c1]; decide)) ?_; wp_walk using wpAny_loadPart' hl) | (refine wpAny_ite_true (decide_eq_true c2) ?_; wp_walk using wpAny_loadPart' hl))
  exact ⟨_, rfl, h⟩
def rRepT1 (K : PySem.W.Frag) : R2 := fun x y H Q => ∃ l k xs, x = .ref l ∧ y = .int k ∧ SqT K H l xs ∧ -(2 ^ 63) ≤ k ∧ k < 2 ^ 63 ∧ ((xs = [] ∨ k = 1) ∧ Q (.ref l) H ∨ xs ≠ [] ∧ k ≤ 0 ∧ ∀ (p : Addr) (o : Obj), o.dict = none → H p = none → Q (.ref p) (upd H p (.frz o (.tup []))))
theorem op_repT1 {X : Cx} : OpR X (binaryOp .Mult) (rRepT1 X.K) := by
  rintro pins s σ H x y v u Q I rx ry ⟨l, k, xs, rfl, rfl, hT, k0, k1, q⟩
  cases rx
  obtain ⟨t, rfl⟩ := ry
  obtain ⟨its, r, ⟨⟨cls, dd, data, sl⟩, ho, hc, n, hd⟩, hs⟩ := I.tuple hT
  cases (show cls = .type "tuple" from hc)
  cases (show data = .seq its.toArray n from hd)
  have le : its.length = xs.length := r.length.symm
  have b0 : (decide (k < -(2 ^ 63)) || decide (k ≥ 2 ^ 63)) = false := by simp; omega
  have tis : s.TypeIs (.ref l) "tuple" := ⟨_, ho, rfl⟩
  have road := fun (Q0 : Value → Shared → Prop) (E : Value → Shared → Prop) (m : wpAny (model X.prog X.w) X.A (call (.builtin "tuple.__mul__") [.ref l, .int k t]) Q0 E s) => wpAny_binaryOp_repeat_ref (T := "tuple") (U := "int") (by decide) tis (fun s' => typeIs_int s' k t) noFill_tuple_mul F.fills_int_mul F.slot_int_rmul repeat_tuple F.slot_int_index.lookup
    (call_meets F.slot_int_rmul (typeIs_int s k t) F.entry_int_rmul (F.args_int_rmul_2 _ _) (int_rmul_tuple k t l its.toArray n dd sl) ⟨ho, rfl, tis, m⟩)
  rcases q with ⟨hx, q⟩ | ⟨hx, hk, q⟩
  · have c1 : (its.toArray.isEmpty || k == 1) = true := by
      rcases hx with rfl | rfl
      · have : its = [] := List.eq_nil_of_length_eq_zero (by simpa using le)
        subst this
        rfl
      · simp
    exact road _ _ (call_meets F.slot_tuple_mul tis F.entry_tuple_mul (F.args_tuple_mul_2 _ _) (tuple_mul1 l its.toArray n dd sl k t b0 c1) ⟨ho, .ref l, H, I, rfl, q⟩)
  · have ne : its ≠ [] := by
      rintro rfl
      exact hx (List.eq_nil_of_length_eq_zero (by simpa using le.symm))
    have c1 : (its.toArray.isEmpty || k == 1) = false := by
      cases its with
      | nil => exact absurd rfl ne
      | cons a as => simp; omega
    have c2 : (decide (k ≤ 0) || its.toArray.isEmpty) = true := by simp [hk]
    refine road _ _ (call_meets F.slot_tuple_mul tis F.entry_tuple_mul (F.args_tuple_mul_2 _ _) (tuple_mul0 l its.toArray n dd sl k t b0 c1 c2) ⟨ho, laidH (us := []) I .nil (by simp) q⟩)
theorem mul_ok : ∃ r, OpR X (binaryOp .Mult) r ∧ Fn2 X.K mulD r := by
  refine ⟨_, op_mulW.or (op_repL.or (op_repH.or op_repT1)), fun F H x y d e c Q s h1 h2 he q => ?_⟩
  unfold mulD at he
  split at he
  · split at he
    · cases he
      rename_i hb
      exact .inl ⟨_, _, rb_int h1, rb_int h2, by have a := log2_le hb.1.1 hb.1.2; have b := log2_le hb.2.1 hb.2.2; show _ < _; omega, g_int s q⟩
    · cases he
  · split at he
    · rename_i hk
      cases he
      obtain ⟨a, vs, rfl, g1, g2⟩ := rb_lst s h1
      exact .inr (.inl ⟨a, _, vs, rfl, rb_int h2, g1, hk.1, hk.2.1, by rw [g2.length]; exact hk.2.2, g_lst s (Reps.replicate g2 _) q⟩)
    · cases he
  · split at he
    · rename_i hk
      cases he
      obtain ⟨a, vs, rfl, gF, g1, g2⟩ := rb_tup s h1
      have le := g2.length
      rcases hk with hk | ⟨k0, k1, hk⟩
      · refine .inr (.inr (.inl ⟨a, _, vs, rfl, rb_int h2, g1, ?_, hk.2.1, hk.2.2.1, by rw [le]; exact hk.2.2.2, g_tup s (Reps.replicate g2 _) q⟩))
        rintro rfl
        have := hk.1
        simp at le
        omega
      · refine .inr (.inr (.inr ⟨a, _, vs, rfl, rb_int h2, g1, k0, k1, ?_⟩))
        rename_i as z
        by_cases e : vs = [] ∨ z = 1
        · refine .inl ⟨e, ?_⟩
          have e2 : (List.replicate z.toNat as).flatten = as := by
            rcases e with rfl | rfl
            · have : as = [] := List.eq_nil_of_length_eq_zero (by simpa using le.symm)
              subst this
              simp
            · simp
          rw [e2] at q
          exact gv (d := .tuple as) s (show Rep X.K F (.ref a) (.tuple as) from ⟨a, vs, rfl, gF, g2⟩) q
        · simp only [not_or] at e
          have hz : z ≤ 0 := by
            rcases hk with hk | hk
            · exact absurd (List.eq_nil_of_length_eq_zero (by omega)) e.1
            · have := e.2
              omega
          have e2 : (List.replicate z.toNat as).flatten = [] := by
            have : z.toNat = 0 := by omega
            rw [this]
            simp
          rw [e2] at q
          exact .inr ⟨e.1, hz, g_tup (vs := []) (ds := []) s (by simp [Reps]) q⟩
    · cases he
  · cases he
theorem bin_ok (op : Operator) : ∃ r, OpR X (binaryOp op) r ∧ Fn2 X.K (binD op) r := by
  have no : ∀ op', binD op' = (fun _ _ => none) → ∃ r, OpR X (binaryOp op') r ∧ Fn2 X.K (binD op') r := fun op' h => ⟨_, OpR.no, fun F H x y d e c Q s _ _ he _ => by rw [h] at he; cases he⟩
  cases op with
  | Add => exact add_ok
  | Sub => exact ints_ok0 op_sub (int2 (fun d e h => by cases d <;> cases e <;> first | rfl | exact (h _ _ rfl rfl).elim) fun i j c h => by cases h; rfl)
  | Mult => exact mul_ok
  | FloorDiv => exact ints_ok op_fdivW (int2 (fun d e h => by cases d <;> cases e <;> first | rfl | exact (h _ _ rfl rfl).elim) fun i j c h => by
      simp only [binD, fdivD] at h
      split at h
      · rename_i hb
        cases h
        exact ⟨⟨hb.1, by have := log2_le hb.2.1 hb.2.2; omega⟩, rfl⟩
      · cases h)
  | Mod => exact ints_ok op_mod (int2 (fun d e h => by cases d <;> cases e <;> first | rfl | exact (h _ _ rfl rfl).elim) fun i j c h => by
      simp only [binD, modD] at h
      split at h
      · cases h; exact ⟨by assumption, rfl⟩
      · cases h)
  | Pow => exact ints_ok op_pow (int2 (fun d e h => by cases d <;> cases e <;> first | rfl | exact (h _ _ rfl rfl).elim) fun i j c h => by
      simp only [binD, powD] at h
      split at h
      · cases h; exact ⟨by assumption, rfl⟩
      · cases h)
  | LShift => exact ints_ok op_shl (int2 (fun d e h => by cases d <;> cases e <;> first | rfl | exact (h _ _ rfl rfl).elim) fun i j c h => by
      simp only [binD, shlD] at h
      split at h
      · cases h; exact ⟨by assumption, rfl⟩
      · cases h)
  | RShift => exact ints_ok op_shr (int2 (fun d e h => by cases d <;> cases e <;> first | rfl | exact (h _ _ rfl rfl).elim) fun i j c h => by
      simp only [binD, shrD] at h
      split at h
      · cases h; exact ⟨by assumption, rfl⟩
      · cases h)
  | BitAnd => exact ints_ok0 op_and (int2 (fun d e h => by cases d <;> cases e <;> first | rfl | exact (h _ _ rfl rfl).elim) fun i j c h => by cases h; rfl)
  | BitOr => exact ints_ok0 op_or (int2 (fun d e h => by cases d <;> cases e <;> first | rfl | exact (h _ _ rfl rfl).elim) fun i j c h => by cases h; rfl)
  | BitXor => exact no _ rfl
  | Div => exact no _ rfl
  | MatMult => exact no _ rfl
end
end L2.M
namespace L2.M
open PySem PySem.Spec PyProof.Rows
def scD : D → D → Bool
  | .none, .none => true
  | .none, .int _ => true
  | .none, .bool _ => true
  | .none, .str _ => true
  | .int _, .none => true
  | .int _, .int _ => true
  | .int _, .str _ => true
  | .bool _, .none => true
  | .bool _, .bool _ => true
  | .bool _, .str _ => true
  | .str _, .none => true
  | .str _, .int _ => true
  | .str _, .bool _ => true
  | .str _, .str _ => true
  | _, _ => false
/-- two tuples, one of them empty -/
def emD : D → D → Bool
  | .tuple ds, .tuple es => ds.isEmpty || es.isEmpty
  | _, _ => false
def eqD : D → D → Option C := fun d e => if scD d e || emD d e || (SeqAt.shaped d && SeqAt.shaped e) then some (.sh (.bool (PyData.eqv d e))) else none
def neD : D → D → Option C := fun d e => if scD d e || (SeqAt.shaped d && SeqAt.shaped e) then some (.sh (.bool (!PyData.eqv d e))) else none
def ltD : D → D → Option C
  | .int i, .int j => some (.sh (.bool (decide (i < j))))
  | .str i, .str j => some (.sh (.bool (decide (i.cps.toList < j.cps.toList))))
  | _, _ => none
def leD : D → D → Option C
  | .int i, .int j => some (.sh (.bool (decide (i ≤ j))))
  | _, _ => none
def gtD : D → D → Option C
  | .int i, .int j => some (.sh (.bool (decide (j < i))))
  | _, _ => none
def geD : D → D → Option C
  | .int i, .int j => some (.sh (.bool (decide (j ≤ i))))
  | _, _ => none
def isNon : D → Bool
  | .none => true
  | _ => false
def isD : D → D → Option C
  | d, .none => some (.sh (.bool (isNon d)))
  | .bool a, .bool b => some (.sh (.bool (decide (a = b))))
  | _, _ => none
def isnD : D → D → Option C
  | d, .none => some (.sh (.bool (!isNon d)))
  | .bool a, .bool b => some (.sh (.bool (!decide (a = b))))
  | _, _ => none
def inD : D → D → Option C := fun d e => match e with
  | .list ds => if SeqAt.shaped d && SeqAt.shaped (.list ds) then some (.sh (.bool (ds.any fun z => PyData.eqv z d))) else none
  | .tuple ds => if SeqAt.shaped d && SeqAt.shaped (.tuple ds) then some (.sh (.bool (ds.any fun z => PyData.eqv z d))) else none
  | _ => none
def ninD : D → D → Option C := fun d e => match e with
  | .list ds => if SeqAt.shaped d && SeqAt.shaped (.list ds) then some (.sh (.bool (!ds.any fun z => PyData.eqv z d))) else none
  | .tuple ds => if SeqAt.shaped d && SeqAt.shaped (.tuple ds) then some (.sh (.bool (!ds.any fun z => PyData.eqv z d))) else none
  | _ => none
def cmpD : CmpOp → D → D → Option C
  | .Eq => eqD
  | .NotEq => neD
  | .Lt => ltD
  | .LtE => leD
  | .Gt => gtD
  | .GtE => geD
  | .Is => isD
  | .IsNot => isnD
  | .In => inD
  | .NotIn => ninD
section
variable {X : Cx}
theorem isNon_ok {K : PySem.W.Frag} {F H : Hp} {x : V} {d : D} (h : RepB K F H x d) : decide (x = .non) = isNon d := by
  cases d with
  | none => rw [rb_non h]; rfl
  | bool b => rw [rb_bool h]; rfl
  | int b => rw [rb_int h]; rfl
  | str b => rw [rb_str h]; rfl
  | list b =>
    rcases h with ⟨a, vs, rfl, _⟩ | ⟨a, ws, es, rfl, _⟩ <;> rfl
  | tuple b =>
    rcases h with ⟨a, vs, rfl, _⟩ | ⟨a, ws, es, rfl, _⟩ <;> rfl
  | dict b =>
    rcases h with ⟨a, vs, rfl, _⟩ | ⟨a, ws, es, rfl, _⟩ <;> rfl
theorem sc_ok {K : PySem.W.Frag} {F H : Hp} {x y : V} {d e : D} (h1 : RepB K F H x d) (h2 : RepB K F H y e) (h : scD d e = true) : scal x y = true ∧ decide (x = y) = PyData.eqv d e := by
  have sb : ∀ {x : V} {d : D}, RepB K F H x d → (d = .none → x = .non) ∧ (∀ i, d = .int i → x = .int i) ∧ (∀ i, d = .bool i → x = .bl i) ∧ ∀ i, d = .str i → x = .str i := fun {x d} h =>
    ⟨fun e => rb_non (e ▸ h), fun i e => rb_int (e ▸ h), fun i e => rb_bool (e ▸ h), fun i e => rb_str (e ▸ h)⟩
  obtain ⟨a1, a2, a3, a4⟩ := sb h1
  obtain ⟨b1, b2, b3, b4⟩ := sb h2
  cases d <;> cases e <;> (try cases h) <;> first
    | (rw [a1 rfl, b1 rfl]; exact ⟨rfl, rfl⟩)
    | (rw [a1 rfl, b2 _ rfl]; exact ⟨rfl, rfl⟩)
    | (rw [a1 rfl, b3 _ rfl]; exact ⟨rfl, rfl⟩)
    | (rw [a1 rfl, b4 _ rfl]; exact ⟨rfl, rfl⟩)
    | (rw [a2 _ rfl, b1 rfl]; exact ⟨rfl, rfl⟩)
    | (rw [a2 _ rfl, b2 _ rfl]; exact ⟨rfl, by simp only [PyData.eqv]; exact dec_int⟩)
    | (rw [a2 _ rfl, b4 _ rfl]; exact ⟨rfl, rfl⟩)
    | (rw [a3 _ rfl, b1 rfl]; exact ⟨rfl, rfl⟩)
    | (rw [a3 _ rfl, b3 _ rfl]; exact ⟨rfl, by simp only [PyData.eqv]; exact dec_bl⟩)
    | (rw [a3 _ rfl, b4 _ rfl]; exact ⟨rfl, rfl⟩)
    | (rw [a4 _ rfl, b1 rfl]; exact ⟨rfl, rfl⟩)
    | (rw [a4 _ rfl, b2 _ rfl]; exact ⟨rfl, rfl⟩)
    | (rw [a4 _ rfl, b3 _ rfl]; exact ⟨rfl, rfl⟩)
    | (rw [a4 _ rfl, b4 _ rfl]; exact ⟨rfl, by simp only [PyData.eqv]; exact dec_str⟩)
def rEqE (K : PySem.W.Frag) : R2 := fun x y H Q => ∃ l b xs ys, x = .ref l ∧ y = .ref b ∧ SqT K H l xs ∧ SqT K H b ys ∧ (xs = [] ∨ ys = []) ∧ Q (.bl (xs.isEmpty && ys.isEmpty)) H
theorem op_eqE (hu : X.A.units + 64 < cLine) : OpR X (compareOp .Eq) (rEqE X.K) := by
  rintro pins s σ H x y v u Q I rx ry ⟨l, b, xs, ys, rfl, rfl, h1, h2, he, q⟩
  cases rx
  cases ry
  obtain ⟨is, r1, p1, _⟩ := I.tuple h1
  obtain ⟨js, r2, p2, _⟩ := I.tuple h2
  have l1 := r1.length
  have l2 := r2.length
  refine PySem.W.eq_tuplesT (n := 0) (e := fun _ => true) p1 p2 (fun j a c => ?_) (by omega) ⟨.bl (xs.isEmpty && ys.isEmpty), H, I, ?_, q⟩
  · exfalso
    simp at a c
    rcases he with rfl | rfl
    · simp at l1; omega
    · simp at l2; omega
  · have : ((List.range (min is.toArray.size js.toArray.size)).all (fun _ => true) && is.toArray.size == js.toArray.size) = (xs.isEmpty && ys.isEmpty) := by
      rcases he with rfl | rfl
      · have : is = [] := List.eq_nil_of_length_eq_zero (by simpa using l1.symm)
        subst this
        cases ys with
        | nil =>
          have : js = [] := List.eq_nil_of_length_eq_zero (by simpa using l2.symm)
          subst this
          rfl
        | cons y ys =>
          cases js with
          | nil => simp at l2
          | cons z zs => simp
      · have : js = [] := List.eq_nil_of_length_eq_zero (by simpa using l2.symm)
        subst this
        cases xs with
        | nil =>
          have : is = [] := List.eq_nil_of_length_eq_zero (by simpa using l1.symm)
          subst this
          rfl
        | cons y ys =>
          cases is with
          | nil => simp at l1
          | cons z zs => simp
    rw [this]
    exact rfl
theorem em_ok {K : PySem.W.Frag} {F H : Hp} {x y : V} {d e : D} (s : Same F H) (h1 : RepB K F H x d) (h2 : RepB K F H y e) (h : emD d e = true) : ∃ l b xs ys, x = .ref l ∧ y = .ref b ∧ SqT K H l xs ∧ SqT K H b ys ∧ (xs = [] ∨ ys = []) ∧ (xs.isEmpty && ys.isEmpty) = PyData.eqv d e := by
  have main : ∀ ds es : List D, d = .tuple ds → e = .tuple es → (ds = [] ∨ es = []) → ∃ l b xs ys, x = .ref l ∧ y = .ref b ∧ SqT K H l xs ∧ SqT K H b ys ∧ (xs = [] ∨ ys = []) ∧ (xs.isEmpty && ys.isEmpty) = PyData.eqv d e := by
    rintro ds es rfl rfl hh
    obtain ⟨a, vs, rfl, _, g1, r1⟩ := rb_tup s h1
    obtain ⟨b, ws, rfl, _, g2, r2⟩ := rb_tup s h2
    have l1 := r1.length
    have l2 := r2.length
    refine ⟨a, b, vs, ws, rfl, rfl, g1, g2, ?_, ?_⟩
    · rcases hh with rfl | rfl
      · exact .inl (List.eq_nil_of_length_eq_zero (by simpa using l1))
      · exact .inr (List.eq_nil_of_length_eq_zero (by simpa using l2))
    · have e1 : vs.isEmpty = ds.isEmpty := by cases vs <;> cases ds <;> simp_all
      have e2 : ws.isEmpty = es.isEmpty := by cases ws <;> cases es <;> simp_all
      rw [e1, e2]
      simp only [PyData.eqv]
      rcases hh with rfl | rfl
      · cases es <;> simp [PyData.eqvAll]
      · cases ds <;> simp [PyData.eqvAll]
  match d, e, h with
  | .tuple ds, .tuple es, h => exact main _ _ rfl rfl (by simpa [emD] using h)
theorem eq_ok (hu : X.A.units + 64 < cLine) : ∃ r, OpR X (compareOp .Eq) r ∧ Fn2 X.K eqD r := by
  refine ⟨_, (op_eqD hu).or ((op_eqE hu).or op_eq), fun F H x y d e c Q s h1 h2 he q => ?_⟩
  unfold eqD at he
  split at he
  · rename_i h
    simp only [Bool.or_eq_true, Bool.and_eq_true] at h
    cases he
    rcases h with (h | h) | h
    · obtain ⟨k1, k2⟩ := sc_ok h1 h2 h
      refine .inr (.inr ⟨k1, ?_⟩)
      rw [k2]
      exact g_bool s q
    · obtain ⟨l, b, xs, ys, rfl, rfl, g1, g2, g3, g4⟩ := em_ok s h1 h2 h
      refine .inr (.inl ⟨l, b, xs, ys, rfl, rfl, g1, g2, g3, ?_⟩)
      rw [g4]
      exact g_bool s q
    · exact .inl ⟨d, e, rb_dp s h1 (SeqAt.canLay_of_shaped h.1), rb_dp s h2 (SeqAt.canLay_of_shaped h.2), h.1, h.2, g_bool s q⟩
  · cases he
theorem ne_ok (hu : X.A.units + 64 < cLine) : ∃ r, OpR X (compareOp .NotEq) r ∧ Fn2 X.K neD r := by
  refine ⟨_, (op_neD hu).or op_ne, fun F H x y d e c Q s h1 h2 he q => ?_⟩
  unfold neD at he
  split at he
  · rename_i h
    simp only [Bool.or_eq_true, Bool.and_eq_true] at h
    cases he
    rcases h with h | h
    · obtain ⟨k1, k2⟩ := sc_ok h1 h2 h
      refine .inr ⟨k1, ?_⟩
      rw [k2]
      exact g_bool s q
    · exact .inl ⟨d, e, rb_dp s h1 (SeqAt.canLay_of_shaped h.1), rb_dp s h2 (SeqAt.canLay_of_shaped h.2), h.1, h.2, g_bool s q⟩
  · cases he
theorem lt_ok : ∃ r, OpR X (compareOp .Lt) r ∧ Fn2 X.K ltD r := by
  refine ⟨_, op_lt.or op_lt_str, fun F H x y d e c Q s h1 h2 he q => ?_⟩
  unfold ltD at he
  split at he
  · cases he; exact .inl ⟨_, _, rb_int h1, rb_int h2, g_bool s q⟩
  · cases he; exact .inr ⟨_, _, rb_str h1, rb_str h2, g_bool s q⟩
  · cases he
theorem is_ok : ∃ r, OpR X (compareOp .Is) r ∧ Fn2 X.K isD r := by
  refine ⟨_, op_isN.or op_isBl, fun F H x y d e c Q s h1 h2 he q => ?_⟩
  unfold isD at he
  split at he
  · cases he
    refine .inl ⟨rb_non h2, ?_⟩
    rw [isNon_ok h1]
    exact g_bool s q
  · cases he
    exact .inr ⟨_, _, rb_bool h1, rb_bool h2, g_bool s q⟩
  · cases he
theorem isn_ok : ∃ r, OpR X (compareOp .IsNot) r ∧ Fn2 X.K isnD r := by
  refine ⟨_, op_notN.or op_notBl, fun F H x y d e c Q s h1 h2 he q => ?_⟩
  unfold isnD at he
  split at he
  · cases he
    refine .inl ⟨rb_non h2, ?_⟩
    rw [isNon_ok h1]
    exact g_bool s q
  · cases he
    exact .inr ⟨_, _, rb_bool h1, rb_bool h2, g_bool s q⟩
  · cases he
def rAnyIn (K : PySem.W.Frag) : R2 := fun x y H Q => ∃ d ds, Dp K H x d ∧ (Dp K H y (.list ds) ∨ Dp K H y (.tuple ds)) ∧ SeqAt.shaped d = true ∧ (SeqAt.shaped (.list ds) = true ∨ SeqAt.shaped (.tuple ds) = true) ∧ Q (.bl (ds.any fun z => PyData.eqv z d)) H
theorem op_anyIn (hu : X.A.units + 65 < cLine) : OpR X (compareOp .In) (rAnyIn X.K) := by
  intro pins s σ H x y v u Q I rx ry h
  obtain ⟨d, ds, hd, he, sd, se, q⟩ := h
  obtain ⟨as, r1⟩ := Dp.reads I d x v hd rx
  have sa : PyData.canLayAll0 ds = true := se.elim (fun h => SeqAt.canLay_of_shaped h) (fun h => SeqAt.canLay_of_shaped h)
  rcases he with he | he
  · obtain ⟨bs, r2⟩ := Dp.reads I (.list ds) y u he ry
    exact SeqAt.in_list_reads r2 r1 sa (SeqAt.canLay_of_shaped sd) (room_in_shaped sd hu) ⟨.bl _, H, I, rfl, q⟩
  · obtain ⟨bs, r2⟩ := Dp.reads I (.tuple ds) y u he ry
    exact SeqAt.in_tuple_reads r2 r1 sa (SeqAt.canLay_of_shaped sd) (room_in_shaped sd hu) ⟨.bl _, H, I, rfl, q⟩
theorem in_ok (hu : X.A.units + 65 < cLine) : ∃ r, OpR X (compareOp .In) r ∧ Fn2 X.K inD r := by
  refine ⟨_, op_anyIn hu, fun F H x y d e c Q s h1 h2 he q => ?_⟩
  unfold inD at he
  split at he
  · split at he
    · rename_i h
      simp only [Bool.and_eq_true] at h
      cases he
      exact ⟨d, _, rb_dp s h1 (SeqAt.canLay_of_shaped h.1), .inl (rb_dp s h2 (SeqAt.canLay_of_shaped h.2)), h.1, .inl h.2, g_bool s q⟩
    · cases he
  · split at he
    · rename_i h
      simp only [Bool.and_eq_true] at h
      cases he
      exact ⟨d, _, rb_dp s h1 (SeqAt.canLay_of_shaped h.1), .inr (rb_dp s h2 (SeqAt.canLay_of_shaped h.2)), h.1, .inr h.2, g_bool s q⟩
    · cases he
  · cases he
def rAnyNotIn (K : PySem.W.Frag) : R2 := fun x y H Q => ∃ d ds, Dp K H x d ∧ (Dp K H y (.list ds) ∨ Dp K H y (.tuple ds)) ∧ SeqAt.shaped d = true ∧ (SeqAt.shaped (.list ds) = true ∨ SeqAt.shaped (.tuple ds) = true) ∧ Q (.bl (!ds.any fun z => PyData.eqv z d)) H
theorem op_anyNotIn (hu : X.A.units + 65 < cLine) : OpR X (compareOp .NotIn) (rAnyNotIn X.K) := by
  intro pins s σ H x y v u Q I rx ry h
  obtain ⟨d, ds, hd, he, sd, se, q⟩ := h
  obtain ⟨as, r1⟩ := Dp.reads I d x v hd rx
  have sa : PyData.canLayAll0 ds = true := se.elim (fun h => SeqAt.canLay_of_shaped h) (fun h => SeqAt.canLay_of_shaped h)
  rcases he with he | he
  · obtain ⟨bs, r2⟩ := Dp.reads I (.list ds) y u he ry
    exact SeqAt.notIn_list_reads r2 r1 sa (SeqAt.canLay_of_shaped sd) (room_in_shaped sd hu) ⟨.bl _, H, I, rfl, q⟩
  · obtain ⟨bs, r2⟩ := Dp.reads I (.tuple ds) y u he ry
    exact SeqAt.notIn_tuple_reads r2 r1 sa (SeqAt.canLay_of_shaped sd) (room_in_shaped sd hu) ⟨.bl _, H, I, rfl, q⟩
theorem nin_ok (hu : X.A.units + 65 < cLine) : ∃ r, OpR X (compareOp .NotIn) r ∧ Fn2 X.K ninD r := by
  refine ⟨_, op_anyNotIn hu, fun F H x y d e c Q s h1 h2 he q => ?_⟩
  unfold ninD at he
  split at he
  · split at he
    · rename_i h
      simp only [Bool.and_eq_true] at h
      cases he
      exact ⟨d, _, rb_dp s h1 (SeqAt.canLay_of_shaped h.1), .inl (rb_dp s h2 (SeqAt.canLay_of_shaped h.2)), h.1, .inl h.2, g_bool s q⟩
    · cases he
  · split at he
    · rename_i h
      simp only [Bool.and_eq_true] at h
      cases he
      exact ⟨d, _, rb_dp s h1 (SeqAt.canLay_of_shaped h.1), .inr (rb_dp s h2 (SeqAt.canLay_of_shaped h.2)), h.1, .inr h.2, g_bool s q⟩
    · cases he
  · cases he
theorem bools_ok {f : Value → Value → Sem Value} {g : Int → Int → Bool} (h : OpR X f (rI0 fun i j => .bl (g i j))) {t : D → D → Option C}
    (ht : ∀ d e c, t d e = some c → ∃ i j, d = .int i ∧ e = .int j ∧ c = .sh (.bool (g i j))) : ∃ r, OpR X f r ∧ Fn2 X.K t r := by
  refine ⟨_, h, fun F H x y d e c Q s h1 h2 he q => ?_⟩
  obtain ⟨i, j, rfl, rfl, rfl⟩ := ht d e c he
  exact ⟨i, j, rb_int h1, rb_int h2, g_bool s q⟩
theorem cmp_ok (hu : X.A.units + 65 < cLine) (op : CmpOp) : ∃ r, OpR X (compareOp op) r ∧ Fn2 X.K (cmpD op) r := by
  have hu' : X.A.units + 64 < cLine := by omega
  cases op with
  | Eq => exact eq_ok hu'
  | NotEq => exact ne_ok hu'
  | Lt => exact lt_ok
  | LtE => exact bools_ok op_le (int2 (fun d e h => by cases d <;> cases e <;> first | rfl | exact (h _ _ rfl rfl).elim) fun i j c h => by cases h; rfl)
  | Gt => exact bools_ok op_gt (int2 (fun d e h => by cases d <;> cases e <;> first | rfl | exact (h _ _ rfl rfl).elim) fun i j c h => by cases h; rfl)
  | GtE => exact bools_ok op_ge (int2 (fun d e h => by cases d <;> cases e <;> first | rfl | exact (h _ _ rfl rfl).elim) fun i j c h => by cases h; rfl)
  | Is => exact is_ok
  | IsNot => exact isn_ok
  | In => exact in_ok hu
  | NotIn => exact nin_ok hu
def negD : D → Option C
  | .int i => some (.sh (.int (-i)))
  | _ => none
def ixD : D → D → Option C
  | .list ds, .int i => (atI ds i).map .sh
  | .tuple ds, .int i => (atI ds i).map .sh
  | .str z, .int i => if z.length ≤ sizeLine then (atI z.cps.toList i).map fun c => .sh (.str ⟨#[c]⟩) else none
  | _, _ => none
theorem Reps.atI {K : PySem.W.Frag} {F : Hp} {vs : List V} {ds : List D} {i : Int} {d : D} (h : Reps K F vs ds) (e : L2.atI ds i = some d) : ∃ v, L2.atI vs i = some v ∧ Rep K F v d := by
  unfold L2.atI at e ⊢
  rw [h.length]
  cases e1 : ixN ds.length i with
  | none => rw [e1] at e; cases e
  | some j =>
    rw [e1] at e
    exact h.get e
theorem ix_ok : ∃ r, IxR X r ∧ Fn2 X.K ixD r := by
  refine ⟨_, ix_seq, fun F H x y d e c Q s h1 h2 he q => ?_⟩
  unfold ixD at he
  split at he
  · simp only [Option.map_eq_some_iff] at he
    obtain ⟨d, hd, rfl⟩ := he
    obtain ⟨a, vs, rfl, g1, g2⟩ := rb_lst s h1
    rename_i ds i
    have hg : ∃ v, L2.atI vs i = some v ∧ Q v H := by
      obtain ⟨v, e1, e2⟩ := g2.atI hd
      exact ⟨v, e1, gv s e2 q⟩
    obtain ⟨v, e1, e2⟩ := hg
    exact .inl ⟨a, vs, _, v, rfl, rb_int h2, g1, e1, e2⟩
  · simp only [Option.map_eq_some_iff] at he
    obtain ⟨d, hd, rfl⟩ := he
    obtain ⟨a, vs, rfl, g0, g1, g2⟩ := rb_tup s h1
    obtain ⟨v, e1, e2⟩ := g2.atI hd
    exact .inr (.inl ⟨a, vs, _, v, rfl, rb_int h2, g1, e1, gv s e2 q⟩)
  · split at he
    · simp only [Option.map_eq_some_iff] at he
      obtain ⟨d, hd, rfl⟩ := he
      exact .inr (.inr ⟨_, _, _, rb_str h1, rb_int h2, by assumption, hd, g_str s q⟩)
    · cases he
  · cases he
def cutL {α : Type} (xs : List α) (lo hi : Option Int) : List α := (xs.drop (HT.sIx xs.length 0 lo)).take (HT.sIx xs.length xs.length hi - HT.sIx xs.length 0 lo)
def slD : D → Option Int → Option Int → Option C
  | .list ds, lo, hi => some (.ls (cutL ds lo hi))
  | .tuple ds, lo, hi => some (.sh (.tuple (cutL ds lo hi)))
  | .str z, lo, hi => if z.length ≤ sizeLine then some (.sh (.str (cutS z lo hi))) else none
  | _, _, _ => none
abbrev PM := Cs → Option (Option Int × Cs)
def mNoP : PM := fun ε => some (none, ε)
def mPt (m : OM) : PM := fun ε => do
  let (o, ε1) ← m ε
  let d ← bor ε1 o
  match d with
    | .int i => some (some i, ε1)
    | _ => none
def tP (K : Ek) (m : PM) : TO := fun σ H Q => ∃ F R ε o ε', Sep K F R H σ ε [] ∧ m ε = some (o, ε') ∧ ∀ F' H', Same F F' → Sep K F' R H' σ ε' [] → Q o H'
theorem _root_.L2.PO.weak {e : Option Expr} {t t' : TO} (h : PO X e t) (w : ∀ σ H Q, t' σ H Q → t σ H Q) : PO X e t' := ⟨fun pins s σ H Q I q => h.run pins s σ H Q I (w σ H Q q)⟩
theorem mp_some {e : Expr} {m : OM} (h : PE X e (tO X.E m)) : PO X (some e) (tP X.E (mPt m)) := (po_some h).weak fun σ H Q h => by
  obtain ⟨F, R, ε, o, ε', ok, e, q⟩ := h
  unfold mPt at e
  cases e1 : m ε with
  | none => simp [e1] at e
  | some p =>
    obtain ⟨o1, ε1⟩ := p
    cases e2 : bor ε1 o1 with
    | none => simp [e1, e2] at e
    | some d =>
      simp only [e1, e2, Option.bind_eq_bind, Option.bind_some] at e
      split at e
      · rename_i i
        cases e
        refine ⟨F, R, ε, o1, _, ok, e1, fun v F1 H1 fm1 v1 s1 => ?_⟩
        have hb : bors ε' [o1] = some [.int i] := by simp [bors, e2]
        rw [← List.append_nil (tmO [o1] [v])] at s1
        obtain ⟨x, ex, rx⟩ := (bors_ok s1 v1 hb).one
        cases ex
        exact ⟨i, rb_int rx, q F1 H1 fm1 (s1.drops _)⟩
      · cases e
/-- the value is looked at behind the parts: it must be frozen, or a list of its own -/
def mSl (m : OM) (lo hi : PM) : EM := fun ε => do
  let (o, ε1) ← m ε
  let (l, ε2) ← lo ε1
  let (h, ε3) ← hi ε2
  let d ← bor ε3 o
  let c ← slD d l h
  some (c, ε3)
theorem Reps.cut {K : PySem.W.Frag} {F : Hp} {vs : List V} {ds : List D} (h : Reps K F vs ds) (lo hi : Option Int) : Reps K F (cutV vs lo hi) (cutL ds lo hi) := by
  unfold cutV cutL
  rw [h.length]
  exact Reps.take _ (Reps.drop _ h)
theorem cut_whole {α : Type} {xs : List α} {lo hi : Option Int} (h : HT.sIx xs.length 0 lo = 0 ∧ HT.sIx xs.length xs.length hi = xs.length) : cutL xs lo hi = xs := by
  unfold cutL
  rw [h.1, h.2]
  simp
def rSlH (K : PySem.W.Frag) : V → Option Int → Option Int → Hp → VK → Prop := fun x lo hi H Q => ∃ a xs, x = .ref a ∧ SqT K H a xs ∧
  (HT.sIx xs.length 0 lo = 0 ∧ HT.sIx xs.length xs.length hi = xs.length → Q (.ref a) H) ∧ (¬ (HT.sIx xs.length 0 lo = 0 ∧ HT.sIx xs.length xs.length hi = xs.length) → ∀ (p : Addr) (o : Obj), o.dict = none → H p = none → Q (.ref p) (upd H p (.frz o (.tup (cutV xs lo hi)))))
theorem sl_tupH : SlR X (rSlH X.K) := by
  rintro pins s σ H x v vl vu lo hi sl Q I rx hs pl pu ⟨a, xs, rfl, hx, q1, q2⟩
  cases rx
  obtain ⟨its, r, ht, hz⟩ := I.tuple hx
  have le : its.toArray.size = xs.length := by rw [List.size_toArray]; exact r.length.symm
  refine ⟨"tuple", _, PyProof.Rows.slot_tuple_getitem.lookup, ht.typeIs, ?_⟩
  by_cases hw : HT.sIx xs.length 0 lo = 0 ∧ HT.sIx xs.length xs.length hi = xs.length
  · exact getItem_tuple_whole ht hs pl pu (by rw [le]; exact hw) ⟨.ref a, H, I, rfl, q1 hw⟩
  · refine HT.getItem_tuple_cut ht hs pl pu (by rw [le]; exact hw) ?_ (by rw [le]; exact hz)
    rw [le]
    exact laidH I ((r.drop (HT.sIx xs.length 0 lo)).take (HT.sIx xs.length xs.length hi - HT.sIx xs.length 0 lo)) (Nat.le_trans (cutV_length xs lo hi) hz) (q2 hw)
def slR (K : PySem.W.Frag) : V → Option Int → Option Int → Hp → VK → Prop := fun x lo hi H Q => rSlL K x lo hi H Q ∨ rSlH K x lo hi H Q ∨ rSlS x lo hi H Q
theorem sl_fn {K : PySem.W.Frag} {F H : Hp} {x : V} {d : D} {c : C} {lo hi : Option Int} {Q : VK} (s : Same F H) (h1 : RepB K F H x d) (he : slD d lo hi = some c) (q : ∀ v F' H', Grow K F H F' H' v c → Q v H') : slR K x lo hi H Q := by
  unfold slD at he
  split at he
  · cases he
    obtain ⟨a, vs, rfl, g1, g2⟩ := rb_lst s h1
    exact .inl ⟨a, vs, rfl, g1, g_lst s (g2.cut _ _) q⟩
  · cases he
    obtain ⟨a, vs, rfl, g0, g1, g2⟩ := rb_tup s h1
    refine .inr (.inl ⟨a, vs, rfl, g1, fun hw => ?_, fun _ => g_tup s (g2.cut _ _) q⟩)
    rw [g2.length] at hw
    rw [cut_whole hw] at q
    exact gv s (d := .tuple _) ⟨a, vs, rfl, g0, g2⟩ q
  · split at he
    · cases he
      exact .inr (.inr ⟨_, rb_str h1, by assumption, g_str s q⟩)
    · cases he
  · cases he
/-- the operands wait aside -/
theorem Sep.hides {K : Ek} {H : Hp} {σ : St} {ε : Cs} : ∀ {T0 : Tms} {F R : Hp}, Sep K F R H σ ε T0 → ∃ R1, Sep K F R1 H σ ε [] ∧ ∀ F' H' σ' ε' T', Same F F' → Sep K F' R1 H' σ' ε' T' → Sep K F' R H' σ' ε' (T0 ++ T')
  | [], F, R, s => ⟨R, s, fun F' H' σ' ε' T' _ s' => s'⟩
  | (v, c) :: T0, F, R, s => by
    obtain ⟨R1, _, s1, b1⟩ := s.hide
    obtain ⟨R2, s2, b2⟩ := Sep.hides s1
    exact ⟨R2, s2, fun F' H' σ' ε' T' fm s' => b1 F' H' σ' ε' _ fm (b2 F' H' σ' ε' T' fm s')⟩
theorem me_slice {e : Expr} {lo hi : Option Expr} {m : OM} {ml mh : PM} {p2 pos : Pos} (he : PE X e (tO X.E m)) (hl : PO X lo (tP X.E ml)) (hh : PO X hi (tP X.E mh)) : PE X (.Subscript e (.Slice lo hi none p2) pos) (tE X.E (mSl m ml mh)) :=
  (pe_slice (sl_list.or (sl_tupH.or sl_str)) he hl hh).weak fun σ H Q h => by
    obtain ⟨F, R, ε, c, ε', ok, e, q⟩ := h
    unfold mSl at e
    cases e1 : m ε with
    | none => simp [e1] at e
    | some p =>
      obtain ⟨o, ε1⟩ := p
      cases e2 : ml ε1 with
      | none => simp [e1, e2] at e
      | some p2 =>
        obtain ⟨l, ε2⟩ := p2
        cases e3 : mh ε2 with
        | none => simp [e1, e2, e3] at e
        | some p3 =>
          obtain ⟨u, ε3⟩ := p3
          cases e4 : bor ε3 o with
          | none => simp [e1, e2, e3, e4] at e
          | some d =>
            cases e5 : slD d l u with
            | none => simp [e1, e2, e3, e4, e5] at e
            | some c' =>
              simp [e1, e2, e3, e4, e5] at e
              obtain ⟨rfl, rfl⟩ := e
              refine ⟨F, R, ε, o, ε1, ok, e1, fun v F1 H1 fm1 v1 s1 => ?_⟩
              obtain ⟨R1, s1', back⟩ := s1.hides
              refine ⟨F1, R1, ε1, l, ε2, s1', e2, fun F2 H2 fm2 s2 => ⟨F2, R1, ε2, u, ε3, s2, e3, fun F3 H3 fm3 s3 => ?_⟩⟩
              have s3' := back F3 H3 σ ε3 [] (fm2.trans fm3) s3
              have hb : bors ε3 [o] = some [d] := by simp [bors, e4]
              obtain ⟨x, ex, rx⟩ := (bors_ok s3' v1 hb).one
              cases ex
              refine sl_fn s3'.sub rx e5 fun w F4 H4 g => ?_
              exact q w F4 H4 (((fm1.trans fm2).trans fm3).trans g.fm) ((s3'.drops _).res g)
def lenD : List D → Option C
  | [.list ds] => some (.sh (.int ds.length))
  | [.tuple ds] => some (.sh (.int ds.length))
  | [.str z] => if z.length ≤ sizeLine then some (.sh (.int z.length)) else none
  | _ => none
theorem len_ok : ∃ r, CallR X (.builtin "len") r ∧ FnB X.K lenD r := by
  refine ⟨_, call_len, fun F H vs ds c Q s hr he q => ?_⟩
  match ds, he, hr with
  | [.list ds], he, hr =>
    cases he
    obtain ⟨x, rfl, h1⟩ := hr.one
    obtain ⟨a, vs, rfl, g1, g2⟩ := rb_lst s h1
    refine ⟨_, ds.length, rfl, .inl ⟨vs, g1, g2.length.symm⟩, g_int s q⟩
  | [.tuple ds], he, hr =>
    cases he
    obtain ⟨x, rfl, h1⟩ := hr.one
    obtain ⟨a, vs, rfl, g0, g1, g2⟩ := rb_tup s h1
    refine ⟨_, ds.length, rfl, .inr ⟨vs, g1, g2.length.symm⟩, g_int s q⟩
  | [.str z], he, hr =>
    simp only [lenD] at he
    split at he
    · rename_i hz
      cases he
      obtain ⟨x, rfl, h1⟩ := hr.one
      rw [rb_str h1]
      exact ⟨_, z.length, rfl, ⟨hz, rfl⟩, g_int s q⟩
    · cases he
def intD : List D → Option C
  | [.int i] => some (.sh (.int i))
  | [.bool k] => some (.sh (.int (if k then 1 else 0)))
  | _ => none
theorem int_ok : ∃ r, CallR X (.type "int") r ∧ FnB X.K intD r := by
  refine ⟨_, call_int1, fun F H vs ds c Q s hr he q => ?_⟩
  match ds, he, hr with
  | [.int i], he, hr =>
    cases he
    obtain ⟨x, rfl, h1⟩ := hr.one
    rw [rb_int h1]
    exact .inl ⟨i, rfl, g_int s q⟩
  | [.bool k], he, hr =>
    cases he
    obtain ⟨x, rfl, h1⟩ := hr.one
    rw [rb_bool h1]
    exact .inr ⟨k, rfl, g_int s q⟩
def maxD : List D → Option C
  | [.int i, .int j] => some (.sh (.int (if j > i then j else i)))
  | _ => none
theorem max_ok (hc : X.calm = true) : ∃ r, CallR X (.builtin "max") r ∧ FnB X.K maxD r := by
  refine ⟨_, call_max2 hc, fun F H vs ds c Q s hr he q => ?_⟩
  match ds, he, hr with
  | [.int i, .int j], he, hr =>
    cases he
    obtain ⟨x, y, rfl, h1, h2⟩ := hr.two
    rw [rb_int h1, rb_int h2]
    exact ⟨i, j, rfl, g_int s q⟩
def minD : List D → Option C
  | [.int i, .int j] => some (.sh (.int (if j < i then j else i)))
  | _ => none
theorem min_ok (hc : X.calm = true) : ∃ r, CallR X (.builtin "min") r ∧ FnB X.K minD r := by
  refine ⟨_, call_min2 hc, fun F H vs ds c Q s hr he q => ?_⟩
  match ds, he, hr with
  | [.int i, .int j], he, hr =>
    cases he
    obtain ⟨x, y, rfl, h1, h2⟩ := hr.two
    rw [rb_int h1, rb_int h2]
    exact ⟨i, j, rfl, g_int s q⟩
def absD : List D → Option C
  | [.int i] => some (.sh (.int (if i < 0 then -i else i)))
  | _ => none
theorem abs_ok : ∃ r, CallR X (.builtin "abs") r ∧ FnB X.K absD r := by
  refine ⟨_, call_abs, fun F H vs ds c Q s hr he q => ?_⟩
  match ds, he, hr with
  | [.int i], he, hr =>
    cases he
    obtain ⟨x, rfl, h1⟩ := hr.one
    rw [rb_int h1]
    exact ⟨i, rfl, g_int s q⟩
def tupD : List D → Option C
  | [.list ds] => some (.sh (.tuple ds))
  | [.tuple ds] => some (.sh (.tuple ds))
  | _ => none
theorem call_tupleH : CallR X (.type "tuple") (fun xs H Q => ∃ p ys, xs = [.ref p] ∧ ((SqL X.K H p ys ∧ ∀ (l : Addr) (o : Obj), o.dict = none → H l = none → Q (.ref l) (upd H l (.frz o (.tup ys)))) ∨ (SqT X.K H p ys ∧ Q (.ref p) H))) := by
  rintro pins s σ H xs us Q I r ⟨p, ys, rfl, h⟩
  obtain ⟨u, rfl, rx⟩ := vals1 r
  cases rx
  rcases h with ⟨hq, q⟩ | ⟨hq, q⟩
  · obtain ⟨its, r', pl, hz⟩ := I.list hq
    have le := r'.length
    refine call_tuple_list pl.isList (fun h' kp => ?_) (by simp only [List.size_toArray] <;> omega)
    have I1 : Inv X pins σ H { s with heap := h' } := I.kept (t' := s.toks) kp
    exact laidH I1 r' hz q
  · obtain ⟨its, r', pl, hz⟩ := I.tuple hq
    exact call_tuple_same pl ⟨.ref p, H, I, rfl, q⟩
theorem tup_ok : ∃ r, CallR X (.type "tuple") r ∧ FnB X.K tupD r := by
  refine ⟨_, call_tupleH, fun F H vs ds c Q s hr he q => ?_⟩
  match ds, he, hr with
  | [.list ds], he, hr =>
    cases he
    obtain ⟨x, rfl, h1⟩ := hr.one
    obtain ⟨a, vs, rfl, g1, g2⟩ := rb_lst s h1
    exact ⟨a, vs, rfl, .inl ⟨g1, g_tup s g2 q⟩⟩
  | [.tuple ds], he, hr =>
    cases he
    obtain ⟨x, rfl, h1⟩ := hr.one
    obtain ⟨a, vs, rfl, g0, g1, g2⟩ := rb_tup s h1
    exact ⟨a, vs, rfl, .inr ⟨g1, gv s (d := .tuple _) ⟨a, vs, rfl, g0, g2⟩ q⟩⟩
def lstD : List D → Option C
  | [.list ds] => some (.ls ds)
  | [.tuple ds] => some (.ls ds)
  | _ => none
theorem lst_ok : ∃ r, CallR X (.type "list") r ∧ FnB X.K lstD r := by
  refine ⟨_, call_list_of, fun F H vs ds c Q s hr he q => ?_⟩
  match ds, he, hr with
  | [.list ds], he, hr =>
    cases he
    obtain ⟨x, rfl, h1⟩ := hr.one
    obtain ⟨a, vs, rfl, g1, g2⟩ := rb_lst s h1
    exact ⟨a, vs, rfl, .inl g1, g_lst s g2 q⟩
  | [.tuple ds], he, hr =>
    cases he
    obtain ⟨x, rfl, h1⟩ := hr.one
    obtain ⟨a, vs, rfl, g0, g1, g2⟩ := rb_tup s h1
    exact ⟨a, vs, rfl, .inr g1, g_lst s g2 q⟩
def repD : List D → Option C
  | [.none] => some (.sh (.str "None"))
  | [.bool b] => some (.sh (.str (if b then "True" else "False")))
  | [.int i] => if sm i then some (.sh (.str (toString i))) else none
  | _ => none
theorem rep_ok : ∃ r, CallR X (.builtin "repr") r ∧ FnB X.K repD r := by
  refine ⟨fun xs H Q => (xs = [.non] ∧ Q (.str "None") H) ∨ (∃ b, xs = [.bl b] ∧ Q (.str (if b then "True" else "False")) H) ∨ (∃ i, xs = [.int i] ∧ i.natAbs.log2 < 1920 ∧ Q (.str (toString i)) H), ?_, fun F H vs ds c Q s hr he q => ?_⟩
  · intro pins s σ H xs us Q I r h
    rcases h with ⟨rfl, q⟩ | ⟨b, rfl, q⟩ | ⟨i, rfl, hz, q⟩
    · obtain ⟨u, rfl, h⟩ := vals1 r
      cases h
      exact PySem.P.repr_of_none ⟨.str _, H, I.tok _, ⟨_, rfl⟩, q⟩
    · obtain ⟨u, rfl, h⟩ := vals1 r
      cases h
      exact PySem.P.repr_of_bool ⟨.str _, H, I.tok _, ⟨_, rfl⟩, q⟩
    · obtain ⟨u, rfl, t, rfl⟩ := vals1 r
      exact PySem.P.repr_of_int hz ⟨.str _, H, I.tok _, ⟨_, rfl⟩, q⟩
  match ds, he, hr with
  | [.none], he, hr =>
    cases he
    obtain ⟨x, rfl, h1⟩ := hr.one
    rw [rb_non h1]
    exact .inl ⟨rfl, g_str s q⟩
  | [.bool b], he, hr =>
    cases he
    obtain ⟨x, rfl, h1⟩ := hr.one
    rw [rb_bool h1]
    exact .inr (.inl ⟨b, rfl, g_str s q⟩)
  | [.int i], he, hr =>
    simp only [repD] at he
    split at he
    · rename_i hz
      cases he
      obtain ⟨x, rfl, h1⟩ := hr.one
      rw [rb_int h1]
      exact .inr (.inr ⟨i, rfl, by have := log2_le hz.1 hz.2; omega, g_str s q⟩)
    · cases he
end
end L2.M
namespace L2.M
open PySem PySem.Spec PyProof.Rows
abbrev BM := D → Cs → Option Cs
def bNm (i : Nat) : BM := fun d ε => if i < ε.length then some (ε.set i (.sh d)) else none
def bTps : List BM → List D → Cs → Option Cs
  | [], [], ε => some ε
  | b :: bs, d :: ds, ε => do
    let ε1 ← b d ε
    bTps bs ds ε1
  | _, _, _ => none
def bTup (bs : List BM) : BM := fun d ε => match d with
  | .tuple ds => if ds.length = bs.length then bTps bs ds ε else none
  | _ => none
/-- what a target leaves: the slots but S stay -/
structure Bnd (K : Ek) (F R H : Hp) (S : Nat → Prop) (σ : St) (ε : Cs) (H' : Hp) (σ' : St) (ε' : Cs) : Prop where
  sep : Sep K F R H' σ' ε' []
  st : ∀ i : Nat, ¬ S i → σ'[i]? = σ[i]?
  ln : σ'.length = σ.length
def Gd (K : Ek) (g : TG) (b : BM) (S : Nat → Prop) : Prop :=
  ∀ F R H σ ε x d ε' (Q : St → Hp → Prop), Sep K F R H σ ε [] → Rep K.1 F x d → b d ε = some ε' → (∀ H' σ', Bnd K F R H S σ ε H' σ' ε' → Q σ' H') → g x σ H Q
def Gds (K : Ek) (g : TGs) (b : List D → Cs → Option Cs) (S : Nat → Prop) : Prop :=
  ∀ F R H σ ε xs ds ε' (Q : St → Hp → Prop), Sep K F R H σ ε [] → Reps K.1 F xs ds → b ds ε = some ε' → (∀ H' σ', Bnd K F R H S σ ε H' σ' ε' → Q σ' H') → g xs σ H Q
section
variable {K : Ek} {F R H H1 H2 : Hp} {σ σ1 σ2 : St} {ε ε1 ε2 : Cs} {S S' : Nat → Prop}
theorem Bnd.trans (a : Bnd K F R H S σ ε H1 σ1 ε1) (b : Bnd K F R H1 S σ1 ε1 H2 σ2 ε2) : Bnd K F R H S σ ε H2 σ2 ε2 :=
  ⟨b.sep, fun i h => (b.st i h).trans (a.st i h), b.ln.trans a.ln⟩
theorem Bnd.imp (a : Bnd K F R H S σ ε H1 σ1 ε1) (h : ∀ i, S i → S' i) : Bnd K F R H S' σ ε H1 σ1 ε1 := ⟨a.sep, fun i n => a.st i fun z => n (h i z), a.ln⟩
theorem gd_name {i : Nat} : Gd K (gName i) (bNm i) (· = i) := by
  intro F R H σ ε x d ε' Q o r e q
  unfold bNm at e
  split at e
  · cases e
    exact q H _ ⟨(o.addSh r).store i, fun j h => List.getElem?_set_ne (Ne.symm h), by simp⟩
  · cases e
theorem gds_nil : Gds K gNil (bTps []) (fun _ => False) := by
  intro F R H σ ε xs ds ε' Q o r e q
  cases ds with
  | nil =>
    cases e
    exact ⟨r, q H σ ⟨o, fun _ _ => rfl, rfl⟩⟩
  | cons _ _ => simp [bTps] at e
theorem gds_cons {t : TG} {u : TGs} {b : BM} {bs : List BM} (h1 : Gd K t b S) (h2 : Gds K u (bTps bs) S') : Gds K (gCons t u) (bTps (b :: bs)) (fun i => S i ∨ S' i) := by
  intro F R H σ ε xs ds ε' Q o r e q
  cases ds with
  | nil => simp [bTps] at e
  | cons d ds =>
    obtain ⟨v, vr, rfl, r1, r2⟩ := r
    unfold bTps at e
    cases e1 : b d ε with
    | none => simp [e1] at e
    | some ε1 =>
      simp [e1] at e
      refine ⟨v, vr, rfl, h1 F R H σ ε v d ε1 _ o r1 e1 fun H1 σ1 b1 => ?_⟩
      exact h2 F R H1 σ1 ε1 vr ds ε' Q b1.sep r2 e fun H2 σ2 b2 => q H2 σ2 ((b1.imp fun _ z => .inl z).trans (b2.imp fun _ z => .inr z))
theorem gd_tup {t : TGs} {bs : List BM} {n : Nat} (hn : n = bs.length) (h : Gds K t (bTps bs) S) : Gd K (gTup K.1 n t) (bTup bs) S := by
  intro F R H σ ε x d ε' Q o r e q
  unfold bTup at e
  split at e
  · rename_i ds
    split at e
    · rename_i hl
      obtain ⟨a, vs, rfl, h1, h2⟩ := r
      exact ⟨a, vs, rfl, sameT o.sub h1.sq, by rw [h2.length, hl, hn], h F R H σ ε vs ds ε' Q o h2 e q⟩
    · cases e
  · cases e
end
def Src (K : Ek) (F R H : Hp) (σ : St) (ε : Cs) (J : It) (ds : List D) (ws : List Nat) : Prop :=
  ∃ G Y, Walk J ds.length G Y ∧ ∀ F2 H2 σ2 ε2, Same F F2 → Sep K F2 R H2 σ2 ε2 [] → (∀ i ∈ ws, σ2[i]? = σ[i]? ∧ ε2[i]? = ε[i]?) →
    G H2 ∧ ∀ i x H3, i < ds.length → Y i H2 x H3 → ∃ F3 d, ds[i]? = some d ∧ Rep K.1 F3 x d ∧ Grw F2 H2 F3 H3
/-- what waits aside comes back -/
def Back (K : Ek) (F R1 R : Hp) : Prop := ∀ F' H' σ' ε' T', Same F F' → Sep K F' R1 H' σ' ε' T' → Sep K F' R H' σ' ε' T'
abbrev SM := Cs → Option ((List D × List Nat) × Cs)
def tI (K : Ek) (m : SM) : TI := fun σ H Q => ∃ F R ε ds ws ε', Sep K F R H σ ε [] ∧ m ε = some ((ds, ws), ε') ∧ ∀ F' R' H' J, Same F F' → Sep K F' R' H' σ ε' [] → Back K F' R' R → Src K F' R' H' σ ε' J ds ws → Q J H'
def plOf : List Opd → List Nat
  | [] => []
  | .pl i :: os => i :: plOf os
  | .tm _ :: os => plOf os
def mSrc (kind : List D → Option (List D)) (ma : AM) : SM := fun ε => do
  let (os, ε1) ← ma ε
  let ds ← bors ε1 os
  let out ← kind ds
  some ((out, plOf os), ε1)
/-- the operands, looked at later -/
def Later (K : Ek) (F R : Hp) (σ : St) (ε : Cs) (ws : List Nat) (vs : List V) (ds : List D) : Prop := ∀ F2 H2 σ2 ε2, Same F F2 → Sep K F2 R H2 σ2 ε2 [] → (∀ i ∈ ws, σ2[i]? = σ[i]? ∧ ε2[i]? = ε[i]?) → RepBs K.1 F2 H2 vs ds
theorem opv_to {σ σ2 : St} : ∀ {os : List Opd} {vs : List V}, OpV σ vs os → (∀ i ∈ plOf os, σ2[i]? = σ[i]?) → OpV σ2 vs os
  | [], vs, h, k => by cases h; exact .nil
  | _ :: os, vs, h, k => by
    cases h with
    | pl hv h2 => exact .pl ((k _ (by simp [plOf])).trans hv) (opv_to h2 fun i hi => k i (by simp [plOf, hi]))
    | tm h2 => exact .tm (opv_to h2 k)
theorem bors_to {ε ε2 : Cs} : ∀ {os : List Opd} {ds : List D}, bors ε os = some ds → (∀ i ∈ plOf os, ε2[i]? = ε[i]?) → bors ε2 os = some ds
  | [], ds, h, k => h
  | o :: os, ds, h, k => by
    unfold bors at h ⊢
    have e1 : bor ε2 o = bor ε o := by
      cases o with
      | pl i => simp only [bor, k i (by simp [plOf])]
      | tm c => cases c <;> rfl
    have hk : ∀ i ∈ plOf os, ε2[i]? = ε[i]? := fun i hi => k i (by
      cases o with
      | pl j => simp [plOf, hi]
      | tm c => exact hi)
    rw [e1]
    cases e2 : bor ε o with
    | none => simp [e2] at h
    | some d =>
      cases e3 : bors ε os with
      | none => simp [e2, e3] at h
      | some ds2 =>
        rw [bors_to e3 hk]
        simpa [e2, e3] using h
theorem later_ok {K : Ek} {F R H : Hp} {σ : St} {ε : Cs} {os : List Opd} {vs : List V} {ds : List D} (s : Sep K F R H σ ε (tmO os vs)) (h : OpV σ vs os) (e : bors ε os = some ds) :
    ∃ R1, Sep K F R1 H σ ε [] ∧ Back K F R1 R ∧ Later K F R1 σ ε (plOf os) vs ds := by
  obtain ⟨R1, s1, back⟩ := s.hides
  refine ⟨R1, s1, fun F' H' σ' ε' T' fm s' => (back F' H' σ' ε' T' fm s').drops _, fun F2 H2 σ2 ε2 fm s2 k => ?_⟩
  exact bors_ok (back F2 H2 σ2 ε2 [] fm s2) (opv_to h fun i hi => (k i hi).1) (bors_to e fun i hi => (k i hi).2)
def itemsD : List D → Option (List D)
  | [.list ds] => some ds
  | [.tuple ds] => some ds
  | [.str z] => some (z.cps.toList.map fun c => .str ⟨#[c]⟩)
  | _ => none
def rangeD (lo c : Int) (n : Nat) : List D := (List.range n).map fun i => PyData.int (lo + (i : Nat) * c)
def rng1D : List D → Option (List D)
  | [.int j] => if -(2 ^ 62) ≤ j ∧ j < 2 ^ 62 then some (rangeD 0 1 j.toNat) else none
  | _ => none
theorem _root_.L2.PI.or {X : Cx} {tg e : Expr} {w1 w2 : TI} (a : PI X tg e w1) (b : PI X tg e w2) : PI X tg e (fun σ H R => w1 σ H R ∨ w2 σ H R) :=
  ⟨fun pins s σ H R I h => h.elim (a.run pins s σ H R I) (b.run pins s σ H R I)⟩
theorem _root_.L2.PI.weak {X : Cx} {tg e : Expr} {w1 w2 : TI} (a : PI X tg e w1) (h : ∀ σ H R, w2 σ H R → w1 σ H R) : PI X tg e w2 := ⟨fun pins s σ H R I q => a.run pins s σ H R I (h σ H R q)⟩
theorem src_parts {K : Ek} {kind : List D → Option (List D)} {ma : AM} {σ : St} {H : Hp} {Q : It → Hp → Prop} (h : tI K (mSrc kind ma) σ H Q) : tA K ma σ H fun vs H1 => ∃ F R ε ws ds out, Sep K F R H1 σ ε [] ∧ Later K F R σ ε ws vs ds ∧ kind ds = some out ∧
    ∀ F' H' J, Same F F' → Sep K F' R H' σ ε [] → Src K F' R H' σ ε J out ws → Q J H' := by
  obtain ⟨F, R, ε, ds, ws, ε', o, e, q⟩ := h
  unfold mSrc at e
  cases e1 : ma ε with
  | none => simp [e1] at e
  | some p =>
    obtain ⟨os, ε1⟩ := p
    cases e2 : bors ε1 os with
    | none => simp [e1, e2] at e
    | some ds' =>
      cases e3 : kind ds' with
      | none => simp [e1, e2, e3] at e
      | some out =>
        simp [e1, e2, e3] at e
        obtain ⟨⟨rfl, rfl⟩, rfl⟩ := e
        refine ⟨F, R, ε, os, ε1, o, e1, fun vs F1 H1 fm1 v1 s1 => ?_⟩
        obtain ⟨R1, s2, bk, lt⟩ := later_ok s1 v1 e2
        exact ⟨F1, R1, ε1, plOf os, ds', out, s2, lt, e3, fun F' H' J fm s' sr => q F' R1 H' J (fm1.trans fm) s' (fun F2 H2 σ2 ε2 T2 fm2 => bk F2 H2 σ2 ε2 T2 (fm.trans fm2)) sr⟩
theorem Later.now {K : Ek} {F R H : Hp} {σ : St} {ε : Cs} {ws : List Nat} {vs : List V} {ds : List D} (l : Later K F R σ ε ws vs ds) (s : Sep K F R H σ ε []) : RepBs K.1 F H vs ds := l F H σ ε (Same.refl F) s fun _ _ => ⟨rfl, rfl⟩
theorem walkL {K : PySem.W.Frag} {a : Addr} {n : Nat} : Walk (Itl K a) n (fun H => ∃ vs, SqL K H a vs ∧ vs.length = n) (fun i H x H' => H' = H ∧ ∀ vs, SqL K H a vs → vs[i]? = some x) :=
  ⟨fun i _ hi ⟨vs, q, e⟩ => ⟨vs, vs[i]'(by omega), q, by simp [show i < vs.length by omega]⟩, fun _ ⟨vs, q, e⟩ => ⟨vs, q, by omega⟩, fun _ _ _ _ _ _ y => y⟩
theorem RepBs.inj1 {K : PySem.W.Frag} {F H : Hp} {x : V} {d : D} (h : RepBs K F H [x] [d]) : RepB K F H x d := by
  cases h with
  | cons h _ => exact h
section
variable {X : Cx} {tg e : Expr} {m : OM} {ma : AM}
/-- for x in e, e a list, a tuple or a text -/
theorem mi_any (h : PE X e (tO X.E m)) : PI X tg e (tI X.E (mSrc itemsD (mCons m mNil))) := by
  refine ((pi_list h).or ((pi_tup h).or (pi_str h))).weak fun σ H Q q => ?_
  -- the data of the operand is told ahead
  obtain ⟨F0, R0, ε0, ds0, ws0, ε0', s0, e0, q0⟩ := q
  unfold mSrc mCons mNil at e0
  cases em : m ε0 with
  | none => simp [em] at e0
  | some p =>
    obtain ⟨o0, εm⟩ := p
    cases eb : bor εm o0 with
    | none => simp [em, bors, eb] at e0
    | some d =>
      cases ek : itemsD [d] with
      | none => simp [em, bors, eb, ek] at e0
      | some out =>
        simp [em, bors, eb, ek] at e0
        obtain ⟨⟨rfl, rfl⟩, rfl⟩ := e0
        have hb : bors εm [o0] = some [d] := by simp [bors, eb]
        have go : ∀ v F' H', Same F0 F' → OpV σ [v] [o0] → Sep X.E F' R0 H' σ εm (tmO [o0] [v]) → ∃ R1, Sep X.E F' R1 H' σ εm [] ∧ Later X.E F' R1 σ εm (plOf [o0]) [v] [d] ∧ ∀ J, Src X.E F' R1 H' σ εm J out (plOf [o0]) → Q J H' := fun v F' H' fm v1 s1 => by
          obtain ⟨R1, s2, bk, lt⟩ := later_ok s1 v1 hb
          exact ⟨R1, s2, lt, fun J sr => q0 F' R1 H' J fm s2 bk sr⟩
        match d, ek with
        | .list ds, ek =>
          cases ek
          refine .inl ⟨F0, R0, ε0, o0, εm, s0, em, fun v F1 H1 fm1 v1 s1 => ?_⟩
          obtain ⟨R1, s2, lt, q3⟩ := go v F1 H1 fm1 v1 s1
          obtain ⟨a, vs, rfl, g1, g2⟩ := rb_lst s2.sub (lt.now s2).inj1
          refine ⟨a, rfl, ⟨vs, g1⟩, q3 _ ⟨_, _, walkL, fun F2 H2 σ2 ε2 fm2 s3 hw => ?_⟩⟩
          obtain ⟨a', us, ea, k1, k2⟩ := rb_lst s3.sub (lt F2 H2 σ2 ε2 fm2 s3 hw).inj1
          cases ea
          refine ⟨⟨us, k1, k2.length⟩, fun i x H3 hi y => ?_⟩
          obtain ⟨rfl, y⟩ := y
          obtain ⟨w, j1, j2⟩ := k2.get (List.getElem?_eq_getElem hi)
          rw [y us k1] at j1
          cases j1
          exact ⟨F2, _, List.getElem?_eq_getElem hi, j2, Grw.refl s3.sub⟩
        | .tuple ds, ek =>
          cases ek
          refine .inr (.inl ⟨F0, R0, ε0, o0, εm, s0, em, fun v F1 H1 fm1 v1 s1 => ?_⟩)
          obtain ⟨R1, s2, lt, q3⟩ := go v F1 H1 fm1 v1 s1
          obtain ⟨a, vs, rfl, h2, _, h3⟩ := rb_tup s2.sub (lt.now s2).inj1
          refine ⟨a, rfl, ⟨vs, sameT s2.sub h2.sq⟩, q3 _ ⟨_, _, (show Walk (Itt X.K a) out.length (fun H => SqT X.K H a vs) (YAt vs) by rw [← h3.length]; exact walk_tup), fun F2 H2 σ2 ε2 fm2 s3 hw => ?_⟩⟩
          refine ⟨sameT s3.sub (sameT fm2 h2.sq), fun i x H3 hi y => ?_⟩
          obtain ⟨rfl, y⟩ := y
          obtain ⟨w, k1, k2⟩ := h3.get (List.getElem?_eq_getElem hi)
          rw [y] at k1
          cases k1
          exact ⟨F2, _, List.getElem?_eq_getElem hi, Rep.mono fm2 _ _ k2, Grw.refl s3.sub⟩
        | .str z, ek =>
          cases ek
          refine .inr (.inr ⟨F0, R0, ε0, o0, εm, s0, em, fun v F1 H1 fm1 v1 s1 => ?_⟩)
          obtain ⟨R1, s2, lt, q3⟩ := go v F1 H1 fm1 v1 s1
          refine ⟨z, rb_str (lt.now s2).inj1, q3 _ ⟨_, _, (show Walk (Its z) (z.cps.toList.map fun c => PyData.str ⟨#[c]⟩).length _ _ by rw [List.length_map, Array.length_toList]; exact walk_str), fun F2 H2 σ2 ε2 fm2 s3 hw => ?_⟩⟩
          refine ⟨trivial, fun i x H3 hi y => ?_⟩
          obtain ⟨rfl, c, y1, rfl⟩ := y
          refine ⟨F2, .str ⟨#[c]⟩, ?_, by simp [Rep], Grw.refl s3.sub⟩
          rw [List.getElem?_map, Array.getElem?_toList, y1]
          rfl
theorem src_range {K : Ek} {F R H : Hp} {σ : St} {ε : Cs} {lo : Int} {n : Nat} {ws : List Nat} : Src K F R H σ ε (Itr lo n) (rangeD lo 1 n) ws := by
  refine ⟨_, _, (show Walk (Itr lo n) (rangeD lo 1 n).length (fun _ => True) (YFn fun i => .int (lo + i)) by simp only [rangeD, List.length_map, List.length_range]; exact walk_range), fun F2 H2 σ2 ε2 fm2 s2 _ => ⟨trivial, fun i x H3 hi y => ?_⟩⟩
  obtain ⟨rfl, rfl⟩ := y
  refine ⟨F2, .int (lo + i), ?_, by simp [Rep], Grw.refl s2.sub⟩
  simp only [rangeD, List.length_map, List.length_range] at hi
  simp [rangeD, hi]
theorem mi_range1 {a : Expr} {p pos : Pos} (hg : Gl X "range") (hm : X.mg "range" = none) (ha : PA X [a] (tA X.E ma)) (hs : starEach [a] X.env = [(false, eval a X.env)]) : PI X tg (.Call (.Name "range" p) [a] [] pos) (tI X.E (mSrc rng1D ma)) := by
  refine (pi_range1 hg hm ha hs).weak fun σ H Q q => tA_mono (src_parts q) fun vs H1 h => ?_
  obtain ⟨F, R, ε, ws, ds, out, s, lt, ek, q⟩ := h
  have rb := lt.now s
  match ds, ek, rb with
  | [.int j], ek, rb =>
    simp only [rng1D] at ek
    split at ek
    · rename_i hj
      cases ek
      obtain ⟨x, rfl, h1⟩ := rb.one
      exact ⟨j, by rw [rb_int h1], hj.1, hj.2, q F H1 _ (Same.refl F) s src_range⟩
    · cases ek
end
end L2.M
namespace L2.M
open PySem PySem.Spec PyProof.Rows
def wipeC (ε : Cs) : List Nat → Cs
  | [] => ε
  | v :: vs => (wipeC ε vs).set v .no
def restC (ε ε1 : Cs) : List Nat → Cs
  | [] => ε
  | v :: vs => match ε1[v]? with
    | some c => (restC ε ε1 vs).set v c
    | none => restC ε ε1 vs
def sameC (ws : List Nat) (ε0 ε : Cs) : Prop := ∀ i ∈ ws, ε[i]? = ε0[i]?
open Classical in
noncomputable def lcL (ws : List Nat) (ε0 : Cs) (bind : BM) (tests : TM) (elt : EM) (own : List Nat) : List D → Nat → Cs → Option (List D × Cs)
  | [], _, ε => if sameC ws ε0 ε then some ([], ε) else none
  | d :: ds, n, ε => if sameC ws ε0 ε then do
      let ε1 ← bind d ε
      let (b, ε2) ← tests ε1
      if b then do
        let (c, ε3) ← elt ε2
        let e ← cD c
        if n < sizeLine then do
          let (r, ε4) ← lcL ws ε0 bind tests elt own ds (n + 1) (wipeC ε3 own)
          some (e :: r, ε4)
        else none
      else lcL ws ε0 bind tests elt own ds n (wipeC ε2 own)
    else none
noncomputable def mLc (src : SM) (bind : BM) (tests : TM) (elt : EM) (own : List Nat) : EM := fun ε => do
  let ((ds, ws), ε1) ← src ε
  if ws.all (fun i => !own.contains i) then do
    let (out, ε2) ← lcL ws ε1 bind tests elt own ds 0 (wipeC ε1 own)
    some (.ls out, restC ε2 ε1 own)
  else none
def mYes : TM := fun ε => some (true, ε)
section
variable {K : Ek} {F R H H' : Hp} {σ : St} {ε : Cs} {T : Tms} {v : V} {c : C} {a : Addr}
theorem rpcs_sh : ∀ {ds : List D} {vs : List V}, Reps K.1 F vs ds → RpCs K F H (vs.map some) (ds.map .sh) (List.replicate ds.length [])
  | [], vs, h => by cases (show vs = [] from h); exact ⟨rfl, rfl⟩
  | d :: ds, vs, ⟨v, r, h1, h2, h3⟩ => by
    subst h1
    exact ⟨some v, r.map some, [], _, rfl, rfl, ⟨rfl, v, rfl, h2⟩, rpcs_sh h3⟩
theorem flat_rep (n : Nat) : (List.replicate n ([] : List Addr)).flatten = [] := by
  induction n with
  | zero => rfl
  | succ n ih => rw [List.replicate_succ, List.flatten_cons, ih]; rfl
theorem rpcs_sh' : ∀ {ds : List D} {vs : List V} {fs : List (List Addr)}, RpCs K F H (vs.map some) (ds.map .sh) fs → Reps K.1 F vs ds ∧ fs.flatten = []
  | [], vs, fs, ⟨h1, h2⟩ => by
    rw [h2]
    exact ⟨show vs = [] by simpa using h1, rfl⟩
  | d :: ds, vs, fs, ⟨o, r, f, fr, h1, h2, ⟨h3, w, h4, h5⟩, h6⟩ => by
    cases vs with
    | nil => cases h1
    | cons v vs =>
      obtain ⟨rfl, rfl⟩ := List.cons.inj h1
      cases h4
      obtain ⟨k1, k2⟩ := rpcs_sh' h6
      exact ⟨⟨_, vs, rfl, h5, k1⟩, by rw [h2, List.flatten_cons, h3, k2]; rfl⟩
theorem rpc_toN {ds : List D} {o : Option V} {A : List Addr} (h : RpC K F H o (.ls ds) A) : RpC K F H o (.ob .ls (ds.map .sh)) A := by
  obtain ⟨a, vs, h1, h2, h3, h4⟩ := h
  exact ⟨a, vs, _, h1, by rw [flat_rep]; exact h2, h3, rpcs_sh h4⟩
theorem rpc_ofN {ds : List D} {o : Option V} {A : List Addr} (h : RpC K F H o (.ob .ls (ds.map .sh)) A) : RpC K F H o (.ls ds) A := by
  obtain ⟨a, vs, fs, h1, h2, h3, h4⟩ := h
  obtain ⟨k1, k2⟩ := rpcs_sh' h4
  exact ⟨a, vs, h1, by rw [h2, k2], h3, k1⟩
/-- a temporary's cell told otherwise -/
theorem Sep.recell {c' : C} (s : Sep K F R H σ ε ((v, c) :: T)) (h : ∀ A, RpC K F H (some v) c A → RpC K F H (some v) c' A) : Sep K F R H σ ε ((v, c') :: T) :=
  Sep.change (T1 := [(v, c)]) s fun gs k n _ => by
    obtain ⟨o, r, f, fr, e1, e2, k1, k2, k3⟩ := k
    obtain ⟨rfl, rfl⟩ := List.cons.inj e1
    subst e2 k3
    have e : ([f] : List (List Addr)).flatten = f := by simp
    rw [e] at n ⊢
    exact ⟨f, h f k1, n, fun b hb => .inl hb, fun b u _ e => e⟩
/-- one thing more in a list of own things -/
theorem Sep.appN {acc : List C} (s : Sep K F R H σ ε ((v, c) :: (.ref a, .ob .ls acc) :: T)) : ∃ ws, H a = some (.lst ws) ∧ ws.length = acc.length ∧ Sep K F R (upd H a (.lst (ws ++ [v]))) σ ε ((.ref a, .ob .ls (acc ++ [c])) :: T) := by
  obtain ⟨f0, ⟨a0, ws, fs0, e0, _, h0, r0⟩, _⟩ := s.drop.headT
  cases e0
  have h0 : H a = some (.lst ws) := h0
  refine ⟨ws, h0, by simpa using r0.len.1, ?_⟩
  refine Sep.change (T1 := [(v, c), (.ref a, .ob .ls acc)]) s fun gs k n _ => ?_
  obtain ⟨o, r, f, fr, e1, e2, k1, o', r', f', fr', e1', e2', k2, k3, k4⟩ := k
  obtain ⟨rfl, rfl⟩ := List.cons.inj e1
  obtain ⟨rfl, rfl⟩ := List.cons.inj e1'
  subst e2' e2 k4
  obtain ⟨b, us, fs, g1, g2, g3, g4⟩ := k2
  cases g1
  have g3 : H a = some (.lst us) := g3
  rw [h0] at g3
  cases g3
  have e : ([f, f'] : List (List Addr)).flatten = f ++ a :: fs.flatten := by simp [g2]
  rw [e] at n ⊢
  rw [List.nodup_append] at n
  obtain ⟨n1, n2, n3⟩ := n
  rw [List.nodup_cons] at n2
  have m1 : ∀ b ∈ f, b ≠ a := fun b hb => n3 b hb a List.mem_cons_self
  have m2 : ∀ b ∈ fs.flatten, b ≠ a := fun b hb z => n2.1 (z ▸ hb)
  refine ⟨a :: (fs ++ [f]).flatten, ⟨a, ws ++ [v], fs ++ [f], rfl, rfl, upd_same, ?_⟩, ?_, fun b hb => ?_, fun b u hb e => ?_⟩
  · rw [List.map_append]
    refine RpCs.append (RpCs.frame (Same.refl F) (fun b hb => upd_ne (m2 b hb)) g4) ⟨some v, [], f, [], rfl, rfl, RpC.frame (Same.refl F) (fun b hb => upd_ne (m1 b hb)) k1, rfl, rfl⟩
  · rw [List.flatten_append, List.nodup_cons, List.nodup_append]
    refine ⟨fun z => ?_, n2.2, by simpa using n1, fun x hx y hy z => ?_⟩
    · rcases List.mem_append.mp z with z | z
      · exact n2.1 z
      · exact m1 a (by simpa using z) rfl
    · have hy : y ∈ f := by simpa using hy
      exact n3 y hy x (List.mem_cons_of_mem _ hx) z.symm
  · left
    simp only [List.mem_cons, List.flatten_append, List.mem_append, List.flatten_cons, List.flatten_nil, List.append_nil] at hb ⊢
    rcases hb with hb | hb | hb
    · exact .inr (.inl hb)
    · exact .inr (.inr hb)
    · exact .inl hb
  · rw [upd_ne]
    · exact e
    · rintro rfl
      exact hb (by simp)
end
section
variable {K : Ek} {F R H : Hp} {σ : St} {ε : Cs} {T : Tms}
/-- a slot of which nothing is told may hold anything -/
theorem Sep.free (s : Sep K F R H σ ε T) {i : Nat} (h : ε[i]? = some .no) (o : Option V) : Sep K F R H (σ.set i o) ε T := by
  obtain ⟨a1, a2, a3, ⟨fs, gs, h1, h2, n, m⟩⟩ := s
  obtain ⟨o', f, e1, e2, e3⟩ := h1.get h
  have h1' := RpCs.set (o := o) (c := .no) (f := f) (K := K) (F := F) (H := H) e3 i h1
  rw [set_same h, set_same e2] at h1'
  exact ⟨a1, a2, a3, fs, gs, h1', h2, n, m⟩
theorem Sep.wipe1 (s : Sep K F R H σ ε T) (i : Nat) : Sep K F R H (σ.set i none) (ε.set i .no) T := by
  by_cases hi : i < ε.length
  · exact (s.dropAt i).free (by rw [List.getElem?_set_self hi]) none
  · have l := s.len
    rw [List.set_eq_of_length_le (by omega), List.set_eq_of_length_le (by omega)]
    exact s
theorem Sep.wipe (s : Sep K F R H σ ε T) : ∀ own : List Nat, Sep K F R H (L2.wipe σ own) (wipeC ε own) T
  | [] => s
  | i :: own => by
    unfold L2.wipe wipeC
    exact (Sep.wipe s own).wipe1 i
theorem Sep.hideAt (s : Sep K F R H σ ε []) (i : Nat) : ∃ R1, Sep K F R1 H (σ.set i none) (ε.set i .no) [] ∧ ∀ F' H' ε2 T', ε2.length = ε.length → Same F F' → Sep K F' R1 H' (σ.set i none) ε2 T' → Sep K F' R H' σ (match ε[i]? with | some c => ε2.set i c | none => ε2) T' := by
  have l := s.len
  cases hc : ε[i]? with
  | none =>
    have hi : ε.length ≤ i := List.getElem?_eq_none_iff.mp hc
    refine ⟨R, s.wipe1 i, fun F' H' ε2 T' _ fm s' => ?_⟩
    rw [List.set_eq_of_length_le (by omega)] at s'
    exact s'
  | some c =>
    have hi : i < ε.length := (List.getElem?_eq_some_iff.mp hc).1
    by_cases hn : c = .no
    · subst hn
      refine ⟨R, s.wipe1 i, fun F' H' ε2 T' l2 fm s' => ?_⟩
      have := (s'.dropAt i).free (i := i) (by rw [List.getElem?_set_self (by omega)]) σ[i]
      rw [List.set_set, set_same (List.getElem?_eq_getElem (by omega))] at this
      exact this
    · obtain ⟨v, hv⟩ := s.val hc hn
      obtain ⟨R1, _, s1, back⟩ := (s.take hc hv).hide
      refine ⟨R1, s1.free (by rw [List.getElem?_set_self hi]) none, fun F' H' ε2 T' l2 fm s' => ?_⟩
      have h1 := (s'.dropAt i).free (i := i) (by rw [List.getElem?_set_self (by omega)]) (some v)
      rw [List.set_set, set_same hv] at h1
      have h2 := (back F' H' _ _ _ fm h1).put hv
      rw [List.set_set] at h2
      exact h2
end
theorem wipe_get (σ : St) (i : Nat) : ∀ vs : List Nat, (wipe σ vs)[i]? = if i ∈ vs ∧ i < σ.length then some none else σ[i]?
  | [] => by simp [wipe]
  | v :: vs => by
    unfold wipe
    by_cases e : v = i
    · subst e
      by_cases h : v < σ.length
      · rw [List.getElem?_set_self (by rw [wipe_length]; exact h)]
        simp [h]
      · rw [List.getElem?_eq_none (by rw [List.length_set, wipe_length]; omega), if_neg (by simp [h]), List.getElem?_eq_none (by omega)]
    · rw [List.getElem?_set_ne e, wipe_get σ i vs]
      have : (i ∈ v :: vs) = (i ∈ vs) := by simp [Ne.symm e]
      simp only [this]
theorem wipeC_length (ε : Cs) : ∀ vs : List Nat, (wipeC ε vs).length = ε.length
  | [] => rfl
  | v :: vs => by unfold wipeC; rw [List.length_set, wipeC_length ε vs]
theorem wipeC_get (ε : Cs) (i : Nat) : ∀ vs : List Nat, (wipeC ε vs)[i]? = if i ∈ vs ∧ i < ε.length then some .no else ε[i]?
  | [] => by simp [wipeC]
  | v :: vs => by
    unfold wipeC
    by_cases e : v = i
    · subst e
      by_cases h : v < ε.length
      · rw [List.getElem?_set_self (by rw [wipeC_length]; exact h)]
        simp [h]
      · rw [List.getElem?_eq_none (by rw [List.length_set, wipeC_length]; omega), if_neg (by simp [h]), List.getElem?_eq_none (by omega)]
    · rw [List.getElem?_set_ne e, wipeC_get ε i vs]
      have : (i ∈ v :: vs) = (i ∈ vs) := by simp [Ne.symm e]
      simp only [this]
theorem restC_length (ε ε1 : Cs) : ∀ vs : List Nat, (restC ε ε1 vs).length = ε.length
  | [] => rfl
  | v :: vs => by
    unfold restC
    split
    · rw [List.length_set, restC_length ε ε1 vs]
    · exact restC_length ε ε1 vs
theorem restC_get (ε ε1 : Cs) (hl : ε.length = ε1.length) (i : Nat) : ∀ vs : List Nat, (restC ε ε1 vs)[i]? = if i ∈ vs then ε1[i]? else ε[i]?
  | [] => by simp [restC]
  | v :: vs => by
    unfold restC
    by_cases e : v = i
    · subst e
      split
      · rename_i c hc
        have hv : v < ε1.length := (List.getElem?_eq_some_iff.mp hc).1
        rw [List.getElem?_set_self (by rw [restC_length, hl]; exact hv)]
        simp [hc]
      · rename_i hc
        have hv : ¬ v < ε1.length := fun z => by rw [List.getElem?_eq_getElem z] at hc; cases hc
        rw [List.getElem?_eq_none (by rw [restC_length]; omega)]
        simp [hc]
    · have : (i ∈ v :: vs) = (i ∈ vs) := by simp [Ne.symm e]
      split
      · rw [List.getElem?_set_ne e, restC_get ε ε1 hl i vs]
        simp only [this]
      · rw [restC_get ε ε1 hl i vs]
        simp only [this]
section
variable {K : Ek} {F R H : Hp} {σ σ' : St} {ε ε1 : Cs} {T : Tms} {own : List Nat}
theorem Sep.hideOwn (s : Sep K F R H σ ε1 []) : ∀ own : List Nat, ∃ R1, Sep K F R1 H (L2.wipe σ own) (wipeC ε1 own) [] ∧ ∀ F' H' ε2 T', ε2.length = ε1.length → Same F F' → Sep K F' R1 H' (L2.wipe σ own) ε2 T' → Sep K F' R H' σ (restC ε2 ε1 own) T'
  | [] => ⟨R, s, fun F' H' ε2 T' _ _ s' => s'⟩
  | v :: vs => by
    obtain ⟨R1, s1, b1⟩ := Sep.hideOwn s vs
    obtain ⟨R2, s2, b2⟩ := s1.hideAt v
    refine ⟨R2, s2, fun F' H' ε2 T' l2 fm s' => ?_⟩
    have h1 := b2 F' H' ε2 T' (by rw [wipeC_length]; exact l2) fm s'
    have h2 := b1 F' H' _ T' (by split <;> simp [l2]) fm h1
    have e : restC (match (wipeC ε1 vs)[v]? with | some c => ε2.set v c | none => ε2) ε1 vs = restC ε2 ε1 (v :: vs) := by
      apply List.ext_getElem?
      intro j
      rw [restC_get _ _ (by split <;> simp [l2]), restC_get _ _ l2]
      by_cases hj : j ∈ vs
      · rw [if_pos hj, if_pos (by simp [hj])]
      · rw [if_neg hj]
        by_cases e : j = v
        · subst e
          rw [if_pos List.mem_cons_self, wipeC_get, if_neg fun z => hj z.1]
          cases q : ε1[j]? with
          | none =>
            have : ε1.length ≤ j := List.getElem?_eq_none_iff.mp q
            simp only
            exact List.getElem?_eq_none (by omega)
          | some c =>
            have : j < ε1.length := (List.getElem?_eq_some_iff.mp q).1
            simp only
            rw [List.getElem?_set_self (by omega)]
        · rw [if_neg (by simp [e, hj])]
          split
          · rw [List.getElem?_set_ne (Ne.symm e)]
          · rfl
    rw [e] at h2
    exact h2
theorem wipe_of_bnd {S : Nat → Prop} (hS : ∀ i, S i → i ∈ own) (h : ∀ i : Nat, ¬ S i → σ'[i]? = σ[i]?) (hl : σ'.length = σ.length) : L2.wipe σ' own = L2.wipe σ own := by
  apply List.ext_getElem?
  intro i
  rw [wipe_get, wipe_get, hl]
  by_cases hi : i ∈ own ∧ i < σ.length
  · rw [if_pos hi, if_pos hi]
  · rw [if_neg hi, if_neg hi]
    by_cases hs : S i
    · have := hS i hs
      have hn : ¬ i < σ.length := fun z => hi ⟨this, z⟩
      rw [List.getElem?_eq_none (by omega), List.getElem?_eq_none (by omega)]
    · exact h i hs
theorem wipe_wipe (σ : St) (own : List Nat) : L2.wipe (L2.wipe σ own) own = L2.wipe σ own := by
  apply List.ext_getElem?
  intro i
  rw [wipe_get, wipe_length, wipe_get]
  split <;> rfl
end
open Classical in
/-- .. by what becomes of an element -/
noncomputable def lcG (k : C → Option C) (ws : List Nat) (ε0 : Cs) (bind : BM) (tests : TM) (elt : EM) (own : List Nat) : List D → Nat → Cs → Option (List C × Cs)
  | [], _, ε => if sameC ws ε0 ε then some ([], ε) else none
  | d :: ds, n, ε => if sameC ws ε0 ε then do
      let ε1 ← bind d ε
      let (b, ε2) ← tests ε1
      if b then do
        let (c, ε3) ← elt ε2
        let e ← k c
        if n < sizeLine then do
          let (r, ε4) ← lcG k ws ε0 bind tests elt own ds (n + 1) (wipeC ε3 own)
          some (e :: r, ε4)
        else none
      else lcG k ws ε0 bind tests elt own ds n (wipeC ε2 own)
    else none
def frzC (c : C) : Option C := (cD c).map C.sh
theorem lcL_G {ws : List Nat} {ε0 : Cs} {bind : BM} {tests : TM} {elt : EM} {own : List Nat} : ∀ {ds : List D} {n : Nat} {ε : Cs} {out : List D} {ε' : Cs}, lcL ws ε0 bind tests elt own ds n ε = some (out, ε') → lcG frzC ws ε0 bind tests elt own ds n ε = some (out.map .sh, ε')
  | [], n, ε, out, ε', h => by
    unfold lcL at h
    unfold lcG
    split at h
    · rename_i hs
      cases h
      rw [if_pos hs]
      rfl
    · cases h
  | d :: ds, n, ε, out, ε', h => by
    unfold lcL at h
    unfold lcG
    split at h
    · rename_i hs
      rw [if_pos hs]
      cases e1 : bind d ε with
      | none => simp [e1] at h
      | some ε1 =>
        simp only [e1, Option.bind_eq_bind, Option.bind_some] at h ⊢
        cases e2 : tests ε1 with
        | none => simp [e2] at h
        | some p =>
          obtain ⟨b, ε2⟩ := p
          simp only [e2, Option.bind_some] at h ⊢
          cases b with
          | false =>
            simp only [Bool.false_eq_true, if_false] at h ⊢
            exact lcL_G h
          | true =>
            simp only [if_true] at h ⊢
            cases e3 : elt ε2 with
            | none => simp [e3] at h
            | some p3 =>
              obtain ⟨c, ε3⟩ := p3
              simp only [e3, Option.bind_some] at h ⊢
              cases e4 : cD c with
              | none => simp [e4] at h
              | some e =>
                simp only [e4, Option.bind_some] at h
                simp only [frzC, e4, Option.map_some, Option.bind_some]
                split at h
                · rename_i hn
                  rw [if_pos hn]
                  cases e5 : lcL ws ε0 bind tests elt own ds (n + 1) (wipeC ε3 own) with
                  | none => simp [e5] at h
                  | some p5 =>
                    obtain ⟨r, ε4⟩ := p5
                    simp [e5] at h
                    obtain ⟨rfl, rfl⟩ := h
                    rw [lcL_G e5]
                    rfl
                · cases h
    · cases h
/-- what may become of an element -/
def KpC (K : Ek) (k : C → Option C) : Prop := ∀ F R H σ ε T v c c', Sep K F R H σ ε ((v, c) :: T) → k c = some c' → ∃ F', Same F F' ∧ Sep K F' R H σ ε ((v, c') :: T)
theorem kp_frz {K : Ek} : KpC K frzC := fun F R H σ ε T v c c' s h => by
  unfold frzC at h
  cases e : cD c with
  | none => simp [e] at h
  | some d =>
    simp [e] at h
    subst h
    obtain ⟨F', fm, r, s'⟩ := s.freeze e
    exact ⟨F', fm, s'.addSh r⟩
section
variable {K : Ek}
theorem tE_lcG {k : C → Option C} (hk : KpC K k) {src : SM} {bind : BM} {tests : TM} {elt : EM} {own : List Nat} {g : TG} {S : Nat → Prop} (hg : Gd K g bind S) (hS : ∀ i, S i → i ∈ own) {σ : St} {H : Hp} {Q : VK}
    (h : ∃ F R ε ds ws ε1 out ε2, Sep K F R H σ ε [] ∧ src ε = some ((ds, ws), ε1) ∧ (∀ i ∈ ws, i ∉ own) ∧ lcG k ws ε1 bind tests elt own ds 0 (wipeC ε1 own) = some (out, ε2) ∧ ∀ v F' H', Same F F' → Sep K F' R H' σ (restC ε2 ε1 own) [(v, .ob .ls out)] → Q v H') :
    tLc (tI K src) g (tT K tests) (tE K elt) own σ H Q := by
  obtain ⟨F, R, ε, ds, ws, ε1, out, ε2, o, e1, hws, e2, q⟩ := h
  refine ⟨F, R, ε, ds, ws, ε1, o, e1, fun F1 R1 H1 J fm1 s1 bk sr Da hDa => ?_⟩
  obtain ⟨G, Y, w, hw⟩ := sr
  obtain ⟨R2, s2, bk2⟩ := s1.hideOwn own
  -- the walked thing is looked at from within: all of R1 stands in what R2 holds
  have look : ∀ {F2 H2 ε2' T'}, ε2'.length = ε1.length → Same F1 F2 → Sep K F2 R2 H2 (L2.wipe σ own) ε2' T' → (∀ i ∈ ws, ε2'[i]? = ε1[i]?) → G H2 ∧ ∀ i x H3, i < ds.length → Y i H2 x H3 → ∃ F3 d, ds[i]? = some d ∧ Rep K.1 F3 x d ∧ Grw F2 H2 F3 H3 := by
    intro F2 H2 ε2' T' l2 fm s' hq
    have s3 := (bk2 F2 H2 ε2' T' l2 fm s')
    have s4 : Sep K F2 R1 H2 σ (restC ε2' ε1 own) [] := by
      have := Sep.drops (T := []) T' (by simpa using s3)
      exact this
    refine hw F2 H2 σ _ fm s4 fun i hi => ⟨rfl, ?_⟩
    rw [restC_get _ _ l2, if_neg (hws i hi)]
    exact hq i hi
  refine lc_it w (fun i H2 => ∃ F2 ε2' acc rest, Same F1 F2 ∧ ε2'.length = ε1.length ∧ Sep K F2 R2 H2 (L2.wipe σ own) ε2' [(.ref Da, .ob .ls acc)] ∧ lcG k ws ε1 bind tests elt own (ds.drop i) acc.length ε2' = some (rest, ε2) ∧ acc ++ rest = out) ?_ ?_ ?_ ?_
  · -- the start
    refine ⟨F1, wipeC ε1 own, [], out, Same.refl F1, wipeC_length _ _, ?_, e2, rfl⟩
    exact (s2.newL (vs := []) (ds := []) hDa rfl).recell fun A h => rpc_toN h
  · -- what is walked stands
    rintro i H2 _ ⟨F2, ε2', acc, rest, fm, l2, s3, C1, C2⟩
    have hsame : sameC ws ε1 ε2' := by
      cases hd : ds.drop i with
      | nil =>
        rw [hd] at C1
        unfold lcG at C1
        split at C1
        · assumption
        · cases C1
      | cons d r =>
        rw [hd] at C1
        unfold lcG at C1
        split at C1
        · assumption
        · cases C1
    exact (look l2 fm s3 hsame).1
  · -- one turn
    rintro i x H2 H3 hi ⟨F2, ε2', acc, rest, fm, l2, s3, C1, C2⟩ y
    have hd : ds.drop i = ds[i] :: ds.drop (i + 1) := by rw [List.drop_eq_getElem_cons hi]
    rw [hd] at C1
    unfold lcG at C1
    split at C1
    · rename_i hsame
      obtain ⟨_, hy⟩ := look l2 fm s3 hsame
      obtain ⟨F3, d, hdi, rd, gr⟩ := hy i x H3 hi y
      rw [List.getElem?_eq_getElem hi] at hdi
      cases hdi
      have s4 := s3.grow gr
      obtain ⟨R3, _, s5, b5⟩ := s4.hide
      have fm3 := fm.trans gr.fm
      cases eb : bind ds[i] ε2' with
      | none => simp [eb] at C1
      | some εb =>
        refine hg F3 R3 H3 _ ε2' x _ εb _ s5 rd eb fun H4 σ2 bd => ?_
        have hwp : L2.wipe σ2 own = L2.wipe σ own := by rw [wipe_of_bnd hS bd.st bd.ln, wipe_wipe]
        refine ⟨hwp, ?_⟩
        have lb : εb.length = ε1.length := by rw [← bd.sep.len, bd.ln, s5.len]; exact l2
        cases et : tests εb with
        | none => simp [eb, et] at C1
        | some pt =>
          obtain ⟨b, εt⟩ := pt
          refine ⟨F3, R3, εb, b, εt, bd.sep, et, fun F5 H5 fm5 s6 => ?_⟩
          have lt : εt.length = ε1.length := by rw [← s6.len, bd.sep.len]; exact lb
          simp only [eb, et, Option.bind_eq_bind, Option.bind_some] at C1
          cases b with
          | false =>
            simp only [Bool.false_eq_true, if_false] at C1 ⊢
            have s7 := s6.wipe own
            rw [hwp] at s7
            exact ⟨F5, wipeC εt own, acc, rest, fm3.trans fm5, by rw [wipeC_length]; exact lt, b5 F5 H5 _ _ _ fm5 s7, C1, C2⟩
          | true =>
            simp only [if_true] at C1 ⊢
            cases ee : elt εt with
            | none => simp [ee] at C1
            | some pe =>
              obtain ⟨ce, εe⟩ := pe
              refine ⟨F5, R3, εt, ce, εe, s6, ee, fun v F6 H6 fm6 s7 => ?_⟩
              have le : εe.length = ε1.length := by rw [← s7.len, s6.len]; exact lt
              simp only [ee, Option.bind_some] at C1
              cases ec : k ce with
              | none => simp [ec] at C1
              | some c' =>
                simp only [ec, Option.bind_some] at C1
                split at C1
                · rename_i hsz
                  cases er : lcG k ws ε1 bind tests elt own (ds.drop (i + 1)) (acc.length + 1) (wipeC εe own) with
                  | none => simp [er] at C1
                  | some pr =>
                    obtain ⟨rr, εr⟩ := pr
                    simp [er] at C1
                    obtain ⟨rfl, rfl⟩ := C1
                    obtain ⟨F7, fm7, s8⟩ := hk _ _ _ _ _ _ _ _ _ s7 ec
                    have s9 := s8.wipe own
                    rw [hwp] at s9
                    -- the element waits aside while the list is fetched
                    have s10 : Sep K F7 R2 H6 (L2.wipe σ own) (wipeC εe own) ((v, c') :: (.ref Da, .ob .ls acc) :: []) := by
                      have := b5 F7 H6 _ _ [(v, c')] (fm5.trans (fm6.trans fm7)) s9
                      obtain ⟨a1, a2, a3, ⟨fs, gs, h1, ⟨o1, r1, f1, fr1, e1, e2, k1, ⟨o2, r2, f2, fr2, e3, e4, k2, k3, k4⟩⟩, n, m⟩⟩ := this
                      obtain ⟨rfl, rfl⟩ := List.cons.inj e1
                      obtain ⟨rfl, rfl⟩ := List.cons.inj e3
                      subst e2 e4 k4
                      have ef : ([f1, f2] : List (List Addr)).flatten = f1 ++ f2 := by simp
                      have ef2 : ([f2, f1] : List (List Addr)).flatten = f2 ++ f1 := by simp
                      rw [ef] at n m
                      refine ⟨a1, a2, a3, fs, [f2, f1], h1, ⟨_, _, _, _, rfl, rfl, k2, ⟨_, _, _, _, rfl, rfl, k1, rfl, rfl⟩⟩, ?_, fun b hb => m b ?_⟩
                      · rw [ef2]
                        rw [List.nodup_append, List.nodup_append] at n ⊢
                        refine ⟨n.1, ⟨n.2.1.2.1, n.2.1.1, fun a ha b hb => Ne.symm (n.2.1.2.2 b hb a ha)⟩, fun a ha b hb => n.2.2 a ha b ?_⟩
                        simp only [List.mem_append] at hb ⊢
                        exact hb.symm
                      · rw [ef2] at hb
                        simp only [List.mem_append] at hb ⊢
                        rcases hb with hb | hb | hb
                        · exact .inl hb
                        · exact .inr (.inr hb)
                        · exact .inr (.inl hb)
                    obtain ⟨ws', g1, g2, s11⟩ := s10.appN
                    refine ⟨ws', g1, by omega, F7, wipeC εe own, acc ++ [c'], rr, (fm3.trans fm5).trans (fm6.trans fm7), by rw [wipeC_length]; exact le, s11, by rw [List.length_append]; exact er, by simpa using C2⟩
                · cases C1
    · cases C1
  · -- the end
    rintro H2 ⟨F2, ε2', acc, rest, fm, l2, s3, C1, C2⟩
    rw [List.drop_length] at C1
    unfold lcG at C1
    split at C1
    · cases C1
      rw [List.append_nil] at C2
      subst C2
      exact q _ F2 H2 (fm1.trans fm) (bk F2 H2 σ _ _ fm (bk2 F2 H2 ε2 _ l2 fm s3))
    · cases C1
theorem tE_lc {src : SM} {bind : BM} {tests : TM} {elt : EM} {own : List Nat} {g : TG} {S : Nat → Prop} (hg : Gd K g bind S) (hS : ∀ i, S i → i ∈ own) {σ : St} {H : Hp} {Q : VK} (h : tE K (mLc src bind tests elt own) σ H Q) :
    tLc (tI K src) g (tT K tests) (tE K elt) own σ H Q := by
  obtain ⟨F, R, ε, c, ε', o, e, q⟩ := h
  unfold mLc at e
  cases e1 : src ε with
  | none => simp [e1] at e
  | some p =>
    obtain ⟨⟨ds, ws⟩, ε1⟩ := p
    simp only [e1, Option.bind_eq_bind, Option.bind_some] at e
    split at e
    · rename_i hws
      cases e2 : lcL ws ε1 bind tests elt own ds 0 (wipeC ε1 own) with
      | none => simp [e2] at e
      | some p2 =>
        obtain ⟨out, ε2⟩ := p2
        simp [e2] at e
        obtain ⟨rfl, rfl⟩ := e
        exact tE_lcG kp_frz hg hS ⟨F, R, ε, ds, ws, ε1, _, ε2, o, e1, by simpa using hws, lcL_G e2, fun v F' H' fm s => q v F' H' fm (s.recell fun A h => rpc_ofN h)⟩
    · cases e
end
end L2.M
namespace L2.M
open PySem PySem.Spec PyProof.Rows
abbrev Xw := Value → Option Addr → St → Hp → Prop
inductive Fl where
  | nx | bk | ct | rt (c : C) | xc (x : Xn)
abbrev XM := Cs → Option (Fl × Cs)
/-- the slots in io stay -/
structure StS (io : List Nat) (σ σ' : St) : Prop where
  st : ∀ i ∈ io, σ'[i]? = σ[i]?
  ln : σ'.length = σ.length
theorem StS.refl {io : List Nat} (σ : St) : StS io σ σ := ⟨fun _ _ => rfl, rfl⟩
theorem StS.trans {io : List Nat} {σ σ1 σ2 : St} (a : StS io σ σ1) (b : StS io σ1 σ2) : StS io σ σ2 := ⟨fun i h => (b.st i h).trans (a.st i h), b.ln.trans a.ln⟩
theorem StS.imp {io io' : List Nat} {σ σ1 : St} (a : StS io' σ σ1) (h : ∀ i ∈ io, i ∈ io') : StS io σ σ1 := ⟨fun i hi => a.st i (h i hi), a.ln⟩
theorem StS.set {io : List Nat} {σ : St} {i : Nat} {o : Option V} (h : i ∉ io) : StS io σ (σ.set i o) := ⟨fun j hj => List.getElem?_set_ne (by rintro rfl; exact h hj), by simp⟩
theorem Bnd.sts {K : Ek} {F R H H1 : Hp} {S : Nat → Prop} {σ σ1 : St} {ε ε1 : Cs} {io : List Nat} (b : Bnd K F R H S σ ε H1 σ1 ε1) (h : ∀ i, S i → i ∉ io) : StS io σ σ1 := ⟨fun i hi => b.st i fun z => h i z hi, b.ln⟩
def Fin (K : Ek) (R : Hp) (De : Ends) (W : Xw) (F' H' : Hp) (σ' : St) (ε' : Cs) : Fl → Prop
  | .nx => Sep K F' R H' σ' ε' [] → De.nx σ' H'
  | .bk => Sep K F' R H' σ' ε' [] → De.bk σ' H'
  | .ct => Sep K F' R H' σ' ε' [] → De.ct σ' H'
  | .rt c => ∀ v, Sep K F' R H' σ' ε' [(v, c)] → De.rt v H'
  | .xc x => ∀ cls d, Sep K F' R H' σ' ε' [] → RepX K F' cls d x → W cls d σ' H'
def tS (K : Ek) (W : Xw) (io : List Nat) (m : XM) : TS := fun De σ H => ∃ F R ε f ε', Sep K F R H σ ε [] ∧ m ε = some (f, ε') ∧ ∀ F' H' σ', Same F F' → StS io σ σ' → Fin K R De W F' H' σ' ε' f
theorem Fin.back {K : Ek} {F1 R R1 : Hp} {De : Ends} {W : Xw} {F' H' : Hp} {σ' : St} {ε' : Cs} {f : Fl} (bk : Back K F1 R1 R) (fm : Same F1 F') (h : Fin K R De W F' H' σ' ε' f) : Fin K R1 De W F' H' σ' ε' f := by
  cases f with
  | nx => exact fun s => h (bk F' H' σ' ε' [] fm s)
  | bk => exact fun s => h (bk F' H' σ' ε' [] fm s)
  | ct => exact fun s => h (bk F' H' σ' ε' [] fm s)
  | rt c => exact fun v s => h v (bk F' H' σ' ε' _ fm s)
  | xc x => exact fun cls d s => h cls d (bk F' H' σ' ε' _ fm s)
def mSkip : XM := fun ε => some (.nx, ε)
def mSeq (m n : XM) : XM := fun ε => match m ε with
  | some (.nx, ε1) => n ε1
  | r => r
section
variable {X : Cx} {W : Xw} {io : List Nat} {st : Stmt} {rest : List Stmt} {m n : XM} {e : Expr} {pos : Pos}
theorem ms_nil : PSs X [] (tS X.E W io mSkip) := ⟨fun pins s σ H De I h => by
  obtain ⟨F, R, ε, f, ε', o, e, q⟩ := h
  cases e
  exact pss_nil.run pins s σ H De I (q F H σ (Same.refl F) (StS.refl σ) o)⟩
theorem ms_cons (h1 : PS X st (tS X.E W io m)) (h2 : PSs X rest (tS X.E W io n)) : PSs X (st :: rest) (tS X.E W io (mSeq m n)) := ⟨fun pins s σ H De I h => by
  obtain ⟨F, R, ε, f, ε', o, e, q⟩ := h
  refine (pss_cons h1 h2).run pins s σ H De I ?_
  unfold mSeq at e
  split at e
  · rename_i ε1 e1
    exact ⟨F, R, ε, .nx, ε1, o, e1, fun F1 H1 σ1 fm1 t1 s1 => ⟨F1, R, ε1, f, ε', s1, e, fun F2 H2 σ2 fm2 t2 => q F2 H2 σ2 (fm1.trans fm2) (t1.trans t2)⟩⟩
  · rename_i r hr
    refine ⟨F, R, ε, f, ε', o, e, fun F1 H1 σ1 fm1 t1 => ?_⟩
    have := q F1 H1 σ1 fm1 t1
    cases f with
    | nx => exact (hr ε' e).elim
    | _ => exact this⟩
def mFlow (f : Fl) : XM := fun ε => some (f, ε)
theorem _root_.L2.PS.weak {t t' : TS} (h : PS X st t) (w : ∀ De σ H, t' De σ H → t De σ H) : PS X st t' := ⟨fun pins s σ H De I q => h.run pins s σ H De I (w De σ H q)⟩
def mExpr (m : EM) : XM := fun ε => do
  let (_, ε1) ← m ε
  some (.nx, ε1)
def mRet (m : EM) : XM := fun ε => do
  let (c, ε1) ← m ε
  some (.rt c, ε1)
theorem ms_ret {m : EM} (he : PE X e (tE X.E m)) : PS X (.Return (some e) pos) (tS X.E W io (mRet m)) := (ps_ret he).weak fun De σ H h => by
  obtain ⟨F, R, ε, f, ε', o, e, q⟩ := h
  unfold mRet at e
  cases e1 : m ε with
  | none => simp [e1] at e
  | some p =>
    obtain ⟨c, ε1⟩ := p
    simp [e1] at e
    obtain ⟨rfl, rfl⟩ := e
    exact ⟨F, R, ε, c, ε1, o, e1, fun v F1 H1 fm p => q F1 H1 σ fm (StS.refl σ) v p⟩
def mRetN : XM := fun ε => some (.rt (.sh .none), ε)
/-- return name: an own thing is handed out -/
def mRetV (io : List Nat) (i : Nat) : XM := fun ε => match ε[i]? with
  | some (.sh d) => some (.rt (.sh d), ε)
  | some (.ls ds) => if io.contains i then some (.rt (.sh (.list ds)), ε.set i (.sh (.list ds))) else some (.rt (.ls ds), ε.set i .no)
  | some (.dc k ds) => some (.rt (.dc k ds), ε.set i .no)
  | some (.ob k cs) => some (.rt (.ob k cs), ε.set i .no)
  | _ => none
theorem ms_retV {i : Nat} {x : Str} {p : Pos} (h : PE X (.Name x p) (tVar i)) : PS X (.Return (some (.Name x p)) pos) (tS X.E W io (mRetV io i)) := (ps_ret h).weak fun De σ H h => by
  obtain ⟨F, R, ε, f, ε', o, e, q⟩ := h
  have mv : ∀ {c : C}, ε[i]? = some c → c ≠ .no → f = .rt c → ε' = ε.set i .no → ∃ v, σ[i]? = some (some v) ∧ De.rt v H := fun {c} h1 h2 h3 h4 => by
    obtain ⟨v, hv⟩ := o.val h1 h2
    subst h3 h4
    exact ⟨v, hv, q F H σ (Same.refl F) (StS.refl σ) v (o.take h1 hv)⟩
  unfold mRetV at e
  split at e
  · rename_i d hd
    cases e
    obtain ⟨v, h1, h2⟩ := o.sh hd
    exact ⟨v, h1, q F H σ (Same.refl F) (StS.refl σ) v (o.addSh h2)⟩
  · rename_i ds hd
    split at e
    · cases e
      exact o.frzVal hd rfl fun v F' H' fm s => q F' H' σ fm (StS.refl σ) v s
    · cases e
      exact mv hd (fun z => nomatch z) rfl rfl
  · rename_i hd
    cases e
    exact mv hd (fun z => nomatch z) rfl rfl
  · rename_i hd
    cases e
    exact mv hd (fun z => nomatch z) rfl rfl
  · cases e
def mIf (t : TM) (m n : XM) : XM := fun ε => do
  let (b, ε1) ← t ε
  if b then m ε1 else n ε1
theorem ms_if {c : Expr} {a b : List Stmt} {t : TM} (hc : PT X c (tT X.E t)) (ha : PSs X a (tS X.E W io m)) (hb : PSs X b (tS X.E W io n)) : PS X (.If c a b pos) (tS X.E W io (mIf t m n)) := (ps_if hc ha hb).weak fun De σ H h => by
  obtain ⟨F, R, ε, f, ε', o, e, q⟩ := h
  unfold mIf at e
  cases e1 : t ε with
  | none => simp [e1] at e
  | some p =>
    obtain ⟨k, ε1⟩ := p
    simp [e1] at e
    refine ⟨F, R, ε, k, ε1, o, e1, fun F1 H1 fm1 s1 => ?_⟩
    cases k with
    | true =>
      simp at e
      exact iteT ⟨F1, R, ε1, f, ε', s1, e, fun F2 H2 σ2 fm2 t2 => q F2 H2 σ2 (fm1.trans fm2) t2⟩
    | false =>
      simp at e
      exact iteF ⟨F1, R, ε1, f, ε', s1, e, fun F2 H2 σ2 fm2 t2 => q F2 H2 σ2 (fm1.trans fm2) t2⟩
def mSet (io : List Nat) (i : Nat) (m : EM) : XM := fun ε => do
  let (c, ε1) ← m ε
  if i < ε1.length ∧ i ∉ io then some (.nx, ε1.set i c) else none
theorem tS_set {K : Ek} {i : Nat} {m : EM} {De : Ends} {σ : St} {H : Hp} (h : tS K W io (mSet io i m) De σ H) : tAsg (tE K m) (gName i) De σ H := by
  obtain ⟨F, R, ε, f, ε', o, e, q⟩ := h
  unfold mSet at e
  cases e1 : m ε with
  | none => simp [e1] at e
  | some p =>
    obtain ⟨c, ε1⟩ := p
    simp [e1] at e
    obtain ⟨⟨hi, hio⟩, rfl, rfl⟩ := e
    exact ⟨F, R, ε, c, ε1, o, e1, fun v F1 H1 fm p => q F1 H1 _ fm (StS.set hio) (p.store i)⟩
theorem ms_set {i : Nat} {x : Str} {m : EM} {p : Pos} (hN : X.N.Nodup) (hi : X.N[i]? = some x) (hx : Loc X.env.scope x) (he : PE X e (tE X.E m)) (hs : swapsWith e (some (.Name x p)) pos.line X.env = pure false) (hf : X.fn x = true ∨ X.env.scope.names.lookup x = some .local) :
    PS X (.Assign [.Name x p] e pos) (tS X.E W io (mSet io i m)) := (ps_set hN hi hx he hs hf).weak fun De σ H h => tS_set h
/-- a target of several names: the value is frozen data -/
def mAsg (ts io : List Nat) (b : BM) (m : EM) : XM := fun ε => do
  let (c, ε1) ← m ε
  let d ← (match c with | .sh d => some d | _ => none)
  let ε2 ← b d ε1
  if ts.all (fun i => !io.contains i) then some (.nx, ε2) else none
theorem tS_asg {K : Ek} {ts : List Nat} {b : BM} {g : TG} {m : EM} (hg : Gd K g b (· ∈ ts)) {De : Ends} {σ : St} {H : Hp} (h : tS K W io (mAsg ts io b m) De σ H) : tAsg (tE K m) g De σ H := by
  obtain ⟨F, R, ε, f, ε', o, e, q⟩ := h
  unfold mAsg at e
  cases e1 : m ε with
  | none => simp [e1] at e
  | some p =>
    obtain ⟨c, ε1⟩ := p
    cases c with
    | sh d =>
      cases e2 : b d ε1 with
      | none => simp [e1, e2] at e
      | some ε2 =>
        simp only [e1, e2, Option.bind_eq_bind, Option.bind_some] at e
        split at e
        · rename_i hts
          cases e
          have hts : ∀ i ∈ ts, i ∉ io := by simpa using hts
          refine ⟨F, R, ε, .sh d, ε1, o, e1, fun v F1 H1 fm p => ?_⟩
          refine hg F1 R H1 σ ε1 v d ε' _ p.drop p.repT e2 fun H2 σ2 bd => ?_
          exact q F1 H2 σ2 fm (bd.sts hts) bd.sep
        · cases e
    | no => simp [e1] at e
    | ls ds => simp [e1] at e
    | dc k ds => simp [e1] at e
    | ob k ds => simp [e1] at e
    | px _ _ _ _ => simp [e1] at e
    | fn _ => simp [e1] at e
    | fd _ => simp [e1] at e
    | fk _ => simp [e1] at e
theorem ms_asg {tg : Expr} {ts : List Nat} {b : BM} {g : TG} {m : EM} (hg : Gd X.E g b (· ∈ ts)) (he : PE X e (tE X.E m)) (hp : PG X tg g) (hs : swapsWithSole [tg] e pos.line X.env = pure false) (hw : swappedStores [tg] e X.env = pure none)
    (h1 : (assignEach [tg] X.env).map (·.2) = [assign tg X.env]) : PS X (.Assign [tg] e pos) (tS X.E W io (mAsg ts io b m)) := (ps_asg he hp hs hw h1).weak fun De σ H h => tS_asg hg h
end
section
variable {K : Ek} {F R H : Hp} {σ : St} {ε : Cs} {T : Tms}
/-- an own list in a slot: what stands there, and how it is rewritten -/
theorem Sep.atL {i : Nat} {ds : List D} (s : Sep K F R H σ ε T) (h : ε[i]? = some (.ls ds)) : ∃ a vs, σ[i]? = some (some (.ref a)) ∧ H a = some (.lst vs) ∧ Reps K.1 F vs ds ∧ ∀ ws es, Reps K.1 F ws es → Sep K F R (upd H a (.lst ws)) σ (ε.set i (.ls es)) T := by
  obtain ⟨a, vs, h1, h2, h3⟩ := s.lst h
  refine ⟨a, vs, h1, h2, h3, fun ws es r => ?_⟩
  have := ((s.take h h1).wr r).put h1
  rw [List.set_set] at this
  exact this
end
/-- xs.append(e) -/
def mApp (i : Nat) (m : EM) : XM := fun ε => match ε[i]? with
  | some (.ls _) => do
    let (c, ε1) ← m ε
    let d ← cD c
    match ε1[i]? with
      | some (.ls xs) => if xs.length < sizeLine then some (.nx, ε1.set i (.ls (xs ++ [d]))) else none
      | _ => none
  | _ => none
/-- .. to a list of own things -/
def mAppN (i : Nat) (m : EM) : XM := fun ε => match ε[i]? with
  | some (.ob .ls _) => do
    let (c, ε1) ← m ε
    match ε1[i]? with
      | some (.ob .ls cs) => if cs.length < sizeLine then some (.nx, ε1.set i (.ob .ls (cs ++ [c]))) else none
      | _ => none
  | _ => none
section
variable {X : Cx} {W : Xw} {io : List Nat} {pos : Pos}
theorem ms_app {i : Nat} {m : EM} {e : Expr} {x : Str} {p p2 p3 : Pos} (hv : PE X (.Name x p) (tVar i)) (he : PE X e (tE X.E m))
    (hbm : ∀ {to : TE} {t : TA}, PE X (.Name x p) to → PA X [e] t → PE X (.Call (.Attribute (.Name x p) "append" p2) [e] [] p3) (tBM X.K "list" rAppend to t)) (hst : starEach [e] X.env = [(false, eval e X.env)])
    (hs : swapsWith (.Call (.Attribute (.Name x p) "append" p2) [e] [] p3) none pos.line X.env = pure false) : PS X (.Expr (.Call (.Attribute (.Name x p) "append" p2) [e] [] p3) pos) (tS X.E W io (mApp i m)) :=
  (ps_expr (hbm hv (pa_cons he pa_nil hst)) hs).weak fun De σ H h => by
    obtain ⟨F, R, ε, f, ε', o, e, q⟩ := h
    unfold mApp at e
    split at e
    · rename_i xs0 hx0
      cases e1 : m ε with
      | none => simp [e1] at e
      | some p =>
        obtain ⟨c, ε1⟩ := p
        cases ec : cD c with
        | none => simp [e1, ec] at e
        | some d =>
          simp only [e1, ec, Option.bind_eq_bind, Option.bind_some] at e
          split at e
          · rename_i xs hx
            split at e
            · rename_i hl
              cases e
              obtain ⟨a, vs, h1, h2, h3⟩ := o.lst hx0
              refine ⟨_, h1, .inl ⟨rfl, vs, .inl (.inl h2)⟩, F, R, ε, c, ε1, o, e1, fun v F1 H1 fm p => ?_⟩
              obtain ⟨F2, fm2, r2, s2⟩ := p.freeze ec
              obtain ⟨a', vs', g1, g2, g4, wr⟩ := s2.atL hx
              rw [h1] at g1
              cases g1
              refine ⟨a, vs', v, rfl, rfl, g2, by rw [g4.length]; exact hl, ?_⟩
              exact q F2 _ σ (fm.trans fm2) (StS.refl σ) (wr _ _ (g4.append (Reps.one r2)))
            · cases e
          · cases e
    · cases e
/-- xs[k] = e -/
def mSetIx (i : Nat) (m : EM) (ix : OM) : XM := fun ε => do
  let (c, ε1) ← m ε
  let d ← cD c
  match ε1[i]? with
  | some (.ls _) => do
    let (p, ε2) ← ix ε1
    let k ← bor ε2 p
    match k, ε2[i]? with
      | .int k, some (.ls xs) => do
        let j ← ixN xs.length k
        some (.nx, ε2.set i (.ls (xs.set j d)))
      | _, _ => none
  | _ => none
theorem ms_setIx {i : Nat} {m : EM} {ix : OM} {e k : Expr} {x : Str} {p p2 : Pos} (hv : PE X (.Name x p) (tVar i)) (he : PE X e (tE X.E m)) (hk : PE X k (tO X.E ix))
    (ha : ∀ v, assign (.Subscript (.Name x p) k p2) X.env v = (do
      let ov ← holding [v] (eval (.Name x p) X.env)
      let iv ← holding [v, ov] (eval k X.env)
      standAt p2
      holding [v, ov, iv] (setItem ov iv v)
      release [v, ov, iv] []))
    (hs : swapsWithSole [.Subscript (.Name x p) k p2] e pos.line X.env = pure false) (hw : swappedStores [.Subscript (.Name x p) k p2] e X.env = pure none)
    (h1 : (assignEach [.Subscript (.Name x p) k p2] X.env).map (·.2) = [assign (.Subscript (.Name x p) k p2) X.env]) : PS X (.Assign [.Subscript (.Name x p) k p2] e pos) (tS X.E W io (mSetIx i m ix)) :=
  (ps_asg he (pg_sub hv hk set_list ha) hs hw h1).weak fun De σ H h => by
    obtain ⟨F, R, ε, f, ε', o, e, q⟩ := h
    unfold mSetIx at e
    cases e1 : m ε with
    | none => simp [e1] at e
    | some p =>
      obtain ⟨c, ε1⟩ := p
      cases ec : cD c with
      | none => simp [e1, ec] at e
      | some d =>
        simp only [e1, ec, Option.bind_eq_bind, Option.bind_some] at e
        split at e
        · rename_i xs0 hx0
          cases e2 : ix ε1 with
          | none => simp [e2] at e
          | some p2 =>
            obtain ⟨p, ε2⟩ := p2
            cases e3 : bor ε2 p with
            | none => simp [e2, e3] at e
            | some kd =>
              simp only [e2, e3, Option.bind_some] at e
              split at e
              · rename_i k xs hx
                cases e4 : ixN xs.length k with
                | none => simp [e4] at e
                | some j =>
                  simp [e4] at e
                  obtain ⟨rfl, rfl⟩ := e
                  refine ⟨F, R, ε, c, ε1, o, e1, fun v F1 H1 fm1 p1 => ?_⟩
                  obtain ⟨F2, fm2, r2, s2⟩ := p1.freeze ec
                  obtain ⟨w, hw⟩ := s2.val hx0 fun z => nomatch z
                  refine ⟨w, hw, F2, R, ε1, p, ε2, s2, e2, fun kv F3 H3 fm3 v3 s3 => ?_⟩
                  rw [← List.append_nil (tmO [p] [kv])] at s3
                  have rb := bors_ok (ds := [.int k]) s3 v3 (by simp [bors, e3])
                  obtain ⟨x', ex, hx'⟩ := rb.one
                  cases ex
                  rw [rb_int hx']
                  obtain ⟨a, vs, g1, g2, g4, wr⟩ := (s3.drops _).atL hx
                  rw [hw] at g1
                  cases g1
                  refine ⟨a, vs, k, j, rfl, rfl, g2, by rw [g4.length]; exact e4, ?_⟩
                  exact q F3 _ σ ((fm1.trans fm2).trans fm3) (StS.refl σ) (wr _ _ (Reps.set (Rep.mono fm3 _ _ r2) j g4))
              · cases e
        · cases e
def whileN (t : TM) (b : XM) : Nat → XM
  | 0, _ => none
  | n + 1, ε => do
    let (k, ε1) ← t ε
    if k then do
      let (f, ε2) ← b ε1
      match f with
        | .nx => whileN t b n ε2
        | .ct => whileN t b n ε2
        | .bk => some (.nx, ε2)
        | .rt c => some (.rt c, ε2)
        | .xc x => some (.xc x, ε2)
    else some (.nx, ε1)
theorem whileN_succ {t : TM} {b : XM} : ∀ {n : Nat} {ε : Cs} {r : Fl × Cs}, whileN t b n ε = some r → whileN t b (n + 1) ε = some r
  | 0, ε, r, h => by cases h
  | n + 1, ε, r, h => by
    unfold whileN at h ⊢
    cases e1 : t ε with
    | none => simp [e1] at h
    | some p =>
      obtain ⟨k, ε1⟩ := p
      simp only [e1, Option.bind_eq_bind, Option.bind_some] at h ⊢
      cases k with
      | false => exact h
      | true =>
        simp only [if_true] at h ⊢
        cases e2 : b ε1 with
        | none => simp [e2] at h
        | some p2 =>
          obtain ⟨f, ε2⟩ := p2
          simp only [e2, Option.bind_some] at h ⊢
          cases f with
          | nx => exact whileN_succ h
          | ct => exact whileN_succ h
          | bk => exact h
          | rt c => exact h
          | xc x => exact h
theorem whileN_le {t : TM} {b : XM} {n m : Nat} {ε : Cs} {r : Fl × Cs} (h : whileN t b n ε = some r) (hm : n ≤ m) : whileN t b m ε = some r := by
  induction hm with
  | refl => exact h
  | step _ ih => exact whileN_succ ih
open Classical in
noncomputable def mWhile (t : TM) (b : XM) : XM := fun ε => if h : ∃ n, (whileN t b n ε).isSome then whileN t b h.choose ε else none
theorem mWhile_of {t : TM} {b : XM} {n : Nat} {ε : Cs} {r : Fl × Cs} (h : whileN t b n ε = some r) : mWhile t b ε = some r := by
  have hx : ∃ n, (whileN t b n ε).isSome := ⟨n, by rw [h]; rfl⟩
  unfold mWhile
  rw [dif_pos hx]
  obtain ⟨r', hr⟩ := Option.isSome_iff_exists.mp hx.choose_spec
  have h1 := whileN_le h (Nat.le_max_left n hx.choose)
  have h2 := whileN_le hr (Nat.le_max_right n hx.choose)
  rw [hr, ← h1, h2]
theorem mWhile_to {t : TM} {b : XM} {ε : Cs} {r : Fl × Cs} (h : mWhile t b ε = some r) : ∃ n, whileN t b n ε = some r := by
  unfold mWhile at h
  split at h
  · exact ⟨_, h⟩
  · cases h
theorem ms_while {c : Expr} {body : List Stmt} {t : TM} {b : XM} (hp : PassesOwn (model X.prog X.w) X.A X.env X.xe) (hc : PT X c (tT X.E t)) (hb : PSs X body (tS X.E W io b)) : PS X (.While c body [] pos) (tS X.E W io (mWhile t b)) :=
  (ps_while hp hc hb).weak fun De σ H h => by
    obtain ⟨F, R, ε, f, ε', o, e, q⟩ := h
    obtain ⟨n, e⟩ := mWhile_to e
    refine ⟨fun n σ2 H2 => ∃ F2 ε2, Same F F2 ∧ StS io σ σ2 ∧ Sep X.E F2 R H2 σ2 ε2 [] ∧ whileN t b n ε2 = some (f, ε'), ⟨n, F, ε, Same.refl F, StS.refl σ, o, e⟩, ?_⟩
    rintro n σ2 H2 ⟨F2, ε2, fm2, t2, s2, e2⟩
    cases n with
    | zero => cases e2
    | succ n =>
      unfold whileN at e2
      cases e3 : t ε2 with
      | none => simp [e3] at e2
      | some p =>
        obtain ⟨k, ε3⟩ := p
        simp only [e3, Option.bind_eq_bind, Option.bind_some] at e2
        refine ⟨F2, R, ε2, k, ε3, s2, e3, fun F3 H3 fm3 s3 => ?_⟩
        cases k with
        | false =>
          simp only [Bool.false_eq_true, if_false] at e2
          cases e2
          exact iteF (q F3 H3 σ2 (fm2.trans fm3) t2 s3)
        | true =>
          simp only [if_true] at e2
          refine iteT ⟨fun σ' H' => ∃ F4 ε4, Same F F4 ∧ StS io σ σ' ∧ Sep X.E F4 R H' σ' ε4 [] ∧ whileN t b n ε4 = some (f, ε'), fun σ' H' hN => ⟨n, Nat.lt_succ_self n, hN⟩, ?_⟩
          cases e4 : b ε3 with
          | none => simp [e4] at e2
          | some p4 =>
            obtain ⟨g, ε4⟩ := p4
            simp only [e4, Option.bind_some] at e2
            refine ⟨F3, R, ε3, g, ε4, s3, e4, fun F4 H4 σ4 fm4 t4 => ?_⟩
            have fm := (fm2.trans fm3).trans fm4
            have tt := t2.trans t4
            cases g with
            | nx => exact fun s4 => ⟨F4, ε4, fm, tt, s4, e2⟩
            | ct => exact fun s4 => ⟨F4, ε4, fm, tt, s4, e2⟩
            | bk => cases e2; exact fun s4 => q F4 H4 σ4 fm tt s4
            | rt c => cases e2; exact q F4 H4 σ4 fm tt
            | xc x => cases e2; exact q F4 H4 σ4 fm tt
open Classical in
noncomputable def forL (ws : List Nat) (ε0 : Cs) (bind : BM) (body : XM) : List M.D → XM
  | [], ε => if sameC ws ε0 ε then some (.nx, ε) else none
  | d :: ds, ε => if sameC ws ε0 ε then do
      let ε1 ← bind d ε
      let (f, ε2) ← body ε1
      match f with
        | .nx => forL ws ε0 bind body ds ε2
        | .ct => forL ws ε0 bind body ds ε2
        | .bk => some (.nx, ε2)
        | .rt c => some (.rt c, ε2)
        | .xc x => some (.xc x, ε2)
    else none
noncomputable def mFor (io' : List Nat) (src : SM) (bind : BM) (body : XM) : XM := fun ε => do
  let ((ds, ws), ε1) ← src ε
  if ws.all (fun i => io'.contains i) then forL ws ε1 bind body ds ε1 else none
theorem ms_for {iter tg : Expr} {body : List Stmt} {io' ts : List Nat} {src : SM} {g : TG} {bind : BM} {b : XM} (hp : PassesOwn (model X.prog X.w) X.A X.env X.xe) (hc : X.calm = true) (hi : PI X tg iter (tI X.E src)) (hg : PG X tg g) (hgd : Gd X.E g bind (· ∈ ts))
    (hb : PSs X body (tS X.E W io' b)) (hio : ∀ i ∈ io, i ∈ io') (hts : ∀ i ∈ ts, i ∉ io') (hs : ∀ x, foldedSetIterable iter X.env x = pure x) : PS X (.For tg iter body [] pos) (tS X.E W io (mFor io' src bind b)) :=
  (ps_for hp hc hi hg hb hs).weak fun De σ H h => by
    obtain ⟨F, R, ε, f, ε', o, e, q⟩ := h
    unfold mFor at e
    cases e1 : src ε with
    | none => simp [e1] at e
    | some p =>
      obtain ⟨⟨ds, ws⟩, ε1⟩ := p
      simp only [e1, Option.bind_eq_bind, Option.bind_some] at e
      split at e
      · rename_i hws
        have hws : ∀ i ∈ ws, i ∈ io' := by simpa using hws
        refine ⟨F, R, ε, ds, ws, ε1, o, e1, fun F1 R1 H1 J fm1 s1 bk sr => ?_⟩
        obtain ⟨G, Y, w, hw⟩ := sr
        have same : ∀ {l : List M.D} {ε2 : Cs} {r : Fl × Cs}, forL ws ε1 bind b l ε2 = some r → sameC ws ε1 ε2 := fun {l ε2 r} h => by
          cases l with
          | nil =>
            unfold forL at h
            split at h
            · assumption
            · cases h
          | cons d l =>
            unfold forL at h
            split at h
            · assumption
            · cases h
        have q1 : ∀ F' H' σ', Same F1 F' → StS io' σ σ' → Fin X.E R1 De W F' H' σ' ε' f := fun F' H' σ' fm t => (q F' H' σ' (fm1.trans fm) (t.imp hio)).back bk fm
        refine for_it w (fun i σ2 H2 => ∃ F2 ε2, Same F1 F2 ∧ StS io' σ σ2 ∧ Sep X.E F2 R1 H2 σ2 ε2 [] ∧ forL ws ε1 bind b (ds.drop i) ε2 = some (f, ε')) ⟨F1, ε1, Same.refl F1, StS.refl σ, s1, e⟩ ?_ ?_ ?_
        · rintro i σ2 H2 _ ⟨F2, ε2, fm2, t2, s2, C1⟩
          exact (hw F2 H2 σ2 ε2 fm2 s2 fun j hj => ⟨t2.st j (hws j hj), same C1 j hj⟩).1
        · rintro i x σ2 H2 H3 hi ⟨F2, ε2, fm2, t2, s2, C1⟩ y
          obtain ⟨_, hy⟩ := hw F2 H2 σ2 ε2 fm2 s2 fun j hj => ⟨t2.st j (hws j hj), same C1 j hj⟩
          obtain ⟨F3, d, hdi, rd, gr⟩ := hy i x H3 hi y
          rw [List.getElem?_eq_getElem hi] at hdi
          cases hdi
          have s3 := s2.grow gr
          have hd : ds.drop i = ds[i] :: ds.drop (i + 1) := by rw [List.drop_eq_getElem_cons hi]
          rw [hd] at C1
          unfold forL at C1
          split at C1
          · cases eb : bind ds[i] ε2 with
            | none => simp [eb] at C1
            | some εb =>
              refine hgd F3 R1 H3 σ2 ε2 x _ εb _ s3 rd eb fun H4 σ4 bd => ?_
              have t4 := t2.trans (bd.sts (io := io') fun j hj => hts j hj)
              simp only [eb, Option.bind_eq_bind, Option.bind_some] at C1
              cases e5 : b εb with
              | none => simp [e5] at C1
              | some p5 =>
                obtain ⟨g, ε5⟩ := p5
                simp only [e5, Option.bind_some] at C1
                refine ⟨F3, R1, εb, g, ε5, bd.sep, e5, fun F5 H5 σ5 fm5 t5 => ?_⟩
                have fm := (fm2.trans gr.fm).trans fm5
                have tt := t4.trans t5
                cases g with
                | nx => exact fun s5 => ⟨F5, ε5, fm, tt, s5, C1⟩
                | ct => exact fun s5 => ⟨F5, ε5, fm, tt, s5, C1⟩
                | bk => cases C1; exact fun s5 => q1 F5 H5 σ5 fm tt s5
                | rt c => cases C1; exact q1 F5 H5 σ5 fm tt
                | xc x => cases C1; exact q1 F5 H5 σ5 fm tt
          · cases C1
        · rintro σ2 H2 ⟨F2, ε2, fm2, t2, s2, C1⟩
          rw [List.drop_length] at C1
          unfold forL at C1
          split at C1
          · cases C1
            exact q1 F2 H2 σ2 fm2 t2 s2
          · cases C1
      · cases e
end
end L2.M
namespace L2.M
open PySem PySem.Spec PyProof.Rows
def chnL : Opd → List ((D → D → Option C) × OM) → EM
  | _, [], _ => none
  | o, [(f, m)], ε => do
    let (p, ε1) ← m ε
    let d ← bor ε1 o
    let e ← bor ε1 p
    let c ← f d e
    some (c, ε1)
  | o, (f, m) :: x :: l, ε => do
    let (p, ε1) ← m ε
    let d ← bor ε1 o
    let e ← bor ε1 p
    match f d e with
      | some (.sh (.bool true)) => chnL p (x :: l) ε1
      | some (.sh (.bool false)) => some (.sh (.bool false), ε1)
      | _ => none
def mChn (m : OM) (l : List ((D → D → Option C) × OM)) : EM := fun ε => do
  let (o, ε1) ← m ε
  chnL o l ε1
section
variable {X : Cx}
/-- two operands, the first one waiting while the second is reckoned -/
structure Two (X : Cx) (F R H : Hp) (σ : St) (ε : Cs) (x : V) (o : Opd) : Prop where
  ov : OpV σ [x] [o]
  sep : Sep X.E F R H σ ε (tmO [o] [x])
/-- behind the second operand -/
theorem Two.next {F R H : Hp} {σ : St} {ε ε1 : Cs} {x : V} {o p : Opd} {m : OM} (t : Two X F R H σ ε x o) (em : m ε = some (p, ε1)) {Q : VK}
    (k : ∀ y F1 H1, Same F F1 → Two X F1 R H1 σ ε1 x o → (∀ F2 H2, Same F1 F2 → Sep X.E F2 R H2 σ ε1 (tmO [o] [x] ++ tmO [p] [y]) → Two X F2 R H2 σ ε1 y p) → OpV σ [y] [p] → Sep X.E F1 R H1 σ ε1 (tmO [o] [x] ++ tmO [p] [y]) → Q y H1) : tO X.E m σ H Q := by
  obtain ⟨R1, s1, bk⟩ := t.sep.hides
  refine ⟨F, R1, ε, p, ε1, s1, em, fun y F1 H1 fm vy sy => ?_⟩
  have s2 := bk F1 H1 σ ε1 _ fm sy
  refine k y F1 H1 fm ⟨t.ov, ?_⟩ (fun F2 H2 fm2 s3 => ⟨vy, s3.drops _⟩) vy s2
  have s3 := s1.grow (Grw.refl s1.sub)
  -- the first one alone
  have ov := t.ov
  cases o with
  | pl i => exact Sep.drops (T := []) (tmO [p] [y]) (by simpa [tmO] using s2)
  | tm c =>
    obtain ⟨R2, _, s4, bk2⟩ := Sep.hide (T := tmO [p] [y]) s2
    exact bk2 F1 H1 σ ε1 [] (Same.refl F1) (Sep.drops (T := []) (tmO [p] [y]) (by simpa using s4))
variable {a e1 e2 : Expr} {es : List Expr} {op1 op2 : CmpOp} {ops : List CmpOp} {m : OM} {l : List ((D → D → Option C) × OM)} {pos : Pos}
end
inductive Ty where
  | int | bool | str | list | tuple | dict
def Ty.nm : Ty → String
  | .int => "int"
  | .bool => "bool"
  | .str => "str"
  | .list => "list"
  | .tuple => "tuple"
  | .dict => "dict"
def isiD : Ty → D → Bool
  | .int, .int _ => true
  | .int, .bool _ => true
  | .bool, .bool _ => true
  | .str, .str _ => true
  | .list, .list _ => true
  | .tuple, .tuple _ => true
  | .dict, .dict _ => true
  | _, _ => false
def mIsi (T : Ty) (m : OM) : EM := mU (fun d => some (.sh (.bool (isiD T d)))) m
end L2.M
namespace L2.M
open PySem PySem.Spec PyProof.Rows
def keepT : List Opd → List Bool
  | [] => []
  | .pl _ :: os => false :: keepT os
  | .tm _ :: os => true :: keepT os
def tmsO : List Opd → Option (List C)
  | [] => some []
  | .tm (.sh d) :: os => (tmsO os).map (C.sh d :: ·)
  | .tm (.ls ds) :: os => (tmsO os).map (C.ls ds :: ·)
  | .tm (.dc k ds) :: os => (tmsO os).map (C.dc k ds :: ·)
  | .tm (.ob k cs) :: os => (tmsO os).map (C.ob k cs :: ·)
  | _ => none
theorem tmsO_zip : ∀ {os : List Opd} {vs : List V} {cs : List C}, os.length = vs.length → tmsO os = some cs → tmO os vs = vs.zip cs ∧ cs.length = os.length
  | [], vs, cs, l, e => by
    cases e
    cases vs with
    | nil => exact ⟨rfl, rfl⟩
    | cons _ _ => cases l
  | o :: os, [], cs, l, e => by cases l
  | .pl i :: os, v :: vs, cs, l, e => by cases e
  | .tm c :: os, v :: vs, cs, l, e => by
    have one : ∀ {c : C}, (tmsO os).map (c :: ·) = some cs → tmO (.tm c :: os) (v :: vs) = (v :: vs).zip cs ∧ cs.length = (Opd.tm c :: os).length := fun {c} e => by
      obtain ⟨cs2, e2, rfl⟩ := Option.map_eq_some_iff.mp e
      obtain ⟨h1, h2⟩ := tmsO_zip (vs := vs) (by simpa using l) e2
      exact ⟨by simp [tmO, h1], by simp [h2]⟩
    cases c with
    | no => cases e
    | sh d => exact one e
    | ls d => exact one e
    | dc k d => exact one e
    | ob k d => exact one e
    | px _ _ _ _ => cases e
    | fn _ => cases e
    | fd _ => cases e
    | fk _ => cases e
def setA : List Nat → List C → Cs → Cs
  | i :: is, c :: cs, ε => setA is cs (ε.set i c)
  | _, _, ε => ε
def setV : List Nat → List V → St → St
  | i :: is, v :: vs, σ => setV is vs (σ.set i (some v))
  | _, _, σ => σ
theorem putAll {K : Ek} {F R H : Hp} {T : Tms} : ∀ {is : List Nat} {vs : List V} {cs : List C} {σ : St} {ε : Cs}, Sep K F R H σ ε (vs.zip cs ++ T) → is.length = vs.length → cs.length = vs.length → Sep K F R H (setV is vs σ) (setA is cs ε) T
  | [], [], [], σ, ε, s, _, _ => s
  | i :: is, v :: vs, c :: cs, σ, ε, s, l1, l2 => putAll (is := is) (Sep.store s i) (by simpa using l1) (by simpa using l2)
  | [], v :: vs, cs, σ, ε, s, l1, l2 => by cases l1
  | i :: is, [], cs, σ, ε, s, l1, l2 => by cases l1
  | [], [], c :: cs, σ, ε, s, l1, l2 => by cases l2
  | i :: is, v :: vs, [], σ, ε, s, l1, l2 => by cases l2
theorem setV_sts {io : List Nat} : ∀ {is : List Nat} {vs : List V} {σ : St}, (∀ i ∈ is, i ∉ io) → StS io σ (setV is vs σ)
  | [], vs, σ, h => StS.refl σ
  | i :: is, [], σ, h => StS.refl σ
  | i :: is, v :: vs, σ, h => (StS.set (h i List.mem_cons_self)).trans (setV_sts fun j hj => h j (List.mem_cons_of_mem _ hj))
/-- a, b, .. = x, y, .. (names that no other def holds on to) -/
def mPar (io is : List Nat) (ma : AM) : XM := fun ε => do
  let (os, ε1) ← ma ε
  let (os2, ε2) ← frz (keepT os) os ε1
  let cs ← tmsO os2
  if cs.length = is.length ∧ cs.length ≤ sizeLine ∧ (∀ i ∈ is, i < ε2.length ∧ i ∉ io) then some (.nx, setA is cs ε2) else none
theorem Grw.junk {F H : Hp} (s : Same F H) {p : Addr} {u : HO} (hp : H p = none) : Grw F H F (upd H p u) :=
  ⟨Same.refl F, fun b x e => by rw [upd_ne (ne_of_none e hp)]; exact e, fun b x e => by rw [upd_ne (ne_of_none (s b x e) hp)]; exact s b x e, fun b h h' => absurd h h'⟩
theorem tS_par {K : Ek} {W : Xw} {io is : List Nat} {ma : AM} {De : Ends} {σ : St} {H : Hp} (h : tS K W io (mPar io is ma) De σ H) :
    tA K ma σ H fun vs H1 => vs.length = is.length ∧ vs.length ≤ sizeLine ∧ De.nx (setV is vs σ) H1 ∧ ∀ p, H1 p = none → De.nx (setV is vs σ) (upd H1 p (.tup vs)) := by
  obtain ⟨F, R, ε, f, ε', o, e, q⟩ := h
  unfold mPar at e
  cases e1 : ma ε with
  | none => simp [e1] at e
  | some p =>
    obtain ⟨os, ε1⟩ := p
    cases e2 : frz (keepT os) os ε1 with
    | none => simp [e1, e2] at e
    | some p2 =>
      obtain ⟨os2, ε2⟩ := p2
      cases e3 : tmsO os2 with
      | none => simp [e1, e2, e3] at e
      | some cs =>
        simp only [e1, e2, e3, Option.bind_eq_bind, Option.bind_some] at e
        split at e
        · rename_i hc
          cases e
          obtain ⟨hc1, hc2, hc3⟩ := hc
          refine ⟨F, R, ε, os, ε1, o, e1, fun vs F1 H1 fm1 v1 s1 => ?_⟩
          rw [← List.append_nil (tmO os vs)] at s1
          obtain ⟨F2, fm2, s2, v2, l2⟩ := frz_ok s1 v1 e2
          have lv := v2.len
          obtain ⟨z1, z2⟩ := tmsO_zip lv.symm e3
          rw [z1] at s2
          have vl : vs.length = is.length := by omega
          have t := setV_sts (vs := vs) (σ := σ) fun i hi => (hc3 i hi).2
          have s3 := putAll (is := is) s2 vl.symm (by omega)
          exact ⟨vl, by omega, q F2 H1 _ (fm1.trans fm2) t s3, fun p hp => q F2 _ _ (fm1.trans fm2) t (s3.grow (Grw.junk s3.sub hp))⟩
        · cases e
section
variable {X : Cx} {W : Xw} {io : List Nat} {ma : AM}
theorem ms_par2 {i j : Nat} {x y : Str} {a b : Expr} {px py pt pos : Pos} {kt k2 pt2} (hc : X.calm = true) (hN : X.N.Nodup) (hi : X.N[i]? = some x) (hj : X.N[j]? = some y) (hij : i ≠ j) (hx : X.env.scope.names.lookup x = some .local) (hy : X.env.scope.names.lookup y = some .local)
    (ha : PA X [a, b] (tA X.E ma)) (hw : swappedStores [.Tuple [.Name x px, .Name y py] kt pt] (.Tuple [a, b] k2 pt2) X.env = pure (some [x, y]))
    (hs : swapsWithSole [.Tuple [.Name x px, .Name y py] kt pt] (.Tuple [a, b] k2 pt2) pos.line X.env = pure false) :
    PS X (.Assign [.Tuple [.Name x px, .Name y py] kt pt] (.Tuple [a, b] k2 pt2) pos) (tS X.E W io (mPar io [i, j] ma)) := (ps_par hc hN hi hj hij hx hy ha hw hs).weak fun De σ H h => by
  refine tA_mono (tS_par h) fun vs H1 q => ?_
  obtain ⟨hl, _, q, _⟩ := q
  match vs, hl, q with
  | [u, v], _, q => exact ⟨u, v, rfl, q⟩
end
def shared : List Bool → List C → Bool
  | [], [] => true
  | true :: bs, c :: cs => shared bs cs
  | false :: bs, .sh _ :: cs => shared bs cs
  | _, _ => false
/-- what the caller's cells are behind the call -/
def after : List Bool → List C → Cs → List C
  | true :: bs, _ :: cs, e :: ε => e :: after bs cs ε
  | false :: bs, c :: cs, _ :: ε => c :: after bs cs ε
  | _, _, _ => []
def iosAt (k : Nat) : List Bool → List Nat
  | [] => []
  | true :: bs => k :: iosAt (k + 1) bs
  | false :: bs => iosAt (k + 1) bs
abbrev ios (bs : List Bool) : List Nat := iosAt 0 bs
def semF (io : List Bool) (ns : Nat) (m : XM) : GM := fun cs =>
  if shared io cs then
    match m (cs ++ List.replicate (ns - cs.length) .no) with
    | some (.rt c, ε') => some (c, after io cs ε')
    | some (.nx, ε') => some (.sh .none, after io cs ε')
    | _ => none
  else none
theorem mem_ios : ∀ {bs : List Bool} {k j : Nat}, j ∈ iosAt k bs ↔ k ≤ j ∧ bs[j - k]? = some true
  | [], k, j => by simp [iosAt]
  | true :: bs, k, j => by
    unfold iosAt
    rw [List.mem_cons, mem_ios]
    constructor
    · rintro (rfl | ⟨h1, h2⟩)
      · simp
      · refine ⟨by omega, ?_⟩
        rw [show j - k = (j - (k + 1)) + 1 by omega, List.getElem?_cons_succ]
        exact h2
    · rintro ⟨h1, h2⟩
      by_cases e : j = k
      · exact .inl e
      · refine .inr ⟨by omega, ?_⟩
        rw [show j - k = (j - (k + 1)) + 1 by omega, List.getElem?_cons_succ] at h2
        exact h2
  | false :: bs, k, j => by
    unfold iosAt
    rw [mem_ios]
    constructor
    · rintro ⟨h1, h2⟩
      refine ⟨by omega, ?_⟩
      rw [show j - k = (j - (k + 1)) + 1 by omega, List.getElem?_cons_succ]
      exact h2
    · rintro ⟨h1, h2⟩
      by_cases e : j = k
      · subst e
        simp at h2
      · refine ⟨by omega, ?_⟩
        rw [show j - k = (j - (k + 1)) + 1 by omega, List.getElem?_cons_succ] at h2
        exact h2
theorem mem_ios0 {bs : List Bool} {j : Nat} : j ∈ ios bs ↔ bs[j]? = some true := by
  unfold ios
  rw [mem_ios]
  simp
theorem leaveA {K : Ek} {F F' H H' : Hp} (fm : Same F F') : ∀ {bs : List Bool} {vs : List V} {cs : List C} {σ : St} {ε : Cs} {f0 fs : List (List Addr)}, RpCs K F H (vs.map some) cs f0 → RpCs K F' H' σ ε fs → shared bs cs = true → (∀ j : Nat, bs[j]? = some true → σ[j]? = (vs.map some)[j]?) → cs.length ≤ ε.length →
    ∃ f2, RpCs K F' H' (vs.map some) (after bs cs ε) f2 ∧ f2.flatten.Sublist fs.flatten
  | [], vs, [], σ, ε, f0, fs, h0, h, hs, hj, hl => ⟨[], by simpa [after] using ⟨h0.1, rfl⟩, by simp⟩
  | [], vs, c :: cs, σ, ε, f0, fs, h0, h, hs, hj, hl => by simp [shared] at hs
  | true :: bs, vs, [], σ, ε, f0, fs, h0, h, hs, hj, hl => by simp [shared] at hs
  | false :: bs, vs, [], σ, ε, f0, fs, h0, h, hs, hj, hl => by simp [shared] at hs
  | b :: bs, vs, c :: cs, σ, [], f0, fs, h0, h, hs, hj, hl => by simp at hl
  | b :: bs, vs, c :: cs, σ, e :: ε, f0, fs, h0, h, hs, hj, hl => by
    obtain ⟨o, r, f, fr, e1, e2, k1, k2⟩ := h0
    obtain ⟨o', r', f', fr', e1', e2', k1', k2'⟩ := h
    cases vs with
    | nil => cases e1
    | cons v vs =>
      obtain ⟨rfl, rfl⟩ := List.cons.inj e1
      subst e1' e2'
      have hs' : shared bs cs = true := by cases b <;> cases c <;> simp_all [shared]
      obtain ⟨f2, g1, g2⟩ := leaveA fm (bs := bs) k2 k2' hs' (fun j h => by simpa using hj (j + 1) (by simpa using h)) (by simpa using hl)
      cases b with
      | true =>
        have ho : o' = some v := by simpa using hj 0 rfl
        subst ho
        exact ⟨f' :: f2, ⟨_, _, _, _, rfl, rfl, k1', g1⟩, by rw [List.flatten_cons, List.flatten_cons]; exact List.Sublist.append (List.Sublist.refl _) g2⟩
      | false =>
        cases c with
        | sh d =>
          obtain ⟨_, w, ew, rw⟩ := k1
          refine ⟨[] :: f2, ⟨_, _, _, _, rfl, rfl, ⟨rfl, w, ew, Rep.mono fm _ _ rw⟩, g1⟩, ?_⟩
          rw [List.flatten_cons, List.flatten_cons, List.nil_append]
          exact g2.trans (List.sublist_append_right _ _)
        | no => simp [shared] at hs
        | ls d => simp [shared] at hs
        | dc k d => simp [shared] at hs
        | ob k d => simp [shared] at hs
        | px _ _ _ _ => simp [shared] at hs
        | fn _ => simp [shared] at hs
        | fd _ => simp [shared] at hs
        | fk _ => simp [shared] at hs
/-- the callee's frame at its begin -/
theorem Sep.ext {K : Ek} {F R H : Hp} {σ : St} {ε : Cs} (s : Sep K F R H σ ε []) (n : Nat) : Sep K F R H (σ ++ List.replicate n none) (ε ++ List.replicate n .no) [] := by
  obtain ⟨a1, a2, a3, ⟨fs, gs, h1, h2, n1, m1⟩⟩ := s
  have e : (fs ++ List.replicate n ([] : List Addr)).flatten = fs.flatten := by rw [List.flatten_append, flat_rep, List.append_nil]
  exact ⟨a1, a2, a3, fs ++ List.replicate n [], gs, h1.append (RpCs.nos n _ (by simp)), h2, by rw [e]; exact n1, by rw [e]; exact m1⟩
/-- .. and at its end -/
theorem Sep.leave {K : Ek} {F R H F' R' H' : Hp} {vs : List V} {cs : List C} {n : Nat} {io : List Bool} {σ' : St} {ε' : Cs} {T : Tms} (s : Sep K F R' H (vs.map some) cs []) (hs : shared io cs = true) (fm : Same F F') (t : StS (ios io) (vs.map some ++ List.replicate n none) σ')
    (s' : Sep K F' R H' σ' ε' T) : Sep K F' R H' (vs.map some) (after io cs ε') T := by
  have l0 := s.len
  have l1 := s'.len
  have l2 := t.ln
  rw [List.length_append, List.length_replicate, List.length_map] at l2
  rw [List.length_map] at l0
  obtain ⟨_, _, _, ⟨f0, _, k0, _⟩⟩ := s
  obtain ⟨a1, a2, a3, ⟨fs, gs, h1, h2, n1, m1⟩⟩ := s'
  have lb : ∀ {bs : List Bool} {cs : List C}, shared bs cs = true → bs.length = cs.length := by
    intro bs
    induction bs with
    | nil => intro cs h; cases cs <;> simp_all [shared]
    | cons b bs ih => intro cs h; cases cs with
      | nil => cases b <;> simp [shared] at h
      | cons c cs =>
        have : shared bs cs = true := by cases b <;> cases c <;> simp_all [shared]
        simp [ih this]
  obtain ⟨f2, g1, g2⟩ := leaveA fm k0 h1 hs (fun j hj => by
    have hlt : j < vs.length := by
      have := (List.getElem?_eq_some_iff.mp hj).1
      have := lb hs
      omega
    rw [t.st j (mem_ios0.mpr hj), List.getElem?_append_left (by simpa using hlt)]) (by omega)
  have sb := List.Sublist.append g2 (List.Sublist.refl gs.flatten)
  exact ⟨a1, a2, a3, f2, gs, g1, h2, sb.nodup n1, fun b hb => m1 b (sb.subset hb)⟩
theorem sem_run {K : Ek} {W : Xw} {np ns : Nat} {io : List Bool} {m : XM} {vs : List V} {H : Hp} {Q : VK} {E : XK} (h : spOf K np (semF io ns m) vs H Q E) :
    tS K W (ios io) m { nx := fun _ H' => Q .non H', rt := Q } (vs.map some ++ List.replicate (ns - vs.length) none) H := by
  obtain ⟨hl, F, R, cs, c, cs', s, e, q⟩ := h
  have lc : cs.length = vs.length := by rw [← s.len, List.length_map]
  unfold semF at e
  split at e
  · rename_i hs
    rw [lc] at e
    generalize hn : ns - vs.length = n at e ⊢
    have s2 := s.ext n
    split at e
    · rename_i c1 ε' hm
      cases e
      exact ⟨F, R, _, _, ε', s2, hm, fun F' H' σ' fm t v s' => q v F' H' fm (s.leave hs fm t s')⟩
    · rename_i ε' hm
      cases e
      exact ⟨F, R, _, _, ε', s2, hm, fun F' H' σ' fm t s' => q .non F' H' fm ((s.leave hs fm t s').addSh (by simp only [Rep]))⟩
    · cases e
  · cases e
end L2.M
namespace L2.M
open PySem PySem.Spec PyProof.Rows
section
variable {X : Cx} {a b c e : Expr} {es rest : List Expr} {ma mb mo : OM} {m n : EM} {mr : AM} {t t1 t2 : TM} {pos p x : Pos} {k : Nat}
theorem ma_cons (h1 : PE X e (tO X.E mo)) (h2 : PA X es (tA X.E mr)) (hs : starEach (e :: es) X.env = (false, eval e X.env) :: starEach es X.env := by rfl) : PA X (e :: es) (tA X.E (mCons mo mr)) :=
  (pa_cons h1 h2 hs).weak fun _ _ _ h => tA_cons h
theorem x_bin {op : Operator} (ha : PE X a (tO X.E ma)) (hb : PE X b (tO X.E mb)) : PE X (.BinOp a op b pos) (tE X.E (mB (binD op) ma mb)) :=
  let ⟨_, h1, h2⟩ := bin_ok op
  me_bin h1 h2 ha hb
theorem x_cmp {op : CmpOp} (hr : Room k X.A) (ha : PE X a (tO X.E ma)) (hb : PE X b (tO X.E mb)) (hm : behindInMarks op b = false := by rfl) : PE X (.Compare a [op] [b] pos) (tE X.E (mB (cmpD op) ma mb)) :=
  let ⟨_, h1, h2⟩ := cmp_ok (by have := hr.un; omega) op
  me_cmp h1 h2 ha hb hm
theorem y_cmp {op : CmpOp} (hr : Room k X.A) (ha : PE X a (tO X.E ma)) (hb : PE X b (tO X.E mb)) (hm : behindInMarks op b = false := by rfl) : PT X (.Compare a [op] [b] pos) (tT X.E (mTst (mB (cmpD op) ma mb))) :=
  let ⟨_, h1, h2⟩ := cmp_ok (by have := hr.un; omega) op
  mt_cmp h1 h2 ha hb hm
theorem x_ix (ha : PE X a (tO X.E ma)) (hb : PE X b (tO X.E mb)) (hs : PlainIx b := by exact fun _ _ => rfl) : PE X (.Subscript a b pos) (tE X.E (mB ixD ma mb)) :=
  let ⟨_, h1, h2⟩ := ix_ok
  me_ix h1 h2 ha hb hs
/-- a built-in function's call -/
inductive Bf where
  | len | int | max | min | abs | tuple | list | repr
def Bf.nm : Bf → Str
  | .len => "len"
  | .int => "int"
  | .max => "max"
  | .min => "min"
  | .abs => "abs"
  | .tuple => "tuple"
  | .list => "list"
  | .repr => "repr"
def Bf.f : Bf → List D → Option C
  | .len => lenD
  | .int => intD
  | .max => maxD
  | .min => minD
  | .abs => absD
  | .tuple => tupD
  | .list => lstD
  | .repr => repD
theorem boot_abs : bootBuiltins "abs" = some (.builtin "abs") := by decide +kernel
theorem x_bf (q : Bf) {y : Str} (hy : y = q.nm) (hm : X.mg q.nm = none) (hc : X.calm = true) (hg : Gl X y) (ha : PA X (e :: es) (tA X.E mr)) (he : starEach (e :: es) X.env = (false, eval e X.env) :: starEach es X.env := by rfl) (hpl : (backTo pos (starEach es X.env)).any (·.1) = false := by rfl) :
    PE X (.Call (.Name y p) (e :: es) [] pos) (tE X.E (mOp q.f mr)) := by
  subst hy
  cases q with
  | len => exact let ⟨_, h1, h2⟩ := len_ok; me_callB h1 h2 hg hm boot_len ha (by decide) (by decide) he hpl
  | int => exact let ⟨_, h1, h2⟩ := int_ok; me_callTy h1 h2 hg hm boot_int ha (by decide) (by decide) he hpl
  | max => exact let ⟨_, h1, h2⟩ := max_ok hc; me_callB h1 h2 hg hm boot_max ha (by decide) (by decide) he hpl
  | min => exact let ⟨_, h1, h2⟩ := min_ok hc; me_callB h1 h2 hg hm boot_min ha (by decide) (by decide) he hpl
  | abs => exact let ⟨_, h1, h2⟩ := abs_ok; me_callB h1 h2 hg hm boot_abs ha (by decide) (by decide) he hpl
  | tuple => exact let ⟨_, h1, h2⟩ := tup_ok; me_callTy h1 h2 hg hm boot_tuple ha (by decide) (by decide) he hpl
  | list => exact let ⟨_, h1, h2⟩ := lst_ok; me_callTy h1 h2 hg hm boot_list ha (by decide) (by decide) he hpl
  | repr => exact let ⟨_, h1, h2⟩ := rep_ok; me_callB h1 h2 hg hm boot_repr ha (by decide) (by decide) he hpl
end
section
variable {X : Cx} {W : Xw} {io : List Nat} {pos p p2 p3 : Pos} {e : Expr} {m : EM}
theorem z_set (i : Nat) {y : Str} (hN : X.N.Nodup) (he : PE X e (tE X.E m)) (hi : X.N[i]? = some y := by rfl) (hx : Loc X.env.scope y := by first | exact .inl rfl | exact .inr rfl) (hf : X.fn y = true ∨ X.env.scope.names.lookup y = some .local := by first | exact .inr rfl | exact .inl rfl) (hs : swapsWith e (some (.Name y p)) pos.line X.env = pure false := by rfl) : PS X (.Assign [.Name y p] e pos) (tS X.E W io (mSet io i m)) :=
  ms_set hN hi hx he hs hf
theorem z_asg {tg : Expr} {ts : List Nat} {g : TG} {bd : BM} (hg : Gd X.E g bd (· ∈ ts)) (hp : PG X tg g) (he : PE X e (tE X.E m)) (hs : swapsWithSole [tg] e pos.line X.env = pure false := by rfl) (hw : swappedStores [tg] e X.env = pure none := by rfl)
    (h1 : (assignEach [tg] X.env).map (·.2) = [assign tg X.env] := by rfl) : PS X (.Assign [tg] e pos) (tS X.E W io (mAsg ts io bd m)) := ms_asg hg he hp hs hw h1
theorem Gd.imp {K : Ek} {g : TG} {b : BM} {S S' : Nat → Prop} (h : Gd K g b S) (i : ∀ j, S j → S' j) : Gd K g b S' := fun F R H σ ε x d ε' Q o r e q => h F R H σ ε x d ε' Q o r e fun H' σ' bd => q H' σ' (bd.imp i)
theorem g_nm (i : Nat) {y : Str} (hN : X.N.Nodup) (hi : X.N[i]? = some y := by rfl) (hx : Loc X.env.scope y := by first | exact .inl rfl | exact .inr rfl) (hf : X.fn y = true ∨ X.env.scope.names.lookup y = some .local := by first | exact .inr rfl | exact .inl rfl) : PG X (.Name y p) (gName i) := pg_name hN hi hx hf
theorem z_app (i : Nat) {y : Str} (hv : PE X (.Name y p) (tVar i)) (he : PE X e (tE X.E m)) (hbase : attributeBase (.Name y p) "append" X.env (eval (.Name y p) X.env) = eval (.Name y p) X.env := by rfl)
    (hfew : ((backTo p3 (starEach [e] X.env)).all (fun x => !x.1) && (backToKw p3 (keywordEach [] X.env)).all (fun x => x.1.isSome) && decide ([e].length + ([] : List Keyword).length + (if ([] : List Keyword).isEmpty then 0 else 1) < 30)) = true := by rfl)
    (hline : (p2.endLine == p3.line) = true := by rfl) (hs : starEach [e] X.env = (false, eval e X.env) :: starEach [] X.env := by rfl) (hplain : (backTo p3 (starEach [] X.env)).any (·.1) = false := by rfl) (hst : starEach [e] X.env = [(false, eval e X.env)] := by rfl)
    (hsw : swapsWith (.Call (.Attribute (.Name y p) "append" p2) [e] [] p3) none pos.line X.env = pure false := by rfl) : PS X (.Expr (.Call (.Attribute (.Name y p) "append" p2) [e] [] p3) pos) (tS X.E W io (mApp i m)) :=
  ms_app hv he (fun {to t} h1 h2 => pe_bm PySem.F.plainAttrs_list PySem.F.slot_list_append PySem.F.type_list_append mt_append h1 h2 hbase hfew hline hs hplain) hst hsw
theorem z_ix (i : Nat) {y : Str} {kx : Expr} {ix : OM} (hv : PE X (.Name y p) (tVar i)) (hk : PE X kx (tO X.E ix)) (he : PE X e (tE X.E m))
    (ha : ∀ v, assign (.Subscript (.Name y p) kx p2) X.env v = (do
      let ov ← holding [v] (eval (.Name y p) X.env)
      let iv ← holding [v, ov] (eval kx X.env)
      standAt p2
      holding [v, ov, iv] (setItem ov iv v)
      release [v, ov, iv] []) := by intro _; rfl)
    (hs : swapsWithSole [.Subscript (.Name y p) kx p2] e pos.line X.env = pure false := by rfl) (hw : swappedStores [.Subscript (.Name y p) kx p2] e X.env = pure none := by rfl)
    (h1 : (assignEach [.Subscript (.Name y p) kx p2] X.env).map (·.2) = [assign (.Subscript (.Name y p) kx p2) X.env] := by rfl) : PS X (.Assign [.Subscript (.Name y p) kx p2] e pos) (tS X.E W io (mSetIx i m ix)) := ms_setIx hv he hk ha hs hw h1
theorem z_par2 (i j : Nat) {y z : Str} {a b : Expr} {kt k2 : Nat} {pt pt2 py pz : Pos} {ma : AM} (hc : X.calm = true) (hN : X.N.Nodup) (ha : PA X [a, b] (tA X.E ma)) (hi : X.N[i]? = some y := by rfl) (hj : X.N[j]? = some z := by rfl) (hij : i ≠ j := by decide)
    (hx : X.env.scope.names.lookup y = some .local := by rfl) (hy : X.env.scope.names.lookup z = some .local := by rfl)
    (hw : swappedStores [.Tuple [.Name y py, .Name z pz] kt pt] (.Tuple [a, b] k2 pt2) X.env = pure (some [y, z]) := by rfl)
    (hs : swapsWithSole [.Tuple [.Name y py, .Name z pz] kt pt] (.Tuple [a, b] k2 pt2) pos.line X.env = pure false := by rfl) :
    PS X (.Assign [.Tuple [.Name y py, .Name z pz] kt pt] (.Tuple [a, b] k2 pt2) pos) (tS X.E W io (mPar io [i, j] ma)) := ms_par2 hc hN hi hj hij hx hy ha hw hs
theorem z_for {iter tg : Expr} {body : List Stmt} {io' ts : List Nat} {src : SM} {g : TG} {bind : BM} {b : XM} (hp : PassesOwn (model X.prog X.w) X.A X.env X.xe) (hc : X.calm = true) (hi : PI X tg iter (tI X.E src)) (hgd : Gd X.E g bind (· ∈ ts)) (hg : PG X tg g)
    (hb : PSs X body (tS X.E W io' b)) (hio : ∀ i ∈ io, i ∈ io' := by decide) (hts : ∀ i ∈ ts, i ∉ io' := by decide) (hs : ∀ x, foldedSetIterable iter X.env x = pure x := by intro _; rfl) : PS X (.For tg iter body [] pos) (tS X.E W io (mFor io' src bind b)) := ms_for hp hc hi hg hgd hb hio hts hs
theorem z_rng1 {tg a : Expr} {ma : AM} (hm : X.mg "range" = none) (hg : Gl X "range") (ha : PA X [a] (tA X.E ma)) (hs : starEach [a] X.env = [(false, eval a X.env)] := by rfl) : PI X tg (.Call (.Name "range" p) [a] [] pos) (tI X.E (mSrc rng1D ma)) := mi_range1 hg hm ha hs
end
def Wo (fa : List He.Fa) (fn : List He.DefD) (K : PySem.W.Frag) (mg : Str → Option Value) : Prop := ∃ h : Heap, K.In h ∧ h.Ns mainGlobals mg ∧ He.SaysD fa fn K
section
variable {fa : List He.Fa} {fn : List He.DefD} {K : PySem.W.Frag} {mg : Str → Option Value}
theorem Wo.free (W : Wo fa fn K mg) (i : Nat) {x : Str} (h : fa[i]? = some (.free x) := by rfl) : mg x = none :=
  let ⟨_, X, G, c⟩ := W
  He.free_ok X G (c.fact i h)
theorem Wo.int (W : Wo fa fn K mg) (i : Nat) {x : Str} {n : Int} (h : fa[i]? = some (.int x n) := by rfl) : ∃ t, mg x = some (.int n t) :=
  let ⟨_, X, G, c⟩ := W
  He.int_ok X G (c.fact i h)
theorem Wo.str (W : Wo fa fn K mg) (i : Nat) {x z : Str} (h : fa[i]? = some (.str x z) := by rfl) : ∃ t, mg x = some (.str z t) :=
  let ⟨_, X, G, c⟩ := W
  He.str_ok X G (c.fact i h)
end
def Plain (d : He.DefD) (ps : List Str) : Prop := d.dfl = [] ∧ d.kwd = [] ∧ ∀ (kV doc pm : Value) (an : Option Addr) (cdv ct : Value) (us : List Value), us.length = ps.length → bindArgs (PySem.W.fnOf d.name d.qual d.params d.body d.scope .none kV doc pm an cdv ct) ⟨us, []⟩ = pure (ps.zip us)
abbrev cxN (P : Program) (w : World) (K : PySem.W.Frag) (mg : Str → Option Value) (base : Heap) (N : List Str) (d : He.DefD) (f : Addr) (cdv : Value) (A : Around) (outer : List Env) (s : Shared) (H : Hp) (E : XK) : Cx := (cxOf CX0 P w K mg base N d.qual d.scope f cdv A outer s H E).nox
/-- nothing is raised -/
abbrev W0 : Xw := fun _ _ _ _ => False
/-- a script in the first heap: read as frozen data -/
theorem sp_law {K : Ek} {m : XM} {n : Nat} {H : Hp} {a : Addr} {ns : List Int} (O : Only H) (h : SqL K.1 H a (ns.map V.int)) (hm : ∃ cs', semF [false] n m [.sh (.list (ns.map PyData.int))] = some (.sh (.bool true), cs')) :
    spOf K 1 (semF [false] n m) [.ref a] H (fun v _ => v = .bl true) fun _ _ _ => False := by
  obtain ⟨cs', hm⟩ := hm
  have reps : ∀ ns : List Int, Reps K.1 H (ns.map V.int) (ns.map PyData.int) := fun ns => by
    induction ns with
    | nil => rfl
    | cons x r ih => exact ⟨_, _, rfl, by simp only [Rep], ih⟩
  refine ⟨rfl, H, fun _ => none, [.sh (.list (ns.map PyData.int))], _, _, ⟨Same.refl H, fun b u z => (nomatch z), fun b _ => rfl, [[]], [], ⟨_, _, _, _, rfl, rfl, ⟨rfl, _, rfl, a, _, rfl, h, reps ns⟩, rfl, rfl⟩, ⟨rfl, rfl⟩, by simp, fun b hb => by simp at hb⟩, hm, fun v F' H' fm p => p.boolT⟩
end L2.M
namespace L2.M
open PySem PySem.Spec PyProof.Rows
section
variable {X : Cx} {pos p : Pos}
theorem pts_no : PTs X [] (tT X.E mYes) := ⟨fun pins s σ H Q I q => pts_nil.run pins s σ H Q I (tT_pure q)⟩
theorem x_lc {elt tg iter : Expr} {ifs : List Expr} {scope : Scope} {src : SM} {bd : BM} {g : TG} {tt : TM} {m : EM} (own : List (Str × Nat)) (hc : X.calm = true) (hN : X.N.Nodup) (hok : BlkOk X.N X.env.scope scope own) (hsrc : PI X tg iter (tI X.E src)) (hgd : Gd X.E g bd (· ∈ own.map (·.2)))
    (hg : ∀ (s : Shared) (H : Hp) (c0 : Addr) (cl : List (Str × Addr)) (fp : List Addr), PG (X.blk s H scope (compEnvC scope cl c0 X.env) fp) tg g) (ht : ∀ (s : Shared) (H : Hp) (c0 : Addr) (cl : List (Str × Addr)) (fp : List Addr), PTs (X.blk s H scope (compEnvC scope cl c0 X.env) fp) ifs (tT X.E tt))
    (he : ∀ (s : Shared) (H : Hp) (c0 : Addr) (cl : List (Str × Addr)) (fp : List Addr), PE (X.blk s H scope (compEnvC scope cl c0 X.env) fp) elt (tE X.E m)) (hs : ∀ x, foldedSetIterable iter X.env x = pure x := by intro _; rfl) :
    PE X (.ListComp elt [⟨tg, iter, ifs, 0⟩] scope pos) (tE X.E (mLc src bd tt m (own.map (·.2)))) := (pe_lc hc hN hsrc hok hg ht he hs).weak fun _ _ _ h => tE_lc hgd (fun _ h => h) h
def revD : D → Option C
  | .list ds => some (.ls ds.reverse)
  | .tuple ds => some (.sh (.tuple ds.reverse))
  | _ => none
end
section
variable {X : Cx} {e : Expr} {k : Nat} {p1 p2 p3 pos : Pos}
def mRev (m : OM) : EM := mU revD m
end
end L2.M
namespace L2.M
open PySem PySem.Spec PyProof.Rows
def intsOf : List D → Option (List Int)
  | [] => some []
  | .int i :: ds => (intsOf ds).map (i :: ·)
  | _ => none
def boolsOf : List D → Option (List Bool)
  | [] => some []
  | .bool i :: ds => (boolsOf ds).map (i :: ·)
  | _ => none
theorem ints_reps {K : PySem.W.Frag} {F : Hp} : ∀ {ds : List D} {vs : List V} {ns : List Int}, Reps K F vs ds → intsOf ds = some ns → vs = ns.map V.int
  | [], vs, ns, h, e => by cases e; exact h
  | .int i :: ds, vs, ns, ⟨v, r, h1, h2, h3⟩, e => by
    simp only [intsOf, Option.map_eq_some_iff] at e
    obtain ⟨ms, e1, rfl⟩ := e
    subst h1
    simp only [Rep] at h2
    rw [h2, ints_reps h3 e1]
    rfl
  | .none :: ds, vs, ns, h, e => by cases e
  | .bool _ :: ds, vs, ns, h, e => by cases e
  | .str _ :: ds, vs, ns, h, e => by cases e
  | .list _ :: ds, vs, ns, h, e => by cases e
  | .tuple _ :: ds, vs, ns, h, e => by cases e
  | .dict _ :: ds, vs, ns, h, e => by cases e
theorem bools_reps {K : PySem.W.Frag} {F : Hp} : ∀ {ds : List D} {vs : List V} {ns : List Bool}, Reps K F vs ds → boolsOf ds = some ns → vs = ns.map V.bl
  | [], vs, ns, h, e => by cases e; exact h
  | .bool i :: ds, vs, ns, ⟨v, r, h1, h2, h3⟩, e => by
    simp only [boolsOf, Option.map_eq_some_iff] at e
    obtain ⟨ms, e1, rfl⟩ := e
    subst h1
    simp only [Rep] at h2
    rw [h2, bools_reps h3 e1]
    rfl
  | .none :: ds, vs, ns, h, e => by cases e
  | .int _ :: ds, vs, ns, h, e => by cases e
  | .str _ :: ds, vs, ns, h, e => by cases e
  | .list _ :: ds, vs, ns, h, e => by cases e
  | .tuple _ :: ds, vs, ns, h, e => by cases e
  | .dict _ :: ds, vs, ns, h, e => by cases e
theorem reps_ints {K : PySem.W.Frag} {F : Hp} : ∀ ns : List Int, Reps K F (ns.map V.int) (ns.map PyData.int)
  | [] => rfl
  | n :: ns => ⟨_, _, rfl, by simp only [Rep], reps_ints ns⟩
def anyD : List D → Option C
  | [.list ds] => (boolsOf ds).map fun bs => .sh (.bool (bs.any id))
  | _ => none
def allD : List D → Option C
  | [.list ds] => (boolsOf ds).map fun bs => .sh (.bool (bs.all id))
  | _ => none
def sumD : List D → Option C
  | [.list ds] => (intsOf ds).map fun ns => .sh (.int ns.sum)
  | _ => none
def isort (ns : List Int) : List Int := ns.mergeSort fun a b => decide (a ≤ b)
def sortD : List D → Option C
  | [.list ds] => (intsOf ds).map fun ns => .ls ((isort ns).map PyData.int)
  | _ => none
def strD : List D → Option C
  | [.int i] => if sm i then some (.sh (.str (toString i))) else none
  | _ => none
def gmaxD : List D → Option C
  | [.list ds] => match intsOf ds with
    | some (n :: ns) => some (.sh (.int (ns.foldl max n)))
    | _ => none
  | _ => none
def gminD : List D → Option C
  | [.list ds] => match intsOf ds with
    | some (n :: ns) => some (.sh (.int (ns.foldl min n)))
    | _ => none
  | _ => none
theorem isort_of {ns ms : List Int} (p : ms.Perm ns) (s : ms.Pairwise (· ≤ ·)) : ms = isort ns := by
  have h1 : (isort ns).Perm ns := List.mergeSort_perm ns _
  have h2 : (isort ns).Pairwise (fun a b => decide (a ≤ b) = true) := List.pairwise_mergeSort (by intro a b c; simp; omega) (by intro a b; simp; omega) ns
  have h3 : (isort ns).Pairwise (· ≤ ·) := h2.imp fun h => by simpa using h
  exact (p.trans h1.symm).eq_of_pairwise (fun a b _ _ h k => Int.le_antisymm h k) s h3
section
variable {X : Cx}
theorem any_ok (hc : X.calm = true) : ∃ r, CallR X (.builtin "any") r ∧ FnB X.K anyD r := by
  refine ⟨_, cr_any hc, fun F H vs ds c Q s hr he q => ?_⟩
  match ds, he, hr with
  | [.list ds], he, hr =>
    simp only [anyD, Option.map_eq_some_iff] at he
    obtain ⟨bs, e1, rfl⟩ := he
    obtain ⟨x, rfl, h1⟩ := hr.one
    obtain ⟨a, vs, rfl, g1, g2⟩ := rb_lst s h1
    rw [bools_reps g2 e1] at g1
    exact ⟨a, bs, rfl, g1, g_bool s q⟩
theorem all_ok (hc : X.calm = true) : ∃ r, CallR X (.builtin "all") r ∧ FnB X.K allD r := by
  refine ⟨_, cr_all hc, fun F H vs ds c Q s hr he q => ?_⟩
  match ds, he, hr with
  | [.list ds], he, hr =>
    simp only [allD, Option.map_eq_some_iff] at he
    obtain ⟨bs, e1, rfl⟩ := he
    obtain ⟨x, rfl, h1⟩ := hr.one
    obtain ⟨a, vs, rfl, g1, g2⟩ := rb_lst s h1
    rw [bools_reps g2 e1] at g1
    exact ⟨a, bs, rfl, g1, g_bool s q⟩
theorem sum_ok (hc : X.calm = true) : ∃ r, CallR X (.builtin "sum") r ∧ FnB X.K sumD r := by
  refine ⟨_, cr_sum hc, fun F H vs ds c Q s hr he q => ?_⟩
  match ds, he, hr with
  | [.list ds], he, hr =>
    simp only [sumD, Option.map_eq_some_iff] at he
    obtain ⟨bs, e1, rfl⟩ := he
    obtain ⟨x, rfl, h1⟩ := hr.one
    obtain ⟨a, vs, rfl, g1, g2⟩ := rb_lst s h1
    rw [ints_reps g2 e1] at g1
    exact ⟨a, bs, rfl, g1, g_int s q⟩
theorem sort_ok : ∃ r, CallR X (.builtin "sorted") r ∧ FnB X.K sortD r := by
  refine ⟨_, cr_sortedI, fun F H vs ds c Q s hr he q => ?_⟩
  match ds, he, hr with
  | [.list ds], he, hr =>
    simp only [sortD, Option.map_eq_some_iff] at he
    obtain ⟨bs, e1, rfl⟩ := he
    obtain ⟨x, rfl, h1⟩ := hr.one
    obtain ⟨a, vs, rfl, g1, g2⟩ := rb_lst s h1
    rw [ints_reps g2 e1] at g1
    refine ⟨a, bs, rfl, g1, fun ms p hp hs hq => ?_⟩
    rw [isort_of hp hs]
    exact g_lst s (reps_ints _) q p hq
theorem str_ok : ∃ r, CallR X (.type "str") r ∧ FnB X.K strD r := by
  refine ⟨_, call_str_int, fun F H vs ds c Q s hr he q => ?_⟩
  match ds, he, hr with
  | [.int i], he, hr =>
    simp only [strD] at he
    split at he
    · rename_i hz
      cases he
      obtain ⟨x, rfl, h1⟩ := hr.one
      rw [rb_int h1]
      exact ⟨i, rfl, by have := log2_le hz.1 hz.2; omega, g_str s q⟩
    · cases he
theorem fold_max : ∀ (ns : List Int) (n : Int), (ns.foldl max n = n ∨ ns.foldl max n ∈ ns) ∧ n ≤ ns.foldl max n ∧ ∀ y ∈ ns, y ≤ ns.foldl max n
  | [], n => ⟨.inl rfl, Int.le_refl _, fun y h => by cases h⟩
  | m :: ns, n => by
    obtain ⟨h1, h2, h3⟩ := fold_max ns (max n m)
    simp only [List.foldl_cons]
    refine ⟨?_, by omega, fun y hy => ?_⟩
    · rcases h1 with h | h
      · rw [h]
        by_cases k : n ≤ m
        · right; rw [Int.max_eq_right k]; exact List.mem_cons_self
        · left; exact Int.max_eq_left (by omega)
      · exact .inr (List.mem_cons_of_mem _ h)
    · rcases List.mem_cons.mp hy with rfl | hy
      · omega
      · exact h3 y hy
theorem fold_min : ∀ (ns : List Int) (n : Int), (ns.foldl min n = n ∨ ns.foldl min n ∈ ns) ∧ ns.foldl min n ≤ n ∧ ∀ y ∈ ns, ns.foldl min n ≤ y
  | [], n => ⟨.inl rfl, Int.le_refl _, fun y h => by cases h⟩
  | m :: ns, n => by
    obtain ⟨h1, h2, h3⟩ := fold_min ns (min n m)
    simp only [List.foldl_cons]
    refine ⟨?_, by omega, fun y hy => ?_⟩
    · rcases h1 with h | h
      · rw [h]
        by_cases k : n ≤ m
        · left; exact Int.min_eq_left k
        · right; rw [Int.min_eq_right (by omega)]; exact List.mem_cons_self
      · exact .inr (List.mem_cons_of_mem _ h)
    · rcases List.mem_cons.mp hy with rfl | hy
      · omega
      · exact h3 y hy
theorem gmax_ok (hc : X.calm = true) : ∃ r, CallR X (.builtin "max") r ∧ FnB X.K gmaxD r := by
  refine ⟨_, cr_max hc, fun F H vs ds c Q s hr he q => ?_⟩
  match ds, he, hr with
  | [.list ds], he, hr =>
    simp only [gmaxD] at he
    split at he
    · rename_i n ns e1
      cases he
      obtain ⟨x, rfl, h1⟩ := hr.one
      obtain ⟨a, vs, rfl, g1, g2⟩ := rb_lst s h1
      rw [ints_reps g2 e1] at g1
      refine ⟨a, n :: ns, rfl, g1, by simp, fun m hm hy => ?_⟩
      obtain ⟨k1, k2, k3⟩ := fold_max ns n
      have e : m = ns.foldl max n := by
        apply Int.le_antisymm
        · rcases List.mem_cons.mp hm with rfl | h
          · exact k2
          · exact k3 _ h
        · rcases k1 with h | h
          · rw [h]; exact hy _ List.mem_cons_self
          · exact hy _ (List.mem_cons_of_mem _ h)
      rw [e]
      exact g_int s q
    · cases he
theorem gmin_ok (hc : X.calm = true) : ∃ r, CallR X (.builtin "min") r ∧ FnB X.K gminD r := by
  refine ⟨_, cr_min hc, fun F H vs ds c Q s hr he q => ?_⟩
  match ds, he, hr with
  | [.list ds], he, hr =>
    simp only [gminD] at he
    split at he
    · rename_i n ns e1
      cases he
      obtain ⟨x, rfl, h1⟩ := hr.one
      obtain ⟨a, vs, rfl, g1, g2⟩ := rb_lst s h1
      rw [ints_reps g2 e1] at g1
      refine ⟨a, n :: ns, rfl, g1, by simp, fun m hm hy => ?_⟩
      obtain ⟨k1, k2, k3⟩ := fold_min ns n
      have e : m = ns.foldl min n := by
        apply Int.le_antisymm
        · rcases k1 with h | h
          · rw [h]; exact hy _ List.mem_cons_self
          · exact hy _ (List.mem_cons_of_mem _ h)
        · rcases List.mem_cons.mp hm with rfl | h
          · exact k2
          · exact k3 _ h
      rw [e]
      exact g_int s q
    · cases he
end
/-- more built-in functions of one list -/
inductive Bg where
  | any | all | sum | sorted | str | maxl | minl
def Bg.nm : Bg → Str
  | .any => "any"
  | .all => "all"
  | .sum => "sum"
  | .sorted => "sorted"
  | .str => "str"
  | .maxl => "max"
  | .minl => "min"
def Bg.f : Bg → List D → Option C
  | .any => anyD
  | .all => allD
  | .sum => sumD
  | .sorted => sortD
  | .str => strD
  | .maxl => gmaxD
  | .minl => gminD
theorem boot_any1 : bootBuiltins "any" = some (.builtin "any") := by decide +kernel
theorem boot_all1 : bootBuiltins "all" = some (.builtin "all") := by decide +kernel
theorem boot_sum1 : bootBuiltins "sum" = some (.builtin "sum") := by decide +kernel
theorem boot_sorted1 : bootBuiltins "sorted" = some (.builtin "sorted") := by decide +kernel
section
variable {X : Cx} {e : Expr} {es : List Expr} {mr : AM} {p pos : Pos}
theorem x_bg (q : Bg) {y : Str} (hy : y = q.nm) (hm : X.mg q.nm = none) (hc : X.calm = true) (hg : Gl X y) (ha : PA X (e :: es) (tA X.E mr)) (he : starEach (e :: es) X.env = (false, eval e X.env) :: starEach es X.env := by rfl) (hpl : (backTo pos (starEach es X.env)).any (·.1) = false := by rfl) :
    PE X (.Call (.Name y p) (e :: es) [] pos) (tE X.E (mOp q.f mr)) := by
  subst hy
  cases q with
  | any => exact let ⟨_, h1, h2⟩ := any_ok hc; me_callB h1 h2 hg hm boot_any1 ha (by decide) (by decide) he hpl
  | all => exact let ⟨_, h1, h2⟩ := all_ok hc; me_callB h1 h2 hg hm boot_all1 ha (by decide) (by decide) he hpl
  | sum => exact let ⟨_, h1, h2⟩ := sum_ok hc; me_callB h1 h2 hg hm boot_sum1 ha (by decide) (by decide) he hpl
  | sorted => exact let ⟨_, h1, h2⟩ := sort_ok; me_callB h1 h2 hg hm boot_sorted1 ha (by decide) (by decide) he hpl
  | str => exact let ⟨_, h1, h2⟩ := str_ok; me_callTy h1 h2 hg hm boot_str ha (by decide) (by decide) he hpl
  | maxl => exact let ⟨_, h1, h2⟩ := gmax_ok hc; me_callB h1 h2 hg hm boot_max ha (by decide) (by decide) he hpl
  | minl => exact let ⟨_, h1, h2⟩ := gmin_ok hc; me_callB h1 h2 hg hm boot_min ha (by decide) (by decide) he hpl
def enumFrom (k : Nat) : List D → List D
  | [] => []
  | d :: ds => .tuple [.int (k : Int), d] :: enumFrom (k + 1) ds
end
end L2.M
namespace L2.M
open PySem PySem.Spec PyProof.Rows
structure Rm (k : Nat) (A : Around) : Prop extends Room k A where
  gd : A.guards = some []
theorem Rm.mono {j k : Nat} {A : Around} (r : Rm k A) (h : j ≤ k) : Rm j A := ⟨r.toRoom.mono h, r.gd⟩
structure FnG (P : Program) (w : World) (K : PySem.W.Frag) (mg : Str → Option Value) (base : Heap) (CX : CXT) (k : Nat) (f : Addr) (fd : FuncData) (ps : List Str) (sp : Sp) : Prop where
  len : ∀ vs H Q E, sp vs H Q E → vs.length = ps.length
  run : ∀ (A : Around) (outer : List Env) (s : Shared) (H : Hp) (args : Args) (us : List Value) (vs : List V) (Q : VK) (E : XK), Rm k A → Env0 P w K mg base A outer s H → BindsTo s fd args (ps.zip us) → Vals vs us → sp vs H Q E →
    codeAny (model P w) A (.call (.ref f) args) (CR CX outer P w H s Q E) s
section
variable {P : Program} {w : World} {K : PySem.W.Frag} {mg : Str → Option Value} {base : Heap} {CX : CXT}
theorem FnG.mono {j k : Nat} {f : Addr} {fd : FuncData} {ps : List Str} {sp : Sp} (F : FnG P w K mg base CX j f fd ps sp) (h : j ≤ k) : FnG P w K mg base CX k f fd ps sp :=
  ⟨F.len, fun A outer s H args us vs Q E hr => F.run A outer s H args us vs Q E (hr.mono h)⟩
/-- a def's body, run where the guards are known -/
theorem fnG_of {N ps : List Str} {k : Nat} {sp : Sp} {f : Addr} {name qual : Str} {params : Arguments} {body : List Stmt} {scope : Scope} {dV kV doc pm cdv ct oc : Value} {an od : Option Addr} {osl : Array (Option Value)}
    (l0 : K.lookup f = some ⟨oc, od, .func (PySem.W.fnOf name qual params body scope dV kV doc pm an cdv ct), osl⟩) (c0 : PySem.W.codeIn K cdv qual = true) (S : FnScope N ps scope) (len : ∀ vs H Q E, sp vs H Q E → vs.length = ps.length)
    (hb : ∀ (A : Around) (outer : List Env) (s : Shared) (H : Hp) (vs : List V) (Q : VK) (E : XK), Rm k (A.deeper (envOfC qual scope s.heap.objs.size f cdv)) → sp vs H Q E →
      ∃ t, PSs (cxOf CX P w K mg base N qual scope f cdv A outer s H E) body t ∧ t { nx := fun _ H' => Q .non H', rt := Q } (start N vs) H) :
    FnG P w K mg base CX (k + 1) f (PySem.W.fnOf name qual params body scope dV kV doc pm an cdv ct) ps sp := by
  refine ⟨len, fun A outer s H args us vs Q E r0 env0 bd rv h0 => ?_⟩
  have inK : K.In s.heap := env0.mod.kin.keeps fun b o z => (env0.bs b o z).1
  have nl : s.heap.NoLimit := env0.mod.nolimit.keeps fun b o z => (env0.bs b o z).1
  have kinds : ∀ y ∈ ps.zip us, scope.names.lookup y.1 = some .local ∨ (scope.names.lookup y.1 = some .cell ∧ ((cellsFrom (s.heap.objs.size + 1) scope.names []).lookup y.1).isSome = true) := by
    rintro ⟨n, v⟩ hy
    have hn := S.par n (List.of_mem_zip hy).1
    rcases hn with z | z
    · exact .inl z
    · exact .inr ⟨z, PySem.W.cellsFrom_some _ _ _ (.inl z)⟩
  refine codeAny_call_function r0.toRoom.depth (inK _ _ l0) rfl S.co S.gen rfl (PySem.W.codeRec_of inK c0) (bd _ _ _ _ ?_)
  refine wpAny_newFunctionEnv_cells S.kind kinds fun env ee s2 x2 => ?_
  subst ee
  refine ⟨nl.keeps x2.toInCall.keep, codeAny_func ?_⟩
  obtain ⟨t, ht, hq⟩ := hb A outer s H vs Q E ⟨r0.toRoom.deeper _, r0.gd⟩ h0
  have J : Inv (cxOf CX P w K mg base N qual scope f cdv A outer s H E) [] (start N vs) H s2 := inv_start S r0.hd env0 (len _ _ _ _ h0) rv x2
  refine wpAny_mono (ht.run [] s2 (start N vs) H _ J hq) (fun fl s' z => ?_) fun e s' z => z
  cases fl with
  | ret u =>
    obtain ⟨v, σ', H', I, r, q⟩ := z
    exact ⟨v, H', I.os, I.bare, I.base, I.hok, r, q⟩
  | next =>
    obtain ⟨σ', H', I, q⟩ := z
    exact ⟨.non, H', I.os, I.bare, I.base, I.hok, rfl, q⟩
  | brk =>
    obtain ⟨_, _, _, q⟩ := z
    exact q.elim
  | cont =>
    obtain ⟨_, _, _, q⟩ := z
    exact q.elim
end
/-- a def that keeps its promise there, by its name -/
structure KnG (P : Program) (w : World) (K : PySem.W.Frag) (mg : Str → Option Value) (base : Heap) (k : Nat) (x : Str) (ps : List Str) (sp : Sp) : Prop where
  ex : ∃ (f : Addr) (fd : FuncData), mg x = some (.ref f) ∧ PySem.W.keepIn K (.ref f) = true ∧ Binds K fd ps [] ∧ FnG P w K mg base CX0 k f fd ps sp
section
variable {fa : List He.Fa} {fn : List He.DefD} {K : PySem.W.Frag} {mg : Str → Option Value} {P : Program} {w : World} {base : Heap}
theorem defG {N ps : List Str} {d : He.DefD} {k : Nat} {io : List Bool} {m : XM} {f : Addr} {fd : FuncData} {dvs : List V} {kws : List (Str × V)} (F : FunD K d.name d.qual d.params d.body d.scope dvs kws f fd) (S : FnScope N ps d.scope)
    (hb : ∀ (f : Addr) (cdv : Value) (A : Around) (outer : List Env) (s : Shared) (H : Hp) (E : XK), Rm k (cxN P w K mg base N d f cdv A outer s H E).A → PSs (cxN P w K mg base N d f cdv A outer s H E) d.body (tS (K, w) W0 (ios io) m)) :
    FnG P w K mg base CX0 (k + 1) f fd ps (spOf (K, w) ps.length (semF io N.length m)) := by
  obtain ⟨oc, od, dV, kV, doc, pm, an, cdv, ct, osl, rfl, l0, c0, _, _⟩ := F.ex
  exact fnG_of l0 c0 S (fun vs H Q E h => h.1) fun A outer s H vs Q E hr h => ⟨tS (K, w) W0 (ios io) m, PSs.nox (hb f cdv A outer s H E hr), sem_run h⟩
theorem kng_mk (W : Wo fa fn K mg) (i j : Nat) {N ps : List Str} {d : He.DefD} {k : Nat} {io : List Bool} {m : XM} {x : Str} (hd : fn[i]? = some d) (hx : d.at_ = (x, none)) (hf : fa[j]? = some (.glo x)) (pl : Plain d ps) (S : FnScope N ps d.scope)
    (hb : ∀ (f : Addr) (cdv : Value) (A : Around) (outer : List Env) (s : Shared) (H : Hp) (E : XK), Rm k (cxN P w K mg base N d f cdv A outer s H E).A → PSs (cxN P w K mg base N d f cdv A outer s H E) d.body (tS (K, w) W0 (ios io) m)) :
    KnG P w K mg base (k + 1) x ps (spOf (K, w) ps.length (semF io N.length m)) := by
  obtain ⟨h, X, G, c⟩ := W
  obtain ⟨fd, F⟩ := c.def_ i hd
  have g := He.glo_ok X G (c.fact j hf)
  have eD : d.dvs K = [] := by unfold He.DefD.dvs; rw [pl.1]; rfl
  have eA : He.fAd K d.at_ = He.ga K x := by rw [hx]; rfl
  rw [eD, eA] at F
  exact ⟨⟨_, fd, g, F.kp, F.bindsN pl.2.2, defG F S hb⟩⟩
/-- the callee runs, the guards known -/
theorem runG {X : Cx} {pins : List (Addr × Obj)} {σ : St} {H : Hp} {s : Shared} {Q : VK} {us : List Value} {vs : List V} {k : Nat} {f : Addr} {fd : FuncData} {ps : List Str} {sp : Sp} (F : FnG X.prog X.w X.K X.mg X.base CX0 k f fd ps sp) (hr : Rm k X.A) (hb : Binds X.K fd ps []) (I : Inv X pins σ H s) (r : Vals vs us) (h : sp vs H Q E0) :
    wpAny (model X.prog X.w) X.A (call (.ref f) us) (EP X pins σ Q) X.xe s := by
  have hl : us.length = ps.length := by rw [← r.length]; exact F.len _ _ _ _ h
  have bd := hb s us I.kIn (by rw [List.append_nil]; exact hl)
  rw [List.append_nil] at bd
  refine wpAny_call (codeAny_mono (F.run X.A X.stack s H ⟨us, []⟩ us vs Q E0 hr I.env0 bd r h) fun res s' hq => ?_)
  cases res with
  | error e => exact hq.elim
  | ok fl =>
    cases fl with
    | ret u => exact I.after hq
    | next => exact False.elim hq
    | brk => exact False.elim hq
    | cont => exact False.elim hq
theorem g_call {X : Cx} {k k' np : Nat} {x : Str} {ps : List Str} {g : GM} {io : List Bool} {ma : AM} {e : Expr} {es : List Expr} {p pos : Pos} (h : KnG X.prog X.w X.K X.mg X.base k x ps (spOf X.E np g)) (hr : Rm k' X.A) (hk : k ≤ k') (hg : Gl X x) (ha : PA X (e :: es) (tA X.E ma)) (hio : io.length = np := by rfl)
    (hdb : (x == ("__debug__" : Str)) = false := by decide) (he : starEach (e :: es) X.env = (false, eval e X.env) :: starEach es X.env := by rfl) (hpl : (backTo pos (starEach es X.env)).any (·.1) = false := by rfl) : PE X (.Call (.Name x p) (e :: es) [] pos) (tE X.E (mCall io g ma)) := by
  obtain ⟨f, fd, hm, hkp, hbi, F⟩ := h.ex
  refine ⟨fun pins s σ H Q I q => ?_⟩
  have q2 := tE_call hio q
  refine wpAny_Call_Name_kw (ld_glob I hg hm ?_ hdb)
  refine PySem.W.callWith_K (h₀ := X.base) I.ok.mod.kin hkp (thn (ha.run pos pins s σ H _ I q2) fun us s1 ⟨vs, H1, I1, r, q3⟩ => ⟨I1.kIn, ?_⟩) he hpl
  have q3 : spOf X.E np g (vs ++ []) H1 Q E0 := q3
  rw [List.append_nil] at q3
  exact runG (F.mono hk) hr hbi I1 r q3
end
section
variable {P : Program} {w : World} {K : PySem.W.Frag} {mg mb : Str → Option Value} {k : Nat} {fA a : Addr} {fd : FuncData} {x : Str} {sp : Sp} {s : Shared} {vs : List Value} {ns : List Int}
abbrev LawEnd (s : Shared) (r : Result) (s' : Shared) : Prop := r = .ok (.ret (.bool true)) ∧ OldK s.heap s'.heap ∧ s'.os = s.os ∧ AllBare s'.gens
theorem top_core {H : Hp} (inK : K.In s.heap) (n1 : s.heap.Ns mainGlobals mg) (n2 : s.heap.Ns builtinsNs mb) (bb : ∀ y : Str, y ≠ "__name__" → mb y = bootBuiltins y) (nl : s.heap.NoLimit) (g0 : s.gens = #[])
    (ea : s.heap.get? a = some { cls := .type "list", data := .seq vs.toArray }) (hr : Rm k callerA) (F : ∀ base : Heap, K.In base → base.Ns mainGlobals mg → FnG P w K mg base CX0 k fA fd [x] sp) (bd : ∀ (s : Shared) (u : Value), BindsTo s fd ⟨[u], []⟩ [(x, u)])
    (h0 : sp [.ref a] H (fun v _ => v = .bl true) fun _ _ _ => False) (hO : Only H) (hok : HOk P w H s.heap) (hA : ∀ b, H b ≠ none → b = a) (hK : H a ≠ none → K.lookup a = none) : codeAny (model P w) callerA (.call (.ref fA) ⟨[.ref a], []⟩) (LawEnd s) s := by
  have untr : ∀ {b : Addr} {o : Obj}, s.heap.get? b = some o → (b = a → o.data ≠ .seq vs.toArray → False) → (b = a → False) → H b = none := fun {b o} _ _ no => by
    by_cases z : H b = none
    · exact z
    · exact (no (hA b z)).elim
  have dictN : ∀ {b : Addr} {o : Obj} {es : Array DictEntry} {ep : Nat}, s.heap.get? b = some o → o.data = .dict es ep → H b = none := fun {b o es ep} e d => by
    refine untr e (fun _ _ => ?_) fun eb => ?_
    · rename_i eb ne
      subst eb
      rw [ea] at e
      cases e
      exact ne rfl
    · subst eb
      rw [ea] at e
      cases e
      have d2 : Data.seq vs.toArray _ = Data.dict es ep := d
      cases d2
  have ns2 : ∀ {b : Addr} {m : Str → Option Value}, s.heap.Ns b m → (hidT s.heap H).Ns b m := by
    rintro b m ⟨o, es, ep, e, d, r⟩
    exact ⟨o, es, ep, hidT_get e (dictN e d), d, r⟩
  have inB : K.In (hidT s.heap H) := by
    intro b o e
    refine hidT_get (inK b o e) ?_
    by_cases z : H b = none
    · exact z
    · have eb := hA b z
      subst eb
      rw [hK z] at e
      cases e
  obtain ⟨mc, l1, l2⟩ := nl
  have md : Mod K mg (hidT s.heap H) := ⟨inB, ns2 n1, ⟨mb, ns2 n2, bb⟩, ⟨mc, ns2 l1, l2⟩⟩
  have ev : Env0 P w K mg (hidT s.heap H) callerA [] s H := ⟨rfl, md, fun b o z => of_hidT z, Nat.le_of_eq (hidT_size _ _), trivial, fun b z => absurd (show b ∈ ([] : List Addr) from z) (by simp), hok, .of_eq g0⟩
  refine codeAny_mono ((F _ inB (ns2 n1)).run callerA [] s H ⟨[.ref a], []⟩ [.ref a] [.ref a] _ _ hr ev (bd s (.ref a)) (.cons rfl .nil) h0) fun r s' z => ?_
  match r, z with
  | .error e, z => exact z.elim
  | .ok .next, z => exact z.elim
  | .ok .brk, z => exact z.elim
  | .ok .cont, z => exact z.elim
  | .ok (.ret u), ⟨v, H', os, bare, un, hok2, rv, q⟩ =>
    have q : v = .bl true := q
    subst q
    obtain rfl : u = Value.bool true := rv
    refine ⟨rfl, OldK.of_keep fun b o e => ?_, os, bare⟩
    cases z : H b with
    | none => exact un.keep b o e z (fun y => absurd (show b ∈ ([] : List Addr) from y) (by simp)) (by simp)
    | some t =>
      rcases hO b with y | ⟨ob, xs, y⟩
      · rw [z] at y; cases y
      · obtain ⟨e1, _⟩ := hok b _ y
        obtain ⟨e2, _⟩ := hok2 b _ (un.frzs b ob _ y)
        rw [e] at e1
        cases e1
        exact e2
theorem top_call (inK : K.In s.heap) (n1 : s.heap.Ns mainGlobals mg) (n2 : s.heap.Ns builtinsNs mb) (bb : ∀ y : Str, y ≠ "__name__" → mb y = bootBuiltins y) (nl : s.heap.NoLimit) (g0 : s.gens = #[])
    (ea : s.heap.get? a = some { cls := .type "list", data := .seq vs.toArray }) (hi : IntsAre vs ns) (hl : ns.length ≤ sizeLine) (hr : Rm k callerA) (F : ∀ base : Heap, K.In base → base.Ns mainGlobals mg → FnG P w K mg base CX0 k fA fd [x] sp) (bd : ∀ (s : Shared) (u : Value), BindsTo s fd ⟨[u], []⟩ [(x, u)])
    (h0 : ∀ H : Hp, Only H → SqL K H a (ns.map V.int) → sp [.ref a] H (fun v _ => v = .bl true) fun _ _ _ => False) : codeAny (model P w) callerA (.call (.ref fA) ⟨[.ref a], []⟩) (LawEnd s) s := by
  have rv := vals_ints hi
  have len := hi.length
  by_cases hk : ∃ o, K.lookup a = some o
  · obtain ⟨o, hk⟩ := hk
    have e := inK a o hk
    rw [ea] at e
    cases e
    have sq : SqL K (fun _ => none) a (ns.map V.int) := .inr ⟨_, vs.toArray, _, hk, rfl, rfl, rfl, by rw [List.size_toArray, len]; exact hl, by simpa using rv⟩
    exact top_core inK n1 n2 bb nl g0 ea hr F bd (h0 _ (fun _ => .inl rfl) sq) (fun _ => .inl rfl) (fun b u z => by have z2 : (none : Option HO) = some u := z; cases z2) (fun b z => absurd rfl z) fun z => absurd rfl z
  · have hk : K.lookup a = none := by
      cases z : K.lookup a with
      | none => rfl
      | some o => exact absurd ⟨o, z⟩ hk
    let Hs : Hp := fun b => if b = a then some (.frz { cls := .type "list", data := .seq vs.toArray } (.lst (ns.map V.int))) else none
    have at1 : Hs a = some (.frz { cls := .type "list", data := .seq vs.toArray } (.lst (ns.map V.int))) := if_pos rfl
    have at2 : ∀ {b : Addr}, b ≠ a → Hs b = none := fun {b} n => if_neg n
    have on : Only Hs := fun b => by
      by_cases eb : b = a
      · subst eb; exact .inr ⟨_, _, at1⟩
      · exact .inl (at2 eb)
    refine top_core (H := Hs) inK n1 n2 bb nl g0 ea hr F bd (h0 Hs on (.inl (.inr ⟨_, at1⟩))) on (fun b u z => ?_) (fun b z => ?_) fun _ => hk
    · by_cases eb : b = a
      · subst eb
        rw [at1] at z
        cases z
        exact ⟨ea, by rw [List.length_map]; exact hl, vs, _, rv, ea⟩
      · rw [at2 eb] at z; cases z
    · by_cases eb : b = a
      · exact eb
      · exact absurd (at2 eb) z
end
theorem walkG {l : PySem.W.OpenLaw} {n k : Nat} {q : Program} {loose : List Str} {XP : (Str → Option Value) → Heap → Prop} {YP : World → Heap → Prop} {d : DefRec} {x : Str} (hn : l.most = some n) (h2 : n ≤ sizeLine) (h3 : d.params.defaults = []) (hr : Rm k callerA)
    (F : ∀ (w : World) (mg : Str → Option Value) (fA : Addr) (h : Heap), YP w h → h.Ns mainGlobals mg → mg d.name = some (.ref fA) → ∃ (K : PySem.W.Frag) (fd : FuncData) (sp : Sp), K.In h ∧ (∀ (s : Shared) (u : Value), BindsTo s fd ⟨[u], []⟩ [(x, u)]) ∧
      (∀ (H : Hp) (a : Addr) (ns : List Int), ns.length ≤ n → Only H → SqL K H a (ns.map V.int) → sp [.ref a] H (fun v _ => v = .bl true) fun _ _ _ => False) ∧ ∀ base : Heap, K.In base → base.Ns mainGlobals mg → FnG l.prog w K mg base CX0 k fA fd [x] sp) :
    PySem.W.WalkO q loose XP YP l.row.toRowW d [] (fun f vs => PySem.call f vs) := by
  refine Att.attach_call hn h3 fun w s0 s1 mg mb fA o pm cd doc a vs ns G Y ho hd hcd hmg hobj hints hlen hg => ?_
  obtain ⟨K, fd, sp, KX, hb, h0, hF⟩ := F w mg fA _ Y G.T.g hmg
  exact top_call KX G.T.g G.T.b G.T.builtins G.T.nolimit hg hobj hints (Nat.le_trans hlen h2) hr hF hb fun H hO hS => h0 H a ns hlen hO hS
theorem topG {fa : List He.Fa} {fn : List He.DefD} {K : PySem.W.Frag} {mg : Str → Option Value} {P : Program} {w : World} (W : Wo fa fn K mg) (i j : Nat) {N : List Str} {d : He.DefD} {k : Nat} {m : XM} {x f0 : Str} (hd : fn[i]? = some d) (hx : d.at_ = (f0, none)) (hf : fa[j]? = some (.glo f0)) (pl : Plain d [x]) (S : FnScope N [x] d.scope) {fA : Addr} (hfa : mg f0 = some (.ref fA))
    (hb : ∀ (base : Heap) (f : Addr) (cdv : Value) (A : Around) (outer : List Env) (s : Shared) (H : Hp) (E : XK), Rm k (cxN P w K mg base N d f cdv A outer s H E).A → PSs (cxN P w K mg base N d f cdv A outer s H E) d.body (tS (K, w) W0 (ios [false]) m)) :
    ∃ fd : FuncData, (∀ (s : Shared) (v : Value), BindsTo s fd ⟨[v], []⟩ [(x, v)]) ∧ ∀ base : Heap, K.In base → base.Ns mainGlobals mg → FnG P w K mg base CX0 (k + 1) fA fd [x] (spOf (K, w) 1 (semF [false] N.length m)) := by
  obtain ⟨h, X, G, c⟩ := W
  obtain ⟨fd, F⟩ := c.def_ i hd
  have g := He.glo_ok X G (c.fact j hf)
  have eD : d.dvs K = [] := by unfold He.DefD.dvs; rw [pl.1]; rfl
  have eA : He.fAd K d.at_ = He.ga K f0 := by rw [hx]; rfl
  have e := hfa.symm.trans g
  cases e
  rw [eD, eA] at F
  exact ⟨fd, fun s v => FunD.bindsA F pl.2.2 s [v] rfl, fun base _ _ => defG F S (hb base)⟩
def reprG : List D → Option C
  | [d] => if SeqAt.shaped d = true ∧ PyData.showable d = true ∧ d.shown.length ≤ sizeLine then some (.sh (.str d.shown)) else none
  | _ => none
section
variable {X : Cx}
theorem reprG_ok {k : Nat} (hr : Rm k X.A) : ∃ r, CallR X (.builtin "repr") r ∧ FnB X.K reprG r := by
  refine ⟨fun xs H Q => ∃ x d, xs = [x] ∧ Dp X.K H x d ∧ SeqAt.shaped d = true ∧ PyData.showable d = true ∧ d.shown.length ≤ sizeLine ∧ Q (.str d.shown) H, ?_, fun F H vs ds c Q s hrb he q => ?_⟩
  · rintro pins s σ H xs us Q I r ⟨x, d, rfl, dp, hs, hw, hz, q⟩
    obtain ⟨u, rfl, ru⟩ := vals1 r
    obtain ⟨as, rd⟩ := Dp.reads I d x u dp ru
    have fin : ∀ (t tk : Tok), EP X pins σ Q (.str d.shown t) { s with toks := tk } := fun t tk => ⟨.str d.shown, H, I.tok tk, ⟨t, rfl⟩, q⟩
    have big : ∀ {a : Addr}, Reads s.heap (.ref a) d as → wpAny (model X.prog X.w) X.A (call (.builtin "repr") [.ref a]) (EP X pins σ Q) X.xe s := fun {a} rd => by
      have hd := SeqAt.depth_of_shaped hs
      have hu := hr.un
      exact repr_of_reads' rd hw (PyData.noDict_hsm (PyData.hasDict_of_canLay d (SeqAt.canLay_of_shaped hs))) hr.gd (by omega) (fun _ _ e => e) (fun h' u tk hk => ⟨.str d.shown, H, I.kept (h' := h') (t' := tk) hk, ⟨u, rfl⟩, q⟩) hz
    cases rd with
    | none => exact PySem.P.repr_of_none (by have := fin s.toks (s.toks + 1); simp only [PyData.shown] at this; exact this)
    | bool b => exact PySem.P.repr_of_bool (by have := fin s.toks (s.toks + 1); simp only [PyData.shown] at this; exact this)
    | int i t => exact PySem.P.repr_of_int (by simpa [PyData.showable] using hw) (by have := fin s.toks (s.toks + 1); simp only [PyData.shown] at this; exact this)
    | str z t => exact PySem.P.repr_of_str (by have := fin s.toks (s.toks + 1); simp only [PyData.shown] at this; exact this) (by simpa only [PyData.shown] using hz)
    | list h1 h2 h3 h4 => exact big (.list h1 h2 h3 h4)
    | tuple h1 h2 h3 h4 => exact big (.tuple h1 h2 h3 h4)
    | dict h1 h2 h3 h4 h5 => exact big (.dict h1 h2 h3 h4 h5)
  · match ds, he, hrb with
    | [d], he, hrb =>
      simp only [reprG] at he
      split at he
      · rename_i h
        cases he
        obtain ⟨x, rfl, h1⟩ := hrb.one
        exact ⟨x, d, rfl, rb_dp s h1 (SeqAt.canLay_of_shaped h.1), h.1, h.2.1, h.2.2, g_str s q⟩
      · cases he
theorem x_repr {k : Nat} {e : Expr} {es : List Expr} {mr : AM} {p pos : Pos} (hm : X.mg "repr" = none) (hr : Rm k X.A) (hg : Gl X "repr") (ha : PA X (e :: es) (tA X.E mr)) (he : starEach (e :: es) X.env = (false, eval e X.env) :: starEach es X.env := by rfl) (hpl : (backTo pos (starEach es X.env)).any (·.1) = false := by rfl) :
    PE X (.Call (.Name "repr" p) (e :: es) [] pos) (tE X.E (mOp reprG mr)) :=
  let ⟨_, h1, h2⟩ := reprG_ok hr
  me_callB h1 h2 hg hm boot_repr ha (by decide) (by decide) he hpl
end
end L2.M
namespace L2.M
open PySem PySem.Spec PyProof.Rows
theorem ints_all : ∀ ns : List Int, intsOf (ns.map PyData.int) = some ns
  | [] => rfl
  | d :: ds => by
    simp only [List.map_cons, intsOf, ints_all ds, Option.map_some]
inductive Sk where
  | l | t
def itX : Sk → Heap → Addr → Addr → Nat → Prop
  | .l => fun h it a i => h.IsListIter it a i
  | .t => fun h it a i => h.IsTupleIter it a i
def newX : Sk → Addr → Obj
  | .l => fun a => { cls := .type "list_iterator", data := .fields #[.ref a, .int 0 0] }
  | .t => fun a => { cls := .type "tuple_iterator", data := .fields #[.ref a, .int 0 0] }
theorem itX.new {k : Sk} {h : Heap} {it a : Addr} (g : h.get? it = some (newX k a)) : itX k h it a 0 := by
  cases k <;> exact ⟨_, g, rfl, rfl⟩
theorem two {P : Addr → Prop} {a b : Addr} (ha : P a) (hb : P b) : ∀ x ∈ [a, b], P x := by
  simp only [List.forall_mem_cons]
  exact ⟨ha, hb, fun x h => (by cases h)⟩
def itemsX : D → Option (Sk × List D)
  | .list ds => some (.l, ds)
  | .tuple ds => some (.t, ds)
  | _ => none
def zipX : List D → Option (List D)
  | [d, e] => do
    let (_, ds) ← itemsX d
    let (_, es) ← itemsX e
    some (List.zipWith (fun a b => .tuple [a, b]) ds es)
  | _ => none
def enumX : List D → Option (List D)
  | [d] => (itemsX d).map fun p => enumFrom 0 p.2
  | _ => none
end L2.M
namespace L2.M
open PySem PySem.Spec PyProof.Rows
abbrev Lk := List (Int ⊕ List Nat)
def dItems (sh : Nat → Bool) : Nat → List D → Option Lk
  | _, [] => some []
  | i, .int n :: r => if sh i = true then none else (dItems sh (i + 1) r).map (Sum.inl n :: ·)
  | i, .str x :: r => if sh i = true then (dItems sh (i + 1) r).map (Sum.inr x.cps.toList :: ·) else none
  | _, _ :: _ => none
def dKey (sh : Nat → Bool) : D → Option Lk
  | .tuple (d :: ds) => dItems sh 0 (d :: ds)
  | _ => none
/-- at which places the first one has texts -/
def shp : List D → Nat → Bool
  | .tuple es :: _ => fun i => match es[i]? with
    | some (.str _) => true
    | _ => false
  | _ => fun _ => false
def kLe (a b : Lk) : Bool := !lexLt itemOrd b a
def tle (sh : Nat → Bool) (d e : D) : Bool := kLe ((dKey sh d).getD []) ((dKey sh e).getD [])
def tsort (ds : List D) : List D := ds.mergeSort (tle (shp ds))
def tups (ds : List D) : Bool := ds.all fun d => (dKey (shp ds) d).isSome
def sortX : List D → Option C
  | [.list ds] => match intsOf ds with
    | some ns => some (.ls ((isort ns).map PyData.int))
    | none => if tups ds then some (.ls (tsort ds)) else none
  | _ => none
theorem sortX_ints (ns : List Int) : sortX [.list (ns.map PyData.int)] = some (.ls ((isort ns).map PyData.int)) := by
  have : ∀ ns : List Int, intsOf (ns.map PyData.int) = some ns := fun ns => by
    induction ns with
    | nil => rfl
    | cons n ns ih => simp [intsOf, ih]
  simp only [sortX, this]
end L2.M
namespace L2.M
open PySem PySem.Spec PyProof.Rows
def mM (f : List D → Option C) (kind : D → Bool) (mo : OM) (ma : AM) : EM := fun ε => do
  let (o, ε1) ← mo ε
  let d0 ← bor ε1 o
  if kind d0 then
    let (os, ε2) ← ma ε1
    let ds ← bors ε2 (o :: os)
    let c ← f ds
    some (c, ε2)
  else none
def isL : D → Bool
  | .list _ => true
  | _ => false
def isS : D → Bool
  | .str _ => true
  | _ => false
end L2.M
namespace L2.M
open PySem PySem.Spec PyProof.Rows
theorem ObP.set {K : Ek} {H : Hp} {a : Addr} {vs : List V} {k : Nat} {v : V} (hv : vs[k]? = some v) : ∀ {kd : Kd}, ObP K H a vs kd → ObP K H a (vs.set k v) kd := fun {kd} h => by rw [set_same hv]; exact h
def PlV (K : Ek) (H : Hp) (σ : St) (ε : Cs) (i k : Nat) (v : V) : Prop := ∃ a kd cs vs, σ[i]? = some (some (.ref a)) ∧ ε[i]? = some (.ob kd cs) ∧ ObP K H a vs kd ∧ vs[k]? = some v ∧ vs.length = cs.length
section
variable {K : Ek} {F R H : Hp} {σ : St} {ε : Cs} {T : Tms} {i k : Nat} {v : V} {c : C} {kd : Kd} {cs : List C}
theorem ObP.inj {a : Addr} {vs us : List V} : ∀ {kd : Kd}, ObP K H a vs kd → ObP K H a us kd → vs = us
  | .dn _, h, _ => h.elim
  | .ls, h, g => by
    have h : H a = _ := h
    have g : H a = _ := g
    rw [h] at g
    cases g
    rfl
  | .ins x fs, ⟨dx, h1, h2, _⟩, ⟨dy, g1, g2, _⟩ => by
    rw [h1] at g1
    injection g1 with g1
    injection g1 with _ _ g1
    have := congrArg (List.map (·.2)) g1
    rwa [List.map_snd_zip (by omega), List.map_snd_zip (by omega)] at this
theorem PlV.heap {H' : Hp} (p : PlV K H σ ε i k v) (h : ∀ a, σ[i]? = some (some (.ref a)) → H' a = H a) : PlV K H' σ ε i k v := by
  obtain ⟨a, kd, cs, vs, p1, p2, p3, p4, p5⟩ := p
  exact ⟨a, kd, cs, vs, p1, p2, ObP.frame (h a p1) p3, p4, p5⟩
end
end L2.M
namespace L2.M
open PySem PySem.Spec PyProof.Rows
abbrev PlM := Cs → Option ((Nat × Nat) × Cs)
/-- x.f -/
def mPlF (i k : Nat) (x f : Str) : PlM := fun ε => match ε[i]? with
  | some (.ob (.ins y fs) cs) => if y = x ∧ fs[k]? = some f ∧ k < cs.length then some ((i, k), ε) else none
  | _ => none
/-- x[e] -/
def mPlI (i : Nat) (ix : OM) : PlM := fun ε => match ε[i]? with
  | some (.ob .ls _) => do
    let (o, ε1) ← ix ε
    let d ← bor ε1 o
    match d, ε1[i]? with
      | .int z, some (.ob .ls cs) => do
        let j ← ixN cs.length z
        some ((i, j), ε1)
      | _, _ => none
  | _ => none
/-- the value there: an own list is frozen -/
def mRd (m : PlM) : EM := fun ε => do
  let ((i, k), ε1) ← m ε
  match ε1[i]? with
  | some (.ob kd cs) => match cs[k]? with
    | some (.sh d) => some (.sh d, ε1)
    | some (.ls ds) => some (.sh (.list ds), ε1.set i (.ob kd (cs.set k (.sh (.list ds)))))
    | _ => none
  | _ => none
/-- an operation of one, on what stands there -/
def mPU (f : List D → Option C) (m : PlM) : EM := fun ε => do
  let ((i, k), ε1) ← m ε
  match ε1[i]? with
  | some (.ob _ cs) => do
    let c0 ← cs[k]?
    let d ← cD c0
    let c ← f [d]
    some (c, ε1)
  | _ => none
/-- an operation of two, the first one there -/
def mPB (f : D → D → Option C) (m : PlM) (b : OM) : EM := fun ε => do
  let ((i, k), ε1) ← m ε
  match ε1[i]? with
  | some (.ob kd cs) => do
    let c0 ← cs[k]?
    let d ← cD c0
    let (o, ε2) ← b (ε1.set i .no)
    let e ← bor ε2 o
    let c ← f d e
    some (c, ε2.set i (.ob kd cs))
  | _ => none
end L2.M
namespace L2.M
open PySem PySem.Spec PyProof.Rows
/-- x.f = e -/
def mFSet (i k : Nat) (x f : Str) (m : EM) : XM := fun ε => do
  let (c, ε1) ← m ε
  match ε1[i]? with
  | some (.ob (.ins y fs) cs) =>
    if y = x ∧ fs[k]? = some f ∧ k < cs.length ∧ cs.length < 1000 then some (.nx, ε1.set i (.ob (.ins y fs) (cs.set k c)))
    else none
  | _ => none
/-- .. for the first time -/
def mFNew (i : Nat) (x f : Str) (m : EM) : XM := fun ε => do
  let (c, ε1) ← m ε
  match ε1[i]? with
  | some (.ob (.ins y fs) cs) =>
    if y = x ∧ f ∉ fs ∧ cs.length < 1000 then some (.nx, ε1.set i (.ob (.ins y (fs ++ [f])) (cs ++ [c])))
    else none
  | _ => none
/-- x[ix] = e, x a list of own things -/
def mNSet (i : Nat) (m : EM) (ix : OM) : XM := fun ε => do
  let (c, ε1) ← m ε
  match ε1[i]? with
  | some (.ob .ls _) => do
    let (p, ε2) ← ix ε1
    let k ← bor ε2 p
    match k, ε2[i]? with
      | .int k, some (.ob .ls cs) => do
        let j ← ixN cs.length k
        some (.nx, ε2.set i (.ob .ls (cs.set j c)))
      | _, _ => none
  | _ => none
/-- p.append(e) -/
def mPApp (m : PlM) (e : EM) : XM := fun ε => do
  let ((i, k), ε1) ← m ε
  match ε1[i]? with
  | some (.ob kd cs) => match cs[k]? with
    | some (.ls ds) => do
      let (c, ε2) ← e (ε1.set i .no)
      let d ← cD c
      if ds.length < sizeLine then some (.nx, ε2.set i (.ob kd (cs.set k (.ls (ds ++ [d]))))) else none
    | _ => none
  | _ => none
/-- p[ix] = e -/
def mPSetIx (m : PlM) (e : EM) (ix : OM) : XM := fun ε => do
  let (c, ε0) ← e ε
  let d ← cD c
  let ((i, k), ε1) ← m ε0
  match ε1[i]? with
  | some (.ob kd cs) => match cs[k]? with
    | some (.ls ds) => do
      let (o, ε2) ← ix (ε1.set i .no)
      let z ← bor ε2 o
      match z with
        | .int z => do
          let j ← ixN ds.length z
          some (.nx, ε2.set i (.ob kd (cs.set k (.ls (ds.set j d)))))
        | _ => none
    | _ => none
  | _ => none
/-- p.pop() -/
def mPPop (m : PlM) : EM := fun ε => do
  let ((i, k), ε1) ← m ε
  match ε1[i]? with
  | some (.ob kd cs) => match cs[k]? with
    | some (.ls ds) => do
      let d ← ds.getLast?
      some (.sh d, ε1.set i (.ob kd (cs.set k (.ls ds.dropLast))))
    | _ => none
  | _ => none
end L2.M
namespace L2.M
open PySem PySem.Spec PyProof.Rows
def cellO (ε : Cs) : Opd → Option C
  | .pl i => ε[i]?
  | .tm c => some c
/-- an object of the class x that has no attribute m of its own -/
def isIns (x m : Str) : Option C → Bool
  | some (.ob (.ins y fs) _) => decide (y = x ∧ m ∉ fs)
  | _ => false
def mMeth (x m : Str) (io : List Bool) (g : GM) (mo : OM) (ma : AM) : EM := fun ε => do
  let (o, ε1) ← mo ε
  if isIns x m (cellO ε1 o) = true then do
    let (os, ε2) ← ma ε1
    let (os2, ε3) ← frz io (o :: os) ε2
    let (cs, ε4) ← lend os2 ε3
    let (c, cs') ← g cs
    some (c, wb os2 cs' ε4)
  else none
def mNew (x : Str) (io : List Bool) (g : GM) (ma : AM) : EM := fun ε => do
  let (os, ε1) ← ma ε
  let (os2, ε2) ← frz io os ε1
  let (cs, ε3) ← lend os2 ε2
  match g (.ob (.ins x []) [] :: cs) with
  | some (.sh .none, c :: cs') => some (c, wb os2 cs' ε3)
  | _ => none
section
variable {fa : List He.Fa} {fn : List He.DefD} {K : PySem.W.Frag} {mg : Str → Option Value} {P : Program} {w : World} {base : Heap}
theorem Wo.cls (W : Wo fa fn K mg) (i : Nat) {x : Str} (h : fa[i]? = some (.cls x) := by rfl) : Cls K (He.ga K x) := let ⟨_, _, _, c⟩ := W; He.cls_ok (c.fact i h)
theorem Wo.glo (W : Wo fa fn K mg) (i : Nat) {x : Str} (h : fa[i]? = some (.glo x) := by rfl) : mg x = some (.ref (He.ga K x)) := let ⟨_, X, G, c⟩ := W; He.glo_ok X G (c.fact i h)
end
end L2.M
namespace L2.M
open PySem PySem.Spec PyProof.Rows
def mAddN (a : OM) (b : EM) : EM := fun ε => do
  let (o, ε1) ← a ε
  let (c, ε2) ← b ε1
  let d ← bor ε2 o
  match d, c with
    | .list ds, .ob .ls cs => if ds.length + cs.length ≤ sizeLine then some (.ob .ls (ds.map .sh ++ cs), ε2) else none
    | _, _ => none
end L2.M
namespace L2.M
open PySem PySem.Spec PyProof.Rows
end L2.M
namespace L2.M
end L2.M
namespace L2.M
open PySem PySem.Spec PyProof.Rows
section
variable {X : Cx}
def mRaise (x : Str) : XM := fun ε => some (.xc ⟨x, []⟩, ε)
end
abbrev GX := List C → Option ((C ⊕ Xn) × List C)
abbrev EXM := Cs → Option ((C ⊕ Xn) × Cs)
def semX (io : List Bool) (ns : Nat) (m : XM) : GX := fun cs =>
  if shared io cs then
    match m (cs ++ List.replicate (ns - cs.length) .no) with
    | some (.rt c, ε') => some (.inl c, after io cs ε')
    | some (.nx, ε') => some (.inl (.sh .none), after io cs ε')
    | some (.xc x, ε') => some (.inr x, after io cs ε')
    | _ => none
  else none
/-- what comes of an expression that may raise -/
def FinX (K : Ek) (R : Hp) (σ : St) (Q : VK) (E : XK) (F' H' : Hp) (ε' : Cs) : C ⊕ Xn → Prop
  | .inl c => ∀ v, Sep K F' R H' σ ε' [(v, c)] → Q v H'
  | .inr x => ∀ cls d, Sep K F' R H' σ ε' [] → RepX K F' cls d x → E cls d H'
def spX (K : Ek) (np : Nat) (g : GX) : Sp := fun vs H Q E => vs.length = np ∧ ∃ F R cs r cs', Sep K F R H (vs.map some) cs [] ∧ g cs = some (r, cs') ∧ ∀ F' H', Same F F' → FinX K R (vs.map some) Q E F' H' cs' r
/-- a call of a def that raises -/
def mCallX (io : List Bool) (g : GX) (ma : AM) : EXM := fun ε => do
  let (os, ε1) ← ma ε
  let (os2, ε2) ← frz io os ε1
  let (cs, ε3) ← lend os2 ε2
  let (r, cs') ← g cs
  some (r, wb os2 cs' ε3)
section
variable {X : Cx} {W : Xw} {io : List Nat} {pos : Pos} {e : Expr} {m : EXM}
def xRet (m : EXM) : XM := fun ε => do
  let (r, ε1) ← m ε
  match r with
  | .inl c => some (.rt c, ε1)
  | .inr x => some (.xc x, ε1)
def xExpr (m : EXM) : XM := fun ε => do
  let (r, ε1) ← m ε
  match r with
  | .inl _ => some (.nx, ε1)
  | .inr x => some (.xc x, ε1)
def xSet (io : List Nat) (i : Nat) (m : EXM) : XM := fun ε => do
  let (r, ε1) ← m ε
  match r with
  | .inl c => if i < ε1.length ∧ i ∉ io then some (.nx, ε1.set i c) else none
  | .inr x => some (.xc x, ε1)
end
/-- a def that may raise, by its name -/
structure KnX (P : Program) (w : World) (K : PySem.W.Frag) (mg : Str → Option Value) (base : Heap) (k : Nat) (x : Str) (ps : List Str) (sp : Sp) : Prop where
  ex : ∃ (f : Addr) (fd : FuncData), mg x = some (.ref f) ∧ PySem.W.keepIn K (.ref f) = true ∧ Binds K fd ps [] ∧ FnG P w K mg base (L2N.CX P w) k f fd ps sp
end L2.M
namespace L2.M
open PySem PySem.Spec PyProof.Rows
def mTold (io : List Nat) (i : Nat) (ref : Xn → Option D) (m : EXM) : XM := fun ε => do
  let (r, ε1) ← m ε
  match r with
  | .inl c => some (.rt c, ε1)
  | .inr x => match ε1[i]? with
    | some .no => if i ∉ io then (ref x).map fun d => (.rt (.sh d), ε1) else none
    | _ => none
end L2.M
namespace L2.M
open PySem PySem.Spec PyProof.Rows
end L2.M
namespace L2.M
open PySem PySem.Spec PyProof.Rows PySem.Calls
open PySem.W (findIn specialIn subIn hasDictIn takesIn mroIn clsIn findObj looks_findIn looks_find looks_subIn any_some class_get KitX kitOne kitAny kia_one kia_tup)
end L2.M
namespace L2.M
open PySem PySem.Spec PyProof.Rows
def XdAt (H : Hp) (d : Option Addr) : Prop := d = none ∨ ∃ dd fs, d = some dd ∧ H dd = some (.xd fs)
theorem RepX.at_ {K : Ek} {F H : Hp} {cls : Value} {d : Option Addr} {x : Xn} (s : Same F H) (h : RepX K F cls d x) : XdAt H d := by
  obtain ⟨_, ⟨_, h2⟩ | ⟨dx, fs, h2, h3, _⟩⟩ := h
  · exact .inl h2
  · exact .inr ⟨dx, fs, h2, s _ _ h3⟩
end L2.M
namespace L2.M
open PySem PySem.Spec PyProof.Rows
end L2.M
namespace L2.M
open PySem PySem.Spec PyProof.Rows
end L2.M
namespace L2.M
open PySem PySem.Spec PyProof.Rows
end L2.M
namespace L2.M
open PySem PySem.Spec PyProof.Rows
end L2.M
namespace L2.M
open PySem PySem.Spec PyProof.Rows
end L2.M
namespace L2.M
open PySem PySem.Spec PyProof.Rows
end L2.M
namespace L2.M
open PySem PySem.Spec PyProof.Rows
section
variable {X : Cx} {e : Expr} {es : List Expr} {ta : TA} {p pos : Pos}
/-- plain values: the fields of the exceptions here -/
def scal : D → Bool
  | .none => true
  | .bool _ => true
  | .int _ => true
  | .str _ => true
  | _ => false
end
end L2.M
namespace L2.M
open PySem PySem.Spec PyProof.Rows
end L2.M
namespace L2.M
open PySem PySem.Spec PyProof.Rows
end L2.M
namespace L2.M
open PySem PySem.Spec PyProof.Rows
def truD : D → Option Bool
  | .none => some false
  | .bool b => some b
  | .tuple ds => some (!ds.isEmpty)
  | .list ds => some (!ds.isEmpty)
  | _ => none
def mOrV (m n : EM) : EM := fun ε => match m ε with
  | some (.sh d, ε1) => (match truD d with
    | some true => some (.sh d, ε1)
    | some false => n ε1
    | none => none)
  | _ => none
end L2.M
namespace L2.M
open PySem PySem.Spec PyProof.Rows
end L2.M
namespace L2.M
open PySem PySem.Spec PyProof.Rows
end L2.M
namespace L2.M
open PySem PySem.Spec PyProof.Rows
end L2.M
namespace L2.M
open PySem PySem.Spec PyProof.Rows
end L2.M
namespace L2.M
open PySem PySem.Spec PyProof.Rows
end L2.M
namespace L2.M
open PySem PySem.Spec PyProof.Rows
end L2.M
namespace L2.M
open PySem PySem.Spec PyProof.Rows
def kyD : D → Option Key
  | .int i => some (.inl i)
  | .str x => some (.inr x)
  | _ => none
def dLk (kds : List (D × D)) (k : D) : Option D := (kds.find? fun p => PyData.eqv p.1 k).map (·.2)
def dPt (kds : List (D × D)) (k d : D) : List (D × D) := if (kds.any fun p => PyData.eqv p.1 k) = true then kds.map (fun p => if PyData.eqv p.1 k = true then (p.1, d) else p) else kds ++ [(k, d)]
theorem eqv_key (a b : Key) : PyData.eqv (keyD a) (keyD b) = decide (a = b) := by
  cases a <;> cases b <;> simp [keyD, PyData.eqv, Bool.beq_eq_decide_eq]
theorem ky_rep {K : PySem.W.Frag} {F : Hp} {v : V} {d : D} {key : Key} (h : kyD d = some key) (r : Rep K F v d) : v = kV key ∧ d = keyD key := by
  cases d <;> simp [kyD] at h
  · subst h; exact ⟨by simpa [Rep, kV] using r, rfl⟩
  · subst h; exact ⟨by simpa [Rep, kV] using r, rfl⟩
theorem ky_repB {K : PySem.W.Frag} {F H : Hp} {v : V} {d : D} {key : Key} (h : kyD d = some key) (r : RepB K F H v d) : v = kV key ∧ d = keyD key := by
  rcases r with r | ⟨a, ws, ds, _, rfl, _⟩
  · exact ky_rep h r
  · cases h
section
variable {K : PySem.W.Frag} {F : Hp}
theorem lk_rep : ∀ {kds : List (D × D)} {kvs : List (Key × V)}, RepKs K F kvs kds → ∀ key, (∃ v d, valV kvs key = some v ∧ dLk kds (keyD key) = some d ∧ Rep K F v d) ∨ (valV kvs key = none ∧ dLk kds (keyD key) = none)
  | [], kvs, h, key => by
    cases (show kvs = [] from h)
    exact .inr ⟨rfl, rfl⟩
  | (k, d) :: kds, kvs, ⟨key', v, r, h1, h0, h2, h3⟩, key => by
    subst h1 h0
    have e := eqv_key key' key
    by_cases c : key' = key
    · left
      refine ⟨v, d, valV_pos c, ?_, h2⟩
      unfold dLk
      rw [List.find?_cons, e, decide_eq_true c]
      rfl
    · have e1 : valV ((key', v) :: r) key = valV r key := valV_neg c
      have e2 : dLk ((keyD key', d) :: kds) (keyD key) = dLk kds (keyD key) := by
        unfold dLk
        rw [List.find?_cons, e, decide_eq_false c]
      rw [e1, e2]
      exact lk_rep h3 key
theorem any_rep : ∀ {kds : List (D × D)} {kvs : List (Key × V)}, RepKs K F kvs kds → ∀ key, (kvs.any fun kv => decide (kv.1 = key)) = (kds.any fun p => PyData.eqv p.1 (keyD key))
  | [], kvs, h, key => by
    cases (show kvs = [] from h)
    rfl
  | (k, d) :: kds, kvs, ⟨key', v, r, h1, h0, h2, h3⟩, key => by
    subst h1 h0
    simp only [List.any_cons, eqv_key, any_rep h3 key]
theorem map_rep {key : Key} {y : V} {d : D} (g : Rep K F y d) : ∀ {kds : List (D × D)} {kvs : List (Key × V)}, RepKs K F kvs kds → RepKs K F (kvs.map fun kv => if kv.1 = key then (kv.1, y) else kv) (kds.map fun p => if PyData.eqv p.1 (keyD key) = true then (p.1, d) else p)
  | [], kvs, h => by
    cases (show kvs = [] from h)
    exact rfl
  | (k, d0) :: kds, kvs, ⟨key', v, r, h1, h0, h2, h3⟩ => by
    subst h1 h0
    have ih := map_rep (key := key) g h3
    simp only [List.map_cons, eqv_key]
    by_cases c : key' = key
    · simp only [c, decide_true, if_true]
      exact ⟨key, y, _, rfl, rfl, g, ih⟩
    · simp only [c, decide_false, if_false, Bool.false_eq_true]
      exact ⟨key', v, _, rfl, rfl, h2, ih⟩
theorem app_rep {key : Key} {y : V} {d : D} (g : Rep K F y d) : ∀ {kds : List (D × D)} {kvs : List (Key × V)}, RepKs K F kvs kds → RepKs K F (kvs ++ [(key, y)]) (kds ++ [(keyD key, d)])
  | [], kvs, h => by
    cases (show kvs = [] from h)
    exact ⟨key, y, [], rfl, rfl, g, rfl⟩
  | (k, d0) :: kds, kvs, ⟨key', v, r, h1, h0, h2, h3⟩ => by
    subst h1 h0
    exact ⟨key', v, _, rfl, rfl, h2, app_rep g h3⟩
theorem pt_rep {kds : List (D × D)} {kvs : List (Key × V)} {key : Key} {y : V} {d : D} (h : RepKs K F kvs kds) (g : Rep K F y d) : RepKs K F (putK kvs key y) (dPt kds (keyD key) d) := by
  unfold putK dPt
  rw [any_rep h key]
  split
  · exact map_rep g h
  · exact app_rep g h
theorem ks_len : ∀ {kds : List (D × D)} {kvs : List (Key × V)}, RepKs K F kvs kds → kvs.length = kds.length
  | [], kvs, h => by
    cases (show kvs = [] from h)
    rfl
  | (k, d0) :: kds, kvs, ⟨key', v, r, h1, h0, h2, h3⟩ => by
    subst h1
    rw [List.length_cons, List.length_cons, ks_len h3]
end
section
variable {K : Ek} {F R H : Hp} {σ : St} {ε : Cs} {T : Tms} {i : Nat} {v : V}
theorem Sep.dic {kds : List (D × D)} (s : Sep K F R H σ ε T) (h : ε[i]? = some (.dc 0 kds)) : ∃ a kvs, σ[i]? = some (some (.ref a)) ∧ H a = some (.dK kvs) ∧ RepKs K.1 F kvs kds := by
  obtain ⟨o, f, e1, a, rfl, _, kvs, h1, h2⟩ := s.cell h
  exact ⟨a, kvs, e1, h1, h2⟩
theorem Sep.newD (s : Sep K F R H σ ε T) {p : Addr} (hp : H p = none) : Sep K F R (upd H p (.dK [])) σ ε ((.ref p, .dc 0 []) :: T) :=
  Sep.change (T1 := []) s fun gs h n _ => ⟨[p], ⟨p, rfl, rfl, [], upd_same, rfl⟩, by simp, fun b hb => .inr (by rw [List.mem_singleton.mp hb]; exact hp), fun b u _ e => by rw [upd_ne (ne_of_none e hp)]; exact e⟩
theorem Sep.wrD {a : Addr} {kds eds : List (D × D)} {kvs : List (Key × V)} (s : Sep K F R H σ ε ((.ref a, .dc 0 kds) :: T)) (r : RepKs K.1 F kvs eds) : Sep K F R (upd H a (.dK kvs)) σ ε ((.ref a, .dc 0 eds) :: T) :=
  Sep.change (T1 := [(.ref a, .dc 0 kds)]) s fun gs h n _ => by
    obtain ⟨o, r0, f, fr, e1, e2, ⟨b, e3, e4, e5⟩, h4⟩ := h
    obtain ⟨rfl, rfl⟩ := List.cons.inj e1
    cases e3
    have ha : a ∈ gs.flatten := by rw [e2, e4]; simp
    exact ⟨[a], ⟨a, rfl, rfl, kvs, upd_same, r⟩, by simp, fun b hb => .inl (by rw [List.mem_singleton.mp hb]; exact ha), fun b u hb e => by rw [upd_ne (by rintro rfl; exact hb ha)]; exact e⟩
theorem Sep.atD {kds : List (D × D)} (s : Sep K F R H σ ε T) (h : ε[i]? = some (.dc 0 kds)) : ∃ a kvs, σ[i]? = some (some (.ref a)) ∧ H a = some (.dK kvs) ∧ RepKs K.1 F kvs kds ∧ ∀ ws eds, RepKs K.1 F ws eds → Sep K F R (upd H a (.dK ws)) σ (ε.set i (.dc 0 eds)) T := by
  obtain ⟨a, kvs, h1, h2, h3⟩ := s.dic h
  refine ⟨a, kvs, h1, h2, h3, fun ws eds r => ?_⟩
  have := ((s.take h h1).wrD r).put h1
  rw [List.set_set] at this
  exact this
end
def mDNew : EM := fun ε => some (.dc 0 [], ε)
def mDIn (n : Bool) (i : Nat) (m : OM) : EM := fun ε => do
  let (o, ε1) ← m ε
  let k ← bor ε1 o
  let _ ← kyD k
  match ε1[i]? with
  | some (.dc 0 kds) => some (.sh (.bool (if n then !(dLk kds k).isSome else (dLk kds k).isSome)), ε1)
  | _ => none
def mDGet (i : Nat) (m : OM) : EM := fun ε => match ε[i]? with
  | some (.dc _ _) => do
    let (o, ε1) ← m ε
    let k ← bor ε1 o
    let _ ← kyD k
    match ε1[i]? with
      | some (.dc 0 kds) => do
        let d ← dLk kds k
        some (.sh d, ε1)
      | _ => none
  | _ => none
def mDLen (i : Nat) : EM := fun ε => match ε[i]? with
  | some (.dc 0 kds) => some (.sh (.int kds.length), ε)
  | _ => none
def mDPut (i : Nat) (m : EM) (ix : OM) : XM := fun ε => do
  let (c, ε1) ← m ε
  let d ← cD c
  match ε1[i]? with
  | some (.dc 0 _) => do
    let (p, ε2) ← ix ε1
    let k ← bor ε2 p
    let _ ← kyD k
    match ε2[i]? with
      | some (.dc 0 kds) => if kds.length < sizeLine then some (.nx, ε2.set i (.dc 0 (dPt kds k d))) else none
      | _ => none
  | _ => none
section
variable {X : Cx} {W : Xw} {io : List Nat} {e kx : Expr} {y : Str} {p p2 pos : Pos} {m : OM} {i k : Nat}
theorem x_dnew : PE X (.Dict [] [] pos) (tE X.E mDNew) := pe_dnewK.weak fun σ H Q h => by
  obtain ⟨F, R, ε, c, ε', s, e, q⟩ := h
  cases e
  intro p hp
  exact q _ _ _ (Same.refl F) (s.newD hp)
/-- the operand's key, the dict -/
theorem dkey {K : Ek} {σ : St} {H : Hp} {m : OM} {i : Nat} {ε ε1 : Cs} {o : Opd} {F R : Hp} {kd : D} {key : Key} {kds : List (D × D)} {Q : V → Hp → Prop} (s : Sep K F R H σ ε []) (e1 : m ε = some (o, ε1)) (e2 : bor ε1 o = some kd) (e3 : kyD kd = some key) (hx : ε1[i]? = some (.dc 0 kds))
    (h : ∀ F1 H1 a kvs, Same F F1 → Sep K F1 R H1 σ ε1 [] → σ[i]? = some (some (.ref a)) → H1 a = some (.dK kvs) → RepKs K.1 F1 kvs kds → kd = keyD key → Q (kV key) H1) : tO K m σ H Q := by
  refine ⟨F, R, ε, o, ε1, s, e1, fun v F1 H1 fm v1 s1 => ?_⟩
  rw [← List.append_nil (tmO [o] [v])] at s1
  have rb := (bors_ok s1 v1 (by simp [bors, e2] : bors ε1 [o] = some [kd])).inj1
  obtain ⟨rfl, ek⟩ := ky_repB e3 rb
  have s2 := s1.drops _
  obtain ⟨a, kvs, h1, h2, h3⟩ := s2.dic hx
  exact h F1 H1 a kvs fm s2 h1 h2 h3 ek
theorem din_core {K : Ek} {σ : St} {H : Hp} {Q : VK} {n : Bool} (h : tE K (mDIn n i m) σ H Q) : tO K m σ H fun y H1 => tVar i σ H1 fun x H2 => ∃ a o, x = .ref a ∧ DGet H2 a y o ∧ Q (.bl (if n then !o.isSome else o.isSome)) H2 := by
  obtain ⟨F, R, ε, c, ε', s, e, q⟩ := h
  unfold mDIn at e
  cases e1 : m ε with
  | none => simp [e1] at e
  | some p =>
    obtain ⟨o, ε1⟩ := p
    cases e2 : bor ε1 o with
    | none => simp [e1, e2] at e
    | some kd =>
      cases e3 : kyD kd with
      | none => simp [e1, e2, e3] at e
      | some key =>
        simp only [e1, e2, e3, Option.bind_eq_bind, Option.bind_some] at e
        split at e
        · rename_i kds hx
          cases e
          refine dkey s e1 e2 e3 hx fun F1 H1 a kvs fm s2 h1 h2 h3 ek => ⟨_, h1, a, valV kvs key, rfl, DGet.k h2, ?_⟩
          have hh : (valV kvs key).isSome = (dLk kds kd).isSome := by
            rw [ek]
            rcases lk_rep h3 key with ⟨v, d, a1, a2, _⟩ | ⟨a1, a2⟩ <;> rw [a1, a2] <;> rfl
          rw [hh]
          exact q _ F1 H1 fm (s2.addSh rfl)
        · cases e
theorem y_din (hr : Room k X.A) (hv : PE X (.Name y p) (tVar i)) (he : PE X e (tO X.E m)) (hm : behindInMarks .In (.Name y p) = false := by rfl) : PT X (.Compare e [.In] [.Name y p] pos) (tT X.E (mTst (mDIn false i m))) :=
  (pt_cmp (pc_din (by have := hr.un; omega) he hv) hm).weak fun σ H Q h => din_core (tE_tst h)
theorem y_dnin (hr : Room k X.A) (hv : PE X (.Name y p) (tVar i)) (he : PE X e (tO X.E m)) (hm : behindInMarks .NotIn (.Name y p) = false := by rfl) : PT X (.Compare e [.NotIn] [.Name y p] pos) (tT X.E (mTst (mDIn true i m))) :=
  (pt_cmp (pc_dnotin (by have := hr.un; omega) he hv) hm).weak fun σ H Q h => din_core (tE_tst h)
theorem x_dget (hr : Room k X.A) (hv : PE X (.Name y p) (tVar i)) (he : PE X kx (tO X.E m)) (hs : NoSl kx := by exact fun _ _ => rfl) : PE X (.Subscript (.Name y p) kx pos) (tE X.E (mDGet i m)) :=
  (pe_dget (by have := hr.un; omega) hv he hs).weak fun σ H Q h => by
    obtain ⟨F, R, ε, c, ε', s, e, q⟩ := h
    unfold mDGet at e
    split at e
    · rename_i n0 kds0 hx0
      cases e1 : m ε with
      | none => simp [e1] at e
      | some p =>
        obtain ⟨o, ε1⟩ := p
        cases e2 : bor ε1 o with
        | none => simp [e1, e2] at e
        | some kd =>
          cases e3 : kyD kd with
          | none => simp [e1, e2, e3] at e
          | some key =>
            simp only [e1, e2, e3, Option.bind_eq_bind, Option.bind_some] at e
            split at e
            · rename_i kds hx
              cases e4 : dLk kds kd with
              | none => simp [e4] at e
              | some d =>
                simp only [e4, Option.bind_some] at e
                cases e
                obtain ⟨w, hw⟩ := s.val hx0 fun z => nomatch z
                refine ⟨w, hw, dkey s e1 e2 e3 hx fun F1 H1 a kvs fm s2 h1 h2 h3 ek => ?_⟩
                rw [hw] at h1
                cases h1
                rcases lk_rep h3 key with ⟨v, d', a1, a2, a3⟩ | ⟨a1, a2⟩
                · rw [ek, a2] at e4
                  cases e4
                  exact ⟨a, v, rfl, by rw [← a1]; exact DGet.k h2, q _ F1 H1 fm (s2.addSh a3)⟩
                · rw [ek, a2] at e4
                  cases e4
            · cases e
    · cases e
theorem z_dput (hr : Room k X.A) (i : Nat) {m : EM} {ix : OM} (hv : PE X (.Name y p) (tVar i)) (he : PE X e (tE X.E m)) (hk : PE X kx (tO X.E ix)) (hs : swapsWith e (some (.Subscript (.Name y p) kx p2)) pos.line X.env = pure false := by rfl) :
    PS X (.Assign [.Subscript (.Name y p) kx p2] e pos) (tS X.E W io (mDPut i m ix)) :=
  (ps_dput (by have := hr.un; omega) hv hk he hs).weak fun De σ H h => by
    obtain ⟨F, R, ε, f, ε', s, e, q⟩ := h
    unfold mDPut at e
    cases e1 : m ε with
    | none => simp [e1] at e
    | some p =>
      obtain ⟨c, ε1⟩ := p
      cases ec : cD c with
      | none => simp [e1, ec] at e
      | some d =>
        simp only [e1, ec, Option.bind_eq_bind, Option.bind_some] at e
        split at e
        · rename_i kds0 hx0
          cases e2 : ix ε1 with
          | none => simp [e2] at e
          | some p2 =>
            obtain ⟨o, ε2⟩ := p2
            cases e3 : bor ε2 o with
            | none => simp [e2, e3] at e
            | some kd =>
              cases e4 : kyD kd with
              | none => simp [e2, e3, e4] at e
              | some key =>
                simp only [e2, e3, e4, Option.bind_some] at e
                split at e
                · rename_i kds hx
                  split at e
                  · rename_i hl
                    cases e
                    refine ⟨F, R, ε, c, ε1, s, e1, fun v F1 H1 fm1 p1 => ?_⟩
                    obtain ⟨F2, fm2, r2, s2⟩ := p1.freeze ec
                    obtain ⟨w, hw⟩ := s2.val hx0 fun z => nomatch z
                    refine ⟨w, hw, F2, R, ε1, o, ε2, s2, e2, fun kv F3 H3 fm3 v3 s3 => ?_⟩
                    rw [← List.append_nil (tmO [o] [kv])] at s3
                    have rb := (bors_ok s3 v3 (by simp [bors, e3] : bors ε2 [o] = some [kd])).inj1
                    obtain ⟨rfl, ek⟩ := ky_repB e4 rb
                    obtain ⟨a, kvs, g1, g2, g4, wr⟩ := (s3.drops _).atD hx
                    rw [hw] at g1
                    cases g1
                    refine ⟨a, _, rfl, DPut.k g2 (by rw [ks_len g4]; exact hl), ?_⟩
                    have := wr _ _ (pt_rep (key := key) g4 (Rep.mono fm3 _ _ r2))
                    rw [← ek] at this
                    exact q F3 _ σ ((fm1.trans fm2).trans fm3) (StS.refl σ) this
                  · cases e
                · cases e
        · cases e
end
end L2.M
namespace L2.M
open PySem PySem.Spec PyProof.Rows
end L2.M
namespace L2.M
open PySem PySem.Spec PyProof.Rows
def okKey : D → Option NestedKey
  | .tuple ds => (nKey (.tuple ds)).bind fun n => if n.depth ≤ 8 then some n else none
  | _ => none
def idxN (ks : List D) (key : NestedKey) : Option Nat := ks.findIdx? fun k => decide (nKey k = some key)
def nKs : C → Option (List D)
  | .ob (.dn ks) _ => some ks
  | .fd kds => some (kds.map (·.1))
  | _ => none
def nVl : C → Nat → Option D
  | .ob (.dn _) cs, j => match cs[j]? with
    | some (.sh d) => some d
    | _ => none
  | .fd kds, j => (kds[j]?).map (·.2)
  | _, _ => none
section
variable {K : Ek} {F R H : Hp} {σ : St} {ε : Cs} {T : Tms} {i : Nat} {c : C} {ks : List D} {bs : List NEnt} {vs : List V} {key : NestedKey}
theorem KeysN.len : ∀ {ks : List D} {bs : List NEnt}, KeysN K.1 F bs ks → bs.length = ks.length
  | [], bs, h => by cases (show bs = [] from h); rfl
  | k :: ks, bs, ⟨b, r, h1, _, _, _, h5⟩ => by rw [h1, List.length_cons, List.length_cons, KeysN.len h5]
end
def mNNew : EM := fun ε => some (.ob (.dn []) [], ε)
def mNIn (n : Bool) (i : Nat) (m : OM) : EM := fun ε => do
  let (o, ε1) ← m ε
  let k ← bor ε1 o
  let key ← okKey k
  let c ← ε1[i]?
  let ks ← nKs c
  some (.sh (.bool (if n then !(idxN ks key).isSome else (idxN ks key).isSome)), ε1)
def mNGet (i : Nat) (m : OM) : EM := fun ε => do
  let c0 ← ε[i]?
  let _ ← nKs c0
  let (o, ε1) ← m ε
  let k ← bor ε1 o
  let key ← okKey k
  let c ← ε1[i]?
  let ks ← nKs c
  let j ← idxN ks key
  let d ← nVl c j
  some (.sh d, ε1)
/-- d[k] = e -/
def mNPut (i : Nat) (m : EM) (ix : OM) : XM := fun ε => do
  let (c, ε1) ← m ε
  match ε1[i]? with
  | some (.ob (.dn _) _) => do
    let (p, ε2) ← ix ε1
    let k ← bor ε2 p
    let key ← okKey k
    match ε2[i]? with
      | some (.ob (.dn ks) cs) => if cs.length < sizeLine then some (.nx, ε2.set i (match idxN ks key with
          | some j => .ob (.dn ks) (cs.set j c)
          | none => .ob (.dn (ks ++ [k])) (cs ++ [c]))) else none
      | _ => none
  | _ => none
end L2.M
namespace L2.M
open PySem PySem.Spec PyProof.Rows
section
variable {K : Ek} {F F' R H : Hp} {σ : L2.St} {ε : Cs} {T : Tms} {i : Nat}
/-- a temporary of no own addresses, any -/
theorem Sep.addE {v : V} {c : C} (s : Sep K F R H σ ε T) (r : RpC K F H (some v) c []) : Sep K F R H σ ε ((v, c) :: T) := by
  obtain ⟨a1, a2, a3, ⟨fs, gs, h1, h2, n, m⟩⟩ := s
  exact ⟨a1, a2, a3, fs, [] :: gs, h1, ⟨_, _, _, _, rfl, rfl, r, h2⟩, by simpa using n, by simpa using m⟩
theorem KeysN.get {F : Hp} : ∀ {ks : List D} {bs : List NEnt} {i : Nat} {b : NEnt}, KeysN K.1 F bs ks → bs[i]? = some b → ∃ k, ks[i]? = some k ∧ Rep K.1 F (.ref b.2) k
  | [], bs, i, b, h, e => by
    cases (show bs = [] from h)
    simp at e
  | k :: ks, bs, 0, b, ⟨b', r, h1, _, _, h4, _⟩, e => by
    subst h1
    simp at e
    subst e
    exact ⟨k, rfl, h4⟩
  | k :: ks, bs, i + 1, b, ⟨b', r, h1, _, _, h4, h5⟩, e => by
    subst h1
    obtain ⟨k', q1, q2⟩ := KeysN.get (i := i) h5 (by simpa using e)
    exact ⟨k', by simpa using q1, q2⟩
end
section
variable {X : Cx} {tg e : Expr} {y : Str} {p p2 pos : Pos} {i k : Nat}
/-- a dict's values on the way to list(..) -/
def valsO (p d : Addr) : HO := .ext fun h => h.IsValuesView p d
theorem valsO_ok {P : Program} {w : World} {H : Hp} {h : Heap} {p d : Addr} (e : h.get? p = some { cls := .type "dict_values", data := .fields #[.ref d] }) : ObjOk P w H h p (valsO p d) :=
  ⟨⟨_, e, rfl, rfl⟩, ⟨_, e⟩, fun h1 h2 ⟨o, g1, g2, g3⟩ k => ⟨o, k _ g1, g2, g3⟩⟩
end
end L2.M
namespace L2.M
open PySem PySem.Spec PyProof.Rows
def mNList (i : Nat) : EM := fun ε => do
  let c ← ε[i]?
  let ks ← nKs c
  some (.ls ks, ε)
def shs : List C → Option (List D)
  | [] => some []
  | .sh d :: cs => (shs cs).map (d :: ·)
  | _ => none
def nVs : C → Option (List D)
  | .ob (.dn _) cs => shs cs
  | .fd kds => some (kds.map (·.2))
  | _ => none
def mNVals (i : Nat) : EM := fun ε => do
  let c ← ε[i]?
  let ds ← nVs c
  some (.ls ds, ε)
section
variable {X : Cx} {W : Xw} {io : List Nat} {e kx vx : Expr} {y : Str} {p p2 pos apos cpos : Pos} {m : OM} {i k : Nat}
def mN1 (mk mv : EM) : EM := fun ε => do
  let (ck, ε1) ← mk ε
  let kd ← cD ck
  let _ ← okKey kd
  let (cv, ε2) ← mv ε1
  some (.ob (.dn [kd]) [cv], ε2)
def mFnV (x : Str) : EM := fun ε => some (.fn x, ε)
def mCallF (i : Nat) (io : List Bool) (cands : List (Str × GM)) (ma : AM) : EM := fun ε => match ε[i]? with
  | some (.fn x) => match cands.lookup x with
    | some g => mCall io g ma ε
    | none => none
  | _ => none
/-- a slot's thing taken out -/
def mTake (i : Nat) : EM := fun ε => match ε[i]? with
  | some .no => none
  | some c => some (c, ε.set i .no)
  | none => none
end
end L2.M
namespace L2.M
open PySem PySem.Spec PyProof.Rows
end L2.M
namespace L2.M
open PySem PySem.Spec PyProof.Rows
end L2.M
namespace L2.M
open PySem PySem.Spec PyProof.Rows
end L2.M
namespace L2.M
open PySem PySem.Spec PyProof.Rows
end L2.M
namespace L2.M
open PySem PySem.Spec PyProof.Rows
end L2.M
namespace L2.M
open PySem PySem.Spec PyProof.Rows
end L2.M
namespace L2.M
open PySem PySem.Spec PyProof.Rows
end L2.M
namespace L2.M
open PySem PySem.Spec PyProof.Rows
end L2.M
namespace L2.M
open PySem PySem.Spec PyProof.Rows
end L2.M
namespace L2.M
open PySem PySem.Spec PyProof.Rows
inductive SelOk (X : Cx) (k' np : Nat) : List Expr → List V → List GX → Prop where
  | nil : SelOk X k' np [] [] []
  | cons {x : Str} {p : Pos} {g : GX} {k : Nat} {ps : List Str} {es : List Expr} {vs : List V} {gs : List GX} (h : KnX X.prog X.w X.K X.mg X.base k x ps (spX X.E np g)) (hk : k ≤ k') (hg : Gl X x) (hm : X.mg x = some (.ref (He.ga X.K x))) (hd : (x == ("__debug__" : Str)) = false) (hs : starEach (.Name x p :: es) X.env = (false, eval (.Name x p) X.env) :: starEach es X.env) (r : SelOk X k' np es vs gs) : SelOk X k' np (.Name x p :: es) (.ref (He.ga X.K x) :: vs) (g :: gs)
section
variable {X : Cx} {k' np : Nat}
theorem SelOk.len : ∀ {es : List Expr} {vs : List V} {gs : List GX}, SelOk X k' np es vs gs → vs.length = gs.length ∧ es.length = gs.length
  | _, _, _, .nil => ⟨rfl, rfl⟩
  | _, _, _, .cons _ _ _ _ _ _ r => ⟨congrArg (· + 1) r.len.1, congrArg (· + 1) r.len.2⟩
theorem SelOk.get : ∀ {es : List Expr} {vs : List V} {gs : List GX}, SelOk X k' np es vs gs → ∀ (j : Nat) (g : GX), gs[j]? = some g → ∃ x k ps, vs[j]? = some (.ref (He.ga X.K x)) ∧ k ≤ k' ∧ KnX X.prog X.w X.K X.mg X.base k x ps (spX X.E np g) ∧ X.mg x = some (.ref (He.ga X.K x))
  | _, _, _, .nil, j, g, e => by cases e
  | _, _, _, .cons (x := x) (k := k) (ps := ps) h hk hg hm hd hs r, 0, g, e => by
    cases e
    exact ⟨x, k, ps, rfl, hk, h, hm⟩
  | _, _, _, .cons h hk hg hm hd hs r, j + 1, g, e => r.get j g e
end
end L2.M
namespace L2.M
open PySem PySem.Spec PyProof.Rows
end L2.M
namespace L2.M
open PySem PySem.Spec PyProof.Rows
end L2.M
namespace L2.M
open PySem PySem.Spec PyProof.Rows
open PySem.Builtin PySem.Builtin.Str
section
variable {P : Program} {w : World} {K : PySem.W.Frag} {mg : Str → Option Value} {base : Heap} {CX : CXT}
theorem PSsT.nox {X : Cx} {st : List Stmt} {t : TS} (h : PSsT X.nox st t) : PSsT X st t := fun pins s σ H D h0 I hw =>
  wpAny_mono (h pins s σ H D h0 (I.wish _) hw) (fun _ _ q => q.unwish) fun _ _ z => False.elim z
end
end L2.M
namespace L2.M
open PySem PySem.Spec PyProof.Rows
end L2.M
namespace L2.M
open PySem PySem.Spec PyProof.Rows
end L2.M
namespace L2.M
open PySem PySem.Spec PyProof.Rows
theorem Sep.hdSh {K : Ek} {F R H : Hp} {σ : L2.St} {ε : Cs} {T : Tms} {v : V} {d : D} (s : Sep K F R H σ ε ((v, .sh d) :: T)) : Rep K.1 F v d := by
  obtain ⟨f, ⟨_, w, e1, r⟩, m⟩ := s.headT
  cases e1
  exact r
def mDGetD (i : Nat) (m n : EM) : EM := fun ε => match ε[i]? with
  | some (.dc 0 _) => do
    let (c1, ε1) ← m ε
    let (c2, ε2) ← n ε1
    match c1, c2, ε2[i]? with
      | .sh kd, .sh d, some (.dc 0 kds) => if (kyD kd).isSome = true then some (.sh ((dLk kds kd).getD d), ε2) else none
      | _, _, _ => none
  | _ => none
def mDList (i : Nat) : EM := fun ε => match ε[i]? with
  | some (.dc 0 kds) => some (.ls (kds.map (·.1)), ε)
  | _ => none
section
variable {X : Cx} {y : Str} {i k : Nat} {p p2 pos apos cpos : Pos} {kx dx : Expr} {m n : EM}
theorem x_dgetd (hr : Room k X.A) (hv : PE X (.Name y p) (tVar i)) (he : PE X kx (tE X.E m)) (hf : PE X dx (tE X.E n)) (hm : M2 X (.Name y p) "get" apos kx dx cpos) : PE X (.Call (.Attribute (.Name y p) "get" apos) [kx, dx] [] cpos) (tE X.E (mDGetD i m n)) :=
  (pe_dget2 (by have := hr.un; omega) hv he hf hm).weak fun σ H Q h => by
    obtain ⟨F, R, ε, c, ε', s, e, q⟩ := h
    unfold mDGetD at e
    split at e
    · rename_i kds0 hx0
      cases e1 : m ε with
      | none => simp [e1] at e
      | some p =>
        obtain ⟨c1, ε1⟩ := p
        cases e2 : n ε1 with
        | none => simp [e1, e2] at e
        | some p2 =>
          obtain ⟨c2, ε2⟩ := p2
          simp only [e1, e2, Option.bind_eq_bind, Option.bind_some] at e
          split at e
          · rename_i kd d kds hx
            split at e
            · rename_i hk
              cases e
              obtain ⟨key, hk⟩ := Option.isSome_iff_exists.mp hk
              obtain ⟨a, kvs, h1, h2, h3⟩ := s.dic hx0
              refine ⟨_, h1, a, rfl, .inl ⟨kvs, .inl h2⟩, F, R, ε, _, ε1, s, e1, fun v F1 H1 fm s1 => ?_⟩
              refine ⟨F1, R, ε1, _, _, s1.drop, e2, fun w F2 H2 fm2 s2 => ?_⟩
              have hd := s2.hdSh
              obtain ⟨a', kvs', g1, g2, g3⟩ := s2.dic hx
              rw [h1] at g1
              cases g1
              obtain ⟨rfl, ek⟩ := ky_rep hk s1.hdSh
              refine ⟨_, DGet.k g2, ?_⟩
              rcases lk_rep g3 key with ⟨v, d', a1, a2, a3⟩ | ⟨a1, a2⟩
              · rw [a1]
                rw [ek, a2] at q
                exact q v F2 H2 (fm.trans fm2) (s2.drop.addSh a3)
              · rw [a1]
                rw [ek, a2] at q
                exact q w F2 H2 (fm.trans fm2) s2
            · cases e
          · cases e
    · cases e
end
end L2.M
namespace L2.M
open PySem PySem.Spec PyProof.Rows
end L2.M
namespace L2.M
open PySem PySem.Spec PyProof.Rows
end L2.M
namespace L2.M
open PySem PySem.Spec PyProof.Rows
end L2.M
namespace L2.M
open PySem PySem.Spec PyProof.Rows
/-- a dict is not empty -/
def mNNe (i : Nat) : EM := fun ε => match ε[i]? with
  | some c => (nKs c).map fun ks => (.sh (.bool (!ks.isEmpty)), ε)
  | none => none
end L2.M
namespace L2.M
open PySem PySem.Spec PyProof.Rows
end L2.M
namespace L2.M
open PySem PySem.Spec PyProof.Rows
end L2.M
namespace PySem.SeqAt
open AutoSeq1 (wpAny_loadPart')
open MeetsSeq MeetsSeq2 MeetsSeq3
end PySem.SeqAt
namespace L2.M
open PySem PySem.Spec PyProof.Rows
end L2.M
namespace L2.M
open PySem PySem.Spec PyProof.Rows
def prsD : List D → Option (List (D × D))
  | [] => some []
  | .tuple [k, v] :: ds => if (kyD k).isSome = true then (prsD ds).map ((k, v) :: ·) else none
  | _ => none
def dOf (kds : List (D × D)) : List (D × D) := kds.foldl (fun a p => dPt a p.1 p.2) []
def mDOf (ma : AM) : EM := fun ε => do
  let (os, ε1) ← ma ε
  let ds ← bors ε1 os
  match ds with
  | [.list es] => do
    let kds ← prsD es
    some (.dc 0 (dOf kds), ε1)
  | _ => none
section
variable {K : PySem.W.Frag} {F H : Hp}
theorem prs_reps (s : Same F H) : ∀ {es : List D} {kds : List (D × D)} {us : List V}, prsD es = some kds → Reps K F us es → ∃ (ps : List Addr) (kvs : List (Key × V)), us = ps.map V.ref ∧ Paired (fun p kv => SqT K H p [kV kv.1, kv.2]) ps kvs ∧ RepKs K F kvs kds
  | [], kds, us, e, r => by
    cases e
    cases (show us = [] from r)
    exact ⟨[], [], rfl, .nil, rfl⟩
  | d :: es, kds, us, e, ⟨u, ur, e1, r1, r2⟩ => by
    subst e1
    unfold prsD at e
    split at e
    · rename_i h
      cases h
    · rename_i k v ds h
      cases h
      split at e
      · rename_i hk
        obtain ⟨kr, e3, rfl⟩ := Option.map_eq_some_iff.mp e
        obtain ⟨ps, kvs, rfl, q1, q2⟩ := prs_reps s e3 r2
        obtain ⟨key, hk⟩ := Option.isSome_iff_exists.mp hk
        obtain ⟨a, vs, rfl, ht, x, xr, rfl, rx, y, yr, rfl, ry, e4⟩ := r1
        cases (show yr = [] from e4)
        obtain ⟨rfl, ek⟩ := ky_rep hk rx
        exact ⟨a :: ps, (key, y) :: kvs, rfl, .cons (ht.mono s).sq q1, key, y, kvs, rfl, ek, ry, q2⟩
      · cases e
    · cases e
theorem merge_reps : ∀ {kds : List (D × D)} {kvs : List (Key × V)} {as : List (Key × V)} {ads : List (D × D)}, RepKs K F kvs kds → RepKs K F as ads → RepKs K F (mergeK as kvs) (kds.foldl (fun a p => dPt a p.1 p.2) ads)
  | [], kvs, as, ads, r, q => by
    cases (show kvs = [] from r)
    exact q
  | (k, d) :: kds, kvs, as, ads, ⟨key, v, t, e1, e2, r1, r2⟩, q => by
    subst e1 e2
    show RepKs K F (mergeK (putK as key v) t) (kds.foldl (fun a p => dPt a p.1 p.2) (dPt ads (keyD key) d))
    exact merge_reps r2 (pt_rep q r1)
end
section
variable {X : Cx} {a : Expr} {m : AM} {p2 pos : Pos}
theorem x_dof (hm : X.mg "dict" = none) (hc : X.calm = true) (hg : Gl X "dict") (ha : PA X [a] (tA X.E m)) (he : starEach [a] X.env = (false, eval a X.env) :: starEach [] X.env := by rfl) (hpl : (backTo pos (starEach [] X.env)).any (·.1) = false := by rfl) :
    PE X (.Call (.Name "dict" p2) [a] [] pos) (tE X.E (mDOf m)) :=
  (pe_callTy (call_dictP hc) hg hm boot_dict ha (by decide) (by decide) he hpl).weak fun σ H Q h => by
    obtain ⟨F, R, ε, c, ε', s, e, q⟩ := h
    unfold mDOf at e
    cases e1 : m ε with
    | none => simp [e1] at e
    | some r =>
      obtain ⟨os, ε1⟩ := r
      cases e2 : bors ε1 os with
      | none => simp [e1, e2] at e
      | some ds =>
        simp only [e1, e2, Option.bind_eq_bind, Option.bind_some] at e
        split at e
        · rename_i es
          cases e3 : prsD es with
          | none => simp [e3] at e
          | some kds =>
            simp only [e3, Option.bind_some] at e
            cases e
            refine ⟨F, R, ε, os, _, s, e1, fun vs F1 H1 fm1 v1 s1 => ?_⟩
            rw [← List.append_nil (tmO os vs)] at s1
            have hb := bors_ok s1 v1 e2
            obtain ⟨x, rfl, h1⟩ := hb.one
            obtain ⟨l, us, rfl, g1, g2⟩ := rb_lst s1.sub h1
            obtain ⟨ps, kvs, rfl, q1, q2⟩ := prs_reps s1.sub e3 g2
            refine ⟨l, ps, kvs, rfl, g1, q1, fun p hp => ?_⟩
            have s2 := ((s1.drops _).newD hp).wrD (merge_reps (as := []) (ads := []) q2 rfl)
            rw [upd_upd] at s2
            exact q _ F1 _ fm1 s2
        · cases e
end
section
variable {X : Cx} {tg e : Expr}
def iKeysK (td : TE) : TI := fun σ H R => td σ H fun x H1 => ∃ d kvs, x = .ref d ∧ ((∃ o, H1 d = some (.frz o (.dK kvs)) ∧ R (Itk d o kvs) H1) ∨ (H1 d = some (.dK kvs) ∧ ∀ o, R (Itk d o kvs) (upd H1 d (.frz o (.dK kvs)))))
theorem pi_keysK {td : TE} (he : PE X e td) : PI X tg e (iKeysK td) := by
  refine ⟨fun pins s σ H R I h => ?_⟩
  refine thn (he.run pins s σ H _ I h) fun u s1 ⟨x, H1, I1, rx, d, kvs, ex, q⟩ => ?_
  subst ex
  obtain rfl : u = Value.ref d := rx
  obtain ⟨H2, I2, o, hd, q⟩ : ∃ H2, Inv X pins σ H2 s1 ∧ ∃ o, H2 d = some (.frz o (.dK kvs)) ∧ R (Itk d o kvs) H2 := by
    rcases q with ⟨o, hd, q⟩ | ⟨hd, q⟩
    · exact ⟨H1, I1, o, hd, q⟩
    · obtain ⟨o, I2⟩ := I1.lock hd True.intro
      exact ⟨_, I2, o, upd_same, q o⟩
  obtain ⟨hs, hgd, hx, es, ep, vs, hdt, hsz, kv, hm⟩ := I2.frzK hd
  refine iter_keys hs hgd hx hdt (pi_one (tk := s1.toks) I2 _ (turn_keys _ hdt) ⟨_, Heap.get?_push_size _ rfl, rfl, ?_⟩ q)
  rw [hsz] <;> rfl
end
section
variable {K : Ek} {F F' R H : Hp} {σ : L2.St} {ε : Cs} {T : Tms} {i : Nat}
theorem Sep.lockK {kds : List (D × D)} (s : Sep K F R H σ ε T) (h : ε[i]? = some (.dc 0 kds)) : ∃ a kvs, σ[i]? = some (some (.ref a)) ∧ H a = some (.dK kvs) ∧
    ∀ od, ∃ F', Same F F' ∧ F' a = some (.frz od (.dK kvs)) ∧ RepKs K.1 F' kvs kds ∧ Sep K F' R (upd H a (.frz od (.dK kvs))) σ (ε.set i (.fk kds)) T := by
  obtain ⟨w, hv⟩ := s.val h fun z => nomatch z
  obtain ⟨a1, a2, a3, ⟨fs, gs, h1, ⟨o0, r, f, fr, e1, e2, h2, h3⟩, n, m⟩⟩ := s.take h hv
  obtain ⟨rfl, rfl⟩ := List.cons.inj e1
  subst e2
  obtain ⟨a, g1, g2, kvs, k1, k2⟩ := h2
  cases g1
  refine ⟨a, kvs, hv, k1, fun od => ?_⟩
  generalize hu : HO.frz od (HO.dK kvs) = u
  let H' : Hp := upd H a u
  let F' : Hp := upd F a u
  have fin : F a = none ∧ R a = none := m a (by simp [g2])
  have fm : Same F F' := fun b x e => by
    show upd F a u b = some x
    rw [upd_ne (ne_of_none e fin.1)]
    exact e
  rw [List.flatten_cons, List.nodup_append, List.nodup_append] at n
  obtain ⟨n1, ⟨n2, n4, n5⟩, n3⟩ := n
  have haf : a ∈ f := by rw [g2]; exact List.mem_cons_self
  have ha : F' a = some u := upd_same
  have fr1 : ∀ b ∈ fs.flatten, H' b = H b := fun b hb => upd_ne fun z => n3 b hb b (List.mem_append_left _ (by rw [z]; exact haf)) rfl
  have fr2 : ∀ b ∈ fr.flatten, H' b = H b := fun b hb => upd_ne fun z => n5 b (by rw [z]; exact haf) b hb rfl
  have rk : RepKs K.1 F' kvs kds := RepKs.mono fm _ _ k2
  have s1 : Sep K F' R H' σ (ε.set i .no) T := by
    refine ⟨fun b x e => ?_, fun b x e => ?_, fun b hb => ?_, fs, fr, RpCs.frame fm fr1 h1, RpCs.frame fm fr2 h3, ?_, fun b hb => ?_⟩
    · by_cases q : b = a
      · subst q
        have e : upd F b u b = some x := e
        rw [upd_same] at e
        show upd H b u b = some x
        rw [upd_same]
        exact e
      · have e : upd F a u b = some x := e
        rw [upd_ne q] at e
        show upd H a u b = some x
        rw [upd_ne q]
        exact a1 b x e
    · show upd H a u b = some x
      rw [upd_ne fun z => by rw [z, fin.2] at e; cases e]
      exact a2 b x e
    · by_cases q : b = a
      · rw [q]
        exact fin.2
      · have hb : upd F a u b ≠ none := hb
        rw [upd_ne q] at hb
        exact a3 b hb
    · rw [List.nodup_append]
      exact ⟨n1, n4, fun x hx y hy => n3 x hx y (List.mem_append_right _ hy)⟩
    · have q : b ≠ a := fun z => by
        subst z
        rcases List.mem_append.mp hb with hb | hb
        · exact n3 b hb b (List.mem_append_left _ haf) rfl
        · exact n5 b haf b hb rfl
      show upd F a u b = none ∧ R b = none
      rw [upd_ne q]
      refine m b ?_
      simp only [List.flatten_cons, List.mem_append] at hb ⊢
      rcases hb with hb | hb
      · exact .inl hb
      · exact .inr (.inr hb)
  have s2 := (s1.addE (v := .ref a) (c := .fk kds) ⟨rfl, a, rfl, od, kvs, by rw [hu]; exact ha, rk⟩).put hv
  rw [List.set_set] at s2
  exact ⟨F', fm, ha, rk, s2⟩
theorem ks_get : ∀ {kds : List (D × D)} {kvs : List (Key × V)} {i : Nat} {k : Key} {v : V}, RepKs K.1 F kvs kds → kvs[i]? = some (k, v) → ∃ d, (kds.map (·.1))[i]? = some d ∧ Rep K.1 F (kV k) d
  | [], kvs, i, k, v, h, e => by
    cases (show kvs = [] from h)
    simp at e
  | (kd, d) :: kds, kvs, 0, k, v, ⟨key, w, r, h1, h2, h3, h4⟩, e => by
    subst h1
    simp at e
    obtain ⟨rfl, rfl⟩ := e
    refine ⟨kd, rfl, ?_⟩
    rw [h2]
    cases key <;> simp [kV, keyD, Rep]
  | (kd, d) :: kds, kvs, i + 1, k, v, ⟨key, w, r, h1, h2, h3, h4⟩, e => by
    subst h1
    obtain ⟨d', q1, q2⟩ := ks_get (i := i) h4 (by simpa using e)
    exact ⟨d', by simpa using q1, q2⟩
theorem src_keysK {a : Addr} {od : Obj} {kvs : List (Key × V)} {kds : List (D × D)} {ws : List Nat} (hF : F a = some (.frz od (.dK kvs))) (hk : RepKs K.1 F kvs kds) : Src K F R H σ ε (Itk a od kvs) (kds.map (·.1)) ws := by
  have l1 : kvs.length = (kds.map (·.1)).length := by
    rw [List.length_map]
    exact ks_len hk
  refine ⟨_, _, (show Walk (Itk a od kvs) (kds.map (·.1)).length _ _ by rw [← l1]; exact walk_keys), fun F2 H2 σ2 ε2 fm s2 _ => ⟨s2.sub _ _ (fm _ _ hF), fun i x H3 hi y => ?_⟩⟩
  obtain ⟨rfl, k, v, y1, rfl⟩ := y
  obtain ⟨d, q1, q2⟩ := ks_get (K := K) hk y1
  exact ⟨F2, d, q1, q2.mono fm, Grw.refl s2.sub⟩
end
def mDSrc (i : Nat) : SM := fun ε => match ε[i]? with
  | some (.fk kds) => some ((kds.map (·.1), []), ε)
  | some (.dc 0 kds) => some ((kds.map (·.1), []), ε.set i (.fk kds))
  | _ => none
section
variable {X : Cx} {tg e : Expr} {y : Str} {p p2 pos : Pos} {i k : Nat}
theorem mi_dkeys (hv : PE X (.Name y p) (tVar i)) : PI X tg (.Name y p) (tI X.E (mDSrc i)) := (pi_keysK hv).weak fun σ H Q q => by
  obtain ⟨F, R, ε, ds, ws, ε', s, e, q⟩ := q
  unfold mDSrc at e
  split at e
  · rename_i kds hx
    cases e
    obtain ⟨o, f, e1, _, a, rfl, od, kvs, g1, g2⟩ := s.cell hx
    exact ⟨_, e1, a, _, rfl, .inl ⟨od, s.sub _ _ g1, q F R H _ (Same.refl F) s (fun _ _ _ _ _ _ z => z) (src_keysK g1 g2)⟩⟩
  · rename_i kds hx
    cases e
    obtain ⟨a, kvs, h1, h2, k1⟩ := s.lockK hx
    refine ⟨_, h1, a, _, rfl, .inr ⟨h2, fun od => ?_⟩⟩
    obtain ⟨F', fm, ha, hk, s2⟩ := k1 od
    exact q F' R _ _ fm s2 (fun _ _ _ _ _ _ z => z) (src_keysK ha hk)
  · cases e
end
def dKs : C → Option (List (D × D))
  | .dc 0 kds => some kds
  | .fk kds => some kds
  | _ => none
section
variable {K : Ek} {F R H : Hp} {σ : L2.St} {ε : Cs} {T : Tms} {i : Nat} {c : C} {kds : List (D × D)}
theorem Sep.dview (s : Sep K F R H σ ε T) (h : ε[i]? = some c) (hk : dKs c = some kds) : ∃ a kvs, σ[i]? = some (some (.ref a)) ∧ Rd H a (.dK kvs) ∧ RepKs K.1 F kvs kds := by
  obtain ⟨o, f, e1, h1⟩ := s.cell h
  unfold dKs at hk
  split at hk
  · cases hk
    obtain ⟨a, rfl, _, kvs, g1, g2⟩ := h1
    exact ⟨a, kvs, e1, .inl g1, g2⟩
  · cases hk
    obtain ⟨_, a, rfl, od, kvs, g1, g2⟩ := h1
    exact ⟨a, kvs, e1, .inr ⟨od, s.sub _ _ g1⟩, g2⟩
  · cases hk
end
/-- d[k] -/
def mDGetF (i : Nat) (m : OM) : EM := fun ε => do
  let c0 ← ε[i]?
  let _ ← dKs c0
  let (o, ε1) ← m ε
  let k ← bor ε1 o
  let _ ← kyD k
  let c ← ε1[i]?
  let kds ← dKs c
  let d ← dLk kds k
  some (.sh d, ε1)
def mDVals (i : Nat) : EM := fun ε => do
  let c ← ε[i]?
  let kds ← dKs c
  some (.ls (kds.map (·.2)), ε)
section
variable {X : Cx} {W : Xw} {io : List Nat} {e kx : Expr} {y : Str} {p p2 pos apos cpos : Pos} {m : OM} {i k : Nat}
theorem x_dgetF (hr : Room k X.A) (hv : PE X (.Name y p) (tVar i)) (he : PE X kx (tO X.E m)) (hs : NoSl kx := by exact fun _ _ => rfl) : PE X (.Subscript (.Name y p) kx pos) (tE X.E (mDGetF i m)) :=
  (pe_dget (by have := hr.un; omega) hv he hs).weak fun σ H Q h => by
    obtain ⟨F, R, ε, c, ε', s, e, q⟩ := h
    unfold mDGetF at e
    cases e0 : ε[i]? with
    | none => simp [e0] at e
    | some c0 =>
      cases e00 : dKs c0 with
      | none => simp [e0, e00] at e
      | some kds0 =>
        cases e1 : m ε with
        | none => simp [e0, e00, e1] at e
        | some r =>
          obtain ⟨o, ε1⟩ := r
          cases e2 : bor ε1 o with
          | none => simp [e0, e00, e1, e2] at e
          | some kd =>
            cases e3 : kyD kd with
            | none => simp [e0, e00, e1, e2, e3] at e
            | some key =>
              cases e4 : ε1[i]? with
              | none => simp [e0, e00, e1, e2, e3, e4] at e
              | some c1 =>
                cases e5 : dKs c1 with
                | none => simp [e0, e00, e1, e2, e3, e4, e5] at e
                | some kds =>
                  cases e6 : dLk kds kd with
                  | none => simp [e0, e00, e1, e2, e3, e4, e5, e6] at e
                  | some d =>
                    simp only [e0, e00, e1, e2, e3, e4, e5, e6, Option.bind_eq_bind, Option.bind_some] at e
                    cases e
                    obtain ⟨a0, _, hw, _⟩ := s.dview e0 e00
                    refine ⟨_, hw, F, R, ε, o, _, s, e1, fun v F1 H1 fm v1 s1 => ?_⟩
                    rw [← List.append_nil (tmO [o] [v])] at s1
                    have rb := (bors_ok s1 v1 (ds := [kd]) (by simp [bors, e2])).inj1
                    have s2 := s1.drops _
                    obtain ⟨rfl, ek⟩ := ky_repB e3 rb
                    obtain ⟨a, kvs, g1, g2, g3⟩ := s2.dview e4 e5
                    rw [hw] at g1
                    cases g1
                    rcases lk_rep g3 key with ⟨v', d', b1, b2, b3⟩ | ⟨b1, b2⟩
                    · rw [ek, b2] at e6
                      cases e6
                      exact ⟨a0, v', rfl, .inl ⟨kvs, key, g2, rfl, b1.symm⟩, q _ F1 H1 fm (s2.addSh b3)⟩
                    · rw [ek, b2] at e6
                      cases e6
theorem call_list_VK (hc : X.calm = true) : CallR X (.type "list") (fun xs H Q => ∃ p d kvs, xs = [V.ref p] ∧ H p = some (valsO p d) ∧ Rd H d (.dK kvs) ∧ ∀ l, H l = none → Q (.ref l) (upd H l (.lst (kvs.map (·.2))))) := by
  intro pins s σ H xs us Q I r h
  obtain ⟨p, d, kvs, rfl, hp, hd, q⟩ := h
  obtain ⟨u, rfl, rx⟩ := r.one
  cases rx
  have view : s.heap.IsValuesView p d := (show ObjOk X.prog X.w H s.heap p (valsO p d) from I.hok p _ hp).1
  obtain ⟨z, hs, vs, rk, hd⟩ := (show ObjOk X.prog X.w H s.heap d (.dK kvs) from hd.ok I.hok)
  obtain ⟨ep, hat⟩ := hd.dictAt
  have l1 : kvs.length = vs.length := Paired.length rk
  refine PySem.W.kdl_call (PySem.W.kdl_values (knd := mixKind X.prog X.w) (r := p) (d := d) (kvs := vs) (ep := ep)) (I.ok.hd hc) ⟨view, hat⟩ (by rw [← l1]; exact z) fun h' tk acc' c' kp e it => ?_
  refine ⟨.ref s.heap.objs.size, _, I.laid (t' := tk) (o := .lst (kvs.map (·.2))) kp (Nat.le_refl _) ?_, rfl, q _ (I.hok.fresh (Nat.le_refl _))⟩
  refine ⟨by rw [List.length_map]; exact z, acc'.toList, c', ?_, by rw [Array.toArray_toList]; exact e⟩
  have el : acc'.toList.length = acc'.size := by simp
  refine vals_of_at (by rw [List.length_map, el, it.1, l1]) fun j x w h1 h2 => ?_
  obtain ⟨k', hj⟩ := it.2 j w (by rw [← Array.getElem?_toList]; exact h2)
  rw [List.getElem?_map] at h1
  obtain ⟨⟨k2, x2⟩, g1, g2⟩ := Option.map_eq_some_iff.mp h1
  have g2 : x2 = x := g2
  subst g2
  have pr : ∀ {ks : List (Key × V)} {ws : List (Key × Value)} {j : Nat} {x : Key × V} {y : Key × Value}, KV ks ws → ks[j]? = some x → ws[j]? = some y → RelV x.2 y.2 := by
    intro ks ws j x y r
    unfold KV at r
    induction r generalizing j with
    | nil => intro h; simp at h
    | cons h t ih =>
      intro a b
      cases j with
      | zero =>
        simp at a b
        subst a b
        exact h.2
      | succ j => exact ih (j := j) (by simpa using a) (by simpa using b)
  exact pr rk g1 hj
def tDVals (td : TE) : TE := fun σ H Q => td σ H fun x H1 => ∃ (a : Addr) (kvs : List (Key × V)), x = .ref a ∧ Rd H1 a (.dK kvs) ∧ ∀ p, H1 p = none → Q (.ref p) (upd H1 p (valsO p a))
theorem pe_dvals {o : Expr} {td : TE} (ho : PE X o td) (hbase : attributeBase o "values" X.env (eval o X.env) = eval o X.env := by rfl) (hline : (apos.endLine == cpos.line) = true := by rfl) : PE X (.Call (.Attribute o "values" apos) [] [] cpos) (tDVals td) := by
  refine ⟨fun pins s σ H Q I h => ?_⟩
  refine wpAny_Call_method0_late hbase hline (thn (ho.run pins s σ H _ I h) fun v s1 ⟨x, H1, I1, r1, a, kvs, ex, ha, q⟩ => ?_)
  subst ex
  obtain rfl : v = Value.ref a := r1
  obtain ⟨z, hs, vs, rk, dof⟩ := (show ObjOk X.prog X.w H1 s1.heap a (.dK kvs) from ha.ok I1.hok)
  obtain ⟨ep, dat⟩ := dof.dictAt
  have dat' := dat
  obtain ⟨ob, es, ho, hx, hdat, hko, hpr, hnd⟩ := dat'
  refine ⟨"dict", "dict.values", PySem.F.plainAttrs_dict, PySem.F.slot_dict_values, PySem.F.type_dict_values, ⟨ob, ho, hx.1⟩, fun b e => ?_, Calls.callWith_builtin rfl (PySem.evalArgs_none ?_)⟩
  · cases e
    exact ⟨ob, ho, hx.2.1⟩
  refine call_meetsIn PySem.F.slot_dict_values ⟨ob, ho, hx.1⟩ PySem.F.entry_dict_values (PySem.F.args_dict_values_1 _) (meets_dict_values (mixKind X.prog X.w) a hs) ⟨⟨vs, dof⟩, ?_⟩
  have hf : H1 s1.heap.objs.size = none := I1.hok.fresh (Nat.le_refl _)
  exact ⟨.ref s1.heap.objs.size, upd H1 s1.heap.objs.size (valsO s1.heap.objs.size a), I1.laid (t' := s1.toks) (fun b u e => Heap.get?_push_of_some _ e) (Nat.le_refl _) (valsO_ok (Heap.get?_push_size _ rfl)), rfl, q _ hf⟩
theorem vs_reps {K : PySem.W.Frag} {F : Hp} : ∀ {kds : List (D × D)} {kvs : List (Key × V)}, RepKs K F kvs kds → Reps K F (kvs.map (·.2)) (kds.map (·.2))
  | [], kvs, h => by
    cases (show kvs = [] from h)
    rfl
  | (k, d) :: kds, kvs, ⟨key, v, r, h1, _, h2, h3⟩ => by
    subst h1
    exact ⟨_, _, rfl, h2, vs_reps h3⟩
theorem x_dvals (hm : X.mg "list" = none) (hc : X.calm = true) (hg : Gl X "list") (hv : PE X (.Name y p) (tVar i)) (hbase : attributeBase (.Name y p) "values" X.env (eval (.Name y p) X.env) = eval (.Name y p) X.env := by rfl) (hline : (apos.endLine == cpos.line) = true := by rfl)
    (he : starEach [.Call (.Attribute (.Name y p) "values" apos) [] [] cpos] X.env = (false, eval (.Call (.Attribute (.Name y p) "values" apos) [] [] cpos) X.env) :: starEach [] X.env := by rfl) (hpl : (backTo pos (starEach [] X.env)).any (·.1) = false := by rfl) :
    PE X (.Call (.Name "list" p2) [.Call (.Attribute (.Name y p) "values" apos) [] [] cpos] [] pos) (tE X.E (mDVals i)) :=
  (pe_callTy (call_list_VK hc) hg hm boot_list (pa_cons (pe_dvals hv hbase hline) pa_nil he) (by decide) (by decide) he hpl).weak fun σ H Q h => by
    obtain ⟨F, R, ε, c, ε', s, e, q⟩ := h
    unfold mDVals at e
    cases e1 : ε[i]? with
    | none => simp [e1] at e
    | some c1 =>
      cases e2 : dKs c1 with
      | none => simp [e1, e2] at e
      | some kds =>
        simp only [e1, e2, Option.bind_eq_bind, Option.bind_some] at e
        cases e
        obtain ⟨a, kvs, h1, h2, h3⟩ := s.dview e1 e2
        refine ⟨_, h1, a, kvs, rfl, h2, fun p hp => ?_⟩
        have hpa : a ≠ p := by
          rcases h2 with h2 | ⟨od, h2⟩
          · exact ne_of_none h2 hp
          · exact ne_of_none h2 hp
        refine ⟨p, a, kvs, rfl, upd_same, ?_, fun l hl => ?_⟩
        · rcases h2 with h2 | ⟨od, h2⟩
          · exact .inl (by rw [upd_ne hpa]; exact h2)
          · exact .inr ⟨od, by rw [upd_ne hpa]; exact h2⟩
        · have s2 := s.newF (u := valsO p a) hp
          have fm : Same F (upd F p (valsO p a)) := fun b u e => by
            rw [upd_ne (ne_of_none e (s.sub.free hp))]
            exact e
          exact q _ _ _ fm (s2.newL hl (Reps.mono fm _ _ (vs_reps h3)))
end
end L2.M
namespace L2.M
open PySem PySem.Spec PyProof.Rows
def mD1 (mk mv : EM) : EM := fun ε => do
  let (ck, ε1) ← mk ε
  let kd ← cD ck
  let _ ← kyD kd
  let (cv, ε2) ← mv ε1
  let d ← cD cv
  some (.dc 0 [(kd, d)], ε2)
section
variable {X : Cx} {kx vx : Expr} {pos : Pos}
theorem x_d1 {mk mv : EM} (hk : PE X kx (tE X.E mk)) (hv : PE X vx (tE X.E mv)) : PE X (.Dict [some kx] [vx] pos) (tE X.E (mD1 mk mv)) :=
  (pe_disp (pps_cons hk hv pps_nil) rfl rfl (fun z => nomatch z) (by simp)).weak fun σ H Q h => by
    obtain ⟨F, R, ε, c, ε', s, e, q⟩ := h
    unfold mD1 at e
    cases e1 : mk ε with
    | none => simp [e1] at e
    | some p1 =>
      obtain ⟨ck, ε1⟩ := p1
      cases e2 : cD ck with
      | none => simp [e1, e2] at e
      | some kd =>
        cases e3 : kyD kd with
        | none => simp [e1, e2, e3] at e
        | some key =>
          cases e4 : mv ε1 with
          | none => simp [e1, e2, e3, e4] at e
          | some p4 =>
            obtain ⟨cv, ε2⟩ := p4
            cases e5 : cD cv with
            | none => simp [e1, e2, e3, e4, e5] at e
            | some d =>
              simp only [e1, e2, e3, e4, e5, Option.bind_eq_bind, Option.bind_some] at e
              cases e
              intro p hp
              obtain ⟨R1, _, s2, bk⟩ := (s.newD hp).hide
              refine ⟨F, R1, ε, ck, ε1, s2, e1, fun x F1 H1 fm1 s3 => ?_⟩
              obtain ⟨F2, fm2, r2, s4⟩ := s3.freeze e2
              obtain ⟨ex, ek⟩ := ky_rep e3 r2
              refine ⟨F2, R1, ε1, cv, ε', s4, e4, fun z F3 H3 fm3 s5 => ?_⟩
              obtain ⟨F4, fm4, r4, s6⟩ := s5.freeze e5
              have s7 := bk F4 H3 σ ε' [] (((fm1.trans fm2).trans fm3).trans fm4) s6
              have hp3 : H3 p = some (.dK []) := by
                obtain ⟨_, _, _, ⟨fs, gs, _, ⟨o, r0, f, fr, q1, q2, ⟨b, q3, q4, kvs, q5, q6⟩, _⟩, _, _⟩⟩ := id s7
                obtain ⟨rfl, rfl⟩ := List.cons.inj q1
                cases q3
                cases (show kvs = [] from q6)
                exact q5
              have s8 := s7.wrD (kvs := [(key, z)]) (eds := [(kd, d)]) ⟨key, z, [], rfl, ek, r4, rfl⟩
              refine ⟨hp3, [(key, z)], by rw [ex]; rfl, by simp, ?_⟩
              exact q (.ref p) F4 _ (((fm1.trans fm2).trans fm3).trans fm4) s8
end
end L2.M
namespace KW
open PySem PySem.Spec PyProof.Rows L2 L2.M
theorem at_nn {α : Type} {xs : List α} {i : Int} (h : 0 ≤ i) : atI xs i = xs[i.toNat]? := by
  unfold atI ixN
  rw [if_pos h]
  by_cases k : i.toNat < xs.length
  · rw [if_pos (by omega)]; rfl
  · rw [if_neg (by omega)]
    rw [List.getElem?_eq_none (by omega)]
    rfl
theorem at_lit {α : Type} {xs : List α} {n : Nat} : atI xs (no_index (OfNat.ofNat n) : Int) = xs[n]? := at_nn (Int.natCast_nonneg n)
theorem at_nat {α : Type} {xs : List α} {n : Nat} : atI xs (n : Int) = xs[n]? := at_nn (Int.natCast_nonneg n)
theorem at_neg {α : Type} {xs : List α} {n : Nat} (h : 0 < n) : atI xs (-(n : Int)) = if n ≤ xs.length then xs[xs.length - n]? else none := by
  unfold atI ixN
  rw [if_neg (by omega)]
  by_cases k : n ≤ xs.length
  · rw [if_pos (by omega), if_pos k]
    have : (-(n : Int) + (xs.length : Int)).toNat = xs.length - n := by omega
    simp [this]
  · rw [if_neg (by omega), if_neg k]
    rfl
theorem at_m1 {α : Type} {xs : List α} : atI xs (-1) = xs.getLast? := by
  have := at_neg (xs := xs) (n := 1) (by decide)
  rw [show (-1 : Int) = -((1 : Nat) : Int) by rfl, this]
  cases xs with
  | nil => rfl
  | cons x xs => simp [List.getLast?_eq_getElem?]
theorem at_m2 {α : Type} {xs : List α} : atI xs (-2) = if 2 ≤ xs.length then xs[xs.length - 2]? else none := by
  rw [show (-2 : Int) = -((2 : Nat) : Int) by rfl, at_neg (by decide)]
theorem bq_int (i j : Int) : (i == j) = decide (i = j) := by
  by_cases h : i = j <;> simp [h]
theorem bq_str (i j : Str) : (i == j) = decide (i = j) := by
  by_cases h : i = j <;> simp [h]
theorem ofs_inj (a b : String) : (Str.ofString a = Str.ofString b) = (a = b) := by
  apply propext
  constructor
  · intro h
    rw [Str.ofString_eq_toList, Str.ofString_eq_toList] at h
    have h1 : (a.toList.map Char.toNat).toArray = (b.toList.map Char.toNat).toArray := congrArg Str.cps h
    have h2 : a.toList.map Char.toNat = b.toList.map Char.toNat := by simpa using h1
    have h3 : a.toList = b.toList := List.map_inj_right (fun x y h => Char.toNat_inj.mp h) |>.mp h2
    exact String.toList_inj.mp h3
  · rintro rfl
    rfl
theorem ee_ii (i j : Int) : PyData.eqv (.int i) (.int j) = decide (i = j) := by simp only [PyData.eqv]; exact bq_int i j
theorem ee_ss (i j : Str) : PyData.eqv (.str i) (.str j) = decide (i = j) := by simp only [PyData.eqv]; exact bq_str i j
theorem ee_bb (i j : Bool) : PyData.eqv (.bool i) (.bool j) = decide (i = j) := by cases i <;> cases j <;> rfl
theorem ee_nn : PyData.eqv .none .none = true := rfl
theorem ee_is (i : Int) (j : Str) : PyData.eqv (.int i) (.str j) = false := rfl
theorem ee_si (i : Int) (j : Str) : PyData.eqv (.str j) (.int i) = false := rfl
theorem ee_in (i : Int) : PyData.eqv (.int i) .none = false := rfl
theorem ee_ni (i : Int) : PyData.eqv .none (.int i) = false := rfl
theorem ee_tt (xs ys : List PyData) : PyData.eqv (.tuple xs) (.tuple ys) = PyData.eqvAll xs ys := by simp only [PyData.eqv]
theorem ee_ll (xs ys : List PyData) : PyData.eqv (.list xs) (.list ys) = PyData.eqvAll xs ys := by simp only [PyData.eqv]
theorem ee_0 : PyData.eqvAll [] [] = true := rfl
theorem ee_1 (x y : PyData) (xs ys : List PyData) : PyData.eqvAll (x :: xs) (y :: ys) = (PyData.eqv x y && PyData.eqvAll xs ys) := by simp only [PyData.eqvAll]
theorem ee_2 (x : PyData) (xs : List PyData) : PyData.eqvAll (x :: xs) [] = false := rfl
theorem ee_3 (x : PyData) (xs : List PyData) : PyData.eqvAll [] (x :: xs) = false := rfl
theorem ee_maps (xs ys : List Int) : PyData.eqvAll (xs.map .int) (ys.map .int) = decide (xs = ys) := by
  induction xs generalizing ys with
  | nil => cases ys <;> simp [ee_0, ee_3]
  | cons x xs ih => cases ys <;> simp [ee_1, ee_2, ih, ee_ii]
structure Pn where
  l : Int
  b : Int
  s : Int
def penL (p : Pn) : List PyData := [.int p.l, .int p.b, .int p.s]
def nxt (s : Int) : Int := ((s + 7919) % 2147483647 * ((s + 7919) % 2147483647) + 48271 * ((s + 7919) % 2147483647) + 12345) % 2147483629
def pnOf (x : Int) : Pn := ⟨if 0 - x > x then 0 - x else x, if (10 : Int) ^ 18 ≤ (if 0 - x > x then 0 - x else x) then 1 else 0, (if 0 - x > x then 0 - x else x) % 1000003⟩
def dr (p : Pn) (n : Int) : Int := if p.b = 1 ∧ 0 < p.l then p.l % n else nxt (nxt p.s + 7) / 64 % n
def dn (p : Pn) (n : Int) : Pn := if p.b = 1 ∧ 0 < p.l then ⟨p.l / n, p.b, p.s⟩ else ⟨p.l, p.b, nxt (nxt p.s + 7)⟩
theorem dr_nn {p : Pn} {n : Int} (h : 0 < n) : 0 ≤ dr p n := by
  unfold dr
  split <;> exact Int.emod_nonneg _ (by omega)
theorem dr_lt {p : Pn} {n : Int} (h : 0 < n) : dr p n < n := by
  unfold dr
  split <;> exact Int.emod_lt_of_pos _ h
theorem dr_ab (p : Pn) (n : Int) (h : 0 < n) : 0 ≤ dr p n ∧ dr p n < n := ⟨dr_nn h, dr_lt h⟩
theorem dr_a2 (p : Pn) (n : Int) : 0 < n → 0 ≤ dr p n ∧ dr p n < n := fun h => ⟨dr_nn h, dr_lt h⟩
grind_pattern dr_a2 => dr p n
/-- the item of a list of whole numbers -/
def gt (xs : List Int) (i : Int) : Int := xs.getD i.toNat 0
theorem gt_mem {xs : List Int} {i : Int} (h0 : 0 ≤ i) (h1 : i < xs.length) : gt xs i ∈ xs := by
  unfold gt
  rw [List.getD_eq_getElem?_getD, List.getElem?_eq_getElem (by omega)]
  simp
theorem pk {xs : List Int} {ds : List PyData} {i : Int} (e : ds = xs.map PyData.int) (h0 : 0 ≤ i) (h1 : i < xs.length) : atI ds i = some (.int (gt xs i)) := by
  subst e
  have : i.toNat < xs.length := by omega
  rw [at_nn h0]
  simp [gt, this]
theorem pk3 {a b c i : Int} (h0 : 0 ≤ i) (h1 : i < 3) : atI ([.int a, .int b, .int c] : List PyData) i = some (.int (gt [a, b, c] i)) := pk rfl h0 h1
theorem pkd3 {a b c : Int} {p : Pn} : atI ([.int a, .int b, .int c] : List PyData) (dr p 3) = some (.int (gt [a, b, c] (dr p 3))) := pk3 (dr_nn (by decide)) (dr_lt (by decide))
theorem gd3 {a b c : Int} {p : Pn} {P : Int → Prop} (H : P a ∧ P b ∧ P c) : P (gt [a, b, c] (dr p 3)) := by
  have m := gt_mem (xs := [a, b, c]) (i := dr p 3) (dr_nn (by decide)) (dr_lt (by decide))
  simp only [List.mem_cons, List.not_mem_nil, or_false] at m
  obtain ⟨h0, h1, h2⟩ := H
  rcases m with e | e | e <;> (rw [e]; assumption)
def Wx (x : Option (Fl × Cs)) (Q : Fl → Cs → Prop) : Prop := ∃ f ε, x = some (f, ε) ∧ Q f ε
def Rt (x : Option (C × List C)) (P : C → List C → Prop) : Prop := ∃ c cs, x = some (c, cs) ∧ P c cs
def endQ (io : List Bool) (cs : List C) (P : C → List C → Prop) : Fl → Cs → Prop
  | .rt c, ε => P c (after io cs ε)
  | .nx, ε => P (.sh .none) (after io cs ε)
  | _, _ => False
theorem rt_eq {x : Option (C × List C)} {c : C} {cs : List C} (h : Rt x fun c' cs' => c' = c ∧ cs' = cs) : x = some (c, cs) := by
  obtain ⟨_, _, e, rfl, rfl⟩ := h
  exact e
theorem wx_nx {m n : XM} {ε ε1 : Cs} {Q : Fl → Cs → Prop} (h : m ε = some (.nx, ε1)) (h2 : Wx (n ε1) Q) : Wx (mSeq m n ε) Q := by
  unfold mSeq
  rw [h]
  exact h2
theorem wx_rt {m n : XM} {ε ε1 : Cs} {c : C} {Q : Fl → Cs → Prop} (h : m ε = some (.rt c, ε1)) (h2 : Q (.rt c) ε1) : Wx (mSeq m n ε) Q := by
  unfold mSeq
  rw [h]
  exact ⟨_, _, rfl, h2⟩
theorem wx_seq {m n : XM} {ε : Cs} {Q : Fl → Cs → Prop} (h : Wx (m ε) fun f ε1 => match f with | .nx => Wx (n ε1) Q | f => Q f ε1) : Wx (mSeq m n ε) Q := by
  obtain ⟨f, ε1, e, q⟩ := h
  unfold mSeq
  rw [e]
  cases f with
  | nx => exact q
  | bk => exact ⟨_, _, rfl, q⟩
  | ct => exact ⟨_, _, rfl, q⟩
  | rt c => exact ⟨_, _, rfl, q⟩
  | xc x => exact ⟨_, _, rfl, q⟩
theorem wx_skip {ε : Cs} {Q : Fl → Cs → Prop} (h : Q .nx ε) : Wx (mSkip ε) Q := ⟨_, _, rfl, h⟩
/-- an if ahead of the rest -/
theorem wx_ifs {t : TM} {m n r : XM} {ε ε1 : Cs} {b : Bool} {Q : Fl → Cs → Prop} (h : t ε = some (b, ε1)) (h1 : b = true → Wx (mSeq m r ε1) Q) (h2 : b = false → Wx (mSeq n r ε1) Q) : Wx (mSeq (mIf t m n) r ε) Q := by
  have e : mIf t m n ε = if b then m ε1 else n ε1 := by
    unfold mIf
    rw [h]
    rfl
  unfold mSeq
  rw [e]
  cases b with
  | true => exact h1 rfl
  | false => exact h2 rfl
theorem wx_in {m n r : XM} {ε : Cs} {Q : Fl → Cs → Prop} (h : Wx (mSeq m (mSeq n r) ε) Q) : Wx (mSeq (mSeq m n) r ε) Q := by
  unfold mSeq at h ⊢
  revert h
  cases m ε with
  | none => exact id
  | some p =>
    obtain ⟨f, ε1⟩ := p
    cases f <;> exact id
theorem wx_sk {r : XM} {ε : Cs} {Q : Fl → Cs → Prop} (h : Wx (r ε) Q) : Wx (mSeq mSkip r ε) Q := h
theorem rt_sem {io : List Bool} {ns : Nat} {m : XM} {cs : List C} {P : C → List C → Prop} (hs : shared io cs = true) (h : Wx (m (cs ++ List.replicate (ns - cs.length) .no)) (endQ io cs P)) : Rt (semF io ns m cs) P := by
  obtain ⟨f, ε, e, q⟩ := h
  unfold semF
  rw [if_pos hs, e]
  cases f with
  | nx => exact ⟨_, _, rfl, q⟩
  | bk => exact q.elim
  | ct => exact q.elim
  | rt c => exact ⟨_, _, rfl, q⟩
  | xc x => exact q.elim
/-- a loop, by what holds ahead of each round -/
theorem wx_for {io : List Nat} {src : SM} {bind : BM} {body : XM} {ε ε1 : Cs} {ds : List PyData} {ws : List Nat} {Q : Fl → Cs → Prop} (J : Nat → Cs → Prop) (hs : src ε = some ((ds, ws), ε1)) (hw : ws.all (fun i => io.contains i) = true)
    (h0 : J 0 ε1) (hJ : ∀ i ε2, J i ε2 → sameC ws ε1 ε2) (hstep : ∀ i d ε2, ds[i]? = some d → J i ε2 → ∃ ε3, bind d ε2 = some ε3 ∧ Wx (body ε3) fun f ε4 => match f with
      | .nx => J (i + 1) ε4
      | .ct => J (i + 1) ε4
      | .bk => Q .nx ε4
      | .rt c => Q (.rt c) ε4
      | .xc x => Q (.xc x) ε4) (hend : ∀ ε2, J ds.length ε2 → Q .nx ε2) : Wx (mFor io src bind body ε) Q := by
  unfold mFor
  simp only [hs, Option.bind_eq_bind, Option.bind_some, hw, if_true]
  have main : ∀ (l : List PyData) (i : Nat) (ε2 : Cs), ds.drop i = l → i ≤ ds.length → J i ε2 → Wx (forL ws ε1 bind body l ε2) Q := by
    intro l
    induction l with
    | nil =>
      intro i ε2 hl hi hj
      unfold forL
      rw [if_pos (hJ i ε2 hj)]
      have : i = ds.length := by
        have := List.drop_eq_nil_iff.mp hl
        omega
      subst this
      exact ⟨_, _, rfl, hend _ hj⟩
    | cons d l ih =>
      intro i ε2 hl hi hj
      unfold forL
      rw [if_pos (hJ i ε2 hj)]
      have hd : ds[i]? = some d := by
        have := congrArg (fun x => x[0]?) hl
        simpa using this
      obtain ⟨ε3, e3, f, ε4, e4, q⟩ := hstep i d ε2 hd hj
      have hi' : i + 1 ≤ ds.length := (List.getElem?_eq_some_iff.mp hd).1
      have hl' : ds.drop (i + 1) = l := by
        rw [← List.drop_drop, hl]
        rfl
      simp only [e3, e4, Option.bind_eq_bind, Option.bind_some]
      cases f with
      | nx => exact ih (i + 1) ε4 hl' hi' q
      | ct => exact ih (i + 1) ε4 hl' hi' q
      | bk => exact ⟨_, _, rfl, q⟩
      | rt c => exact ⟨_, _, rfl, q⟩
      | xc x => exact ⟨_, _, rfl, q⟩
  exact main ds 0 ε1 rfl (Nat.zero_le _) h0
/-- a loop whose source is no locked list: each item is known by its membership -/
theorem wx_each {io : List Nat} {src : SM} {bind : BM} {body : XM} {ε ε1 : Cs} {ds : List PyData} {Q : Fl → Cs → Prop} (J : Cs → Prop) (hs : src ε = some ((ds, []), ε1))
    (h0 : J ε1) (hstep : ∀ d ε2, d ∈ ds → J ε2 → ∃ ε3, bind d ε2 = some ε3 ∧ Wx (body ε3) fun f ε4 => match f with
      | .nx => J ε4
      | .ct => J ε4
      | .bk => Q .nx ε4
      | .rt c => Q (.rt c) ε4
      | .xc x => Q (.xc x) ε4) (hend : ∀ ε2, J ε2 → Q .nx ε2) : Wx (mFor io src bind body ε) Q :=
  wx_for (fun _ => J) hs rfl h0 (fun i ε hj j hj2 => by cases hj2) (fun i d ε2 hd hj => hstep d ε2 (List.mem_of_getElem? hd) hj) hend
/-- while, by a measure -/
theorem wx_while {t : TM} {b : XM} {ε : Cs} {Q : Fl → Cs → Prop} (J : Nat → Cs → Prop) (n : Nat) (h0 : J n ε)
    (hstep : ∀ n ε2, J n ε2 → ∃ k ε3, t ε2 = some (k, ε3) ∧ (k = false → Q .nx ε3) ∧ (k = true → Wx (b ε3) fun f ε4 => match f with
      | .nx => ∃ n', n' < n ∧ J n' ε4
      | .ct => ∃ n', n' < n ∧ J n' ε4
      | .bk => Q .nx ε4
      | .rt c => Q (.rt c) ε4
      | .xc x => Q (.xc x) ε4)) : Wx (mWhile t b ε) Q := by
  have main : ∀ (n : Nat) (ε : Cs), J n ε → ∃ m r, whileN t b m ε = some r ∧ Q r.1 r.2 := by
    intro n
    induction n using Nat.strongRecOn with
    | ind n ih =>
      intro ε hj
      obtain ⟨k, ε3, e3, hf, ht⟩ := hstep n ε hj
      cases k with
      | false => exact ⟨1, (.nx, ε3), by simp [whileN, e3], hf rfl⟩
      | true =>
        obtain ⟨f, ε4, e4, q⟩ := ht rfl
        cases f with
        | nx =>
          obtain ⟨n', hn, hj'⟩ := q
          obtain ⟨m, r, e5, q5⟩ := ih n' hn ε4 hj'
          exact ⟨m + 1, r, by simp [whileN, e3, e4, e5], q5⟩
        | ct =>
          obtain ⟨n', hn, hj'⟩ := q
          obtain ⟨m, r, e5, q5⟩ := ih n' hn ε4 hj'
          exact ⟨m + 1, r, by simp [whileN, e3, e4, e5], q5⟩
        | bk => exact ⟨1, (.nx, ε4), by simp [whileN, e3, e4], q⟩
        | rt c => exact ⟨1, (.rt c, ε4), by simp [whileN, e3, e4], q⟩
        | xc x => exact ⟨1, (.xc x, ε4), by simp [whileN, e3, e4], q⟩
  obtain ⟨m, r, e, q⟩ := main n ε h0
  exact ⟨r.1, r.2, mWhile_of e, q⟩
/-- a comprehension, by what holds ahead of each item -/
theorem lc_rule {src : SM} {bind : BM} {tests : TM} {elt : EM} {own ws : List Nat} {ε ε1 : Cs} {ds : List PyData} (J : Nat → List PyData → Cs → Prop) (hs : src ε = some ((ds, ws), ε1)) (hw : ws.all (fun i => !own.contains i) = true)
    (h0 : J 0 [] (wipeC ε1 own)) (hJ : ∀ i out ε2, J i out ε2 → sameC ws ε1 ε2) (hn : ds.length ≤ sizeLine)
    (hstep : ∀ i d out ε2, ds[i]? = some d → J i out ε2 → ∃ ε3 b ε4, bind d ε2 = some ε3 ∧ tests ε3 = some (b, ε4) ∧ (b = false → J (i + 1) out (wipeC ε4 own)) ∧
      (b = true → ∃ c e ε5, elt ε4 = some (c, ε5) ∧ cD c = some e ∧ J (i + 1) (out ++ [e]) (wipeC ε5 own))) :
    ∃ out ε2, mLc src bind tests elt own ε = some (.ls out, restC ε2 ε1 own) ∧ J ds.length out ε2 := by
  have main : ∀ (l : List PyData) (i : Nat) (acc : List PyData) (ε2 : Cs), ds.drop i = l → i ≤ ds.length → acc.length ≤ i → J i acc ε2 → ∃ out ε3, lcL ws ε1 bind tests elt own l acc.length ε2 = some (out, ε3) ∧ J ds.length (acc ++ out) ε3 := by
    intro l
    induction l with
    | nil =>
      intro i acc ε2 hl hi ha hj
      have : i = ds.length := by
        have := List.drop_eq_nil_iff.mp hl
        omega
      subst this
      refine ⟨[], ε2, ?_, by simpa using hj⟩
      unfold lcL
      rw [if_pos (hJ _ _ _ hj)]
    | cons d l ih =>
      intro i acc ε2 hl hi ha hj
      have hd : ds[i]? = some d := by
        have := congrArg (fun x => x[0]?) hl
        simpa using this
      have hi' : i + 1 ≤ ds.length := (List.getElem?_eq_some_iff.mp hd).1
      have hl' : ds.drop (i + 1) = l := by
        rw [← List.drop_drop, hl]
        rfl
      obtain ⟨ε3, b, ε4, e3, e4, hf, ht⟩ := hstep i d acc ε2 hd hj
      unfold lcL
      rw [if_pos (hJ _ _ _ hj)]
      cases b with
      | false =>
        obtain ⟨out, ε6, e6, j6⟩ := ih (i + 1) acc _ hl' hi' (by omega) (hf rfl)
        exact ⟨out, ε6, by simp [e3, e4, e6], j6⟩
      | true =>
        obtain ⟨c, e, ε5, e5, ec, j5⟩ := ht rfl
        obtain ⟨out, ε6, e6, j6⟩ := ih (i + 1) (acc ++ [e]) _ hl' hi' (by simp; omega) j5
        refine ⟨e :: out, ε6, ?_, by simpa using j6⟩
        have hlt : acc.length < sizeLine := by omega
        have e6' : lcL ws ε1 bind tests elt own l (acc.length + 1) (wipeC ε5 own) = some (out, ε6) := by simpa using e6
        simp [e3, e4, e5, ec, hlt, e6']
  obtain ⟨out, ε3, e, j⟩ := main ds 0 [] _ rfl (Nat.zero_le _) (Nat.le_refl _) h0
  refine ⟨out, ε3, ?_, by simpa using j⟩
  unfold mLc
  have e' : lcL ws ε1 bind tests elt own ds 0 (wipeC ε1 own) = some (out, ε3) := by simpa using e
  simp only [hs, Option.bind_eq_bind, Option.bind_some, hw, if_true, e']
theorem cut_map {α β : Type} (f : α → β) (xs : List α) (lo hi : Option Int) : L2.M.cutL (xs.map f) lo hi = (L2.M.cutL xs lo hi).map f := by
  unfold L2.M.cutL
  simp [List.map_take, List.map_drop]
theorem cut_len {α : Type} (xs : List α) (lo hi : Option Int) : (L2.M.cutL xs lo hi).length ≤ xs.length := by
  unfold L2.M.cutL
  simp only [List.length_take, List.length_drop]
  omega
@[simp] def whole : PyData → Bool
  | .int _ => true
  | _ => false
def num (d : PyData) (lo hi : Int) : Bool := match d with
  | .int i => decide (lo ≤ i) && decide (i ≤ hi)
  | _ => false
def lay (n : Nat) (d : PyData) : Bool := d.canLay0 && decide (d.depth ≤ n)
theorem shaped_lay (d : PyData) : SeqAt.shaped d = lay 64 d := rfl
theorem lay_int (n : Nat) (i : Int) : lay n (.int i) = true := by simp [lay, PyData.canLay0, PyData.depth]
theorem lay_bool (n : Nat) (i : Bool) : lay n (.bool i) = true := by simp [lay, PyData.canLay0, PyData.depth]
theorem lay_none (n : Nat) : lay n .none = true := by simp [lay, PyData.canLay0, PyData.depth]
theorem lay_dict (n : Nat) (s : List (PyData × PyData)) : lay n (.dict s) = false := by simp [lay, PyData.canLay0]
theorem lay_all (n : Nat) : ∀ ds : List PyData, (PyData.canLayAll0 ds && decide (PyData.depthAll ds ≤ n)) = ds.all (lay n)
  | [] => by simp [PyData.canLayAll0, PyData.depthAll]
  | d :: ds => by
    have ih := lay_all n ds
    simp only [PyData.canLayAll0, PyData.depthAll, List.all_cons, ← ih, lay]
    by_cases h1 : d.canLay0 = true <;> by_cases h2 : PyData.canLayAll0 ds = true <;> by_cases h3 : d.depth ≤ n <;> by_cases h4 : PyData.depthAll ds ≤ n <;> simp [h1, h2, h3, h4, Nat.max_le]
theorem lay_tup {n : Nat} (ds : List PyData) (h : 0 < n) : lay n (.tuple ds) = ds.all (lay (n - 1)) := by
  rw [← lay_all]
  simp only [lay, PyData.canLay0, PyData.depth]
  have : (PyData.depthAll ds + 1 ≤ n) = (PyData.depthAll ds ≤ n - 1) := by
    apply propext
    omega
  simp only [this]
theorem lay_list {n : Nat} (ds : List PyData) (h : 0 < n) : lay n (.list ds) = ds.all (lay (n - 1)) := by
  rw [← lay_all]
  simp only [lay, PyData.canLay0, PyData.depth]
  have : (PyData.depthAll ds + 1 ≤ n) = (PyData.depthAll ds ≤ n - 1) := by
    apply propext
    omega
  simp only [this]
theorem lay_ints (n : Nat) (ns : List Int) : (ns.map PyData.int).all (lay n) = true := by
  simp [List.all_map, lay_int]
theorem lay_mono {n m : Nat} {d : PyData} (h : n ≤ m) (l : lay n d = true) : lay m d = true := by
  simp only [lay, Bool.and_eq_true, decide_eq_true_eq] at l ⊢
  exact ⟨l.1, Nat.le_trans l.2 h⟩
end KW
namespace KW
open PySem PySem.Spec PyProof.Rows L2 L2.M
local macro_rules | `(tactic| walk_at "ev") => `(tactic| simp [semF, shared, after, mSeq, mSkip, mIf, mRet, mRetN, mRetV, mSet, mSetIx, mExpr, mB, mU, mTm, mPl, mK, mVar, mOp, mCons, mNil, bor, bors, mTst, mAndT, mOrT, mNotT, mAndE, mOrE, mNotE, mIfE, mIsi, isiD, mChn, chnL, cmpD, binD, addD, subD, mulD, modD, fdivD, powD, eqD, neD, ltD, leD, gtD, geD, isD, isnD, L2.M.isNon, negD, ixD, Bf.f, Bg.f, lenD, L2.M.intD, maxD, minD, repD, strD, gmaxD, gminD, sumD, sortD, anyD, allD, mCall, frz, fzO, lend, wb, mTup, mLst, fzs, cD, mAsg, bTup, bTps, mApp, tupD, lstD, mRev, revD, ofs_inj, ee_ii, ee_ss, ee_bb, ee_nn, ee_is, ee_si, ee_in, ee_ni, ee_tt, ee_ll, ee_maps, ee_0, ee_1, ee_2, ee_3, at_lit, at_nat, at_m1, at_m2, scD, emD, sizeLine_eq, ixN, sm_lit, mSrc, itemsD, plOf, rng1D, bNm, mSl, mPt, mNoP, slD, mPar, keepT, tmsO, setA, mFlow, zipX, enumX, itemsX, intsOf, ints_all, boolsOf, shaped_lay, lay_int, lay_bool, lay_none, lay_dict, lay_tup, lay_list, lay_ints, sortX_ints, mPlF, mPlI, mRd, mPU, mPB, mFSet, mFNew, mNSet, mPApp, mPSetIx, mPPop, mMeth, mNew, isIns, cellO, mLstN, mAddN, mAppN, semX, mTold, mCallX, xRet, xExpr, xSet, mRaise, mM, isL, isS, mOrV, truD])
local macro_rules | `(tactic| walk_at "es") => `(tactic| simp [semF, shared, after, mSeq, mSkip, mIf, mRet, mRetN, mRetV, mSet, mSetIx, mExpr, mB, mU, mTm, mPl, mK, mVar, mOp, mCons, mNil, bor, bors, mTst, mAndT, mOrT, mNotT, mAndE, mOrE, mNotE, mIfE, mIsi, isiD, mChn, chnL, cmpD, binD, addD, subD, mulD, modD, fdivD, powD, eqD, neD, ltD, leD, gtD, geD, isD, isnD, L2.M.isNon, negD, ixD, Bf.f, Bg.f, lenD, L2.M.intD, maxD, minD, repD, strD, gmaxD, gminD, sumD, sortD, anyD, allD, mCall, frz, fzO, lend, wb, mTup, mLst, fzs, cD, mAsg, bTup, bTps, mApp, tupD, lstD, mRev, revD, ofs_inj, ee_ii, ee_ss, ee_bb, ee_nn, ee_is, ee_si, ee_in, ee_ni, ee_tt, ee_ll, ee_maps, ee_0, ee_1, ee_2, ee_3, at_lit, at_nat, at_m1, at_m2, scD, emD, sizeLine_eq, ixN, sm_lit, mSrc, itemsD, plOf, rng1D, bNm, mSl, mPt, mNoP, slD, mPar, keepT, tmsO, setA, mFlow, zipX, enumX, itemsX, intsOf, ints_all, boolsOf, shaped_lay, lay_int, lay_bool, lay_none, lay_dict, lay_tup, lay_list, lay_ints, sortX_ints, mPlF, mPlI, mRd, mPU, mPB, mFSet, mFNew, mNSet, mPApp, mPSetIx, mPPop, mMeth, mNew, isIns, cellO, mLstN, mAddN, mAppN, semX, mTold, mCallX, xRet, xExpr, xSet, mRaise, mM, isL, isS, mOrV, truD, *])
local macro_rules | `(tactic| walk_at "el") => `(tactic| simp [semF, shared, after, mSeq, mSkip, mIf, mRet, mRetN, mRetV, mSet, mSetIx, mExpr, mB, mU, mTm, mPl, mK, mVar, mOp, mCons, mNil, bor, bors, mTst, mAndT, mOrT, mNotT, mAndE, mOrE, mNotE, mIfE, mIsi, isiD, mChn, chnL, cmpD, binD, addD, subD, mulD, modD, fdivD, powD, eqD, neD, ltD, leD, gtD, geD, isD, isnD, L2.M.isNon, negD, ixD, Bf.f, Bg.f, lenD, L2.M.intD, maxD, minD, repD, strD, gmaxD, gminD, sumD, sortD, anyD, allD, mCall, frz, fzO, lend, wb, mTup, mLst, fzs, cD, mAsg, bTup, bTps, mApp, tupD, lstD, mRev, revD, ofs_inj, ee_ii, ee_ss, ee_bb, ee_nn, ee_is, ee_si, ee_in, ee_ni, ee_tt, ee_ll, ee_maps, ee_0, ee_1, ee_2, ee_3, at_lit, at_nat, at_m1, at_m2, scD, emD, sizeLine_eq, ixN, sm_lit, mSrc, itemsD, plOf, rng1D, bNm, mSl, mPt, mNoP, slD, mPar, keepT, tmsO, setA, mFlow, zipX, enumX, itemsX, intsOf, ints_all, boolsOf, shaped_lay, lay_int, lay_bool, lay_none, lay_dict, lay_tup, lay_list, lay_ints, sortX_ints, mPlF, mPlI, mRd, mPU, mPB, mFSet, mFNew, mNSet, mPApp, mPSetIx, mPPop, mMeth, mNew, isIns, cellO, mLstN, mAddN, mAppN, semX, mTold, mCallX, xRet, xExpr, xSet, mRaise, mM, isL, isS, mOrV, truD, mLc, lcL, sameC, wipeC, restC, mYes, *])
local macro_rules | `(tactic| walk_at "ef") => `(tactic| simp [semF, shared, after, mSeq, mSkip, mIf, mRet, mRetN, mRetV, mSet, mSetIx, mExpr, mB, mU, mTm, mPl, mK, mVar, mOp, mCons, mNil, bor, bors, mTst, mAndT, mOrT, mNotT, mAndE, mOrE, mNotE, mIfE, mIsi, isiD, mChn, chnL, cmpD, binD, addD, subD, mulD, modD, fdivD, powD, eqD, neD, ltD, leD, gtD, geD, isD, isnD, L2.M.isNon, negD, ixD, Bf.f, Bg.f, lenD, L2.M.intD, maxD, minD, repD, strD, gmaxD, gminD, sumD, sortD, anyD, allD, mCall, frz, fzO, lend, wb, mTup, mLst, fzs, cD, mAsg, bTup, bTps, mApp, tupD, lstD, mRev, revD, ofs_inj, ee_ii, ee_ss, ee_bb, ee_nn, ee_is, ee_si, ee_in, ee_ni, ee_tt, ee_ll, ee_maps, ee_0, ee_1, ee_2, ee_3, at_lit, at_nat, at_m1, at_m2, scD, emD, sizeLine_eq, ixN, sm_lit, mSrc, itemsD, plOf, rng1D, bNm, mSl, mPt, mNoP, slD, mPar, keepT, tmsO, setA, mFlow, zipX, enumX, itemsX, intsOf, ints_all, boolsOf, shaped_lay, lay_int, lay_bool, lay_none, lay_dict, lay_tup, lay_list, lay_ints, sortX_ints, mPlF, mPlI, mRd, mPU, mPB, mFSet, mFNew, mNSet, mPApp, mPSetIx, mPPop, mMeth, mNew, isIns, cellO, mLstN, mAddN, mAppN, semX, mTold, mCallX, xRet, xExpr, xSet, mRaise, mM, isL, isS, mOrV, truD, mFor, forL, mLc, lcL, sameC, wipeC, restC, mYes, *])
local macro_rules | `(tactic| walk_at "rg") => `(tactic| (and_intros <;> grind))
local macro_rules | `(tactic| walk_at "nx") => `(tactic| (apply wx_nx; focus (walk_at "ev"; try first | exact ⟨rfl, rfl⟩ | rfl)))
local macro_rules | `(tactic| walk_at "ns") => `(tactic| (apply wx_nx; focus (walk_at "es"; try first | exact ⟨rfl, rfl⟩ | rfl)))
local macro_rules | `(tactic| walk_at "rt") => `(tactic| (apply wx_rt; focus (walk_at "ev"; try first | exact ⟨rfl, rfl⟩ | rfl)))
local macro_rules | `(tactic| walk_at "rs") => `(tactic| (apply wx_rt; focus (walk_at "es"; try first | exact ⟨rfl, rfl⟩ | rfl)))
local macro_rules | `(tactic| walk_at "ed") => `(tactic| simp [semF, shared, after, mSeq, mSkip, mIf, mRet, mRetN, mRetV, mSet, mSetIx, mExpr, mB, mU, mTm, mPl, mK, mVar, mOp, mCons, mNil, bor, bors, mTst, mAndT, mOrT, mNotT, mAndE, mOrE, mNotE, mIfE, mIsi, isiD, mChn, chnL, cmpD, binD, addD, subD, mulD, modD, fdivD, powD, eqD, neD, ltD, leD, gtD, geD, isD, isnD, L2.M.isNon, negD, ixD, Bf.f, Bg.f, lenD, L2.M.intD, maxD, minD, repD, strD, gmaxD, gminD, sumD, sortD, anyD, allD, mCall, frz, fzO, lend, wb, mTup, mLst, fzs, cD, mAsg, bTup, bTps, mApp, tupD, lstD, mRev, revD, ofs_inj, ee_ii, ee_ss, ee_bb, ee_nn, ee_is, ee_si, ee_in, ee_ni, ee_tt, ee_ll, ee_maps, ee_0, ee_1, ee_2, ee_3, at_lit, at_nat, at_m1, at_m2, scD, emD, sizeLine_eq, ixN, sm_lit, mSrc, itemsD, plOf, rng1D, bNm, mSl, mPt, mNoP, slD, mPar, keepT, tmsO, setA, mFlow, zipX, enumX, itemsX, intsOf, ints_all, boolsOf, shaped_lay, lay_int, lay_bool, lay_none, lay_dict, lay_tup, lay_list, lay_ints, sortX_ints, mPlF, mPlI, mRd, mPU, mPB, mFSet, mFNew, mNSet, mPApp, mPSetIx, mPPop, mMeth, mNew, isIns, cellO, mLstN, mAddN, mAppN, semX, mTold, mCallX, xRet, xExpr, xSet, mRaise, mM, isL, isS, mOrV, truD, mDNew, mDIn, mDGet, mDLen, mDPut, kyD, mNNew, mN1, mTake, mFnV, mCallF, mNIn, mNGet, mNPut, mNVals, mNList, nKs, mDGetD, mDList, mNNe, *])
section
variable {m n : EM} {ε ε1 ε2 : Cs} {c c1 c2 c' : C} {d d1 d2 : PyData} {io : List Nat} {i : Nat} {b : Bool}
theorem e_ret (h : m ε = some (c, ε1)) : mRet m ε = some (.rt c, ε1) := by simp [mRet, h]
theorem e_set (h : m ε = some (c, ε1)) (hi : i < ε1.length) (hio : i ∉ io) : mSet io i m ε = some (.nx, ε1.set i c) := by simp [mSet, h, hi, hio]
theorem e_op1 {f : List PyData → Option C} (h : m ε = some (c, ε1)) (hd : cD c = some d) (hf : f [d] = some c') : mOp f (mCons (mTm m) mNil) ε = some (c', ε1) := by
  cases c <;> simp [cD] at hd <;> subst hd <;> simp [mOp, mCons, mTm, mNil, h, bors, bor, hf]
end
theorem set_back {ε : Cs} {i : Nat} {c0 c1 : C} (h : ε[i]? = some c0) : (ε.set i c1).set i c0 = ε := by
  rw [List.set_set]
  apply List.ext_getElem?
  intro j
  by_cases ej : i = j
  · subst ej
    rw [List.getElem?_set_self (List.getElem?_eq_some_iff.mp h).1, h]
  · rw [List.getElem?_set_ne ej]
/-- a comprehension over items of one form -/
theorem mLc_enc {α : Type} (f e : α → PyData) {i : Nat} {src : SM} {m : EM} {ε ε1 : Cs} {xs : List α} {c0 : C} {ws : List Nat} (hs : src ε = some ((xs.map f, ws), ε1)) (h1 : ε1[i]? = some c0) (h : ∀ x ∈ xs, ∃ c, m (ε1.set i (.sh (f x))) = some (c, ε1.set i (.sh (f x))) ∧ cD c = some (e x)) (hn : xs.length ≤ sizeLine) (hw : ws.all (fun j => !([i] : List Nat).contains j) = true := by rfl) :
    mLc src (bNm i) mYes m [i] ε = some (.ls (xs.map e), ε1) := by
  have hl : i < ε1.length := (List.getElem?_eq_some_iff.mp h1).1
  have hsm : sameC ws ε1 (ε1.set i .no) := by
    intro j hj
    have := List.all_eq_true.mp hw j hj
    have ne : i ≠ j := by
      rintro rfl
      simp at this
    rw [List.getElem?_set_ne ne]
  obtain ⟨out, ε2, e1, e2, e3⟩ := lc_rule (src := src) (bind := bNm i) (tests := mYes) (elt := m) (own := [i]) (ε := ε) (fun k out ε2 => out = (xs.take k).map e ∧ ε2 = ε1.set i .no) hs hw ⟨by simp, by simp [wipeC]⟩ (fun _ _ _ h => by rw [h.2]; exact hsm) (by simpa using hn) (by
    rintro k d out ε2 hd ⟨rfl, rfl⟩
    rw [List.getElem?_map] at hd
    obtain ⟨x, hx, rfl⟩ := Option.map_eq_some_iff.mp hd
    obtain ⟨hk, rfl⟩ := List.getElem?_eq_some_iff.mp hx
    obtain ⟨c, g1, g2⟩ := h _ (List.getElem_mem hk)
    refine ⟨ε1.set i (.sh (f xs[k])), true, _, by simp [bNm, hl], rfl, fun z => (by cases z), fun _ => ⟨c, _, _, g1, g2, ?_, ?_⟩⟩
    · rw [List.take_succ_eq_append_getElem hk, List.map_append]
      rfl
    · simp [wipeC])
  subst e3
  rw [List.length_map, List.take_of_length_le (Nat.le_refl _)] at e2
  subst e2
  rw [e1]
  simp only [restC, h1]
  rw [set_back h1]
theorem src_items {m : EM} {ε ε1 : Cs} {c : C} {ds : List PyData} (h : m ε = some (c, ε1)) (hc : c = .ls ds ∨ c = .sh (.list ds) ∨ c = .sh (.tuple ds)) : mSrc itemsD (mCons (mTm m) mNil) ε = some ((ds, []), ε1) := by
  rcases hc with rfl | rfl | rfl <;> simp [mSrc, mCons, mTm, mNil, h, bors, bor, itemsD, plOf]
end KW
namespace KW
open PySem PySem.Spec PyProof.Rows L2 L2.M
local macro_rules | `(tactic| walk_at "ev") => `(tactic| simp [semF, shared, after, mSeq, mSkip, mIf, mRet, mRetN, mRetV, mSet, mSetIx, mExpr, mB, mU, mTm, mPl, mK, mVar, mOp, mCons, mNil, bor, bors, mTst, mAndT, mOrT, mNotT, mAndE, mOrE, mNotE, mIfE, mIsi, isiD, mChn, chnL, cmpD, binD, addD, subD, mulD, modD, fdivD, powD, eqD, neD, ltD, leD, gtD, geD, isD, isnD, L2.M.isNon, negD, ixD, Bf.f, Bg.f, lenD, L2.M.intD, maxD, minD, repD, strD, gmaxD, gminD, sumD, sortD, anyD, allD, mCall, frz, fzO, lend, wb, mTup, mLst, fzs, cD, mAsg, bTup, bTps, mApp, tupD, lstD, mRev, revD, ofs_inj, ee_ii, ee_ss, ee_bb, ee_nn, ee_is, ee_si, ee_in, ee_ni, ee_tt, ee_ll, ee_maps, ee_0, ee_1, ee_2, ee_3, at_lit, at_nat, at_m1, at_m2, scD, emD, sizeLine_eq, ixN, sm_lit, mSrc, itemsD, plOf, rng1D, bNm, mSl, mPt, mNoP, slD, mPar, keepT, tmsO, setA, mFlow, zipX, enumX, itemsX, intsOf, ints_all, boolsOf, shaped_lay, lay_int, lay_bool, lay_none, lay_dict, lay_tup, lay_list, lay_ints, sortX_ints, mPlF, mPlI, mRd, mPU, mPB, mFSet, mFNew, mNSet, mPApp, mPSetIx, mPPop, mMeth, mNew, isIns, cellO, mLstN, mAddN, mAppN, semX, mTold, mCallX, xRet, xExpr, xSet, mRaise, mM, isL, isS, mOrV, truD])
local macro_rules | `(tactic| walk_at "es") => `(tactic| simp [semF, shared, after, mSeq, mSkip, mIf, mRet, mRetN, mRetV, mSet, mSetIx, mExpr, mB, mU, mTm, mPl, mK, mVar, mOp, mCons, mNil, bor, bors, mTst, mAndT, mOrT, mNotT, mAndE, mOrE, mNotE, mIfE, mIsi, isiD, mChn, chnL, cmpD, binD, addD, subD, mulD, modD, fdivD, powD, eqD, neD, ltD, leD, gtD, geD, isD, isnD, L2.M.isNon, negD, ixD, Bf.f, Bg.f, lenD, L2.M.intD, maxD, minD, repD, strD, gmaxD, gminD, sumD, sortD, anyD, allD, mCall, frz, fzO, lend, wb, mTup, mLst, fzs, cD, mAsg, bTup, bTps, mApp, tupD, lstD, mRev, revD, ofs_inj, ee_ii, ee_ss, ee_bb, ee_nn, ee_is, ee_si, ee_in, ee_ni, ee_tt, ee_ll, ee_maps, ee_0, ee_1, ee_2, ee_3, at_lit, at_nat, at_m1, at_m2, scD, emD, sizeLine_eq, ixN, sm_lit, mSrc, itemsD, plOf, rng1D, bNm, mSl, mPt, mNoP, slD, mPar, keepT, tmsO, setA, mFlow, zipX, enumX, itemsX, intsOf, ints_all, boolsOf, shaped_lay, lay_int, lay_bool, lay_none, lay_dict, lay_tup, lay_list, lay_ints, sortX_ints, mPlF, mPlI, mRd, mPU, mPB, mFSet, mFNew, mNSet, mPApp, mPSetIx, mPPop, mMeth, mNew, isIns, cellO, mLstN, mAddN, mAppN, semX, mTold, mCallX, xRet, xExpr, xSet, mRaise, mM, isL, isS, mOrV, truD, *])
local macro_rules | `(tactic| walk_at "el") => `(tactic| simp [semF, shared, after, mSeq, mSkip, mIf, mRet, mRetN, mRetV, mSet, mSetIx, mExpr, mB, mU, mTm, mPl, mK, mVar, mOp, mCons, mNil, bor, bors, mTst, mAndT, mOrT, mNotT, mAndE, mOrE, mNotE, mIfE, mIsi, isiD, mChn, chnL, cmpD, binD, addD, subD, mulD, modD, fdivD, powD, eqD, neD, ltD, leD, gtD, geD, isD, isnD, L2.M.isNon, negD, ixD, Bf.f, Bg.f, lenD, L2.M.intD, maxD, minD, repD, strD, gmaxD, gminD, sumD, sortD, anyD, allD, mCall, frz, fzO, lend, wb, mTup, mLst, fzs, cD, mAsg, bTup, bTps, mApp, tupD, lstD, mRev, revD, ofs_inj, ee_ii, ee_ss, ee_bb, ee_nn, ee_is, ee_si, ee_in, ee_ni, ee_tt, ee_ll, ee_maps, ee_0, ee_1, ee_2, ee_3, at_lit, at_nat, at_m1, at_m2, scD, emD, sizeLine_eq, ixN, sm_lit, mSrc, itemsD, plOf, rng1D, bNm, mSl, mPt, mNoP, slD, mPar, keepT, tmsO, setA, mFlow, zipX, enumX, itemsX, intsOf, ints_all, boolsOf, shaped_lay, lay_int, lay_bool, lay_none, lay_dict, lay_tup, lay_list, lay_ints, sortX_ints, mPlF, mPlI, mRd, mPU, mPB, mFSet, mFNew, mNSet, mPApp, mPSetIx, mPPop, mMeth, mNew, isIns, cellO, mLstN, mAddN, mAppN, semX, mTold, mCallX, xRet, xExpr, xSet, mRaise, mM, isL, isS, mOrV, truD, mLc, lcL, sameC, wipeC, restC, mYes, *])
local macro_rules | `(tactic| walk_at "ef") => `(tactic| simp [semF, shared, after, mSeq, mSkip, mIf, mRet, mRetN, mRetV, mSet, mSetIx, mExpr, mB, mU, mTm, mPl, mK, mVar, mOp, mCons, mNil, bor, bors, mTst, mAndT, mOrT, mNotT, mAndE, mOrE, mNotE, mIfE, mIsi, isiD, mChn, chnL, cmpD, binD, addD, subD, mulD, modD, fdivD, powD, eqD, neD, ltD, leD, gtD, geD, isD, isnD, L2.M.isNon, negD, ixD, Bf.f, Bg.f, lenD, L2.M.intD, maxD, minD, repD, strD, gmaxD, gminD, sumD, sortD, anyD, allD, mCall, frz, fzO, lend, wb, mTup, mLst, fzs, cD, mAsg, bTup, bTps, mApp, tupD, lstD, mRev, revD, ofs_inj, ee_ii, ee_ss, ee_bb, ee_nn, ee_is, ee_si, ee_in, ee_ni, ee_tt, ee_ll, ee_maps, ee_0, ee_1, ee_2, ee_3, at_lit, at_nat, at_m1, at_m2, scD, emD, sizeLine_eq, ixN, sm_lit, mSrc, itemsD, plOf, rng1D, bNm, mSl, mPt, mNoP, slD, mPar, keepT, tmsO, setA, mFlow, zipX, enumX, itemsX, intsOf, ints_all, boolsOf, shaped_lay, lay_int, lay_bool, lay_none, lay_dict, lay_tup, lay_list, lay_ints, sortX_ints, mPlF, mPlI, mRd, mPU, mPB, mFSet, mFNew, mNSet, mPApp, mPSetIx, mPPop, mMeth, mNew, isIns, cellO, mLstN, mAddN, mAppN, semX, mTold, mCallX, xRet, xExpr, xSet, mRaise, mM, isL, isS, mOrV, truD, mFor, forL, mLc, lcL, sameC, wipeC, restC, mYes, *])
local macro_rules | `(tactic| walk_at "rg") => `(tactic| (and_intros <;> grind))
local macro_rules | `(tactic| walk_at "nx") => `(tactic| (apply wx_nx; focus (walk_at "ev"; try first | exact ⟨rfl, rfl⟩ | rfl)))
local macro_rules | `(tactic| walk_at "ns") => `(tactic| (apply wx_nx; focus (walk_at "es"; try first | exact ⟨rfl, rfl⟩ | rfl)))
local macro_rules | `(tactic| walk_at "rt") => `(tactic| (apply wx_rt; focus (walk_at "ev"; try first | exact ⟨rfl, rfl⟩ | rfl)))
local macro_rules | `(tactic| walk_at "rs") => `(tactic| (apply wx_rt; focus (walk_at "es"; try first | exact ⟨rfl, rfl⟩ | rfl)))
local macro_rules | `(tactic| walk_at "ed") => `(tactic| simp [semF, shared, after, mSeq, mSkip, mIf, mRet, mRetN, mRetV, mSet, mSetIx, mExpr, mB, mU, mTm, mPl, mK, mVar, mOp, mCons, mNil, bor, bors, mTst, mAndT, mOrT, mNotT, mAndE, mOrE, mNotE, mIfE, mIsi, isiD, mChn, chnL, cmpD, binD, addD, subD, mulD, modD, fdivD, powD, eqD, neD, ltD, leD, gtD, geD, isD, isnD, L2.M.isNon, negD, ixD, Bf.f, Bg.f, lenD, L2.M.intD, maxD, minD, repD, strD, gmaxD, gminD, sumD, sortD, anyD, allD, mCall, frz, fzO, lend, wb, mTup, mLst, fzs, cD, mAsg, bTup, bTps, mApp, tupD, lstD, mRev, revD, ofs_inj, ee_ii, ee_ss, ee_bb, ee_nn, ee_is, ee_si, ee_in, ee_ni, ee_tt, ee_ll, ee_maps, ee_0, ee_1, ee_2, ee_3, at_lit, at_nat, at_m1, at_m2, scD, emD, sizeLine_eq, ixN, sm_lit, mSrc, itemsD, plOf, rng1D, bNm, mSl, mPt, mNoP, slD, mPar, keepT, tmsO, setA, mFlow, zipX, enumX, itemsX, intsOf, ints_all, boolsOf, shaped_lay, lay_int, lay_bool, lay_none, lay_dict, lay_tup, lay_list, lay_ints, sortX_ints, mPlF, mPlI, mRd, mPU, mPB, mFSet, mFNew, mNSet, mPApp, mPSetIx, mPPop, mMeth, mNew, isIns, cellO, mLstN, mAddN, mAppN, semX, mTold, mCallX, xRet, xExpr, xSet, mRaise, mM, isL, isS, mOrV, truD, mDNew, mDIn, mDGet, mDLen, mDPut, kyD, mNNew, mN1, mTake, mFnV, mCallF, mNIn, mNGet, mNPut, mNVals, mNList, nKs, mDGetD, mDList, mNNe, *])
structure Shw (k n : Nat) (d : PyData) : Prop where
  l : lay k d = true
  s : d.showable = true
  z : d.shown.length ≤ n
theorem Shw.mono {k k' n n' : Nat} {d : PyData} (h : Shw k n d) (hk : k ≤ k') (hn : n ≤ n') : Shw k' n' d := ⟨lay_mono hk h.l, h.s, Nat.le_trans h.z hn⟩
theorem shw_int (k : Nat) {m : Nat} {i : Int} (hm : 0 < m) (h : i.natAbs < 10 ^ m) (hm2 : m ≤ 60) : Shw k (m + 1) (.int i) := by
  have hb : i.natAbs < 10 ^ 60 := Nat.lt_of_lt_of_le h (Nat.pow_le_pow_right (by decide) hm2)
  refine ⟨lay_int k i, ?_, ?_⟩
  · have := log2_le (i := i) (by omega) (by omega)
    simp only [PyData.showable, decide_eq_true_eq]
    omega
  · simp only [PyData.shown]
    have := int_text_length_le10 hm h
    rw [PySem.ofString_length]
    exact this
theorem shw_i20 (k : Nat) {i : Int} (h1 : -(10 ^ 19) < i) (h2 : i < 10 ^ 19) : Shw k 20 (.int i) := shw_int k (m := 19) (by decide) (by omega) (by decide)
theorem text_len : ∀ (ts : List Str) (k : Nat) (acc : Str), (textFrom k acc ts).length ≤ acc.length + piled ts
  | [], k, acc => by simp [textFrom, piled]
  | t :: ts, k, acc => by
    have ih := text_len ts (k + 1) (acc ++ (if k > 0 then ", " else "" : String) ++ t)
    rw [strLen_append, strLen_append] at ih
    have hs : (Str.ofString (if k > 0 then ", " else "")).length ≤ 2 := by split <;> decide
    have e : textFrom k acc (t :: ts) = textFrom (k + 1) (acc ++ (if k > 0 then ", " else "" : String) ++ t) ts := rfl
    rw [e, piled_cons]
    omega
theorem list_len (ts : List Str) : (listText ts).length ≤ piled ts + 2 := by
  have h := text_len ts 0 "["
  have e : ("[" : Str).length = 1 := by decide
  have e2 : ("]" : Str).length = 1 := by decide
  unfold listText
  rw [strLen_append]
  omega
theorem piled_all : ∀ {k n : Nat} {ds : List PyData}, (∀ d ∈ ds, Shw k n d) → piled (PyData.shownAll ds) ≤ ds.length * (n + 2)
  | k, n, [], _ => by simp [PyData.shownAll, piled]
  | k, n, d :: ds, h => by
    have h1 := (h d List.mem_cons_self).z
    have ih := piled_all (k := k) (n := n) (ds := ds) fun d hd => h d (List.mem_cons_of_mem _ hd)
    simp only [PyData.shownAll, piled_cons, List.length_cons, Nat.add_mul, Nat.one_mul]
    omega
theorem showable_all : ∀ {k n : Nat} {ds : List PyData}, (∀ d ∈ ds, Shw k n d) → PyData.showableAll ds = true
  | k, n, [], _ => by simp [PyData.showableAll]
  | k, n, d :: ds, h => by
    have ih := showable_all (k := k) (n := n) (ds := ds) fun d hd => h d (List.mem_cons_of_mem _ hd)
    simp only [PyData.showableAll, ih, (h d List.mem_cons_self).s, Bool.and_self]
theorem shw_lst {k n : Nat} {ds : List PyData} (h : ∀ d ∈ ds, Shw k n d) : Shw (k + 1) (ds.length * (n + 2) + 3) (.list ds) := by
  refine ⟨?_, ?_, ?_⟩
  · rw [lay_list _ (by omega)]
    simp only [Nat.add_sub_cancel, List.all_eq_true]
    exact fun d hd => (h d hd).l
  · simp only [PyData.showable]
    exact showable_all h
  · simp only [PyData.shown]
    have := list_len (PyData.shownAll ds)
    have := piled_all h
    omega
theorem reprG_eq {k n : Nat} {d : PyData} (h : Shw k n d) (hk : k ≤ 64) (hn : n ≤ sizeLine) : reprG [d] = some (.sh (.str d.shown)) := by
  have h1 : SeqAt.shaped d = true := by
    rw [shaped_lay]
    exact lay_mono hk h.l
  have h2 := h.s
  have h3 := Nat.le_trans h.z hn
  simp only [reprG]
  rw [if_pos ⟨h1, h2, h3⟩]
/-- of tuples of tuples and the like: each item by its own bound -/
theorem shw_cons {k n : Nat} {d : PyData} {ds : List PyData} (h1 : Shw k n d) (h2 : ∀ d ∈ ds, Shw k n d) : ∀ x ∈ d :: ds, Shw k n x := by
  intro x hx
  rcases List.mem_cons.mp hx with rfl | hx
  · exact h1
  · exact h2 x hx
theorem shw_nil {k n : Nat} : ∀ x ∈ ([] : List PyData), Shw k n x := fun x hx => by cases hx
end KW
namespace KW
open PySem PySem.Spec PyProof.Rows L2 L2.M
local macro_rules | `(tactic| walk_at "ev") => `(tactic| simp [semF, shared, after, mSeq, mSkip, mIf, mRet, mRetN, mRetV, mSet, mSetIx, mExpr, mB, mU, mTm, mPl, mK, mVar, mOp, mCons, mNil, bor, bors, mTst, mAndT, mOrT, mNotT, mAndE, mOrE, mNotE, mIfE, mIsi, isiD, mChn, chnL, cmpD, binD, addD, subD, mulD, modD, fdivD, powD, eqD, neD, ltD, leD, gtD, geD, isD, isnD, L2.M.isNon, negD, ixD, Bf.f, Bg.f, lenD, L2.M.intD, maxD, minD, repD, strD, gmaxD, gminD, sumD, sortD, anyD, allD, mCall, frz, fzO, lend, wb, mTup, mLst, fzs, cD, mAsg, bTup, bTps, mApp, tupD, lstD, mRev, revD, ofs_inj, ee_ii, ee_ss, ee_bb, ee_nn, ee_is, ee_si, ee_in, ee_ni, ee_tt, ee_ll, ee_maps, ee_0, ee_1, ee_2, ee_3, at_lit, at_nat, at_m1, at_m2, scD, emD, sizeLine_eq, ixN, sm_lit, mSrc, itemsD, plOf, rng1D, bNm, mSl, mPt, mNoP, slD, mPar, keepT, tmsO, setA, mFlow, zipX, enumX, itemsX, intsOf, ints_all, boolsOf, shaped_lay, lay_int, lay_bool, lay_none, lay_dict, lay_tup, lay_list, lay_ints, sortX_ints, mPlF, mPlI, mRd, mPU, mPB, mFSet, mFNew, mNSet, mPApp, mPSetIx, mPPop, mMeth, mNew, isIns, cellO, mLstN, mAddN, mAppN, semX, mTold, mCallX, xRet, xExpr, xSet, mRaise, mM, isL, isS, mOrV, truD])
local macro_rules | `(tactic| walk_at "es") => `(tactic| simp [semF, shared, after, mSeq, mSkip, mIf, mRet, mRetN, mRetV, mSet, mSetIx, mExpr, mB, mU, mTm, mPl, mK, mVar, mOp, mCons, mNil, bor, bors, mTst, mAndT, mOrT, mNotT, mAndE, mOrE, mNotE, mIfE, mIsi, isiD, mChn, chnL, cmpD, binD, addD, subD, mulD, modD, fdivD, powD, eqD, neD, ltD, leD, gtD, geD, isD, isnD, L2.M.isNon, negD, ixD, Bf.f, Bg.f, lenD, L2.M.intD, maxD, minD, repD, strD, gmaxD, gminD, sumD, sortD, anyD, allD, mCall, frz, fzO, lend, wb, mTup, mLst, fzs, cD, mAsg, bTup, bTps, mApp, tupD, lstD, mRev, revD, ofs_inj, ee_ii, ee_ss, ee_bb, ee_nn, ee_is, ee_si, ee_in, ee_ni, ee_tt, ee_ll, ee_maps, ee_0, ee_1, ee_2, ee_3, at_lit, at_nat, at_m1, at_m2, scD, emD, sizeLine_eq, ixN, sm_lit, mSrc, itemsD, plOf, rng1D, bNm, mSl, mPt, mNoP, slD, mPar, keepT, tmsO, setA, mFlow, zipX, enumX, itemsX, intsOf, ints_all, boolsOf, shaped_lay, lay_int, lay_bool, lay_none, lay_dict, lay_tup, lay_list, lay_ints, sortX_ints, mPlF, mPlI, mRd, mPU, mPB, mFSet, mFNew, mNSet, mPApp, mPSetIx, mPPop, mMeth, mNew, isIns, cellO, mLstN, mAddN, mAppN, semX, mTold, mCallX, xRet, xExpr, xSet, mRaise, mM, isL, isS, mOrV, truD, *])
local macro_rules | `(tactic| walk_at "el") => `(tactic| simp [semF, shared, after, mSeq, mSkip, mIf, mRet, mRetN, mRetV, mSet, mSetIx, mExpr, mB, mU, mTm, mPl, mK, mVar, mOp, mCons, mNil, bor, bors, mTst, mAndT, mOrT, mNotT, mAndE, mOrE, mNotE, mIfE, mIsi, isiD, mChn, chnL, cmpD, binD, addD, subD, mulD, modD, fdivD, powD, eqD, neD, ltD, leD, gtD, geD, isD, isnD, L2.M.isNon, negD, ixD, Bf.f, Bg.f, lenD, L2.M.intD, maxD, minD, repD, strD, gmaxD, gminD, sumD, sortD, anyD, allD, mCall, frz, fzO, lend, wb, mTup, mLst, fzs, cD, mAsg, bTup, bTps, mApp, tupD, lstD, mRev, revD, ofs_inj, ee_ii, ee_ss, ee_bb, ee_nn, ee_is, ee_si, ee_in, ee_ni, ee_tt, ee_ll, ee_maps, ee_0, ee_1, ee_2, ee_3, at_lit, at_nat, at_m1, at_m2, scD, emD, sizeLine_eq, ixN, sm_lit, mSrc, itemsD, plOf, rng1D, bNm, mSl, mPt, mNoP, slD, mPar, keepT, tmsO, setA, mFlow, zipX, enumX, itemsX, intsOf, ints_all, boolsOf, shaped_lay, lay_int, lay_bool, lay_none, lay_dict, lay_tup, lay_list, lay_ints, sortX_ints, mPlF, mPlI, mRd, mPU, mPB, mFSet, mFNew, mNSet, mPApp, mPSetIx, mPPop, mMeth, mNew, isIns, cellO, mLstN, mAddN, mAppN, semX, mTold, mCallX, xRet, xExpr, xSet, mRaise, mM, isL, isS, mOrV, truD, mLc, lcL, sameC, wipeC, restC, mYes, *])
local macro_rules | `(tactic| walk_at "ef") => `(tactic| simp [semF, shared, after, mSeq, mSkip, mIf, mRet, mRetN, mRetV, mSet, mSetIx, mExpr, mB, mU, mTm, mPl, mK, mVar, mOp, mCons, mNil, bor, bors, mTst, mAndT, mOrT, mNotT, mAndE, mOrE, mNotE, mIfE, mIsi, isiD, mChn, chnL, cmpD, binD, addD, subD, mulD, modD, fdivD, powD, eqD, neD, ltD, leD, gtD, geD, isD, isnD, L2.M.isNon, negD, ixD, Bf.f, Bg.f, lenD, L2.M.intD, maxD, minD, repD, strD, gmaxD, gminD, sumD, sortD, anyD, allD, mCall, frz, fzO, lend, wb, mTup, mLst, fzs, cD, mAsg, bTup, bTps, mApp, tupD, lstD, mRev, revD, ofs_inj, ee_ii, ee_ss, ee_bb, ee_nn, ee_is, ee_si, ee_in, ee_ni, ee_tt, ee_ll, ee_maps, ee_0, ee_1, ee_2, ee_3, at_lit, at_nat, at_m1, at_m2, scD, emD, sizeLine_eq, ixN, sm_lit, mSrc, itemsD, plOf, rng1D, bNm, mSl, mPt, mNoP, slD, mPar, keepT, tmsO, setA, mFlow, zipX, enumX, itemsX, intsOf, ints_all, boolsOf, shaped_lay, lay_int, lay_bool, lay_none, lay_dict, lay_tup, lay_list, lay_ints, sortX_ints, mPlF, mPlI, mRd, mPU, mPB, mFSet, mFNew, mNSet, mPApp, mPSetIx, mPPop, mMeth, mNew, isIns, cellO, mLstN, mAddN, mAppN, semX, mTold, mCallX, xRet, xExpr, xSet, mRaise, mM, isL, isS, mOrV, truD, mFor, forL, mLc, lcL, sameC, wipeC, restC, mYes, *])
local macro_rules | `(tactic| walk_at "rg") => `(tactic| (and_intros <;> grind))
local macro_rules | `(tactic| walk_at "nx") => `(tactic| (apply wx_nx; focus (walk_at "ev"; try first | exact ⟨rfl, rfl⟩ | rfl)))
local macro_rules | `(tactic| walk_at "ns") => `(tactic| (apply wx_nx; focus (walk_at "es"; try first | exact ⟨rfl, rfl⟩ | rfl)))
local macro_rules | `(tactic| walk_at "rt") => `(tactic| (apply wx_rt; focus (walk_at "ev"; try first | exact ⟨rfl, rfl⟩ | rfl)))
local macro_rules | `(tactic| walk_at "rs") => `(tactic| (apply wx_rt; focus (walk_at "es"; try first | exact ⟨rfl, rfl⟩ | rfl)))
local macro_rules | `(tactic| walk_at "ed") => `(tactic| simp [semF, shared, after, mSeq, mSkip, mIf, mRet, mRetN, mRetV, mSet, mSetIx, mExpr, mB, mU, mTm, mPl, mK, mVar, mOp, mCons, mNil, bor, bors, mTst, mAndT, mOrT, mNotT, mAndE, mOrE, mNotE, mIfE, mIsi, isiD, mChn, chnL, cmpD, binD, addD, subD, mulD, modD, fdivD, powD, eqD, neD, ltD, leD, gtD, geD, isD, isnD, L2.M.isNon, negD, ixD, Bf.f, Bg.f, lenD, L2.M.intD, maxD, minD, repD, strD, gmaxD, gminD, sumD, sortD, anyD, allD, mCall, frz, fzO, lend, wb, mTup, mLst, fzs, cD, mAsg, bTup, bTps, mApp, tupD, lstD, mRev, revD, ofs_inj, ee_ii, ee_ss, ee_bb, ee_nn, ee_is, ee_si, ee_in, ee_ni, ee_tt, ee_ll, ee_maps, ee_0, ee_1, ee_2, ee_3, at_lit, at_nat, at_m1, at_m2, scD, emD, sizeLine_eq, ixN, sm_lit, mSrc, itemsD, plOf, rng1D, bNm, mSl, mPt, mNoP, slD, mPar, keepT, tmsO, setA, mFlow, zipX, enumX, itemsX, intsOf, ints_all, boolsOf, shaped_lay, lay_int, lay_bool, lay_none, lay_dict, lay_tup, lay_list, lay_ints, sortX_ints, mPlF, mPlI, mRd, mPU, mPB, mFSet, mFNew, mNSet, mPApp, mPSetIx, mPPop, mMeth, mNew, isIns, cellO, mLstN, mAddN, mAppN, semX, mTold, mCallX, xRet, xExpr, xSet, mRaise, mM, isL, isS, mOrV, truD, mDNew, mDIn, mDGet, mDLen, mDPut, kyD, mNNew, mN1, mTake, mFnV, mCallF, mNIn, mNGet, mNPut, mNVals, mNList, nKs, mDGetD, mDList, mNNe, *])
end KW
namespace KW
open PySem PySem.Spec PyProof.Rows L2 L2.M
local macro_rules | `(tactic| walk_at "ev") => `(tactic| simp [semF, shared, after, mSeq, mSkip, mIf, mRet, mRetN, mRetV, mSet, mSetIx, mExpr, mB, mU, mTm, mPl, mK, mVar, mOp, mCons, mNil, bor, bors, mTst, mAndT, mOrT, mNotT, mAndE, mOrE, mNotE, mIfE, mIsi, isiD, mChn, chnL, cmpD, binD, addD, subD, mulD, modD, fdivD, powD, eqD, neD, ltD, leD, gtD, geD, isD, isnD, L2.M.isNon, negD, ixD, Bf.f, Bg.f, lenD, L2.M.intD, maxD, minD, repD, strD, gmaxD, gminD, sumD, sortD, anyD, allD, mCall, frz, fzO, lend, wb, mTup, mLst, fzs, cD, mAsg, bTup, bTps, mApp, tupD, lstD, mRev, revD, ofs_inj, ee_ii, ee_ss, ee_bb, ee_nn, ee_is, ee_si, ee_in, ee_ni, ee_tt, ee_ll, ee_maps, ee_0, ee_1, ee_2, ee_3, at_lit, at_nat, at_m1, at_m2, scD, emD, sizeLine_eq, ixN, sm_lit, mSrc, itemsD, plOf, rng1D, bNm, mSl, mPt, mNoP, slD, mPar, keepT, tmsO, setA, mFlow, zipX, enumX, itemsX, intsOf, ints_all, boolsOf, shaped_lay, lay_int, lay_bool, lay_none, lay_dict, lay_tup, lay_list, lay_ints, sortX_ints, mPlF, mPlI, mRd, mPU, mPB, mFSet, mFNew, mNSet, mPApp, mPSetIx, mPPop, mMeth, mNew, isIns, cellO, mLstN, mAddN, mAppN, semX, mTold, mCallX, xRet, xExpr, xSet, mRaise, mM, isL, isS, mOrV, truD])
local macro_rules | `(tactic| walk_at "es") => `(tactic| simp [semF, shared, after, mSeq, mSkip, mIf, mRet, mRetN, mRetV, mSet, mSetIx, mExpr, mB, mU, mTm, mPl, mK, mVar, mOp, mCons, mNil, bor, bors, mTst, mAndT, mOrT, mNotT, mAndE, mOrE, mNotE, mIfE, mIsi, isiD, mChn, chnL, cmpD, binD, addD, subD, mulD, modD, fdivD, powD, eqD, neD, ltD, leD, gtD, geD, isD, isnD, L2.M.isNon, negD, ixD, Bf.f, Bg.f, lenD, L2.M.intD, maxD, minD, repD, strD, gmaxD, gminD, sumD, sortD, anyD, allD, mCall, frz, fzO, lend, wb, mTup, mLst, fzs, cD, mAsg, bTup, bTps, mApp, tupD, lstD, mRev, revD, ofs_inj, ee_ii, ee_ss, ee_bb, ee_nn, ee_is, ee_si, ee_in, ee_ni, ee_tt, ee_ll, ee_maps, ee_0, ee_1, ee_2, ee_3, at_lit, at_nat, at_m1, at_m2, scD, emD, sizeLine_eq, ixN, sm_lit, mSrc, itemsD, plOf, rng1D, bNm, mSl, mPt, mNoP, slD, mPar, keepT, tmsO, setA, mFlow, zipX, enumX, itemsX, intsOf, ints_all, boolsOf, shaped_lay, lay_int, lay_bool, lay_none, lay_dict, lay_tup, lay_list, lay_ints, sortX_ints, mPlF, mPlI, mRd, mPU, mPB, mFSet, mFNew, mNSet, mPApp, mPSetIx, mPPop, mMeth, mNew, isIns, cellO, mLstN, mAddN, mAppN, semX, mTold, mCallX, xRet, xExpr, xSet, mRaise, mM, isL, isS, mOrV, truD, *])
local macro_rules | `(tactic| walk_at "el") => `(tactic| simp [semF, shared, after, mSeq, mSkip, mIf, mRet, mRetN, mRetV, mSet, mSetIx, mExpr, mB, mU, mTm, mPl, mK, mVar, mOp, mCons, mNil, bor, bors, mTst, mAndT, mOrT, mNotT, mAndE, mOrE, mNotE, mIfE, mIsi, isiD, mChn, chnL, cmpD, binD, addD, subD, mulD, modD, fdivD, powD, eqD, neD, ltD, leD, gtD, geD, isD, isnD, L2.M.isNon, negD, ixD, Bf.f, Bg.f, lenD, L2.M.intD, maxD, minD, repD, strD, gmaxD, gminD, sumD, sortD, anyD, allD, mCall, frz, fzO, lend, wb, mTup, mLst, fzs, cD, mAsg, bTup, bTps, mApp, tupD, lstD, mRev, revD, ofs_inj, ee_ii, ee_ss, ee_bb, ee_nn, ee_is, ee_si, ee_in, ee_ni, ee_tt, ee_ll, ee_maps, ee_0, ee_1, ee_2, ee_3, at_lit, at_nat, at_m1, at_m2, scD, emD, sizeLine_eq, ixN, sm_lit, mSrc, itemsD, plOf, rng1D, bNm, mSl, mPt, mNoP, slD, mPar, keepT, tmsO, setA, mFlow, zipX, enumX, itemsX, intsOf, ints_all, boolsOf, shaped_lay, lay_int, lay_bool, lay_none, lay_dict, lay_tup, lay_list, lay_ints, sortX_ints, mPlF, mPlI, mRd, mPU, mPB, mFSet, mFNew, mNSet, mPApp, mPSetIx, mPPop, mMeth, mNew, isIns, cellO, mLstN, mAddN, mAppN, semX, mTold, mCallX, xRet, xExpr, xSet, mRaise, mM, isL, isS, mOrV, truD, mLc, lcL, sameC, wipeC, restC, mYes, *])
local macro_rules | `(tactic| walk_at "ef") => `(tactic| simp [semF, shared, after, mSeq, mSkip, mIf, mRet, mRetN, mRetV, mSet, mSetIx, mExpr, mB, mU, mTm, mPl, mK, mVar, mOp, mCons, mNil, bor, bors, mTst, mAndT, mOrT, mNotT, mAndE, mOrE, mNotE, mIfE, mIsi, isiD, mChn, chnL, cmpD, binD, addD, subD, mulD, modD, fdivD, powD, eqD, neD, ltD, leD, gtD, geD, isD, isnD, L2.M.isNon, negD, ixD, Bf.f, Bg.f, lenD, L2.M.intD, maxD, minD, repD, strD, gmaxD, gminD, sumD, sortD, anyD, allD, mCall, frz, fzO, lend, wb, mTup, mLst, fzs, cD, mAsg, bTup, bTps, mApp, tupD, lstD, mRev, revD, ofs_inj, ee_ii, ee_ss, ee_bb, ee_nn, ee_is, ee_si, ee_in, ee_ni, ee_tt, ee_ll, ee_maps, ee_0, ee_1, ee_2, ee_3, at_lit, at_nat, at_m1, at_m2, scD, emD, sizeLine_eq, ixN, sm_lit, mSrc, itemsD, plOf, rng1D, bNm, mSl, mPt, mNoP, slD, mPar, keepT, tmsO, setA, mFlow, zipX, enumX, itemsX, intsOf, ints_all, boolsOf, shaped_lay, lay_int, lay_bool, lay_none, lay_dict, lay_tup, lay_list, lay_ints, sortX_ints, mPlF, mPlI, mRd, mPU, mPB, mFSet, mFNew, mNSet, mPApp, mPSetIx, mPPop, mMeth, mNew, isIns, cellO, mLstN, mAddN, mAppN, semX, mTold, mCallX, xRet, xExpr, xSet, mRaise, mM, isL, isS, mOrV, truD, mFor, forL, mLc, lcL, sameC, wipeC, restC, mYes, *])
local macro_rules | `(tactic| walk_at "rg") => `(tactic| (and_intros <;> grind))
local macro_rules | `(tactic| walk_at "nx") => `(tactic| (apply wx_nx; focus (walk_at "ev"; try first | exact ⟨rfl, rfl⟩ | rfl)))
local macro_rules | `(tactic| walk_at "ns") => `(tactic| (apply wx_nx; focus (walk_at "es"; try first | exact ⟨rfl, rfl⟩ | rfl)))
local macro_rules | `(tactic| walk_at "rt") => `(tactic| (apply wx_rt; focus (walk_at "ev"; try first | exact ⟨rfl, rfl⟩ | rfl)))
local macro_rules | `(tactic| walk_at "rs") => `(tactic| (apply wx_rt; focus (walk_at "es"; try first | exact ⟨rfl, rfl⟩ | rfl)))
local macro_rules | `(tactic| walk_at "ed") => `(tactic| simp [semF, shared, after, mSeq, mSkip, mIf, mRet, mRetN, mRetV, mSet, mSetIx, mExpr, mB, mU, mTm, mPl, mK, mVar, mOp, mCons, mNil, bor, bors, mTst, mAndT, mOrT, mNotT, mAndE, mOrE, mNotE, mIfE, mIsi, isiD, mChn, chnL, cmpD, binD, addD, subD, mulD, modD, fdivD, powD, eqD, neD, ltD, leD, gtD, geD, isD, isnD, L2.M.isNon, negD, ixD, Bf.f, Bg.f, lenD, L2.M.intD, maxD, minD, repD, strD, gmaxD, gminD, sumD, sortD, anyD, allD, mCall, frz, fzO, lend, wb, mTup, mLst, fzs, cD, mAsg, bTup, bTps, mApp, tupD, lstD, mRev, revD, ofs_inj, ee_ii, ee_ss, ee_bb, ee_nn, ee_is, ee_si, ee_in, ee_ni, ee_tt, ee_ll, ee_maps, ee_0, ee_1, ee_2, ee_3, at_lit, at_nat, at_m1, at_m2, scD, emD, sizeLine_eq, ixN, sm_lit, mSrc, itemsD, plOf, rng1D, bNm, mSl, mPt, mNoP, slD, mPar, keepT, tmsO, setA, mFlow, zipX, enumX, itemsX, intsOf, ints_all, boolsOf, shaped_lay, lay_int, lay_bool, lay_none, lay_dict, lay_tup, lay_list, lay_ints, sortX_ints, mPlF, mPlI, mRd, mPU, mPB, mFSet, mFNew, mNSet, mPApp, mPSetIx, mPPop, mMeth, mNew, isIns, cellO, mLstN, mAddN, mAppN, semX, mTold, mCallX, xRet, xExpr, xSet, mRaise, mM, isL, isS, mOrV, truD, mDNew, mDIn, mDGet, mDLen, mDPut, kyD, mNNew, mN1, mTake, mFnV, mCallF, mNIn, mNGet, mNPut, mNVals, mNList, nKs, mDGetD, mDList, mNNe, *])
theorem rng_nat0 {k : Nat} (j : Int) (e : j = k) (hk : 0 ≤ j ∧ j ≤ 8000000) : rng1D [.int j] = some (rangeD 0 1 k) := by
  simp only [rng1D]
  rw [if_pos ⟨by omega, by omega⟩, e, Int.toNat_natCast]
theorem rng_nat {k : Nat} (hk : k ≤ 8000000) : rng1D [.int k] = some (rangeD 0 1 k) := rng_nat0 _ rfl ⟨by omega, by omega⟩
theorem src_f {f : List PyData → Option (List PyData)} {d : PyData} {ds : List PyData} {ε ε1 : Cs} {m : EM} (h : m ε = some (.sh d, ε1)) (hf : f [d] = some ds) : mSrc f (mCons (mTm m) mNil) ε = some ((ds, []), ε1) := by
  simp [mSrc, mCons, mTm, mNil, bors, bor, plOf, hf, h]
end KW
namespace KW
open PySem PySem.Spec PyProof.Rows L2 L2.M
local macro_rules | `(tactic| walk_at "ev") => `(tactic| simp [semF, shared, after, mSeq, mSkip, mIf, mRet, mRetN, mRetV, mSet, mSetIx, mExpr, mB, mU, mTm, mPl, mK, mVar, mOp, mCons, mNil, bor, bors, mTst, mAndT, mOrT, mNotT, mAndE, mOrE, mNotE, mIfE, mIsi, isiD, mChn, chnL, cmpD, binD, addD, subD, mulD, modD, fdivD, powD, eqD, neD, ltD, leD, gtD, geD, isD, isnD, L2.M.isNon, negD, ixD, Bf.f, Bg.f, lenD, L2.M.intD, maxD, minD, repD, strD, gmaxD, gminD, sumD, sortD, anyD, allD, mCall, frz, fzO, lend, wb, mTup, mLst, fzs, cD, mAsg, bTup, bTps, mApp, tupD, lstD, mRev, revD, ofs_inj, ee_ii, ee_ss, ee_bb, ee_nn, ee_is, ee_si, ee_in, ee_ni, ee_tt, ee_ll, ee_maps, ee_0, ee_1, ee_2, ee_3, at_lit, at_nat, at_m1, at_m2, scD, emD, sizeLine_eq, ixN, sm_lit, mSrc, itemsD, plOf, rng1D, bNm, mSl, mPt, mNoP, slD, mPar, keepT, tmsO, setA, mFlow, zipX, enumX, itemsX, intsOf, ints_all, boolsOf, shaped_lay, lay_int, lay_bool, lay_none, lay_dict, lay_tup, lay_list, lay_ints, sortX_ints, mPlF, mPlI, mRd, mPU, mPB, mFSet, mFNew, mNSet, mPApp, mPSetIx, mPPop, mMeth, mNew, isIns, cellO, mLstN, mAddN, mAppN, semX, mTold, mCallX, xRet, xExpr, xSet, mRaise, mM, isL, isS, mOrV, truD])
local macro_rules | `(tactic| walk_at "es") => `(tactic| simp [semF, shared, after, mSeq, mSkip, mIf, mRet, mRetN, mRetV, mSet, mSetIx, mExpr, mB, mU, mTm, mPl, mK, mVar, mOp, mCons, mNil, bor, bors, mTst, mAndT, mOrT, mNotT, mAndE, mOrE, mNotE, mIfE, mIsi, isiD, mChn, chnL, cmpD, binD, addD, subD, mulD, modD, fdivD, powD, eqD, neD, ltD, leD, gtD, geD, isD, isnD, L2.M.isNon, negD, ixD, Bf.f, Bg.f, lenD, L2.M.intD, maxD, minD, repD, strD, gmaxD, gminD, sumD, sortD, anyD, allD, mCall, frz, fzO, lend, wb, mTup, mLst, fzs, cD, mAsg, bTup, bTps, mApp, tupD, lstD, mRev, revD, ofs_inj, ee_ii, ee_ss, ee_bb, ee_nn, ee_is, ee_si, ee_in, ee_ni, ee_tt, ee_ll, ee_maps, ee_0, ee_1, ee_2, ee_3, at_lit, at_nat, at_m1, at_m2, scD, emD, sizeLine_eq, ixN, sm_lit, mSrc, itemsD, plOf, rng1D, bNm, mSl, mPt, mNoP, slD, mPar, keepT, tmsO, setA, mFlow, zipX, enumX, itemsX, intsOf, ints_all, boolsOf, shaped_lay, lay_int, lay_bool, lay_none, lay_dict, lay_tup, lay_list, lay_ints, sortX_ints, mPlF, mPlI, mRd, mPU, mPB, mFSet, mFNew, mNSet, mPApp, mPSetIx, mPPop, mMeth, mNew, isIns, cellO, mLstN, mAddN, mAppN, semX, mTold, mCallX, xRet, xExpr, xSet, mRaise, mM, isL, isS, mOrV, truD, *])
local macro_rules | `(tactic| walk_at "el") => `(tactic| simp [semF, shared, after, mSeq, mSkip, mIf, mRet, mRetN, mRetV, mSet, mSetIx, mExpr, mB, mU, mTm, mPl, mK, mVar, mOp, mCons, mNil, bor, bors, mTst, mAndT, mOrT, mNotT, mAndE, mOrE, mNotE, mIfE, mIsi, isiD, mChn, chnL, cmpD, binD, addD, subD, mulD, modD, fdivD, powD, eqD, neD, ltD, leD, gtD, geD, isD, isnD, L2.M.isNon, negD, ixD, Bf.f, Bg.f, lenD, L2.M.intD, maxD, minD, repD, strD, gmaxD, gminD, sumD, sortD, anyD, allD, mCall, frz, fzO, lend, wb, mTup, mLst, fzs, cD, mAsg, bTup, bTps, mApp, tupD, lstD, mRev, revD, ofs_inj, ee_ii, ee_ss, ee_bb, ee_nn, ee_is, ee_si, ee_in, ee_ni, ee_tt, ee_ll, ee_maps, ee_0, ee_1, ee_2, ee_3, at_lit, at_nat, at_m1, at_m2, scD, emD, sizeLine_eq, ixN, sm_lit, mSrc, itemsD, plOf, rng1D, bNm, mSl, mPt, mNoP, slD, mPar, keepT, tmsO, setA, mFlow, zipX, enumX, itemsX, intsOf, ints_all, boolsOf, shaped_lay, lay_int, lay_bool, lay_none, lay_dict, lay_tup, lay_list, lay_ints, sortX_ints, mPlF, mPlI, mRd, mPU, mPB, mFSet, mFNew, mNSet, mPApp, mPSetIx, mPPop, mMeth, mNew, isIns, cellO, mLstN, mAddN, mAppN, semX, mTold, mCallX, xRet, xExpr, xSet, mRaise, mM, isL, isS, mOrV, truD, mLc, lcL, sameC, wipeC, restC, mYes, *])
local macro_rules | `(tactic| walk_at "ef") => `(tactic| simp [semF, shared, after, mSeq, mSkip, mIf, mRet, mRetN, mRetV, mSet, mSetIx, mExpr, mB, mU, mTm, mPl, mK, mVar, mOp, mCons, mNil, bor, bors, mTst, mAndT, mOrT, mNotT, mAndE, mOrE, mNotE, mIfE, mIsi, isiD, mChn, chnL, cmpD, binD, addD, subD, mulD, modD, fdivD, powD, eqD, neD, ltD, leD, gtD, geD, isD, isnD, L2.M.isNon, negD, ixD, Bf.f, Bg.f, lenD, L2.M.intD, maxD, minD, repD, strD, gmaxD, gminD, sumD, sortD, anyD, allD, mCall, frz, fzO, lend, wb, mTup, mLst, fzs, cD, mAsg, bTup, bTps, mApp, tupD, lstD, mRev, revD, ofs_inj, ee_ii, ee_ss, ee_bb, ee_nn, ee_is, ee_si, ee_in, ee_ni, ee_tt, ee_ll, ee_maps, ee_0, ee_1, ee_2, ee_3, at_lit, at_nat, at_m1, at_m2, scD, emD, sizeLine_eq, ixN, sm_lit, mSrc, itemsD, plOf, rng1D, bNm, mSl, mPt, mNoP, slD, mPar, keepT, tmsO, setA, mFlow, zipX, enumX, itemsX, intsOf, ints_all, boolsOf, shaped_lay, lay_int, lay_bool, lay_none, lay_dict, lay_tup, lay_list, lay_ints, sortX_ints, mPlF, mPlI, mRd, mPU, mPB, mFSet, mFNew, mNSet, mPApp, mPSetIx, mPPop, mMeth, mNew, isIns, cellO, mLstN, mAddN, mAppN, semX, mTold, mCallX, xRet, xExpr, xSet, mRaise, mM, isL, isS, mOrV, truD, mFor, forL, mLc, lcL, sameC, wipeC, restC, mYes, *])
local macro_rules | `(tactic| walk_at "rg") => `(tactic| (and_intros <;> grind))
local macro_rules | `(tactic| walk_at "nx") => `(tactic| (apply wx_nx; focus (walk_at "ev"; try first | exact ⟨rfl, rfl⟩ | rfl)))
local macro_rules | `(tactic| walk_at "ns") => `(tactic| (apply wx_nx; focus (walk_at "es"; try first | exact ⟨rfl, rfl⟩ | rfl)))
local macro_rules | `(tactic| walk_at "rt") => `(tactic| (apply wx_rt; focus (walk_at "ev"; try first | exact ⟨rfl, rfl⟩ | rfl)))
local macro_rules | `(tactic| walk_at "rs") => `(tactic| (apply wx_rt; focus (walk_at "es"; try first | exact ⟨rfl, rfl⟩ | rfl)))
local macro_rules | `(tactic| walk_at "ed") => `(tactic| simp [semF, shared, after, mSeq, mSkip, mIf, mRet, mRetN, mRetV, mSet, mSetIx, mExpr, mB, mU, mTm, mPl, mK, mVar, mOp, mCons, mNil, bor, bors, mTst, mAndT, mOrT, mNotT, mAndE, mOrE, mNotE, mIfE, mIsi, isiD, mChn, chnL, cmpD, binD, addD, subD, mulD, modD, fdivD, powD, eqD, neD, ltD, leD, gtD, geD, isD, isnD, L2.M.isNon, negD, ixD, Bf.f, Bg.f, lenD, L2.M.intD, maxD, minD, repD, strD, gmaxD, gminD, sumD, sortD, anyD, allD, mCall, frz, fzO, lend, wb, mTup, mLst, fzs, cD, mAsg, bTup, bTps, mApp, tupD, lstD, mRev, revD, ofs_inj, ee_ii, ee_ss, ee_bb, ee_nn, ee_is, ee_si, ee_in, ee_ni, ee_tt, ee_ll, ee_maps, ee_0, ee_1, ee_2, ee_3, at_lit, at_nat, at_m1, at_m2, scD, emD, sizeLine_eq, ixN, sm_lit, mSrc, itemsD, plOf, rng1D, bNm, mSl, mPt, mNoP, slD, mPar, keepT, tmsO, setA, mFlow, zipX, enumX, itemsX, intsOf, ints_all, boolsOf, shaped_lay, lay_int, lay_bool, lay_none, lay_dict, lay_tup, lay_list, lay_ints, sortX_ints, mPlF, mPlI, mRd, mPU, mPB, mFSet, mFNew, mNSet, mPApp, mPSetIx, mPPop, mMeth, mNew, isIns, cellO, mLstN, mAddN, mAppN, semX, mTold, mCallX, xRet, xExpr, xSet, mRaise, mM, isL, isS, mOrV, truD, mDNew, mDIn, mDGet, mDLen, mDPut, kyD, mNNew, mN1, mTake, mFnV, mCallF, mNIn, mNGet, mNPut, mNVals, mNList, nKs, mDGetD, mDList, mNNe, *])
structure Pz where
  (p r c f : Int)
def Pz.d (z : Pz) : PyData := .tuple [.int z.p, .int z.r, .int z.c, .int z.f]
structure Pz.Ok (z : Pz) : Prop where
  p0 : 0 ≤ z.p
  p1 : z.p ≤ 1000
  r0 : 1 ≤ z.r
  r1 : z.r ≤ 1000
  f0 : 0 ≤ z.f
  f1 : z.f ≤ z.c
  c1 : z.c ≤ 10000
def pin (z : Pz) (c : Int) : Int := if c + z.p < z.c then c + z.p else z.c
/-- paying as soon as can be -/
def gr (z : Pz) : Int → Nat → Int
  | c, 0 => c / z.r
  | c, m + 1 => c / z.r + gr z (pin z (c % z.r)) m
/-- .. behind what is left -/
def sp (z : Pz) : Int → Nat → Int
  | _, 0 => 0
  | c, m + 1 => pin z c / z.r + sp z (pin z c % z.r) m
def cj (z : Pz) : Int → Nat → Int
  | c, 0 => c
  | c, m + 1 => cj z (pin z c % z.r) m
theorem gr_sp (z : Pz) : ∀ (m : Nat) (c : Int), gr z c m = c / z.r + sp z (c % z.r) m
  | 0, c => by simp [gr, sp]
  | m + 1, c => by
    rw [gr, sp, gr_sp z m]
theorem sp_add (z : Pz) : ∀ (j n : Nat) (c : Int), sp z c (j + n) = sp z c j + sp z (cj z c j) n
  | 0, n, c => by simp [sp, cj]
  | j + 1, n, c => by
    rw [show j + 1 + n = (j + n) + 1 by omega, sp, sp, cj, sp_add z j n]
    omega
theorem cj_s (z : Pz) : ∀ (j : Nat) (c : Int), cj z c (j + 1) = pin z (cj z c j) % z.r
  | 0, c => rfl
  | j + 1, c => by
    rw [cj, cj_s z j]
    rfl
theorem sp_s (z : Pz) (j : Nat) (c : Int) : sp z c (j + 1) = sp z c j + pin z (cj z c j) / z.r := by
  rw [sp_add z j 1 c]
  simp [sp]
/-- round and round -/
theorem sp_rounds (z : Pz) {c : Int} {L : Nat} (h : cj z c L = c) : ∀ q n : Nat, sp z c (q * L + n) = q * sp z c L + sp z c n
  | 0, n => by simp
  | q + 1, n => by
    rw [show (q + 1) * L + n = L + (q * L + n) by rw [Nat.add_mul]; omega, sp_add, h, sp_rounds z h q n]
    have : ((q + 1 : Nat) : Int) * sp z c L = q * sp z c L + sp z c L := by
      rw [Int.natCast_add, Int.add_mul]
      simp
    omega
section
variable {z : Pz} (h : z.Ok)
include h
theorem pin_b {c : Int} (h0 : 0 ≤ c) : 0 ≤ pin z c ∧ pin z c ≤ c + z.p ∧ pin z c ≤ z.c := by
  have := h.p0
  have := h.f0
  have := h.f1
  unfold pin
  split <;> omega
theorem md_b (c : Int) : 0 ≤ c % z.r ∧ c % z.r < z.r := by
  have := h.r0
  exact ⟨Int.emod_nonneg _ (by omega), Int.emod_lt_of_pos _ (by omega)⟩
theorem cj_b {c : Int} (h0 : 0 ≤ c ∧ c < z.r) : ∀ j, 0 ≤ cj z c j ∧ cj z c j < z.r
  | 0 => h0
  | j + 1 => by
    rw [cj_s]
    exact md_b h _
theorem sp_b {c : Int} (h0 : 0 ≤ c ∧ c < z.r) : ∀ j : Nat, 0 ≤ sp z c j ∧ sp z c j ≤ j * 2000
  | 0 => by simp [sp]
  | j + 1 => by
    rw [sp_s]
    have h1 := sp_b h0 j
    have h2 := cj_b h h0 j
    have h3 := pin_b h h2.1
    have h4 : 0 ≤ pin z (cj z c j) / z.r := Int.ediv_nonneg h3.1 (by have := h.r0; omega)
    have h5 : pin z (cj z c j) / z.r ≤ pin z (cj z c j) := Int.ediv_le_self _ h3.1
    have := h.r1
    have := h.p1
    have e : ((j + 1 : Nat) : Int) * 2000 = j * 2000 + 2000 := by omega
    omega
theorem gr_r (c : Int) : ∀ m, gr z (c + z.r) m = gr z c m + 1 := by
  intro m
  have hr := h.r0
  rw [gr_sp, gr_sp]
  have e1 : (c + z.r) / z.r = c / z.r + 1 := by
    rw [Int.add_ediv_of_dvd_right (Int.dvd_refl _), Int.ediv_self (by omega)]
  have e2 : (c + z.r) % z.r = c % z.r := Int.add_emod_right _ _
  rw [e1, e2]
  omega
theorem gr_rk (c : Int) (m : Nat) : ∀ j : Nat, gr z (c + j * z.r) m = gr z c m + j
  | 0 => by simp
  | j + 1 => by
    have e : c + ((j + 1 : Nat) : Int) * z.r = (c + j * z.r) + z.r := by
      rw [Int.natCast_add, Int.add_mul]
      simp
      omega
    rw [e, gr_r h, gr_rk c m j]
    omega
theorem gr_mono : ∀ (m : Nat) {c c' : Int}, c ≤ c' → gr z c m ≤ gr z c' m
  | 0, c, c', hc => Int.ediv_le_ediv (by have := h.r0; omega) hc
  | m + 1, c, c', hc => by
    have hr := h.r0
    rw [gr, gr]
    have h1 : c / z.r ≤ c' / z.r := Int.ediv_le_ediv (by omega) hc
    have b1 := md_b h c
    have b2 := md_b h c'
    have e1 := Int.emod_add_mul_ediv c z.r
    have e2 := Int.emod_add_mul_ediv c' z.r
    by_cases q : c / z.r = c' / z.r
    · rw [q] at e1 ⊢
      have : pin z (c % z.r) ≤ pin z (c' % z.r) := by
        unfold pin
        split <;> split <;> omega
      have := gr_mono m this
      omega
    · have : pin z (c % z.r) ≤ pin z (c' % z.r) + z.r := by
        unfold pin
        split <;> split <;> omega
      have := gr_mono m this
      rw [gr_r h] at this
      omega
/-- nobody pays more -/
theorem gr_best {c k : Int} (h0 : 0 ≤ c) (hk : 0 ≤ k) (hk2 : k ≤ c / z.r) (m : Nat) : k + gr z (pin z (c - k * z.r)) m ≤ gr z c (m + 1) := by
  have hr := h.r0
  rw [gr]
  obtain ⟨j, hj⟩ : ∃ j : Nat, c / z.r - k = j := ⟨(c / z.r - k).toNat, by omega⟩
  have e1 := Int.emod_add_mul_ediv c z.r
  have e2 : c - k * z.r = c % z.r + j * z.r := by
    rw [← hj, Int.sub_mul, Int.mul_comm (c / z.r) z.r]
    omega
  have hj0 : 0 ≤ (j : Int) * z.r := Int.mul_nonneg (by omega) (by omega)
  have : pin z (c - k * z.r) ≤ pin z (c % z.r) + j * z.r := by
    rw [e2]
    unfold pin
    split <;> split <;> omega
  have := gr_mono h m this
  rw [gr_rk h] at this
  omega
theorem gr_nn : ∀ (m : Nat) {c : Int}, 0 ≤ c → 0 ≤ gr z c m
  | 0, c, hc => Int.ediv_nonneg hc (by have := h.r0; omega)
  | m + 1, c, hc => by
    rw [gr]
    have h1 : 0 ≤ c / z.r := Int.ediv_nonneg hc (by have := h.r0; omega)
    have := gr_nn m (pin_b h (md_b h c).1).1
    omega
/-- coins are kept -/
theorem gr_kept : ∀ (m : Nat) {c : Int}, 0 ≤ c → gr z c m * z.r ≤ c + m * z.p
  | 0, c, hc => by
    have hr := h.r0
    have b1 := md_b h c
    have e1 := Int.emod_add_mul_ediv c z.r
    rw [gr, Int.mul_comm]
    simp
    omega
  | m + 1, c, hc => by
    have hr := h.r0
    have b1 := md_b h c
    have e1 := Int.emod_add_mul_ediv c z.r
    have b2 := pin_b h b1.1
    have ih := gr_kept m b2.1
    rw [gr, Int.add_mul]
    have e2 : ((m + 1 : Nat) : Int) * z.p = m * z.p + z.p := by
      rw [Int.natCast_add, Int.add_mul]
      simp
    rw [e2, Int.mul_comm (c / z.r) z.r]
    omega
end
def kdE {β : Type} (val : β → PyData) (E : List (Int × β)) : List (PyData × PyData) := E.map fun e => (.int e.1, val e.2)
def lkE {β : Type} (E : List (Int × β)) (c : Int) : Option β := (E.find? fun e => decide (e.1 = c)).map (·.2)
def ptE {β : Type} (E : List (Int × β)) (c : Int) (b : β) : List (Int × β) := if (E.any fun e => decide (e.1 = c)) = true then E.map (fun e => if e.1 = c then (e.1, b) else e) else E ++ [(c, b)]
theorem dLk_int {β : Type} (val : β → PyData) : ∀ (E : List (Int × β)) (c : Int), dLk (kdE val E) (.int c) = (lkE E c).map val
  | [], c => rfl
  | e :: E, c => by
    have ih := dLk_int val E c
    unfold dLk lkE kdE at ih ⊢
    rw [List.map_cons, List.find?_cons, List.find?_cons, ee_ii]
    by_cases q : e.1 = c
    · rw [decide_eq_true q]
      rfl
    · rw [decide_eq_false q]
      exact ih
theorem any_int {β : Type} (val : β → PyData) : ∀ (E : List (Int × β)) (c : Int), ((kdE val E).any fun p => PyData.eqv p.1 (.int c)) = E.any fun e => decide (e.1 = c)
  | [], c => rfl
  | e :: E, c => by
    have ih := any_int val E c
    unfold kdE at ih ⊢
    rw [List.map_cons, List.any_cons, List.any_cons, ee_ii, ih]
theorem dPt_int {β : Type} (val : β → PyData) (E : List (Int × β)) (c : Int) (b : β) : dPt (kdE val E) (.int c) (val b) = kdE val (ptE E c b) := by
  unfold dPt ptE
  rw [any_int]
  split
  · unfold kdE
    rw [List.map_map, List.map_map]
    refine List.map_congr_left fun e _ => ?_
    simp only [Function.comp, ee_ii, decide_eq_true_eq]
    split <;> rfl
  · unfold kdE
    rw [List.map_append]
    rfl
theorem lkE_some {β : Type} {E : List (Int × β)} {c : Int} {b : β} (h : lkE E c = some b) : (c, b) ∈ E := by
  unfold lkE at h
  obtain ⟨e, h1, rfl⟩ := Option.map_eq_some_iff.mp h
  have h2 := List.find?_some h1
  simp at h2
  have := List.mem_of_find?_eq_some h1
  rw [← h2]
  exact this
theorem ptE_mem {β : Type} {E : List (Int × β)} {c : Int} {b : β} {x : Int × β} (h : x ∈ ptE E c b) : x = (c, b) ∨ (x ∈ E ∧ x.1 ≠ c) := by
  unfold ptE at h
  split at h
  · obtain ⟨e, he, rfl⟩ := List.mem_map.mp h
    split
    · rename_i q
      exact .inl (by rw [q])
    · rename_i q
      exact .inr ⟨he, q⟩
  · rename_i q
    rcases List.mem_append.mp h with h | h
    · refine .inr ⟨h, fun e => q ?_⟩
      rw [List.any_eq_true]
      exact ⟨x, h, by simpa using e⟩
    · exact .inl (List.mem_singleton.mp h)
theorem ptE_has {β : Type} (E : List (Int × β)) (c : Int) (b : β) : (c, b) ∈ ptE E c b := by
  unfold ptE
  split
  · rename_i q
    obtain ⟨e, he, q2⟩ := List.any_eq_true.mp q
    have q2 : e.1 = c := by simpa using q2
    exact List.mem_map.mpr ⟨e, he, by rw [if_pos q2, q2]⟩
  · simp
theorem ptE_old {β : Type} {E : List (Int × β)} {c : Int} {b : β} {x : Int × β} (h : x ∈ E) (hx : x.1 ≠ c) : x ∈ ptE E c b := by
  unfold ptE
  split
  · exact List.mem_map.mpr ⟨x, h, by rw [if_neg hx]⟩
  · exact List.mem_append_left _ h
theorem ptE_keys {β : Type} (E : List (Int × β)) (c : Int) (b : β) : (ptE E c b).map (·.1) = if (E.any fun e => decide (e.1 = c)) = true then E.map (·.1) else E.map (·.1) ++ [c] := by
  unfold ptE
  split
  · rw [List.map_map]
    refine List.map_congr_left fun e _ => ?_
    simp only [Function.comp]
    split <;> rfl
  · rw [List.map_append]
    rfl
theorem ptE_nd {β : Type} {E : List (Int × β)} (h : (E.map (·.1)).Nodup) (c : Int) (b : β) : ((ptE E c b).map (·.1)).Nodup := by
  rw [ptE_keys]
  split
  · exact h
  · rename_i q
    rw [List.nodup_append]
    refine ⟨h, by simp, fun x hx y hy e => q ?_⟩
    obtain ⟨z, hz, rfl⟩ := List.mem_map.mp hx
    rw [List.any_eq_true]
    exact ⟨z, hz, by rw [List.mem_singleton.mp hy] at e; simpa using e⟩
/-- so many keys as there are numbers -/
theorem keys_len {β : Type} {E : List (Int × β)} (h : (E.map (·.1)).Nodup) {n : Nat} (hb : ∀ e ∈ E, 0 ≤ e.1 ∧ e.1 < (n : Int)) : E.length ≤ n := by
  have e : ((E.map (·.1)).map Int.toNat).Nodup := by
    rw [List.Nodup, List.pairwise_map]
    refine h.imp_of_mem fun {a b} ha hb' hne => ?_
    obtain ⟨x, hx, rfl⟩ := List.mem_map.mp ha
    obtain ⟨y, hy, rfl⟩ := List.mem_map.mp hb'
    have := hb x hx
    have := hb y hy
    omega
  have hs : ∀ x ∈ (E.map (·.1)).map Int.toNat, x ∈ List.range n := by
    intro x hx
    rw [List.map_map] at hx
    obtain ⟨y, hy, rfl⟩ := List.mem_map.mp hx
    have := hb y hy
    rw [List.mem_range]
    show y.1.toNat < n
    omega
  have key : ∀ (R L : List Nat), R.Nodup → (∀ x ∈ R, x ∈ L) → R.length ≤ L.length := by
    intro R
    induction R with
    | nil => intro L _ _; simp
    | cons a R ih =>
      intro L hn hs
      have ha := hs a List.mem_cons_self
      have hn2 := List.nodup_cons.mp hn
      have h1 := ih (L.erase a) hn2.2 fun x hx => by
        have hne : x ≠ a := fun e => hn2.1 (e ▸ hx)
        exact (List.mem_erase_of_ne hne).mpr (hs x (List.mem_cons_of_mem _ hx))
      rw [List.length_erase_of_mem ha] at h1
      have : 0 < L.length := List.length_pos_of_mem ha
      simp only [List.length_cons]
      omega
  have := key _ _ e hs
  simpa using this
end KW
namespace KW
open PySem PySem.Spec PyProof.Rows L2 L2.M
local macro_rules | `(tactic| walk_at "ev") => `(tactic| simp [semF, shared, after, mSeq, mSkip, mIf, mRet, mRetN, mRetV, mSet, mSetIx, mExpr, mB, mU, mTm, mPl, mK, mVar, mOp, mCons, mNil, bor, bors, mTst, mAndT, mOrT, mNotT, mAndE, mOrE, mNotE, mIfE, mIsi, isiD, mChn, chnL, cmpD, binD, addD, subD, mulD, modD, fdivD, powD, eqD, neD, ltD, leD, gtD, geD, isD, isnD, L2.M.isNon, negD, ixD, Bf.f, Bg.f, lenD, L2.M.intD, maxD, minD, repD, strD, gmaxD, gminD, sumD, sortD, anyD, allD, mCall, frz, fzO, lend, wb, mTup, mLst, fzs, cD, mAsg, bTup, bTps, mApp, tupD, lstD, mRev, revD, ofs_inj, ee_ii, ee_ss, ee_bb, ee_nn, ee_is, ee_si, ee_in, ee_ni, ee_tt, ee_ll, ee_maps, ee_0, ee_1, ee_2, ee_3, at_lit, at_nat, at_m1, at_m2, scD, emD, sizeLine_eq, ixN, sm_lit, mSrc, itemsD, plOf, rng1D, bNm, mSl, mPt, mNoP, slD, mPar, keepT, tmsO, setA, mFlow, zipX, enumX, itemsX, intsOf, ints_all, boolsOf, shaped_lay, lay_int, lay_bool, lay_none, lay_dict, lay_tup, lay_list, lay_ints, sortX_ints, mPlF, mPlI, mRd, mPU, mPB, mFSet, mFNew, mNSet, mPApp, mPSetIx, mPPop, mMeth, mNew, isIns, cellO, mLstN, mAddN, mAppN, semX, mTold, mCallX, xRet, xExpr, xSet, mRaise, mM, isL, isS, mOrV, truD])
local macro_rules | `(tactic| walk_at "es") => `(tactic| simp [semF, shared, after, mSeq, mSkip, mIf, mRet, mRetN, mRetV, mSet, mSetIx, mExpr, mB, mU, mTm, mPl, mK, mVar, mOp, mCons, mNil, bor, bors, mTst, mAndT, mOrT, mNotT, mAndE, mOrE, mNotE, mIfE, mIsi, isiD, mChn, chnL, cmpD, binD, addD, subD, mulD, modD, fdivD, powD, eqD, neD, ltD, leD, gtD, geD, isD, isnD, L2.M.isNon, negD, ixD, Bf.f, Bg.f, lenD, L2.M.intD, maxD, minD, repD, strD, gmaxD, gminD, sumD, sortD, anyD, allD, mCall, frz, fzO, lend, wb, mTup, mLst, fzs, cD, mAsg, bTup, bTps, mApp, tupD, lstD, mRev, revD, ofs_inj, ee_ii, ee_ss, ee_bb, ee_nn, ee_is, ee_si, ee_in, ee_ni, ee_tt, ee_ll, ee_maps, ee_0, ee_1, ee_2, ee_3, at_lit, at_nat, at_m1, at_m2, scD, emD, sizeLine_eq, ixN, sm_lit, mSrc, itemsD, plOf, rng1D, bNm, mSl, mPt, mNoP, slD, mPar, keepT, tmsO, setA, mFlow, zipX, enumX, itemsX, intsOf, ints_all, boolsOf, shaped_lay, lay_int, lay_bool, lay_none, lay_dict, lay_tup, lay_list, lay_ints, sortX_ints, mPlF, mPlI, mRd, mPU, mPB, mFSet, mFNew, mNSet, mPApp, mPSetIx, mPPop, mMeth, mNew, isIns, cellO, mLstN, mAddN, mAppN, semX, mTold, mCallX, xRet, xExpr, xSet, mRaise, mM, isL, isS, mOrV, truD, *])
local macro_rules | `(tactic| walk_at "el") => `(tactic| simp [semF, shared, after, mSeq, mSkip, mIf, mRet, mRetN, mRetV, mSet, mSetIx, mExpr, mB, mU, mTm, mPl, mK, mVar, mOp, mCons, mNil, bor, bors, mTst, mAndT, mOrT, mNotT, mAndE, mOrE, mNotE, mIfE, mIsi, isiD, mChn, chnL, cmpD, binD, addD, subD, mulD, modD, fdivD, powD, eqD, neD, ltD, leD, gtD, geD, isD, isnD, L2.M.isNon, negD, ixD, Bf.f, Bg.f, lenD, L2.M.intD, maxD, minD, repD, strD, gmaxD, gminD, sumD, sortD, anyD, allD, mCall, frz, fzO, lend, wb, mTup, mLst, fzs, cD, mAsg, bTup, bTps, mApp, tupD, lstD, mRev, revD, ofs_inj, ee_ii, ee_ss, ee_bb, ee_nn, ee_is, ee_si, ee_in, ee_ni, ee_tt, ee_ll, ee_maps, ee_0, ee_1, ee_2, ee_3, at_lit, at_nat, at_m1, at_m2, scD, emD, sizeLine_eq, ixN, sm_lit, mSrc, itemsD, plOf, rng1D, bNm, mSl, mPt, mNoP, slD, mPar, keepT, tmsO, setA, mFlow, zipX, enumX, itemsX, intsOf, ints_all, boolsOf, shaped_lay, lay_int, lay_bool, lay_none, lay_dict, lay_tup, lay_list, lay_ints, sortX_ints, mPlF, mPlI, mRd, mPU, mPB, mFSet, mFNew, mNSet, mPApp, mPSetIx, mPPop, mMeth, mNew, isIns, cellO, mLstN, mAddN, mAppN, semX, mTold, mCallX, xRet, xExpr, xSet, mRaise, mM, isL, isS, mOrV, truD, mLc, lcL, sameC, wipeC, restC, mYes, *])
local macro_rules | `(tactic| walk_at "ef") => `(tactic| simp [semF, shared, after, mSeq, mSkip, mIf, mRet, mRetN, mRetV, mSet, mSetIx, mExpr, mB, mU, mTm, mPl, mK, mVar, mOp, mCons, mNil, bor, bors, mTst, mAndT, mOrT, mNotT, mAndE, mOrE, mNotE, mIfE, mIsi, isiD, mChn, chnL, cmpD, binD, addD, subD, mulD, modD, fdivD, powD, eqD, neD, ltD, leD, gtD, geD, isD, isnD, L2.M.isNon, negD, ixD, Bf.f, Bg.f, lenD, L2.M.intD, maxD, minD, repD, strD, gmaxD, gminD, sumD, sortD, anyD, allD, mCall, frz, fzO, lend, wb, mTup, mLst, fzs, cD, mAsg, bTup, bTps, mApp, tupD, lstD, mRev, revD, ofs_inj, ee_ii, ee_ss, ee_bb, ee_nn, ee_is, ee_si, ee_in, ee_ni, ee_tt, ee_ll, ee_maps, ee_0, ee_1, ee_2, ee_3, at_lit, at_nat, at_m1, at_m2, scD, emD, sizeLine_eq, ixN, sm_lit, mSrc, itemsD, plOf, rng1D, bNm, mSl, mPt, mNoP, slD, mPar, keepT, tmsO, setA, mFlow, zipX, enumX, itemsX, intsOf, ints_all, boolsOf, shaped_lay, lay_int, lay_bool, lay_none, lay_dict, lay_tup, lay_list, lay_ints, sortX_ints, mPlF, mPlI, mRd, mPU, mPB, mFSet, mFNew, mNSet, mPApp, mPSetIx, mPPop, mMeth, mNew, isIns, cellO, mLstN, mAddN, mAppN, semX, mTold, mCallX, xRet, xExpr, xSet, mRaise, mM, isL, isS, mOrV, truD, mFor, forL, mLc, lcL, sameC, wipeC, restC, mYes, *])
local macro_rules | `(tactic| walk_at "rg") => `(tactic| (and_intros <;> grind))
local macro_rules | `(tactic| walk_at "nx") => `(tactic| (apply wx_nx; focus (walk_at "ev"; try first | exact ⟨rfl, rfl⟩ | rfl)))
local macro_rules | `(tactic| walk_at "ns") => `(tactic| (apply wx_nx; focus (walk_at "es"; try first | exact ⟨rfl, rfl⟩ | rfl)))
local macro_rules | `(tactic| walk_at "rt") => `(tactic| (apply wx_rt; focus (walk_at "ev"; try first | exact ⟨rfl, rfl⟩ | rfl)))
local macro_rules | `(tactic| walk_at "rs") => `(tactic| (apply wx_rt; focus (walk_at "es"; try first | exact ⟨rfl, rfl⟩ | rfl)))
local macro_rules | `(tactic| walk_at "ed") => `(tactic| simp [semF, shared, after, mSeq, mSkip, mIf, mRet, mRetN, mRetV, mSet, mSetIx, mExpr, mB, mU, mTm, mPl, mK, mVar, mOp, mCons, mNil, bor, bors, mTst, mAndT, mOrT, mNotT, mAndE, mOrE, mNotE, mIfE, mIsi, isiD, mChn, chnL, cmpD, binD, addD, subD, mulD, modD, fdivD, powD, eqD, neD, ltD, leD, gtD, geD, isD, isnD, L2.M.isNon, negD, ixD, Bf.f, Bg.f, lenD, L2.M.intD, maxD, minD, repD, strD, gmaxD, gminD, sumD, sortD, anyD, allD, mCall, frz, fzO, lend, wb, mTup, mLst, fzs, cD, mAsg, bTup, bTps, mApp, tupD, lstD, mRev, revD, ofs_inj, ee_ii, ee_ss, ee_bb, ee_nn, ee_is, ee_si, ee_in, ee_ni, ee_tt, ee_ll, ee_maps, ee_0, ee_1, ee_2, ee_3, at_lit, at_nat, at_m1, at_m2, scD, emD, sizeLine_eq, ixN, sm_lit, mSrc, itemsD, plOf, rng1D, bNm, mSl, mPt, mNoP, slD, mPar, keepT, tmsO, setA, mFlow, zipX, enumX, itemsX, intsOf, ints_all, boolsOf, shaped_lay, lay_int, lay_bool, lay_none, lay_dict, lay_tup, lay_list, lay_ints, sortX_ints, mPlF, mPlI, mRd, mPU, mPB, mFSet, mFNew, mNSet, mPApp, mPSetIx, mPPop, mMeth, mNew, isIns, cellO, mLstN, mAddN, mAppN, semX, mTold, mCallX, xRet, xExpr, xSet, mRaise, mM, isL, isS, mOrV, truD, mDNew, mDIn, mDGet, mDLen, mDPut, kyD, mNNew, mN1, mTake, mFnV, mCallF, mNIn, mNGet, mNPut, mNVals, mNList, nKs, mDGetD, mDList, mNNe, *])
end KW
namespace KW
open PySem PySem.Spec PyProof.Rows L2 L2.M
local macro_rules | `(tactic| walk_at "ev") => `(tactic| simp [semF, shared, after, mSeq, mSkip, mIf, mRet, mRetN, mRetV, mSet, mSetIx, mExpr, mB, mU, mTm, mPl, mK, mVar, mOp, mCons, mNil, bor, bors, mTst, mAndT, mOrT, mNotT, mAndE, mOrE, mNotE, mIfE, mIsi, isiD, mChn, chnL, cmpD, binD, addD, subD, mulD, modD, fdivD, powD, eqD, neD, ltD, leD, gtD, geD, isD, isnD, L2.M.isNon, negD, ixD, Bf.f, Bg.f, lenD, L2.M.intD, maxD, minD, repD, strD, gmaxD, gminD, sumD, sortD, anyD, allD, mCall, frz, fzO, lend, wb, mTup, mLst, fzs, cD, mAsg, bTup, bTps, mApp, tupD, lstD, mRev, revD, ofs_inj, ee_ii, ee_ss, ee_bb, ee_nn, ee_is, ee_si, ee_in, ee_ni, ee_tt, ee_ll, ee_maps, ee_0, ee_1, ee_2, ee_3, at_lit, at_nat, at_m1, at_m2, scD, emD, sizeLine_eq, ixN, sm_lit, mSrc, itemsD, plOf, rng1D, bNm, mSl, mPt, mNoP, slD, mPar, keepT, tmsO, setA, mFlow, zipX, enumX, itemsX, intsOf, ints_all, boolsOf, shaped_lay, lay_int, lay_bool, lay_none, lay_dict, lay_tup, lay_list, lay_ints, sortX_ints, mPlF, mPlI, mRd, mPU, mPB, mFSet, mFNew, mNSet, mPApp, mPSetIx, mPPop, mMeth, mNew, isIns, cellO, mLstN, mAddN, mAppN, semX, mTold, mCallX, xRet, xExpr, xSet, mRaise, mM, isL, isS, mOrV, truD])
local macro_rules | `(tactic| walk_at "es") => `(tactic| simp [semF, shared, after, mSeq, mSkip, mIf, mRet, mRetN, mRetV, mSet, mSetIx, mExpr, mB, mU, mTm, mPl, mK, mVar, mOp, mCons, mNil, bor, bors, mTst, mAndT, mOrT, mNotT, mAndE, mOrE, mNotE, mIfE, mIsi, isiD, mChn, chnL, cmpD, binD, addD, subD, mulD, modD, fdivD, powD, eqD, neD, ltD, leD, gtD, geD, isD, isnD, L2.M.isNon, negD, ixD, Bf.f, Bg.f, lenD, L2.M.intD, maxD, minD, repD, strD, gmaxD, gminD, sumD, sortD, anyD, allD, mCall, frz, fzO, lend, wb, mTup, mLst, fzs, cD, mAsg, bTup, bTps, mApp, tupD, lstD, mRev, revD, ofs_inj, ee_ii, ee_ss, ee_bb, ee_nn, ee_is, ee_si, ee_in, ee_ni, ee_tt, ee_ll, ee_maps, ee_0, ee_1, ee_2, ee_3, at_lit, at_nat, at_m1, at_m2, scD, emD, sizeLine_eq, ixN, sm_lit, mSrc, itemsD, plOf, rng1D, bNm, mSl, mPt, mNoP, slD, mPar, keepT, tmsO, setA, mFlow, zipX, enumX, itemsX, intsOf, ints_all, boolsOf, shaped_lay, lay_int, lay_bool, lay_none, lay_dict, lay_tup, lay_list, lay_ints, sortX_ints, mPlF, mPlI, mRd, mPU, mPB, mFSet, mFNew, mNSet, mPApp, mPSetIx, mPPop, mMeth, mNew, isIns, cellO, mLstN, mAddN, mAppN, semX, mTold, mCallX, xRet, xExpr, xSet, mRaise, mM, isL, isS, mOrV, truD, *])
local macro_rules | `(tactic| walk_at "el") => `(tactic| simp [semF, shared, after, mSeq, mSkip, mIf, mRet, mRetN, mRetV, mSet, mSetIx, mExpr, mB, mU, mTm, mPl, mK, mVar, mOp, mCons, mNil, bor, bors, mTst, mAndT, mOrT, mNotT, mAndE, mOrE, mNotE, mIfE, mIsi, isiD, mChn, chnL, cmpD, binD, addD, subD, mulD, modD, fdivD, powD, eqD, neD, ltD, leD, gtD, geD, isD, isnD, L2.M.isNon, negD, ixD, Bf.f, Bg.f, lenD, L2.M.intD, maxD, minD, repD, strD, gmaxD, gminD, sumD, sortD, anyD, allD, mCall, frz, fzO, lend, wb, mTup, mLst, fzs, cD, mAsg, bTup, bTps, mApp, tupD, lstD, mRev, revD, ofs_inj, ee_ii, ee_ss, ee_bb, ee_nn, ee_is, ee_si, ee_in, ee_ni, ee_tt, ee_ll, ee_maps, ee_0, ee_1, ee_2, ee_3, at_lit, at_nat, at_m1, at_m2, scD, emD, sizeLine_eq, ixN, sm_lit, mSrc, itemsD, plOf, rng1D, bNm, mSl, mPt, mNoP, slD, mPar, keepT, tmsO, setA, mFlow, zipX, enumX, itemsX, intsOf, ints_all, boolsOf, shaped_lay, lay_int, lay_bool, lay_none, lay_dict, lay_tup, lay_list, lay_ints, sortX_ints, mPlF, mPlI, mRd, mPU, mPB, mFSet, mFNew, mNSet, mPApp, mPSetIx, mPPop, mMeth, mNew, isIns, cellO, mLstN, mAddN, mAppN, semX, mTold, mCallX, xRet, xExpr, xSet, mRaise, mM, isL, isS, mOrV, truD, mLc, lcL, sameC, wipeC, restC, mYes, *])
local macro_rules | `(tactic| walk_at "ef") => `(tactic| simp [semF, shared, after, mSeq, mSkip, mIf, mRet, mRetN, mRetV, mSet, mSetIx, mExpr, mB, mU, mTm, mPl, mK, mVar, mOp, mCons, mNil, bor, bors, mTst, mAndT, mOrT, mNotT, mAndE, mOrE, mNotE, mIfE, mIsi, isiD, mChn, chnL, cmpD, binD, addD, subD, mulD, modD, fdivD, powD, eqD, neD, ltD, leD, gtD, geD, isD, isnD, L2.M.isNon, negD, ixD, Bf.f, Bg.f, lenD, L2.M.intD, maxD, minD, repD, strD, gmaxD, gminD, sumD, sortD, anyD, allD, mCall, frz, fzO, lend, wb, mTup, mLst, fzs, cD, mAsg, bTup, bTps, mApp, tupD, lstD, mRev, revD, ofs_inj, ee_ii, ee_ss, ee_bb, ee_nn, ee_is, ee_si, ee_in, ee_ni, ee_tt, ee_ll, ee_maps, ee_0, ee_1, ee_2, ee_3, at_lit, at_nat, at_m1, at_m2, scD, emD, sizeLine_eq, ixN, sm_lit, mSrc, itemsD, plOf, rng1D, bNm, mSl, mPt, mNoP, slD, mPar, keepT, tmsO, setA, mFlow, zipX, enumX, itemsX, intsOf, ints_all, boolsOf, shaped_lay, lay_int, lay_bool, lay_none, lay_dict, lay_tup, lay_list, lay_ints, sortX_ints, mPlF, mPlI, mRd, mPU, mPB, mFSet, mFNew, mNSet, mPApp, mPSetIx, mPPop, mMeth, mNew, isIns, cellO, mLstN, mAddN, mAppN, semX, mTold, mCallX, xRet, xExpr, xSet, mRaise, mM, isL, isS, mOrV, truD, mFor, forL, mLc, lcL, sameC, wipeC, restC, mYes, *])
local macro_rules | `(tactic| walk_at "rg") => `(tactic| (and_intros <;> grind))
local macro_rules | `(tactic| walk_at "nx") => `(tactic| (apply wx_nx; focus (walk_at "ev"; try first | exact ⟨rfl, rfl⟩ | rfl)))
local macro_rules | `(tactic| walk_at "ns") => `(tactic| (apply wx_nx; focus (walk_at "es"; try first | exact ⟨rfl, rfl⟩ | rfl)))
local macro_rules | `(tactic| walk_at "rt") => `(tactic| (apply wx_rt; focus (walk_at "ev"; try first | exact ⟨rfl, rfl⟩ | rfl)))
local macro_rules | `(tactic| walk_at "rs") => `(tactic| (apply wx_rt; focus (walk_at "es"; try first | exact ⟨rfl, rfl⟩ | rfl)))
local macro_rules | `(tactic| walk_at "ed") => `(tactic| simp [semF, shared, after, mSeq, mSkip, mIf, mRet, mRetN, mRetV, mSet, mSetIx, mExpr, mB, mU, mTm, mPl, mK, mVar, mOp, mCons, mNil, bor, bors, mTst, mAndT, mOrT, mNotT, mAndE, mOrE, mNotE, mIfE, mIsi, isiD, mChn, chnL, cmpD, binD, addD, subD, mulD, modD, fdivD, powD, eqD, neD, ltD, leD, gtD, geD, isD, isnD, L2.M.isNon, negD, ixD, Bf.f, Bg.f, lenD, L2.M.intD, maxD, minD, repD, strD, gmaxD, gminD, sumD, sortD, anyD, allD, mCall, frz, fzO, lend, wb, mTup, mLst, fzs, cD, mAsg, bTup, bTps, mApp, tupD, lstD, mRev, revD, ofs_inj, ee_ii, ee_ss, ee_bb, ee_nn, ee_is, ee_si, ee_in, ee_ni, ee_tt, ee_ll, ee_maps, ee_0, ee_1, ee_2, ee_3, at_lit, at_nat, at_m1, at_m2, scD, emD, sizeLine_eq, ixN, sm_lit, mSrc, itemsD, plOf, rng1D, bNm, mSl, mPt, mNoP, slD, mPar, keepT, tmsO, setA, mFlow, zipX, enumX, itemsX, intsOf, ints_all, boolsOf, shaped_lay, lay_int, lay_bool, lay_none, lay_dict, lay_tup, lay_list, lay_ints, sortX_ints, mPlF, mPlI, mRd, mPU, mPB, mFSet, mFNew, mNSet, mPApp, mPSetIx, mPPop, mMeth, mNew, isIns, cellO, mLstN, mAddN, mAppN, semX, mTold, mCallX, xRet, xExpr, xSet, mRaise, mM, isL, isS, mOrV, truD, mDNew, mDIn, mDGet, mDLen, mDPut, kyD, mNNew, mN1, mTake, mFnV, mCallF, mNIn, mNGet, mNPut, mNVals, mNList, nKs, mDGetD, mDList, mNNe, *])
theorem rngD_at {n i : Nat} {d : PyData} (h : (rangeD 0 1 n)[i]? = some d) : d = .int (i : Int) ∧ i < n := by
  unfold rangeD at h
  rw [List.getElem?_map] at h
  obtain ⟨x, hx, rfl⟩ := Option.map_eq_some_iff.mp h
  obtain ⟨hi, rfl⟩ := List.getElem?_eq_some_iff.mp hx
  simp at hi
  simp [hi]
theorem rngD_len (n : Nat) : (rangeD 0 1 n).length = n := by simp [rangeD]
theorem wx_rngn {io : List Nat} {src : SM} {bind : BM} {body : XM} {ε ε1 : Cs} {n : Nat} {Q : Fl → Cs → Prop} (J : Nat → Cs → Prop) (hs : src ε = some ((rangeD 0 1 n, []), ε1)) (h0 : J 0 ε1)
    (hstep : ∀ (i : Nat) (ε2 : Cs), i < n → J i ε2 → ∃ ε3, bind (.int (i : Int)) ε2 = some ε3 ∧ Wx (body ε3) fun f ε4 => match f with
      | .nx => J (i + 1) ε4
      | .ct => J (i + 1) ε4
      | .bk => Q .nx ε4
      | .rt c => Q (.rt c) ε4
      | .xc x => Q (.xc x) ε4) (hend : ∀ ε2, J n ε2 → Q .nx ε2) : Wx (mFor io src bind body ε) Q := by
  refine wx_for J hs rfl h0 (fun i ε hj j hj2 => by cases hj2) (fun i d ε2 hd hj => ?_) (fun ε2 h => hend ε2 (by rwa [rngD_len] at h))
  obtain ⟨rfl, hi⟩ := rngD_at hd
  exact hstep i ε2 hi hj
end KW
namespace KW
open PySem PySem.Spec PyProof.Rows L2 L2.M
local macro_rules | `(tactic| walk_at "ev") => `(tactic| simp [semF, shared, after, mSeq, mSkip, mIf, mRet, mRetN, mRetV, mSet, mSetIx, mExpr, mB, mU, mTm, mPl, mK, mVar, mOp, mCons, mNil, bor, bors, mTst, mAndT, mOrT, mNotT, mAndE, mOrE, mNotE, mIfE, mIsi, isiD, mChn, chnL, cmpD, binD, addD, subD, mulD, modD, fdivD, powD, eqD, neD, ltD, leD, gtD, geD, isD, isnD, L2.M.isNon, negD, ixD, Bf.f, Bg.f, lenD, L2.M.intD, maxD, minD, repD, strD, gmaxD, gminD, sumD, sortD, anyD, allD, mCall, frz, fzO, lend, wb, mTup, mLst, fzs, cD, mAsg, bTup, bTps, mApp, tupD, lstD, mRev, revD, ofs_inj, ee_ii, ee_ss, ee_bb, ee_nn, ee_is, ee_si, ee_in, ee_ni, ee_tt, ee_ll, ee_maps, ee_0, ee_1, ee_2, ee_3, at_lit, at_nat, at_m1, at_m2, scD, emD, sizeLine_eq, ixN, sm_lit, mSrc, itemsD, plOf, rng1D, bNm, mSl, mPt, mNoP, slD, mPar, keepT, tmsO, setA, mFlow, zipX, enumX, itemsX, intsOf, ints_all, boolsOf, shaped_lay, lay_int, lay_bool, lay_none, lay_dict, lay_tup, lay_list, lay_ints, sortX_ints, mPlF, mPlI, mRd, mPU, mPB, mFSet, mFNew, mNSet, mPApp, mPSetIx, mPPop, mMeth, mNew, isIns, cellO, mLstN, mAddN, mAppN, semX, mTold, mCallX, xRet, xExpr, xSet, mRaise, mM, isL, isS, mOrV, truD])
local macro_rules | `(tactic| walk_at "es") => `(tactic| simp [semF, shared, after, mSeq, mSkip, mIf, mRet, mRetN, mRetV, mSet, mSetIx, mExpr, mB, mU, mTm, mPl, mK, mVar, mOp, mCons, mNil, bor, bors, mTst, mAndT, mOrT, mNotT, mAndE, mOrE, mNotE, mIfE, mIsi, isiD, mChn, chnL, cmpD, binD, addD, subD, mulD, modD, fdivD, powD, eqD, neD, ltD, leD, gtD, geD, isD, isnD, L2.M.isNon, negD, ixD, Bf.f, Bg.f, lenD, L2.M.intD, maxD, minD, repD, strD, gmaxD, gminD, sumD, sortD, anyD, allD, mCall, frz, fzO, lend, wb, mTup, mLst, fzs, cD, mAsg, bTup, bTps, mApp, tupD, lstD, mRev, revD, ofs_inj, ee_ii, ee_ss, ee_bb, ee_nn, ee_is, ee_si, ee_in, ee_ni, ee_tt, ee_ll, ee_maps, ee_0, ee_1, ee_2, ee_3, at_lit, at_nat, at_m1, at_m2, scD, emD, sizeLine_eq, ixN, sm_lit, mSrc, itemsD, plOf, rng1D, bNm, mSl, mPt, mNoP, slD, mPar, keepT, tmsO, setA, mFlow, zipX, enumX, itemsX, intsOf, ints_all, boolsOf, shaped_lay, lay_int, lay_bool, lay_none, lay_dict, lay_tup, lay_list, lay_ints, sortX_ints, mPlF, mPlI, mRd, mPU, mPB, mFSet, mFNew, mNSet, mPApp, mPSetIx, mPPop, mMeth, mNew, isIns, cellO, mLstN, mAddN, mAppN, semX, mTold, mCallX, xRet, xExpr, xSet, mRaise, mM, isL, isS, mOrV, truD, *])
local macro_rules | `(tactic| walk_at "el") => `(tactic| simp [semF, shared, after, mSeq, mSkip, mIf, mRet, mRetN, mRetV, mSet, mSetIx, mExpr, mB, mU, mTm, mPl, mK, mVar, mOp, mCons, mNil, bor, bors, mTst, mAndT, mOrT, mNotT, mAndE, mOrE, mNotE, mIfE, mIsi, isiD, mChn, chnL, cmpD, binD, addD, subD, mulD, modD, fdivD, powD, eqD, neD, ltD, leD, gtD, geD, isD, isnD, L2.M.isNon, negD, ixD, Bf.f, Bg.f, lenD, L2.M.intD, maxD, minD, repD, strD, gmaxD, gminD, sumD, sortD, anyD, allD, mCall, frz, fzO, lend, wb, mTup, mLst, fzs, cD, mAsg, bTup, bTps, mApp, tupD, lstD, mRev, revD, ofs_inj, ee_ii, ee_ss, ee_bb, ee_nn, ee_is, ee_si, ee_in, ee_ni, ee_tt, ee_ll, ee_maps, ee_0, ee_1, ee_2, ee_3, at_lit, at_nat, at_m1, at_m2, scD, emD, sizeLine_eq, ixN, sm_lit, mSrc, itemsD, plOf, rng1D, bNm, mSl, mPt, mNoP, slD, mPar, keepT, tmsO, setA, mFlow, zipX, enumX, itemsX, intsOf, ints_all, boolsOf, shaped_lay, lay_int, lay_bool, lay_none, lay_dict, lay_tup, lay_list, lay_ints, sortX_ints, mPlF, mPlI, mRd, mPU, mPB, mFSet, mFNew, mNSet, mPApp, mPSetIx, mPPop, mMeth, mNew, isIns, cellO, mLstN, mAddN, mAppN, semX, mTold, mCallX, xRet, xExpr, xSet, mRaise, mM, isL, isS, mOrV, truD, mLc, lcL, sameC, wipeC, restC, mYes, *])
local macro_rules | `(tactic| walk_at "ef") => `(tactic| simp [semF, shared, after, mSeq, mSkip, mIf, mRet, mRetN, mRetV, mSet, mSetIx, mExpr, mB, mU, mTm, mPl, mK, mVar, mOp, mCons, mNil, bor, bors, mTst, mAndT, mOrT, mNotT, mAndE, mOrE, mNotE, mIfE, mIsi, isiD, mChn, chnL, cmpD, binD, addD, subD, mulD, modD, fdivD, powD, eqD, neD, ltD, leD, gtD, geD, isD, isnD, L2.M.isNon, negD, ixD, Bf.f, Bg.f, lenD, L2.M.intD, maxD, minD, repD, strD, gmaxD, gminD, sumD, sortD, anyD, allD, mCall, frz, fzO, lend, wb, mTup, mLst, fzs, cD, mAsg, bTup, bTps, mApp, tupD, lstD, mRev, revD, ofs_inj, ee_ii, ee_ss, ee_bb, ee_nn, ee_is, ee_si, ee_in, ee_ni, ee_tt, ee_ll, ee_maps, ee_0, ee_1, ee_2, ee_3, at_lit, at_nat, at_m1, at_m2, scD, emD, sizeLine_eq, ixN, sm_lit, mSrc, itemsD, plOf, rng1D, bNm, mSl, mPt, mNoP, slD, mPar, keepT, tmsO, setA, mFlow, zipX, enumX, itemsX, intsOf, ints_all, boolsOf, shaped_lay, lay_int, lay_bool, lay_none, lay_dict, lay_tup, lay_list, lay_ints, sortX_ints, mPlF, mPlI, mRd, mPU, mPB, mFSet, mFNew, mNSet, mPApp, mPSetIx, mPPop, mMeth, mNew, isIns, cellO, mLstN, mAddN, mAppN, semX, mTold, mCallX, xRet, xExpr, xSet, mRaise, mM, isL, isS, mOrV, truD, mFor, forL, mLc, lcL, sameC, wipeC, restC, mYes, *])
local macro_rules | `(tactic| walk_at "rg") => `(tactic| (and_intros <;> grind))
local macro_rules | `(tactic| walk_at "nx") => `(tactic| (apply wx_nx; focus (walk_at "ev"; try first | exact ⟨rfl, rfl⟩ | rfl)))
local macro_rules | `(tactic| walk_at "ns") => `(tactic| (apply wx_nx; focus (walk_at "es"; try first | exact ⟨rfl, rfl⟩ | rfl)))
local macro_rules | `(tactic| walk_at "rt") => `(tactic| (apply wx_rt; focus (walk_at "ev"; try first | exact ⟨rfl, rfl⟩ | rfl)))
local macro_rules | `(tactic| walk_at "rs") => `(tactic| (apply wx_rt; focus (walk_at "es"; try first | exact ⟨rfl, rfl⟩ | rfl)))
local macro_rules | `(tactic| walk_at "ed") => `(tactic| simp [semF, shared, after, mSeq, mSkip, mIf, mRet, mRetN, mRetV, mSet, mSetIx, mExpr, mB, mU, mTm, mPl, mK, mVar, mOp, mCons, mNil, bor, bors, mTst, mAndT, mOrT, mNotT, mAndE, mOrE, mNotE, mIfE, mIsi, isiD, mChn, chnL, cmpD, binD, addD, subD, mulD, modD, fdivD, powD, eqD, neD, ltD, leD, gtD, geD, isD, isnD, L2.M.isNon, negD, ixD, Bf.f, Bg.f, lenD, L2.M.intD, maxD, minD, repD, strD, gmaxD, gminD, sumD, sortD, anyD, allD, mCall, frz, fzO, lend, wb, mTup, mLst, fzs, cD, mAsg, bTup, bTps, mApp, tupD, lstD, mRev, revD, ofs_inj, ee_ii, ee_ss, ee_bb, ee_nn, ee_is, ee_si, ee_in, ee_ni, ee_tt, ee_ll, ee_maps, ee_0, ee_1, ee_2, ee_3, at_lit, at_nat, at_m1, at_m2, scD, emD, sizeLine_eq, ixN, sm_lit, mSrc, itemsD, plOf, rng1D, bNm, mSl, mPt, mNoP, slD, mPar, keepT, tmsO, setA, mFlow, zipX, enumX, itemsX, intsOf, ints_all, boolsOf, shaped_lay, lay_int, lay_bool, lay_none, lay_dict, lay_tup, lay_list, lay_ints, sortX_ints, mPlF, mPlI, mRd, mPU, mPB, mFSet, mFNew, mNSet, mPApp, mPSetIx, mPPop, mMeth, mNew, isIns, cellO, mLstN, mAddN, mAppN, semX, mTold, mCallX, xRet, xExpr, xSet, mRaise, mM, isL, isS, mOrV, truD, mDNew, mDIn, mDGet, mDLen, mDPut, kyD, mNNew, mN1, mTake, mFnV, mCallF, mNIn, mNGet, mNPut, mNVals, mNList, nKs, mDGetD, mDList, mNNe, *])
def CP (s : Str) : List Nat := s.cps.toList
/-- texts that show themselves between strokes -/
def St (x : Str) : Prop := CP (reprText x) = 39 :: (CP x ++ [39]) ∧ 39 ∉ CP x
mutual
def Pd : PyData → Prop
  | .none => True
  | .bool _ => True
  | .int _ => True
  | .str x => St x
  | .list xs => PdA xs
  | .tuple xs => PdA xs
  | .dict kvs => kvs = []
def PdA : List PyData → Prop
  | [] => True
  | x :: xs => Pd x ∧ PdA xs
end
end KW
namespace KW
open PySem PySem.Spec PyProof.Rows L2 L2.M
local macro_rules | `(tactic| walk_at "ev") => `(tactic| simp [semF, shared, after, mSeq, mSkip, mIf, mRet, mRetN, mRetV, mSet, mSetIx, mExpr, mB, mU, mTm, mPl, mK, mVar, mOp, mCons, mNil, bor, bors, mTst, mAndT, mOrT, mNotT, mAndE, mOrE, mNotE, mIfE, mIsi, isiD, mChn, chnL, cmpD, binD, addD, subD, mulD, modD, fdivD, powD, eqD, neD, ltD, leD, gtD, geD, isD, isnD, L2.M.isNon, negD, ixD, Bf.f, Bg.f, lenD, L2.M.intD, maxD, minD, repD, strD, gmaxD, gminD, sumD, sortD, anyD, allD, mCall, frz, fzO, lend, wb, mTup, mLst, fzs, cD, mAsg, bTup, bTps, mApp, tupD, lstD, mRev, revD, ofs_inj, ee_ii, ee_ss, ee_bb, ee_nn, ee_is, ee_si, ee_in, ee_ni, ee_tt, ee_ll, ee_maps, ee_0, ee_1, ee_2, ee_3, at_lit, at_nat, at_m1, at_m2, scD, emD, sizeLine_eq, ixN, sm_lit, mSrc, itemsD, plOf, rng1D, bNm, mSl, mPt, mNoP, slD, mPar, keepT, tmsO, setA, mFlow, zipX, enumX, itemsX, intsOf, ints_all, boolsOf, shaped_lay, lay_int, lay_bool, lay_none, lay_dict, lay_tup, lay_list, lay_ints, sortX_ints, mPlF, mPlI, mRd, mPU, mPB, mFSet, mFNew, mNSet, mPApp, mPSetIx, mPPop, mMeth, mNew, isIns, cellO, mLstN, mAddN, mAppN, semX, mTold, mCallX, xRet, xExpr, xSet, mRaise, mM, isL, isS, mOrV, truD])
local macro_rules | `(tactic| walk_at "es") => `(tactic| simp [semF, shared, after, mSeq, mSkip, mIf, mRet, mRetN, mRetV, mSet, mSetIx, mExpr, mB, mU, mTm, mPl, mK, mVar, mOp, mCons, mNil, bor, bors, mTst, mAndT, mOrT, mNotT, mAndE, mOrE, mNotE, mIfE, mIsi, isiD, mChn, chnL, cmpD, binD, addD, subD, mulD, modD, fdivD, powD, eqD, neD, ltD, leD, gtD, geD, isD, isnD, L2.M.isNon, negD, ixD, Bf.f, Bg.f, lenD, L2.M.intD, maxD, minD, repD, strD, gmaxD, gminD, sumD, sortD, anyD, allD, mCall, frz, fzO, lend, wb, mTup, mLst, fzs, cD, mAsg, bTup, bTps, mApp, tupD, lstD, mRev, revD, ofs_inj, ee_ii, ee_ss, ee_bb, ee_nn, ee_is, ee_si, ee_in, ee_ni, ee_tt, ee_ll, ee_maps, ee_0, ee_1, ee_2, ee_3, at_lit, at_nat, at_m1, at_m2, scD, emD, sizeLine_eq, ixN, sm_lit, mSrc, itemsD, plOf, rng1D, bNm, mSl, mPt, mNoP, slD, mPar, keepT, tmsO, setA, mFlow, zipX, enumX, itemsX, intsOf, ints_all, boolsOf, shaped_lay, lay_int, lay_bool, lay_none, lay_dict, lay_tup, lay_list, lay_ints, sortX_ints, mPlF, mPlI, mRd, mPU, mPB, mFSet, mFNew, mNSet, mPApp, mPSetIx, mPPop, mMeth, mNew, isIns, cellO, mLstN, mAddN, mAppN, semX, mTold, mCallX, xRet, xExpr, xSet, mRaise, mM, isL, isS, mOrV, truD, *])
local macro_rules | `(tactic| walk_at "el") => `(tactic| simp [semF, shared, after, mSeq, mSkip, mIf, mRet, mRetN, mRetV, mSet, mSetIx, mExpr, mB, mU, mTm, mPl, mK, mVar, mOp, mCons, mNil, bor, bors, mTst, mAndT, mOrT, mNotT, mAndE, mOrE, mNotE, mIfE, mIsi, isiD, mChn, chnL, cmpD, binD, addD, subD, mulD, modD, fdivD, powD, eqD, neD, ltD, leD, gtD, geD, isD, isnD, L2.M.isNon, negD, ixD, Bf.f, Bg.f, lenD, L2.M.intD, maxD, minD, repD, strD, gmaxD, gminD, sumD, sortD, anyD, allD, mCall, frz, fzO, lend, wb, mTup, mLst, fzs, cD, mAsg, bTup, bTps, mApp, tupD, lstD, mRev, revD, ofs_inj, ee_ii, ee_ss, ee_bb, ee_nn, ee_is, ee_si, ee_in, ee_ni, ee_tt, ee_ll, ee_maps, ee_0, ee_1, ee_2, ee_3, at_lit, at_nat, at_m1, at_m2, scD, emD, sizeLine_eq, ixN, sm_lit, mSrc, itemsD, plOf, rng1D, bNm, mSl, mPt, mNoP, slD, mPar, keepT, tmsO, setA, mFlow, zipX, enumX, itemsX, intsOf, ints_all, boolsOf, shaped_lay, lay_int, lay_bool, lay_none, lay_dict, lay_tup, lay_list, lay_ints, sortX_ints, mPlF, mPlI, mRd, mPU, mPB, mFSet, mFNew, mNSet, mPApp, mPSetIx, mPPop, mMeth, mNew, isIns, cellO, mLstN, mAddN, mAppN, semX, mTold, mCallX, xRet, xExpr, xSet, mRaise, mM, isL, isS, mOrV, truD, mLc, lcL, sameC, wipeC, restC, mYes, *])
local macro_rules | `(tactic| walk_at "ef") => `(tactic| simp [semF, shared, after, mSeq, mSkip, mIf, mRet, mRetN, mRetV, mSet, mSetIx, mExpr, mB, mU, mTm, mPl, mK, mVar, mOp, mCons, mNil, bor, bors, mTst, mAndT, mOrT, mNotT, mAndE, mOrE, mNotE, mIfE, mIsi, isiD, mChn, chnL, cmpD, binD, addD, subD, mulD, modD, fdivD, powD, eqD, neD, ltD, leD, gtD, geD, isD, isnD, L2.M.isNon, negD, ixD, Bf.f, Bg.f, lenD, L2.M.intD, maxD, minD, repD, strD, gmaxD, gminD, sumD, sortD, anyD, allD, mCall, frz, fzO, lend, wb, mTup, mLst, fzs, cD, mAsg, bTup, bTps, mApp, tupD, lstD, mRev, revD, ofs_inj, ee_ii, ee_ss, ee_bb, ee_nn, ee_is, ee_si, ee_in, ee_ni, ee_tt, ee_ll, ee_maps, ee_0, ee_1, ee_2, ee_3, at_lit, at_nat, at_m1, at_m2, scD, emD, sizeLine_eq, ixN, sm_lit, mSrc, itemsD, plOf, rng1D, bNm, mSl, mPt, mNoP, slD, mPar, keepT, tmsO, setA, mFlow, zipX, enumX, itemsX, intsOf, ints_all, boolsOf, shaped_lay, lay_int, lay_bool, lay_none, lay_dict, lay_tup, lay_list, lay_ints, sortX_ints, mPlF, mPlI, mRd, mPU, mPB, mFSet, mFNew, mNSet, mPApp, mPSetIx, mPPop, mMeth, mNew, isIns, cellO, mLstN, mAddN, mAppN, semX, mTold, mCallX, xRet, xExpr, xSet, mRaise, mM, isL, isS, mOrV, truD, mFor, forL, mLc, lcL, sameC, wipeC, restC, mYes, *])
local macro_rules | `(tactic| walk_at "rg") => `(tactic| (and_intros <;> grind))
local macro_rules | `(tactic| walk_at "nx") => `(tactic| (apply wx_nx; focus (walk_at "ev"; try first | exact ⟨rfl, rfl⟩ | rfl)))
local macro_rules | `(tactic| walk_at "ns") => `(tactic| (apply wx_nx; focus (walk_at "es"; try first | exact ⟨rfl, rfl⟩ | rfl)))
local macro_rules | `(tactic| walk_at "rt") => `(tactic| (apply wx_rt; focus (walk_at "ev"; try first | exact ⟨rfl, rfl⟩ | rfl)))
local macro_rules | `(tactic| walk_at "rs") => `(tactic| (apply wx_rt; focus (walk_at "es"; try first | exact ⟨rfl, rfl⟩ | rfl)))
local macro_rules | `(tactic| walk_at "ed") => `(tactic| simp [semF, shared, after, mSeq, mSkip, mIf, mRet, mRetN, mRetV, mSet, mSetIx, mExpr, mB, mU, mTm, mPl, mK, mVar, mOp, mCons, mNil, bor, bors, mTst, mAndT, mOrT, mNotT, mAndE, mOrE, mNotE, mIfE, mIsi, isiD, mChn, chnL, cmpD, binD, addD, subD, mulD, modD, fdivD, powD, eqD, neD, ltD, leD, gtD, geD, isD, isnD, L2.M.isNon, negD, ixD, Bf.f, Bg.f, lenD, L2.M.intD, maxD, minD, repD, strD, gmaxD, gminD, sumD, sortD, anyD, allD, mCall, frz, fzO, lend, wb, mTup, mLst, fzs, cD, mAsg, bTup, bTps, mApp, tupD, lstD, mRev, revD, ofs_inj, ee_ii, ee_ss, ee_bb, ee_nn, ee_is, ee_si, ee_in, ee_ni, ee_tt, ee_ll, ee_maps, ee_0, ee_1, ee_2, ee_3, at_lit, at_nat, at_m1, at_m2, scD, emD, sizeLine_eq, ixN, sm_lit, mSrc, itemsD, plOf, rng1D, bNm, mSl, mPt, mNoP, slD, mPar, keepT, tmsO, setA, mFlow, zipX, enumX, itemsX, intsOf, ints_all, boolsOf, shaped_lay, lay_int, lay_bool, lay_none, lay_dict, lay_tup, lay_list, lay_ints, sortX_ints, mPlF, mPlI, mRd, mPU, mPB, mFSet, mFNew, mNSet, mPApp, mPSetIx, mPPop, mMeth, mNew, isIns, cellO, mLstN, mAddN, mAppN, semX, mTold, mCallX, xRet, xExpr, xSet, mRaise, mM, isL, isS, mOrV, truD, mDNew, mDIn, mDGet, mDLen, mDPut, kyD, mNNew, mN1, mTake, mFnV, mCallF, mNIn, mNGet, mNPut, mNVals, mNList, nKs, mDGetD, mDList, mNNe, *])
structure Gq (k n : Nat) (d : PyData) : Prop where
  p : Pd d
  s : Shw k n d
theorem Gq.mono {k k' n n' : Nat} {d : PyData} (h : Gq k n d) (hk : k ≤ k') (hn : n ≤ n') : Gq k' n' d := ⟨h.p, h.s.mono hk hn⟩
def Th (d : PyData) : Prop := Gq 20 3000000 d ∨ d = .dict []
theorem Th.p {d : PyData} (h : Th d) : Pd d := by
  rcases h with h | rfl
  · exact h.p
  · exact rfl
end KW
namespace KW
open PySem PySem.Spec PyProof.Rows L2 L2.M
def top (i : Nat) : Stmt := PySem.Challenge.pw_knockpurse_k35_the_most_in_a_stretch.main.body.getD i (.Pass ⟨0, 0, 0, 0⟩)
abbrev st_put_in : Stmt := top 1
def d_put_in : He.DefD := ⟨("put_in", none), "put_in", "put_in", defArgs st_put_in, defBody st_put_in, defScope st_put_in, [], []⟩
abbrev st_paid_turns : Stmt := top 2
def d_paid_turns : He.DefD := ⟨("paid_turns", none), "paid_turns", "paid_turns", defArgs st_paid_turns, defBody st_paid_turns, defScope st_paid_turns, [], []⟩
abbrev st_most_paid : Stmt := top 3
def d_most_paid : He.DefD := ⟨("most_paid", none), "most_paid", "most_paid", defArgs st_most_paid, defBody st_most_paid, defScope st_most_paid, [], []⟩
abbrev st_most_between : Stmt := top 4
def d_most_between : He.DefD := ⟨("most_between", none), "most_between", "most_between", defArgs st_most_between, defBody st_most_between, defScope st_most_between, [], []⟩
abbrev st_law_cell_at : Stmt := top 6
def d_law_cell_at : He.DefD := ⟨("_law_cell_at", none), "_law_cell_at", "_law_cell_at", defArgs st_law_cell_at, defBody st_law_cell_at, defScope st_law_cell_at, [], []⟩
abbrev st_law_next : Stmt := top 7
def d_law_next : He.DefD := ⟨("_law_next", none), "_law_next", "_law_next", defArgs st_law_next, defBody st_law_next, defScope st_law_next, [], []⟩
abbrev st_law_pen_of : Stmt := top 8
def d_law_pen_of : He.DefD := ⟨("_law_pen_of", none), "_law_pen_of", "_law_pen_of", defArgs st_law_pen_of, defBody st_law_pen_of, defScope st_law_pen_of, [], []⟩
abbrev st_law_draw : Stmt := top 9
def d_law_draw : He.DefD := ⟨("_law_draw", none), "_law_draw", "_law_draw", defArgs st_law_draw, defBody st_law_draw, defScope st_law_draw, [], []⟩
abbrev st_law_purse : Stmt := top 10
def d_law_purse : He.DefD := ⟨("_law_purse", none), "_law_purse", "_law_purse", defArgs st_law_purse, defBody st_law_purse, defScope st_law_purse, [], []⟩
abbrev st_law_small : Stmt := top 11
def d_law_small : He.DefD := ⟨("_law_small", none), "_law_small", "_law_small", defArgs st_law_small, defBody st_law_small, defScope st_law_small, [], []⟩
abbrev st_law_best : Stmt := top 12
def d_law_best : He.DefD := ⟨("_law_best", none), "_law_best", "_law_best", defArgs st_law_best, defBody st_law_best, defScope st_law_best, [], []⟩
abbrev st_law_comes : Stmt := top 13
def d_law_comes : He.DefD := ⟨("_law_comes", none), "_law_comes", "_law_comes", defArgs st_law_comes, defBody st_law_comes, defScope st_law_comes, [], []⟩
abbrev st_law_soon : Stmt := top 14
def d_law_soon : He.DefD := ⟨("_law_soon", none), "_law_soon", "_law_soon", defArgs st_law_soon, defBody st_law_soon, defScope st_law_soon, [], []⟩
abbrev st_law : Stmt := top 15
def d_law : He.DefD := ⟨("law", none), "law", "law", defArgs st_law, defBody st_law, defScope st_law, [], []⟩
def fn : List He.DefD := [d_put_in, d_paid_turns, d_most_paid, d_most_between, d_law_cell_at, d_law_next, d_law_pen_of, d_law_draw, d_law_purse, d_law_small, d_law_best, d_law_comes, d_law_soon, d_law]
def fa : List He.Fa := [.glo "put_in", .glo "paid_turns", .glo "most_paid", .glo "most_between", .glo "_law_cell_at", .glo "_law_next", .glo "_law_pen_of", .glo "_law_draw", .glo "_law_purse", .glo "_law_small", .glo "_law_best", .glo "_law_comes", .glo "_law_soon", .glo "law", .free "min", .free "len", .free "int", .free "max", .free "list", .free "range", .free "dict", .free "repr"]
abbrev Wd (K : PySem.W.Frag) (mg : Str → Option Value) : Prop := Wo fa fn K mg
noncomputable def m_put_in : XM := mSeq (mRet (mOp (Bf.f .min) (mCons (mTm (mB ixD (mPl 0) (mTm (mK (.int 2))))) (mCons (mTm (mB (binD .Add) (mPl 1) (mTm (mB ixD (mPl 0) (mTm (mK (.int 0))))))) (mNil))))) (mSkip)
noncomputable def g_put_in : GM := semF [true, true] 2 m_put_in
noncomputable def m_paid_turns : XM := mSeq (mPar [0, 2] [3, 1] (mCons (mTm (mB (binD .FloorDiv) (mPl 1) (mTm (mB ixD (mPl 0) (mTm (mK (.int 1))))))) (mCons (mTm (mB (binD .Mod) (mPl 1) (mTm (mB ixD (mPl 0) (mTm (mK (.int 1))))))) (mNil)))) (mSeq (mSet [0, 2] 4 (mDNew)) (mSeq (mSet [0, 2] 5 (mK (.int 0))) (mSeq (mWhile (mTst (mB (cmpD .Lt) (mPl 5) (mPl 2))) (mSeq (mIf (mTst (mDIn false 4 (mPl 1))) (mSeq (mAsg [6, 7] [0, 2] (bTup [bNm 6, bNm 7]) (mDGet 4 (mPl 1))) (mSeq (mSet [0, 2] 8 (mB (binD .FloorDiv) (mTm (mB (binD .Sub) (mPl 2) (mPl 5))) (mTm (mB (binD .Sub) (mPl 5) (mPl 6))))) (mSeq (mSet [0, 2] 3 (mB (binD .Add) (mPl 3) (mTm (mB (binD .Mult) (mPl 8) (mTm (mB (binD .Sub) (mPl 3) (mPl 7))))))) (mSeq (mSet [0, 2] 5 (mB (binD .Add) (mPl 5) (mTm (mB (binD .Mult) (mPl 8) (mTm (mB (binD .Sub) (mPl 5) (mPl 6))))))) (mSeq (mSet [0, 2] 4 (mDNew)) (mSkip)))))) (mSeq (mDPut 4 (mTup (mCons (mPl 5) (mCons (mPl 3) (mNil)))) (mPl 1)) (mSkip))) (mSeq (mIf (mTst (mB (cmpD .Lt) (mPl 5) (mPl 2))) (mSeq (mSet [0, 2] 1 (mCall [true, true] g_put_in (mCons (mPl 0) (mCons (mPl 1) (mNil))))) (mSeq (mPar [0, 2] [3, 1] (mCons (mTm (mB (binD .Add) (mPl 3) (mTm (mB (binD .FloorDiv) (mPl 1) (mTm (mB ixD (mPl 0) (mTm (mK (.int 1))))))))) (mCons (mTm (mB (binD .Mod) (mPl 1) (mTm (mB ixD (mPl 0) (mTm (mK (.int 1))))))) (mNil)))) (mSeq (mSet [0, 2] 5 (mB (binD .Add) (mPl 5) (mTm (mK (.int 1))))) (mSkip)))) (mSkip)) (mSkip)))) (mSeq (mRetV [0, 2] 3) (mSkip)))))
noncomputable def g_paid_turns : GM := semF [true, false, true] 9 m_paid_turns
noncomputable def m_most_paid : XM := mSeq (mRet (mCall [true, false, true] g_paid_turns (mCons (mPl 0) (mCons (mTm (mB ixD (mPl 0) (mTm (mK (.int 3))))) (mCons (mPl 1) (mNil)))))) (mSkip)
noncomputable def g_most_paid : GM := semF [true, true] 2 m_most_paid
noncomputable def m_most_between : XM := mSeq (mIf (mTst (mB (cmpD .Eq) (mTm (mB ixD (mPl 0) (mTm (mK (.int 0))))) (mTm (mK (.int 0))))) (mSeq (mRet (mCall [true, false, true] g_paid_turns (mCons (mPl 0) (mCons (mTm (mB ixD (mPl 0) (mTm (mK (.int 3))))) (mCons (mPl 1) (mNil)))))) (mSkip)) (mSkip)) (mSeq (mRet (mCall [true, false, true] g_paid_turns (mCons (mPl 0) (mCons (mTm (mB ixD (mPl 0) (mTm (mK (.int 2))))) (mCons (mPl 1) (mNil)))))) (mSkip))
noncomputable def g_most_between : GM := semF [true, true] 2 m_most_between
noncomputable def m_law_cell_at : XM := mSeq (mIf (mTst (mB (cmpD .Lt) (mPl 1) (mTm (mOp (Bf.f .len) (mCons (mPl 0) (mNil)))))) (mSeq (mRet (mB ixD (mPl 0) (mPl 1))) (mSkip)) (mSkip)) (mSeq (mRet (mK (.int 0))) (mSkip))
noncomputable def g_law_cell_at : GM := semF [true, true] 2 m_law_cell_at
noncomputable def m_law_next : XM := mSeq (mSet [] 0 (mB (binD .Mod) (mTm (mB (binD .Add) (mPl 0) (mTm (mK (.int 7919))))) (mTm (mK (.int 2147483647))))) (mSeq (mRet (mB (binD .Mod) (mTm (mB (binD .Add) (mTm (mB (binD .Add) (mTm (mB (binD .Mult) (mPl 0) (mPl 0))) (mTm (mB (binD .Mult) (mTm (mK (.int 48271))) (mPl 0))))) (mTm (mK (.int 12345))))) (mTm (mK (.int 2147483629))))) (mSkip))
noncomputable def g_law_next : GM := semF [false] 1 m_law_next
noncomputable def m_law_pen_of : XM := mSeq (mSet [0] 1 (mOp (Bf.f .max) (mCons (mPl 0) (mCons (mTm (mB (binD .Sub) (mTm (mK (.int 0))) (mPl 0))) (mNil))))) (mSeq (mRet (mLst (mCons (mPl 1) (mCons (mTm (mOp (Bf.f .int) (mCons (mTm (mB (cmpD .GtE) (mPl 1) (mTm (mB (binD .Pow) (mTm (mK (.int 10))) (mTm (mK (.int 18))))))) (mNil)))) (mCons (mTm (mB (binD .Mod) (mPl 1) (mTm (mK (.int 1000003))))) (mNil)))))) (mSkip))
noncomputable def g_law_pen_of : GM := semF [true] 2 m_law_pen_of
noncomputable def m_law_draw : XM := mSeq (mIf (mAndT (mTst (mB (cmpD .Eq) (mTm (mB ixD (mPl 0) (mTm (mK (.int 1))))) (mTm (mK (.int 1))))) (mTst (mB (cmpD .Gt) (mTm (mB ixD (mPl 0) (mTm (mK (.int 0))))) (mTm (mK (.int 0)))))) (mSeq (mSet [0, 1] 2 (mB (binD .Mod) (mTm (mB ixD (mPl 0) (mTm (mK (.int 0))))) (mPl 1))) (mSeq (mSetIx 0 (mB (binD .FloorDiv) (mTm (mB ixD (mPl 0) (mTm (mK (.int 0))))) (mPl 1)) (mTm (mK (.int 0)))) (mSeq (mRetV [0, 1] 2) (mSkip)))) (mSkip)) (mSeq (mSetIx 0 (mCall [false] g_law_next (mCons (mTm (mB (binD .Add) (mTm (mCall [false] g_law_next (mCons (mTm (mB ixD (mPl 0) (mTm (mK (.int 2))))) (mNil)))) (mTm (mK (.int 7))))) (mNil))) (mTm (mK (.int 2)))) (mSeq (mRet (mB (binD .Mod) (mTm (mB (binD .FloorDiv) (mTm (mB ixD (mPl 0) (mTm (mK (.int 2))))) (mTm (mK (.int 64))))) (mPl 1))) (mSkip)))
noncomputable def g_law_draw : GM := semF [true, true] 3 m_law_draw
noncomputable def m_law_purse : XM := mSeq (mSet [0] 1 (mCall [true, true] g_law_draw (mCons (mPl 0) (mCons (mTm (mK (.int 4))) (mNil))))) (mSeq (mAsg [2, 3, 4] [0] (bTup [bNm 2, bNm 3, bNm 4]) (mB ixD (mTm (mLst (mCons (mTm (mTup (mCons (mTm (mK (.int 4))) (mCons (mTm (mK (.int 4))) (mCons (mTm (mK (.int 20))) (mNil)))))) (mCons (mTm (mTup (mCons (mTm (mK (.int 12))) (mCons (mTm (mK (.int 12))) (mCons (mTm (mK (.int 60))) (mNil)))))) (mCons (mTm (mTup (mCons (mTm (mK (.int 60))) (mCons (mTm (mK (.int 40))) (mCons (mTm (mK (.int 200))) (mNil)))))) (mCons (mTm (mTup (mCons (mTm (mK (.int 1001))) (mCons (mTm (mK (.int 1000))) (mCons (mTm (mK (.int 10001))) (mNil)))))) (mNil))))))) (mPl 1))) (mSeq (mSet [0] 5 (mTup (mCons (mTm (mCall [true, true] g_law_draw (mCons (mPl 0) (mCons (mPl 2) (mNil))))) (mCons (mTm (mB (binD .Add) (mTm (mK (.int 1))) (mTm (mCall [true, true] g_law_draw (mCons (mPl 0) (mCons (mPl 3) (mNil))))))) (mCons (mTm (mCall [true, true] g_law_draw (mCons (mPl 0) (mCons (mPl 4) (mNil))))) (mNil)))))) (mSeq (mRet (mB (binD .Add) (mPl 5) (mTm (mTup (mCons (mTm (mB ixD (mTm (mLst (mCons (mTm (mK (.int 0))) (mCons (mTm (mB ixD (mPl 5) (mTm (mK (.int 2))))) (mCons (mTm (mCall [true, true] g_law_draw (mCons (mPl 0) (mCons (mTm (mB (binD .Add) (mTm (mB ixD (mPl 5) (mTm (mK (.int 2))))) (mTm (mK (.int 1))))) (mNil))))) (mNil)))))) (mTm (mCall [true, true] g_law_draw (mCons (mPl 0) (mCons (mTm (mK (.int 3))) (mNil))))))) (mNil)))))) (mSkip))))
noncomputable def g_law_purse : GM := semF [true] 6 m_law_purse
noncomputable def m_law_small : XM := mSeq (mSet [0, 1] 2 (mCall [true, true] g_law_draw (mCons (mPl 0) (mCons (mTm (mB (binD .Add) (mPl 1) (mTm (mK (.int 1))))) (mNil))))) (mSeq (mSet [0, 1] 3 (mTup (mCons (mTm (mCall [true, true] g_law_draw (mCons (mPl 0) (mCons (mTm (mK (.int 9))) (mNil))))) (mCons (mTm (mB (binD .Add) (mTm (mK (.int 1))) (mTm (mCall [true, true] g_law_draw (mCons (mPl 0) (mCons (mTm (mK (.int 9))) (mNil))))))) (mCons (mPl 2) (mNil)))))) (mSeq (mRet (mB (binD .Add) (mPl 3) (mTm (mTup (mCons (mTm (mB ixD (mTm (mLst (mCons (mTm (mK (.int 0))) (mCons (mPl 2) (mCons (mTm (mCall [true, true] g_law_draw (mCons (mPl 0) (mCons (mTm (mB (binD .Add) (mPl 2) (mTm (mK (.int 1))))) (mNil))))) (mNil)))))) (mTm (mCall [true, true] g_law_draw (mCons (mPl 0) (mCons (mTm (mK (.int 3))) (mNil))))))) (mNil)))))) (mSkip)))
noncomputable def g_law_small : GM := semF [true, true] 4 m_law_small
noncomputable def m_law_best : XM := mSeq (mSet [0, 1, 2] 3 (mDOf (mCons (mTm (mLc (mSrc itemsD (mCons (mTm (mVar 1)) mNil)) (bNm 4) (mYes) (mTup (mCons (mPl 4) (mCons (mTm (mK (.int 0))) (mNil)))) [4])) (mNil)))) (mSeq (mFor [0, 1, 2] (mSrc rng1D (mCons (mTm (mB (binD .Add) (mPl 2) (mTm (mK (.int 1))))) (mNil))) (bNm 5) (mSeq (mSet [0, 1, 2] 6 (mDNew)) (mSeq (mFor [0, 1, 2] (mDSrc 3) (bNm 4) (mSeq (mFor [0, 1, 2] (mSrc rng1D (mCons (mTm (mB (binD .Add) (mTm (mB (binD .FloorDiv) (mPl 4) (mTm (mB ixD (mPl 0) (mTm (mK (.int 1))))))) (mTm (mK (.int 1))))) (mNil))) (bNm 7) (mSeq (mSet [0, 1, 2] 8 (mB (binD .Sub) (mPl 4) (mTm (mB (binD .Mult) (mPl 7) (mTm (mB ixD (mPl 0) (mTm (mK (.int 1))))))))) (mSeq (mDPut 6 (mOp (Bf.f .max) (mCons (mTm (mDGetD 6 (mVar 8) (mK (.int 0)))) (mCons (mTm (mB (binD .Add) (mTm (mDGetF 3 (mPl 4))) (mPl 7))) (mNil)))) (mPl 8)) (mSkip)))) (mSkip))) (mSeq (mSet [0, 1, 2] 3 (mDNew)) (mSeq (mFor [0, 1, 2] (mDSrc 6) (bNm 4) (mSeq (mSet [0, 1, 2] 9 (mIfE (mTst (mB (cmpD .Lt) (mPl 5) (mPl 2))) (mOp (Bf.f .min) (mCons (mTm (mB ixD (mPl 0) (mTm (mK (.int 2))))) (mCons (mTm (mB (binD .Add) (mPl 4) (mTm (mB ixD (mPl 0) (mTm (mK (.int 0))))))) (mNil)))) (mVar 4))) (mSeq (mDPut 3 (mOp (Bf.f .max) (mCons (mTm (mDGetD 3 (mVar 9) (mK (.int 0)))) (mCons (mTm (mDGetF 6 (mPl 4))) (mNil)))) (mPl 9)) (mSkip)))) (mSkip)))))) (mSeq (mRet (mOp (Bg.f .maxl) (mCons (mTm (mDVals 3)) (mNil)))) (mSkip)))
noncomputable def g_law_best : GM := semF [true, true, true] 10 m_law_best
noncomputable def m_law_comes : XM := mSeq (mSet [0] 1 (mLst (mCons (mTm (mB ixD (mPl 0) (mTm (mK (.int 3))))) (mNil)))) (mSeq (mSet [0] 2 (mD1 (mB ixD (mPl 0) (mTm (mK (.int 3)))) (mK (.bool true)))) (mSeq (mSet [0] 3 (mK (.int 0))) (mSeq (mWhile (mTst (mB (cmpD .Lt) (mPl 3) (mTm (mOp (Bf.f .len) (mCons (mPl 1) (mNil)))))) (mSeq (mSet [0] 4 (mB ixD (mPl 1) (mPl 3))) (mSeq (mSet [0] 3 (mB (binD .Add) (mPl 3) (mTm (mK (.int 1))))) (mSeq (mFor [0] (mSrc itemsD (mCons (mTm (mTup (mCons (mTm (mOp (Bf.f .min) (mCons (mTm (mB ixD (mPl 0) (mTm (mK (.int 2))))) (mCons (mTm (mB (binD .Add) (mPl 4) (mTm (mB ixD (mPl 0) (mTm (mK (.int 0))))))) (mNil))))) (mCons (mTm (mB (binD .Sub) (mPl 4) (mTm (mB ixD (mPl 0) (mTm (mK (.int 1))))))) (mNil))))) mNil)) (bNm 5) (mSeq (mIf (mAndT (mTst (mB (cmpD .GtE) (mPl 5) (mTm (mK (.int 0))))) (mTst (mDIn true 2 (mPl 5)))) (mSeq (mDPut 2 (mK (.bool true)) (mPl 5)) (mSeq (mApp 1 (mVar 5)) (mSkip))) (mSkip)) (mSkip))) (mSkip))))) (mSeq (mRetV [0] 1) (mSkip)))))
noncomputable def g_law_comes : GM := semF [true] 6 m_law_comes
noncomputable def m_law_soon : XM := mSeq (mPar [0, 1] [2, 3] (mCons (mTm (mIfE (mTst (mB (cmpD .Gt) (mTm (mB ixD (mPl 0) (mTm (mK (.int 0))))) (mTm (mK (.int 0))))) (mB ixD (mPl 0) (mTm (mK (.int 2)))) (mB ixD (mPl 0) (mTm (mK (.int 3)))))) (mCons (mTm (mK (.int 0))) (mNil)))) (mSeq (mFor [0, 1] (mSrc rng1D (mCons (mTm (mB (binD .Add) (mPl 1) (mTm (mK (.int 1))))) (mNil))) (bNm 4) (mSeq (mPar [0, 1] [3, 2] (mCons (mTm (mB (binD .Add) (mPl 3) (mTm (mB (binD .FloorDiv) (mPl 2) (mTm (mB ixD (mPl 0) (mTm (mK (.int 1))))))))) (mCons (mTm (mB (binD .Mod) (mPl 2) (mTm (mB ixD (mPl 0) (mTm (mK (.int 1))))))) (mNil)))) (mSeq (mIf (mTst (mB (cmpD .Lt) (mPl 4) (mPl 1))) (mSeq (mSet [0, 1] 2 (mOp (Bf.f .min) (mCons (mTm (mB ixD (mPl 0) (mTm (mK (.int 2))))) (mCons (mTm (mB (binD .Add) (mPl 2) (mTm (mB ixD (mPl 0) (mTm (mK (.int 0))))))) (mNil))))) (mSkip)) (mSkip)) (mSkip)))) (mSeq (mRetV [0, 1] 3) (mSkip)))
noncomputable def g_law_soon : GM := semF [true, true] 5 m_law_soon
noncomputable def m_law : XM := mSeq (mFor [] (mSrc itemsD (mCons (mTm (mB (binD .Add) (mTm (mLst (mCons (mTm (mCall [true, true] g_law_cell_at (mCons (mPl 0) (mCons (mTm (mK (.int 0))) (mNil))))) (mNil)))) (mTm (mSl (mPl 0) (mPt (mTm (mK (.int 1)))) (mPt (mTm (mK (.int 4)))))))) mNil)) (bNm 1) (mSeq (mSet [] 2 (mCall [true] g_law_pen_of (mCons (mPl 1) (mNil)))) (mSeq (mPar [] [3, 4] (mCons (mTm (mCall [true, true] g_law_small (mCons (mPl 2) (mCons (mTm (mK (.int 30))) (mNil))))) (mCons (mTm (mCall [true] g_law_purse (mCons (mPl 2) (mNil)))) (mNil)))) (mSeq (mPar [] [5, 6] (mCons (mTm (mCall [true, true] g_law_draw (mCons (mPl 2) (mCons (mTm (mK (.int 9))) (mNil))))) (mCons (mTm (mCall [true, true] g_law_draw (mCons (mPl 2) (mCons (mTm (mK (.int 2001))) (mNil))))) (mNil)))) (mSeq (mSet [] 7 (mCall [true, true, true] g_law_best (mCons (mPl 3) (mCons (mTm (mCall [true] g_law_comes (mCons (mPl 3) (mNil)))) (mCons (mPl 5) (mNil)))))) (mSeq (mIf (mTst (mB (cmpD .NotEq) (mTm (mOp reprG (mCons (mTm (mLst (mCons (mTm (mCall [true, true] g_most_between (mCons (mPl 3) (mCons (mPl 5) (mNil))))) (mCons (mTm (mCall [true, true] g_most_between (mCons (mPl 3) (mCons (mPl 5) (mNil))))) (mNil))))) (mNil)))) (mTm (mOp reprG (mCons (mTm (mLst (mCons (mPl 7) (mCons (mPl 7) (mNil))))) (mNil)))))) (mSeq (mRet (mK (.bool false))) (mSkip)) (mSkip)) (mSeq (mFor [] (mSrc itemsD (mCons (mTm (mTup (mCons (mPl 3) (mCons (mPl 4) (mNil))))) mNil)) (bNm 8) (mSeq (mIf (mOrT (mTst (mB (cmpD .NotEq) (mTm (mCall [true, true] g_most_between (mCons (mPl 8) (mCons (mPl 6) (mNil))))) (mTm (mCall [true, true] g_law_soon (mCons (mPl 8) (mCons (mPl 6) (mNil))))))) (mTst (mB (cmpD .Lt) (mTm (mCall [true, true] g_most_between (mCons (mPl 8) (mCons (mPl 6) (mNil))))) (mTm (mCall [true, true] g_most_paid (mCons (mPl 8) (mCons (mPl 6) (mNil)))))))) (mSeq (mRet (mK (.bool false))) (mSkip)) (mSkip)) (mSeq (mIf (mTst (mB (cmpD .Gt) (mTm (mB (binD .Mult) (mTm (mCall [true, true] g_most_between (mCons (mPl 8) (mCons (mPl 6) (mNil))))) (mTm (mB ixD (mPl 8) (mTm (mK (.int 1))))))) (mTm (mB (binD .Add) (mTm (mB ixD (mPl 8) (mTm (mK (.int 2))))) (mTm (mB (binD .Mult) (mPl 6) (mTm (mB ixD (mPl 8) (mTm (mK (.int 0))))))))))) (mSeq (mRet (mK (.bool false))) (mSkip)) (mSkip)) (mSkip)))) (mSkip)))))))) (mSeq (mRet (mK (.bool true))) (mSkip))
section
variable {P : Program} {w : World} {K : PySem.W.Frag} {mg : Str → Option Value} {base : Heap}
theorem sc_put_in : FnScope ["purse", "coins"] ["purse", "coins"] (defScope st_put_in) := ⟨rfl, rfl, rfl, by decide +kernel, rfl, by decide +kernel, by decide +kernel⟩
theorem pl_put_in : Plain d_put_in ["purse", "coins"] := ⟨rfl, rfl, fun _ _ _ _ _ _ us hl => match us, hl with | [_, _], _ => rfl⟩
theorem bd_put_in (W : Wd K mg) (f : Addr) (cdv : Value) (A : Around) (outer : List Env) (s : Shared) (H : Hp) (E : XK) (hr : Rm 0 (cxN P w K mg base ["purse", "coins"] d_put_in f cdv A outer s H E).A) : PSs (cxN P w K mg base ["purse", "coins"] d_put_in f cdv A outer s H E) d_put_in.body (tS (K, w) W0 (ios [true, true]) m_put_in) :=
  have nd : (["purse", "coins"] : List Str).Nodup := sc_put_in.nd
  ms_cons (ms_ret (x_bf .min rfl (W.free 14) rfl rfl (ma_cons (mo_tm (x_ix (mo_name (pv 0)) (mo_tm (me_int)))) (ma_cons (mo_tm (x_bin (mo_name (pv 1)) (mo_tm (x_ix (mo_name (pv 0)) (mo_tm (me_int)))))) (ma_nil))))) (ms_nil)
theorem ok_put_in (W : Wd K mg) : KnG P w K mg base 1 "put_in" ["purse", "coins"] (spOf (K, w) 2 g_put_in) := kng_mk W 0 0 rfl rfl rfl pl_put_in sc_put_in (bd_put_in W)
theorem sc_paid_turns : FnScope ["purse", "coins", "many", "paid", "known", "turn", "ago", "before", "rounds"] ["purse", "coins", "many"] (defScope st_paid_turns) := ⟨rfl, rfl, rfl, by decide +kernel, rfl, by decide +kernel, by decide +kernel⟩
theorem pl_paid_turns : Plain d_paid_turns ["purse", "coins", "many"] := ⟨rfl, rfl, fun _ _ _ _ _ _ us hl => match us, hl with | [_, _, _], _ => rfl⟩
theorem bd_paid_turns (W : Wd K mg) (f : Addr) (cdv : Value) (A : Around) (outer : List Env) (s : Shared) (H : Hp) (E : XK) (hr : Rm 1 (cxN P w K mg base ["purse", "coins", "many", "paid", "known", "turn", "ago", "before", "rounds"] d_paid_turns f cdv A outer s H E).A) : PSs (cxN P w K mg base ["purse", "coins", "many", "paid", "known", "turn", "ago", "before", "rounds"] d_paid_turns f cdv A outer s H E) d_paid_turns.body (tS (K, w) W0 (ios [true, false, true]) m_paid_turns) :=
  have nd : (["purse", "coins", "many", "paid", "known", "turn", "ago", "before", "rounds"] : List Str).Nodup := sc_paid_turns.nd
  ms_cons (z_par2 3 1 rfl nd (ma_cons (mo_tm (x_bin (mo_name (pv 1)) (mo_tm (x_ix (mo_name (pv 0)) (mo_tm (me_int)))))) (ma_cons (mo_tm (x_bin (mo_name (pv 1)) (mo_tm (x_ix (mo_name (pv 0)) (mo_tm (me_int)))))) (ma_nil)))) (ms_cons (z_set 4 nd (x_dnew)) (ms_cons (z_set 5 nd (me_int)) (ms_cons (ms_while .never (y_cmp hr.toRoom (mo_name (pv 5)) (mo_name (pv 2))) (ms_cons (ms_if (y_din hr.toRoom (pv 4) (mo_name (pv 1))) (ms_cons (z_asg (Gd.imp (gd_tup rfl (gds_cons (gd_name) (gds_cons (gd_name) (gds_nil)))) (by intro j h; simpa using h)) (pg_tup rfl (pgs_cons (g_nm 6 nd) (pgs_cons (g_nm 7 nd) (pgs_nil)))) (x_dget hr.toRoom (pv 4) (mo_name (pv 1)))) (ms_cons (z_set 8 nd (x_bin (mo_tm (x_bin (mo_name (pv 2)) (mo_name (pv 5)))) (mo_tm (x_bin (mo_name (pv 5)) (mo_name (pv 6)))))) (ms_cons (z_set 3 nd (x_bin (mo_name (pv 3)) (mo_tm (x_bin (mo_name (pv 8)) (mo_tm (x_bin (mo_name (pv 3)) (mo_name (pv 7)))))))) (ms_cons (z_set 5 nd (x_bin (mo_name (pv 5)) (mo_tm (x_bin (mo_name (pv 8)) (mo_tm (x_bin (mo_name (pv 5)) (mo_name (pv 6)))))))) (ms_cons (z_set 4 nd (x_dnew)) (ms_nil)))))) (ms_cons (z_dput hr.toRoom 4 (pv 4) (me_tup (ma_cons (mo_name (pv 5)) (ma_cons (mo_name (pv 3)) (ma_nil)))) (mo_name (pv 1))) (ms_nil))) (ms_cons (ms_if (y_cmp hr.toRoom (mo_name (pv 5)) (mo_name (pv 2))) (ms_cons (z_set 1 nd (g_call (ok_put_in W) hr (by decide) rfl (ma_cons (mo_name (pv 0)) (ma_cons (mo_name (pv 1)) (ma_nil))))) (ms_cons (z_par2 3 1 rfl nd (ma_cons (mo_tm (x_bin (mo_name (pv 3)) (mo_tm (x_bin (mo_name (pv 1)) (mo_tm (x_ix (mo_name (pv 0)) (mo_tm (me_int)))))))) (ma_cons (mo_tm (x_bin (mo_name (pv 1)) (mo_tm (x_ix (mo_name (pv 0)) (mo_tm (me_int)))))) (ma_nil)))) (ms_cons (z_set 5 nd (x_bin (mo_name (pv 5)) (mo_tm (me_int)))) (ms_nil)))) (ms_nil)) (ms_nil)))) (ms_cons (ms_retV (pv 3)) (ms_nil)))))
theorem ok_paid_turns (W : Wd K mg) : KnG P w K mg base 2 "paid_turns" ["purse", "coins", "many"] (spOf (K, w) 3 g_paid_turns) := kng_mk W 1 1 rfl rfl rfl pl_paid_turns sc_paid_turns (bd_paid_turns W)
theorem sc_most_paid : FnScope ["purse", "many"] ["purse", "many"] (defScope st_most_paid) := ⟨rfl, rfl, rfl, by decide +kernel, rfl, by decide +kernel, by decide +kernel⟩
theorem pl_most_paid : Plain d_most_paid ["purse", "many"] := ⟨rfl, rfl, fun _ _ _ _ _ _ us hl => match us, hl with | [_, _], _ => rfl⟩
theorem bd_most_paid (W : Wd K mg) (f : Addr) (cdv : Value) (A : Around) (outer : List Env) (s : Shared) (H : Hp) (E : XK) (hr : Rm 2 (cxN P w K mg base ["purse", "many"] d_most_paid f cdv A outer s H E).A) : PSs (cxN P w K mg base ["purse", "many"] d_most_paid f cdv A outer s H E) d_most_paid.body (tS (K, w) W0 (ios [true, true]) m_most_paid) :=
  have nd : (["purse", "many"] : List Str).Nodup := sc_most_paid.nd
  ms_cons (ms_ret (g_call (ok_paid_turns W) hr (by decide) rfl (ma_cons (mo_name (pv 0)) (ma_cons (mo_tm (x_ix (mo_name (pv 0)) (mo_tm (me_int)))) (ma_cons (mo_name (pv 1)) (ma_nil)))))) (ms_nil)
theorem ok_most_paid (W : Wd K mg) : KnG P w K mg base 3 "most_paid" ["purse", "many"] (spOf (K, w) 2 g_most_paid) := kng_mk W 2 2 rfl rfl rfl pl_most_paid sc_most_paid (bd_most_paid W)
theorem sc_most_between : FnScope ["purse", "many"] ["purse", "many"] (defScope st_most_between) := ⟨rfl, rfl, rfl, by decide +kernel, rfl, by decide +kernel, by decide +kernel⟩
theorem pl_most_between : Plain d_most_between ["purse", "many"] := ⟨rfl, rfl, fun _ _ _ _ _ _ us hl => match us, hl with | [_, _], _ => rfl⟩
theorem bd_most_between (W : Wd K mg) (f : Addr) (cdv : Value) (A : Around) (outer : List Env) (s : Shared) (H : Hp) (E : XK) (hr : Rm 2 (cxN P w K mg base ["purse", "many"] d_most_between f cdv A outer s H E).A) : PSs (cxN P w K mg base ["purse", "many"] d_most_between f cdv A outer s H E) d_most_between.body (tS (K, w) W0 (ios [true, true]) m_most_between) :=
  have nd : (["purse", "many"] : List Str).Nodup := sc_most_between.nd
  ms_cons (ms_if (y_cmp hr.toRoom (mo_tm (x_ix (mo_name (pv 0)) (mo_tm (me_int)))) (mo_tm (me_int))) (ms_cons (ms_ret (g_call (ok_paid_turns W) hr (by decide) rfl (ma_cons (mo_name (pv 0)) (ma_cons (mo_tm (x_ix (mo_name (pv 0)) (mo_tm (me_int)))) (ma_cons (mo_name (pv 1)) (ma_nil)))))) (ms_nil)) (ms_nil)) (ms_cons (ms_ret (g_call (ok_paid_turns W) hr (by decide) rfl (ma_cons (mo_name (pv 0)) (ma_cons (mo_tm (x_ix (mo_name (pv 0)) (mo_tm (me_int)))) (ma_cons (mo_name (pv 1)) (ma_nil)))))) (ms_nil))
theorem ok_most_between (W : Wd K mg) : KnG P w K mg base 3 "most_between" ["purse", "many"] (spOf (K, w) 2 g_most_between) := kng_mk W 3 3 rfl rfl rfl pl_most_between sc_most_between (bd_most_between W)
theorem sc_law_cell_at : FnScope ["_law_script", "_law_k"] ["_law_script", "_law_k"] (defScope st_law_cell_at) := ⟨rfl, rfl, rfl, by decide +kernel, rfl, by decide +kernel, by decide +kernel⟩
theorem pl_law_cell_at : Plain d_law_cell_at ["_law_script", "_law_k"] := ⟨rfl, rfl, fun _ _ _ _ _ _ us hl => match us, hl with | [_, _], _ => rfl⟩
theorem bd_law_cell_at (W : Wd K mg) (f : Addr) (cdv : Value) (A : Around) (outer : List Env) (s : Shared) (H : Hp) (E : XK) (hr : Rm 0 (cxN P w K mg base ["_law_script", "_law_k"] d_law_cell_at f cdv A outer s H E).A) : PSs (cxN P w K mg base ["_law_script", "_law_k"] d_law_cell_at f cdv A outer s H E) d_law_cell_at.body (tS (K, w) W0 (ios [true, true]) m_law_cell_at) :=
  have nd : (["_law_script", "_law_k"] : List Str).Nodup := sc_law_cell_at.nd
  ms_cons (ms_if (y_cmp hr.toRoom (mo_name (pv 1)) (mo_tm (x_bf .len rfl (W.free 15) rfl rfl (ma_cons (mo_name (pv 0)) (ma_nil))))) (ms_cons (ms_ret (x_ix (mo_name (pv 0)) (mo_name (pv 1)))) (ms_nil)) (ms_nil)) (ms_cons (ms_ret (me_int)) (ms_nil))
theorem ok_law_cell_at (W : Wd K mg) : KnG P w K mg base 1 "_law_cell_at" ["_law_script", "_law_k"] (spOf (K, w) 2 g_law_cell_at) := kng_mk W 4 4 rfl rfl rfl pl_law_cell_at sc_law_cell_at (bd_law_cell_at W)
theorem sc_law_next : FnScope ["_law_seed"] ["_law_seed"] (defScope st_law_next) := ⟨rfl, rfl, rfl, by decide +kernel, rfl, by decide +kernel, by decide +kernel⟩
theorem pl_law_next : Plain d_law_next ["_law_seed"] := ⟨rfl, rfl, fun _ _ _ _ _ _ us hl => match us, hl with | [_], _ => rfl⟩
theorem bd_law_next (W : Wd K mg) (f : Addr) (cdv : Value) (A : Around) (outer : List Env) (s : Shared) (H : Hp) (E : XK) (hr : Rm 0 (cxN P w K mg base ["_law_seed"] d_law_next f cdv A outer s H E).A) : PSs (cxN P w K mg base ["_law_seed"] d_law_next f cdv A outer s H E) d_law_next.body (tS (K, w) W0 (ios [false]) m_law_next) :=
  have nd : (["_law_seed"] : List Str).Nodup := sc_law_next.nd
  ms_cons (z_set 0 nd (x_bin (mo_tm (x_bin (mo_name (pv 0)) (mo_tm (me_int)))) (mo_tm (me_int)))) (ms_cons (ms_ret (x_bin (mo_tm (x_bin (mo_tm (x_bin (mo_tm (x_bin (mo_name (pv 0)) (mo_name (pv 0)))) (mo_tm (x_bin (mo_tm (me_int)) (mo_name (pv 0)))))) (mo_tm (me_int)))) (mo_tm (me_int)))) (ms_nil))
theorem ok_law_next (W : Wd K mg) : KnG P w K mg base 1 "_law_next" ["_law_seed"] (spOf (K, w) 1 g_law_next) := kng_mk W 5 5 rfl rfl rfl pl_law_next sc_law_next (bd_law_next W)
theorem sc_law_pen_of : FnScope ["_law_cell", "_law_left"] ["_law_cell"] (defScope st_law_pen_of) := ⟨rfl, rfl, rfl, by decide +kernel, rfl, by decide +kernel, by decide +kernel⟩
theorem pl_law_pen_of : Plain d_law_pen_of ["_law_cell"] := ⟨rfl, rfl, fun _ _ _ _ _ _ us hl => match us, hl with | [_], _ => rfl⟩
theorem bd_law_pen_of (W : Wd K mg) (f : Addr) (cdv : Value) (A : Around) (outer : List Env) (s : Shared) (H : Hp) (E : XK) (hr : Rm 0 (cxN P w K mg base ["_law_cell", "_law_left"] d_law_pen_of f cdv A outer s H E).A) : PSs (cxN P w K mg base ["_law_cell", "_law_left"] d_law_pen_of f cdv A outer s H E) d_law_pen_of.body (tS (K, w) W0 (ios [true]) m_law_pen_of) :=
  have nd : (["_law_cell", "_law_left"] : List Str).Nodup := sc_law_pen_of.nd
  ms_cons (z_set 1 nd (x_bf .max rfl (W.free 17) rfl rfl (ma_cons (mo_name (pv 0)) (ma_cons (mo_tm (x_bin (mo_tm (me_int)) (mo_name (pv 0)))) (ma_nil))))) (ms_cons (ms_ret (me_lst (ma_cons (mo_name (pv 1)) (ma_cons (mo_tm (x_bf .int rfl (W.free 16) rfl rfl (ma_cons (mo_tm (x_cmp hr.toRoom (mo_name (pv 1)) (mo_tm (x_bin (mo_tm (me_int)) (mo_tm (me_int)))))) (ma_nil)))) (ma_cons (mo_tm (x_bin (mo_name (pv 1)) (mo_tm (me_int)))) (ma_nil)))))) (ms_nil))
theorem ok_law_pen_of (W : Wd K mg) : KnG P w K mg base 1 "_law_pen_of" ["_law_cell"] (spOf (K, w) 1 g_law_pen_of) := kng_mk W 6 6 rfl rfl rfl pl_law_pen_of sc_law_pen_of (bd_law_pen_of W)
theorem sc_law_draw : FnScope ["_law_pen", "_law_many", "_law_found"] ["_law_pen", "_law_many"] (defScope st_law_draw) := ⟨rfl, rfl, rfl, by decide +kernel, rfl, by decide +kernel, by decide +kernel⟩
theorem pl_law_draw : Plain d_law_draw ["_law_pen", "_law_many"] := ⟨rfl, rfl, fun _ _ _ _ _ _ us hl => match us, hl with | [_, _], _ => rfl⟩
theorem bd_law_draw (W : Wd K mg) (f : Addr) (cdv : Value) (A : Around) (outer : List Env) (s : Shared) (H : Hp) (E : XK) (hr : Rm 1 (cxN P w K mg base ["_law_pen", "_law_many", "_law_found"] d_law_draw f cdv A outer s H E).A) : PSs (cxN P w K mg base ["_law_pen", "_law_many", "_law_found"] d_law_draw f cdv A outer s H E) d_law_draw.body (tS (K, w) W0 (ios [true, true]) m_law_draw) :=
  have nd : (["_law_pen", "_law_many", "_law_found"] : List Str).Nodup := sc_law_draw.nd
  ms_cons (ms_if (PW.pt (mt_and (y_cmp hr.toRoom (mo_tm (x_ix (mo_name (pv 0)) (mo_tm (me_int)))) (mo_tm (me_int))) (mt_and1 (y_cmp hr.toRoom (mo_tm (x_ix (mo_name (pv 0)) (mo_tm (me_int)))) (mo_tm (me_int)))))) (ms_cons (z_set 2 nd (x_bin (mo_tm (x_ix (mo_name (pv 0)) (mo_tm (me_int)))) (mo_name (pv 1)))) (ms_cons (z_ix 0 (pv 0) (mo_tm (me_int)) (x_bin (mo_tm (x_ix (mo_name (pv 0)) (mo_tm (me_int)))) (mo_name (pv 1)))) (ms_cons (ms_retV (pv 2)) (ms_nil)))) (ms_nil)) (ms_cons (z_ix 0 (pv 0) (mo_tm (me_int)) (g_call (ok_law_next W) hr (by decide) rfl (ma_cons (mo_tm (x_bin (mo_tm (g_call (ok_law_next W) hr (by decide) rfl (ma_cons (mo_tm (x_ix (mo_name (pv 0)) (mo_tm (me_int)))) (ma_nil)))) (mo_tm (me_int)))) (ma_nil)))) (ms_cons (ms_ret (x_bin (mo_tm (x_bin (mo_tm (x_ix (mo_name (pv 0)) (mo_tm (me_int)))) (mo_tm (me_int)))) (mo_name (pv 1)))) (ms_nil)))
theorem ok_law_draw (W : Wd K mg) : KnG P w K mg base 2 "_law_draw" ["_law_pen", "_law_many"] (spOf (K, w) 2 g_law_draw) := kng_mk W 7 7 rfl rfl rfl pl_law_draw sc_law_draw (bd_law_draw W)
theorem sc_law_purse : FnScope ["_law_pen", "_law_way", "_law_part", "_law_price", "_law_cap", "_law_purse_here"] ["_law_pen"] (defScope st_law_purse) := ⟨rfl, rfl, rfl, by decide +kernel, rfl, by decide +kernel, by decide +kernel⟩
theorem pl_law_purse : Plain d_law_purse ["_law_pen"] := ⟨rfl, rfl, fun _ _ _ _ _ _ us hl => match us, hl with | [_], _ => rfl⟩
theorem bd_law_purse (W : Wd K mg) (f : Addr) (cdv : Value) (A : Around) (outer : List Env) (s : Shared) (H : Hp) (E : XK) (hr : Rm 2 (cxN P w K mg base ["_law_pen", "_law_way", "_law_part", "_law_price", "_law_cap", "_law_purse_here"] d_law_purse f cdv A outer s H E).A) : PSs (cxN P w K mg base ["_law_pen", "_law_way", "_law_part", "_law_price", "_law_cap", "_law_purse_here"] d_law_purse f cdv A outer s H E) d_law_purse.body (tS (K, w) W0 (ios [true]) m_law_purse) :=
  have nd : (["_law_pen", "_law_way", "_law_part", "_law_price", "_law_cap", "_law_purse_here"] : List Str).Nodup := sc_law_purse.nd
  ms_cons (z_set 1 nd (g_call (ok_law_draw W) hr (by decide) rfl (ma_cons (mo_name (pv 0)) (ma_cons (mo_tm (me_int)) (ma_nil))))) (ms_cons (z_asg (Gd.imp (gd_tup rfl (gds_cons (gd_name) (gds_cons (gd_name) (gds_cons (gd_name) (gds_nil))))) (by intro j h; simpa using h)) (pg_tup rfl (pgs_cons (g_nm 2 nd) (pgs_cons (g_nm 3 nd) (pgs_cons (g_nm 4 nd) (pgs_nil))))) (x_ix (mo_tm (me_lst (ma_cons (mo_tm (me_tup (ma_cons (mo_tm (me_int)) (ma_cons (mo_tm (me_int)) (ma_cons (mo_tm (me_int)) (ma_nil)))))) (ma_cons (mo_tm (me_tup (ma_cons (mo_tm (me_int)) (ma_cons (mo_tm (me_int)) (ma_cons (mo_tm (me_int)) (ma_nil)))))) (ma_cons (mo_tm (me_tup (ma_cons (mo_tm (me_int)) (ma_cons (mo_tm (me_int)) (ma_cons (mo_tm (me_int)) (ma_nil)))))) (ma_cons (mo_tm (me_tup (ma_cons (mo_tm (me_int)) (ma_cons (mo_tm (me_int)) (ma_cons (mo_tm (me_int)) (ma_nil)))))) (ma_nil))))))) (mo_name (pv 1)))) (ms_cons (z_set 5 nd (me_tup (ma_cons (mo_tm (g_call (ok_law_draw W) hr (by decide) rfl (ma_cons (mo_name (pv 0)) (ma_cons (mo_name (pv 2)) (ma_nil))))) (ma_cons (mo_tm (x_bin (mo_tm (me_int)) (mo_tm (g_call (ok_law_draw W) hr (by decide) rfl (ma_cons (mo_name (pv 0)) (ma_cons (mo_name (pv 3)) (ma_nil))))))) (ma_cons (mo_tm (g_call (ok_law_draw W) hr (by decide) rfl (ma_cons (mo_name (pv 0)) (ma_cons (mo_name (pv 4)) (ma_nil))))) (ma_nil)))))) (ms_cons (ms_ret (x_bin (mo_name (pv 5)) (mo_tm (me_tup (ma_cons (mo_tm (x_ix (mo_tm (me_lst (ma_cons (mo_tm (me_int)) (ma_cons (mo_tm (x_ix (mo_name (pv 5)) (mo_tm (me_int)))) (ma_cons (mo_tm (g_call (ok_law_draw W) hr (by decide) rfl (ma_cons (mo_name (pv 0)) (ma_cons (mo_tm (x_bin (mo_tm (x_ix (mo_name (pv 5)) (mo_tm (me_int)))) (mo_tm (me_int)))) (ma_nil))))) (ma_nil)))))) (mo_tm (g_call (ok_law_draw W) hr (by decide) rfl (ma_cons (mo_name (pv 0)) (ma_cons (mo_tm (me_int)) (ma_nil))))))) (ma_nil)))))) (ms_nil))))
theorem ok_law_purse (W : Wd K mg) : KnG P w K mg base 3 "_law_purse" ["_law_pen"] (spOf (K, w) 1 g_law_purse) := kng_mk W 8 8 rfl rfl rfl pl_law_purse sc_law_purse (bd_law_purse W)
theorem sc_law_small : FnScope ["_law_pen", "_law_most", "_law_cap", "_law_purse_here"] ["_law_pen", "_law_most"] (defScope st_law_small) := ⟨rfl, rfl, rfl, by decide +kernel, rfl, by decide +kernel, by decide +kernel⟩
theorem pl_law_small : Plain d_law_small ["_law_pen", "_law_most"] := ⟨rfl, rfl, fun _ _ _ _ _ _ us hl => match us, hl with | [_, _], _ => rfl⟩
theorem bd_law_small (W : Wd K mg) (f : Addr) (cdv : Value) (A : Around) (outer : List Env) (s : Shared) (H : Hp) (E : XK) (hr : Rm 2 (cxN P w K mg base ["_law_pen", "_law_most", "_law_cap", "_law_purse_here"] d_law_small f cdv A outer s H E).A) : PSs (cxN P w K mg base ["_law_pen", "_law_most", "_law_cap", "_law_purse_here"] d_law_small f cdv A outer s H E) d_law_small.body (tS (K, w) W0 (ios [true, true]) m_law_small) :=
  have nd : (["_law_pen", "_law_most", "_law_cap", "_law_purse_here"] : List Str).Nodup := sc_law_small.nd
  ms_cons (z_set 2 nd (g_call (ok_law_draw W) hr (by decide) rfl (ma_cons (mo_name (pv 0)) (ma_cons (mo_tm (x_bin (mo_name (pv 1)) (mo_tm (me_int)))) (ma_nil))))) (ms_cons (z_set 3 nd (me_tup (ma_cons (mo_tm (g_call (ok_law_draw W) hr (by decide) rfl (ma_cons (mo_name (pv 0)) (ma_cons (mo_tm (me_int)) (ma_nil))))) (ma_cons (mo_tm (x_bin (mo_tm (me_int)) (mo_tm (g_call (ok_law_draw W) hr (by decide) rfl (ma_cons (mo_name (pv 0)) (ma_cons (mo_tm (me_int)) (ma_nil))))))) (ma_cons (mo_name (pv 2)) (ma_nil)))))) (ms_cons (ms_ret (x_bin (mo_name (pv 3)) (mo_tm (me_tup (ma_cons (mo_tm (x_ix (mo_tm (me_lst (ma_cons (mo_tm (me_int)) (ma_cons (mo_name (pv 2)) (ma_cons (mo_tm (g_call (ok_law_draw W) hr (by decide) rfl (ma_cons (mo_name (pv 0)) (ma_cons (mo_tm (x_bin (mo_name (pv 2)) (mo_tm (me_int)))) (ma_nil))))) (ma_nil)))))) (mo_tm (g_call (ok_law_draw W) hr (by decide) rfl (ma_cons (mo_name (pv 0)) (ma_cons (mo_tm (me_int)) (ma_nil))))))) (ma_nil)))))) (ms_nil)))
theorem ok_law_small (W : Wd K mg) : KnG P w K mg base 3 "_law_small" ["_law_pen", "_law_most"] (spOf (K, w) 2 g_law_small) := kng_mk W 9 9 rfl rfl rfl pl_law_small sc_law_small (bd_law_small W)
theorem sc_law_best : FnScope ["_law_purse_here", "_law_starts", "_law_many", "_law_known", "_law_coins", "_law_turn", "_law_spent", "_law_knocks", "_law_left", "_law_follow"] ["_law_purse_here", "_law_starts", "_law_many"] (defScope st_law_best) := ⟨rfl, rfl, rfl, by decide +kernel, rfl, by decide +kernel, by decide +kernel⟩
theorem pl_law_best : Plain d_law_best ["_law_purse_here", "_law_starts", "_law_many"] := ⟨rfl, rfl, fun _ _ _ _ _ _ us hl => match us, hl with | [_, _, _], _ => rfl⟩
theorem bd_law_best (W : Wd K mg) (f : Addr) (cdv : Value) (A : Around) (outer : List Env) (s : Shared) (H : Hp) (E : XK) (hr : Rm 0 (cxN P w K mg base ["_law_purse_here", "_law_starts", "_law_many", "_law_known", "_law_coins", "_law_turn", "_law_spent", "_law_knocks", "_law_left", "_law_follow"] d_law_best f cdv A outer s H E).A) : PSs (cxN P w K mg base ["_law_purse_here", "_law_starts", "_law_many", "_law_known", "_law_coins", "_law_turn", "_law_spent", "_law_knocks", "_law_left", "_law_follow"] d_law_best f cdv A outer s H E) d_law_best.body (tS (K, w) W0 (ios [true, true, true]) m_law_best) :=
  have nd : (["_law_purse_here", "_law_starts", "_law_many", "_law_known", "_law_coins", "_law_turn", "_law_spent", "_law_knocks", "_law_left", "_law_follow"] : List Str).Nodup := sc_law_best.nd
  ms_cons (z_set 3 nd (x_dof (W.free 20) rfl rfl (ma_cons (mo_tm (x_lc [("_law_coins", 4)] rfl nd (blkOk_by (by first | rfl | kernel_rfl)) (mi_any (mo_tm (me_name (pv 1)))) (Gd.imp (gd_name) (by intro j h; simpa using h)) (fun _ _ _ _ _ => g_nm 4 nd) (fun _ _ _ _ _ => pts_no) (fun _ _ _ _ _ => me_tup (ma_cons (mo_name (pv 4)) (ma_cons (mo_tm (me_int)) (ma_nil)))))) (ma_nil)))) (ms_cons (z_for (ts := [5]) .never rfl (z_rng1 (W.free 19) rfl (ma_cons (mo_tm (x_bin (mo_name (pv 2)) (mo_tm (me_int)))) (ma_nil))) (Gd.imp (gd_name) (by intro j h; simpa using h)) (g_nm 5 nd) (ms_cons (z_set 6 nd (x_dnew)) (ms_cons (z_for (ts := [4]) .never rfl (mi_dkeys (pv 3)) (Gd.imp (gd_name) (by intro j h; simpa using h)) (g_nm 4 nd) (ms_cons (z_for (ts := [7]) .never rfl (z_rng1 (W.free 19) rfl (ma_cons (mo_tm (x_bin (mo_tm (x_bin (mo_name (pv 4)) (mo_tm (x_ix (mo_name (pv 0)) (mo_tm (me_int)))))) (mo_tm (me_int)))) (ma_nil))) (Gd.imp (gd_name) (by intro j h; simpa using h)) (g_nm 7 nd) (ms_cons (z_set 8 nd (x_bin (mo_name (pv 4)) (mo_tm (x_bin (mo_name (pv 7)) (mo_tm (x_ix (mo_name (pv 0)) (mo_tm (me_int)))))))) (ms_cons (z_dput hr.toRoom 6 (pv 6) (x_bf .max rfl (W.free 17) rfl rfl (ma_cons (mo_tm (x_dgetd hr.toRoom (pv 6) (me_name (pv 8)) (me_int) ⟨rfl, rfl, rfl, rfl⟩)) (ma_cons (mo_tm (x_bin (mo_tm (x_dgetF hr.toRoom (pv 3) (mo_name (pv 4)))) (mo_name (pv 7)))) (ma_nil)))) (mo_name (pv 8))) (ms_nil)))) (ms_nil))) (ms_cons (z_set 3 nd (x_dnew)) (ms_cons (z_for (ts := [4]) .never rfl (mi_dkeys (pv 6)) (Gd.imp (gd_name) (by intro j h; simpa using h)) (g_nm 4 nd) (ms_cons (z_set 9 nd (me_ife (y_cmp hr.toRoom (mo_name (pv 5)) (mo_name (pv 2))) (x_bf .min rfl (W.free 14) rfl rfl (ma_cons (mo_tm (x_ix (mo_name (pv 0)) (mo_tm (me_int)))) (ma_cons (mo_tm (x_bin (mo_name (pv 4)) (mo_tm (x_ix (mo_name (pv 0)) (mo_tm (me_int)))))) (ma_nil)))) (me_name (pv 4)))) (ms_cons (z_dput hr.toRoom 3 (pv 3) (x_bf .max rfl (W.free 17) rfl rfl (ma_cons (mo_tm (x_dgetd hr.toRoom (pv 3) (me_name (pv 9)) (me_int) ⟨rfl, rfl, rfl, rfl⟩)) (ma_cons (mo_tm (x_dgetF hr.toRoom (pv 6) (mo_name (pv 4)))) (ma_nil)))) (mo_name (pv 9))) (ms_nil)))) (ms_nil)))))) (ms_cons (ms_ret (x_bg .maxl rfl (W.free 17) rfl rfl (ma_cons (mo_tm (x_dvals (W.free 18) rfl rfl (pv 3))) (ma_nil)))) (ms_nil)))
theorem ok_law_best (W : Wd K mg) : KnG P w K mg base 1 "_law_best" ["_law_purse_here", "_law_starts", "_law_many"] (spOf (K, w) 3 g_law_best) := kng_mk W 10 10 rfl rfl rfl pl_law_best sc_law_best (bd_law_best W)
theorem sc_law_comes : FnScope ["_law_purse_here", "_law_found", "_law_seen", "_law_at", "_law_here", "_law_follow"] ["_law_purse_here"] (defScope st_law_comes) := ⟨rfl, rfl, rfl, by decide +kernel, rfl, by decide +kernel, by decide +kernel⟩
theorem pl_law_comes : Plain d_law_comes ["_law_purse_here"] := ⟨rfl, rfl, fun _ _ _ _ _ _ us hl => match us, hl with | [_], _ => rfl⟩
theorem bd_law_comes (W : Wd K mg) (f : Addr) (cdv : Value) (A : Around) (outer : List Env) (s : Shared) (H : Hp) (E : XK) (hr : Rm 0 (cxN P w K mg base ["_law_purse_here", "_law_found", "_law_seen", "_law_at", "_law_here", "_law_follow"] d_law_comes f cdv A outer s H E).A) : PSs (cxN P w K mg base ["_law_purse_here", "_law_found", "_law_seen", "_law_at", "_law_here", "_law_follow"] d_law_comes f cdv A outer s H E) d_law_comes.body (tS (K, w) W0 (ios [true]) m_law_comes) :=
  have nd : (["_law_purse_here", "_law_found", "_law_seen", "_law_at", "_law_here", "_law_follow"] : List Str).Nodup := sc_law_comes.nd
  ms_cons (z_set 1 nd (me_lst (ma_cons (mo_tm (x_ix (mo_name (pv 0)) (mo_tm (me_int)))) (ma_nil)))) (ms_cons (z_set 2 nd (x_d1 (x_ix (mo_name (pv 0)) (mo_tm (me_int))) (me_bl))) (ms_cons (z_set 3 nd (me_int)) (ms_cons (ms_while .never (y_cmp hr.toRoom (mo_name (pv 3)) (mo_tm (x_bf .len rfl (W.free 15) rfl rfl (ma_cons (mo_name (pv 1)) (ma_nil))))) (ms_cons (z_set 4 nd (x_ix (mo_name (pv 1)) (mo_name (pv 3)))) (ms_cons (z_set 3 nd (x_bin (mo_name (pv 3)) (mo_tm (me_int)))) (ms_cons (z_for (ts := [5]) .never rfl (mi_any (mo_tm (me_tup (ma_cons (mo_tm (x_bf .min rfl (W.free 14) rfl rfl (ma_cons (mo_tm (x_ix (mo_name (pv 0)) (mo_tm (me_int)))) (ma_cons (mo_tm (x_bin (mo_name (pv 4)) (mo_tm (x_ix (mo_name (pv 0)) (mo_tm (me_int)))))) (ma_nil))))) (ma_cons (mo_tm (x_bin (mo_name (pv 4)) (mo_tm (x_ix (mo_name (pv 0)) (mo_tm (me_int)))))) (ma_nil)))))) (Gd.imp (gd_name) (by intro j h; simpa using h)) (g_nm 5 nd) (ms_cons (ms_if (PW.pt (mt_and (y_cmp hr.toRoom (mo_name (pv 5)) (mo_tm (me_int))) (mt_and1 (y_dnin hr.toRoom (pv 2) (mo_name (pv 5)))))) (ms_cons (z_dput hr.toRoom 2 (pv 2) (me_bl) (mo_name (pv 5))) (ms_cons (z_app 1 (pv 1) (me_name (pv 5))) (ms_nil))) (ms_nil)) (ms_nil))) (ms_nil))))) (ms_cons (ms_retV (pv 1)) (ms_nil)))))
theorem ok_law_comes (W : Wd K mg) : KnG P w K mg base 1 "_law_comes" ["_law_purse_here"] (spOf (K, w) 1 g_law_comes) := kng_mk W 11 11 rfl rfl rfl pl_law_comes sc_law_comes (bd_law_comes W)
theorem sc_law_soon : FnScope ["_law_purse_here", "_law_many", "_law_coins", "_law_paid", "_law_turn"] ["_law_purse_here", "_law_many"] (defScope st_law_soon) := ⟨rfl, rfl, rfl, by decide +kernel, rfl, by decide +kernel, by decide +kernel⟩
theorem pl_law_soon : Plain d_law_soon ["_law_purse_here", "_law_many"] := ⟨rfl, rfl, fun _ _ _ _ _ _ us hl => match us, hl with | [_, _], _ => rfl⟩
theorem bd_law_soon (W : Wd K mg) (f : Addr) (cdv : Value) (A : Around) (outer : List Env) (s : Shared) (H : Hp) (E : XK) (hr : Rm 0 (cxN P w K mg base ["_law_purse_here", "_law_many", "_law_coins", "_law_paid", "_law_turn"] d_law_soon f cdv A outer s H E).A) : PSs (cxN P w K mg base ["_law_purse_here", "_law_many", "_law_coins", "_law_paid", "_law_turn"] d_law_soon f cdv A outer s H E) d_law_soon.body (tS (K, w) W0 (ios [true, true]) m_law_soon) :=
  have nd : (["_law_purse_here", "_law_many", "_law_coins", "_law_paid", "_law_turn"] : List Str).Nodup := sc_law_soon.nd
  ms_cons (z_par2 2 3 rfl nd (ma_cons (mo_tm (me_ife (y_cmp hr.toRoom (mo_tm (x_ix (mo_name (pv 0)) (mo_tm (me_int)))) (mo_tm (me_int))) (x_ix (mo_name (pv 0)) (mo_tm (me_int))) (x_ix (mo_name (pv 0)) (mo_tm (me_int))))) (ma_cons (mo_tm (me_int)) (ma_nil)))) (ms_cons (z_for (ts := [4]) .never rfl (z_rng1 (W.free 19) rfl (ma_cons (mo_tm (x_bin (mo_name (pv 1)) (mo_tm (me_int)))) (ma_nil))) (Gd.imp (gd_name) (by intro j h; simpa using h)) (g_nm 4 nd) (ms_cons (z_par2 3 2 rfl nd (ma_cons (mo_tm (x_bin (mo_name (pv 3)) (mo_tm (x_bin (mo_name (pv 2)) (mo_tm (x_ix (mo_name (pv 0)) (mo_tm (me_int)))))))) (ma_cons (mo_tm (x_bin (mo_name (pv 2)) (mo_tm (x_ix (mo_name (pv 0)) (mo_tm (me_int)))))) (ma_nil)))) (ms_cons (ms_if (y_cmp hr.toRoom (mo_name (pv 4)) (mo_name (pv 1))) (ms_cons (z_set 2 nd (x_bf .min rfl (W.free 14) rfl rfl (ma_cons (mo_tm (x_ix (mo_name (pv 0)) (mo_tm (me_int)))) (ma_cons (mo_tm (x_bin (mo_name (pv 2)) (mo_tm (x_ix (mo_name (pv 0)) (mo_tm (me_int)))))) (ma_nil))))) (ms_nil)) (ms_nil)) (ms_nil)))) (ms_cons (ms_retV (pv 3)) (ms_nil)))
theorem ok_law_soon (W : Wd K mg) : KnG P w K mg base 1 "_law_soon" ["_law_purse_here", "_law_many"] (spOf (K, w) 2 g_law_soon) := kng_mk W 12 12 rfl rfl rfl pl_law_soon sc_law_soon (bd_law_soon W)
theorem sc_law : FnScope ["_law_script", "_law_cell", "_law_pen", "_law_few", "_law_purse_here", "_law_many", "_law_more", "_law_due", "_law_one"] ["_law_script"] (defScope st_law) := ⟨rfl, rfl, rfl, by decide +kernel, rfl, by decide +kernel, by decide +kernel⟩
theorem pl_law : Plain d_law ["_law_script"] := ⟨rfl, rfl, fun _ _ _ _ _ _ us hl => match us, hl with | [_], _ => rfl⟩
theorem bd_law (W : Wd K mg) (f : Addr) (cdv : Value) (A : Around) (outer : List Env) (s : Shared) (H : Hp) (E : XK) (hr : Rm 3 (cxN P w K mg base ["_law_script", "_law_cell", "_law_pen", "_law_few", "_law_purse_here", "_law_many", "_law_more", "_law_due", "_law_one"] d_law f cdv A outer s H E).A) : PSs (cxN P w K mg base ["_law_script", "_law_cell", "_law_pen", "_law_few", "_law_purse_here", "_law_many", "_law_more", "_law_due", "_law_one"] d_law f cdv A outer s H E) d_law.body (tS (K, w) W0 (ios [false]) m_law) :=
  have nd : (["_law_script", "_law_cell", "_law_pen", "_law_few", "_law_purse_here", "_law_many", "_law_more", "_law_due", "_law_one"] : List Str).Nodup := sc_law.nd
  ms_cons (z_for (ts := [1]) .never rfl (mi_any (mo_tm (x_bin (mo_tm (me_lst (ma_cons (mo_tm (g_call (ok_law_cell_at W) hr (by decide) rfl (ma_cons (mo_name (pv 0)) (ma_cons (mo_tm (me_int)) (ma_nil))))) (ma_nil)))) (mo_tm (me_slice (mo_name (pv 0)) (mp_some (mo_tm (me_int))) (mp_some (mo_tm (me_int)))))))) (Gd.imp (gd_name) (by intro j h; simpa using h)) (g_nm 1 nd) (ms_cons (z_set 2 nd (g_call (ok_law_pen_of W) hr (by decide) rfl (ma_cons (mo_name (pv 1)) (ma_nil)))) (ms_cons (z_par2 3 4 rfl nd (ma_cons (mo_tm (g_call (ok_law_small W) hr (by decide) rfl (ma_cons (mo_name (pv 2)) (ma_cons (mo_tm (me_int)) (ma_nil))))) (ma_cons (mo_tm (g_call (ok_law_purse W) hr (by decide) rfl (ma_cons (mo_name (pv 2)) (ma_nil)))) (ma_nil)))) (ms_cons (z_par2 5 6 rfl nd (ma_cons (mo_tm (g_call (ok_law_draw W) hr (by decide) rfl (ma_cons (mo_name (pv 2)) (ma_cons (mo_tm (me_int)) (ma_nil))))) (ma_cons (mo_tm (g_call (ok_law_draw W) hr (by decide) rfl (ma_cons (mo_name (pv 2)) (ma_cons (mo_tm (me_int)) (ma_nil))))) (ma_nil)))) (ms_cons (z_set 7 nd (g_call (ok_law_best W) hr (by decide) rfl (ma_cons (mo_name (pv 3)) (ma_cons (mo_tm (g_call (ok_law_comes W) hr (by decide) rfl (ma_cons (mo_name (pv 3)) (ma_nil)))) (ma_cons (mo_name (pv 5)) (ma_nil)))))) (ms_cons (ms_if (y_cmp hr.toRoom (mo_tm (x_repr (W.free 21) hr rfl (ma_cons (mo_tm (me_lst (ma_cons (mo_tm (g_call (ok_most_between W) hr (by decide) rfl (ma_cons (mo_name (pv 3)) (ma_cons (mo_name (pv 5)) (ma_nil))))) (ma_cons (mo_tm (g_call (ok_most_between W) hr (by decide) rfl (ma_cons (mo_name (pv 3)) (ma_cons (mo_name (pv 5)) (ma_nil))))) (ma_nil))))) (ma_nil)))) (mo_tm (x_repr (W.free 21) hr rfl (ma_cons (mo_tm (me_lst (ma_cons (mo_name (pv 7)) (ma_cons (mo_name (pv 7)) (ma_nil))))) (ma_nil))))) (ms_cons (ms_ret (me_bl)) (ms_nil)) (ms_nil)) (ms_cons (z_for (ts := [8]) .never rfl (mi_any (mo_tm (me_tup (ma_cons (mo_name (pv 3)) (ma_cons (mo_name (pv 4)) (ma_nil)))))) (Gd.imp (gd_name) (by intro j h; simpa using h)) (g_nm 8 nd) (ms_cons (ms_if (PW.pt (mt_or (y_cmp hr.toRoom (mo_tm (g_call (ok_most_between W) hr (by decide) rfl (ma_cons (mo_name (pv 8)) (ma_cons (mo_name (pv 6)) (ma_nil))))) (mo_tm (g_call (ok_law_soon W) hr (by decide) rfl (ma_cons (mo_name (pv 8)) (ma_cons (mo_name (pv 6)) (ma_nil)))))) (mt_or1 (y_cmp hr.toRoom (mo_tm (g_call (ok_most_between W) hr (by decide) rfl (ma_cons (mo_name (pv 8)) (ma_cons (mo_name (pv 6)) (ma_nil))))) (mo_tm (g_call (ok_most_paid W) hr (by decide) rfl (ma_cons (mo_name (pv 8)) (ma_cons (mo_name (pv 6)) (ma_nil))))))))) (ms_cons (ms_ret (me_bl)) (ms_nil)) (ms_nil)) (ms_cons (ms_if (y_cmp hr.toRoom (mo_tm (x_bin (mo_tm (g_call (ok_most_between W) hr (by decide) rfl (ma_cons (mo_name (pv 8)) (ma_cons (mo_name (pv 6)) (ma_nil))))) (mo_tm (x_ix (mo_name (pv 8)) (mo_tm (me_int)))))) (mo_tm (x_bin (mo_tm (x_ix (mo_name (pv 8)) (mo_tm (me_int)))) (mo_tm (x_bin (mo_name (pv 6)) (mo_tm (x_ix (mo_name (pv 8)) (mo_tm (me_int))))))))) (ms_cons (ms_ret (me_bl)) (ms_nil)) (ms_nil)) (ms_nil)))) (ms_nil)))))))) (ms_cons (ms_ret (me_bl)) (ms_nil))
end
end KW
namespace KW
open PySem PySem.Spec PyProof.Rows L2 L2.M
local macro_rules | `(tactic| walk_at "ev") => `(tactic| simp [semF, shared, after, mSeq, mSkip, mIf, mRet, mRetN, mRetV, mSet, mSetIx, mExpr, mB, mU, mTm, mPl, mK, mVar, mOp, mCons, mNil, bor, bors, mTst, mAndT, mOrT, mNotT, mAndE, mOrE, mNotE, mIfE, mIsi, isiD, mChn, chnL, cmpD, binD, addD, subD, mulD, modD, fdivD, powD, eqD, neD, ltD, leD, gtD, geD, isD, isnD, L2.M.isNon, negD, ixD, Bf.f, Bg.f, lenD, L2.M.intD, maxD, minD, repD, strD, gmaxD, gminD, sumD, sortD, anyD, allD, mCall, frz, fzO, lend, wb, mTup, mLst, fzs, cD, mAsg, bTup, bTps, mApp, tupD, lstD, mRev, revD, ofs_inj, ee_ii, ee_ss, ee_bb, ee_nn, ee_is, ee_si, ee_in, ee_ni, ee_tt, ee_ll, ee_maps, ee_0, ee_1, ee_2, ee_3, at_lit, at_nat, at_m1, at_m2, scD, emD, sizeLine_eq, ixN, sm_lit, mSrc, itemsD, plOf, rng1D, bNm, mSl, mPt, mNoP, slD, mPar, keepT, tmsO, setA, mFlow, zipX, enumX, itemsX, intsOf, ints_all, boolsOf, shaped_lay, lay_int, lay_bool, lay_none, lay_dict, lay_tup, lay_list, lay_ints, sortX_ints, mPlF, mPlI, mRd, mPU, mPB, mFSet, mFNew, mNSet, mPApp, mPSetIx, mPPop, mMeth, mNew, isIns, cellO, mLstN, mAddN, mAppN, semX, mTold, mCallX, xRet, xExpr, xSet, mRaise, mM, isL, isS, mOrV, truD])
local macro_rules | `(tactic| walk_at "es") => `(tactic| simp [semF, shared, after, mSeq, mSkip, mIf, mRet, mRetN, mRetV, mSet, mSetIx, mExpr, mB, mU, mTm, mPl, mK, mVar, mOp, mCons, mNil, bor, bors, mTst, mAndT, mOrT, mNotT, mAndE, mOrE, mNotE, mIfE, mIsi, isiD, mChn, chnL, cmpD, binD, addD, subD, mulD, modD, fdivD, powD, eqD, neD, ltD, leD, gtD, geD, isD, isnD, L2.M.isNon, negD, ixD, Bf.f, Bg.f, lenD, L2.M.intD, maxD, minD, repD, strD, gmaxD, gminD, sumD, sortD, anyD, allD, mCall, frz, fzO, lend, wb, mTup, mLst, fzs, cD, mAsg, bTup, bTps, mApp, tupD, lstD, mRev, revD, ofs_inj, ee_ii, ee_ss, ee_bb, ee_nn, ee_is, ee_si, ee_in, ee_ni, ee_tt, ee_ll, ee_maps, ee_0, ee_1, ee_2, ee_3, at_lit, at_nat, at_m1, at_m2, scD, emD, sizeLine_eq, ixN, sm_lit, mSrc, itemsD, plOf, rng1D, bNm, mSl, mPt, mNoP, slD, mPar, keepT, tmsO, setA, mFlow, zipX, enumX, itemsX, intsOf, ints_all, boolsOf, shaped_lay, lay_int, lay_bool, lay_none, lay_dict, lay_tup, lay_list, lay_ints, sortX_ints, mPlF, mPlI, mRd, mPU, mPB, mFSet, mFNew, mNSet, mPApp, mPSetIx, mPPop, mMeth, mNew, isIns, cellO, mLstN, mAddN, mAppN, semX, mTold, mCallX, xRet, xExpr, xSet, mRaise, mM, isL, isS, mOrV, truD, *])
local macro_rules | `(tactic| walk_at "el") => `(tactic| simp [semF, shared, after, mSeq, mSkip, mIf, mRet, mRetN, mRetV, mSet, mSetIx, mExpr, mB, mU, mTm, mPl, mK, mVar, mOp, mCons, mNil, bor, bors, mTst, mAndT, mOrT, mNotT, mAndE, mOrE, mNotE, mIfE, mIsi, isiD, mChn, chnL, cmpD, binD, addD, subD, mulD, modD, fdivD, powD, eqD, neD, ltD, leD, gtD, geD, isD, isnD, L2.M.isNon, negD, ixD, Bf.f, Bg.f, lenD, L2.M.intD, maxD, minD, repD, strD, gmaxD, gminD, sumD, sortD, anyD, allD, mCall, frz, fzO, lend, wb, mTup, mLst, fzs, cD, mAsg, bTup, bTps, mApp, tupD, lstD, mRev, revD, ofs_inj, ee_ii, ee_ss, ee_bb, ee_nn, ee_is, ee_si, ee_in, ee_ni, ee_tt, ee_ll, ee_maps, ee_0, ee_1, ee_2, ee_3, at_lit, at_nat, at_m1, at_m2, scD, emD, sizeLine_eq, ixN, sm_lit, mSrc, itemsD, plOf, rng1D, bNm, mSl, mPt, mNoP, slD, mPar, keepT, tmsO, setA, mFlow, zipX, enumX, itemsX, intsOf, ints_all, boolsOf, shaped_lay, lay_int, lay_bool, lay_none, lay_dict, lay_tup, lay_list, lay_ints, sortX_ints, mPlF, mPlI, mRd, mPU, mPB, mFSet, mFNew, mNSet, mPApp, mPSetIx, mPPop, mMeth, mNew, isIns, cellO, mLstN, mAddN, mAppN, semX, mTold, mCallX, xRet, xExpr, xSet, mRaise, mM, isL, isS, mOrV, truD, mLc, lcL, sameC, wipeC, restC, mYes, *])
local macro_rules | `(tactic| walk_at "ef") => `(tactic| simp [semF, shared, after, mSeq, mSkip, mIf, mRet, mRetN, mRetV, mSet, mSetIx, mExpr, mB, mU, mTm, mPl, mK, mVar, mOp, mCons, mNil, bor, bors, mTst, mAndT, mOrT, mNotT, mAndE, mOrE, mNotE, mIfE, mIsi, isiD, mChn, chnL, cmpD, binD, addD, subD, mulD, modD, fdivD, powD, eqD, neD, ltD, leD, gtD, geD, isD, isnD, L2.M.isNon, negD, ixD, Bf.f, Bg.f, lenD, L2.M.intD, maxD, minD, repD, strD, gmaxD, gminD, sumD, sortD, anyD, allD, mCall, frz, fzO, lend, wb, mTup, mLst, fzs, cD, mAsg, bTup, bTps, mApp, tupD, lstD, mRev, revD, ofs_inj, ee_ii, ee_ss, ee_bb, ee_nn, ee_is, ee_si, ee_in, ee_ni, ee_tt, ee_ll, ee_maps, ee_0, ee_1, ee_2, ee_3, at_lit, at_nat, at_m1, at_m2, scD, emD, sizeLine_eq, ixN, sm_lit, mSrc, itemsD, plOf, rng1D, bNm, mSl, mPt, mNoP, slD, mPar, keepT, tmsO, setA, mFlow, zipX, enumX, itemsX, intsOf, ints_all, boolsOf, shaped_lay, lay_int, lay_bool, lay_none, lay_dict, lay_tup, lay_list, lay_ints, sortX_ints, mPlF, mPlI, mRd, mPU, mPB, mFSet, mFNew, mNSet, mPApp, mPSetIx, mPPop, mMeth, mNew, isIns, cellO, mLstN, mAddN, mAppN, semX, mTold, mCallX, xRet, xExpr, xSet, mRaise, mM, isL, isS, mOrV, truD, mFor, forL, mLc, lcL, sameC, wipeC, restC, mYes, *])
local macro_rules | `(tactic| walk_at "rg") => `(tactic| (and_intros <;> grind))
local macro_rules | `(tactic| walk_at "nx") => `(tactic| (apply wx_nx; focus (walk_at "ev"; try first | exact ⟨rfl, rfl⟩ | rfl)))
local macro_rules | `(tactic| walk_at "ns") => `(tactic| (apply wx_nx; focus (walk_at "es"; try first | exact ⟨rfl, rfl⟩ | rfl)))
local macro_rules | `(tactic| walk_at "rt") => `(tactic| (apply wx_rt; focus (walk_at "ev"; try first | exact ⟨rfl, rfl⟩ | rfl)))
local macro_rules | `(tactic| walk_at "rs") => `(tactic| (apply wx_rt; focus (walk_at "es"; try first | exact ⟨rfl, rfl⟩ | rfl)))
local macro_rules | `(tactic| walk_at "ed") => `(tactic| simp [semF, shared, after, mSeq, mSkip, mIf, mRet, mRetN, mRetV, mSet, mSetIx, mExpr, mB, mU, mTm, mPl, mK, mVar, mOp, mCons, mNil, bor, bors, mTst, mAndT, mOrT, mNotT, mAndE, mOrE, mNotE, mIfE, mIsi, isiD, mChn, chnL, cmpD, binD, addD, subD, mulD, modD, fdivD, powD, eqD, neD, ltD, leD, gtD, geD, isD, isnD, L2.M.isNon, negD, ixD, Bf.f, Bg.f, lenD, L2.M.intD, maxD, minD, repD, strD, gmaxD, gminD, sumD, sortD, anyD, allD, mCall, frz, fzO, lend, wb, mTup, mLst, fzs, cD, mAsg, bTup, bTps, mApp, tupD, lstD, mRev, revD, ofs_inj, ee_ii, ee_ss, ee_bb, ee_nn, ee_is, ee_si, ee_in, ee_ni, ee_tt, ee_ll, ee_maps, ee_0, ee_1, ee_2, ee_3, at_lit, at_nat, at_m1, at_m2, scD, emD, sizeLine_eq, ixN, sm_lit, mSrc, itemsD, plOf, rng1D, bNm, mSl, mPt, mNoP, slD, mPar, keepT, tmsO, setA, mFlow, zipX, enumX, itemsX, intsOf, ints_all, boolsOf, shaped_lay, lay_int, lay_bool, lay_none, lay_dict, lay_tup, lay_list, lay_ints, sortX_ints, mPlF, mPlI, mRd, mPU, mPB, mFSet, mFNew, mNSet, mPApp, mPSetIx, mPPop, mMeth, mNew, isIns, cellO, mLstN, mAddN, mAppN, semX, mTold, mCallX, xRet, xExpr, xSet, mRaise, mM, isL, isS, mOrV, truD, mDNew, mDIn, mDGet, mDLen, mDPut, kyD, mNNew, mN1, mTake, mFnV, mCallF, mNIn, mNGet, mNPut, mNVals, mNList, nKs, mDGetD, mDList, mNNe, *])
theorem put_in_eq (z : Pz) (c : Int) : g_put_in [.sh z.d, .sh (.int c)] = some (.sh (.int (pin z c)), [.sh z.d, .sh (.int c)]) := by
  unfold g_put_in m_put_in Pz.d pin
  walk_at "ev"
abbrev vl2 (x : Int × Int) : PyData := .tuple [.int x.1, .int x.2]
abbrev kC (E : List (Int × (Int × Int))) : C := .dc 0 (kdE vl2 E)
theorem pt_1 {z : Pz} (hr : 0 < z.r) (hs : sm z.r) {c : Int} {m : C} : (mPar [0, 2] [3, 1] (mCons (mTm (mB (binD .FloorDiv) (mPl 1) (mTm (mB ixD (mPl 0) (mTm (mK (.int 1))))))) (mCons (mTm (mB (binD .Mod) (mPl 1) (mTm (mB ixD (mPl 0) (mTm (mK (.int 1))))))) (mNil)))) [.sh z.d, .sh (.int c), m, .no, .no, .no, .no, .no, .no] = some (.nx, [.sh z.d, .sh (.int (c % z.r)), m, .sh (.int (c / z.r)), .no, .no, .no, .no, .no]) := by
  have h2 : ¬ z.r = 0 := by omega
  have h3 : 0 ≤ z.r := by omega
  unfold Pz.d
  generalize z.r = r at *
  walk_at "es"
theorem pt_t {Z : PyData} {c1 c3 c4 c6 c7 c8 : C} {t m : Int} : (mTst (mB (cmpD .Lt) (mPl 5) (mPl 2))) [.sh Z, c1, .sh (.int m), c3, c4, .sh (.int t), c6, c7, c8] = some (decide (t < m), [.sh Z, c1, .sh (.int m), c3, c4, .sh (.int t), c6, c7, c8]) := by
  walk_at "ev"
theorem pt_in {Z : PyData} {c2 c3 c5 c6 c7 c8 : C} {E : List (Int × (Int × Int))} {c : Int} : mTst (mDIn false 4 (mPl 1)) [.sh Z, .sh (.int c), c2, c3, kC E, c5, c6, c7, c8] = some ((lkE E c).isSome, [.sh Z, .sh (.int c), c2, c3, kC E, c5, c6, c7, c8]) := by
  have h := dLk_int vl2 E c
  unfold kC
  generalize kdE vl2 E = K at *
  simp [mTst, mDIn, mPl, bor, kyD, h]
theorem pt_g {Z : PyData} {c2 c3 c5 c6 c7 c8 : C} {E : List (Int × (Int × Int))} {c a b : Int} (hx : lkE E c = some (a, b)) : (mAsg [6, 7] [0, 2] (bTup [bNm 6, bNm 7]) (mDGet 4 (mPl 1))) [.sh Z, .sh (.int c), c2, c3, kC E, c5, c6, c7, c8] = some (.nx, [.sh Z, .sh (.int c), c2, c3, kC E, c5, .sh (.int a), .sh (.int b), c8]) := by
  have h := dLk_int vl2 E c
  rw [hx] at h
  have e : mDGet 4 (mPl 1) [.sh Z, .sh (.int c), c2, c3, kC E, c5, c6, c7, c8] = some (.sh (.tuple [.int a, .int b]), [.sh Z, .sh (.int c), c2, c3, kC E, c5, c6, c7, c8]) := by
    unfold kC
    generalize kdE vl2 E = K at *
    simp [mDGet, mPl, bor, kyD, h]
  generalize mDGet 4 (mPl 1) = G at *
  generalize kC E = K at *
  walk_at "es"
theorem pt_2 {Z : PyData} {c1 c3 c4 c7 c8 : C} {t m a : Int} (h : 0 < t - a) (hs : sm (t - a)) : (mSet [0, 2] 8 (mB (binD .FloorDiv) (mTm (mB (binD .Sub) (mPl 2) (mPl 5))) (mTm (mB (binD .Sub) (mPl 5) (mPl 6))))) [.sh Z, c1, .sh (.int m), c3, c4, .sh (.int t), .sh (.int a), c7, c8] = some (.nx, [.sh Z, c1, .sh (.int m), c3, c4, .sh (.int t), .sh (.int a), c7, .sh (.int ((m - t) / (t - a)))]) := by
  have h2 : ¬ t - a = 0 := by omega
  have h3 : 0 ≤ t - a := by omega
  have e : ∀ u v : Int, subD (.int u) (.int v) = some (.sh (.int (u - v))) := fun _ _ => rfl
  generalize hL : t - a = L at *
  walk_at "es"
theorem pt_3 {Z : PyData} {c1 c2 c4 c5 c6 : C} {p b q : Int} (h1 : sm q) (h2 : sm (p - b)) : (mSet [0, 2] 3 (mB (binD .Add) (mPl 3) (mTm (mB (binD .Mult) (mPl 8) (mTm (mB (binD .Sub) (mPl 3) (mPl 7))))))) [.sh Z, c1, c2, .sh (.int p), c4, c5, c6, .sh (.int b), .sh (.int q)] = some (.nx, [.sh Z, c1, c2, .sh (.int (p + q * (p - b))), c4, c5, c6, .sh (.int b), .sh (.int q)]) := by
  walk_at "es"
theorem pt_4 {Z : PyData} {c1 c2 c3 c4 c7 : C} {t a q : Int} (h1 : sm q) (h2 : sm (t - a)) : (mSet [0, 2] 5 (mB (binD .Add) (mPl 5) (mTm (mB (binD .Mult) (mPl 8) (mTm (mB (binD .Sub) (mPl 5) (mPl 6))))))) [.sh Z, c1, c2, c3, c4, .sh (.int t), .sh (.int a), c7, .sh (.int q)] = some (.nx, [.sh Z, c1, c2, c3, c4, .sh (.int (t + q * (t - a))), .sh (.int a), c7, .sh (.int q)]) := by
  walk_at "es"
theorem pt_p {Z : PyData} {c2 c6 c7 c8 : C} {E : List (Int × (Int × Int))} {c t p : Int} (hl : E.length < 16777216) : (mDPut 4 (mTup (mCons (mPl 5) (mCons (mPl 3) (mNil)))) (mPl 1)) [.sh Z, .sh (.int c), c2, .sh (.int p), kC E, .sh (.int t), c6, c7, c8] = some (.nx, [.sh Z, .sh (.int c), c2, .sh (.int p), kC (ptE E c (t, p)), .sh (.int t), c6, c7, c8]) := by
  have h := dPt_int vl2 E c (t, p)
  have hl2 : (kdE vl2 E).length < sizeLine := by
    rw [sizeLine_eq]
    unfold kdE
    simpa using hl
  have e : mTup (mCons (mPl 5) (mCons (mPl 3) (mNil))) [.sh Z, .sh (.int c), c2, .sh (.int p), kC E, .sh (.int t), c6, c7, c8] = some (.sh (vl2 (t, p)), [.sh Z, .sh (.int c), c2, .sh (.int p), kC E, .sh (.int t), c6, c7, c8]) := by
    generalize kC E = K
    clear h hl2 hl
    walk_at "ev"
  unfold kC at *
  rw [← h]
  generalize kdE vl2 E = K at *
  generalize vl2 (t, p) = V at *
  simp [mDPut, e, cD, mPl, bor, kyD, hl2]
theorem pt_5 {z : Pz} (hr : 0 < z.r) (hs : sm z.r) {c t m p : Int} {c4 c6 c7 c8 : C} (h : t < m) : (mIf (mTst (mB (cmpD .Lt) (mPl 5) (mPl 2))) (mSeq (mSet [0, 2] 1 (mCall [true, true] g_put_in (mCons (mPl 0) (mCons (mPl 1) (mNil))))) (mSeq (mPar [0, 2] [3, 1] (mCons (mTm (mB (binD .Add) (mPl 3) (mTm (mB (binD .FloorDiv) (mPl 1) (mTm (mB ixD (mPl 0) (mTm (mK (.int 1))))))))) (mCons (mTm (mB (binD .Mod) (mPl 1) (mTm (mB ixD (mPl 0) (mTm (mK (.int 1))))))) (mNil)))) (mSeq (mSet [0, 2] 5 (mB (binD .Add) (mPl 5) (mTm (mK (.int 1))))) (mSkip)))) (mSkip)) [.sh z.d, .sh (.int c), .sh (.int m), .sh (.int p), c4, .sh (.int t), c6, c7, c8] = some (.nx, [.sh z.d, .sh (.int (pin z c % z.r)), .sh (.int m), .sh (.int (p + pin z c / z.r)), c4, .sh (.int (t + 1)), c6, c7, c8]) := by
  have h2 : ¬ z.r = 0 := by omega
  have h3 : 0 ≤ z.r := by omega
  have f := put_in_eq z c
  have e : (mPar [0, 2] [3, 1] (mCons (mTm (mB (binD .Add) (mPl 3) (mTm (mB (binD .FloorDiv) (mPl 1) (mTm (mB ixD (mPl 0) (mTm (mK (.int 1))))))))) (mCons (mTm (mB (binD .Mod) (mPl 1) (mTm (mB ixD (mPl 0) (mTm (mK (.int 1))))))) (mNil)))) [.sh z.d, .sh (.int (pin z c)), .sh (.int m), .sh (.int p), c4, .sh (.int t), c6, c7, c8] = some (.nx, [.sh z.d, .sh (.int (pin z c % z.r)), .sh (.int m), .sh (.int (p + pin z c / z.r)), c4, .sh (.int t), c6, c7, c8]) := by
    unfold Pz.d
    clear f h
    generalize pin z c = x
    generalize z.r = r at *
    walk_at "es"
  generalize mPar _ _ _ = MP at *
  generalize g_put_in = G at *
  generalize pin z c = x at *
  generalize z.r = r at *
  generalize z.d = Z at *
  walk_at "es"
theorem pt_5n {Z : PyData} {c1 c3 c4 c6 c7 c8 : C} {t m : Int} (h : ¬ t < m) : (mIf (mTst (mB (cmpD .Lt) (mPl 5) (mPl 2))) (mSeq (mSet [0, 2] 1 (mCall [true, true] g_put_in (mCons (mPl 0) (mCons (mPl 1) (mNil))))) (mSeq (mPar [0, 2] [3, 1] (mCons (mTm (mB (binD .Add) (mPl 3) (mTm (mB (binD .FloorDiv) (mPl 1) (mTm (mB ixD (mPl 0) (mTm (mK (.int 1))))))))) (mCons (mTm (mB (binD .Mod) (mPl 1) (mTm (mB ixD (mPl 0) (mTm (mK (.int 1))))))) (mNil)))) (mSeq (mSet [0, 2] 5 (mB (binD .Add) (mPl 5) (mTm (mK (.int 1))))) (mSkip)))) (mSkip)) [.sh Z, c1, .sh (.int m), c3, c4, .sh (.int t), c6, c7, c8] = some (.nx, [.sh Z, c1, .sh (.int m), c3, c4, .sh (.int t), c6, c7, c8]) := by
  generalize mPar _ _ _ = MP
  generalize g_put_in = G
  walk_at "es"
structure InvP (z : Pz) (T : Int) (M t : Nat) (c p : Int) (E : List (Int × (Int × Int))) : Prop where
  tM : t ≤ M
  cb : 0 ≤ c ∧ c < z.r
  tot : p + sp z c (M - t) = T
  nd : (E.map (·.1)).Nodup
  en : ∀ e ∈ E, (0 ≤ e.1 ∧ e.1 < z.r) ∧ ∃ a : Nat, e.2.1 = a ∧ a < t ∧ cj z e.1 (t - a) = c ∧ e.2.2 + sp z e.1 (t - a) = p
theorem invP_s {z : Pz} (h : z.Ok) {T : Int} {M t : Nat} {c p : Int} {E : List (Int × (Int × Int))} (hI : InvP z T M t c p E) (ht : t < M) (hn : lkE E c = none ∨ E = []) : InvP z T M (t + 1) (pin z c % z.r) (p + pin z c / z.r) E := by
  refine ⟨ht, md_b h _, ?_, hI.nd, fun e he => ?_⟩
  · have := hI.tot
    rw [show M - t = (M - (t + 1)) + 1 by omega, sp] at this
    omega
  · obtain ⟨h1, a, h2, h3, h4, h5⟩ := hI.en e he
    refine ⟨h1, a, h2, by omega, ?_, ?_⟩
    · rw [show t + 1 - a = (t - a) + 1 by omega, cj_s, h4]
    · rw [show t + 1 - a = (t - a) + 1 by omega, sp_s, h4]
      omega
theorem invP_p {z : Pz} (h : z.Ok) {T : Int} {M t : Nat} {c p : Int} {E : List (Int × (Int × Int))} (hI : InvP z T M t c p E) (ht : t < M) : InvP z T M (t + 1) (pin z c % z.r) (p + pin z c / z.r) (ptE E c ((t : Int), p)) := by
  refine ⟨ht, md_b h _, ?_, ptE_nd hI.nd _ _, fun e he => ?_⟩
  · have := hI.tot
    rw [show M - t = (M - (t + 1)) + 1 by omega, sp] at this
    omega
  · rcases ptE_mem he with rfl | ⟨he, _⟩
    · refine ⟨hI.cb, t, rfl, by omega, ?_, ?_⟩
      · rw [show t + 1 - t = 0 + 1 by omega, cj_s]
        rfl
      · rw [show t + 1 - t = 0 + 1 by omega, sp_s]
        simp [sp, cj]
    · obtain ⟨h1, a, h2, h3, h4, h5⟩ := hI.en e he
      refine ⟨h1, a, h2, by omega, ?_, ?_⟩
      · rw [show t + 1 - a = (t - a) + 1 by omega, cj_s, h4]
      · rw [show t + 1 - a = (t - a) + 1 by omega, sp_s, h4]
        omega
/-- a round is found: so many are gone at once -/
theorem invP_r {z : Pz} {T : Int} {M t : Nat} {c p : Int} {E : List (Int × (Int × Int))} (hI : InvP z T M t c p E) {a b : Int} (hx : lkE E c = some (a, b)) : ∃ n : Nat, a = n ∧ n < t ∧ b + sp z c (t - n) = p ∧ InvP z T M (t + (M - t) / (t - n) * (t - n)) c (p + ((M - t) / (t - n) : Nat) * (p - b)) [] := by
  obtain ⟨h1, n, h2, h3, h4, h5⟩ := hI.en _ (lkE_some hx)
  dsimp only at h1 h2 h4 h5
  refine ⟨n, h2, h3, h5, ?_⟩
  have ht := hI.tM
  generalize hL : t - n = L at *
  generalize hq : (M - t) / L = q at *
  have hqL : q * L ≤ M - t := by
    rw [← hq]
    exact Nat.div_mul_le_self _ _
  refine ⟨by omega, hI.cb, ?_, by simp, fun e he => by cases he⟩
  have e1 := sp_rounds z h4 q (M - (t + q * L))
  rw [show q * L + (M - (t + q * L)) = M - t by omega] at e1
  have e2 := hI.tot
  rw [e1] at e2
  have e3 : p - b = sp z c L := by omega
  rw [e3]
  omega
theorem paid_turns_eq {z : Pz} (h : z.Ok) {c : Int} (h0 : 0 ≤ c) {M : Nat} (hM : M ≤ 10 ^ 12) : g_paid_turns [.sh z.d, .sh (.int c), .sh (.int (M : Int))] = some (.sh (.int (gr z c M)), [.sh z.d, .sh (.int c), .sh (.int (M : Int))]) := by
  have hr := h.r0
  have hr1 := h.r1
  apply rt_eq
  unfold g_paid_turns m_paid_turns
  apply rt_sem rfl
  have hsr : sm z.r := ⟨by omega, by omega⟩
  apply wx_nx (pt_1 (by omega) hsr)
  apply wx_nx (ε1 := [.sh z.d, .sh (.int (c % z.r)), .sh (.int (M : Int)), .sh (.int (c / z.r)), kC [], .no, .no, .no, .no])
  · rfl
  apply wx_nx (ε1 := [.sh z.d, .sh (.int (c % z.r)), .sh (.int (M : Int)), .sh (.int (c / z.r)), kC [], .sh (.int 0), .no, .no, .no])
  · rfl
  have hI0 : InvP z (gr z c M) M 0 (c % z.r) (c / z.r) [] := ⟨Nat.zero_le _, md_b h _, by rw [gr_sp]; rfl, by simp, fun e he => by cases he⟩
  generalize gr z c M = T at *
  apply wx_seq
  apply wx_while (fun n ε => ∃ (t : Nat) (c1 p : Int) (E : List (Int × (Int × Int))) (c6 c7 c8 : C), n = M - t ∧ InvP z T M t c1 p E ∧ ε = [.sh z.d, .sh (.int c1), .sh (.int (M : Int)), .sh (.int p), kC E, .sh (.int (t : Int)), c6, c7, c8]) M ⟨0, _, _, [], _, _, _, rfl, hI0, rfl⟩
  rintro n ε ⟨t, c1, p, E, c6, c7, c8, rfl, hI, rfl⟩
  refine ⟨_, _, pt_t, fun hf => ?_, fun ht => ?_⟩
  · have hf2 : ¬ (t : Int) < M := by simpa using hf
    have e : t = M := by have := hI.tM; omega
    have := hI.tot
    rw [e, Nat.sub_self] at this
    simp only [sp] at this
    have e2 : p = T := by omega
    rw [e2]
    apply wx_rt (c := .sh (.int T)) (ε1 := [.sh z.d, .sh (.int c1), .sh (.int (M : Int)), .sh (.int T), kC E, .sh (.int (t : Int)), c6, c7, c8])
    · unfold kC
      generalize kdE vl2 E = K
      generalize z.d = Z
      clear hI hI0 hf hf2 this e2 h
      walk_at "ev"
    exact ⟨rfl, rfl⟩
  · have ht : t < M := by
      have : (t : Int) < M := by simpa using ht
      omega
    apply wx_ifs pt_in
    · intro hs
      obtain ⟨⟨a, b⟩, hx⟩ := Option.isSome_iff_exists.mp hs
      obtain ⟨m, rfl, hm, hb, hI2⟩ := invP_r hI hx
      have hc1 := hI.cb
      have hsp := sp_b h hc1 (t - m)
      have hL : 0 < (t : Int) - (m : Int) := by omega
      have hLn : ((t - m : Nat) : Int) = (t : Int) - (m : Int) := by omega
      apply wx_in
      apply wx_nx (pt_g hx)
      apply wx_in
      apply wx_nx (pt_2 hL ⟨by omega, by omega⟩)
      have eq : ((M : Int) - (t : Int)) / ((t : Int) - (m : Int)) = (((M - t) / (t - m) : Nat) : Int) := by
        rw [Int.natCast_ediv, hLn]
        congr 1
        omega
      rw [eq]
      have hq : (M - t) / (t - m) ≤ M := Nat.le_trans (Nat.div_le_self _ _) (by omega)
      have hqL : (M - t) / (t - m) * (t - m) ≤ M - t := Nat.div_mul_le_self _ _
      have ec : (((M - t) / (t - m) : Nat) : Int) * ((t : Int) - (m : Int)) = (((M - t) / (t - m) * (t - m) : Nat) : Int) := by
        rw [Int.natCast_mul, hLn]
      generalize (M - t) / (t - m) = q at *
      apply wx_in
      apply wx_nx (pt_3 ⟨by omega, by omega⟩ ⟨by omega, by omega⟩)
      apply wx_in
      apply wx_nx (pt_4 ⟨by omega, by omega⟩ ⟨by omega, by omega⟩)
      rw [ec]
      generalize q * (t - m) = qL at *
      apply wx_in
      apply wx_nx (ε1 := [.sh z.d, .sh (.int c1), .sh (.int (M : Int)), .sh (.int (p + q * (p - b))), kC [], .sh (.int ((t : Int) + (qL : Nat))), .sh (.int (m : Int)), .sh (.int b), .sh (.int (q : Int))])
      · rfl
      apply wx_sk
      by_cases c : t + qL < M
      · have e2 : (t : Int) + (qL : Nat) < (M : Int) := by omega
        apply wx_nx (pt_5 (by omega) hsr e2)
        have hI3 := invP_s h hI2 c (.inr rfl)
        exact wx_skip ⟨M - (t + qL + 1), by omega, t + qL + 1, _, _, [], _, _, _, rfl, hI3, by congr 6⟩
      · have e2 : ¬ (t : Int) + (qL : Nat) < (M : Int) := by omega
        apply wx_nx (pt_5n e2)
        exact wx_skip ⟨M - (t + qL), by omega, t + qL, _, _, [], _, _, _, rfl, hI2, by congr 6⟩
    · intro hn
      have hx : lkE E c1 = none := by
        cases q : lkE E c1 with
        | none => rfl
        | some _ => rw [q] at hn; cases hn
      have hEl : E.length ≤ 1000 := keys_len hI.nd fun e he => by
        have := (hI.en e he).1
        omega
      apply wx_in
      apply wx_nx (pt_p (by omega))
      apply wx_sk
      have e2 : (t : Int) < (M : Int) := by omega
      apply wx_nx (pt_5 (by omega) hsr e2)
      have hI3 := invP_p h hI ht
      exact wx_skip ⟨M - (t + 1), by omega, t + 1, _, _, _, _, _, _, rfl, hI3, rfl⟩
end KW
namespace KW
open PySem PySem.Spec PyProof.Rows L2 L2.M
local macro_rules | `(tactic| walk_at "ev") => `(tactic| simp [semF, shared, after, mSeq, mSkip, mIf, mRet, mRetN, mRetV, mSet, mSetIx, mExpr, mB, mU, mTm, mPl, mK, mVar, mOp, mCons, mNil, bor, bors, mTst, mAndT, mOrT, mNotT, mAndE, mOrE, mNotE, mIfE, mIsi, isiD, mChn, chnL, cmpD, binD, addD, subD, mulD, modD, fdivD, powD, eqD, neD, ltD, leD, gtD, geD, isD, isnD, L2.M.isNon, negD, ixD, Bf.f, Bg.f, lenD, L2.M.intD, maxD, minD, repD, strD, gmaxD, gminD, sumD, sortD, anyD, allD, mCall, frz, fzO, lend, wb, mTup, mLst, fzs, cD, mAsg, bTup, bTps, mApp, tupD, lstD, mRev, revD, ofs_inj, ee_ii, ee_ss, ee_bb, ee_nn, ee_is, ee_si, ee_in, ee_ni, ee_tt, ee_ll, ee_maps, ee_0, ee_1, ee_2, ee_3, at_lit, at_nat, at_m1, at_m2, scD, emD, sizeLine_eq, ixN, sm_lit, mSrc, itemsD, plOf, rng1D, bNm, mSl, mPt, mNoP, slD, mPar, keepT, tmsO, setA, mFlow, zipX, enumX, itemsX, intsOf, ints_all, boolsOf, shaped_lay, lay_int, lay_bool, lay_none, lay_dict, lay_tup, lay_list, lay_ints, sortX_ints, mPlF, mPlI, mRd, mPU, mPB, mFSet, mFNew, mNSet, mPApp, mPSetIx, mPPop, mMeth, mNew, isIns, cellO, mLstN, mAddN, mAppN, semX, mTold, mCallX, xRet, xExpr, xSet, mRaise, mM, isL, isS, mOrV, truD])
local macro_rules | `(tactic| walk_at "es") => `(tactic| simp [semF, shared, after, mSeq, mSkip, mIf, mRet, mRetN, mRetV, mSet, mSetIx, mExpr, mB, mU, mTm, mPl, mK, mVar, mOp, mCons, mNil, bor, bors, mTst, mAndT, mOrT, mNotT, mAndE, mOrE, mNotE, mIfE, mIsi, isiD, mChn, chnL, cmpD, binD, addD, subD, mulD, modD, fdivD, powD, eqD, neD, ltD, leD, gtD, geD, isD, isnD, L2.M.isNon, negD, ixD, Bf.f, Bg.f, lenD, L2.M.intD, maxD, minD, repD, strD, gmaxD, gminD, sumD, sortD, anyD, allD, mCall, frz, fzO, lend, wb, mTup, mLst, fzs, cD, mAsg, bTup, bTps, mApp, tupD, lstD, mRev, revD, ofs_inj, ee_ii, ee_ss, ee_bb, ee_nn, ee_is, ee_si, ee_in, ee_ni, ee_tt, ee_ll, ee_maps, ee_0, ee_1, ee_2, ee_3, at_lit, at_nat, at_m1, at_m2, scD, emD, sizeLine_eq, ixN, sm_lit, mSrc, itemsD, plOf, rng1D, bNm, mSl, mPt, mNoP, slD, mPar, keepT, tmsO, setA, mFlow, zipX, enumX, itemsX, intsOf, ints_all, boolsOf, shaped_lay, lay_int, lay_bool, lay_none, lay_dict, lay_tup, lay_list, lay_ints, sortX_ints, mPlF, mPlI, mRd, mPU, mPB, mFSet, mFNew, mNSet, mPApp, mPSetIx, mPPop, mMeth, mNew, isIns, cellO, mLstN, mAddN, mAppN, semX, mTold, mCallX, xRet, xExpr, xSet, mRaise, mM, isL, isS, mOrV, truD, *])
local macro_rules | `(tactic| walk_at "el") => `(tactic| simp [semF, shared, after, mSeq, mSkip, mIf, mRet, mRetN, mRetV, mSet, mSetIx, mExpr, mB, mU, mTm, mPl, mK, mVar, mOp, mCons, mNil, bor, bors, mTst, mAndT, mOrT, mNotT, mAndE, mOrE, mNotE, mIfE, mIsi, isiD, mChn, chnL, cmpD, binD, addD, subD, mulD, modD, fdivD, powD, eqD, neD, ltD, leD, gtD, geD, isD, isnD, L2.M.isNon, negD, ixD, Bf.f, Bg.f, lenD, L2.M.intD, maxD, minD, repD, strD, gmaxD, gminD, sumD, sortD, anyD, allD, mCall, frz, fzO, lend, wb, mTup, mLst, fzs, cD, mAsg, bTup, bTps, mApp, tupD, lstD, mRev, revD, ofs_inj, ee_ii, ee_ss, ee_bb, ee_nn, ee_is, ee_si, ee_in, ee_ni, ee_tt, ee_ll, ee_maps, ee_0, ee_1, ee_2, ee_3, at_lit, at_nat, at_m1, at_m2, scD, emD, sizeLine_eq, ixN, sm_lit, mSrc, itemsD, plOf, rng1D, bNm, mSl, mPt, mNoP, slD, mPar, keepT, tmsO, setA, mFlow, zipX, enumX, itemsX, intsOf, ints_all, boolsOf, shaped_lay, lay_int, lay_bool, lay_none, lay_dict, lay_tup, lay_list, lay_ints, sortX_ints, mPlF, mPlI, mRd, mPU, mPB, mFSet, mFNew, mNSet, mPApp, mPSetIx, mPPop, mMeth, mNew, isIns, cellO, mLstN, mAddN, mAppN, semX, mTold, mCallX, xRet, xExpr, xSet, mRaise, mM, isL, isS, mOrV, truD, mLc, lcL, sameC, wipeC, restC, mYes, *])
local macro_rules | `(tactic| walk_at "ef") => `(tactic| simp [semF, shared, after, mSeq, mSkip, mIf, mRet, mRetN, mRetV, mSet, mSetIx, mExpr, mB, mU, mTm, mPl, mK, mVar, mOp, mCons, mNil, bor, bors, mTst, mAndT, mOrT, mNotT, mAndE, mOrE, mNotE, mIfE, mIsi, isiD, mChn, chnL, cmpD, binD, addD, subD, mulD, modD, fdivD, powD, eqD, neD, ltD, leD, gtD, geD, isD, isnD, L2.M.isNon, negD, ixD, Bf.f, Bg.f, lenD, L2.M.intD, maxD, minD, repD, strD, gmaxD, gminD, sumD, sortD, anyD, allD, mCall, frz, fzO, lend, wb, mTup, mLst, fzs, cD, mAsg, bTup, bTps, mApp, tupD, lstD, mRev, revD, ofs_inj, ee_ii, ee_ss, ee_bb, ee_nn, ee_is, ee_si, ee_in, ee_ni, ee_tt, ee_ll, ee_maps, ee_0, ee_1, ee_2, ee_3, at_lit, at_nat, at_m1, at_m2, scD, emD, sizeLine_eq, ixN, sm_lit, mSrc, itemsD, plOf, rng1D, bNm, mSl, mPt, mNoP, slD, mPar, keepT, tmsO, setA, mFlow, zipX, enumX, itemsX, intsOf, ints_all, boolsOf, shaped_lay, lay_int, lay_bool, lay_none, lay_dict, lay_tup, lay_list, lay_ints, sortX_ints, mPlF, mPlI, mRd, mPU, mPB, mFSet, mFNew, mNSet, mPApp, mPSetIx, mPPop, mMeth, mNew, isIns, cellO, mLstN, mAddN, mAppN, semX, mTold, mCallX, xRet, xExpr, xSet, mRaise, mM, isL, isS, mOrV, truD, mFor, forL, mLc, lcL, sameC, wipeC, restC, mYes, *])
local macro_rules | `(tactic| walk_at "rg") => `(tactic| (and_intros <;> grind))
local macro_rules | `(tactic| walk_at "nx") => `(tactic| (apply wx_nx; focus (walk_at "ev"; try first | exact ⟨rfl, rfl⟩ | rfl)))
local macro_rules | `(tactic| walk_at "ns") => `(tactic| (apply wx_nx; focus (walk_at "es"; try first | exact ⟨rfl, rfl⟩ | rfl)))
local macro_rules | `(tactic| walk_at "rt") => `(tactic| (apply wx_rt; focus (walk_at "ev"; try first | exact ⟨rfl, rfl⟩ | rfl)))
local macro_rules | `(tactic| walk_at "rs") => `(tactic| (apply wx_rt; focus (walk_at "es"; try first | exact ⟨rfl, rfl⟩ | rfl)))
local macro_rules | `(tactic| walk_at "ed") => `(tactic| simp [semF, shared, after, mSeq, mSkip, mIf, mRet, mRetN, mRetV, mSet, mSetIx, mExpr, mB, mU, mTm, mPl, mK, mVar, mOp, mCons, mNil, bor, bors, mTst, mAndT, mOrT, mNotT, mAndE, mOrE, mNotE, mIfE, mIsi, isiD, mChn, chnL, cmpD, binD, addD, subD, mulD, modD, fdivD, powD, eqD, neD, ltD, leD, gtD, geD, isD, isnD, L2.M.isNon, negD, ixD, Bf.f, Bg.f, lenD, L2.M.intD, maxD, minD, repD, strD, gmaxD, gminD, sumD, sortD, anyD, allD, mCall, frz, fzO, lend, wb, mTup, mLst, fzs, cD, mAsg, bTup, bTps, mApp, tupD, lstD, mRev, revD, ofs_inj, ee_ii, ee_ss, ee_bb, ee_nn, ee_is, ee_si, ee_in, ee_ni, ee_tt, ee_ll, ee_maps, ee_0, ee_1, ee_2, ee_3, at_lit, at_nat, at_m1, at_m2, scD, emD, sizeLine_eq, ixN, sm_lit, mSrc, itemsD, plOf, rng1D, bNm, mSl, mPt, mNoP, slD, mPar, keepT, tmsO, setA, mFlow, zipX, enumX, itemsX, intsOf, ints_all, boolsOf, shaped_lay, lay_int, lay_bool, lay_none, lay_dict, lay_tup, lay_list, lay_ints, sortX_ints, mPlF, mPlI, mRd, mPU, mPB, mFSet, mFNew, mNSet, mPApp, mPSetIx, mPPop, mMeth, mNew, isIns, cellO, mLstN, mAddN, mAppN, semX, mTold, mCallX, xRet, xExpr, xSet, mRaise, mM, isL, isS, mOrV, truD, mDNew, mDIn, mDGet, mDLen, mDPut, kyD, mNNew, mN1, mTake, mFnV, mCallF, mNIn, mNGet, mNPut, mNVals, mNList, nKs, mDGetD, mDList, mNNe, *])
@[simp] theorem next_eq (s : Int) : g_law_next [.sh (.int s)] = some (.sh (.int (nxt s)), [.sh (.int s)]) := by
  have h1 : sm ((s + 7919) % 2147483647) := ⟨by omega, by omega⟩
  unfold g_law_next m_law_next nxt
  walk_at "es"
theorem cell_eq (ns : List Int) (k : Nat) : g_law_cell_at [.sh (.list (ns.map PyData.int)), .sh (.int k)] = some (.sh (.int (ns.getD k 0)), [.sh (.list (ns.map PyData.int)), .sh (.int k)]) := by
  unfold g_law_cell_at m_law_cell_at
  by_cases h : k < ns.length
  · walk_at "es"
  · walk_at "es"
@[simp] theorem cell0_eq (ns : List Int) : g_law_cell_at [.sh (.list (ns.map PyData.int)), .sh (.int 0)] = some (.sh (.int (ns.getD 0 0)), [.sh (.list (ns.map PyData.int)), .sh (.int 0)]) := cell_eq ns 0
@[simp] theorem pen_eq (x : Int) : g_law_pen_of [.sh (.int x)] = some (.ls (penL (pnOf x)), [.sh (.int x)]) := by
  unfold g_law_pen_of m_law_pen_of pnOf penL
  walk_at "es"
@[simp] theorem draw_eq (p : Pn) (n : Int) (h0 : 0 < n) (h1 : sm n) : g_law_draw [.ls (penL p), .sh (.int n)] = some (.sh (.int (dr p n)), [.ls (penL (dn p n)), .sh (.int n)]) := by
  unfold g_law_draw m_law_draw dr dn penL
  by_cases hb : p.b = 1
  · by_cases hl : 0 < p.l
    · walk_at "es"
    · walk_at "es"
  · walk_at "es"
/-- the cells that a law goes through: the script's first ones -/
theorem cells_int (ns : List Int) (k : Int) (d : PyData) (h : d ∈ (PyData.int (ns.getD 0 0)) :: (L2.M.cutL ns (some 1) (some k)).map PyData.int) : ∃ x, d = .int x := by
  simp only [List.mem_cons, List.mem_map] at h
  rcases h with h | ⟨y, _, h⟩
  · exact ⟨_, h⟩
  · exact ⟨_, h.symm⟩
end KW
namespace KW
open PySem PySem.Spec PyProof.Rows L2 L2.M
local macro_rules | `(tactic| walk_at "ev") => `(tactic| simp [semF, shared, after, mSeq, mSkip, mIf, mRet, mRetN, mRetV, mSet, mSetIx, mExpr, mB, mU, mTm, mPl, mK, mVar, mOp, mCons, mNil, bor, bors, mTst, mAndT, mOrT, mNotT, mAndE, mOrE, mNotE, mIfE, mIsi, isiD, mChn, chnL, cmpD, binD, addD, subD, mulD, modD, fdivD, powD, eqD, neD, ltD, leD, gtD, geD, isD, isnD, L2.M.isNon, negD, ixD, Bf.f, Bg.f, lenD, L2.M.intD, maxD, minD, repD, strD, gmaxD, gminD, sumD, sortD, anyD, allD, mCall, frz, fzO, lend, wb, mTup, mLst, fzs, cD, mAsg, bTup, bTps, mApp, tupD, lstD, mRev, revD, ofs_inj, ee_ii, ee_ss, ee_bb, ee_nn, ee_is, ee_si, ee_in, ee_ni, ee_tt, ee_ll, ee_maps, ee_0, ee_1, ee_2, ee_3, at_lit, at_nat, at_m1, at_m2, scD, emD, sizeLine_eq, ixN, sm_lit, mSrc, itemsD, plOf, rng1D, bNm, mSl, mPt, mNoP, slD, mPar, keepT, tmsO, setA, mFlow, zipX, enumX, itemsX, intsOf, ints_all, boolsOf, shaped_lay, lay_int, lay_bool, lay_none, lay_dict, lay_tup, lay_list, lay_ints, sortX_ints, mPlF, mPlI, mRd, mPU, mPB, mFSet, mFNew, mNSet, mPApp, mPSetIx, mPPop, mMeth, mNew, isIns, cellO, mLstN, mAddN, mAppN, semX, mTold, mCallX, xRet, xExpr, xSet, mRaise, mM, isL, isS, mOrV, truD])
local macro_rules | `(tactic| walk_at "es") => `(tactic| simp [semF, shared, after, mSeq, mSkip, mIf, mRet, mRetN, mRetV, mSet, mSetIx, mExpr, mB, mU, mTm, mPl, mK, mVar, mOp, mCons, mNil, bor, bors, mTst, mAndT, mOrT, mNotT, mAndE, mOrE, mNotE, mIfE, mIsi, isiD, mChn, chnL, cmpD, binD, addD, subD, mulD, modD, fdivD, powD, eqD, neD, ltD, leD, gtD, geD, isD, isnD, L2.M.isNon, negD, ixD, Bf.f, Bg.f, lenD, L2.M.intD, maxD, minD, repD, strD, gmaxD, gminD, sumD, sortD, anyD, allD, mCall, frz, fzO, lend, wb, mTup, mLst, fzs, cD, mAsg, bTup, bTps, mApp, tupD, lstD, mRev, revD, ofs_inj, ee_ii, ee_ss, ee_bb, ee_nn, ee_is, ee_si, ee_in, ee_ni, ee_tt, ee_ll, ee_maps, ee_0, ee_1, ee_2, ee_3, at_lit, at_nat, at_m1, at_m2, scD, emD, sizeLine_eq, ixN, sm_lit, mSrc, itemsD, plOf, rng1D, bNm, mSl, mPt, mNoP, slD, mPar, keepT, tmsO, setA, mFlow, zipX, enumX, itemsX, intsOf, ints_all, boolsOf, shaped_lay, lay_int, lay_bool, lay_none, lay_dict, lay_tup, lay_list, lay_ints, sortX_ints, mPlF, mPlI, mRd, mPU, mPB, mFSet, mFNew, mNSet, mPApp, mPSetIx, mPPop, mMeth, mNew, isIns, cellO, mLstN, mAddN, mAppN, semX, mTold, mCallX, xRet, xExpr, xSet, mRaise, mM, isL, isS, mOrV, truD, *])
local macro_rules | `(tactic| walk_at "el") => `(tactic| simp [semF, shared, after, mSeq, mSkip, mIf, mRet, mRetN, mRetV, mSet, mSetIx, mExpr, mB, mU, mTm, mPl, mK, mVar, mOp, mCons, mNil, bor, bors, mTst, mAndT, mOrT, mNotT, mAndE, mOrE, mNotE, mIfE, mIsi, isiD, mChn, chnL, cmpD, binD, addD, subD, mulD, modD, fdivD, powD, eqD, neD, ltD, leD, gtD, geD, isD, isnD, L2.M.isNon, negD, ixD, Bf.f, Bg.f, lenD, L2.M.intD, maxD, minD, repD, strD, gmaxD, gminD, sumD, sortD, anyD, allD, mCall, frz, fzO, lend, wb, mTup, mLst, fzs, cD, mAsg, bTup, bTps, mApp, tupD, lstD, mRev, revD, ofs_inj, ee_ii, ee_ss, ee_bb, ee_nn, ee_is, ee_si, ee_in, ee_ni, ee_tt, ee_ll, ee_maps, ee_0, ee_1, ee_2, ee_3, at_lit, at_nat, at_m1, at_m2, scD, emD, sizeLine_eq, ixN, sm_lit, mSrc, itemsD, plOf, rng1D, bNm, mSl, mPt, mNoP, slD, mPar, keepT, tmsO, setA, mFlow, zipX, enumX, itemsX, intsOf, ints_all, boolsOf, shaped_lay, lay_int, lay_bool, lay_none, lay_dict, lay_tup, lay_list, lay_ints, sortX_ints, mPlF, mPlI, mRd, mPU, mPB, mFSet, mFNew, mNSet, mPApp, mPSetIx, mPPop, mMeth, mNew, isIns, cellO, mLstN, mAddN, mAppN, semX, mTold, mCallX, xRet, xExpr, xSet, mRaise, mM, isL, isS, mOrV, truD, mLc, lcL, sameC, wipeC, restC, mYes, *])
local macro_rules | `(tactic| walk_at "ef") => `(tactic| simp [semF, shared, after, mSeq, mSkip, mIf, mRet, mRetN, mRetV, mSet, mSetIx, mExpr, mB, mU, mTm, mPl, mK, mVar, mOp, mCons, mNil, bor, bors, mTst, mAndT, mOrT, mNotT, mAndE, mOrE, mNotE, mIfE, mIsi, isiD, mChn, chnL, cmpD, binD, addD, subD, mulD, modD, fdivD, powD, eqD, neD, ltD, leD, gtD, geD, isD, isnD, L2.M.isNon, negD, ixD, Bf.f, Bg.f, lenD, L2.M.intD, maxD, minD, repD, strD, gmaxD, gminD, sumD, sortD, anyD, allD, mCall, frz, fzO, lend, wb, mTup, mLst, fzs, cD, mAsg, bTup, bTps, mApp, tupD, lstD, mRev, revD, ofs_inj, ee_ii, ee_ss, ee_bb, ee_nn, ee_is, ee_si, ee_in, ee_ni, ee_tt, ee_ll, ee_maps, ee_0, ee_1, ee_2, ee_3, at_lit, at_nat, at_m1, at_m2, scD, emD, sizeLine_eq, ixN, sm_lit, mSrc, itemsD, plOf, rng1D, bNm, mSl, mPt, mNoP, slD, mPar, keepT, tmsO, setA, mFlow, zipX, enumX, itemsX, intsOf, ints_all, boolsOf, shaped_lay, lay_int, lay_bool, lay_none, lay_dict, lay_tup, lay_list, lay_ints, sortX_ints, mPlF, mPlI, mRd, mPU, mPB, mFSet, mFNew, mNSet, mPApp, mPSetIx, mPPop, mMeth, mNew, isIns, cellO, mLstN, mAddN, mAppN, semX, mTold, mCallX, xRet, xExpr, xSet, mRaise, mM, isL, isS, mOrV, truD, mFor, forL, mLc, lcL, sameC, wipeC, restC, mYes, *])
local macro_rules | `(tactic| walk_at "rg") => `(tactic| (and_intros <;> grind))
local macro_rules | `(tactic| walk_at "nx") => `(tactic| (apply wx_nx; focus (walk_at "ev"; try first | exact ⟨rfl, rfl⟩ | rfl)))
local macro_rules | `(tactic| walk_at "ns") => `(tactic| (apply wx_nx; focus (walk_at "es"; try first | exact ⟨rfl, rfl⟩ | rfl)))
local macro_rules | `(tactic| walk_at "rt") => `(tactic| (apply wx_rt; focus (walk_at "ev"; try first | exact ⟨rfl, rfl⟩ | rfl)))
local macro_rules | `(tactic| walk_at "rs") => `(tactic| (apply wx_rt; focus (walk_at "es"; try first | exact ⟨rfl, rfl⟩ | rfl)))
local macro_rules | `(tactic| walk_at "ed") => `(tactic| simp [semF, shared, after, mSeq, mSkip, mIf, mRet, mRetN, mRetV, mSet, mSetIx, mExpr, mB, mU, mTm, mPl, mK, mVar, mOp, mCons, mNil, bor, bors, mTst, mAndT, mOrT, mNotT, mAndE, mOrE, mNotE, mIfE, mIsi, isiD, mChn, chnL, cmpD, binD, addD, subD, mulD, modD, fdivD, powD, eqD, neD, ltD, leD, gtD, geD, isD, isnD, L2.M.isNon, negD, ixD, Bf.f, Bg.f, lenD, L2.M.intD, maxD, minD, repD, strD, gmaxD, gminD, sumD, sortD, anyD, allD, mCall, frz, fzO, lend, wb, mTup, mLst, fzs, cD, mAsg, bTup, bTps, mApp, tupD, lstD, mRev, revD, ofs_inj, ee_ii, ee_ss, ee_bb, ee_nn, ee_is, ee_si, ee_in, ee_ni, ee_tt, ee_ll, ee_maps, ee_0, ee_1, ee_2, ee_3, at_lit, at_nat, at_m1, at_m2, scD, emD, sizeLine_eq, ixN, sm_lit, mSrc, itemsD, plOf, rng1D, bNm, mSl, mPt, mNoP, slD, mPar, keepT, tmsO, setA, mFlow, zipX, enumX, itemsX, intsOf, ints_all, boolsOf, shaped_lay, lay_int, lay_bool, lay_none, lay_dict, lay_tup, lay_list, lay_ints, sortX_ints, mPlF, mPlI, mRd, mPU, mPB, mFSet, mFNew, mNSet, mPApp, mPSetIx, mPPop, mMeth, mNew, isIns, cellO, mLstN, mAddN, mAppN, semX, mTold, mCallX, xRet, xExpr, xSet, mRaise, mM, isL, isS, mOrV, truD, mDNew, mDIn, mDGet, mDLen, mDPut, kyD, mNNew, mN1, mTake, mFnV, mCallF, mNIn, mNGet, mNPut, mNVals, mNList, nKs, mDGetD, mDList, mNNe, *])
theorem sm_1 {P P2 : List PyData} {m v : Int} (f : g_law_draw [.ls P, .sh (.int (m + 1))] = some (.sh (.int v), [.ls P2, .sh (.int (m + 1))])) : (mSet [0, 1] 2 (mCall [true, true] g_law_draw (mCons (mPl 0) (mCons (mTm (mB (binD .Add) (mPl 1) (mTm (mK (.int 1))))) (mNil))))) [.ls P, .sh (.int m), .no, .no] = some (.nx, [.ls P2, .sh (.int m), .sh (.int v), .no]) := by
  generalize g_law_draw = G at *
  walk_at "es"
theorem sm_2 {P P2 P3 : List PyData} {m v a b : Int} (f1 : g_law_draw [.ls P, .sh (.int 9)] = some (.sh (.int a), [.ls P2, .sh (.int 9)])) (f2 : g_law_draw [.ls P2, .sh (.int 9)] = some (.sh (.int b), [.ls P3, .sh (.int 9)])) : (mSet [0, 1] 3 (mTup (mCons (mTm (mCall [true, true] g_law_draw (mCons (mPl 0) (mCons (mTm (mK (.int 9))) (mNil))))) (mCons (mTm (mB (binD .Add) (mTm (mK (.int 1))) (mTm (mCall [true, true] g_law_draw (mCons (mPl 0) (mCons (mTm (mK (.int 9))) (mNil))))))) (mCons (mPl 2) (mNil)))))) [.ls P, .sh (.int m), .sh (.int v), .no] = some (.nx, [.ls P3, .sh (.int m), .sh (.int v), .sh (.tuple [.int a, .int (1 + b), .int v])]) := by
  generalize g_law_draw = G at *
  walk_at "es"
theorem sm_3 {P P2 P3 : List PyData} {m v a b x w f : Int} (f1 : g_law_draw [.ls P, .sh (.int (v + 1))] = some (.sh (.int x), [.ls P2, .sh (.int (v + 1))])) (f2 : g_law_draw [.ls P2, .sh (.int 3)] = some (.sh (.int w), [.ls P3, .sh (.int 3)])) (h : atI ([.int 0, .int v, .int x] : List PyData) w = some (.int f)) : (mRet (mB (binD .Add) (mPl 3) (mTm (mTup (mCons (mTm (mB ixD (mTm (mLst (mCons (mTm (mK (.int 0))) (mCons (mPl 2) (mCons (mTm (mCall [true, true] g_law_draw (mCons (mPl 0) (mCons (mTm (mB (binD .Add) (mPl 2) (mTm (mK (.int 1))))) (mNil))))) (mNil)))))) (mTm (mCall [true, true] g_law_draw (mCons (mPl 0) (mCons (mTm (mK (.int 3))) (mNil))))))) (mNil)))))) [.ls P, .sh (.int m), .sh (.int v), .sh (.tuple [.int a, .int b, .int v])] = some (.rt (.sh (.tuple [.int a, .int b, .int v, .int f])), [.ls P3, .sh (.int m), .sh (.int v), .sh (.tuple [.int a, .int b, .int v])]) := by
  generalize g_law_draw = G at *
  walk_at "es"
theorem f_b {v x f : Int} {p : Pn} (h0 : 0 ≤ v) (h1 : 0 ≤ x ∧ x < v + 1) (e : gt [0, v, x] (dr p 3) = f) : 0 ≤ f ∧ f ≤ v := by
  rw [← e]
  exact gd3 (P := fun f => 0 ≤ f ∧ f ≤ v) ⟨by omega, by omega, by omega⟩
theorem law_small_eq (p : Pn) {m : Int} (hm : 0 ≤ m ∧ m ≤ 1000) : Rt (g_law_small [.ls (penL p), .sh (.int m)]) fun c cs => ∃ (z : Pz) (q : Pn), z.Ok ∧ z.c ≤ m ∧ z.p ≤ 8 ∧ z.r ≤ 9 ∧ c = .sh z.d ∧ cs = [.ls (penL q), .sh (.int m)] := by
  unfold g_law_small m_law_small
  apply rt_sem rfl
  have d1 := draw_eq p (m + 1) (by omega) ⟨by omega, by omega⟩
  have v1 := dr_ab p (m + 1) (by omega)
  apply wx_nx (sm_1 d1)
  generalize dr p (m + 1) = v at *
  generalize dn p (m + 1) = p1 at *
  have d2 := draw_eq p1 9 (by decide) ⟨by decide, by decide⟩
  have v2 := dr_ab p1 9 (by decide)
  have d3 := draw_eq (dn p1 9) 9 (by decide) ⟨by decide, by decide⟩
  have v3 := dr_ab (dn p1 9) 9 (by decide)
  apply wx_nx (sm_2 d2 d3)
  generalize dr (dn p1 9) 9 = b at *
  generalize dr p1 9 = a at *
  generalize dn (dn p1 9) 9 = p2 at *
  have d4 := draw_eq p2 (v + 1) (by omega) ⟨by omega, by omega⟩
  have v4 := dr_ab p2 (v + 1) (by omega)
  generalize dr p2 (v + 1) = x at *
  generalize dn p2 (v + 1) = p3 at *
  have d5 := draw_eq p3 3 (by decide) ⟨by decide, by decide⟩
  generalize hf : gt [0, v, x] (dr p3 3) = f
  have hfb := f_b (by omega) v4 hf
  refine wx_rt (sm_3 d4 d5 (by rw [← hf]; exact pkd3)) ⟨⟨a, 1 + b, v, f⟩, _, ⟨by dsimp only; omega, by dsimp only; omega, by dsimp only; omega, by dsimp only; omega, by dsimp only; omega, by dsimp only; omega, by dsimp only; omega⟩, by dsimp only; omega, by dsimp only; omega, by dsimp only; omega, rfl, rfl⟩
abbrev pur : List PyData := [.tuple [.int 4, .int 4, .int 20], .tuple [.int 12, .int 12, .int 60], .tuple [.int 60, .int 40, .int 200], .tuple [.int 1001, .int 1000, .int 10001]]
theorem pur_at {w : Int} (h0 : 0 ≤ w) (h1 : w < 4) : ∃ a b c : Int, atI pur w = some (.tuple [.int a, .int b, .int c]) ∧ (1 ≤ a ∧ a ≤ 1001) ∧ (1 ≤ b ∧ b ≤ 1000) ∧ (1 ≤ c ∧ c ≤ 10001) := by
  have : w = 0 ∨ w = 1 ∨ w = 2 ∨ w = 3 := by omega
  rcases this with rfl | rfl | rfl | rfl
  · exact ⟨4, 4, 20, rfl, by decide, by decide, by decide⟩
  · exact ⟨12, 12, 60, rfl, by decide, by decide, by decide⟩
  · exact ⟨60, 40, 200, rfl, by decide, by decide, by decide⟩
  · exact ⟨1001, 1000, 10001, rfl, by decide, by decide, by decide⟩
theorem pu_1 {P P2 : List PyData} {v : Int} (f : g_law_draw [.ls P, .sh (.int 4)] = some (.sh (.int v), [.ls P2, .sh (.int 4)])) : (mSet [0] 1 (mCall [true, true] g_law_draw (mCons (mPl 0) (mCons (mTm (mK (.int 4))) (mNil))))) [.ls P, .no, .no, .no, .no, .no] = some (.nx, [.ls P2, .sh (.int v), .no, .no, .no, .no]) := by
  generalize g_law_draw = G at *
  walk_at "es"
theorem pu_2 {P : List PyData} {v a b c : Int} (h : atI pur v = some (.tuple [.int a, .int b, .int c])) : (mAsg [2, 3, 4] [0] (bTup [bNm 2, bNm 3, bNm 4]) (mB ixD (mTm (mLst (mCons (mTm (mTup (mCons (mTm (mK (.int 4))) (mCons (mTm (mK (.int 4))) (mCons (mTm (mK (.int 20))) (mNil)))))) (mCons (mTm (mTup (mCons (mTm (mK (.int 12))) (mCons (mTm (mK (.int 12))) (mCons (mTm (mK (.int 60))) (mNil)))))) (mCons (mTm (mTup (mCons (mTm (mK (.int 60))) (mCons (mTm (mK (.int 40))) (mCons (mTm (mK (.int 200))) (mNil)))))) (mCons (mTm (mTup (mCons (mTm (mK (.int 1001))) (mCons (mTm (mK (.int 1000))) (mCons (mTm (mK (.int 10001))) (mNil)))))) (mNil))))))) (mPl 1))) [.ls P, .sh (.int v), .no, .no, .no, .no] = some (.nx, [.ls P, .sh (.int v), .sh (.int a), .sh (.int b), .sh (.int c), .no]) := by
  walk_at "es"
theorem pu_3 {P P2 P3 P4 : List PyData} {c1 : C} {a b c x y w : Int} (f1 : g_law_draw [.ls P, .sh (.int a)] = some (.sh (.int x), [.ls P2, .sh (.int a)])) (f2 : g_law_draw [.ls P2, .sh (.int b)] = some (.sh (.int y), [.ls P3, .sh (.int b)])) (f3 : g_law_draw [.ls P3, .sh (.int c)] = some (.sh (.int w), [.ls P4, .sh (.int c)])) : (mSet [0] 5 (mTup (mCons (mTm (mCall [true, true] g_law_draw (mCons (mPl 0) (mCons (mPl 2) (mNil))))) (mCons (mTm (mB (binD .Add) (mTm (mK (.int 1))) (mTm (mCall [true, true] g_law_draw (mCons (mPl 0) (mCons (mPl 3) (mNil))))))) (mCons (mTm (mCall [true, true] g_law_draw (mCons (mPl 0) (mCons (mPl 4) (mNil))))) (mNil)))))) [.ls P, c1, .sh (.int a), .sh (.int b), .sh (.int c), .no] = some (.nx, [.ls P4, c1, .sh (.int a), .sh (.int b), .sh (.int c), .sh (.tuple [.int x, .int (1 + y), .int w])]) := by
  generalize g_law_draw = G at *
  walk_at "es"
theorem pu_4 {P P2 P3 : List PyData} {c1 c2 c3 c4 : C} {v a b x w f : Int} (f1 : g_law_draw [.ls P, .sh (.int (v + 1))] = some (.sh (.int x), [.ls P2, .sh (.int (v + 1))])) (f2 : g_law_draw [.ls P2, .sh (.int 3)] = some (.sh (.int w), [.ls P3, .sh (.int 3)])) (h : atI ([.int 0, .int v, .int x] : List PyData) w = some (.int f)) : (mRet (mB (binD .Add) (mPl 5) (mTm (mTup (mCons (mTm (mB ixD (mTm (mLst (mCons (mTm (mK (.int 0))) (mCons (mTm (mB ixD (mPl 5) (mTm (mK (.int 2))))) (mCons (mTm (mCall [true, true] g_law_draw (mCons (mPl 0) (mCons (mTm (mB (binD .Add) (mTm (mB ixD (mPl 5) (mTm (mK (.int 2))))) (mTm (mK (.int 1))))) (mNil))))) (mNil)))))) (mTm (mCall [true, true] g_law_draw (mCons (mPl 0) (mCons (mTm (mK (.int 3))) (mNil))))))) (mNil)))))) [.ls P, c1, c2, c3, c4, .sh (.tuple [.int a, .int b, .int v])] = some (.rt (.sh (.tuple [.int a, .int b, .int v, .int f])), [.ls P3, c1, c2, c3, c4, .sh (.tuple [.int a, .int b, .int v])]) := by
  generalize g_law_draw = G at *
  walk_at "es"
theorem law_purse_eq (p : Pn) : Rt (g_law_purse [.ls (penL p)]) fun c cs => ∃ (z : Pz) (q : Pn), z.Ok ∧ c = .sh z.d ∧ cs = [.ls (penL q)] := by
  unfold g_law_purse m_law_purse
  apply rt_sem rfl
  have d1 := draw_eq p 4 (by decide) ⟨by decide, by decide⟩
  have v1 := dr_ab p 4 (by decide)
  obtain ⟨a, b, c, hat, ha, hb, hc⟩ := pur_at v1.1 v1.2
  apply wx_nx (pu_1 d1)
  apply wx_nx (pu_2 hat)
  clear hat d1
  generalize dr p 4 = v at *
  generalize dn p 4 = p1 at *
  have d2 := draw_eq p1 a (by omega) ⟨by omega, by omega⟩
  have v2 := dr_ab p1 a (by omega)
  generalize dr p1 a = x at *
  generalize dn p1 a = p2 at *
  have d3 := draw_eq p2 b (by omega) ⟨by omega, by omega⟩
  have v3 := dr_ab p2 b (by omega)
  generalize dr p2 b = y at *
  generalize dn p2 b = p3 at *
  have d4 := draw_eq p3 c (by omega) ⟨by omega, by omega⟩
  have v4 := dr_ab p3 c (by omega)
  generalize dr p3 c = w at *
  generalize dn p3 c = p4 at *
  apply wx_nx (pu_3 d2 d3 d4)
  have d5 := draw_eq p4 (w + 1) (by omega) ⟨by omega, by omega⟩
  have v5 := dr_ab p4 (w + 1) (by omega)
  generalize dr p4 (w + 1) = u at *
  generalize dn p4 (w + 1) = p5 at *
  have d6 := draw_eq p5 3 (by decide) ⟨by decide, by decide⟩
  generalize hf : gt [0, w, u] (dr p5 3) = f
  have hfb := f_b (by omega) v5 hf
  refine wx_rt (pu_4 d5 d6 (by rw [← hf]; exact pkd3)) ⟨⟨x, 1 + y, w, f⟩, _, ⟨by dsimp only; omega, by dsimp only; omega, by dsimp only; omega, by dsimp only; omega, by dsimp only; omega, by dsimp only; omega, by dsimp only; omega⟩, rfl, rfl⟩
theorem mp_1 {z : Pz} {M v : Int} (f : g_paid_turns [.sh z.d, .sh (.int z.f), .sh (.int M)] = some (.sh (.int v), [.sh z.d, .sh (.int z.f), .sh (.int M)])) : g_most_paid [.sh z.d, .sh (.int M)] = some (.sh (.int v), [.sh z.d, .sh (.int M)]) := by
  unfold g_most_paid m_most_paid
  unfold Pz.d at *
  generalize g_paid_turns = G at *
  walk_at "es"
theorem most_paid_eq {z : Pz} (h : z.Ok) {M : Nat} (hM : M ≤ 10 ^ 12) : g_most_paid [.sh z.d, .sh (.int (M : Int))] = some (.sh (.int (gr z z.f M)), [.sh z.d, .sh (.int (M : Int))]) := mp_1 (paid_turns_eq h h.f0 hM)
theorem ls_2 {p r q f c pd : Int} (hr : 0 < r) (hs : sm r) {c1 c4 : C} : (mPar [0, 1] [3, 2] (mCons (mTm (mB (binD .Add) (mPl 3) (mTm (mB (binD .FloorDiv) (mPl 2) (mTm (mB ixD (mPl 0) (mTm (mK (.int 1))))))))) (mCons (mTm (mB (binD .Mod) (mPl 2) (mTm (mB ixD (mPl 0) (mTm (mK (.int 1))))))) (mNil)))) [.sh (.tuple [.int p, .int r, .int q, .int f]), c1, .sh (.int c), .sh (.int pd), c4] = some (.nx, [.sh (.tuple [.int p, .int r, .int q, .int f]), c1, .sh (.int (c % r)), .sh (.int (pd + c / r)), c4]) := by
  have h2 : ¬ r = 0 := by omega
  walk_at "es"
theorem ls_3 {p r q f c pd t M : Int} : (mIf (mTst (mB (cmpD .Lt) (mPl 4) (mPl 1))) (mSeq (mSet [0, 1] 2 (mOp (Bf.f .min) (mCons (mTm (mB ixD (mPl 0) (mTm (mK (.int 2))))) (mCons (mTm (mB (binD .Add) (mPl 2) (mTm (mB ixD (mPl 0) (mTm (mK (.int 0))))))) (mNil))))) (mSkip)) (mSkip)) [.sh (.tuple [.int p, .int r, .int q, .int f]), .sh (.int M), .sh (.int c), .sh (.int pd), .sh (.int t)] = some (.nx, [.sh (.tuple [.int p, .int r, .int q, .int f]), .sh (.int M), .sh (.int (if t < M then (if c + p < q then c + p else q) else c)), .sh (.int pd), .sh (.int t)]) := by
  by_cases h : t < M <;> walk_at "es"
theorem soon_loop {z : Pz} (h : z.Ok) {M : Nat} (hM : M ≤ 10000) {c0 : Int} {Q : Fl → Cs → Prop} (hq : ∀ c2 c4, Q .nx [.sh z.d, .sh (.int (M : Int)), c2, .sh (.int (gr z c0 M)), c4]) : Wx ((mFor [0, 1] (mSrc rng1D (mCons (mTm (mB (binD .Add) (mPl 1) (mTm (mK (.int 1))))) (mNil))) (bNm 4) (mSeq (mPar [0, 1] [3, 2] (mCons (mTm (mB (binD .Add) (mPl 3) (mTm (mB (binD .FloorDiv) (mPl 2) (mTm (mB ixD (mPl 0) (mTm (mK (.int 1))))))))) (mCons (mTm (mB (binD .Mod) (mPl 2) (mTm (mB ixD (mPl 0) (mTm (mK (.int 1))))))) (mNil)))) (mSeq (mIf (mTst (mB (cmpD .Lt) (mPl 4) (mPl 1))) (mSeq (mSet [0, 1] 2 (mOp (Bf.f .min) (mCons (mTm (mB ixD (mPl 0) (mTm (mK (.int 2))))) (mCons (mTm (mB (binD .Add) (mPl 2) (mTm (mB ixD (mPl 0) (mTm (mK (.int 0))))))) (mNil))))) (mSkip)) (mSkip)) (mSkip)))) [.sh z.d, .sh (.int (M : Int)), .sh (.int c0), .sh (.int 0), .no]) Q := by
  have hr := h.r0
  have hr1 := h.r1
  have hsr : sm z.r := ⟨by omega, by omega⟩
  generalize hT : gr z c0 M = T at *
  apply wx_rngn (n := M + 1) (ε1 := [.sh z.d, .sh (.int (M : Int)), .sh (.int c0), .sh (.int 0), .no]) fun t ε => ∃ (c pd : Int) (c4 : C), pd + (if t ≤ M then gr z c (M - t) else 0) = T ∧ ε = [.sh z.d, .sh (.int (M : Int)), .sh (.int c), .sh (.int pd), c4]
  · refine src_f (d := .int ((M + 1 : Nat) : Int)) ?_ (rng_nat (by omega))
    have e : ((M + 1 : Nat) : Int) = (M : Int) + 1 := by omega
    rw [e]
    generalize (M : Int) = m
    generalize z.d = Z
    clear e hM h hT
    walk_at "ev"
  · refine ⟨_, _, _, ?_, rfl⟩
    rw [if_pos (by omega), Nat.sub_zero, hT]
    omega
  · rintro t ht ε ⟨c, pd, c4, hI, rfl⟩
    refine ⟨[.sh z.d, .sh (.int (M : Int)), .sh (.int c), .sh (.int pd), .sh (.int (t : Int))], rfl, ?_⟩
    rw [if_pos (by omega)] at hI
    have e2 := ls_2 (p := z.p) (r := z.r) (q := z.c) (f := z.f) (c := c) (pd := pd) (c1 := .sh (.int (M : Int))) (c4 := .sh (.int (t : Int))) (by omega) hsr
    apply wx_nx e2
    have e3 := ls_3 (p := z.p) (r := z.r) (q := z.c) (f := z.f) (c := c % z.r) (pd := pd + c / z.r) (t := (t : Int)) (M := (M : Int))
    apply wx_nx e3
    refine wx_skip ⟨_, _, _, ?_, rfl⟩
    by_cases q : t < M
    · rw [if_pos (by omega : t + 1 ≤ M), if_pos (by omega : (t : Int) < (M : Int))]
      obtain ⟨m, hm⟩ : ∃ m, M - t = m + 1 := ⟨M - t - 1, by omega⟩
      rw [hm, gr] at hI
      rw [show M - (t + 1) = m by omega]
      have : (if c % z.r + z.p < z.c then c % z.r + z.p else z.c) = pin z (c % z.r) := rfl
      rw [this]
      omega
    · rw [if_neg (by omega : ¬ t + 1 ≤ M)]
      rw [show M - t = 0 by omega, gr] at hI
      omega
  · rintro ε ⟨c, pd, c4, hI, rfl⟩
    rw [if_neg (by omega)] at hI
    have : pd = T := by omega
    rw [this]
    exact hq _ _
end KW
namespace KW
open PySem PySem.Spec PyProof.Rows L2 L2.M
local macro_rules | `(tactic| walk_at "ev") => `(tactic| simp [semF, shared, after, mSeq, mSkip, mIf, mRet, mRetN, mRetV, mSet, mSetIx, mExpr, mB, mU, mTm, mPl, mK, mVar, mOp, mCons, mNil, bor, bors, mTst, mAndT, mOrT, mNotT, mAndE, mOrE, mNotE, mIfE, mIsi, isiD, mChn, chnL, cmpD, binD, addD, subD, mulD, modD, fdivD, powD, eqD, neD, ltD, leD, gtD, geD, isD, isnD, L2.M.isNon, negD, ixD, Bf.f, Bg.f, lenD, L2.M.intD, maxD, minD, repD, strD, gmaxD, gminD, sumD, sortD, anyD, allD, mCall, frz, fzO, lend, wb, mTup, mLst, fzs, cD, mAsg, bTup, bTps, mApp, tupD, lstD, mRev, revD, ofs_inj, ee_ii, ee_ss, ee_bb, ee_nn, ee_is, ee_si, ee_in, ee_ni, ee_tt, ee_ll, ee_maps, ee_0, ee_1, ee_2, ee_3, at_lit, at_nat, at_m1, at_m2, scD, emD, sizeLine_eq, ixN, sm_lit, mSrc, itemsD, plOf, rng1D, bNm, mSl, mPt, mNoP, slD, mPar, keepT, tmsO, setA, mFlow, zipX, enumX, itemsX, intsOf, ints_all, boolsOf, shaped_lay, lay_int, lay_bool, lay_none, lay_dict, lay_tup, lay_list, lay_ints, sortX_ints, mPlF, mPlI, mRd, mPU, mPB, mFSet, mFNew, mNSet, mPApp, mPSetIx, mPPop, mMeth, mNew, isIns, cellO, mLstN, mAddN, mAppN, semX, mTold, mCallX, xRet, xExpr, xSet, mRaise, mM, isL, isS, mOrV, truD])
local macro_rules | `(tactic| walk_at "es") => `(tactic| simp [semF, shared, after, mSeq, mSkip, mIf, mRet, mRetN, mRetV, mSet, mSetIx, mExpr, mB, mU, mTm, mPl, mK, mVar, mOp, mCons, mNil, bor, bors, mTst, mAndT, mOrT, mNotT, mAndE, mOrE, mNotE, mIfE, mIsi, isiD, mChn, chnL, cmpD, binD, addD, subD, mulD, modD, fdivD, powD, eqD, neD, ltD, leD, gtD, geD, isD, isnD, L2.M.isNon, negD, ixD, Bf.f, Bg.f, lenD, L2.M.intD, maxD, minD, repD, strD, gmaxD, gminD, sumD, sortD, anyD, allD, mCall, frz, fzO, lend, wb, mTup, mLst, fzs, cD, mAsg, bTup, bTps, mApp, tupD, lstD, mRev, revD, ofs_inj, ee_ii, ee_ss, ee_bb, ee_nn, ee_is, ee_si, ee_in, ee_ni, ee_tt, ee_ll, ee_maps, ee_0, ee_1, ee_2, ee_3, at_lit, at_nat, at_m1, at_m2, scD, emD, sizeLine_eq, ixN, sm_lit, mSrc, itemsD, plOf, rng1D, bNm, mSl, mPt, mNoP, slD, mPar, keepT, tmsO, setA, mFlow, zipX, enumX, itemsX, intsOf, ints_all, boolsOf, shaped_lay, lay_int, lay_bool, lay_none, lay_dict, lay_tup, lay_list, lay_ints, sortX_ints, mPlF, mPlI, mRd, mPU, mPB, mFSet, mFNew, mNSet, mPApp, mPSetIx, mPPop, mMeth, mNew, isIns, cellO, mLstN, mAddN, mAppN, semX, mTold, mCallX, xRet, xExpr, xSet, mRaise, mM, isL, isS, mOrV, truD, *])
local macro_rules | `(tactic| walk_at "el") => `(tactic| simp [semF, shared, after, mSeq, mSkip, mIf, mRet, mRetN, mRetV, mSet, mSetIx, mExpr, mB, mU, mTm, mPl, mK, mVar, mOp, mCons, mNil, bor, bors, mTst, mAndT, mOrT, mNotT, mAndE, mOrE, mNotE, mIfE, mIsi, isiD, mChn, chnL, cmpD, binD, addD, subD, mulD, modD, fdivD, powD, eqD, neD, ltD, leD, gtD, geD, isD, isnD, L2.M.isNon, negD, ixD, Bf.f, Bg.f, lenD, L2.M.intD, maxD, minD, repD, strD, gmaxD, gminD, sumD, sortD, anyD, allD, mCall, frz, fzO, lend, wb, mTup, mLst, fzs, cD, mAsg, bTup, bTps, mApp, tupD, lstD, mRev, revD, ofs_inj, ee_ii, ee_ss, ee_bb, ee_nn, ee_is, ee_si, ee_in, ee_ni, ee_tt, ee_ll, ee_maps, ee_0, ee_1, ee_2, ee_3, at_lit, at_nat, at_m1, at_m2, scD, emD, sizeLine_eq, ixN, sm_lit, mSrc, itemsD, plOf, rng1D, bNm, mSl, mPt, mNoP, slD, mPar, keepT, tmsO, setA, mFlow, zipX, enumX, itemsX, intsOf, ints_all, boolsOf, shaped_lay, lay_int, lay_bool, lay_none, lay_dict, lay_tup, lay_list, lay_ints, sortX_ints, mPlF, mPlI, mRd, mPU, mPB, mFSet, mFNew, mNSet, mPApp, mPSetIx, mPPop, mMeth, mNew, isIns, cellO, mLstN, mAddN, mAppN, semX, mTold, mCallX, xRet, xExpr, xSet, mRaise, mM, isL, isS, mOrV, truD, mLc, lcL, sameC, wipeC, restC, mYes, *])
local macro_rules | `(tactic| walk_at "ef") => `(tactic| simp [semF, shared, after, mSeq, mSkip, mIf, mRet, mRetN, mRetV, mSet, mSetIx, mExpr, mB, mU, mTm, mPl, mK, mVar, mOp, mCons, mNil, bor, bors, mTst, mAndT, mOrT, mNotT, mAndE, mOrE, mNotE, mIfE, mIsi, isiD, mChn, chnL, cmpD, binD, addD, subD, mulD, modD, fdivD, powD, eqD, neD, ltD, leD, gtD, geD, isD, isnD, L2.M.isNon, negD, ixD, Bf.f, Bg.f, lenD, L2.M.intD, maxD, minD, repD, strD, gmaxD, gminD, sumD, sortD, anyD, allD, mCall, frz, fzO, lend, wb, mTup, mLst, fzs, cD, mAsg, bTup, bTps, mApp, tupD, lstD, mRev, revD, ofs_inj, ee_ii, ee_ss, ee_bb, ee_nn, ee_is, ee_si, ee_in, ee_ni, ee_tt, ee_ll, ee_maps, ee_0, ee_1, ee_2, ee_3, at_lit, at_nat, at_m1, at_m2, scD, emD, sizeLine_eq, ixN, sm_lit, mSrc, itemsD, plOf, rng1D, bNm, mSl, mPt, mNoP, slD, mPar, keepT, tmsO, setA, mFlow, zipX, enumX, itemsX, intsOf, ints_all, boolsOf, shaped_lay, lay_int, lay_bool, lay_none, lay_dict, lay_tup, lay_list, lay_ints, sortX_ints, mPlF, mPlI, mRd, mPU, mPB, mFSet, mFNew, mNSet, mPApp, mPSetIx, mPPop, mMeth, mNew, isIns, cellO, mLstN, mAddN, mAppN, semX, mTold, mCallX, xRet, xExpr, xSet, mRaise, mM, isL, isS, mOrV, truD, mFor, forL, mLc, lcL, sameC, wipeC, restC, mYes, *])
local macro_rules | `(tactic| walk_at "rg") => `(tactic| (and_intros <;> grind))
local macro_rules | `(tactic| walk_at "nx") => `(tactic| (apply wx_nx; focus (walk_at "ev"; try first | exact ⟨rfl, rfl⟩ | rfl)))
local macro_rules | `(tactic| walk_at "ns") => `(tactic| (apply wx_nx; focus (walk_at "es"; try first | exact ⟨rfl, rfl⟩ | rfl)))
local macro_rules | `(tactic| walk_at "rt") => `(tactic| (apply wx_rt; focus (walk_at "ev"; try first | exact ⟨rfl, rfl⟩ | rfl)))
local macro_rules | `(tactic| walk_at "rs") => `(tactic| (apply wx_rt; focus (walk_at "es"; try first | exact ⟨rfl, rfl⟩ | rfl)))
local macro_rules | `(tactic| walk_at "ed") => `(tactic| simp [semF, shared, after, mSeq, mSkip, mIf, mRet, mRetN, mRetV, mSet, mSetIx, mExpr, mB, mU, mTm, mPl, mK, mVar, mOp, mCons, mNil, bor, bors, mTst, mAndT, mOrT, mNotT, mAndE, mOrE, mNotE, mIfE, mIsi, isiD, mChn, chnL, cmpD, binD, addD, subD, mulD, modD, fdivD, powD, eqD, neD, ltD, leD, gtD, geD, isD, isnD, L2.M.isNon, negD, ixD, Bf.f, Bg.f, lenD, L2.M.intD, maxD, minD, repD, strD, gmaxD, gminD, sumD, sortD, anyD, allD, mCall, frz, fzO, lend, wb, mTup, mLst, fzs, cD, mAsg, bTup, bTps, mApp, tupD, lstD, mRev, revD, ofs_inj, ee_ii, ee_ss, ee_bb, ee_nn, ee_is, ee_si, ee_in, ee_ni, ee_tt, ee_ll, ee_maps, ee_0, ee_1, ee_2, ee_3, at_lit, at_nat, at_m1, at_m2, scD, emD, sizeLine_eq, ixN, sm_lit, mSrc, itemsD, plOf, rng1D, bNm, mSl, mPt, mNoP, slD, mPar, keepT, tmsO, setA, mFlow, zipX, enumX, itemsX, intsOf, ints_all, boolsOf, shaped_lay, lay_int, lay_bool, lay_none, lay_dict, lay_tup, lay_list, lay_ints, sortX_ints, mPlF, mPlI, mRd, mPU, mPB, mFSet, mFNew, mNSet, mPApp, mPSetIx, mPPop, mMeth, mNew, isIns, cellO, mLstN, mAddN, mAppN, semX, mTold, mCallX, xRet, xExpr, xSet, mRaise, mM, isL, isS, mOrV, truD, mDNew, mDIn, mDGet, mDLen, mDPut, kyD, mNNew, mN1, mTake, mFnV, mCallF, mNIn, mNGet, mNPut, mNVals, mNList, nKs, mDGetD, mDList, mNNe, *])
structure Cm (z : Pz) (G : List Int) : Prop where
  nd : G.Nodup
  hf : z.f ∈ G
  b : ∀ x ∈ G, 0 ≤ x ∧ x ≤ z.c ∧ (z.p = 0 → x ≤ z.f)
def vB (G : List Int) : List (Int × Bool) := G.map fun x => (x, true)
abbrev kB (G : List Int) : C := .dc 0 (kdE .bool (vB G))
theorem lk_vB (G : List Int) (c : Int) : (lkE (vB G) c).isSome = decide (c ∈ G) := by
  unfold lkE vB
  rw [Option.isSome_map, List.find?_map, Option.isSome_map]
  rw [Bool.eq_iff_iff, List.find?_isSome]
  simp
theorem pt_vB {G : List Int} {c : Int} (h : c ∉ G) : ptE (vB G) c true = vB (G ++ [c]) := by
  have : ((vB G).any fun e => decide (e.1 = c)) = false := by
    rw [List.any_eq_false]
    intro e he
    obtain ⟨x, hx, rfl⟩ := List.mem_map.mp he
    simp only [decide_eq_true_eq]
    rintro rfl
    exact h hx
  unfold ptE
  rw [this]
  simp [vB]
theorem cm_len {z : Pz} (h : z.Ok) {G : List Int} (k : Cm z G) : (G.length : Int) ≤ z.c + 1 := by
  have h1 := keys_len (E := vB G) (n := (z.c + 1).toNat) (by
    unfold vB
    rw [List.map_map]
    have e : ((fun x : Int × Bool => x.1) ∘ fun x : Int => (x, true)) = id := rfl
    rw [e, List.map_id]
    exact k.nd) (by
    intro e he
    obtain ⟨x, hx, rfl⟩ := List.mem_map.mp he
    have := k.b x hx
    exact ⟨this.1, by dsimp only; omega⟩)
  have h2 : (vB G).length = G.length := List.length_map _
  have := h.f0
  have := h.f1
  omega
def add1 (G : List Int) (x : Int) : List Int := if 0 ≤ x ∧ x ∉ G then G ++ [x] else G
theorem add1_ok {z : Pz} {G : List Int} (k : Cm z G) {x : Int} (hx : 0 ≤ x → x ≤ z.c ∧ (z.p = 0 → x ≤ z.f)) : Cm z (add1 G x) ∧ (∃ t, add1 G x = G ++ t) ∧ (0 ≤ x → x ∈ add1 G x) := by
  unfold add1
  split
  · rename_i q
    refine ⟨⟨?_, List.mem_append_left _ k.hf, ?_⟩, ⟨_, rfl⟩, fun _ => by simp⟩
    · rw [List.nodup_append]
      refine ⟨k.nd, by simp, fun a ha b hb e => q.2 ?_⟩
      rw [← List.mem_singleton.mp hb, ← e]
      exact ha
    · intro y hy
      rcases List.mem_append.mp hy with hy | hy
      · exact k.b y hy
      · rw [List.mem_singleton.mp hy]
        exact ⟨q.1, hx q.1⟩
  · rename_i q
    refine ⟨k, ⟨[], by simp⟩, fun h0 => ?_⟩
    by_cases h : x ∈ G
    · exact h
    · exact absurd ⟨h0, h⟩ q
theorem cm_1 {z : Pz} : (mSet [0] 1 (mLst (mCons (mTm (mB ixD (mPl 0) (mTm (mK (.int 3))))) (mNil)))) [.sh z.d, .no, .no, .no, .no, .no] = some (.nx, [.sh z.d, .ls [.int z.f], .no, .no, .no, .no]) := by
  unfold Pz.d
  walk_at "es"
theorem cm_2 {z : Pz} {c1 : C} : (mSet [0] 2 (mD1 (mB ixD (mPl 0) (mTm (mK (.int 3)))) (mK (.bool true)))) [.sh z.d, c1, .no, .no, .no, .no] = some (.nx, [.sh z.d, c1, kB [z.f], .no, .no, .no]) := by
  have e : (mD1 (mB ixD (mPl 0) (mTm (mK (.int 3)))) (mK (.bool true))) [.sh z.d, c1, .no, .no, .no, .no] = some (kB [z.f], [.sh z.d, c1, .no, .no, .no, .no]) := by
    have e1 : (mB ixD (mPl 0) (mTm (mK (.int 3)))) [.sh z.d, c1, .no, .no, .no, .no] = some (.sh (.int z.f), [.sh z.d, c1, .no, .no, .no, .no]) := by
      unfold Pz.d
      walk_at "es"
    simp [mD1, e1, cD, kyD, mK, kdE, vB]
  generalize mD1 _ _ = D at *
  generalize kB [z.f] = K at *
  walk_at "es"
theorem cm_t {Z : PyData} {G : List Int} {c2 c4 c5 : C} {t : Int} (hl : G.length ≤ 10001) : (mTst (mB (cmpD .Lt) (mPl 3) (mTm (mOp (Bf.f .len) (mCons (mPl 1) (mNil)))))) [.sh Z, .ls (G.map .int), c2, .sh (.int t), c4, c5] = some (decide (t < (G.length : Int)), [.sh Z, .ls (G.map .int), c2, .sh (.int t), c4, c5]) := by
  have h : (G.map PyData.int).length = G.length := List.length_map _
  rw [← h] at *
  generalize G.map PyData.int = L at *
  clear h
  walk_at "es"
theorem cm_4 {Z : PyData} {L : List PyData} {c2 c4 c5 : C} {t x : Int} (h : atI L t = some (.int x)) : (mSet [0] 4 (mB ixD (mPl 1) (mPl 3))) [.sh Z, .ls L, c2, .sh (.int t), c4, c5] = some (.nx, [.sh Z, .ls L, c2, .sh (.int t), .sh (.int x), c5]) := by
  walk_at "es"
theorem cm_5 {Z : PyData} {c1 c2 c4 c5 : C} {t : Int} : (mSet [0] 3 (mB (binD .Add) (mPl 3) (mTm (mK (.int 1))))) [.sh Z, c1, c2, .sh (.int t), c4, c5] = some (.nx, [.sh Z, c1, c2, .sh (.int (t + 1)), c4, c5]) := by
  walk_at "es"
theorem cm_s {z : Pz} {c1 c2 c3 c5 : C} {x : Int} : (mSrc itemsD (mCons (mTm (mTup (mCons (mTm (mOp (Bf.f .min) (mCons (mTm (mB ixD (mPl 0) (mTm (mK (.int 2))))) (mCons (mTm (mB (binD .Add) (mPl 4) (mTm (mB ixD (mPl 0) (mTm (mK (.int 0))))))) (mNil))))) (mCons (mTm (mB (binD .Sub) (mPl 4) (mTm (mB ixD (mPl 0) (mTm (mK (.int 1))))))) (mNil))))) mNil)) [.sh z.d, c1, c2, c3, .sh (.int x), c5] = some (([.int (pin z x), .int (x - z.r)], []), [.sh z.d, c1, c2, c3, .sh (.int x), c5]) := by
  unfold Pz.d pin
  walk_at "es"
theorem cm_b {Z : PyData} {G : List Int} {c3 c4 : C} {x : Int} (hl : G.length < 16777216) : (mIf (mAndT (mTst (mB (cmpD .GtE) (mPl 5) (mTm (mK (.int 0))))) (mTst (mDIn true 2 (mPl 5)))) (mSeq (mDPut 2 (mK (.bool true)) (mPl 5)) (mSeq (mApp 1 (mVar 5)) (mSkip))) (mSkip)) [.sh Z, .ls (G.map .int), kB G, c3, c4, .sh (.int x)] = some (.nx, [.sh Z, .ls ((add1 G x).map .int), kB (add1 G x), c3, c4, .sh (.int x)]) := by
  have e1 := dLk_int PyData.bool (vB G) x
  have e2 := lk_vB G x
  have hin : mTst (mDIn true 2 (mPl 5)) [.sh Z, .ls (G.map .int), kB G, c3, c4, .sh (.int x)] = some (!decide (x ∈ G), [.sh Z, .ls (G.map .int), kB G, c3, c4, .sh (.int x)]) := by
    unfold kB
    rw [← e2]
    generalize kdE PyData.bool (vB G) = K at *
    simp [mTst, mDIn, mPl, bor, kyD, e1]
  have hz : (G.map PyData.int).length < 16777216 := by simpa using hl
  unfold add1
  by_cases h0 : 0 ≤ x
  · by_cases h : x ∈ G
    · rw [if_neg (by simp [h])]
      rw [decide_eq_true h] at hin
      generalize kB G = K at *
      generalize mTst (mDIn true 2 (mPl 5)) = D at *
      generalize mDPut _ _ _ = DP at *
      clear hl e1 e2
      generalize G.map PyData.int = L at *
      walk_at "es"
    · rw [if_pos ⟨h0, h⟩]
      rw [decide_eq_false h] at hin
      have hp : mDPut 2 (mK (.bool true)) (mPl 5) [.sh Z, .ls (G.map .int), kB G, c3, c4, .sh (.int x)] = some (.nx, [.sh Z, .ls (G.map .int), kB (G ++ [x]), c3, c4, .sh (.int x)]) := by
        have e3 := dPt_int PyData.bool (vB G) x true
        rw [pt_vB h] at e3
        have hl2 : (kdE PyData.bool (vB G)).length < sizeLine := by
          unfold kdE vB
          rw [sizeLine_eq]
          simpa using hl
        unfold kB
        rw [← e3]
        generalize kdE PyData.bool (vB G) = K at *
        simp [mDPut, mK, cD, mPl, bor, kyD, hl2]
      rw [List.map_append]
      generalize kB G = K at *
      generalize kB (G ++ [x]) = K2 at *
      generalize mTst (mDIn true 2 (mPl 5)) = D at *
      generalize mDPut _ _ _ = DP at *
      clear hl e1 e2
      generalize G.map PyData.int = L at *
      walk_at "es"
  · rw [if_neg (by simp [h0])]
    generalize kB G = K at *
    generalize mTst (mDIn true 2 (mPl 5)) = D at *
    generalize mDPut _ _ _ = DP at *
    clear hl e1 e2
    generalize G.map PyData.int = L at *
    walk_at "es"
theorem comes_eq {z : Pz} (h : z.Ok) : Rt (g_law_comes [.sh z.d]) fun c cs => ∃ G : List Int, Cm z G ∧ (∀ x ∈ G, pin z x ∈ G) ∧ c = .ls (G.map .int) ∧ cs = [.sh z.d] := by
  unfold g_law_comes m_law_comes
  apply rt_sem rfl
  have f0 := h.f0
  have f1 := h.f1
  have c1 := h.c1
  have p0 := h.p0
  have r0 := h.r0
  apply wx_nx cm_1
  apply wx_nx cm_2
  apply wx_nx (ε1 := [.sh z.d, .ls ([z.f].map .int), kB [z.f], .sh (.int 0), .no, .no])
  · rfl
  apply wx_seq
  have k0 : Cm z [z.f] := ⟨by simp, by simp, fun x hx => by rw [List.mem_singleton.mp hx]; exact ⟨f0, f1, fun _ => Int.le_refl _⟩⟩
  apply wx_while (fun n ε => ∃ (t : Nat) (G : List Int) (c4 c5 : C), n = 10001 - t ∧ t ≤ G.length ∧ Cm z G ∧ (∀ i x, i < t → G[i]? = some x → pin z x ∈ G) ∧ ε = [.sh z.d, .ls (G.map .int), kB G, .sh (.int (t : Int)), c4, c5]) 10001 ⟨0, [z.f], _, _, rfl, by simp, k0, fun i x hi => by omega, rfl⟩
  rintro n ε ⟨t, G, c4, c5, rfl, ht, k, hp, rfl⟩
  have hl := cm_len h k
  refine ⟨_, _, cm_t (by omega), fun hf => ?_, fun htr => ?_⟩
  · have hf2 : ¬ (t : Int) < G.length := by simpa using hf
    have hp2 : ∀ x ∈ G, pin z x ∈ G := by
      intro x hx
      obtain ⟨i, hi, rfl⟩ := List.getElem_of_mem hx
      exact hp i _ (by omega) (List.getElem?_eq_getElem hi)
    clear hp hf
    generalize z.d = Z
    apply wx_rt (c := .ls (G.map .int)) (ε1 := [.sh Z, .no, kB G, .sh (.int (t : Int)), c4, c5])
    · generalize G.map PyData.int = L
      generalize kB G = K
      generalize (t : Int) = m
      clear k hp2 hl hf2 ht k0
      walk_at "ev"
    exact ⟨G, k, hp2, rfl, rfl⟩
  · have hlt : (t : Int) < G.length := by simpa using htr
    have hi : t < G.length := by omega
    have hx : atI (G.map PyData.int) (t : Int) = some (.int G[t]) := by
      rw [atI_nat]
      simp [hi]
    have hb := k.b _ (List.getElem_mem hi)
    have hge : G[t]? = some G[t] := List.getElem?_eq_getElem hi
    apply wx_nx (cm_4 hx)
    clear hx
    generalize G[t] = x at *
    apply wx_nx cm_5
    apply wx_seq
    apply wx_for (ds := [.int (pin z x), .int (x - z.r)]) (ws := []) (ε1 := [.sh z.d, .ls (G.map .int), kB G, .sh (.int ((t : Int) + 1)), .sh (.int x), c5]) fun i ε => ∃ (G2 : List Int) (c5 : C), Cm z G2 ∧ (∃ s, G2 = G ++ s) ∧ (1 ≤ i → pin z x ∈ G2) ∧ ε = [.sh z.d, .ls (G2.map .int), kB G2, .sh (.int ((t : Int) + 1)), .sh (.int x), c5]
    · exact cm_s
    · rfl
    · exact ⟨G, c5, k, ⟨[], by simp⟩, fun z => by omega, rfl⟩
    · intro i ε _ j hj
      cases hj
    · rintro i d ε hd ⟨G2, c5, k2, ⟨s, hs⟩, hin, rfl⟩
      have hl2 := cm_len h k2
      have hpin := pin_b h hb.1
      have hcase : ∃ y, d = .int y ∧ (0 ≤ y → y ≤ z.c ∧ (z.p = 0 → y ≤ z.f)) ∧ (i = 0 → y = pin z x) := by
        match i, hd with
        | 0, hd =>
          cases hd
          refine ⟨_, rfl, fun _ => ⟨hpin.2.2, fun e => ?_⟩, fun _ => rfl⟩
          have := hb.2.2 e
          omega
        | 1, hd =>
          cases hd
          refine ⟨_, rfl, fun _ => ⟨by omega, fun e => ?_⟩, fun e => by omega⟩
          have := hb.2.2 e
          omega
      obtain ⟨y, rfl, hy, hy0⟩ := hcase
      refine ⟨[.sh z.d, .ls (G2.map .int), kB G2, .sh (.int ((t : Int) + 1)), .sh (.int x), .sh (.int y)], rfl, ?_⟩
      apply wx_nx (cm_b (by omega))
      obtain ⟨k3, ⟨s3, h3⟩, hm⟩ := add1_ok k2 hy
      refine wx_skip ⟨add1 G2 y, _, k3, ⟨s ++ s3, by rw [h3, hs, List.append_assoc]⟩, fun _ => ?_, rfl⟩
      by_cases q : i = 0
      · rw [← hy0 q]
        exact hm (by rw [hy0 q]; exact hpin.1)
      · rw [h3]
        exact List.mem_append_left _ (hin (by omega))
    · rintro ε ⟨G2, c5, k2, ⟨s, hs⟩, hin, rfl⟩
      refine wx_skip ⟨10001 - (t + 1), by omega, t + 1, G2, _, _, rfl, by rw [hs, List.length_append]; omega, k2, ?_, rfl⟩
      intro i y hi2 hy
      by_cases q : i < t
      · have := hp i y q (by
          rw [hs, List.getElem?_append_left (by omega)] at hy
          exact hy)
        rw [hs]
        exact List.mem_append_left _ this
      · have e : i = t := by omega
        subst e
        rw [hs, List.getElem?_append_left hi, hge] at hy
        cases hy
        exact hin (by show 1 ≤ 2; omega)
/-- from which the most is paid -/
def st35 (z : Pz) : Int := if 0 < z.p then z.c else z.f
theorem cm_most {z : Pz} (h : z.Ok) {G : List Int} (k : Cm z G) (hp : ∀ x ∈ G, pin z x ∈ G) (M : Nat) : (∀ s ∈ G, gr z s M ≤ gr z (st35 z) M) ∧ ∃ s ∈ G, gr z s M = gr z (st35 z) M := by
  unfold st35
  split
  · rename_i q
    refine ⟨fun s hs => gr_mono h M (k.b s hs).2.1, z.c, ?_, rfl⟩
    have main : ∀ n : Nat, ∀ x ∈ G, z.c - x ≤ n → z.c ∈ G := by
      intro n
      induction n with
      | zero =>
        intro x hx hn
        have := k.b x hx
        rwa [show z.c = x by omega]
      | succ n ih =>
        intro x hx hn
        have hb := k.b x hx
        have h1 := hp x hx
        have hb2 := k.b _ h1
        by_cases e : x = z.c
        · rwa [← e]
        · refine ih _ h1 ?_
          unfold pin
          split <;> omega
    exact main (z.c - z.f).toNat z.f k.hf (by have := h.f1; omega)
  · have : z.p = 0 := by have := h.p0; omega
    exact ⟨fun s hs => gr_mono h M ((k.b s hs).2.2 this), z.f, k.hf, rfl⟩
end KW
namespace KW
open PySem PySem.Spec PyProof.Rows L2 L2.M
local macro_rules | `(tactic| walk_at "ev") => `(tactic| simp [semF, shared, after, mSeq, mSkip, mIf, mRet, mRetN, mRetV, mSet, mSetIx, mExpr, mB, mU, mTm, mPl, mK, mVar, mOp, mCons, mNil, bor, bors, mTst, mAndT, mOrT, mNotT, mAndE, mOrE, mNotE, mIfE, mIsi, isiD, mChn, chnL, cmpD, binD, addD, subD, mulD, modD, fdivD, powD, eqD, neD, ltD, leD, gtD, geD, isD, isnD, L2.M.isNon, negD, ixD, Bf.f, Bg.f, lenD, L2.M.intD, maxD, minD, repD, strD, gmaxD, gminD, sumD, sortD, anyD, allD, mCall, frz, fzO, lend, wb, mTup, mLst, fzs, cD, mAsg, bTup, bTps, mApp, tupD, lstD, mRev, revD, ofs_inj, ee_ii, ee_ss, ee_bb, ee_nn, ee_is, ee_si, ee_in, ee_ni, ee_tt, ee_ll, ee_maps, ee_0, ee_1, ee_2, ee_3, at_lit, at_nat, at_m1, at_m2, scD, emD, sizeLine_eq, ixN, sm_lit, mSrc, itemsD, plOf, rng1D, bNm, mSl, mPt, mNoP, slD, mPar, keepT, tmsO, setA, mFlow, zipX, enumX, itemsX, intsOf, ints_all, boolsOf, shaped_lay, lay_int, lay_bool, lay_none, lay_dict, lay_tup, lay_list, lay_ints, sortX_ints, mPlF, mPlI, mRd, mPU, mPB, mFSet, mFNew, mNSet, mPApp, mPSetIx, mPPop, mMeth, mNew, isIns, cellO, mLstN, mAddN, mAppN, semX, mTold, mCallX, xRet, xExpr, xSet, mRaise, mM, isL, isS, mOrV, truD])
local macro_rules | `(tactic| walk_at "es") => `(tactic| simp [semF, shared, after, mSeq, mSkip, mIf, mRet, mRetN, mRetV, mSet, mSetIx, mExpr, mB, mU, mTm, mPl, mK, mVar, mOp, mCons, mNil, bor, bors, mTst, mAndT, mOrT, mNotT, mAndE, mOrE, mNotE, mIfE, mIsi, isiD, mChn, chnL, cmpD, binD, addD, subD, mulD, modD, fdivD, powD, eqD, neD, ltD, leD, gtD, geD, isD, isnD, L2.M.isNon, negD, ixD, Bf.f, Bg.f, lenD, L2.M.intD, maxD, minD, repD, strD, gmaxD, gminD, sumD, sortD, anyD, allD, mCall, frz, fzO, lend, wb, mTup, mLst, fzs, cD, mAsg, bTup, bTps, mApp, tupD, lstD, mRev, revD, ofs_inj, ee_ii, ee_ss, ee_bb, ee_nn, ee_is, ee_si, ee_in, ee_ni, ee_tt, ee_ll, ee_maps, ee_0, ee_1, ee_2, ee_3, at_lit, at_nat, at_m1, at_m2, scD, emD, sizeLine_eq, ixN, sm_lit, mSrc, itemsD, plOf, rng1D, bNm, mSl, mPt, mNoP, slD, mPar, keepT, tmsO, setA, mFlow, zipX, enumX, itemsX, intsOf, ints_all, boolsOf, shaped_lay, lay_int, lay_bool, lay_none, lay_dict, lay_tup, lay_list, lay_ints, sortX_ints, mPlF, mPlI, mRd, mPU, mPB, mFSet, mFNew, mNSet, mPApp, mPSetIx, mPPop, mMeth, mNew, isIns, cellO, mLstN, mAddN, mAppN, semX, mTold, mCallX, xRet, xExpr, xSet, mRaise, mM, isL, isS, mOrV, truD, *])
local macro_rules | `(tactic| walk_at "el") => `(tactic| simp [semF, shared, after, mSeq, mSkip, mIf, mRet, mRetN, mRetV, mSet, mSetIx, mExpr, mB, mU, mTm, mPl, mK, mVar, mOp, mCons, mNil, bor, bors, mTst, mAndT, mOrT, mNotT, mAndE, mOrE, mNotE, mIfE, mIsi, isiD, mChn, chnL, cmpD, binD, addD, subD, mulD, modD, fdivD, powD, eqD, neD, ltD, leD, gtD, geD, isD, isnD, L2.M.isNon, negD, ixD, Bf.f, Bg.f, lenD, L2.M.intD, maxD, minD, repD, strD, gmaxD, gminD, sumD, sortD, anyD, allD, mCall, frz, fzO, lend, wb, mTup, mLst, fzs, cD, mAsg, bTup, bTps, mApp, tupD, lstD, mRev, revD, ofs_inj, ee_ii, ee_ss, ee_bb, ee_nn, ee_is, ee_si, ee_in, ee_ni, ee_tt, ee_ll, ee_maps, ee_0, ee_1, ee_2, ee_3, at_lit, at_nat, at_m1, at_m2, scD, emD, sizeLine_eq, ixN, sm_lit, mSrc, itemsD, plOf, rng1D, bNm, mSl, mPt, mNoP, slD, mPar, keepT, tmsO, setA, mFlow, zipX, enumX, itemsX, intsOf, ints_all, boolsOf, shaped_lay, lay_int, lay_bool, lay_none, lay_dict, lay_tup, lay_list, lay_ints, sortX_ints, mPlF, mPlI, mRd, mPU, mPB, mFSet, mFNew, mNSet, mPApp, mPSetIx, mPPop, mMeth, mNew, isIns, cellO, mLstN, mAddN, mAppN, semX, mTold, mCallX, xRet, xExpr, xSet, mRaise, mM, isL, isS, mOrV, truD, mLc, lcL, sameC, wipeC, restC, mYes, *])
local macro_rules | `(tactic| walk_at "ef") => `(tactic| simp [semF, shared, after, mSeq, mSkip, mIf, mRet, mRetN, mRetV, mSet, mSetIx, mExpr, mB, mU, mTm, mPl, mK, mVar, mOp, mCons, mNil, bor, bors, mTst, mAndT, mOrT, mNotT, mAndE, mOrE, mNotE, mIfE, mIsi, isiD, mChn, chnL, cmpD, binD, addD, subD, mulD, modD, fdivD, powD, eqD, neD, ltD, leD, gtD, geD, isD, isnD, L2.M.isNon, negD, ixD, Bf.f, Bg.f, lenD, L2.M.intD, maxD, minD, repD, strD, gmaxD, gminD, sumD, sortD, anyD, allD, mCall, frz, fzO, lend, wb, mTup, mLst, fzs, cD, mAsg, bTup, bTps, mApp, tupD, lstD, mRev, revD, ofs_inj, ee_ii, ee_ss, ee_bb, ee_nn, ee_is, ee_si, ee_in, ee_ni, ee_tt, ee_ll, ee_maps, ee_0, ee_1, ee_2, ee_3, at_lit, at_nat, at_m1, at_m2, scD, emD, sizeLine_eq, ixN, sm_lit, mSrc, itemsD, plOf, rng1D, bNm, mSl, mPt, mNoP, slD, mPar, keepT, tmsO, setA, mFlow, zipX, enumX, itemsX, intsOf, ints_all, boolsOf, shaped_lay, lay_int, lay_bool, lay_none, lay_dict, lay_tup, lay_list, lay_ints, sortX_ints, mPlF, mPlI, mRd, mPU, mPB, mFSet, mFNew, mNSet, mPApp, mPSetIx, mPPop, mMeth, mNew, isIns, cellO, mLstN, mAddN, mAppN, semX, mTold, mCallX, xRet, xExpr, xSet, mRaise, mM, isL, isS, mOrV, truD, mFor, forL, mLc, lcL, sameC, wipeC, restC, mYes, *])
local macro_rules | `(tactic| walk_at "rg") => `(tactic| (and_intros <;> grind))
local macro_rules | `(tactic| walk_at "nx") => `(tactic| (apply wx_nx; focus (walk_at "ev"; try first | exact ⟨rfl, rfl⟩ | rfl)))
local macro_rules | `(tactic| walk_at "ns") => `(tactic| (apply wx_nx; focus (walk_at "es"; try first | exact ⟨rfl, rfl⟩ | rfl)))
local macro_rules | `(tactic| walk_at "rt") => `(tactic| (apply wx_rt; focus (walk_at "ev"; try first | exact ⟨rfl, rfl⟩ | rfl)))
local macro_rules | `(tactic| walk_at "rs") => `(tactic| (apply wx_rt; focus (walk_at "es"; try first | exact ⟨rfl, rfl⟩ | rfl)))
local macro_rules | `(tactic| walk_at "ed") => `(tactic| simp [semF, shared, after, mSeq, mSkip, mIf, mRet, mRetN, mRetV, mSet, mSetIx, mExpr, mB, mU, mTm, mPl, mK, mVar, mOp, mCons, mNil, bor, bors, mTst, mAndT, mOrT, mNotT, mAndE, mOrE, mNotE, mIfE, mIsi, isiD, mChn, chnL, cmpD, binD, addD, subD, mulD, modD, fdivD, powD, eqD, neD, ltD, leD, gtD, geD, isD, isnD, L2.M.isNon, negD, ixD, Bf.f, Bg.f, lenD, L2.M.intD, maxD, minD, repD, strD, gmaxD, gminD, sumD, sortD, anyD, allD, mCall, frz, fzO, lend, wb, mTup, mLst, fzs, cD, mAsg, bTup, bTps, mApp, tupD, lstD, mRev, revD, ofs_inj, ee_ii, ee_ss, ee_bb, ee_nn, ee_is, ee_si, ee_in, ee_ni, ee_tt, ee_ll, ee_maps, ee_0, ee_1, ee_2, ee_3, at_lit, at_nat, at_m1, at_m2, scD, emD, sizeLine_eq, ixN, sm_lit, mSrc, itemsD, plOf, rng1D, bNm, mSl, mPt, mNoP, slD, mPar, keepT, tmsO, setA, mFlow, zipX, enumX, itemsX, intsOf, ints_all, boolsOf, shaped_lay, lay_int, lay_bool, lay_none, lay_dict, lay_tup, lay_list, lay_ints, sortX_ints, mPlF, mPlI, mRd, mPU, mPB, mFSet, mFNew, mNSet, mPApp, mPSetIx, mPPop, mMeth, mNew, isIns, cellO, mLstN, mAddN, mAppN, semX, mTold, mCallX, xRet, xExpr, xSet, mRaise, mM, isL, isS, mOrV, truD, mDNew, mDIn, mDGet, mDLen, mDPut, kyD, mNNew, mN1, mTake, mFnV, mCallF, mNIn, mNGet, mNPut, mNVals, mNList, nKs, mDGetD, mDList, mNNe, *])
theorem st35_b {z : Pz} (h : z.Ok) : 0 ≤ st35 z ∧ st35 z ≤ z.c ∧ z.f ≤ st35 z := by
  have := h.f0
  have := h.f1
  unfold st35
  split <;> omega
theorem mb_1 {z : Pz} {M v : Int} (hp : z.p = 0) (f : g_paid_turns [.sh z.d, .sh (.int z.f), .sh (.int M)] = some (.sh (.int v), [.sh z.d, .sh (.int z.f), .sh (.int M)])) : g_most_between [.sh z.d, .sh (.int M)] = some (.sh (.int v), [.sh z.d, .sh (.int M)]) := by
  unfold g_most_between m_most_between
  unfold Pz.d at *
  rw [hp] at *
  generalize g_paid_turns = G at *
  walk_at "es"
theorem mb_2 {z : Pz} {M v : Int} (hp : ¬ z.p = 0) (f : g_paid_turns [.sh z.d, .sh (.int z.c), .sh (.int M)] = some (.sh (.int v), [.sh z.d, .sh (.int z.c), .sh (.int M)])) : g_most_between [.sh z.d, .sh (.int M)] = some (.sh (.int v), [.sh z.d, .sh (.int M)]) := by
  unfold g_most_between m_most_between
  unfold Pz.d at *
  generalize g_paid_turns = G at *
  walk_at "es"
theorem between_eq {z : Pz} (h : z.Ok) {M : Nat} (hM : M ≤ 10 ^ 12) : g_most_between [.sh z.d, .sh (.int (M : Int))] = some (.sh (.int (gr z (st35 z) M)), [.sh z.d, .sh (.int (M : Int))]) := by
  have p0 := h.p0
  have f0 := h.f0
  have f1 := h.f1
  unfold st35
  by_cases q : z.p = 0
  · rw [if_neg (by omega)]
    exact mb_1 q (paid_turns_eq h h.f0 hM)
  · rw [if_pos (by omega)]
    exact mb_2 q (paid_turns_eq h (by omega) hM)
theorem so_1 {z : Pz} (h0 : 0 ≤ z.p) {m : Int} : (mPar [0, 1] [2, 3] (mCons (mTm (mIfE (mTst (mB (cmpD .Gt) (mTm (mB ixD (mPl 0) (mTm (mK (.int 0))))) (mTm (mK (.int 0))))) (mB ixD (mPl 0) (mTm (mK (.int 2)))) (mB ixD (mPl 0) (mTm (mK (.int 3)))))) (mCons (mTm (mK (.int 0))) (mNil)))) [.sh z.d, .sh (.int m), .no, .no, .no] = some (.nx, [.sh z.d, .sh (.int m), .sh (.int (st35 z)), .sh (.int 0), .no]) := by
  unfold Pz.d st35
  by_cases q : 0 < z.p
  · walk_at "es"
  · walk_at "es"
theorem law_soon_eq {z : Pz} (h : z.Ok) {M : Nat} (hM : M ≤ 10000) : g_law_soon [.sh z.d, .sh (.int (M : Int))] = some (.sh (.int (gr z (st35 z) M)), [.sh z.d, .sh (.int (M : Int))]) := by
  apply rt_eq
  unfold g_law_soon m_law_soon
  apply rt_sem rfl
  apply wx_nx (so_1 h.p0)
  apply wx_seq
  refine soon_loop h hM fun c2 c4 => ?_
  generalize gr z (st35 z) M = v
  generalize z.d = Z
  generalize (M : Int) = m
  apply wx_rt (c := .sh (.int v)) (ε1 := [.sh Z, .sh (.int m), c2, .sh (.int v), c4])
  · clear hM h
    walk_at "ev"
  exact ⟨rfl, rfl⟩
end KW
namespace KW
open PySem PySem.Spec PyProof.Rows L2 L2.M
local macro_rules | `(tactic| walk_at "ev") => `(tactic| simp [semF, shared, after, mSeq, mSkip, mIf, mRet, mRetN, mRetV, mSet, mSetIx, mExpr, mB, mU, mTm, mPl, mK, mVar, mOp, mCons, mNil, bor, bors, mTst, mAndT, mOrT, mNotT, mAndE, mOrE, mNotE, mIfE, mIsi, isiD, mChn, chnL, cmpD, binD, addD, subD, mulD, modD, fdivD, powD, eqD, neD, ltD, leD, gtD, geD, isD, isnD, L2.M.isNon, negD, ixD, Bf.f, Bg.f, lenD, L2.M.intD, maxD, minD, repD, strD, gmaxD, gminD, sumD, sortD, anyD, allD, mCall, frz, fzO, lend, wb, mTup, mLst, fzs, cD, mAsg, bTup, bTps, mApp, tupD, lstD, mRev, revD, ofs_inj, ee_ii, ee_ss, ee_bb, ee_nn, ee_is, ee_si, ee_in, ee_ni, ee_tt, ee_ll, ee_maps, ee_0, ee_1, ee_2, ee_3, at_lit, at_nat, at_m1, at_m2, scD, emD, sizeLine_eq, ixN, sm_lit, mSrc, itemsD, plOf, rng1D, bNm, mSl, mPt, mNoP, slD, mPar, keepT, tmsO, setA, mFlow, zipX, enumX, itemsX, intsOf, ints_all, boolsOf, shaped_lay, lay_int, lay_bool, lay_none, lay_dict, lay_tup, lay_list, lay_ints, sortX_ints, mPlF, mPlI, mRd, mPU, mPB, mFSet, mFNew, mNSet, mPApp, mPSetIx, mPPop, mMeth, mNew, isIns, cellO, mLstN, mAddN, mAppN, semX, mTold, mCallX, xRet, xExpr, xSet, mRaise, mM, isL, isS, mOrV, truD])
local macro_rules | `(tactic| walk_at "es") => `(tactic| simp [semF, shared, after, mSeq, mSkip, mIf, mRet, mRetN, mRetV, mSet, mSetIx, mExpr, mB, mU, mTm, mPl, mK, mVar, mOp, mCons, mNil, bor, bors, mTst, mAndT, mOrT, mNotT, mAndE, mOrE, mNotE, mIfE, mIsi, isiD, mChn, chnL, cmpD, binD, addD, subD, mulD, modD, fdivD, powD, eqD, neD, ltD, leD, gtD, geD, isD, isnD, L2.M.isNon, negD, ixD, Bf.f, Bg.f, lenD, L2.M.intD, maxD, minD, repD, strD, gmaxD, gminD, sumD, sortD, anyD, allD, mCall, frz, fzO, lend, wb, mTup, mLst, fzs, cD, mAsg, bTup, bTps, mApp, tupD, lstD, mRev, revD, ofs_inj, ee_ii, ee_ss, ee_bb, ee_nn, ee_is, ee_si, ee_in, ee_ni, ee_tt, ee_ll, ee_maps, ee_0, ee_1, ee_2, ee_3, at_lit, at_nat, at_m1, at_m2, scD, emD, sizeLine_eq, ixN, sm_lit, mSrc, itemsD, plOf, rng1D, bNm, mSl, mPt, mNoP, slD, mPar, keepT, tmsO, setA, mFlow, zipX, enumX, itemsX, intsOf, ints_all, boolsOf, shaped_lay, lay_int, lay_bool, lay_none, lay_dict, lay_tup, lay_list, lay_ints, sortX_ints, mPlF, mPlI, mRd, mPU, mPB, mFSet, mFNew, mNSet, mPApp, mPSetIx, mPPop, mMeth, mNew, isIns, cellO, mLstN, mAddN, mAppN, semX, mTold, mCallX, xRet, xExpr, xSet, mRaise, mM, isL, isS, mOrV, truD, *])
local macro_rules | `(tactic| walk_at "el") => `(tactic| simp [semF, shared, after, mSeq, mSkip, mIf, mRet, mRetN, mRetV, mSet, mSetIx, mExpr, mB, mU, mTm, mPl, mK, mVar, mOp, mCons, mNil, bor, bors, mTst, mAndT, mOrT, mNotT, mAndE, mOrE, mNotE, mIfE, mIsi, isiD, mChn, chnL, cmpD, binD, addD, subD, mulD, modD, fdivD, powD, eqD, neD, ltD, leD, gtD, geD, isD, isnD, L2.M.isNon, negD, ixD, Bf.f, Bg.f, lenD, L2.M.intD, maxD, minD, repD, strD, gmaxD, gminD, sumD, sortD, anyD, allD, mCall, frz, fzO, lend, wb, mTup, mLst, fzs, cD, mAsg, bTup, bTps, mApp, tupD, lstD, mRev, revD, ofs_inj, ee_ii, ee_ss, ee_bb, ee_nn, ee_is, ee_si, ee_in, ee_ni, ee_tt, ee_ll, ee_maps, ee_0, ee_1, ee_2, ee_3, at_lit, at_nat, at_m1, at_m2, scD, emD, sizeLine_eq, ixN, sm_lit, mSrc, itemsD, plOf, rng1D, bNm, mSl, mPt, mNoP, slD, mPar, keepT, tmsO, setA, mFlow, zipX, enumX, itemsX, intsOf, ints_all, boolsOf, shaped_lay, lay_int, lay_bool, lay_none, lay_dict, lay_tup, lay_list, lay_ints, sortX_ints, mPlF, mPlI, mRd, mPU, mPB, mFSet, mFNew, mNSet, mPApp, mPSetIx, mPPop, mMeth, mNew, isIns, cellO, mLstN, mAddN, mAppN, semX, mTold, mCallX, xRet, xExpr, xSet, mRaise, mM, isL, isS, mOrV, truD, mLc, lcL, sameC, wipeC, restC, mYes, *])
local macro_rules | `(tactic| walk_at "ef") => `(tactic| simp [semF, shared, after, mSeq, mSkip, mIf, mRet, mRetN, mRetV, mSet, mSetIx, mExpr, mB, mU, mTm, mPl, mK, mVar, mOp, mCons, mNil, bor, bors, mTst, mAndT, mOrT, mNotT, mAndE, mOrE, mNotE, mIfE, mIsi, isiD, mChn, chnL, cmpD, binD, addD, subD, mulD, modD, fdivD, powD, eqD, neD, ltD, leD, gtD, geD, isD, isnD, L2.M.isNon, negD, ixD, Bf.f, Bg.f, lenD, L2.M.intD, maxD, minD, repD, strD, gmaxD, gminD, sumD, sortD, anyD, allD, mCall, frz, fzO, lend, wb, mTup, mLst, fzs, cD, mAsg, bTup, bTps, mApp, tupD, lstD, mRev, revD, ofs_inj, ee_ii, ee_ss, ee_bb, ee_nn, ee_is, ee_si, ee_in, ee_ni, ee_tt, ee_ll, ee_maps, ee_0, ee_1, ee_2, ee_3, at_lit, at_nat, at_m1, at_m2, scD, emD, sizeLine_eq, ixN, sm_lit, mSrc, itemsD, plOf, rng1D, bNm, mSl, mPt, mNoP, slD, mPar, keepT, tmsO, setA, mFlow, zipX, enumX, itemsX, intsOf, ints_all, boolsOf, shaped_lay, lay_int, lay_bool, lay_none, lay_dict, lay_tup, lay_list, lay_ints, sortX_ints, mPlF, mPlI, mRd, mPU, mPB, mFSet, mFNew, mNSet, mPApp, mPSetIx, mPPop, mMeth, mNew, isIns, cellO, mLstN, mAddN, mAppN, semX, mTold, mCallX, xRet, xExpr, xSet, mRaise, mM, isL, isS, mOrV, truD, mFor, forL, mLc, lcL, sameC, wipeC, restC, mYes, *])
local macro_rules | `(tactic| walk_at "rg") => `(tactic| (and_intros <;> grind))
local macro_rules | `(tactic| walk_at "nx") => `(tactic| (apply wx_nx; focus (walk_at "ev"; try first | exact ⟨rfl, rfl⟩ | rfl)))
local macro_rules | `(tactic| walk_at "ns") => `(tactic| (apply wx_nx; focus (walk_at "es"; try first | exact ⟨rfl, rfl⟩ | rfl)))
local macro_rules | `(tactic| walk_at "rt") => `(tactic| (apply wx_rt; focus (walk_at "ev"; try first | exact ⟨rfl, rfl⟩ | rfl)))
local macro_rules | `(tactic| walk_at "rs") => `(tactic| (apply wx_rt; focus (walk_at "es"; try first | exact ⟨rfl, rfl⟩ | rfl)))
local macro_rules | `(tactic| walk_at "ed") => `(tactic| simp [semF, shared, after, mSeq, mSkip, mIf, mRet, mRetN, mRetV, mSet, mSetIx, mExpr, mB, mU, mTm, mPl, mK, mVar, mOp, mCons, mNil, bor, bors, mTst, mAndT, mOrT, mNotT, mAndE, mOrE, mNotE, mIfE, mIsi, isiD, mChn, chnL, cmpD, binD, addD, subD, mulD, modD, fdivD, powD, eqD, neD, ltD, leD, gtD, geD, isD, isnD, L2.M.isNon, negD, ixD, Bf.f, Bg.f, lenD, L2.M.intD, maxD, minD, repD, strD, gmaxD, gminD, sumD, sortD, anyD, allD, mCall, frz, fzO, lend, wb, mTup, mLst, fzs, cD, mAsg, bTup, bTps, mApp, tupD, lstD, mRev, revD, ofs_inj, ee_ii, ee_ss, ee_bb, ee_nn, ee_is, ee_si, ee_in, ee_ni, ee_tt, ee_ll, ee_maps, ee_0, ee_1, ee_2, ee_3, at_lit, at_nat, at_m1, at_m2, scD, emD, sizeLine_eq, ixN, sm_lit, mSrc, itemsD, plOf, rng1D, bNm, mSl, mPt, mNoP, slD, mPar, keepT, tmsO, setA, mFlow, zipX, enumX, itemsX, intsOf, ints_all, boolsOf, shaped_lay, lay_int, lay_bool, lay_none, lay_dict, lay_tup, lay_list, lay_ints, sortX_ints, mPlF, mPlI, mRd, mPU, mPB, mFSet, mFNew, mNSet, mPApp, mPSetIx, mPPop, mMeth, mNew, isIns, cellO, mLstN, mAddN, mAppN, semX, mTold, mCallX, xRet, xExpr, xSet, mRaise, mM, isL, isS, mOrV, truD, mDNew, mDIn, mDGet, mDLen, mDPut, kyD, mNNew, mN1, mTake, mFnV, mCallF, mNIn, mNGet, mNPut, mNVals, mNList, nKs, mDGetD, mDList, mNNe, *])
def mx (a b : Int) : Int := if a < b then b else a
def upE (E : List (Int × Int)) (c v : Int) : List (Int × Int) := ptE E c (mx ((lkE E c).getD 0) v)
theorem lkE_mem {β : Type} {E : List (Int × β)} (h : (E.map (·.1)).Nodup) {c : Int} {v : β} (hm : (c, v) ∈ E) : lkE E c = some v := by
  unfold lkE
  induction E with
  | nil => cases hm
  | cons e E ih =>
    rw [List.map_cons, List.nodup_cons] at h
    rw [List.find?_cons]
    rcases List.mem_cons.mp hm with rfl | hm
    · simp
    · have hne : e.1 ≠ c := fun q => h.1 (by rw [q]; exact List.mem_map_of_mem (f := (·.1)) hm)
      rw [decide_eq_false hne]
      exact ih h.2 hm
def Cov (E : List (Int × Int)) (c v : Int) : Prop := ∃ w, (c, w) ∈ E ∧ v ≤ w
theorem up_nd {E : List (Int × Int)} (h : (E.map (·.1)).Nodup) (c v : Int) : ((upE E c v).map (·.1)).Nodup := ptE_nd h _ _
theorem up_sound {P : Int → Int → Prop} {E : List (Int × Int)} {c v : Int} (h : ∀ e ∈ E, P e.1 e.2) (hv : P c v) (h0 : 0 ≤ v) : ∀ e ∈ upE E c v, P e.1 e.2 := by
  intro e he
  rcases ptE_mem he with rfl | ⟨he, _⟩
  · dsimp only
    unfold mx
    cases q : lkE E c with
    | none =>
      dsimp only [Option.getD_none]
      split
      · exact hv
      · have : v = 0 := by omega
        rw [← this]
        exact hv
    | some w =>
      dsimp only [Option.getD_some]
      split
      · exact hv
      · exact h _ (lkE_some q)
  · exact h e he
theorem up_cov {E : List (Int × Int)} (c v : Int) : Cov (upE E c v) c v := by
  refine ⟨_, ptE_has _ _ _, ?_⟩
  unfold mx
  split <;> omega
theorem up_old {E : List (Int × Int)} (hn : (E.map (·.1)).Nodup) (c v : Int) {c' v' : Int} (h : Cov E c' v') : Cov (upE E c v) c' v' := by
  obtain ⟨w, hw, hl⟩ := h
  by_cases q : c' = c
  · subst q
    refine ⟨_, ptE_has _ _ _, ?_⟩
    rw [lkE_mem hn hw]
    unfold mx
    dsimp only [Option.getD_some]
    split <;> omega
  · exact ⟨w, ptE_old hw q, hl⟩
abbrev dI (E : List (Int × Int)) : C := .dc 0 (kdE .int E)
abbrev fI (E : List (Int × Int)) : C := .fk (kdE .int E)
theorem kd_len {β : Type} (val : β → PyData) (E : List (Int × β)) : (kdE val E).length = E.length := List.length_map _
theorem get_d (E : List (Int × Int)) (c : Int) {i : Nat} {m : EM} {ε ε1 : Cs} (h0 : ε[i]? = some (dI E)) (h : m ε = some (.sh (.int c), ε1)) (h1 : ε1[i]? = some (dI E)) : mDGetD i m (mK (.int 0)) ε = some (.sh (.int ((lkE E c).getD 0)), ε1) := by
  have e := dLk_int PyData.int E c
  unfold dI at *
  have e2 : ((dLk (kdE PyData.int E) (.int c)).getD (.int 0)) = .int ((lkE E c).getD 0) := by
    rw [e]
    cases lkE E c <;> rfl
  simp [mDGetD, h0, h, mK, h1, kyD, e2]
theorem get_f (E : List (Int × Int)) {c v : Int} (hv : lkE E c = some v) {i j : Nat} {ε : Cs} (h0 : ε[i]? = some (fI E)) (hj : ε[j]? = some (.sh (.int c))) : mDGetF i (mPl j) ε = some (.sh (.int v), ε) := by
  have e := dLk_int PyData.int E c
  rw [hv] at e
  unfold fI at *
  simp [mDGetF, h0, dKs, mPl, hj, bor, kyD, e, cD]
theorem put_d (E : List (Int × Int)) {c v : Int} {i j : Nat} {m : EM} {ε : Cs} (h0 : ε[i]? = some (dI E)) (hj : ε[j]? = some (.sh (.int c))) (hm : m ε = some (.sh (.int v), ε)) (hl : E.length < 16777216) : mDPut i m (mPl j) ε = some (.nx, ε.set i (dI (ptE E c v))) := by
  have e := dPt_int PyData.int E c v
  have hl2 : (kdE PyData.int E).length < sizeLine := by rw [kd_len, sizeLine_eq]; exact hl
  unfold dI at *
  rw [← e]
  simp [mDPut, hm, cD, h0, mPl, hj, bor, kyD, hl2]
theorem lb_s {r c : Int} (hr : 0 < r) (hs : sm r) (h0 : 0 ≤ c) (h1 : c ≤ 10000) {p q f : Int} {c1 c2 c3 c5 c6 c7 c8 c9 : C} : (mSrc rng1D (mCons (mTm (mB (binD .Add) (mTm (mB (binD .FloorDiv) (mPl 4) (mTm (mB ixD (mPl 0) (mTm (mK (.int 1))))))) (mTm (mK (.int 1))))) (mNil))) [.sh (.tuple [.int p, .int r, .int q, .int f]), c1, c2, c3, .sh (.int c), c5, c6, c7, c8, c9] = some ((rangeD 0 1 (c / r + 1).toNat, []), [.sh (.tuple [.int p, .int r, .int q, .int f]), c1, c2, c3, .sh (.int c), c5, c6, c7, c8, c9]) := by
  have h3 : 0 ≤ c / r := Int.ediv_nonneg h0 (by omega)
  have h2 : c / r ≤ c := Int.ediv_le_self _ h0
  have h4 : rng1D [.int (c / r + 1)] = some (rangeD 0 1 (c / r + 1).toNat) := rng_nat0 _ (by omega) ⟨by omega, by omega⟩
  refine src_f (d := .int (c / r + 1)) ?_ h4
  have h5 : ¬ r = 0 := by omega
  clear h4 h2 h3 h0 h1
  walk_at "es"
theorem lb_1 {p r q f c k : Int} (hk : sm k) (hs : sm r) {c1 c2 c3 c5 c6 c8 c9 : C} : (mSet [0, 1, 2] 8 (mB (binD .Sub) (mPl 4) (mTm (mB (binD .Mult) (mPl 7) (mTm (mB ixD (mPl 0) (mTm (mK (.int 1))))))))) [.sh (.tuple [.int p, .int r, .int q, .int f]), c1, c2, c3, .sh (.int c), c5, c6, .sh (.int k), c8, c9] = some (.nx, [.sh (.tuple [.int p, .int r, .int q, .int f]), c1, c2, c3, .sh (.int c), c5, c6, .sh (.int k), .sh (.int (c - k * r)), c9]) := by
  walk_at "es"
theorem lb_2 {Z : PyData} {c1 c2 c5 c9 : C} {K S : List (Int × Int)} {c k l v : Int} (hv : lkE K c = some v) (hl : S.length < 16777216) : (mDPut 6 (mOp (Bf.f .max) (mCons (mTm (mDGetD 6 (mVar 8) (mK (.int 0)))) (mCons (mTm (mB (binD .Add) (mTm (mDGetF 3 (mPl 4))) (mPl 7))) (mNil)))) (mPl 8)) [.sh Z, c1, c2, fI K, .sh (.int c), c5, dI S, .sh (.int k), .sh (.int l), c9] = some (.nx, [.sh Z, c1, c2, fI K, .sh (.int c), c5, dI (upE S l (v + k)), .sh (.int k), .sh (.int l), c9]) := by
  refine put_d S (c := l) rfl rfl ?_ hl
  have e1 := get_d S l (i := 6) (m := mVar 8) (ε := [.sh Z, c1, c2, fI K, .sh (.int c), c5, dI S, .sh (.int k), .sh (.int l), c9]) rfl rfl rfl
  have e2 := get_f K hv (i := 3) (j := 4) (ε := [.sh Z, c1, c2, fI K, .sh (.int c), c5, dI S, .sh (.int k), .sh (.int l), c9]) rfl rfl
  generalize mDGetD 6 _ _ = M1 at *
  generalize mDGetF 3 _ = M2 at *
  generalize (lkE S l).getD 0 = g at *
  generalize fI K = FK at *
  generalize dI S = DS at *
  unfold mx
  clear hv hl
  walk_at "es"
theorem lb_3 {p r q f c t M : Int} {c1 c3 c6 c7 c8 c9 : C} : (mSet [0, 1, 2] 9 (mIfE (mTst (mB (cmpD .Lt) (mPl 5) (mPl 2))) (mOp (Bf.f .min) (mCons (mTm (mB ixD (mPl 0) (mTm (mK (.int 2))))) (mCons (mTm (mB (binD .Add) (mPl 4) (mTm (mB ixD (mPl 0) (mTm (mK (.int 0))))))) (mNil)))) (mVar 4))) [.sh (.tuple [.int p, .int r, .int q, .int f]), c1, .sh (.int M), c3, .sh (.int c), .sh (.int t), c6, c7, c8, c9] = some (.nx, [.sh (.tuple [.int p, .int r, .int q, .int f]), c1, .sh (.int M), c3, .sh (.int c), .sh (.int t), c6, c7, c8, .sh (.int (if t < M then (if c + p < q then c + p else q) else c))]) := by
  by_cases h : t < M <;> walk_at "es"
theorem lb_4 {Z : PyData} {c1 c2 c5 c7 c8 : C} {K S : List (Int × Int)} {c l v : Int} (hv : lkE S c = some v) (hl : K.length < 16777216) : (mDPut 3 (mOp (Bf.f .max) (mCons (mTm (mDGetD 3 (mVar 9) (mK (.int 0)))) (mCons (mTm (mDGetF 6 (mPl 4))) (mNil)))) (mPl 9)) [.sh Z, c1, c2, dI K, .sh (.int c), c5, fI S, c7, c8, .sh (.int l)] = some (.nx, [.sh Z, c1, c2, dI (upE K l v), .sh (.int c), c5, fI S, c7, c8, .sh (.int l)]) := by
  refine put_d K (c := l) rfl rfl ?_ hl
  have e1 := get_d K l (i := 3) (m := mVar 9) (ε := [.sh Z, c1, c2, dI K, .sh (.int c), c5, fI S, c7, c8, .sh (.int l)]) rfl rfl rfl
  have e2 := get_f S hv (i := 6) (j := 4) (ε := [.sh Z, c1, c2, dI K, .sh (.int c), c5, fI S, c7, c8, .sh (.int l)]) rfl rfl
  generalize mDGetD 3 _ _ = M1 at *
  generalize mDGetF 6 _ = M2 at *
  generalize (lkE K l).getD 0 = g at *
  generalize fI S = FS at *
  generalize dI K = DK at *
  unfold mx
  clear hv hl
  walk_at "es"
theorem src_dk (K : List (Int × Int)) {ε : Cs} {i : Nat} (h : ε[i]? = some (dI K)) : mDSrc i ε = some ((K.map fun e => PyData.int e.1, []), ε.set i (fI K)) := by
  unfold dI at h
  have e : (kdE PyData.int K).map (·.1) = K.map fun e => PyData.int e.1 := by
    unfold kdE
    rw [List.map_map]
    rfl
  unfold mDSrc fI
  rw [h, ← e]
  rfl
theorem lb_v (K : List (Int × Int)) {ε : Cs} {i : Nat} (h : ε[i]? = some (dI K)) : mDVals i ε = some (.ls ((K.map (·.2)).map .int), ε) := by
  have e : (kdE PyData.int K).map (·.2) = (K.map (·.2)).map .int := by
    unfold kdE
    rw [List.map_map, List.map_map]
    rfl
  unfold dI at h
  unfold mDVals
  simp only [h, Option.bind_eq_bind, Option.bind_some, dKs]
  rw [e]
theorem max_is {L : List Int} {T : Int} (h1 : T ∈ L) (h2 : ∀ x ∈ L, x ≤ T) : gmaxD [.list (L.map .int)] = some (.sh (.int T)) := by
  cases L with
  | nil => cases h1
  | cons x L =>
    have e : L.foldl max x = T := by
      have key : ∀ (L : List Int) (x : Int), (∀ y ∈ x :: L, y ≤ L.foldl max x) ∧ L.foldl max x ∈ x :: L := by
        intro L
        induction L with
        | nil => intro x; simp
        | cons y L ih =>
          intro x
          obtain ⟨h1, h2⟩ := ih (max x y)
          rw [List.foldl_cons]
          refine ⟨fun z hz => ?_, ?_⟩
          · rcases List.mem_cons.mp hz with rfl | hz
            · have := h1 (max z y) List.mem_cons_self
              omega
            · rcases List.mem_cons.mp hz with rfl | hz
              · have := h1 (max x z) List.mem_cons_self
                omega
              · exact h1 z (List.mem_cons_of_mem _ hz)
          · rcases List.mem_cons.mp h2 with e | h2
            · rw [e]
              rcases Int.le_total x y with q | q
              · rw [Int.max_eq_right q]; simp
              · rw [Int.max_eq_left q]; simp
            · simp [h2]
      obtain ⟨k1, k2⟩ := key L x
      have := k1 T h1
      have := h2 _ k2
      omega
    simp only [gmaxD, ints_all]
    simp [e]
end KW
namespace KW
open PySem PySem.Spec PyProof.Rows L2 L2.M
local macro_rules | `(tactic| walk_at "ev") => `(tactic| simp [semF, shared, after, mSeq, mSkip, mIf, mRet, mRetN, mRetV, mSet, mSetIx, mExpr, mB, mU, mTm, mPl, mK, mVar, mOp, mCons, mNil, bor, bors, mTst, mAndT, mOrT, mNotT, mAndE, mOrE, mNotE, mIfE, mIsi, isiD, mChn, chnL, cmpD, binD, addD, subD, mulD, modD, fdivD, powD, eqD, neD, ltD, leD, gtD, geD, isD, isnD, L2.M.isNon, negD, ixD, Bf.f, Bg.f, lenD, L2.M.intD, maxD, minD, repD, strD, gmaxD, gminD, sumD, sortD, anyD, allD, mCall, frz, fzO, lend, wb, mTup, mLst, fzs, cD, mAsg, bTup, bTps, mApp, tupD, lstD, mRev, revD, ofs_inj, ee_ii, ee_ss, ee_bb, ee_nn, ee_is, ee_si, ee_in, ee_ni, ee_tt, ee_ll, ee_maps, ee_0, ee_1, ee_2, ee_3, at_lit, at_nat, at_m1, at_m2, scD, emD, sizeLine_eq, ixN, sm_lit, mSrc, itemsD, plOf, rng1D, bNm, mSl, mPt, mNoP, slD, mPar, keepT, tmsO, setA, mFlow, zipX, enumX, itemsX, intsOf, ints_all, boolsOf, shaped_lay, lay_int, lay_bool, lay_none, lay_dict, lay_tup, lay_list, lay_ints, sortX_ints, mPlF, mPlI, mRd, mPU, mPB, mFSet, mFNew, mNSet, mPApp, mPSetIx, mPPop, mMeth, mNew, isIns, cellO, mLstN, mAddN, mAppN, semX, mTold, mCallX, xRet, xExpr, xSet, mRaise, mM, isL, isS, mOrV, truD])
local macro_rules | `(tactic| walk_at "es") => `(tactic| simp [semF, shared, after, mSeq, mSkip, mIf, mRet, mRetN, mRetV, mSet, mSetIx, mExpr, mB, mU, mTm, mPl, mK, mVar, mOp, mCons, mNil, bor, bors, mTst, mAndT, mOrT, mNotT, mAndE, mOrE, mNotE, mIfE, mIsi, isiD, mChn, chnL, cmpD, binD, addD, subD, mulD, modD, fdivD, powD, eqD, neD, ltD, leD, gtD, geD, isD, isnD, L2.M.isNon, negD, ixD, Bf.f, Bg.f, lenD, L2.M.intD, maxD, minD, repD, strD, gmaxD, gminD, sumD, sortD, anyD, allD, mCall, frz, fzO, lend, wb, mTup, mLst, fzs, cD, mAsg, bTup, bTps, mApp, tupD, lstD, mRev, revD, ofs_inj, ee_ii, ee_ss, ee_bb, ee_nn, ee_is, ee_si, ee_in, ee_ni, ee_tt, ee_ll, ee_maps, ee_0, ee_1, ee_2, ee_3, at_lit, at_nat, at_m1, at_m2, scD, emD, sizeLine_eq, ixN, sm_lit, mSrc, itemsD, plOf, rng1D, bNm, mSl, mPt, mNoP, slD, mPar, keepT, tmsO, setA, mFlow, zipX, enumX, itemsX, intsOf, ints_all, boolsOf, shaped_lay, lay_int, lay_bool, lay_none, lay_dict, lay_tup, lay_list, lay_ints, sortX_ints, mPlF, mPlI, mRd, mPU, mPB, mFSet, mFNew, mNSet, mPApp, mPSetIx, mPPop, mMeth, mNew, isIns, cellO, mLstN, mAddN, mAppN, semX, mTold, mCallX, xRet, xExpr, xSet, mRaise, mM, isL, isS, mOrV, truD, *])
local macro_rules | `(tactic| walk_at "el") => `(tactic| simp [semF, shared, after, mSeq, mSkip, mIf, mRet, mRetN, mRetV, mSet, mSetIx, mExpr, mB, mU, mTm, mPl, mK, mVar, mOp, mCons, mNil, bor, bors, mTst, mAndT, mOrT, mNotT, mAndE, mOrE, mNotE, mIfE, mIsi, isiD, mChn, chnL, cmpD, binD, addD, subD, mulD, modD, fdivD, powD, eqD, neD, ltD, leD, gtD, geD, isD, isnD, L2.M.isNon, negD, ixD, Bf.f, Bg.f, lenD, L2.M.intD, maxD, minD, repD, strD, gmaxD, gminD, sumD, sortD, anyD, allD, mCall, frz, fzO, lend, wb, mTup, mLst, fzs, cD, mAsg, bTup, bTps, mApp, tupD, lstD, mRev, revD, ofs_inj, ee_ii, ee_ss, ee_bb, ee_nn, ee_is, ee_si, ee_in, ee_ni, ee_tt, ee_ll, ee_maps, ee_0, ee_1, ee_2, ee_3, at_lit, at_nat, at_m1, at_m2, scD, emD, sizeLine_eq, ixN, sm_lit, mSrc, itemsD, plOf, rng1D, bNm, mSl, mPt, mNoP, slD, mPar, keepT, tmsO, setA, mFlow, zipX, enumX, itemsX, intsOf, ints_all, boolsOf, shaped_lay, lay_int, lay_bool, lay_none, lay_dict, lay_tup, lay_list, lay_ints, sortX_ints, mPlF, mPlI, mRd, mPU, mPB, mFSet, mFNew, mNSet, mPApp, mPSetIx, mPPop, mMeth, mNew, isIns, cellO, mLstN, mAddN, mAppN, semX, mTold, mCallX, xRet, xExpr, xSet, mRaise, mM, isL, isS, mOrV, truD, mLc, lcL, sameC, wipeC, restC, mYes, *])
local macro_rules | `(tactic| walk_at "ef") => `(tactic| simp [semF, shared, after, mSeq, mSkip, mIf, mRet, mRetN, mRetV, mSet, mSetIx, mExpr, mB, mU, mTm, mPl, mK, mVar, mOp, mCons, mNil, bor, bors, mTst, mAndT, mOrT, mNotT, mAndE, mOrE, mNotE, mIfE, mIsi, isiD, mChn, chnL, cmpD, binD, addD, subD, mulD, modD, fdivD, powD, eqD, neD, ltD, leD, gtD, geD, isD, isnD, L2.M.isNon, negD, ixD, Bf.f, Bg.f, lenD, L2.M.intD, maxD, minD, repD, strD, gmaxD, gminD, sumD, sortD, anyD, allD, mCall, frz, fzO, lend, wb, mTup, mLst, fzs, cD, mAsg, bTup, bTps, mApp, tupD, lstD, mRev, revD, ofs_inj, ee_ii, ee_ss, ee_bb, ee_nn, ee_is, ee_si, ee_in, ee_ni, ee_tt, ee_ll, ee_maps, ee_0, ee_1, ee_2, ee_3, at_lit, at_nat, at_m1, at_m2, scD, emD, sizeLine_eq, ixN, sm_lit, mSrc, itemsD, plOf, rng1D, bNm, mSl, mPt, mNoP, slD, mPar, keepT, tmsO, setA, mFlow, zipX, enumX, itemsX, intsOf, ints_all, boolsOf, shaped_lay, lay_int, lay_bool, lay_none, lay_dict, lay_tup, lay_list, lay_ints, sortX_ints, mPlF, mPlI, mRd, mPU, mPB, mFSet, mFNew, mNSet, mPApp, mPSetIx, mPPop, mMeth, mNew, isIns, cellO, mLstN, mAddN, mAppN, semX, mTold, mCallX, xRet, xExpr, xSet, mRaise, mM, isL, isS, mOrV, truD, mFor, forL, mLc, lcL, sameC, wipeC, restC, mYes, *])
local macro_rules | `(tactic| walk_at "rg") => `(tactic| (and_intros <;> grind))
local macro_rules | `(tactic| walk_at "nx") => `(tactic| (apply wx_nx; focus (walk_at "ev"; try first | exact ⟨rfl, rfl⟩ | rfl)))
local macro_rules | `(tactic| walk_at "ns") => `(tactic| (apply wx_nx; focus (walk_at "es"; try first | exact ⟨rfl, rfl⟩ | rfl)))
local macro_rules | `(tactic| walk_at "rt") => `(tactic| (apply wx_rt; focus (walk_at "ev"; try first | exact ⟨rfl, rfl⟩ | rfl)))
local macro_rules | `(tactic| walk_at "rs") => `(tactic| (apply wx_rt; focus (walk_at "es"; try first | exact ⟨rfl, rfl⟩ | rfl)))
local macro_rules | `(tactic| walk_at "ed") => `(tactic| simp [semF, shared, after, mSeq, mSkip, mIf, mRet, mRetN, mRetV, mSet, mSetIx, mExpr, mB, mU, mTm, mPl, mK, mVar, mOp, mCons, mNil, bor, bors, mTst, mAndT, mOrT, mNotT, mAndE, mOrE, mNotE, mIfE, mIsi, isiD, mChn, chnL, cmpD, binD, addD, subD, mulD, modD, fdivD, powD, eqD, neD, ltD, leD, gtD, geD, isD, isnD, L2.M.isNon, negD, ixD, Bf.f, Bg.f, lenD, L2.M.intD, maxD, minD, repD, strD, gmaxD, gminD, sumD, sortD, anyD, allD, mCall, frz, fzO, lend, wb, mTup, mLst, fzs, cD, mAsg, bTup, bTps, mApp, tupD, lstD, mRev, revD, ofs_inj, ee_ii, ee_ss, ee_bb, ee_nn, ee_is, ee_si, ee_in, ee_ni, ee_tt, ee_ll, ee_maps, ee_0, ee_1, ee_2, ee_3, at_lit, at_nat, at_m1, at_m2, scD, emD, sizeLine_eq, ixN, sm_lit, mSrc, itemsD, plOf, rng1D, bNm, mSl, mPt, mNoP, slD, mPar, keepT, tmsO, setA, mFlow, zipX, enumX, itemsX, intsOf, ints_all, boolsOf, shaped_lay, lay_int, lay_bool, lay_none, lay_dict, lay_tup, lay_list, lay_ints, sortX_ints, mPlF, mPlI, mRd, mPU, mPB, mFSet, mFNew, mNSet, mPApp, mPSetIx, mPPop, mMeth, mNew, isIns, cellO, mLstN, mAddN, mAppN, semX, mTold, mCallX, xRet, xExpr, xSet, mRaise, mM, isL, isS, mOrV, truD, mDNew, mDIn, mDGet, mDLen, mDPut, kyD, mNNew, mN1, mTake, mFnV, mCallF, mNIn, mNGet, mNPut, mNVals, mNList, nKs, mDGetD, mDList, mNNe, *])
def Rf (z : Pz) (M t : Nat) (c : Int) : Int := if t ≤ M then gr z c (M - t) else 0
def fo (z : Pz) (M t : Nat) (c : Int) : Int := if t < M then pin z c else c
structure InvB (z : Pz) (T : Int) (M t : Nat) (K : List (Int × Int)) : Prop where
  nd : (K.map (·.1)).Nodup
  sd : ∀ e ∈ K, (0 ≤ e.1 ∧ e.1 ≤ z.c) ∧ 0 ≤ e.2 ∧ e.2 + Rf z M t e.1 ≤ T
  bs : ∃ e ∈ K, e.2 + Rf z M t e.1 = T
structure InvS (z : Pz) (T : Int) (M t : Nat) (S : List (Int × Int)) : Prop where
  nd : (S.map (·.1)).Nodup
  sd : ∀ e ∈ S, (0 ≤ e.1 ∧ e.1 ≤ z.c) ∧ 0 ≤ e.2 ∧ e.2 + Rf z M (t + 1) (fo z M t e.1) ≤ T
section
variable {z : Pz} (h : z.Ok) {T : Int} {M t : Nat} {K S : List (Int × Int)}
include h
theorem kr_le {c k : Int} (h0 : 0 ≤ c) (hk : 0 ≤ k) (hk2 : k ≤ c / z.r) : 0 ≤ c - k * z.r ∧ c - k * z.r ≤ c := by
  have hr := h.r0
  have e1 := Int.emod_add_mul_ediv c z.r
  have b1 := md_b h c
  have h1 : k * z.r ≤ (c / z.r) * z.r := Int.mul_le_mul_of_nonneg_right hk2 (by omega)
  have h2 : 0 ≤ k * z.r := Int.mul_nonneg hk (by omega)
  rw [Int.mul_comm (c / z.r) z.r] at h1
  omega
theorem sound_1 (ht : t ≤ M) {c v k : Int} (hc : 0 ≤ c) (hv : v + Rf z M t c ≤ T) (hk : 0 ≤ k) (hk2 : k ≤ c / z.r) : v + k + Rf z M (t + 1) (fo z M t (c - k * z.r)) ≤ T := by
  unfold Rf fo at *
  rw [if_pos ht] at hv
  by_cases q : t < M
  · rw [if_pos (by omega), if_pos q]
    have := gr_best h hc hk hk2 (M - (t + 1))
    rw [show M - (t + 1) + 1 = M - t by omega] at this
    omega
  · rw [if_neg (by omega)]
    rw [show M - t = 0 by omega, gr] at hv
    omega
theorem best_1 (ht : t ≤ M) (c v : Int) : v + c / z.r + Rf z M (t + 1) (fo z M t (c % z.r)) = v + Rf z M t c := by
  unfold Rf fo
  rw [if_pos ht]
  by_cases q : t < M
  · rw [if_pos (by omega), if_pos q]
    obtain ⟨m, hm⟩ : ∃ m, M - t = m + 1 := ⟨M - t - 1, by omega⟩
    rw [hm, gr, show M - (t + 1) = m by omega]
    omega
  · rw [if_neg (by omega), show M - t = 0 by omega, gr]
    omega
theorem invS_len (hS : InvS z T M t S) : S.length ≤ 10001 := keys_len hS.nd fun e he => by
  have := (hS.sd e he).1
  have := h.c1
  omega
end
/-- the first dict -/
def k0 (S : List Int) : List (Int × Int) := S.foldl (fun E c => ptE E c 0) []
theorem k0_of (S : List Int) : ∀ E : List (Int × Int), (E.map (·.1)).Nodup → (∀ e ∈ E, e.2 = 0) → ((S.foldl (fun E c => ptE E c 0) E).map (·.1)).Nodup ∧ (∀ e ∈ S.foldl (fun E c => ptE E c 0) E, e.2 = 0 ∧ (e ∈ E ∨ e.1 ∈ S)) ∧ (∀ e ∈ E, e ∈ S.foldl (fun E c => ptE E c 0) E) ∧ ∀ c ∈ S, (c, 0) ∈ S.foldl (fun E c => ptE E c 0) E := by
  induction S with
  | nil => intro E hn h0; exact ⟨hn, fun e he => ⟨h0 e he, .inl he⟩, fun e he => he, fun c hc => by cases hc⟩
  | cons s S ih =>
    intro E hn h0
    obtain ⟨i1, i2, i3, i4⟩ := ih (ptE E s 0) (ptE_nd hn _ _) (fun e he => by
      rcases ptE_mem he with rfl | ⟨he, _⟩
      · rfl
      · exact h0 e he)
    refine ⟨i1, fun e he => ?_, fun e he => ?_, fun c hc => ?_⟩
    · obtain ⟨j1, j2⟩ := i2 e he
      refine ⟨j1, ?_⟩
      rcases j2 with j2 | j2
      · rcases ptE_mem j2 with rfl | ⟨j2, _⟩
        · exact .inr List.mem_cons_self
        · exact .inl j2
      · exact .inr (List.mem_cons_of_mem _ j2)
    · by_cases q : e.1 = s
      · have : e = (s, 0) := Prod.ext q (h0 e he)
        rw [this]
        exact i3 _ (ptE_has _ _ _)
      · exact i3 _ (ptE_old he q)
    · rcases List.mem_cons.mp hc with rfl | hc
      · exact i3 _ (ptE_has _ _ _)
      · exact i4 c hc
theorem k0_inv {z : Pz} {T : Int} {M : Nat} {S : List Int} (hb : ∀ s ∈ S, 0 ≤ s ∧ s ≤ z.c) (h1 : ∀ s ∈ S, gr z s M ≤ T) (h2 : ∃ s ∈ S, gr z s M = T) : InvB z T M 0 (k0 S) := by
  obtain ⟨i1, i2, i3, i4⟩ := k0_of S [] (by simp) (fun e he => by cases he)
  refine ⟨i1, fun e he => ?_, ?_⟩
  · obtain ⟨j1, j2⟩ := i2 e he
    rcases j2 with j2 | j2
    · cases j2
    · refine ⟨hb _ j2, by omega, ?_⟩
      have := h1 _ j2
      unfold Rf
      rw [if_pos (by omega), Nat.sub_zero]
      omega
  · obtain ⟨s, hs, e⟩ := h2
    refine ⟨_, i4 s hs, ?_⟩
    unfold Rf
    rw [if_pos (by omega), Nat.sub_zero]
    dsimp only
    omega
theorem lb_0 {Z : PyData} {c2 : C} {S : List Int} (hl : S.length ≤ 20000) (c1 : C) (h1 : c1 = .ls (S.map .int) ∨ c1 = .sh (.list (S.map .int))) : (mSet [0, 1, 2] 3 (mDOf (mCons (mTm (mLc (mSrc itemsD (mCons (mTm (mVar 1)) mNil)) (bNm 4) (mYes) (mTup (mCons (mPl 4) (mCons (mTm (mK (.int 0))) (mNil)))) [4])) (mNil)))) [.sh Z, c1, c2, .no, .no, .no, .no, .no, .no, .no] = some (.nx, [.sh Z, .sh (.list (S.map .int)), c2, dI (k0 S), .no, .no, .no, .no, .no, .no]) := by
  have e1 : (mLc (mSrc itemsD (mCons (mTm (mVar 1)) mNil)) (bNm 4) (mYes) (mTup (mCons (mPl 4) (mCons (mTm (mK (.int 0))) (mNil)))) [4]) [.sh Z, c1, c2, .no, .no, .no, .no, .no, .no, .no] = some (.ls (S.map fun s => .tuple [.int s, .int 0]), [.sh Z, .sh (.list (S.map .int)), c2, .no, .no, .no, .no, .no, .no, .no]) := by
    refine mLc_enc PyData.int (fun s => .tuple [.int s, .int 0]) (xs := S) (i := 4) (c0 := .no) (ws := []) (ε1 := [.sh Z, .sh (.list (S.map .int)), c2, .no, .no, .no, .no, .no, .no, .no]) ?_ rfl (fun s _ => ⟨.sh (.tuple [.int s, .int 0]), by walk_at "ev", rfl⟩) (by rw [sizeLine_eq]; omega)
    refine src_items (c := .sh (.list (S.map .int))) ?_ (.inr (.inl rfl))
    generalize S.map PyData.int = Y at *
    rcases h1 with rfl | rfl <;> rfl
  have e2 : prsD (S.map fun s => PyData.tuple [.int s, .int 0]) = some (S.map fun s => (.int s, .int 0)) := by
    clear e1 hl h1
    induction S with
    | nil => rfl
    | cons s S ih => simp [prsD, kyD, ih]
  have e3 : dOf (S.map fun s => (PyData.int s, PyData.int 0)) = kdE .int (k0 S) := by
    have key : ∀ (S : List Int) (E : List (Int × Int)), (S.map fun s => (PyData.int s, PyData.int 0)).foldl (fun a p => dPt a p.1 p.2) (kdE .int E) = kdE .int (S.foldl (fun E c => ptE E c 0) E) := by
      intro S
      induction S with
      | nil => intro E; rfl
      | cons s S ih =>
        intro E
        rw [List.map_cons, List.foldl_cons, List.foldl_cons, ← ih, ← dPt_int]
    exact key S []
  have e4 : mDOf (mCons (mTm ((mLc (mSrc itemsD (mCons (mTm (mVar 1)) mNil)) (bNm 4) (mYes) (mTup (mCons (mPl 4) (mCons (mTm (mK (.int 0))) (mNil)))) [4]))) (mNil)) [.sh Z, c1, c2, .no, .no, .no, .no, .no, .no, .no] = some (dI (k0 S), [.sh Z, .sh (.list (S.map .int)), c2, .no, .no, .no, .no, .no, .no, .no]) := by
    unfold mDOf dI
    rw [← e3]
    generalize mLc _ _ _ _ _ = ML at *
    simp [mCons, mTm, mNil, e1, bors, bor, cD, e2]
  exact e_set e4 (by simp) (by simp)
theorem law_best_eq {z : Pz} (h : z.Ok) {S : List Int} (hl : S.length ≤ 20000) {M : Nat} (hM : M ≤ 1000) {T : Int} (hb : ∀ s ∈ S, 0 ≤ s ∧ s ≤ z.c) (h1 : ∀ s ∈ S, gr z s M ≤ T) (h2 : ∃ s ∈ S, gr z s M = T) (c1 : C) (hc1 : c1 = .ls (S.map .int) ∨ c1 = .sh (.list (S.map .int))) : g_law_best [.sh z.d, c1, .sh (.int (M : Int))] = some (.sh (.int T), [.sh z.d, .sh (.list (S.map .int)), .sh (.int (M : Int))]) := by
  have hr := h.r0
  have hr1 := h.r1
  have hsr : sm z.r := ⟨by omega, by omega⟩
  apply rt_eq
  unfold g_law_best m_law_best
  apply rt_sem (by rcases hc1 with rfl | rfl <;> rfl)
  apply wx_nx (lb_0 hl c1 hc1)
  have hI0 := k0_inv (z := z) (M := M) hb h1 h2
  generalize k0 S = K0 at *
  generalize PyData.list (S.map .int) = L
  clear hb h1 h2 hc1 hl
  apply wx_seq
  apply wx_rngn (n := M + 1) (ε1 := [.sh z.d, .sh L, .sh (.int (M : Int)), dI K0, .no, .no, .no, .no, .no, .no]) fun t ε => ∃ (K : List (Int × Int)) (c4 c5 c6 c7 c8 c9 : C), InvB z T M t K ∧ ε = [.sh z.d, .sh L, .sh (.int (M : Int)), dI K, c4, c5, c6, c7, c8, c9]
  · refine src_f (d := .int ((M + 1 : Nat) : Int)) ?_ (rng_nat (by omega))
    have e : ((M + 1 : Nat) : Int) = (M : Int) + 1 := by omega
    rw [e]
    generalize (M : Int) = m
    generalize dI K0 = D
    generalize z.d = Z
    clear hI0 e hM h
    walk_at "ev"
  · exact ⟨K0, _, _, _, _, _, _, hI0, rfl⟩
  · rintro t ht ε ⟨K, c4, c5, c6, c7, c8, c9, hK, rfl⟩
    refine ⟨[.sh z.d, .sh L, .sh (.int (M : Int)), dI K, c4, .sh (.int (t : Int)), c6, c7, c8, c9], rfl, ?_⟩
    apply wx_nx (ε1 := [.sh z.d, .sh L, .sh (.int (M : Int)), dI K, c4, .sh (.int (t : Int)), dI [], c7, c8, c9])
    · rfl
    apply wx_seq
    apply wx_for (ds := K.map fun e => PyData.int e.1) (ws := []) (ε1 := [.sh z.d, .sh L, .sh (.int (M : Int)), fI K, c4, .sh (.int (t : Int)), dI [], c7, c8, c9]) fun i ε => ∃ (S : List (Int × Int)) (c4 c7 c8 c9 : C), InvS z T M t S ∧ (∀ j (hj : j < K.length), j < i → Cov S (K[j].1 % z.r) (K[j].2 + K[j].1 / z.r)) ∧ ε = [.sh z.d, .sh L, .sh (.int (M : Int)), fI K, c4, .sh (.int (t : Int)), dI S, c7, c8, c9]
    · exact src_dk K rfl
    · rfl
    · exact ⟨[], _, _, _, _, ⟨by simp, fun e he => by cases he⟩, fun j _ hj => by omega, rfl⟩
    · intro i ε _ j hj
      cases hj
    · rintro i d ε hd ⟨S, c4, c7, c8, c9, hS, hcov, rfl⟩
      rw [List.getElem?_map] at hd
      obtain ⟨e, he, rfl⟩ := Option.map_eq_some_iff.mp hd
      obtain ⟨hi, hei⟩ := List.getElem?_eq_some_iff.mp he
      have hem := List.mem_of_getElem? he
      obtain ⟨⟨b0, b1⟩, b2, b3⟩ := hK.sd e hem
      have hv : lkE K e.1 = some e.2 := lkE_mem hK.nd hem
      have hc1 := h.c1
      refine ⟨[.sh z.d, .sh L, .sh (.int (M : Int)), fI K, .sh (.int e.1), .sh (.int (t : Int)), dI S, c7, c8, c9], rfl, ?_⟩
      have hq0 : 0 ≤ e.1 / z.r := Int.ediv_nonneg b0 (by omega)
      have hq1 : e.1 / z.r ≤ e.1 := Int.ediv_le_self _ b0
      apply wx_seq
      apply wx_rngn (n := (e.1 / z.r + 1).toNat) (ε1 := [.sh z.d, .sh L, .sh (.int (M : Int)), fI K, .sh (.int e.1), .sh (.int (t : Int)), dI S, c7, c8, c9]) fun k ε => ∃ (S : List (Int × Int)) (c7 c8 : C), InvS z T M t S ∧ (∀ j (hj : j < K.length), j < i → Cov S (K[j].1 % z.r) (K[j].2 + K[j].1 / z.r)) ∧ (∀ j : Nat, j < k → Cov S (e.1 - j * z.r) (e.2 + j)) ∧ ε = [.sh z.d, .sh L, .sh (.int (M : Int)), fI K, .sh (.int e.1), .sh (.int (t : Int)), dI S, c7, c8, c9]
      · exact lb_s (by omega) hsr b0 (by omega)
      · exact ⟨S, _, _, hS, hcov, fun j hj => by omega, rfl⟩
      · rintro k hk ε ⟨S, c7, c8, hS, hcov, hin, rfl⟩
        refine ⟨[.sh z.d, .sh L, .sh (.int (M : Int)), fI K, .sh (.int e.1), .sh (.int (t : Int)), dI S, .sh (.int (k : Int)), c8, c9], rfl, ?_⟩
        have hk2 : (k : Int) ≤ e.1 / z.r := by omega
        have hSl := invS_len h hS
        apply wx_nx (lb_1 ⟨by omega, by omega⟩ hsr)
        apply wx_nx (lb_2 hv (by omega))
        have hb2 := kr_le h b0 (Int.natCast_nonneg k) hk2
        refine wx_skip ⟨_, _, _, ⟨up_nd hS.nd _ _, ?_⟩, fun j hj hji => up_old hS.nd _ _ (hcov j hj hji), fun j hj => ?_, rfl⟩
        · exact up_sound (P := fun a b => (0 ≤ a ∧ a ≤ z.c) ∧ 0 ≤ b ∧ b + Rf z M (t + 1) (fo z M t a) ≤ T) hS.sd ⟨⟨hb2.1, by omega⟩, by omega, sound_1 h (by omega) b0 b3 (Int.natCast_nonneg k) hk2⟩ (by omega)
        · by_cases c : j = k
          · subst c
            exact up_cov _ _
          · exact up_old hS.nd _ _ (hin j (by omega))
      · rintro ε ⟨S, c7, c8, hS, hcov, hin, rfl⟩
        refine wx_skip ⟨S, _, _, _, _, hS, fun j hj hji => ?_, rfl⟩
        by_cases c : j = i
        · subst c
          have e1 := hin (e.1 / z.r).toNat (by omega)
          have e2 : (((e.1 / z.r).toNat : Nat) : Int) = e.1 / z.r := by omega
          rw [e2] at e1
          have e3 : e.1 - e.1 / z.r * z.r = e.1 % z.r := by
            have := Int.emod_add_mul_ediv e.1 z.r
            rw [Int.mul_comm]
            omega
          rw [e3] at e1
          rw [hei]
          exact e1
        · exact hcov j hj (by omega)
    · rintro ε ⟨S, c4, c7, c8, c9, hS, hcov, rfl⟩
      rw [List.length_map] at hcov
      have hbest : ∃ e ∈ S, e.2 + Rf z M (t + 1) (fo z M t e.1) = T := by
        obtain ⟨e, he, e2⟩ := hK.bs
        obtain ⟨j, hj, rfl⟩ := List.mem_iff_getElem.mp he
        obtain ⟨w, hw, hle⟩ := hcov j hj hj
        have := (hS.sd _ hw).2.2
        have e3 := best_1 h (by omega : t ≤ M) K[j].1 K[j].2
        refine ⟨_, hw, ?_⟩
        dsimp only at this ⊢
        omega
      clear hcov hK
      apply wx_nx (ε1 := [.sh z.d, .sh L, .sh (.int (M : Int)), dI [], c4, .sh (.int (t : Int)), dI S, c7, c8, c9])
      · rfl
      apply wx_seq
      apply wx_for (ds := S.map fun e => PyData.int e.1) (ws := []) (ε1 := [.sh z.d, .sh L, .sh (.int (M : Int)), dI [], c4, .sh (.int (t : Int)), fI S, c7, c8, c9]) fun i ε => ∃ (K : List (Int × Int)) (c4 c9 : C), ((K.map (·.1)).Nodup ∧ ∀ e ∈ K, (0 ≤ e.1 ∧ e.1 ≤ z.c) ∧ 0 ≤ e.2 ∧ e.2 + Rf z M (t + 1) e.1 ≤ T) ∧ (∀ j (hj : j < S.length), j < i → Cov K (fo z M t S[j].1) S[j].2) ∧ ε = [.sh z.d, .sh L, .sh (.int (M : Int)), dI K, c4, .sh (.int (t : Int)), fI S, c7, c8, c9]
      · exact src_dk S rfl
      · rfl
      · exact ⟨[], _, _, ⟨by simp, fun e he => by cases he⟩, fun j _ hj => by omega, rfl⟩
      · intro i ε _ j hj
        cases hj
      · rintro i d ε hd ⟨K, c4, c9, ⟨hn, hs⟩, hcov, rfl⟩
        rw [List.getElem?_map] at hd
        obtain ⟨e, he, rfl⟩ := Option.map_eq_some_iff.mp hd
        obtain ⟨hi, hei⟩ := List.getElem?_eq_some_iff.mp he
        have hem := List.mem_of_getElem? he
        obtain ⟨⟨b0, b1⟩, b2, b3⟩ := hS.sd e hem
        have hv : lkE S e.1 = some e.2 := lkE_mem hS.nd hem
        have hKl : K.length ≤ 10001 := keys_len hn fun e he => by
          have := (hs e he).1
          have := h.c1
          omega
        refine ⟨[.sh z.d, .sh L, .sh (.int (M : Int)), dI K, .sh (.int e.1), .sh (.int (t : Int)), fI S, c7, c8, c9], rfl, ?_⟩
        have e9 := lb_3 (p := z.p) (r := z.r) (q := z.c) (f := z.f) (c := e.1) (t := (t : Int)) (M := (M : Int)) (c1 := .sh L) (c3 := dI K) (c6 := fI S) (c7 := c7) (c8 := c8) (c9 := c9)
        have ef : (if (t : Int) < (M : Int) then (if e.1 + z.p < z.c then e.1 + z.p else z.c) else e.1) = fo z M t e.1 := by
          unfold fo pin
          by_cases q : t < M
          · rw [if_pos q, if_pos (by omega)]
          · rw [if_neg q, if_neg (by omega)]
        rw [ef] at e9
        apply wx_nx e9
        apply wx_nx (lb_4 hv (by omega))
        have hfb : 0 ≤ fo z M t e.1 ∧ fo z M t e.1 ≤ z.c := by
          unfold fo
          split
          · have := pin_b h b0
            omega
          · omega
        refine wx_skip ⟨_, _, _, ⟨up_nd hn _ _, ?_⟩, fun j hj hji => ?_, rfl⟩
        · exact up_sound (P := fun a b => (0 ≤ a ∧ a ≤ z.c) ∧ 0 ≤ b ∧ b + Rf z M (t + 1) a ≤ T) hs ⟨hfb, b2, b3⟩ b2
        · by_cases c : j = i
          · subst c
            rw [hei]
            exact up_cov _ _
          · exact up_old hn _ _ (hcov j hj (by omega))
      · rintro ε ⟨K, c4, c9, ⟨hn, hs⟩, hcov, rfl⟩
        rw [List.length_map] at hcov
        refine wx_skip ⟨K, _, _, _, _, _, _, ⟨hn, hs, ?_⟩, rfl⟩
        obtain ⟨e, he, e2⟩ := hbest
        obtain ⟨j, hj, rfl⟩ := List.mem_iff_getElem.mp he
        obtain ⟨w, hw, hle⟩ := hcov j hj hj
        have := (hs _ hw).2.2
        refine ⟨_, hw, ?_⟩
        dsimp only at this ⊢
        omega
  · rintro ε ⟨K, c4, c5, c6, c7, c8, c9, hK, rfl⟩
    have hR : ∀ c, Rf z M (M + 1) c = 0 := fun c => by unfold Rf; rw [if_neg (by omega)]
    have hm : gmaxD [.list ((K.map (·.2)).map .int)] = some (.sh (.int T)) := by
      refine max_is ?_ fun x hx => ?_
      · obtain ⟨e, he, e2⟩ := hK.bs
        rw [hR] at e2
        exact List.mem_map.mpr ⟨e, he, by omega⟩
      · obtain ⟨e, he, rfl⟩ := List.mem_map.mp hx
        have := (hK.sd e he).2.2
        rw [hR] at this
        omega
    refine wx_rt (e_ret (e_op1 (lb_v K (i := 3) (ε := [.sh z.d, .sh L, .sh (.int (M : Int)), dI K, c4, c5, c6, c7, c8, c9]) rfl) rfl hm)) ⟨rfl, rfl⟩
end KW
namespace KW
open PySem PySem.Spec PyProof.Rows L2 L2.M
local macro_rules | `(tactic| walk_at "ev") => `(tactic| simp [semF, shared, after, mSeq, mSkip, mIf, mRet, mRetN, mRetV, mSet, mSetIx, mExpr, mB, mU, mTm, mPl, mK, mVar, mOp, mCons, mNil, bor, bors, mTst, mAndT, mOrT, mNotT, mAndE, mOrE, mNotE, mIfE, mIsi, isiD, mChn, chnL, cmpD, binD, addD, subD, mulD, modD, fdivD, powD, eqD, neD, ltD, leD, gtD, geD, isD, isnD, L2.M.isNon, negD, ixD, Bf.f, Bg.f, lenD, L2.M.intD, maxD, minD, repD, strD, gmaxD, gminD, sumD, sortD, anyD, allD, mCall, frz, fzO, lend, wb, mTup, mLst, fzs, cD, mAsg, bTup, bTps, mApp, tupD, lstD, mRev, revD, ofs_inj, ee_ii, ee_ss, ee_bb, ee_nn, ee_is, ee_si, ee_in, ee_ni, ee_tt, ee_ll, ee_maps, ee_0, ee_1, ee_2, ee_3, at_lit, at_nat, at_m1, at_m2, scD, emD, sizeLine_eq, ixN, sm_lit, mSrc, itemsD, plOf, rng1D, bNm, mSl, mPt, mNoP, slD, mPar, keepT, tmsO, setA, mFlow, zipX, enumX, itemsX, intsOf, ints_all, boolsOf, shaped_lay, lay_int, lay_bool, lay_none, lay_dict, lay_tup, lay_list, lay_ints, sortX_ints, mPlF, mPlI, mRd, mPU, mPB, mFSet, mFNew, mNSet, mPApp, mPSetIx, mPPop, mMeth, mNew, isIns, cellO, mLstN, mAddN, mAppN, semX, mTold, mCallX, xRet, xExpr, xSet, mRaise, mM, isL, isS, mOrV, truD])
local macro_rules | `(tactic| walk_at "es") => `(tactic| simp [semF, shared, after, mSeq, mSkip, mIf, mRet, mRetN, mRetV, mSet, mSetIx, mExpr, mB, mU, mTm, mPl, mK, mVar, mOp, mCons, mNil, bor, bors, mTst, mAndT, mOrT, mNotT, mAndE, mOrE, mNotE, mIfE, mIsi, isiD, mChn, chnL, cmpD, binD, addD, subD, mulD, modD, fdivD, powD, eqD, neD, ltD, leD, gtD, geD, isD, isnD, L2.M.isNon, negD, ixD, Bf.f, Bg.f, lenD, L2.M.intD, maxD, minD, repD, strD, gmaxD, gminD, sumD, sortD, anyD, allD, mCall, frz, fzO, lend, wb, mTup, mLst, fzs, cD, mAsg, bTup, bTps, mApp, tupD, lstD, mRev, revD, ofs_inj, ee_ii, ee_ss, ee_bb, ee_nn, ee_is, ee_si, ee_in, ee_ni, ee_tt, ee_ll, ee_maps, ee_0, ee_1, ee_2, ee_3, at_lit, at_nat, at_m1, at_m2, scD, emD, sizeLine_eq, ixN, sm_lit, mSrc, itemsD, plOf, rng1D, bNm, mSl, mPt, mNoP, slD, mPar, keepT, tmsO, setA, mFlow, zipX, enumX, itemsX, intsOf, ints_all, boolsOf, shaped_lay, lay_int, lay_bool, lay_none, lay_dict, lay_tup, lay_list, lay_ints, sortX_ints, mPlF, mPlI, mRd, mPU, mPB, mFSet, mFNew, mNSet, mPApp, mPSetIx, mPPop, mMeth, mNew, isIns, cellO, mLstN, mAddN, mAppN, semX, mTold, mCallX, xRet, xExpr, xSet, mRaise, mM, isL, isS, mOrV, truD, *])
local macro_rules | `(tactic| walk_at "el") => `(tactic| simp [semF, shared, after, mSeq, mSkip, mIf, mRet, mRetN, mRetV, mSet, mSetIx, mExpr, mB, mU, mTm, mPl, mK, mVar, mOp, mCons, mNil, bor, bors, mTst, mAndT, mOrT, mNotT, mAndE, mOrE, mNotE, mIfE, mIsi, isiD, mChn, chnL, cmpD, binD, addD, subD, mulD, modD, fdivD, powD, eqD, neD, ltD, leD, gtD, geD, isD, isnD, L2.M.isNon, negD, ixD, Bf.f, Bg.f, lenD, L2.M.intD, maxD, minD, repD, strD, gmaxD, gminD, sumD, sortD, anyD, allD, mCall, frz, fzO, lend, wb, mTup, mLst, fzs, cD, mAsg, bTup, bTps, mApp, tupD, lstD, mRev, revD, ofs_inj, ee_ii, ee_ss, ee_bb, ee_nn, ee_is, ee_si, ee_in, ee_ni, ee_tt, ee_ll, ee_maps, ee_0, ee_1, ee_2, ee_3, at_lit, at_nat, at_m1, at_m2, scD, emD, sizeLine_eq, ixN, sm_lit, mSrc, itemsD, plOf, rng1D, bNm, mSl, mPt, mNoP, slD, mPar, keepT, tmsO, setA, mFlow, zipX, enumX, itemsX, intsOf, ints_all, boolsOf, shaped_lay, lay_int, lay_bool, lay_none, lay_dict, lay_tup, lay_list, lay_ints, sortX_ints, mPlF, mPlI, mRd, mPU, mPB, mFSet, mFNew, mNSet, mPApp, mPSetIx, mPPop, mMeth, mNew, isIns, cellO, mLstN, mAddN, mAppN, semX, mTold, mCallX, xRet, xExpr, xSet, mRaise, mM, isL, isS, mOrV, truD, mLc, lcL, sameC, wipeC, restC, mYes, *])
local macro_rules | `(tactic| walk_at "ef") => `(tactic| simp [semF, shared, after, mSeq, mSkip, mIf, mRet, mRetN, mRetV, mSet, mSetIx, mExpr, mB, mU, mTm, mPl, mK, mVar, mOp, mCons, mNil, bor, bors, mTst, mAndT, mOrT, mNotT, mAndE, mOrE, mNotE, mIfE, mIsi, isiD, mChn, chnL, cmpD, binD, addD, subD, mulD, modD, fdivD, powD, eqD, neD, ltD, leD, gtD, geD, isD, isnD, L2.M.isNon, negD, ixD, Bf.f, Bg.f, lenD, L2.M.intD, maxD, minD, repD, strD, gmaxD, gminD, sumD, sortD, anyD, allD, mCall, frz, fzO, lend, wb, mTup, mLst, fzs, cD, mAsg, bTup, bTps, mApp, tupD, lstD, mRev, revD, ofs_inj, ee_ii, ee_ss, ee_bb, ee_nn, ee_is, ee_si, ee_in, ee_ni, ee_tt, ee_ll, ee_maps, ee_0, ee_1, ee_2, ee_3, at_lit, at_nat, at_m1, at_m2, scD, emD, sizeLine_eq, ixN, sm_lit, mSrc, itemsD, plOf, rng1D, bNm, mSl, mPt, mNoP, slD, mPar, keepT, tmsO, setA, mFlow, zipX, enumX, itemsX, intsOf, ints_all, boolsOf, shaped_lay, lay_int, lay_bool, lay_none, lay_dict, lay_tup, lay_list, lay_ints, sortX_ints, mPlF, mPlI, mRd, mPU, mPB, mFSet, mFNew, mNSet, mPApp, mPSetIx, mPPop, mMeth, mNew, isIns, cellO, mLstN, mAddN, mAppN, semX, mTold, mCallX, xRet, xExpr, xSet, mRaise, mM, isL, isS, mOrV, truD, mFor, forL, mLc, lcL, sameC, wipeC, restC, mYes, *])
local macro_rules | `(tactic| walk_at "rg") => `(tactic| (and_intros <;> grind))
local macro_rules | `(tactic| walk_at "nx") => `(tactic| (apply wx_nx; focus (walk_at "ev"; try first | exact ⟨rfl, rfl⟩ | rfl)))
local macro_rules | `(tactic| walk_at "ns") => `(tactic| (apply wx_nx; focus (walk_at "es"; try first | exact ⟨rfl, rfl⟩ | rfl)))
local macro_rules | `(tactic| walk_at "rt") => `(tactic| (apply wx_rt; focus (walk_at "ev"; try first | exact ⟨rfl, rfl⟩ | rfl)))
local macro_rules | `(tactic| walk_at "rs") => `(tactic| (apply wx_rt; focus (walk_at "es"; try first | exact ⟨rfl, rfl⟩ | rfl)))
local macro_rules | `(tactic| walk_at "ed") => `(tactic| simp [semF, shared, after, mSeq, mSkip, mIf, mRet, mRetN, mRetV, mSet, mSetIx, mExpr, mB, mU, mTm, mPl, mK, mVar, mOp, mCons, mNil, bor, bors, mTst, mAndT, mOrT, mNotT, mAndE, mOrE, mNotE, mIfE, mIsi, isiD, mChn, chnL, cmpD, binD, addD, subD, mulD, modD, fdivD, powD, eqD, neD, ltD, leD, gtD, geD, isD, isnD, L2.M.isNon, negD, ixD, Bf.f, Bg.f, lenD, L2.M.intD, maxD, minD, repD, strD, gmaxD, gminD, sumD, sortD, anyD, allD, mCall, frz, fzO, lend, wb, mTup, mLst, fzs, cD, mAsg, bTup, bTps, mApp, tupD, lstD, mRev, revD, ofs_inj, ee_ii, ee_ss, ee_bb, ee_nn, ee_is, ee_si, ee_in, ee_ni, ee_tt, ee_ll, ee_maps, ee_0, ee_1, ee_2, ee_3, at_lit, at_nat, at_m1, at_m2, scD, emD, sizeLine_eq, ixN, sm_lit, mSrc, itemsD, plOf, rng1D, bNm, mSl, mPt, mNoP, slD, mPar, keepT, tmsO, setA, mFlow, zipX, enumX, itemsX, intsOf, ints_all, boolsOf, shaped_lay, lay_int, lay_bool, lay_none, lay_dict, lay_tup, lay_list, lay_ints, sortX_ints, mPlF, mPlI, mRd, mPU, mPB, mFSet, mFNew, mNSet, mPApp, mPSetIx, mPPop, mMeth, mNew, isIns, cellO, mLstN, mAddN, mAppN, semX, mTold, mCallX, xRet, xExpr, xSet, mRaise, mM, isL, isS, mOrV, truD, mDNew, mDIn, mDGet, mDLen, mDPut, kyD, mNNew, mN1, mTake, mFnV, mCallF, mNIn, mNGet, mNPut, mNVals, mNList, nKs, mDGetD, mDList, mNNe, *])
theorem rp_two {a b : Int} (h1 : -(10 ^ 19) < a ∧ a < 10 ^ 19) (h2 : -(10 ^ 19) < b ∧ b < 10 ^ 19) : reprG [.list [.int a, .int b]] = some (.sh (.str (PyData.list [.int a, .int b]).shown)) :=
  reprG_eq (shw_lst (k := 1) (n := 20) (shw_cons (shw_i20 1 h1.1 h1.2) (shw_cons (shw_i20 1 h2.1 h2.2) shw_nil))) (by decide) (by rw [sizeLine_eq]; simp)
theorem lw_2 {sc c1 c5 c6 c7 c8 : C} {P P2 P3 : List PyData} {Z W : PyData} (f1 : g_law_small [.ls P, .sh (.int 30)] = some (.sh Z, [.ls P2, .sh (.int 30)])) (f2 : g_law_purse [.ls P2] = some (.sh W, [.ls P3])) (c3 c4 : C) (h3 : ∃ d, c3 = .sh d ∨ c3 = .no) (h4 : ∃ d, c4 = .sh d ∨ c4 = .no) : (mPar [] [3, 4] (mCons (mTm (mCall [true, true] g_law_small (mCons (mPl 2) (mCons (mTm (mK (.int 30))) (mNil))))) (mCons (mTm (mCall [true] g_law_purse (mCons (mPl 2) (mNil)))) (mNil)))) [sc, c1, .ls P, c3, c4, c5, c6, c7, c8] = some (.nx, [sc, c1, .ls P3, .sh Z, .sh W, c5, c6, c7, c8]) := by
  generalize g_law_small = G1 at *
  generalize g_law_purse = G2 at *
  obtain ⟨d3, rfl | rfl⟩ := h3 <;> obtain ⟨d4, rfl | rfl⟩ := h4 <;> walk_at "es"
theorem lw_3 {sc c1 c3 c4 c7 c8 c5 c6 : C} {P P2 P3 : List PyData} {n a : Int} (f1 : g_law_draw [.ls P, .sh (.int 9)] = some (.sh (.int n), [.ls P2, .sh (.int 9)])) (f2 : g_law_draw [.ls P2, .sh (.int 2001)] = some (.sh (.int a), [.ls P3, .sh (.int 2001)])) : (mPar [] [5, 6] (mCons (mTm (mCall [true, true] g_law_draw (mCons (mPl 2) (mCons (mTm (mK (.int 9))) (mNil))))) (mCons (mTm (mCall [true, true] g_law_draw (mCons (mPl 2) (mCons (mTm (mK (.int 2001))) (mNil))))) (mNil)))) [sc, c1, .ls P, c3, c4, c5, c6, c7, c8] = some (.nx, [sc, c1, .ls P3, c3, c4, .sh (.int n), .sh (.int a), c7, c8]) := by
  generalize g_law_draw = G at *
  walk_at "es"
theorem lw_4 {sc c1 c2 c4 c6 c7 c8 : C} {Z : PyData} {n T : Int} {G : List PyData} (e0 : g_law_comes [.sh Z] = some (.ls G, [.sh Z])) (e : g_law_best [.sh Z, .ls G, .sh (.int n)] = some (.sh (.int T), [.sh Z, .sh (.list G), .sh (.int n)])) : (mSet [] 7 (mCall [true, true, true] g_law_best (mCons (mPl 3) (mCons (mTm (mCall [true] g_law_comes (mCons (mPl 3) (mNil)))) (mCons (mPl 5) (mNil)))))) [sc, c1, c2, .sh Z, c4, .sh (.int n), c6, c7, c8] = some (.nx, [sc, c1, c2, .sh Z, c4, .sh (.int n), c6, .sh (.int T), c8]) := by
  generalize g_law_best = B at *
  generalize g_law_comes = B2 at *
  walk_at "es"
theorem lw_5 {sc c1 c2 c4 c6 c8 : C} {Z : PyData} {n T : Int} (e : g_most_between [.sh Z, .sh (.int n)] = some (.sh (.int T), [.sh Z, .sh (.int n)])) {S : Str} (rp : reprG [.list [.int T, .int T]] = some (.sh (.str S))) : (mIf (mTst (mB (cmpD .NotEq) (mTm (mOp reprG (mCons (mTm (mLst (mCons (mTm (mCall [true, true] g_most_between (mCons (mPl 3) (mCons (mPl 5) (mNil))))) (mCons (mTm (mCall [true, true] g_most_between (mCons (mPl 3) (mCons (mPl 5) (mNil))))) (mNil))))) (mNil)))) (mTm (mOp reprG (mCons (mTm (mLst (mCons (mPl 7) (mCons (mPl 7) (mNil))))) (mNil)))))) (mSeq (mRet (mK (.bool false))) (mSkip)) (mSkip)) [sc, c1, c2, .sh Z, c4, .sh (.int n), c6, .sh (.int T), c8] = some (.nx, [sc, c1, c2, .sh Z, c4, .sh (.int n), c6, .sh (.int T), c8]) := by
  generalize g_most_between = G at *
  generalize reprG = R at *
  walk_at "es"
theorem lw_6 {sc c1 c2 c3 c4 c5 c7 : C} {Z : PyData} {m T U : Int} (e : g_most_between [.sh Z, .sh (.int m)] = some (.sh (.int T), [.sh Z, .sh (.int m)])) (e3 : g_law_soon [.sh Z, .sh (.int m)] = some (.sh (.int T), [.sh Z, .sh (.int m)])) (e4 : g_most_paid [.sh Z, .sh (.int m)] = some (.sh (.int U), [.sh Z, .sh (.int m)])) (h : ¬ T < U) : (mIf (mOrT (mTst (mB (cmpD .NotEq) (mTm (mCall [true, true] g_most_between (mCons (mPl 8) (mCons (mPl 6) (mNil))))) (mTm (mCall [true, true] g_law_soon (mCons (mPl 8) (mCons (mPl 6) (mNil))))))) (mTst (mB (cmpD .Lt) (mTm (mCall [true, true] g_most_between (mCons (mPl 8) (mCons (mPl 6) (mNil))))) (mTm (mCall [true, true] g_most_paid (mCons (mPl 8) (mCons (mPl 6) (mNil)))))))) (mSeq (mRet (mK (.bool false))) (mSkip)) (mSkip)) [sc, c1, c2, c3, c4, c5, .sh (.int m), c7, .sh Z] = some (.nx, [sc, c1, c2, c3, c4, c5, .sh (.int m), c7, .sh Z]) := by
  generalize g_most_between = G at *
  generalize g_law_soon = G2 at *
  generalize g_most_paid = G3 at *
  walk_at "es"
theorem lw_7 {sc c1 c2 c3 c4 c5 c7 : C} {p r c f m T : Int} (e : g_most_between [.sh (.tuple [.int p, .int r, .int c, .int f]), .sh (.int m)] = some (.sh (.int T), [.sh (.tuple [.int p, .int r, .int c, .int f]), .sh (.int m)])) (s1 : sm T) (s2 : sm r) (s3 : sm m) (s4 : sm p) (h : ¬ c + m * p < T * r) : (mIf (mTst (mB (cmpD .Gt) (mTm (mB (binD .Mult) (mTm (mCall [true, true] g_most_between (mCons (mPl 8) (mCons (mPl 6) (mNil))))) (mTm (mB ixD (mPl 8) (mTm (mK (.int 1))))))) (mTm (mB (binD .Add) (mTm (mB ixD (mPl 8) (mTm (mK (.int 2))))) (mTm (mB (binD .Mult) (mPl 6) (mTm (mB ixD (mPl 8) (mTm (mK (.int 0))))))))))) (mSeq (mRet (mK (.bool false))) (mSkip)) (mSkip)) [sc, c1, c2, c3, c4, c5, .sh (.int m), c7, .sh (.tuple [.int p, .int r, .int c, .int f])] = some (.nx, [sc, c1, c2, c3, c4, c5, .sh (.int m), c7, .sh (.tuple [.int p, .int r, .int c, .int f])]) := by
  generalize g_most_between = G at *
  walk_at "es"
theorem gr_bd {z : Pz} (h : z.Ok) {s : Int} (h0 : 0 ≤ s) (h1 : s ≤ z.c) {N : Nat} (hN : N ≤ 10000) : 0 ≤ gr z s N ∧ gr z s N < 10 ^ 9 := by
  have a1 := gr_nn h N h0
  have h2 := sp_b h (md_b h s) N
  have h3 := gr_sp z N s
  have h4 : s / z.r ≤ s := Int.ediv_le_self _ h0
  have := h.c1
  omega
theorem lw_68 {z : Pz} (h : z.Ok) {M : Nat} (hM : M ≤ 10000) {sc c1 c2 c3 c4 c5 c7 : C} {Q : Fl → Cs → Prop} (hq : Q .nx [sc, c1, c2, c3, c4, c5, .sh (.int (M : Int)), c7, .sh z.d]) : Wx (mSeq ((mIf (mOrT (mTst (mB (cmpD .NotEq) (mTm (mCall [true, true] g_most_between (mCons (mPl 8) (mCons (mPl 6) (mNil))))) (mTm (mCall [true, true] g_law_soon (mCons (mPl 8) (mCons (mPl 6) (mNil))))))) (mTst (mB (cmpD .Lt) (mTm (mCall [true, true] g_most_between (mCons (mPl 8) (mCons (mPl 6) (mNil))))) (mTm (mCall [true, true] g_most_paid (mCons (mPl 8) (mCons (mPl 6) (mNil)))))))) (mSeq (mRet (mK (.bool false))) (mSkip)) (mSkip))) (mSeq ((mIf (mTst (mB (cmpD .Gt) (mTm (mB (binD .Mult) (mTm (mCall [true, true] g_most_between (mCons (mPl 8) (mCons (mPl 6) (mNil))))) (mTm (mB ixD (mPl 8) (mTm (mK (.int 1))))))) (mTm (mB (binD .Add) (mTm (mB ixD (mPl 8) (mTm (mK (.int 2))))) (mTm (mB (binD .Mult) (mPl 6) (mTm (mB ixD (mPl 8) (mTm (mK (.int 0))))))))))) (mSeq (mRet (mK (.bool false))) (mSkip)) (mSkip))) mSkip) [sc, c1, c2, c3, c4, c5, .sh (.int (M : Int)), c7, .sh z.d]) Q := by
  have b := st35_b h
  have hb := gr_bd h b.1 b.2.1 hM
  have hk := gr_kept h M b.1
  have h1 := h.r0
  have h2 := h.r1
  have h3 := h.p0
  have h4 := h.p1
  apply wx_nx (lw_6 (between_eq h (M := M) (by omega)) (law_soon_eq h hM) (most_paid_eq h (M := M) (by omega)) (by
    have := gr_mono h M b.2.2
    omega))
  apply wx_nx (lw_7 (between_eq h (M := M) (by omega)) ⟨by omega, by omega⟩ ⟨by omega, by omega⟩ ⟨by omega, by omega⟩ ⟨by omega, by omega⟩ (by omega))
  exact wx_skip hq
theorem law_true (ns : List Int) (hl : ns.length ≤ 63) : ∃ cs', semF [false] 9 m_law [.sh (.list (ns.map PyData.int))] = some (.sh (.bool true), cs') := by
  have main : Rt (semF [false] 9 m_law [.sh (.list (ns.map PyData.int))]) fun c _ => c = .sh (.bool true) := by
    unfold m_law
    apply rt_sem rfl
    apply wx_seq
    apply wx_each (ds := (PyData.int (ns.getD 0 0)) :: (L2.M.cutL ns (some 1) (some 4)).map PyData.int) (ε1 := [.sh (.list (ns.map PyData.int)), .no, .no, .no, .no, .no, .no, .no, .no]) fun ε => ∃ c1 c2 c3 c4 c5 c6 c7 c8, (∃ d, c3 = .sh d ∨ c3 = .no) ∧ (∃ d, c4 = .sh d ∨ c4 = .no) ∧ ε = [.sh (.list (ns.map PyData.int)), c1, c2, c3, c4, c5, c6, c7, c8]
    · have hz := cut_len ns (some 1) (some 4)
      have h6 : 1 + (L2.M.cutL ns (some 1) (some 4)).length ≤ 16777216 := by omega
      have h7 : (L2.M.cutL ns (some 1) (some 4)).length + 1 ≤ 16777216 := by omega
      have h8 : (L2.M.cutL ns (some 1) (some 4)).length ≤ 16777215 := by omega
      have h9 := @cut_map
      walk_at "es"
    · exact ⟨_, _, _, _, _, _, _, _, ⟨.none, .inr rfl⟩, ⟨.none, .inr rfl⟩, rfl⟩
    · rintro d ε hd ⟨c1, c2, c3, c4, c5, c6, c7, c8, h3, h4, rfl⟩
      obtain ⟨x, rfl⟩ := cells_int ns 4 d hd
      clear hd hl
      generalize hsc : C.sh (PyData.list (ns.map PyData.int)) = sc
      clear hsc
      refine ⟨_, rfl, ?_⟩
      walk_at "nx"
      obtain ⟨_, _, e2, z, q, hz, hz1, hz2, hz3, rfl, rfl⟩ := law_small_eq (pnOf x) (m := 30) (by decide)
      obtain ⟨_, _, e3, w, q2, hw, rfl, rfl⟩ := law_purse_eq q
      apply wx_nx (lw_2 e2 e3 c3 c4 h3 h4)
      clear e2 e3 h3 h4
      have d1 := draw_eq q2 9 (by decide) ⟨by decide, by decide⟩
      have v1 := dr_ab q2 9 (by decide)
      generalize dr q2 9 = n at *
      generalize dn q2 9 = q3 at *
      have d2 := draw_eq q3 2001 (by decide) ⟨by decide, by decide⟩
      have v2 := dr_ab q3 2001 (by decide)
      generalize dr q3 2001 = m at *
      generalize dn q3 2001 = q4 at *
      apply wx_nx (lw_3 d1 d2)
      clear d1 d2
      obtain ⟨N, rfl⟩ : ∃ N : Nat, n = (N : Int) := ⟨n.toNat, by omega⟩
      obtain ⟨M, rfl⟩ : ∃ M : Nat, m = (M : Int) := ⟨m.toNat, by omega⟩
      obtain ⟨_, _, e6, G, k, hp, rfl, rfl⟩ := comes_eq hz
      have hG := cm_len hz k
      obtain ⟨t1, t2⟩ := cm_most hz k hp N
      have e7 := law_best_eq hz (S := G) (by omega) (M := N) (by omega) (T := gr z (st35 z) N) (fun s hs => ⟨(k.b s hs).1, (k.b s hs).2.1⟩) t1 t2 (.ls (G.map .int)) (.inl rfl)
      apply wx_nx (lw_4 e6 e7)
      have b := st35_b hz
      have hgr := gr_bd hz b.1 b.2.1 (N := N) (by omega)
      have hgr2 : -(10 ^ 19) < gr z (st35 z) N ∧ gr z (st35 z) N < 10 ^ 19 := ⟨by omega, by omega⟩
      apply wx_nx (lw_5 (between_eq hz (M := N) (by omega)) (rp_two hgr2 hgr2))
      clear e6 e7 hgr hgr2 k hp t1 t2 hG
      apply wx_seq
      generalize C.sh (.int (gr z (st35 z) N)) = c7
      apply wx_each (ds := [z.d, w.d]) (ε1 := [sc, .sh (.int x), .ls (penL q4), .sh z.d, .sh w.d, .sh (.int (N : Int)), .sh (.int (M : Int)), c7, c8]) fun ε => ∃ c8, ε = [sc, .sh (.int x), .ls (penL q4), .sh z.d, .sh w.d, .sh (.int (N : Int)), .sh (.int (M : Int)), c7, c8]
      · generalize z.d = Z
        generalize w.d = W
        generalize (N : Int) = n
        generalize (M : Int) = m
        walk_at "ev"
      · exact ⟨_, rfl⟩
      · rintro d ε hd ⟨c8, rfl⟩
        refine ⟨[sc, .sh (.int x), .ls (penL q4), .sh z.d, .sh w.d, .sh (.int (N : Int)), .sh (.int (M : Int)), c7, .sh d], rfl, ?_⟩
        simp only [List.mem_cons, List.not_mem_nil, or_false] at hd
        rcases hd with rfl | rfl
        · exact lw_68 hz (by omega) ⟨_, rfl⟩
        · exact lw_68 hw (by omega) ⟨_, rfl⟩
      · rintro ε ⟨c8, rfl⟩
        exact wx_skip ⟨_, _, _, _, _, _, _, _, ⟨_, .inl rfl⟩, ⟨_, .inl rfl⟩, rfl⟩
    rintro ε ⟨c1, c2, c3, c4, c5, c6, c7, c8, _, _, rfl⟩
    apply wx_rt
    · walk_at "ev"
      exact ⟨rfl, rfl⟩
    exact rfl
  obtain ⟨c, cs, e, rfl⟩ := main
  exact ⟨cs, e⟩
end KW
namespace KW
open PySem PySem.Spec PyProof.Rows L2 L2.M
abbrev R : PySem.W.OpenRow := PySem.W.OpenLaw.row PySem.Challenge.rw_knockpurse_k35_the_most_in_a_stretch
abbrev hk : PySem.W.Hook := He.hookD 4 fa fn
def ob (s : PySem.W.SharedT) : He.AlD := He.obsDG 4 fa fn (HandSHeadRun.getT s)
theorem ob_eq (s : PySem.W.SharedT) : ob s = hk.obs s.abs := He.obsDG_eq (HandSHeadRun.getT_eq s)
theorem run (w : World) : HandSHeadRun.RunEq R (PySem.W.view R.prog [15]) hk ob 1360 ["put_in", "paid_turns", "most_paid", "most_between", "_law_cell_at", "_law_next", "_law_pen_of", "_law_draw", "_law_purse", "_law_small", "_law_best", "_law_comes", "_law_soon"] w := by
  intro os
  kernel_rfl
end KW
open PySem PySem.W PySem.Calls PyProof.Rows
theorem PySem.Challenge.cw_knockpurse_k35_the_most_in_a_stretch_holds : PySem.Challenge.rw_knockpurse_k35_the_most_in_a_stretch.Holds := by
  w_on; o_law
  refine HandSHeadRun.head_any (r := OpenLaw.row PySem.Challenge.rw_knockpurse_k35_the_most_in_a_stretch) (q := view (OpenLaw.row PySem.Challenge.rw_knockpurse_k35_the_most_in_a_stretch).prog [15]) (H := KW.hk) (ob := KW.ob) (M := 1360) (loose := ["put_in", "paid_turns", "most_paid", "most_between", "_law_cell_at", "_law_next", "_law_pen_of", "_law_draw", "_law_purse", "_law_small", "_law_best", "_law_comes", "_law_soon"]) (d := HandSHeadRun.topDef (OpenLaw.row PySem.Challenge.rw_knockpurse_k35_the_most_in_a_stretch).prog 15) (kwd := []) KW.ob_eq
    (by kernel_rfl) (fun s => by kernel_rfl) KW.run (by kernel_rfl) (by kernel_rfl) (by kernel_rfl) (by rfl) (by first | assumption | decide +kernel) (by decide +kernel) ⟨rfl, rfl, rfl, rfl, rfl, by decide +kernel⟩ ?hw ?hc
  case hw => w_witness2
  case hc =>
    refine L2.M.walkG (l := PySem.Challenge.rw_knockpurse_k35_the_most_in_a_stretch) (n := 63) (k := 4) (x := "_law_script") rfl (by decide) (by kernel_rfl) ⟨⟨rfl, by decide, by decide⟩, rfl⟩ ?F
    intro w mg fa h Y G hmg0
    obtain ⟨K, KX, c⟩ := Y
    have hmg : mg ("law" : PySem.Str) = some (.ref fa) := by
      have e : (HandSHeadRun.topDef (OpenLaw.row PySem.Challenge.rw_knockpurse_k35_the_most_in_a_stretch).prog 15).name = ("law" : PySem.Str) := by kernel_rfl
      rw [← e]
      exact hmg0
    obtain ⟨fd, hb, hF⟩ := L2.M.topG (P := (PySem.Challenge.rw_knockpurse_k35_the_most_in_a_stretch).prog) (w := w) ⟨h, KX, G, c⟩ 13 13 (k := 3) (m := KW.m_law) rfl rfl rfl KW.pl_law KW.sc_law hmg (fun base => KW.bd_law ⟨h, KX, G, c⟩)
    exact ⟨K, fd, _, KX, hb, fun H a ns hl O hS => L2.M.sp_law O hS (KW.law_true ns hl), hF⟩
