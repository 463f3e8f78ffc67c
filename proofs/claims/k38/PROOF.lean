import PyProof.Rows.All
import Wide.All
import OpenK.AllK
import Wide.FinOn
import KE.KStateDown
import HandS.Base
import HandS.Call
import HandS.Ends
import HandS.More
import HandS.Words
import HandS.WordsExc
import HandS.Defaults
import HandS.Head0
import HandS.Head1
import HandS.Head2
import HandS.HeadEnd
import HandS.HeadHook1
import HandS.HeadHook2
import HandS.ForMost
import HandS.IsInst
import KE.KDictKeyed
import HandS.TupAny
import HandS.TupMul
import HandS.Style
import HandS.Wide
import HandS.Deep
import HandS.SortInts
import HandS.RaiseMore
import HandS.WideBits
import KE.KEqNest
import HandS.Walk
import HandS.ExcCtx
import HandS.Dict
import HandS.Zip
import KE.GoesEnum
import KE.KSortTupG
import HandS.TupSets
import HandS.Conv
import HandS.TryOnly
import HandS.Small
import HandS.ExcIs
import HandS.ExcField
import HandS.HotCalls
import HandS.ExcInit
import HandS.Flow
import HandS.SetFor
import HandS.Rev
import HandS.WordsDict
import HandS.Iter
import KE.KDictLaw
import KE.KDictCopyH
import KE.KDictDisplayH
import KE.DataCmp
import KE.DataMinMax
import KE.SortData
import KE.KDictPairs
import HandS.Text
import HandS.Steps
import HandS.Replace
import HandS.ReplaceLit
import HandS.ReplaceDef
import KE.KEqDict
import PyProof.SeqIndex
import HandS.DeepEq
import PyProof.NeKinds
import KE.KDictList
import KE.KIntText
import PySem.Challenge.RW_knockpurse_k38_whole_purses
set_option Elab.async false
set_option linter.all false
set_option maxRecDepth 100000
set_option maxHeartbeats 0
namespace L2.M
open PySem PySem.Spec PyProof.Rows
abbrev D := PyData
def keyD : Key → D
  | .inl i => .int i
  | .inr x => .str x
/-- a tuple, known to have no dict of its own -/
def HdT (F : Hp) (a : Addr) (xs : List V) : Prop := ∃ o : Obj, o.dict = none ∧ F a = some (.frz o (.tup xs))
theorem HdT.sq {K : PySem.W.Frag} {F : Hp} {a : Addr} {xs : List V} (h : HdT F a xs) : SqT K F a xs := by
  obtain ⟨o, _, h⟩ := h
  exact .inl (.inr ⟨o, h⟩)
theorem HdT.mono {F F' : Hp} {a : Addr} {xs : List V} (e : Same F F') (h : HdT F a xs) : HdT F' a xs := by
  obtain ⟨o, h1, h⟩ := h
  exact ⟨o, h1, e _ _ h⟩
mutual
def Rep (K : PySem.W.Frag) (F : Hp) : V → D → Prop
  | v, .none => v = .non
  | v, .bool b => v = .bl b
  | v, .int i => v = .int i
  | v, .str x => v = .str x
  | v, .list ds => ∃ a vs, v = .ref a ∧ SqL K F a vs ∧ Reps K F vs ds
  | v, .tuple ds => ∃ a vs, v = .ref a ∧ HdT F a vs ∧ Reps K F vs ds
  | v, .dict kds => ∃ a kvs, v = .ref a ∧ F a = some (.dK kvs) ∧ RepKs K F kvs kds
def Reps (K : PySem.W.Frag) (F : Hp) : List V → List D → Prop
  | vs, [] => vs = []
  | vs, d :: ds => ∃ v r, vs = v :: r ∧ Rep K F v d ∧ Reps K F r ds
def RepKs (K : PySem.W.Frag) (F : Hp) : List (Key × V) → List (D × D) → Prop
  | kvs, [] => kvs = []
  | kvs, (k, d) :: kds => ∃ key v r, kvs = (key, v) :: r ∧ k = keyD key ∧ Rep K F v d ∧ RepKs K F r kds
end
theorem sameL {K : PySem.W.Frag} {H H' : Hp} {a : Addr} {xs : List V} (e : Same H H') (h : SqL K H a xs) : SqL K H' a xs := e.seq h
theorem sameT {K : PySem.W.Frag} {H H' : Hp} {a : Addr} {xs : List V} (e : Same H H') (h : SqT K H a xs) : SqT K H' a xs := by
  rcases h with (h | ⟨o, h⟩) | h
  · exact .inl (.inl (e _ _ h))
  · exact .inl (.inr ⟨o, e _ _ h⟩)
  · exact .inr h
section
variable {K : PySem.W.Frag} {F F' : Hp}
mutual
theorem Rep.mono (e : Same F F') : ∀ (d : D) (v : V), Rep K F v d → Rep K F' v d
  | .none, v, h => h
  | .bool b, v, h => h
  | .int b, v, h => h
  | .str b, v, h => h
  | .list ds, v, ⟨a, vs, h1, h2, h3⟩ => ⟨a, vs, h1, sameL e h2, Reps.mono e ds vs h3⟩
  | .tuple ds, v, ⟨a, vs, h1, h2, h3⟩ => ⟨a, vs, h1, h2.mono e, Reps.mono e ds vs h3⟩
  | .dict kds, v, ⟨a, vs, h1, h2, h3⟩ => ⟨a, vs, h1, e _ _ h2, RepKs.mono e kds vs h3⟩
theorem Reps.mono (e : Same F F') : ∀ (ds : List D) (vs : List V), Reps K F vs ds → Reps K F' vs ds
  | [], vs, h => h
  | d :: ds, vs, ⟨v, r, h1, h2, h3⟩ => ⟨v, r, h1, Rep.mono e d v h2, Reps.mono e ds r h3⟩
theorem RepKs.mono (e : Same F F') : ∀ (ds : List (D × D)) (vs : List (Key × V)), RepKs K F vs ds → RepKs K F' vs ds
  | [], vs, h => h
  | (k, d) :: ds, vs, ⟨key, v, r, h1, h0, h2, h3⟩ => ⟨key, v, r, h1, h0, Rep.mono e d v h2, RepKs.mono e ds r h3⟩
end
theorem Reps.length : ∀ {ds : List D} {vs : List V}, Reps K F vs ds → vs.length = ds.length
  | [], vs, h => by cases (show vs = [] from h); rfl
  | d :: ds, vs, ⟨v, r, h1, h2, h3⟩ => by subst h1; simp [Reps.length h3]
theorem Reps.get : ∀ {ds : List D} {vs : List V} {i : Nat} {d : D}, Reps K F vs ds → ds[i]? = some d → ∃ v, vs[i]? = some v ∧ Rep K F v d
  | [], vs, i, d, h, e => by simp at e
  | d :: ds, vs, 0, d', ⟨v, r, h1, h2, h3⟩, e => by
    simp at e; subst e; subst h1; exact ⟨v, rfl, h2⟩
  | d :: ds, vs, i + 1, d', ⟨v, r, h1, h2, h3⟩, e => by
    subst h1
    obtain ⟨v', e1, e2⟩ := Reps.get (i := i) h3 (by simpa using e)
    exact ⟨v', by simpa using e1, e2⟩
theorem Reps.append : ∀ {ds es : List D} {vs ws : List V}, Reps K F vs ds → Reps K F ws es → Reps K F (vs ++ ws) (ds ++ es)
  | [], es, vs, ws, h, g => by cases (show vs = [] from h); exact g
  | d :: ds, es, vs, ws, ⟨v, r, h1, h2, h3⟩, g => by subst h1; exact ⟨v, r ++ ws, rfl, h2, Reps.append h3 g⟩
theorem Reps.one {v : V} {d : D} (h : Rep K F v d) : Reps K F [v] [d] := ⟨v, [], rfl, h, rfl⟩
theorem Reps.take : ∀ {ds : List D} {vs : List V} (n : Nat), Reps K F vs ds → Reps K F (vs.take n) (ds.take n)
  | _, _, 0, _ => by simp [Reps]
  | [], vs, n + 1, h => by cases (show vs = [] from h); simp [Reps]
  | d :: ds, vs, n + 1, ⟨v, r, h1, h2, h3⟩ => by subst h1; exact ⟨v, _, rfl, h2, Reps.take n h3⟩
theorem Reps.drop : ∀ {ds : List D} {vs : List V} (n : Nat), Reps K F vs ds → Reps K F (vs.drop n) (ds.drop n)
  | _, _, 0, h => h
  | [], vs, n + 1, h => by cases (show vs = [] from h); simp [Reps]
  | d :: ds, vs, n + 1, ⟨v, r, h1, h2, h3⟩ => by subst h1; exact Reps.drop n h3
theorem Reps.set {v : V} {d : D} (g : Rep K F v d) : ∀ {ds : List D} {vs : List V} (n : Nat), Reps K F vs ds → Reps K F (vs.set n v) (ds.set n d)
  | [], vs, n, h => by cases (show vs = [] from h); simp [Reps]
  | d' :: ds, vs, 0, ⟨v', r, h1, h2, h3⟩ => by subst h1; exact ⟨v, r, rfl, g, h3⟩
  | d' :: ds, vs, n + 1, ⟨v', r, h1, h2, h3⟩ => by subst h1; exact ⟨v', _, rfl, h2, Reps.set g n h3⟩
theorem Reps.erase : ∀ {ds : List D} {vs : List V} (n : Nat), Reps K F vs ds → Reps K F (vs.eraseIdx n) (ds.eraseIdx n)
  | [], vs, n, h => by cases (show vs = [] from h); simp [Reps]
  | d' :: ds, vs, 0, ⟨v', r, h1, h2, h3⟩ => by subst h1; exact h3
  | d' :: ds, vs, n + 1, ⟨v', r, h1, h2, h3⟩ => by subst h1; exact ⟨v', _, rfl, h2, Reps.erase n h3⟩
theorem Reps.reverse : ∀ {ds : List D} {vs : List V}, Reps K F vs ds → Reps K F vs.reverse ds.reverse
  | [], vs, h => by cases (show vs = [] from h); simp [Reps]
  | d :: ds, vs, ⟨v, r, h1, h2, h3⟩ => by
    subst h1
    rw [List.reverse_cons, List.reverse_cons]
    exact Reps.append (Reps.reverse h3) (Reps.one h2)
theorem Reps.replicate {ds : List D} {vs : List V} (h : Reps K F vs ds) : ∀ n : Nat, Reps K F (List.replicate n vs).flatten (List.replicate n ds).flatten
  | 0 => by simp [Reps]
  | n + 1 => by
    rw [List.replicate_succ, List.replicate_succ, List.flatten_cons, List.flatten_cons]
    exact Reps.append h (Reps.replicate h n)
end
inductive Kd where
  | ls | ins (cls : Str) (fs : List Str) | dn (ks : List D)
/-- an error on its way: its class by its name, its fields -/
structure Xn where
  cls : Str
  as : List (Str × D)
inductive C where
  | no | sh (d : D) | ls (ds : List D) | dc (k : Nat) (kvs : List (D × D)) | ob (k : Kd) (cs : List C)
  | px (a : Addr) (cls : Value) (d : Option Addr) (x : Xn)
  | fn (x : Str) | fd (kds : List (D × D)) | fk (kds : List (D × D))
abbrev Cs := List C
/-- what is written once and for all: the program's fragment, the world -/
abbrev Ek := PySem.W.Frag × World
abbrev _root_.L2.Cx.E (X : Cx) : Ek := (X.K, X.w)
mutual
def nKey : D → Option NestedKey
  | .none => some .none
  | .bool b => some (.num (if b = true then 1 else 0))
  | .int i => some (.num i)
  | .str x => some (.text x)
  | .tuple ds => (nKeys ds).map .tup
  | _ => none
def nKeys : List D → Option (List NestedKey)
  | [] => some []
  | d :: ds => match nKey d, nKeys ds with
    | some k, some ks => some (k :: ks)
    | _, _ => none
end
abbrev NEnt := NestedKey × Addr
def nkE (w : World) (x : NEnt × Value) : DictEntry := ⟨x.1.1.hash w, .ref x.1.2, x.2⟩
/-- a dict whose keys are tuples, nested, told by its object -/
def nkO (w : World) (a : Addr) (xs : List (NEnt × V)) : HO := .ext fun h => xs.length ≤ sizeLine ∧ (a == sysModules) = false ∧ ∃ vs : List (NEnt × Value), Paired (fun (p : NEnt × V) (q : NEnt × Value) => p.1 = q.1 ∧ RelV p.2 q.2) xs vs ∧ ∃ o es ep, h.get? a = some o ∧ o.ExactDict ∧ o.data = .dict es ep ∧ es.toList = vs.map (nkE w) ∧ (xs.map (·.1.1)).Nodup
def KeysN (K : PySem.W.Frag) (F : Hp) : List NEnt → List D → Prop
  | bs, [] => bs = []
  | bs, k :: ks => ∃ b r, bs = b :: r ∧ nKey k = some b.1 ∧ b.1.depth ≤ 8 ∧ Rep K F (.ref b.2) k ∧ KeysN K F r ks
def RepX (K : Ek) (F : Hp) (cls : Value) (d : Option Addr) (x : Xn) : Prop := cls = .ref (He.ga K.1 x.cls) ∧ ((x.as = [] ∧ d = none) ∨ ∃ dx fs, d = some dx ∧ F dx = some (.xd fs) ∧ fs.map (·.1) = x.as.map (·.1) ∧ Reps K.1 F (fs.map (·.2)) (x.as.map (·.2)))
def RepTs (K : PySem.W.Frag) (F : Hp) : List (List Key × V) → List (D × D) → Prop
  | kvs, [] => kvs = []
  | kvs, (k, d) :: kds => ∃ key v r, kvs = (key, v) :: r ∧ k = .tuple (key.map keyD) ∧ Rep K F v d ∧ RepTs K F r kds
/-- a dict of one's own -/
def DcAt (K : PySem.W.Frag) (F H : Hp) (a : Addr) : Nat → List (D × D) → Prop
  | 0, kds => ∃ kvs, H a = some (.dK kvs) ∧ RepKs K F kvs kds
  | 1, kds => ∃ kvs, H a = some (.dT kvs) ∧ RepTs K F kvs kds
  | _, _ => False
def ObAt (K : Ek) (F H : Hp) (a : Addr) (vs : List V) : Kd → Prop
  | .ls => H a = some (.lst vs)
  | .ins x fs => ∃ dx, H a = some (.ins (He.ga K.1 x) dx (fs.zip vs)) ∧ fs.length = vs.length ∧ fs.Nodup
  | .dn ks => ∃ bs : List NEnt, H a = some (nkO K.2 a (bs.zip vs)) ∧ bs.length = vs.length ∧ KeysN K.1 F bs ks ∧ (bs.map (·.1)).Nodup
def Kd.pl : Kd → Prop
  | .dn _ => False
  | _ => True
/-- .. of a thing with places -/
def ObP (K : Ek) (H : Hp) (a : Addr) (vs : List V) : Kd → Prop
  | .ls => H a = some (.lst vs)
  | .ins x fs => ∃ dx, H a = some (.ins (He.ga K.1 x) dx (fs.zip vs)) ∧ fs.length = vs.length ∧ fs.Nodup
  | .dn _ => False
theorem ObP.at {K : Ek} {F H : Hp} {a : Addr} {vs : List V} : ∀ {k : Kd}, ObP K H a vs k → ObAt K F H a vs k
  | .ls, h => h
  | .ins _ _, h => h
  | .dn _, h => h.elim
theorem ObP.pl {K : Ek} {H : Hp} {a : Addr} {vs : List V} : ∀ {k : Kd}, ObP K H a vs k → k.pl
  | .ls, h => trivial
  | .ins _ _, h => trivial
  | .dn _, h => h.elim
theorem ObAt.p {K : Ek} {F H : Hp} {a : Addr} {vs : List V} : ∀ {k : Kd}, k.pl → ObAt K F H a vs k → ObP K H a vs k
  | .ls, _, h => h
  | .ins _ _, _, h => h
  | .dn _, h, _ => h.elim
theorem ObP.frame {K : Ek} {H H' : Hp} {a : Addr} {vs : List V} (h' : H' a = H a) : ∀ {k : Kd}, ObP K H a vs k → ObP K H' a vs k
  | .ls, h => h'.trans h
  | .ins _ _, ⟨dx, h2, h3⟩ => ⟨dx, h'.trans h2, h3⟩
  | .dn _, h => h.elim
/-- a dict with nested keys that is changed no more -/
def FdAt (K : Ek) (F : Hp) (a : Addr) (kds : List (D × D)) : Prop := ∃ od bs vs, F a = some (.frz od (nkO K.2 a (bs.zip vs))) ∧ bs.length = vs.length ∧ KeysN K.1 F bs (kds.map (·.1)) ∧ Reps K.1 F vs (kds.map (·.2))
/-- a dict whose keys are numbers and texts that is changed no more -/
def FkAt (K : Ek) (F : Hp) (a : Addr) (kds : List (D × D)) : Prop := ∃ od kvs, F a = some (.frz od (.dK kvs)) ∧ RepKs K.1 F kvs kds
mutual
/-- a cell is held: the addresses that are its own -/
def RpC (K : Ek) (F H : Hp) : Option V → C → List Addr → Prop
  | o, .no, A => A = []
  | o, .sh d, A => A = [] ∧ ∃ v, o = some v ∧ Rep K.1 F v d
  | o, .ls ds, A => ∃ a vs, o = some (.ref a) ∧ A = [a] ∧ H a = some (.lst vs) ∧ Reps K.1 F vs ds
  | o, .dc k kds, A => ∃ a, o = some (.ref a) ∧ A = [a] ∧ DcAt K.1 F H a k kds
  | o, .px a cls d x, A => A = [] ∧ o = some (.ref a) ∧ RepX K F cls d x
  | o, .fn x, A => A = [] ∧ o = some (.ref (He.ga K.1 x))
  | o, .fd kds, A => A = [] ∧ ∃ a, o = some (.ref a) ∧ FdAt K F a kds
  | o, .fk kds, A => A = [] ∧ ∃ a, o = some (.ref a) ∧ FkAt K F a kds
  | o, .ob k cs, A => ∃ a vs fs, o = some (.ref a) ∧ A = a :: fs.flatten ∧ ObAt K F H a vs k ∧ RpCs K F H (vs.map some) cs fs
def RpCs (K : Ek) (F H : Hp) : List (Option V) → List C → List (List Addr) → Prop
  | os, [], fs => os = [] ∧ fs = []
  | os, c :: cs, fs => ∃ o r f fr, os = o :: r ∧ fs = f :: fr ∧ RpC K F H o c f ∧ RpCs K F H r cs fr
end
section
variable {K : Ek} {F F' H H' : Hp}
theorem RepTs.mono (e : Same F F') : ∀ (ds : List (D × D)) (vs : List (List Key × V)), RepTs K.1 F vs ds → RepTs K.1 F' vs ds
  | [], vs, h => h
  | (k, d) :: ds, vs, ⟨key, v, r, h1, h0, h2, h3⟩ => ⟨key, v, r, h1, h0, Rep.mono e d v h2, RepTs.mono e ds r h3⟩
theorem RepX.mono {cls : Value} {d : Option Addr} {x : Xn} (e : Same F F') (h : RepX K F cls d x) : RepX K F' cls d x := by
  obtain ⟨h1, h2 | ⟨dx, fs, h2, h3, h4, h5⟩⟩ := h
  · exact ⟨h1, .inl h2⟩
  · exact ⟨h1, .inr ⟨dx, fs, h2, e _ _ h3, h4, Reps.mono e _ _ h5⟩⟩
theorem DcAt.frame (e : Same F F') {a : Addr} (h' : H' a = H a) : ∀ {k : Nat} {kds : List (D × D)}, DcAt K.1 F H a k kds → DcAt K.1 F' H' a k kds
  | 0, kds, ⟨kvs, h1, h2⟩ => ⟨kvs, h'.trans h1, RepKs.mono e _ _ h2⟩
  | 1, kds, ⟨kvs, h1, h2⟩ => ⟨kvs, h'.trans h1, RepTs.mono e _ _ h2⟩
  | _ + 2, kds, h => h
theorem DcAt.live {a : Addr} : ∀ {k : Nat} {kds : List (D × D)}, DcAt K.1 F H a k kds → H a ≠ none
  | 0, kds, ⟨kvs, h1, h2⟩ => by rw [h1]; exact fun z => nomatch z
  | 1, kds, ⟨kvs, h1, h2⟩ => by rw [h1]; exact fun z => nomatch z
  | _ + 2, kds, h => h.elim
theorem KeysN.mono (e : Same F F') : ∀ {ks : List D} {bs : List NEnt}, KeysN K.1 F bs ks → KeysN K.1 F' bs ks
  | [], bs, h => h
  | k :: ks, bs, ⟨b, r, h1, h2, h3, h4, h5⟩ => ⟨b, r, h1, h2, h3, Rep.mono e _ _ h4, KeysN.mono e h5⟩
theorem ObAt.frame (e : Same F F') {a : Addr} {vs : List V} (h' : H' a = H a) : ∀ {k : Kd}, ObAt K F H a vs k → ObAt K F' H' a vs k
  | .ls, h => h'.trans h
  | .ins _ _, ⟨dx, h2, h3⟩ => ⟨dx, h'.trans h2, h3⟩
  | .dn _, ⟨bs, h2, h3, h4, h5⟩ => ⟨bs, h'.trans h2, h3, h4.mono (K := K) e, h5⟩
theorem ObAt.live {a : Addr} {vs : List V} : ∀ {k : Kd}, ObAt K F H a vs k → H a ≠ none
  | .ls, h => by rw [show H a = _ from h]; exact fun z => nomatch z
  | .ins _ _, ⟨dx, h2, h3⟩ => by rw [h2]; exact fun z => nomatch z
  | .dn _, ⟨bs, h2, _⟩ => by rw [h2]; exact fun z => nomatch z
theorem FkAt.mono (e : Same F F') {a : Addr} {kds : List (D × D)} (h : FkAt K F a kds) : FkAt K F' a kds := by
  obtain ⟨od, kvs, h1, h2⟩ := h
  exact ⟨od, kvs, e _ _ h1, RepKs.mono e _ _ h2⟩
theorem FdAt.mono (e : Same F F') {a : Addr} {kds : List (D × D)} (h : FdAt K F a kds) : FdAt K F' a kds := by
  obtain ⟨od, bs, vs, h1, h2, h3, h4⟩ := h
  exact ⟨od, bs, vs, e _ _ h1, h2, h3.mono (K := K) e, Reps.mono e _ _ h4⟩
mutual
theorem RpC.frame (e : Same F F') : ∀ {c : C} {o : Option V} {A : List Addr}, (∀ b ∈ A, H' b = H b) → RpC K F H o c A → RpC K F' H' o c A
  | .no, o, A, k, h => h
  | .sh d, o, A, k, ⟨h1, v, h2, h3⟩ => ⟨h1, v, h2, Rep.mono e _ _ h3⟩
  | .ls ds, o, A, k, ⟨a, vs, h1, h2, h3, h4⟩ => ⟨a, vs, h1, h2, (k a (by rw [h2]; exact List.mem_cons_self)).trans h3, Reps.mono e _ _ h4⟩
  | .dc n kds, o, A, k, ⟨a, h1, h2, h3⟩ => ⟨a, h1, h2, DcAt.frame e (k a (by rw [h2]; exact List.mem_cons_self)) h3⟩
  | .px a cls d x, o, A, k, ⟨h1, h2, h3⟩ => ⟨h1, h2, h3.mono e⟩
  | .fn x, o, A, k, h => h
  | .fd kds, o, A, k, ⟨h1, a, h2, h3⟩ => ⟨h1, a, h2, h3.mono e⟩
  | .fk kds, o, A, k, ⟨h1, a, h2, h3⟩ => ⟨h1, a, h2, h3.mono e⟩
  | .ob n cs, o, A, k, ⟨a, vs, fs, h1, h2, h3, h4⟩ => ⟨a, vs, fs, h1, h2, ObAt.frame e (k a (by rw [h2]; exact List.mem_cons_self)) h3, RpCs.frame e (fun b hb => k b (by rw [h2]; exact List.mem_cons_of_mem _ hb)) h4⟩
theorem RpCs.frame (e : Same F F') : ∀ {cs : List C} {os : List (Option V)} {fs : List (List Addr)}, (∀ b ∈ fs.flatten, H' b = H b) → RpCs K F H os cs fs → RpCs K F' H' os cs fs
  | [], os, fs, k, h => h
  | c :: cs, os, fs, k, ⟨o, r, f, fr, h1, h2, h3, h4⟩ => ⟨o, r, f, fr, h1, h2, RpC.frame e (fun b hb => k b (by rw [h2]; simp [hb])) h3, RpCs.frame e (fun b hb => k b (by rw [h2, List.flatten_cons]; exact List.mem_append_right _ hb)) h4⟩
end
mutual
theorem RpC.live : ∀ {c : C} {o : Option V} {A : List Addr}, RpC K F H o c A → ∀ b ∈ A, H b ≠ none
  | .no, o, A, h, b, hb => by rw [show A = [] from h] at hb; cases hb
  | .sh d, o, A, ⟨h1, _⟩, b, hb => by rw [h1] at hb; cases hb
  | .ls ds, o, A, ⟨a, vs, h1, h2, h3, h4⟩, b, hb => by
    rw [h2] at hb
    obtain rfl := List.mem_singleton.mp hb
    rw [h3]; exact fun z => nomatch z
  | .dc n kds, o, A, ⟨a, h1, h2, h3⟩, b, hb => by
    rw [h2] at hb
    obtain rfl := List.mem_singleton.mp hb
    exact h3.live (K := K)
  | .px a cls d x, o, A, ⟨h1, _⟩, b, hb => by rw [h1] at hb; cases hb
  | .fn x, o, A, ⟨h1, _⟩, b, hb => by rw [h1] at hb; cases hb
  | .fd kds, o, A, ⟨h1, _⟩, b, hb => by rw [h1] at hb; cases hb
  | .fk kds, o, A, ⟨h1, _⟩, b, hb => by rw [h1] at hb; cases hb
  | .ob n cs, o, A, ⟨a, vs, fs, h1, h2, h3, h4⟩, b, hb => by
    rw [h2] at hb
    rcases List.mem_cons.mp hb with rfl | hb
    · exact h3.live
    · exact RpCs.live h4 b hb
theorem RpCs.live : ∀ {cs : List C} {os : List (Option V)} {fs : List (List Addr)}, RpCs K F H os cs fs → ∀ b ∈ fs.flatten, H b ≠ none
  | [], os, fs, ⟨_, h⟩, b, hb => by rw [h] at hb; cases hb
  | c :: cs, os, fs, ⟨o, r, f, fr, h1, h2, h3, h4⟩, b, hb => by
    rw [h2, List.flatten_cons] at hb
    rcases List.mem_append.mp hb with hb | hb
    · exact RpC.live h3 b hb
    · exact RpCs.live h4 b hb
end
theorem RpCs.len : ∀ {cs : List C} {os : List (Option V)} {fs : List (List Addr)}, RpCs K F H os cs fs → os.length = cs.length ∧ fs.length = cs.length
  | [], os, fs, ⟨h1, h2⟩ => by rw [h1, h2]; exact ⟨rfl, rfl⟩
  | c :: cs, os, fs, ⟨o, r, f, fr, h1, h2, h3, h4⟩ => by
    obtain ⟨e1, e2⟩ := h4.len
    rw [h1, h2]
    simp [e1, e2]
theorem RpCs.get : ∀ {cs : List C} {os : List (Option V)} {fs : List (List Addr)} {i : Nat} {c : C}, RpCs K F H os cs fs → cs[i]? = some c → ∃ o f, os[i]? = some o ∧ fs[i]? = some f ∧ RpC K F H o c f
  | [], os, fs, i, c, h, e => by simp at e
  | c :: cs, os, fs, 0, c', ⟨o, r, f, fr, h1, h2, h3, h4⟩, e => by
    simp at e; subst e h1 h2
    exact ⟨o, f, rfl, rfl, h3⟩
  | c :: cs, os, fs, i + 1, c', ⟨o, r, f, fr, h1, h2, h3, h4⟩, e => by
    subst h1 h2
    obtain ⟨o', f', e1, e2, e3⟩ := h4.get (by simpa using e)
    exact ⟨o', f', by simpa using e1, by simpa using e2, e3⟩
/-- a place rewritten -/
theorem RpCs.set {o : Option V} {c : C} {f : List Addr} (h0 : RpC K F H o c f) : ∀ {cs : List C} {os : List (Option V)} {fs : List (List Addr)} (i : Nat), RpCs K F H os cs fs → RpCs K F H (os.set i o) (cs.set i c) (fs.set i f)
  | [], os, fs, i, ⟨h1, h2⟩ => by rw [h1, h2]; exact ⟨rfl, rfl⟩
  | c' :: cs, os, fs, 0, ⟨o', r, f', fr, h1, h2, h3, h4⟩ => by rw [h1, h2]; exact ⟨o, r, f, fr, rfl, rfl, h0, h4⟩
  | c' :: cs, os, fs, i + 1, ⟨o', r, f', fr, h1, h2, h3, h4⟩ => by rw [h1, h2]; exact ⟨o', _, f', _, rfl, rfl, h3, RpCs.set h0 i h4⟩
theorem RpCs.append : ∀ {cs cs' : List C} {os os' : List (Option V)} {fs fs' : List (List Addr)}, RpCs K F H os cs fs → RpCs K F H os' cs' fs' → RpCs K F H (os ++ os') (cs ++ cs') (fs ++ fs')
  | [], cs', os, os', fs, fs', ⟨h1, h2⟩, g => by rw [h1, h2]; exact g
  | c :: cs, cs', os, os', fs, fs', ⟨o, r, f, fr, h1, h2, h3, h4⟩, g => by rw [h1, h2]; exact ⟨o, _, f, _, rfl, rfl, h3, h4.append g⟩
theorem RpCs.nos (n : Nat) (os : List (Option V)) (h : os.length = n) : RpCs K F H os (List.replicate n .no) (List.replicate n []) := by
  induction n generalizing os with
  | zero => exact ⟨List.length_eq_zero_iff.mp h, rfl⟩
  | succ n ih =>
    cases os with
    | nil => cases h
    | cons o r => exact ⟨o, r, [], _, rfl, rfl, rfl, ih r (by simpa using h)⟩
end
theorem flat_set {fs : List (List Addr)} {i : Nat} {f : List Addr} {b : Addr} (h : b ∈ (fs.set i f).flatten) : b ∈ f ∨ ∃ (j : Nat) (g : List Addr), j ≠ i ∧ fs[j]? = some g ∧ b ∈ g := by
  obtain ⟨g, hg, hb⟩ := List.mem_flatten.mp h
  obtain ⟨j, hj⟩ := List.mem_iff_getElem?.mp hg
  by_cases e : j = i
  · subst e
    by_cases hl : j < fs.length
    · rw [List.getElem?_set_self hl] at hj; cases hj; exact .inl hb
    · rw [List.getElem?_eq_none (by simpa using hl)] at hj; cases hj
  · rw [List.getElem?_set_ne (Ne.symm e)] at hj
    exact .inr ⟨j, g, e, hj, hb⟩
theorem flat_get {fs : List (List Addr)} {i : Nat} {f : List Addr} {b : Addr} (h : fs[i]? = some f) (hb : b ∈ f) : b ∈ fs.flatten := List.mem_flatten.mpr ⟨f, List.mem_of_getElem? h, hb⟩
theorem nodup_apart : ∀ {fs : List (List Addr)}, fs.flatten.Nodup → ∀ {i j : Nat} {f g : List Addr} {b : Addr}, fs[i]? = some f → fs[j]? = some g → b ∈ f → b ∈ g → i = j
  | [], _, i, j, f, g, b, h, _, _, _ => by simp at h
  | e :: fs, n, i, j, f, g, b, h1, h2, h3, h4 => by
    rw [List.flatten_cons, List.nodup_append] at n
    obtain ⟨n1, n2, n3⟩ := n
    cases i with
    | zero =>
      simp at h1; subst h1
      cases j with
      | zero => rfl
      | succ j => exact absurd rfl (n3 b h3 b (flat_get (by simpa using h2) h4))
    | succ i =>
      cases j with
      | zero =>
        simp at h2; subst h2
        exact absurd rfl (n3 b h4 b (flat_get (by simpa using h1) h3))
      | succ j => exact congrArg (· + 1) (nodup_apart n2 (by simpa using h1) (by simpa using h2) h3 h4)
theorem nodup_get : ∀ {fs : List (List Addr)} {i : Nat} {f : List Addr}, fs.flatten.Nodup → fs[i]? = some f → f.Nodup
  | [], i, f, _, h => by simp at h
  | e :: fs, 0, f, n, h => by
    simp at h; subst h
    rw [List.flatten_cons, List.nodup_append] at n
    exact n.1
  | e :: fs, i + 1, f, n, h => by
    rw [List.flatten_cons, List.nodup_append] at n
    exact nodup_get n.2.1 (by simpa using h)
theorem nodup_set {f : List Addr} (nf : f.Nodup) : ∀ {fs : List (List Addr)} {i : Nat}, fs.flatten.Nodup → (∀ (j : Nat) (g : List Addr), j ≠ i → fs[j]? = some g → ∀ b ∈ f, b ∉ g) → (fs.set i f).flatten.Nodup
  | [], i, n, h => by simp
  | e :: fs, 0, n, h => by
    rw [List.flatten_cons, List.nodup_append] at n
    show (f :: fs).flatten.Nodup
    rw [List.flatten_cons, List.nodup_append]
    refine ⟨nf, n.2.1, fun a ha b hb z => ?_⟩
    subst z
    obtain ⟨g, hg, hb⟩ := List.mem_flatten.mp hb
    obtain ⟨j, hj⟩ := List.mem_iff_getElem?.mp hg
    exact h (j + 1) g (by simp) (by simpa using hj) a ha hb
  | e :: fs, i + 1, n, h => by
    rw [List.flatten_cons, List.nodup_append] at n
    obtain ⟨n1, n2, n3⟩ := n
    show (e :: fs.set i f).flatten.Nodup
    rw [List.flatten_cons, List.nodup_append]
    refine ⟨n1, nodup_set nf n2 fun j g hj hg b hb => h (j + 1) g (by simpa using hj) (by simpa using hg) b hb, fun a ha b hb z => ?_⟩
    subst z
    rcases flat_set hb with hb | ⟨j, g, hj, hg, hb⟩
    · exact h 0 e (by simp) rfl a hb ha
    · exact n3 a ha a (flat_get hg hb) rfl
abbrev Tms := List (V × C)
structure Sep (K : Ek) (F R H : Hp) (σ : St) (ε : Cs) (T : Tms) : Prop where
  sub : Same F H
  rs : Same R H
  dis : ∀ b, F b ≠ none → R b = none
  ex : ∃ fs gs, RpCs K F H σ ε fs ∧ RpCs K F H (T.map fun p => some p.1) (T.map (·.2)) gs ∧ (fs.flatten ++ gs.flatten).Nodup ∧ ∀ b ∈ fs.flatten ++ gs.flatten, F b = none ∧ R b = none
section
variable {K : Ek} {F R H F' R' H' : Hp} {σ σ' : St} {ε ε' : Cs} {T T' : Tms} {v w : V} {c c' : C} {i : Nat} {d : D}
theorem Sep.len (s : Sep K F R H σ ε T) : σ.length = ε.length := by
  obtain ⟨_, _, _, ⟨fs, gs, h1, _⟩⟩ := s
  exact h1.len.1
/-- a temporary is dropped -/
theorem Sep.drop (s : Sep K F R H σ ε ((v, c) :: T)) : Sep K F R H σ ε T := by
  obtain ⟨a1, a2, a3, ⟨fs, gs, h1, ⟨o, r, f, fr, e1, e2, h2, h3⟩, n, m⟩⟩ := s
  subst e2
  obtain ⟨-, rfl⟩ := List.cons.inj e1
  have sl : ∀ b, b ∈ fs.flatten ++ fr.flatten → b ∈ fs.flatten ++ (f :: fr).flatten := fun b hb => by
    simp only [List.flatten_cons, List.mem_append] at hb ⊢
    rcases hb with hb | hb
    · exact .inl hb
    · exact .inr (.inr hb)
  refine ⟨a1, a2, a3, fs, fr, h1, h3, ?_, fun b hb => m b (sl b hb)⟩
  rw [List.flatten_cons, List.nodup_append] at n
  obtain ⟨n1, n2, n3⟩ := n
  rw [List.nodup_append] at n2
  rw [List.nodup_append]
  exact ⟨n1, n2.2.1, fun a ha b hb => n3 a ha b (List.mem_append_right _ hb)⟩
theorem Sep.drops : ∀ (T0 : Tms), Sep K F R H σ ε (T0 ++ T) → Sep K F R H σ ε T
  | [], s => s
  | (_, _) :: T0, s => Sep.drops T0 s.drop
/-- a temporary of no own addresses -/
theorem Sep.addSh (s : Sep K F R H σ ε T) (r : Rep K.1 F v d) : Sep K F R H σ ε ((v, .sh d) :: T) := by
  obtain ⟨a1, a2, a3, ⟨fs, gs, h1, h2, n, m⟩⟩ := s
  exact ⟨a1, a2, a3, fs, [] :: gs, h1, ⟨_, _, _, _, rfl, rfl, ⟨rfl, v, rfl, r⟩, h2⟩, by simpa using n, by simpa using m⟩
/-- the cell of a slot, read -/
theorem Sep.cell (s : Sep K F R H σ ε T) (h : ε[i]? = some c) : ∃ o f, σ[i]? = some o ∧ RpC K F H o c f := by
  obtain ⟨a1, a2, a3, ⟨fs, gs, h1, h2, n, m⟩⟩ := s
  obtain ⟨o, f, e1, e2, e3⟩ := h1.get h
  exact ⟨o, f, e1, e3⟩
theorem Sep.sh (s : Sep K F R H σ ε T) (h : ε[i]? = some (.sh d)) : ∃ v, σ[i]? = some (some v) ∧ Rep K.1 F v d := by
  obtain ⟨o, f, e1, _, v, rfl, r⟩ := s.cell h
  exact ⟨v, e1, r⟩
theorem Sep.lst {ds : List D} (s : Sep K F R H σ ε T) (h : ε[i]? = some (.ls ds)) : ∃ a vs, σ[i]? = some (some (.ref a)) ∧ H a = some (.lst vs) ∧ Reps K.1 F vs ds := by
  obtain ⟨o, f, e1, a, vs, rfl, _, h1, h2⟩ := s.cell h
  exact ⟨a, vs, e1, h1, h2⟩
theorem Sep.val (s : Sep K F R H σ ε T) (h : ε[i]? = some c) (hn : c ≠ .no) : ∃ v, σ[i]? = some (some v) := by
  obtain ⟨o, f, e1, h1⟩ := s.cell h
  cases c with
  | no => exact absurd rfl hn
  | sh d => obtain ⟨_, v, rfl, _⟩ := h1; exact ⟨v, e1⟩
  | ls d => obtain ⟨a, vs, rfl, _⟩ := h1; exact ⟨_, e1⟩
  | dc k d => obtain ⟨a, rfl, _⟩ := h1; exact ⟨_, e1⟩
  | ob k d => obtain ⟨a, vs, fs, rfl, _⟩ := h1; exact ⟨_, e1⟩
  | px _ _ _ _ => obtain ⟨_, rfl, _⟩ := h1; exact ⟨_, e1⟩
  | fn _ => obtain ⟨_, rfl⟩ := h1; exact ⟨_, e1⟩
  | fd _ => obtain ⟨_, _, rfl, _⟩ := h1; exact ⟨_, e1⟩
  | fk _ => obtain ⟨_, _, rfl, _⟩ := h1; exact ⟨_, e1⟩
/-- a slot's cell is dropped -/
theorem Sep.dropAt (s : Sep K F R H σ ε T) (i : Nat) : Sep K F R H σ (ε.set i .no) T := by
  obtain ⟨a1, a2, a3, ⟨fs, gs, h1, h2, n, m⟩⟩ := s
  by_cases hi : i < ε.length
  · obtain ⟨o, f, e1, e2, e3⟩ := h1.get (List.getElem?_eq_getElem hi)
    have h1' := RpCs.set (o := o) (c := .no) (f := []) (K := K) (F := F) (H := H) rfl i h1
    have eo : σ.set i o = σ := by
      apply List.ext_getElem?
      intro j
      by_cases e : j = i
      · subst e
        rw [List.getElem?_set_self (by rw [h1.len.1]; exact hi), e1]
      · rw [List.getElem?_set_ne (Ne.symm e)]
    rw [eo] at h1'
    have sl : ∀ b, b ∈ (fs.set i []).flatten → b ∈ fs.flatten := fun b hb => by
      rcases flat_set hb with hb | ⟨j, g, _, hg, hb⟩
      · cases hb
      · exact flat_get hg hb
    rw [List.nodup_append] at n
    obtain ⟨n1, n2, n3⟩ := n
    refine ⟨a1, a2, a3, fs.set i [], gs, h1', h2, ?_, fun b hb => m b ?_⟩
    · rw [List.nodup_append]
      exact ⟨nodup_set (by simp) n1 (fun _ _ _ _ b hb => by cases hb), n2, fun a ha b hb => n3 a (sl a ha) b hb⟩
    · rcases List.mem_append.mp hb with hb | hb
      · exact List.mem_append_left _ (sl b hb)
      · exact List.mem_append_right _ hb
  · rw [List.set_eq_of_length_le (by omega)]
    exact ⟨a1, a2, a3, fs, gs, h1, h2, n, m⟩
/-- a slot's cell is taken out -/
theorem Sep.take (s : Sep K F R H σ ε T) (h : ε[i]? = some c) (hv : σ[i]? = some (some v)) : Sep K F R H σ (ε.set i .no) ((v, c) :: T) := by
  obtain ⟨a1, a2, a3, ⟨fs, gs, h1, h2, n, m⟩⟩ := s
  obtain ⟨o, f, e1, e2, e3⟩ := h1.get h
  rw [hv] at e1
  cases e1
  have hi : i < ε.length := (List.getElem?_eq_some_iff.mp h).1
  have h1' := RpCs.set (o := some v) (c := .no) (f := []) (K := K) (F := F) (H := H) rfl i h1
  have eo : σ.set i (some v) = σ := by
    apply List.ext_getElem?
    intro j
    by_cases e : j = i
    · subst e
      rw [List.getElem?_set_self (by rw [h1.len.1]; exact hi), hv]
    · rw [List.getElem?_set_ne (Ne.symm e)]
  rw [eo] at h1'
  have sl : ∀ b, b ∈ (fs.set i []).flatten → b ∈ fs.flatten ∧ b ∉ f := fun b hb => by
    rcases flat_set hb with hb | ⟨j, g, hj, hg, hb⟩
    · cases hb
    · refine ⟨flat_get hg hb, fun z => hj ?_⟩
      exact nodup_apart (List.nodup_append.mp n).1 hg e2 hb z
  rw [List.nodup_append] at n
  obtain ⟨n1, n2, n3⟩ := n
  refine ⟨a1, a2, a3, fs.set i [], f :: gs, h1', ⟨_, _, _, _, rfl, rfl, e3, h2⟩, ?_, fun b hb => m b ?_⟩
  · rw [List.flatten_cons, List.nodup_append, List.nodup_append]
    refine ⟨nodup_set (by simp) n1 (fun _ _ _ _ b hb => by cases hb), ⟨nodup_get n1 e2, n2, fun a ha b hb => n3 a (flat_get e2 ha) b hb⟩, fun a ha b hb z => ?_⟩
    subst z
    obtain ⟨k1, k2⟩ := sl a ha
    rcases List.mem_append.mp hb with hb | hb
    · exact k2 hb
    · exact n3 a k1 a hb rfl
  · simp only [List.flatten_cons, List.mem_append] at hb ⊢
    rcases hb with hb | hb | hb
    · exact .inl (sl b hb).1
    · exact .inl (flat_get e2 hb)
    · exact .inr hb
/-- a temporary is stored to a slot (the slot's value is v from then on) -/
theorem Sep.store (s : Sep K F R H σ ε ((v, c) :: T)) (i : Nat) : Sep K F R H (σ.set i (some v)) (ε.set i c) T := by
  obtain ⟨a1, a2, a3, ⟨fs, gs, h1, ⟨o, r, f, fr, e1, e2, h2, h3⟩, n, m⟩⟩ := s
  subst e2
  obtain ⟨rfl, rfl⟩ := List.cons.inj e1
  have h1' := RpCs.set h2 i h1
  rw [List.flatten_cons, List.nodup_append, List.nodup_append] at n
  obtain ⟨n1, ⟨n2, n4, n5⟩, n3⟩ := n
  refine ⟨a1, a2, a3, fs.set i f, fr, h1', h3, ?_, fun b hb => m b ?_⟩
  · rw [List.nodup_append]
    refine ⟨nodup_set n2 n1 fun j g hj hg b hb hg2 => n3 b (flat_get hg hg2) b (List.mem_append_left _ hb) rfl, n4, fun a ha b hb z => ?_⟩
    subst z
    rcases flat_set ha with ha | ⟨j, g, hj, hg, ha⟩
    · exact n5 a ha a hb rfl
    · exact n3 a (flat_get hg ha) a (List.mem_append_right _ hb) rfl
  · simp only [List.flatten_cons, List.mem_append] at hb ⊢
    rcases hb with hb | hb
    · rcases flat_set hb with hb | ⟨j, g, hj, hg, hb⟩
      · exact .inr (.inl hb)
      · exact .inl (flat_get hg hb)
    · exact .inr (.inr hb)
theorem set_same {α : Type} {xs : List α} {i : Nat} {x : α} (h : xs[i]? = some x) : xs.set i x = xs := by
  apply List.ext_getElem?
  intro j
  by_cases e : j = i
  · subst e
    rw [List.getElem?_set_self (List.getElem?_eq_some_iff.mp h).1, h]
  · rw [List.getElem?_set_ne (Ne.symm e)]
/-- .. where the slot's value is v already -/
theorem Sep.put (s : Sep K F R H σ ε ((v, c) :: T)) (hv : σ[i]? = some (some v)) : Sep K F R H σ (ε.set i c) T := by
  have := s.store i
  rwa [set_same hv] at this
theorem Sep.copy (s : Sep K F R H σ ε T) (h : ε[i]? = some (.sh d)) (hv : σ[i]? = some (some v)) : Sep K F R H σ ε ((v, .sh d) :: T) := by
  obtain ⟨w, e, r⟩ := s.sh h
  rw [hv] at e
  cases e
  exact s.addSh r
theorem Sep.repT (s : Sep K F R H σ ε ((v, .sh d) :: T)) : Rep K.1 F v d := by
  obtain ⟨a1, a2, a3, ⟨fs, gs, h1, ⟨o, r, f, fr, e1, e2, ⟨_, w, e3, h2⟩, h3⟩, n, m⟩⟩ := s
  obtain ⟨rfl, rfl⟩ := List.cons.inj e1
  cases e3
  exact h2
theorem Sep.headT (s : Sep K F R H σ ε ((v, c) :: T)) : ∃ f, RpC K F H (some v) c f ∧ ∀ b ∈ f, F b = none ∧ R b = none := by
  obtain ⟨a1, a2, a3, ⟨fs, gs, h1, ⟨o, r, f, fr, e1, e2, h2, h3⟩, n, m⟩⟩ := s
  obtain ⟨rfl, rfl⟩ := List.cons.inj e1
  exact ⟨f, h2, fun b hb => m b (by rw [e2]; simp [hb])⟩
/-- a temporary waits aside while all else goes on -/
theorem Sep.hide (s : Sep K F R H σ ε ((v, c) :: T)) : ∃ R1, Same R R1 ∧ Sep K F R1 H σ ε T ∧ ∀ F' H' σ' ε' T', Same F F' → Sep K F' R1 H' σ' ε' T' → Sep K F' R H' σ' ε' ((v, c) :: T') := by
  obtain ⟨a1, a2, a3, ⟨fs, gs, h1, ⟨o, r, f, fr, e1, e2, h2, h3⟩, n, m⟩⟩ := s
  subst e2
  obtain ⟨rfl, rfl⟩ := List.cons.inj e1
  let R1 : Hp := fun b => if b ∈ f then H b else R b
  have i1 : ∀ {b}, b ∈ f → R1 b = H b := fun {b} hb => if_pos hb
  have i2 : ∀ {b}, b ∉ f → R1 b = R b := fun {b} hb => if_neg hb
  have fin : ∀ b, b ∈ f → F b = none ∧ R b = none := fun b hb => m b (by simp [hb])
  have lv := RpC.live h2
  have sR : Same R R1 := fun b u e => by
    rw [i2 fun z => by rw [(fin b z).2] at e; cases e]; exact e
  rw [List.flatten_cons, List.nodup_append, List.nodup_append] at n
  obtain ⟨n1, ⟨n2, n4, n5⟩, n3⟩ := n
  refine ⟨R1, sR, ⟨a1, fun b u e => ?_, fun b hb => ?_, fs, fr, h1, h3, ?_, fun b hb => ?_⟩, fun F' H' σ' ε' T' fm s' => ?_⟩
  · by_cases q : b ∈ f
    · rw [i1 q] at e; exact e
    · rw [i2 q] at e; exact a2 b u e
  · rw [i2 fun z => hb (fin b z).1]; exact a3 b hb
  · rw [List.nodup_append]
    exact ⟨n1, n4, fun a ha b hb => n3 a ha b (List.mem_append_right _ hb)⟩
  · have q : b ∉ f := fun z => by
      rcases List.mem_append.mp hb with hb | hb
      · exact n3 b hb b (List.mem_append_left _ z) rfl
      · exact n5 b z b hb rfl
    rw [i2 q]
    refine m b ?_
    simp only [List.flatten_cons, List.mem_append] at hb ⊢
    rcases hb with hb | hb
    · exact .inl hb
    · exact .inr (.inr hb)
  · obtain ⟨b1, b2, b3, ⟨fs', gs', k1, k2, n', m'⟩⟩ := s'
    have live' : ∀ b, b ∈ f → R1 b ≠ none := fun b hb => by rw [i1 hb]; exact lv b hb
    have heq : ∀ b ∈ f, H' b = H b := fun b hb => by
      cases q : H b with
      | none => exact absurd q (lv b hb)
      | some u => exact b2 b u ((i1 hb).trans q)
    have fF : ∀ b ∈ f, F' b = none := fun b hb => by
      by_cases q : F' b = none
      · exact q
      · exact absurd (b3 b q) (live' b hb)
    have nf : ∀ b, b ∈ fs'.flatten ++ gs'.flatten → b ∉ f := fun b hb z => live' b z (m' b hb).2
    refine ⟨b1, fun b u e => b2 b u (sR b u e), fun b hb => ?_, fs', f :: gs', k1, ⟨_, _, _, _, rfl, rfl, RpC.frame fm heq h2, k2⟩, ?_, fun b hb => ?_⟩
    · have z := b3 b hb
      cases q : R b with
      | none => rfl
      | some u => rw [sR b u q] at z; cases z
    · rw [List.flatten_cons]
      rw [List.nodup_append] at n' ⊢
      rw [List.nodup_append]
      refine ⟨n'.1, ⟨n2, n'.2.1, fun a ha b hb z => nf b (List.mem_append_right _ hb) (z ▸ ha)⟩, fun a ha b hb z => ?_⟩
      rcases List.mem_append.mp hb with hb | hb
      · exact nf a (List.mem_append_left _ ha) (z ▸ hb)
      · exact n'.2.2 a ha b hb z
    · simp only [List.flatten_cons, List.mem_append] at hb
      rcases hb with hb | hb | hb
      · obtain ⟨z1, z2⟩ := m' b (List.mem_append_left _ hb)
        rw [i2 (nf b (List.mem_append_left _ hb))] at z2
        exact ⟨z1, z2⟩
      · exact ⟨fF b hb, (fin b hb).2⟩
      · obtain ⟨z1, z2⟩ := m' b (List.mem_append_right _ hb)
        rw [i2 (nf b (List.mem_append_right _ hb))] at z2
        exact ⟨z1, z2⟩
/-- the slots wait aside: the temporaries are a frame of their own -/
theorem Sep.enter (s : Sep K F R H σ ε T) : ∃ R1, Sep K F R1 H (T.map fun p => some p.1) (T.map (·.2)) [] ∧ ∀ F' H' cs' T', Same F F' → Sep K F' R1 H' (T.map fun p => some p.1) cs' T' → Sep K F' R H' σ ε ((T.map (·.1)).zip cs' ++ T') := by
  obtain ⟨a1, a2, a3, ⟨fs, gs, h1, h2, n, m⟩⟩ := s
  let f := fs.flatten
  let R1 : Hp := fun b => if b ∈ f then H b else R b
  have i1 : ∀ {b}, b ∈ f → R1 b = H b := fun {b} hb => if_pos hb
  have i2 : ∀ {b}, b ∉ f → R1 b = R b := fun {b} hb => if_neg hb
  have fin : ∀ b, b ∈ f → F b = none ∧ R b = none := fun b hb => m b (List.mem_append_left _ hb)
  have lv := RpCs.live h1
  have sR : Same R R1 := fun b u e => by
    rw [i2 fun z => by rw [(fin b z).2] at e; cases e]; exact e
  rw [List.nodup_append] at n
  obtain ⟨n1, n2, n3⟩ := n
  refine ⟨R1, ⟨a1, fun b u e => ?_, fun b hb => ?_, gs, [], h2, ⟨rfl, rfl⟩, by simpa using n2, fun b hb => ?_⟩, fun F' H' cs' T' fm s' => ?_⟩
  · by_cases q : b ∈ f
    · rw [i1 q] at e; exact e
    · rw [i2 q] at e; exact a2 b u e
  · rw [i2 fun z => hb (fin b z).1]; exact a3 b hb
  · have hb : b ∈ gs.flatten := by simpa using hb
    rw [i2 fun z => n3 b z b hb rfl]
    exact m b (List.mem_append_right _ hb)
  · obtain ⟨b1, b2, b3, ⟨fs', gs', k1, k2, n', m'⟩⟩ := s'
    have live' : ∀ b, b ∈ f → R1 b ≠ none := fun b hb => by rw [i1 hb]; exact lv b hb
    have heq : ∀ b ∈ fs.flatten, H' b = H b := fun b hb => by
      cases q : H b with
      | none => exact absurd q (lv b hb)
      | some u => exact b2 b u ((i1 hb).trans q)
    have fF : ∀ b ∈ f, F' b = none := fun b hb => by
      by_cases q : F' b = none
      · exact q
      · exact absurd (b3 b q) (live' b hb)
    have nf : ∀ b, b ∈ fs'.flatten ++ gs'.flatten → b ∉ f := fun b hb z => live' b z (m' b hb).2
    have lc : (T.map (·.1)).length = cs'.length := by
      have := k1.len.1
      simpa using this
    have ez1 : ((T.map (·.1)).zip cs').map (fun p => some p.1) = T.map fun p => some p.1 := by
      rw [show (fun p : V × C => some p.1) = (fun x => some x) ∘ (fun p : V × C => p.1) from rfl, ← List.map_map, List.map_fst_zip (by omega), List.map_map]
    have ez2 : ((T.map (·.1)).zip cs').map (·.2) = cs' := List.map_snd_zip (by omega)
    refine ⟨b1, fun b u e => b2 b u (sR b u e), fun b hb => ?_, fs, fs' ++ gs', RpCs.frame fm heq h1, ?_, ?_, fun b hb => ?_⟩
    · have z := b3 b hb
      cases q : R b with
      | none => rfl
      | some u => rw [sR b u q] at z; cases z
    · rw [List.map_append, List.map_append, ez1, ez2]
      exact k1.append k2
    · rw [List.flatten_append, List.nodup_append]
      exact ⟨n1, n', fun a ha b hb z => nf b hb (z ▸ ha)⟩
    · rw [List.flatten_append] at hb
      rcases List.mem_append.mp hb with hb | hb
      · exact ⟨fF b hb, (fin b hb).2⟩
      · obtain ⟨z1, z2⟩ := m' b hb
        rw [i2 (nf b hb)] at z2
        exact ⟨z1, z2⟩
end
end L2.M
namespace L2.M
open PySem PySem.Spec PyProof.Rows
def cD : C → Option D
  | .sh d => some d
  | .ls ds => some (.list ds)
  | _ => none
/-- a result of an operation, read where it came to -/
def RepC (K : PySem.W.Frag) (F H : Hp) (v : V) : C → Prop
  | .sh d => Rep K F v d
  | .ls ds => ∃ a vs, v = .ref a ∧ H a = some (.lst vs) ∧ F a = none ∧ Reps K F vs ds
  | _ => False
/-- what a pure operation leaves -/
structure Grow (K : PySem.W.Frag) (F H F' H' : Hp) (v : V) (c : C) : Prop where
  fm : Same F F'
  hm : Same H H'
  sub : Same F' H'
  ff : ∀ b, F b = none → F' b ≠ none → H b = none
  rep : RepC K F' H' v c
  new : ∀ (ds : List D) (a : Addr), c = .ls ds → v = .ref a → H a = none
/-- a heap that grew -/
structure Grw (F H F' H' : Hp) : Prop where
  fm : Same F F'
  hm : Same H H'
  sub : Same F' H'
  ff : ∀ b, F b = none → F' b ≠ none → H b = none
theorem Grow.grw {K : PySem.W.Frag} {F H F' H' : Hp} {v : V} {c : C} (g : Grow K F H F' H' v c) : Grw F H F' H' := ⟨g.fm, g.hm, g.sub, g.ff⟩
theorem Grw.refl {F H : Hp} (s : Same F H) : Grw F H F H := ⟨Same.refl F, Same.refl H, s, fun b h h' => absurd h h'⟩
theorem Grw.laid {F H : Hp} (s : Same F H) {p : Addr} {u : HO} (hp : H p = none) : Grw F H (upd F p u) (upd H p u) := by
  have fp : F p = none := s.free hp
  refine ⟨fun b x e => by rw [upd_ne (ne_of_none e fp)]; exact e, fun b x e => by rw [upd_ne (ne_of_none e hp)]; exact e, fun b x e => ?_, fun b h h' => ?_⟩
  · by_cases hb : b = p
    · subst hb; rw [upd_same] at e ⊢; exact e
    · rw [upd_ne hb] at e ⊢; exact s b x e
  · by_cases hb : b = p
    · subst hb; exact hp
    · rw [upd_ne hb] at h'; exact absurd h h'
section
variable {K : Ek} {F R H F' R' H' : Hp} {σ σ' : St} {ε ε' : Cs} {T T' T1 : Tms} {v w : V} {c c' : C} {i : Nat} {d : D}
theorem Sep.grow (s : Sep K F R H σ ε T) (g : Grw F H F' H') : Sep K F' R H' σ ε T := by
  obtain ⟨a1, a2, a3, ⟨fs, gs, h1, h2, n, m⟩⟩ := s
  have l1 := RpCs.live h1
  have l2 := RpCs.live h2
  have eq : ∀ b, H b ≠ none → H' b = H b := fun b hb => by
    cases q : H b with
    | none => exact absurd q hb
    | some u => exact g.hm b u q
  refine ⟨g.sub, a2.trans g.hm, fun b hb => ?_, fs, gs, RpCs.frame g.fm (fun b hb => eq b (l1 b hb)) h1, RpCs.frame g.fm (fun b hb => eq b (l2 b hb)) h2, n, fun b hb => ⟨?_, (m b hb).2⟩⟩
  · by_cases q : F b = none
    · exact a2.free (g.ff b q hb)
    · exact a3 b q
  · by_cases q : F' b = none
    · exact q
    · have z := g.ff b (m b hb).1 q
      rcases List.mem_append.mp hb with hb | hb
      · exact absurd z (l1 b hb)
      · exact absurd z (l2 b hb)
/-- what some temporaries hold, and what they may become -/
theorem Sep.opens (s : Sep K F R H σ ε (T1 ++ T)) : ∃ gs, RpCs K F H (T1.map fun p => some p.1) (T1.map (·.2)) gs ∧ gs.flatten.Nodup ∧ (∀ b ∈ gs.flatten, F b = none) ∧
    ∀ v c H' f, RpC K F H' (some v) c f → f.Nodup → (∀ b ∈ f, b ∈ gs.flatten ∨ H b = none) → (∀ b u, b ∉ gs.flatten → H b = some u → H' b = some u) → Sep K F R H' σ ε ((v, c) :: T) := by
  obtain ⟨a1, a2, a3, ⟨fs, gs, h1, h2, n, m⟩⟩ := s
  have split : ∀ (T1 : Tms) {gs : List (List Addr)}, RpCs K F H ((T1 ++ T).map fun p => some p.1) ((T1 ++ T).map (·.2)) gs → ∃ g1 g2, gs = g1 ++ g2 ∧ RpCs K F H (T1.map fun p => some p.1) (T1.map (·.2)) g1 ∧ RpCs K F H (T.map fun p => some p.1) (T.map (·.2)) g2 := by
    intro T1
    induction T1 with
    | nil => intro gs h; exact ⟨[], gs, rfl, ⟨rfl, rfl⟩, h⟩
    | cons x T1 ih =>
      intro gs h
      obtain ⟨o, r, f, fr, e1, e2, h3, h4⟩ := h
      obtain ⟨rfl, rfl⟩ := List.cons.inj e1
      obtain ⟨g1, g2, e3, h5, h6⟩ := ih h4
      exact ⟨f :: g1, g2, by rw [e2, e3]; rfl, ⟨_, _, _, _, rfl, rfl, h3, h5⟩, h6⟩
  obtain ⟨g1, g2, rfl, h3, h4⟩ := split T1 h2
  rw [List.flatten_append] at n m
  rw [List.nodup_append, List.nodup_append] at n
  obtain ⟨n1, ⟨n2, n4, n5⟩, n3⟩ := n
  refine ⟨g1, h3, n2, fun b hb => (m b (by simp [List.mem_append, hb])).1, fun v c H' f k1 k2 k3 k4 => ?_⟩
  have l1 := RpCs.live h1
  have l4 := RpCs.live h4
  have eq1 : ∀ b ∈ fs.flatten, H' b = H b := fun b hb => by
    cases q : H b with
    | none => exact absurd q (l1 b hb)
    | some u => exact k4 b u (fun z => n3 b hb b (List.mem_append_left _ z) rfl) q
  have eq2 : ∀ b ∈ g2.flatten, H' b = H b := fun b hb => by
    cases q : H b with
    | none => exact absurd q (l4 b hb)
    | some u => exact k4 b u (fun z => n5 b z b hb rfl) q
  have fin : ∀ b ∈ g1.flatten, F b = none ∧ R b = none := fun b hb => m b (by simp [List.mem_append, hb])
  refine ⟨fun b u e => k4 b u (fun z => by rw [(fin b z).1] at e; cases e) (a1 b u e), fun b u e => k4 b u (fun z => by rw [(fin b z).2] at e; cases e) (a2 b u e), a3, fs, f :: g2, RpCs.frame (Same.refl F) eq1 h1,
    ⟨_, _, _, _, rfl, rfl, k1, RpCs.frame (Same.refl F) eq2 h4⟩, ?_, fun b hb => ?_⟩
  · rw [List.flatten_cons, List.nodup_append, List.nodup_append]
    refine ⟨n1, ⟨k2, n4, fun a ha b hb z => ?_⟩, fun a ha b hb z => ?_⟩
    · subst z
      rcases k3 a ha with q | q
      · exact n5 a q a hb rfl
      · exact l4 a hb q
    · subst z
      rcases List.mem_append.mp hb with hb | hb
      · rcases k3 a hb with q | q
        · exact n3 a ha a (List.mem_append_left _ q) rfl
        · exact l1 a ha q
      · exact n3 a ha a (List.mem_append_right _ hb) rfl
  · simp only [List.flatten_cons, List.mem_append] at hb
    rcases hb with hb | hb | hb
    · exact m b (List.mem_append_left _ hb)
    · rcases k3 b hb with q | q
      · exact fin b q
      · exact ⟨a1.free q, a2.free q⟩
    · exact m b (List.mem_append_right _ (List.mem_append_right _ hb))
/-- some temporaries become one thing -/
theorem Sep.change (s : Sep K F R H σ ε (T1 ++ T)) (k : ∀ gs, RpCs K F H (T1.map fun p => some p.1) (T1.map (·.2)) gs → gs.flatten.Nodup → (∀ b ∈ gs.flatten, F b = none) → ∃ f, RpC K F H' (some v) c f ∧ f.Nodup ∧ (∀ b ∈ f, b ∈ gs.flatten ∨ H b = none) ∧ ∀ b u, b ∉ gs.flatten → H b = some u → H' b = some u) :
    Sep K F R H' σ ε ((v, c) :: T) := by
  obtain ⟨gs, g1, g2, g3, g4⟩ := s.opens
  obtain ⟨f, k1, k2, k3, k4⟩ := k gs g1 g2 g3
  exact g4 _ _ _ f k1 k2 k3 k4
/-- a new list -/
theorem Sep.newL (s : Sep K F R H σ ε T) {p : Addr} {vs : List V} {ds : List D} (hp : H p = none) (r : Reps K.1 F vs ds) : Sep K F R (upd H p (.lst vs)) σ ε ((.ref p, .ls ds) :: T) :=
  Sep.change (T1 := []) s fun gs h n _ => ⟨[p], ⟨p, vs, rfl, rfl, upd_same, r⟩, by simp, fun b hb => .inr (by rw [List.mem_singleton.mp hb]; exact hp), fun b u _ e => by rw [upd_ne (ne_of_none e hp)]; exact e⟩
theorem Sep.hd {a : Addr} {ds : List D} (s : Sep K F R H σ ε ((.ref a, .ls ds) :: T)) : ∃ vs, H a = some (.lst vs) ∧ Reps K.1 F vs ds ∧ F a = none := by
  obtain ⟨f, ⟨b, vs, e1, e2, e3, e4⟩, m⟩ := s.headT
  cases e1
  exact ⟨vs, e3, e4, (m a (by rw [e2]; exact List.mem_cons_self)).1⟩
theorem Sep.hdL {ds : List D} (s : Sep K F R H σ ε ((v, .ls ds) :: T)) : ∃ a vs, v = .ref a ∧ H a = some (.lst vs) ∧ F a = none ∧ Reps K.1 F vs ds := by
  obtain ⟨f, ⟨b, vs, e1, e2, e3, e4⟩, m⟩ := s.headT
  cases e1
  exact ⟨b, vs, rfl, e3, (m b (by rw [e2]; exact List.mem_cons_self)).1, e4⟩
/-- an own list rewritten -/
theorem Sep.wr {a : Addr} {ds es : List D} {ws : List V} (s : Sep K F R H σ ε ((.ref a, .ls ds) :: T)) (r : Reps K.1 F ws es) : Sep K F R (upd H a (.lst ws)) σ ε ((.ref a, .ls es) :: T) :=
  Sep.change (T1 := [(.ref a, .ls ds)]) s fun gs h n _ => by
    obtain ⟨o, r0, f, fr, e1, e2, ⟨b, vs, e3, e4, e5, e6⟩, h4⟩ := h
    obtain ⟨rfl, rfl⟩ := List.cons.inj e1
    cases e3
    have ha : a ∈ gs.flatten := by rw [e2, e4]; simp
    exact ⟨[a], ⟨a, ws, rfl, rfl, upd_same, r⟩, by simp, fun b hb => .inl (by rw [List.mem_singleton.mp hb]; exact ha), fun b u hb e => by rw [upd_ne (by rintro rfl; exact hb ha)]; exact e⟩
/-- what is held becomes frozen -/
theorem Sep.freeze (s : Sep K F R H σ ε ((v, c) :: T)) (h : cD c = some d) : ∃ F', Same F F' ∧ Rep K.1 F' v d ∧ Sep K F' R H σ ε T := by
  obtain ⟨a1, a2, a3, ⟨fs, gs, h1, ⟨o, r, f, fr, e1, e2, h2, h3⟩, n, m⟩⟩ := s
  subst e2
  obtain ⟨rfl, rfl⟩ := List.cons.inj e1
  let F' : Hp := fun b => if b ∈ f then H b else F b
  have i1 : ∀ {b}, b ∈ f → F' b = H b := fun {b} hb => if_pos hb
  have i2 : ∀ {b}, b ∉ f → F' b = F b := fun {b} hb => if_neg hb
  have fin : ∀ b, b ∈ f → F b = none ∧ R b = none := fun b hb => m b (by simp [hb])
  have fm : Same F F' := fun b u e => by
    rw [i2 fun z => by rw [(fin b z).1] at e; cases e]; exact e
  rw [List.flatten_cons, List.nodup_append, List.nodup_append] at n
  obtain ⟨n1, ⟨n2, n4, n5⟩, n3⟩ := n
  refine ⟨F', fm, ?_, ⟨fun b u e => ?_, a2, fun b hb => ?_, fs, fr, RpCs.frame fm (fun _ _ => rfl) h1, RpCs.frame fm (fun _ _ => rfl) h3, ?_, fun b hb => ?_⟩⟩
  · cases c with
    | no => cases h
    | sh d' =>
      cases h
      obtain ⟨_, w, e, q⟩ := h2
      cases e
      exact Rep.mono fm _ _ q
    | ls ds =>
      cases h
      obtain ⟨a, vs, e, e3, e4, e5⟩ := h2
      cases e
      exact ⟨a, vs, rfl, .inl (.inl ((i1 (by rw [e3]; exact List.mem_cons_self)).trans e4)), Reps.mono fm _ _ e5⟩
    | dc k kds => cases h
    | ob k cs => cases h
    | px _ _ _ _ => cases h
    | fn _ => cases h
    | fd _ => cases h
    | fk _ => cases h
  · by_cases q : b ∈ f
    · rw [i1 q] at e; exact e
    · rw [i2 q] at e; exact a1 b u e
  · by_cases q : b ∈ f
    · exact (fin b q).2
    · rw [i2 q] at hb; exact a3 b hb
  · rw [List.nodup_append]
    exact ⟨n1, n4, fun a ha b hb => n3 a ha b (List.mem_append_right _ hb)⟩
  · have q : b ∉ f := fun z => by
      rcases List.mem_append.mp hb with hb | hb
      · exact n3 b hb b (List.mem_append_left _ z) rfl
      · exact n5 b z b hb rfl
    rw [i2 q]
    refine m b ?_
    simp only [List.flatten_cons, List.mem_append] at hb ⊢
    rcases hb with hb | hb
    · exact .inl hb
    · exact .inr (.inr hb)
/-- a slot's cell frozen -/
theorem Sep.freezeAt (s : Sep K F R H σ ε T) (h : ε[i]? = some c) (hd : cD c = some d) : ∃ F' v, Same F F' ∧ σ[i]? = some (some v) ∧ Rep K.1 F' v d ∧ Sep K F' R H σ (ε.set i (.sh d)) T := by
  obtain ⟨v, hv⟩ := s.val h (by rintro rfl; cases hd)
  obtain ⟨F', fm, r, s'⟩ := (s.take h hv).freeze hd
  have := (s'.addSh r).put hv
  rw [List.set_set] at this
  exact ⟨F', v, fm, hv, r, this⟩
/-- a pure operation's result is held -/
theorem Sep.res (s : Sep K F R H σ ε T) (g : Grow K.1 F H F' H' v c) : Sep K F' R H' σ ε ((v, c) :: T) := by
  have s' := s.grow g.grw
  cases c with
  | no => exact g.rep.elim
  | sh d => exact s'.addSh g.rep
  | ls ds =>
    obtain ⟨a, vs, rfl, h1, h2, h3⟩ := g.rep
    have hn := g.new ds a rfl rfl
    -- the rest does not hold a
    obtain ⟨a1, a2, a3, ⟨fs, gs, k1, k2, n, m⟩⟩ := s
    obtain ⟨b1, b2, b3, ⟨fs', gs', k1', k2', n', m'⟩⟩ := s'
    have eq : ∀ b, H b ≠ none → H' b = H b := fun b hb => by
      cases q : H b with
      | none => exact absurd q hb
      | some u => exact g.hm b u q
    have q1 := RpCs.frame g.fm (fun b hb => eq b (RpCs.live k1 b hb)) k1
    have q2 := RpCs.frame g.fm (fun b hb => eq b (RpCs.live k2 b hb)) k2
    have na1 : a ∉ fs.flatten := fun z => RpCs.live k1 a z hn
    have na2 : a ∉ gs.flatten := fun z => RpCs.live k2 a z hn
    have fF : ∀ b, b ∈ fs.flatten ++ gs.flatten → F' b = none := fun b hb => by
      by_cases q : F' b = none
      · exact q
      · have z := g.ff b (m b hb).1 q
        rcases List.mem_append.mp hb with hb | hb
        · exact absurd z (RpCs.live k1 b hb)
        · exact absurd z (RpCs.live k2 b hb)
    refine ⟨b1, b2, b3, fs, [a] :: gs, q1, ⟨_, _, _, _, rfl, rfl, ⟨a, vs, rfl, rfl, h1, h3⟩, q2⟩, ?_, fun b hb => ?_⟩
    · rw [List.nodup_append] at n
      rw [List.flatten_cons, List.nodup_append, List.nodup_append]
      refine ⟨n.1, ⟨by simp, n.2.1, fun x hx y hy z => na2 (by rw [← List.mem_singleton.mp hx, z]; exact hy)⟩, fun x hx y hy z => ?_⟩
      subst z
      rcases List.mem_append.mp hy with hy | hy
      · exact na1 (by rw [← List.mem_singleton.mp hy]; exact hx)
      · exact n.2.2 x hx x hy rfl
    · simp only [List.flatten_cons, List.mem_append, List.mem_singleton] at hb
      rcases hb with hb | rfl | hb
      · exact ⟨fF b (List.mem_append_left _ hb), (m b (List.mem_append_left _ hb)).2⟩
      · exact ⟨h2, a2.free hn⟩
      · exact ⟨fF b (List.mem_append_right _ hb), (m b (List.mem_append_right _ hb)).2⟩
  | dc k kds => exact g.rep.elim
  | ob k cs => exact g.rep.elim
  | px _ _ _ _ => exact g.rep.elim
  | fn _ => exact g.rep.elim
  | fd _ => exact g.rep.elim
  | fk _ => exact g.rep.elim
end
abbrev EM := Cs → Option (C × Cs)
def tE (K : Ek) (m : EM) : TE := fun σ H Q => ∃ F R ε c ε', Sep K F R H σ ε [] ∧ m ε = some (c, ε') ∧ ∀ v F' H', Same F F' → Sep K F' R H' σ ε' [(v, c)] → Q v H'
/-- an operand: the object that a slot names (read when the operation is done), or a value of its own -/
inductive Opd where
  | pl (i : Nat) | tm (c : C)
inductive OpV (σ : St) : List V → List Opd → Prop where
  | nil : OpV σ [] []
  | pl {i : Nat} {v : V} {vs : List V} {os : List Opd} : σ[i]? = some (some v) → OpV σ vs os → OpV σ (v :: vs) (.pl i :: os)
  | tm {c : C} {v : V} {vs : List V} {os : List Opd} : OpV σ vs os → OpV σ (v :: vs) (.tm c :: os)
theorem OpV.len {σ : St} {vs : List V} {os : List Opd} (h : OpV σ vs os) : vs.length = os.length := by
  induction h with
  | nil => rfl
  | pl _ _ ih => simp [ih]
  | tm _ ih => simp [ih]
def tmO : List Opd → List V → Tms
  | .tm c :: os, v :: vs => (v, c) :: tmO os vs
  | .pl _ :: os, _ :: vs => tmO os vs
  | _, _ => []
abbrev OM := Cs → Option (Opd × Cs)
abbrev AM := Cs → Option (List Opd × Cs)
def tO (K : Ek) (m : OM) : TE := fun σ H Q => ∃ F R ε o ε', Sep K F R H σ ε [] ∧ m ε = some (o, ε') ∧ ∀ v F' H', Same F F' → OpV σ [v] [o] → Sep K F' R H' σ ε' (tmO [o] [v]) → Q v H'
def tA (K : Ek) (m : AM) : TA := fun σ H Q => ∃ F R ε os ε', Sep K F R H σ ε [] ∧ m ε = some (os, ε') ∧ ∀ vs F' H', Same F F' → OpV σ vs os → Sep K F' R H' σ ε' (tmO os vs) → Q vs H'
def mNil : AM := fun ε => some ([], ε)
def mCons (m : OM) (r : AM) : AM := fun ε => do
  let (o, ε1) ← m ε
  let (os, ε2) ← r ε1
  some (o :: os, ε2)
theorem tA_nil {K : Ek} {σ : St} {H : Hp} {Q : List V → Hp → Prop} (h : tA K mNil σ H Q) : tNil σ H Q := by
  obtain ⟨F, R, ε, os, ε', o, e, q⟩ := h
  cases e
  exact q [] F H (Same.refl F) .nil o
theorem tA_cons {K : Ek} {m : OM} {r : AM} {σ : St} {H : Hp} {Q : List V → Hp → Prop} (h : tA K (mCons m r) σ H Q) : tCons (tO K m) (tA K r) σ H Q := by
  obtain ⟨F, R, ε, os, ε', o, e, q⟩ := h
  unfold mCons at e
  cases e1 : m ε with
  | none => rw [e1] at e; cases e
  | some p =>
    obtain ⟨o1, ε1⟩ := p
    rw [e1] at e
    cases e2 : r ε1 with
    | none => simp [e2] at e
    | some p2 =>
      obtain ⟨os2, ε2⟩ := p2
      simp [e2] at e
      obtain ⟨rfl, rfl⟩ := e
      refine ⟨F, R, ε, o1, ε1, o, e1, fun v F1 H1 fm1 v1 s1 => ?_⟩
      cases v1 with
      | pl hv _ => exact ⟨F1, R, ε1, os2, ε2, s1, e2, fun vs F2 H2 fm2 v2 s2 => q (v :: vs) F2 H2 (fm1.trans fm2) (.pl hv v2) s2⟩
      | tm _ =>
        obtain ⟨R1, _, s1', back⟩ := s1.hide
        exact ⟨F1, R1, ε1, os2, ε2, s1', e2, fun vs F2 H2 fm2 v2 s2 => q (v :: vs) F2 H2 (fm1.trans fm2) (.tm v2) (back F2 H2 σ ε2 _ fm2 s2)⟩
def bor (ε : Cs) : Opd → Option D
  | .pl i => match ε[i]? with
    | some (.sh d) => some d
    | some (.ls ds) => some (.list ds)
    | _ => none
  | .tm (.sh d) => some d
  | .tm (.ls ds) => some (.list ds)
  | .tm _ => none
def bors (ε : Cs) : List Opd → Option (List D)
  | [] => some []
  | o :: os => do
    let d ← bor ε o
    let ds ← bors ε os
    some (d :: ds)
def RepB (K : PySem.W.Frag) (F H : Hp) (v : V) (d : D) : Prop := Rep K F v d ∨ ∃ a ws ds, v = .ref a ∧ d = .list ds ∧ H a = some (.lst ws) ∧ Reps K F ws ds
inductive RepBs (K : PySem.W.Frag) (F H : Hp) : List V → List D → Prop where
  | nil : RepBs K F H [] []
  | cons {v : V} {d : D} {vs : List V} {ds : List D} : RepB K F H v d → RepBs K F H vs ds → RepBs K F H (v :: vs) (d :: ds)
section
variable {K : Ek} {F R H : Hp} {σ : St} {ε : Cs} {T : Tms}
theorem Sep.repB_pl {i : Nat} {d : D} {v : V} (s : Sep K F R H σ ε T) (hv : σ[i]? = some (some v)) (e1 : bor ε (.pl i) = some d) : RepB K.1 F H v d := by
  unfold bor at e1
  cases e3 : ε[i]? with
  | none => simp [e3] at e1
  | some c =>
    cases c with
    | no => simp [e3] at e1
    | sh d' =>
      simp [e3] at e1
      subst e1
      obtain ⟨w, h1, h2⟩ := s.sh e3
      rw [hv] at h1
      cases h1
      exact .inl h2
    | ls es =>
      simp [e3] at e1
      subst e1
      obtain ⟨a, ws, h1, h2, h4⟩ := s.lst e3
      rw [hv] at h1
      cases h1
      exact .inr ⟨a, ws, es, rfl, rfl, h2, h4⟩
    | dc _ _ => simp [e3] at e1
    | ob _ _ => simp [e3] at e1
    | px _ _ _ _ => simp [e3] at e1
    | fn _ => simp [e3] at e1
    | fd _ => simp [e3] at e1
    | fk _ => simp [e3] at e1
theorem Sep.repB_tm {c : C} {d : D} {v : V} (s : Sep K F R H σ ε ((v, c) :: T)) (e1 : bor ε (.tm c) = some d) : RepB K.1 F H v d := by
  cases c with
  | no => cases e1
  | sh d' => cases e1; exact .inl s.repT
  | ls es =>
    cases e1
    obtain ⟨a, vs, rfl, h1, h2, h3⟩ := s.hdL
    exact .inr ⟨a, vs, es, rfl, rfl, h1, h3⟩
  | dc _ _ => cases e1
  | ob _ _ => cases e1
  | px _ _ _ _ => cases e1
  | fn _ => cases e1
  | fd _ => cases e1
  | fk _ => cases e1
theorem bors_ok : ∀ {os : List Opd} {vs : List V} {T : Tms} {ds : List D}, Sep K F R H σ ε (tmO os vs ++ T) → OpV σ vs os → bors ε os = some ds → RepBs K.1 F H vs ds
  | [], vs, T, ds, s, h, e => by
    cases h
    cases e
    exact .nil
  | o :: os, vs, T, ds, s, h, e => by
    unfold bors at e
    cases e1 : bor ε o with
    | none => simp [e1] at e
    | some d =>
      cases e2 : bors ε os with
      | none => simp [e1, e2] at e
      | some ds2 =>
        simp [e1, e2] at e
        subst e
        cases h with
        | pl hv h2 => exact .cons (s.repB_pl hv e1) (bors_ok s h2 e2)
        | tm h2 => exact .cons (s.repB_tm e1) (bors_ok s.drop h2 e2)
end
/-- an operation by its table: f tells its answer, r is what the hand layer asks -/
def FnB (K : PySem.W.Frag) (f : List D → Option C) (r : List V → Hp → VK → Prop) : Prop :=
  ∀ F H vs ds c Q, Same F H → RepBs K F H vs ds → f ds = some c → (∀ v F' H', Grow K F H F' H' v c → Q v H') → r vs H Q
def mOp (f : List D → Option C) (ma : AM) : EM := fun ε => do
  let (os, ε1) ← ma ε
  let ds ← bors ε1 os
  let c ← f ds
  some (c, ε1)
theorem op_sem {K : Ek} {f : List D → Option C} {r : List V → Hp → VK → Prop} (hf : FnB K.1 f r) {ma : AM} {σ : St} {H : Hp} {Q : VK} (h : tE K (mOp f ma) σ H Q) : tA K ma σ H (fun vs H' => r vs H' Q) := by
  obtain ⟨F, R, ε, c, ε', o, e, q⟩ := h
  unfold mOp at e
  cases e1 : ma ε with
  | none => simp [e1] at e
  | some p =>
    obtain ⟨os, ε1⟩ := p
    cases e2 : bors ε1 os with
    | none => simp [e1, e2] at e
    | some ds =>
      cases e3 : f ds with
      | none => simp [e1, e2, e3] at e
      | some c' =>
        simp [e1, e2, e3] at e
        obtain ⟨rfl, rfl⟩ := e
        refine ⟨F, R, ε, os, ε1, o, e1, fun vs F1 H1 fm1 v1 s1 => ?_⟩
        rw [← List.append_nil (tmO os vs)] at s1
        refine hf F1 H1 vs ds c' Q s1.sub (bors_ok s1 v1 e2) e3 fun v F2 H2 g => ?_
        exact q v F2 H2 (fm1.trans g.fm) ((s1.drops _).res g)
end L2.M
namespace L2.M
open PySem PySem.Spec PyProof.Rows
section
variable {X : Cx} {e : Expr} {t t' : TE}
theorem _root_.L2.PE.weak (h : PE X e t) (w : ∀ σ H Q, t' σ H Q → t σ H Q) : PE X e t' := ⟨fun pins s σ H Q I q => h.run pins s σ H Q I (w σ H Q q)⟩
theorem _root_.L2.PT.weak {t t' : TT} (h : PT X e t) (w : ∀ σ H Q, t' σ H Q → t σ H Q) : PT X e t' := ⟨fun pins s σ H Q I q => h.run pins s σ H Q I (w σ H Q q)⟩
theorem _root_.L2.PW.weak {t t' : TT} (h : PW X e t) (w : ∀ σ H Q, t' σ H Q → t σ H Q) : PW X e t' := ⟨fun wh pins s σ H Q I q => h.run wh pins s σ H Q I (w σ H Q q)⟩
theorem _root_.L2.PA.weak {es : List Expr} {t t' : TA} (h : PA X es t) (w : ∀ σ H Q, t' σ H Q → t σ H Q) : PA X es t' := ⟨fun pos pins s σ H Q I q => h.run pos pins s σ H Q I (w σ H Q q)⟩
end
theorem tO_mono {K : Ek} {m : OM} {σ : St} {H : Hp} {Q Q' : VK} (h : tO K m σ H Q) (w : ∀ v H', Q v H' → Q' v H') : tO K m σ H Q' := by
  obtain ⟨F, R, ε, o, ε', a, b, c⟩ := h
  exact ⟨F, R, ε, o, ε', a, b, fun v F' H' fm s r => w _ _ (c v F' H' fm s r)⟩
theorem tA_mono {K : Ek} {m : AM} {σ : St} {H : Hp} {Q Q' : List V → Hp → Prop} (h : tA K m σ H Q) (w : ∀ v H', Q v H' → Q' v H') : tA K m σ H Q' := by
  obtain ⟨F, R, ε, o, ε', a, b, c⟩ := h
  exact ⟨F, R, ε, o, ε', a, b, fun v F' H' fm s r => w _ _ (c v F' H' fm s r)⟩
def mK (d : D) : EM := fun ε => some (.sh d, ε)
theorem tE_k {K : Ek} {d : D} {v : V} (r : ∀ F, Rep K.1 F v d) {σ : St} {H : Hp} {Q : VK} (h : tE K (mK d) σ H Q) : tC v σ H Q := by
  obtain ⟨F, R, ε, c, ε', o, e, q⟩ := h
  cases e
  exact q v F H (Same.refl F) (o.addSh (r F))
section
variable {X : Cx} {pos : Pos} {j : Nat}
theorem me_int {i : Int} : PE X (.Constant (.int i) j pos) (tE X.E (mK (.int i))) := pe_int.weak fun _ _ _ => tE_k (d := .int i) (v := .int i) fun _ => by simp [Rep]
theorem me_str {i : Str} : PE X (.Constant (.str i) j pos) (tE X.E (mK (.str i))) := pe_str.weak fun _ _ _ => tE_k (d := .str i) (v := .str i) fun _ => by simp [Rep]
theorem me_bl {i : Bool} : PE X (.Constant (.bool i) j pos) (tE X.E (mK (.bool i))) := pe_bl.weak fun _ _ _ => tE_k (d := .bool i) (v := .bl i) fun _ => by simp [Rep]
theorem me_non : PE X (.Constant .none j pos) (tE X.E (mK .none)) := pe_non.weak fun _ _ _ => tE_k (d := .none) (v := .non) fun _ => by simp [Rep]
end
def mPl (i : Nat) : OM := fun ε => match ε[i]? with
  | some (.sh _) => some (.pl i, ε)
  | some (.ls _) => some (.pl i, ε)
  | some (.dc _ _) => some (.pl i, ε)
  | some (.ob _ _) => some (.pl i, ε)
  | some (.px _ _ _ _) => some (.pl i, ε)
  | some (.fn _) => some (.pl i, ε)
  | some (.fd _) => some (.pl i, ε)
  | some (.fk _) => some (.pl i, ε)
  | _ => none
theorem mPl_eq {i : Nat} {ε ε' : Cs} {o : Opd} (h : mPl i ε = some (o, ε')) : o = .pl i ∧ ε' = ε ∧ ∃ c, ε[i]? = some c ∧ c ≠ .no := by
  unfold mPl at h
  split at h
  · rename_i hh; cases h; exact ⟨rfl, rfl, _, hh, fun z => nomatch z⟩
  · rename_i hh; cases h; exact ⟨rfl, rfl, _, hh, fun z => nomatch z⟩
  · rename_i hh; cases h; exact ⟨rfl, rfl, _, hh, fun z => nomatch z⟩
  · rename_i hh; cases h; exact ⟨rfl, rfl, _, hh, fun z => nomatch z⟩
  · rename_i hh; cases h; exact ⟨rfl, rfl, _, hh, fun z => nomatch z⟩
  · rename_i hh; cases h; exact ⟨rfl, rfl, _, hh, fun z => nomatch z⟩
  · rename_i hh; cases h; exact ⟨rfl, rfl, _, hh, fun z => nomatch z⟩
  · rename_i hh; cases h; exact ⟨rfl, rfl, _, hh, fun z => nomatch z⟩
  · cases h
theorem mo_name {X : Cx} {i : Nat} {x : Str} {pos : Pos} (h : PE X (.Name x pos) (tVar i)) : PE X (.Name x pos) (tO X.E (mPl i)) := h.weak fun σ H Q q => by
  obtain ⟨F, R, ε, o, ε', s, e, q⟩ := q
  obtain ⟨rfl, rfl, c, hc, hn⟩ := mPl_eq e
  obtain ⟨v, hv⟩ := s.val hc hn
  exact ⟨v, hv, q v F H (Same.refl F) (.pl hv .nil) s⟩
/-- a name as a value: an owned list is frozen -/
def mVar (i : Nat) : EM := fun ε => match ε[i]? with
  | some (.sh d) => some (.sh d, ε)
  | some (.ls ds) => some (.sh (.list ds), ε.set i (.sh (.list ds)))
  | _ => none
theorem Sep.frzVal {K : Ek} {F R H : Hp} {σ : St} {ε : Cs} {i : Nat} {c : C} {d : D} (s : Sep K F R H σ ε []) (h : ε[i]? = some c) (hd : cD c = some d) {Q : VK} (q : ∀ v F' H', Same F F' → Sep K F' R H' σ (ε.set i (.sh d)) [(v, .sh d)] → Q v H') : ∃ v, σ[i]? = some (some v) ∧ Q v H := by
  obtain ⟨F', v, fm, hv, r, s'⟩ := s.freezeAt h hd
  exact ⟨v, hv, q v F' H fm (s'.addSh r)⟩
theorem me_name {X : Cx} {i : Nat} {x : Str} {pos : Pos} (h : PE X (.Name x pos) (tVar i)) : PE X (.Name x pos) (tE X.E (mVar i)) := h.weak fun σ H Q q => by
  obtain ⟨F, R, ε, c, ε', s, e, q⟩ := q
  unfold mVar at e
  split at e
  · rename_i d hd
    cases e
    obtain ⟨v, h1, h2⟩ := s.sh hd
    exact ⟨v, h1, q v F H (Same.refl F) (s.addSh h2)⟩
  · rename_i ds hd
    cases e
    exact s.frzVal hd rfl q
  · cases e
def mTm (m : EM) : OM := fun ε => do
  let (c, ε1) ← m ε
  some (.tm c, ε1)
theorem tO_tm {K : Ek} {m : EM} {σ : St} {H : Hp} {Q : VK} (h : tO K (mTm m) σ H Q) : tE K m σ H Q := by
  obtain ⟨F, R, ε, o, ε', s, e, q⟩ := h
  unfold mTm at e
  cases e1 : m ε with
  | none => simp [e1] at e
  | some p =>
    obtain ⟨c, ε1⟩ := p
    simp [e1] at e
    obtain ⟨rfl, rfl⟩ := e
    exact ⟨F, R, ε, c, ε1, s, e1, fun v F' H' fm p => q v F' H' fm (.tm .nil) p⟩
theorem mo_tm {X : Cx} {e : Expr} {m : EM} (h : PE X e (tE X.E m)) : PE X e (tO X.E (mTm m)) := h.weak fun _ _ _ => tO_tm
def fzO : Opd → Cs → Option (D × Cs)
  | .pl i, ε => match ε[i]? with
    | some (.sh d) => some (d, ε)
    | some (.ls ds) => some (.list ds, ε.set i (.sh (.list ds)))
    | _ => none
  | .tm (.sh d), ε => some (d, ε)
  | .tm (.ls ds), ε => some (.list ds, ε)
  | .tm _, _ => none
def fzs : List Opd → Cs → Option (List D × Cs)
  | [], ε => some ([], ε)
  | o :: os, ε => do
    let (d, ε1) ← fzO o ε
    let (ds, ε2) ← fzs os ε1
    some (d :: ds, ε2)
section
variable {K : Ek} {F R H : Hp} {σ : St} {ε ε' : Cs} {T : Tms}
theorem fzO_pl {i : Nat} {v : V} {d : D} (s : Sep K F R H σ ε T) (hv : σ[i]? = some (some v)) (e : fzO (.pl i) ε = some (d, ε')) : ∃ F', Same F F' ∧ Rep K.1 F' v d ∧ Sep K F' R H σ ε' T := by
  have own : ∀ {c : C}, ε[i]? = some c → cD c = some d → ε' = ε.set i (.sh d) → ∃ F', Same F F' ∧ Rep K.1 F' v d ∧ Sep K F' R H σ ε' T := fun {c} h1 h2 h3 => by
    obtain ⟨F', w, fm, hw, r, s'⟩ := s.freezeAt h1 h2
    rw [hv] at hw
    cases hw
    exact ⟨F', fm, r, h3 ▸ s'⟩
  unfold fzO at e
  simp only at e
  split at e
  · rename_i d' hd
    cases e
    obtain ⟨w, h1, h2⟩ := s.sh hd
    rw [hv] at h1
    cases h1
    exact ⟨F, Same.refl F, h2, s⟩
  · rename_i ds hd
    cases e
    exact own hd rfl rfl
  · cases e
theorem fzO_tm {c : C} {v : V} {d : D} (s : Sep K F R H σ ε ((v, c) :: T)) (e : fzO (.tm c) ε = some (d, ε')) : ε' = ε ∧ ∃ F', Same F F' ∧ Rep K.1 F' v d ∧ Sep K F' R H σ ε T := by
  have h : cD c = some d ∧ ε' = ε := by
    unfold fzO at e
    split at e
    · rename_i h; cases h
    · rename_i h; cases h; cases e; exact ⟨rfl, rfl⟩
    · rename_i h; cases h; cases e; exact ⟨rfl, rfl⟩
    · cases e
  exact ⟨h.2, s.freeze h.1⟩
end
theorem fzs_ok {K : Ek} {R H : Hp} {σ : St} {T : Tms} : ∀ {os : List Opd} {vs : List V} {F : Hp} {ε ε' : Cs} {ds : List D}, Sep K F R H σ ε (tmO os vs ++ T) → OpV σ vs os → fzs os ε = some (ds, ε') → ∃ F', Same F F' ∧ Reps K.1 F' vs ds ∧ Sep K F' R H σ ε' T
  | [], vs, F, ε, ε', ds, s, h, e => by
    cases h
    cases e
    exact ⟨F, Same.refl F, rfl, s⟩
  | o :: os, vs, F, ε, ε', ds, s, h, e => by
    unfold fzs at e
    cases e1 : fzO o ε with
    | none => simp [e1] at e
    | some p =>
      obtain ⟨d, ε1⟩ := p
      cases e2 : fzs os ε1 with
      | none => simp [e1, e2] at e
      | some p2 =>
        obtain ⟨ds2, ε2⟩ := p2
        simp [e1, e2] at e
        obtain ⟨rfl, rfl⟩ := e
        cases h with
        | @pl _ v vs' _ hv h2 =>
          obtain ⟨F1, fm1, r1, s1⟩ := fzO_pl s hv e1
          obtain ⟨F2, fm2, r2, s2⟩ := fzs_ok (os := os) (vs := vs') s1 h2 e2
          exact ⟨F2, fm1.trans fm2, ⟨_, _, rfl, Rep.mono fm2 _ _ r1, r2⟩, s2⟩
        | tm h2 =>
          obtain ⟨rfl, F1, fm1, r1, s1⟩ := fzO_tm s e1
          obtain ⟨F2, fm2, r2, s2⟩ := fzs_ok s1 h2 e2
          exact ⟨F2, fm1.trans fm2, ⟨_, _, rfl, Rep.mono fm2 _ _ r1, r2⟩, s2⟩
def lend : List Opd → Cs → Option (List C × Cs)
  | [], ε => some ([], ε)
  | .pl i :: os, ε => match ε[i]? with
    | some (.sh d) => do
      let (cs, ε1) ← lend os ε
      some (.sh d :: cs, ε1)
    | some .no => none
    | none => none
    | some c => do
      let (cs, ε1) ← lend os (ε.set i .no)
      some (c :: cs, ε1)
  | .tm c :: os, ε => do
    let (cs, ε1) ← lend os ε
    some (c :: cs, ε1)
theorem lend_ok {K : Ek} {F H : Hp} {σ : St} {T : Tms} : ∀ {os : List Opd} {vs : List V} {R : Hp} {ε ε' : Cs} {cs : List C}, Sep K F R H σ ε (tmO os vs ++ T) → OpV σ vs os → lend os ε = some (cs, ε') → Sep K F R H σ ε' (vs.zip cs ++ T) ∧ cs.length = os.length
  | [], vs, R, ε, ε', cs, s, h, e => by
    cases h
    cases e
    exact ⟨s, rfl⟩
  | .tm c :: os, vs, R, ε, ε', cs, s, h, e => by
    unfold lend at e
    cases e2 : lend os ε with
    | none => simp [e2] at e
    | some p =>
      obtain ⟨cs2, ε2⟩ := p
      simp [e2] at e
      obtain ⟨rfl, rfl⟩ := e
      cases h with
      | tm h2 =>
        obtain ⟨R1, _, s1, back⟩ := s.hide
        obtain ⟨s2, l2⟩ := lend_ok s1 h2 e2
        exact ⟨back F H σ ε2 _ (Same.refl F) s2, by simp [l2]⟩
  | .pl i :: os, vs, R, ε, ε', cs, s, h, e => by
    cases h with
    | @pl _ v vs' _ hv h2 =>
      have fin : ∀ {c : C} {ε1 : Cs}, Sep K F R H σ ε1 ((v, c) :: (tmO os vs' ++ T)) → (do let (cs, ε2) ← lend os ε1; some (c :: cs, ε2)) = some (cs, ε') → Sep K F R H σ ε' ((v :: vs').zip cs ++ T) ∧ cs.length = (Opd.pl i :: os).length := fun {c ε1} s1 e => by
        cases e2 : lend os ε1 with
        | none => simp [e2] at e
        | some p =>
          obtain ⟨cs2, ε2⟩ := p
          simp [e2] at e
          obtain ⟨rfl, rfl⟩ := e
          obtain ⟨R1, _, s2, back⟩ := s1.hide
          obtain ⟨s3, l3⟩ := lend_ok s2 h2 e2
          exact ⟨back F H σ ε2 _ (Same.refl F) s3, by simp [l3]⟩
      unfold lend at e
      cases hc : ε[i]? with
      | none => simp [hc] at e
      | some c =>
        cases c with
        | no => simp [hc] at e
        | sh d => exact fin (s.copy hc hv) (by simpa [hc] using e)
        | ls ds => exact fin (s.take hc hv) (by simpa [hc] using e)
        | dc k ds => exact fin (s.take hc hv) (by simpa [hc] using e)
        | ob k ds => exact fin (s.take hc hv) (by simpa [hc] using e)
        | px _ _ _ _ => exact fin (s.take hc hv) (by simpa [hc] using e)
        | fn _ => exact fin (s.take hc hv) (by simpa [hc] using e)
        | fd _ => exact fin (s.take hc hv) (by simpa [hc] using e)
        | fk _ => exact fin (s.take hc hv) (by simpa [hc] using e)
def tTupH (t : TA) : TE := fun σ H Q => t σ H fun xs H1 => xs.length ≤ sizeLine ∧ ∀ (p : Addr) (o : Obj), o.dict = none → H1 p = none → Q (.ref p) (upd H1 p (.frz o (.tup xs)))
/-- a tuple is laid, known to have no dict -/
theorem pe_tupH {X : Cx} {es : List Expr} {t : TA} {x1 : Nat} {pos : Pos} (h : PA X es t) : PE X (.Tuple es x1 pos) (tTupH t) := by
  refine ⟨fun pins s σ H Q I hq => ?_⟩
  refine wpAny_Tuple_spliced (thn (h.run pos pins s σ H _ I hq) fun us s1 ⟨xs, H1, I1, r, z, q⟩ => ⟨by rw [← r.length]; exact z, ?_⟩)
  have hf : H1 s1.heap.objs.size = none := I1.hok.fresh (Nat.le_refl _)
  refine ⟨.ref s1.heap.objs.size, upd H1 s1.heap.objs.size (.frz { cls := .type "tuple", data := .seq us.toArray } (.tup xs)), I1.laid (t' := s1.toks) (fun b u e => Heap.get?_push_of_some _ e) (Nat.le_refl _) ?_, rfl, q _ _ rfl hf⟩
  exact ⟨Heap.get?_push_size _ rfl, z, us, r, IsTup.new _ _⟩
def mTup (ma : AM) : EM := fun ε => do
  let (os, ε1) ← ma ε
  let (ds, ε2) ← fzs os ε1
  if ds.length ≤ sizeLine then some (.sh (.tuple ds), ε2) else none
def mLst (ma : AM) : EM := fun ε => do
  let (os, ε1) ← ma ε
  let (ds, ε2) ← fzs os ε1
  if ds.length ≤ sizeLine then some (.ls ds, ε2) else none
/-- a list of own things -/
def mLstN (ma : AM) : EM := fun ε => do
  let (os, ε1) ← ma ε
  let (cs, ε2) ← lend os ε1
  if cs.length ≤ sizeLine then some (.ob .ls cs, ε2) else none
theorem tE_tup {K : Ek} {ma : AM} {σ : St} {H : Hp} {Q : VK} (h : tE K (mTup ma) σ H Q) : tTupH (tA K ma) σ H Q := by
  obtain ⟨F, R, ε, c, ε', s, e, q⟩ := h
  unfold mTup at e
  cases e1 : ma ε with
  | none => simp [e1] at e
  | some p =>
    obtain ⟨os, ε1⟩ := p
    cases e2 : fzs os ε1 with
    | none => simp [e1, e2] at e
    | some p2 =>
      obtain ⟨ds, ε2⟩ := p2
      simp [e1, e2] at e
      obtain ⟨hl, rfl, rfl⟩ := e
      refine ⟨F, R, ε, os, ε1, s, e1, fun vs F1 H1 fm1 v1 s1 => ?_⟩
      rw [← List.append_nil (tmO os vs)] at s1
      obtain ⟨F2, fm2, r2, s2⟩ := fzs_ok s1 v1 e2
      refine ⟨by rw [r2.length]; exact hl, fun p o ho hp => ?_⟩
      have g := Grw.laid (u := .frz o (.tup vs)) s2.sub hp
      exact q _ _ _ ((fm1.trans fm2).trans g.fm) ((s2.grow g).addSh ⟨p, vs, rfl, ⟨o, ho, upd_same⟩, Reps.mono g.fm _ _ r2⟩)
theorem tE_lst {K : Ek} {ma : AM} {σ : St} {H : Hp} {Q : VK} (h : tE K (mLst ma) σ H Q) : tLst (tA K ma) σ H Q := by
  obtain ⟨F, R, ε, c, ε', s, e, q⟩ := h
  unfold mLst at e
  cases e1 : ma ε with
  | none => simp [e1] at e
  | some p =>
    obtain ⟨os, ε1⟩ := p
    cases e2 : fzs os ε1 with
    | none => simp [e1, e2] at e
    | some p2 =>
      obtain ⟨ds, ε2⟩ := p2
      simp [e1, e2] at e
      obtain ⟨hl, rfl, rfl⟩ := e
      refine ⟨F, R, ε, os, ε1, s, e1, fun vs F1 H1 fm1 v1 s1 => ?_⟩
      rw [← List.append_nil (tmO os vs)] at s1
      obtain ⟨F2, fm2, r2, s2⟩ := fzs_ok s1 v1 e2
      refine ⟨by rw [r2.length]; exact hl, fun p hp => ?_⟩
      exact q _ _ _ (fm1.trans fm2) (s2.newL hp r2)
section
variable {X : Cx} {es : List Expr} {m : AM} {pos : Pos} {k : Nat}
theorem me_tup (h : PA X es (tA X.E m)) : PE X (.Tuple es k pos) (tE X.E (mTup m)) := (pe_tupH h).weak fun _ _ _ => tE_tup
theorem me_lst (h : PA X es (tA X.E m)) : PE X (.List es pos) (tE X.E (mLst m)) := (pe_lst h).weak fun _ _ _ => tE_lst
theorem ma_nil : PA X [] (tA X.E mNil) := pa_nil.weak fun _ _ _ => tA_nil
end
def mU (f : D → Option C) (a : OM) : EM := fun ε => do
  let (o1, ε1) ← a ε
  let d1 ← bor ε1 o1
  let c ← f d1
  some (c, ε1)
def mB (f : D → D → Option C) (a b : OM) : EM := fun ε => do
  let (o1, ε1) ← a ε
  let (o2, ε2) ← b ε1
  let d1 ← bor ε2 o1
  let d2 ← bor ε2 o2
  let c ← f d1 d2
  some (c, ε2)
def Fn1 (K : PySem.W.Frag) (f : D → Option C) (r : V → Hp → VK → Prop) : Prop :=
  ∀ F H x d c Q, Same F H → RepB K F H x d → f d = some c → (∀ v F' H', Grow K F H F' H' v c → Q v H') → r x H Q
def Fn2 (K : PySem.W.Frag) (f : D → D → Option C) (r : V → V → Hp → VK → Prop) : Prop :=
  ∀ F H x y d e c Q, Same F H → RepB K F H x d → RepB K F H y e → f d e = some c → (∀ v F' H', Grow K F H F' H' v c → Q v H') → r x y H Q
def lf1 (f : D → Option C) : List D → Option C | [a] => f a | _ => none
def lf2 (f : D → D → Option C) : List D → Option C | [a, b] => f a b | _ => none
theorem mU_eq (f : D → Option C) (a : OM) : mU f a = mOp (lf1 f) (mCons a mNil) := by
  funext ε
  unfold mU mOp mCons mNil
  cases a ε with
  | none => rfl
  | some p =>
    obtain ⟨o, ε1⟩ := p
    simp [bors]
    cases bor ε1 o <;> rfl
theorem mB_eq (f : D → D → Option C) (a b : OM) : mB f a b = mOp (lf2 f) (mCons a (mCons b mNil)) := by
  funext ε
  unfold mB mOp mCons mNil
  cases a ε with
  | none => rfl
  | some p =>
    obtain ⟨o, ε1⟩ := p
    cases hb : b ε1 with
    | none => simp [hb]
    | some p2 =>
      obtain ⟨o2, ε2⟩ := p2
      simp [hb, bors]
      cases bor ε2 o <;> simp
      cases bor ε2 o2 <;> rfl
theorem RepBs.one {K : PySem.W.Frag} {F H : Hp} {vs : List V} {d : D} (h : RepBs K F H vs [d]) : ∃ x, vs = [x] ∧ RepB K F H x d := by
  cases h with
  | cons h t => cases t; exact ⟨_, rfl, h⟩
theorem RepBs.two {K : PySem.W.Frag} {F H : Hp} {vs : List V} {d e : D} (h : RepBs K F H vs [d, e]) : ∃ x y, vs = [x, y] ∧ RepB K F H x d ∧ RepB K F H y e := by
  cases h with
  | cons h t =>
    obtain ⟨y, rfl, h2⟩ := t.one
    exact ⟨_, y, rfl, h, h2⟩
theorem tE_u {K : Ek} {f : D → Option C} {r : V → Hp → VK → Prop} (hf : Fn1 K.1 f r) {a : OM} {σ : St} {H : Hp} {Q : VK} (h : tE K (mU f a) σ H Q) : tO K a σ H fun x H1 => r x H1 Q := by
  rw [mU_eq] at h
  have hB : FnB K.1 (lf1 f) (fun vs H Q => ∃ x, vs = [x] ∧ r x H Q) := by
    intro F H vs ds c Q s hr e q
    match ds, e with
    | [d], e =>
      obtain ⟨x, rfl, h1⟩ := hr.one
      exact ⟨x, rfl, hf F H x d c Q s h1 e q⟩
  have := tA_cons (op_sem hB h)
  refine tO_mono this fun v H' h2 => ?_
  have h3 := tA_nil h2
  obtain ⟨x, e, h4⟩ := h3
  cases e
  exact h4
theorem tE_b {K : Ek} {f : D → D → Option C} {r : R2} (hf : Fn2 K.1 f r) {a b : OM} {σ : St} {H : Hp} {Q : VK} (h : tE K (mB f a b) σ H Q) : tOp r (tO K a) (tO K b) σ H Q := by
  rw [mB_eq] at h
  have hB : FnB K.1 (lf2 f) (fun vs H Q => ∃ x y, vs = [x, y] ∧ r x y H Q) := by
    intro F H vs ds c Q s hr e q
    match ds, e with
    | [d, d2], e =>
      obtain ⟨x, y, rfl, h1, h2⟩ := hr.two
      exact ⟨x, y, rfl, hf F H x y d d2 c Q s h1 h2 e q⟩
  have := tA_cons (op_sem hB h)
  refine tO_mono this fun v H' h2 => ?_
  refine tO_mono (tA_cons h2) fun w H'' h3 => ?_
  have h4 := tA_nil h3
  obtain ⟨x, y, e, h5⟩ := h4
  cases e
  exact h5
section
variable {X : Cx} {a b : Expr} {ma mb : OM} {pos : Pos}
theorem me_bin {op : Operator} {f : D → D → Option C} {r : R2} (ho : OpR X (binaryOp op) r) (hf : Fn2 X.K f r) (ha : PE X a (tO X.E ma)) (hb : PE X b (tO X.E mb)) : PE X (.BinOp a op b pos) (tE X.E (mB f ma mb)) :=
  (pe_op ho ha hb).weak fun _ _ _ => tE_b hf
theorem me_un {op : UnaryOp} {f : D → Option C} {r : V → Hp → VK → Prop} (ho : UnR X (unaryOp op) r) (hf : Fn1 X.K f r) (ha : PE X a (tO X.E ma)) : PE X (.UnaryOp op a pos) (tE X.E (mU f ma)) :=
  (pe_un ho ha).weak fun _ _ _ => tE_u hf
theorem me_cmp {op : CmpOp} {f : D → D → Option C} {r : R2} (ho : OpR X (compareOp op) r) (hf : Fn2 X.K f r) (ha : PE X a (tO X.E ma)) (hb : PE X b (tO X.E mb)) (hm : behindInMarks op b = false) : PE X (.Compare a [op] [b] pos) (tE X.E (mB f ma mb)) :=
  (pe_cmpR ho ha hb hm).weak fun _ _ _ => tE_b hf
theorem me_ix {f : D → D → Option C} {r : R2} (ho : IxR X r) (hf : Fn2 X.K f r) (ha : PE X a (tO X.E ma)) (hb : PE X b (tO X.E mb)) (hs : PlainIx b) : PE X (.Subscript a b pos) (tE X.E (mB f ma mb)) :=
  (pe_ix ho ha hb hs).weak fun _ _ _ => tE_b hf
end
section
variable {X : Cx} {e : Expr} {es : List Expr} {m : AM} {x : Str} {p pos : Pos} {id T : String} {r : List V → Hp → VK → Prop} {f : List D → Option C}
theorem me_callB (hc : CallR X (.builtin id) r) (hf : FnB X.K f r) (hg : Gl X x) (hm : X.mg x = none) (hv : bootBuiltins x = some (.builtin id)) (ha : PA X (e :: es) (tA X.E m)) (hn : x ≠ "__name__") (hdb : (x == ("__debug__" : Str)) = false)
    (he : starEach (e :: es) X.env = (false, eval e X.env) :: starEach es X.env) (hpl : (backTo pos (starEach es X.env)).any (·.1) = false) : PE X (.Call (.Name x p) (e :: es) [] pos) (tE X.E (mOp f m)) :=
  (pe_callB hc hg hm hv ha hn hdb he hpl).weak fun _ _ _ h => op_sem hf h
theorem me_callTy (hc : CallR X (.type T) r) (hf : FnB X.K f r) (hg : Gl X x) (hm : X.mg x = none) (hv : bootBuiltins x = some (.type T)) (ha : PA X (e :: es) (tA X.E m)) (hn : x ≠ "__name__") (hdb : (x == ("__debug__" : Str)) = false)
    (he : starEach (e :: es) X.env = (false, eval e X.env) :: starEach es X.env) (hpl : (backTo pos (starEach es X.env)).any (·.1) = false) : PE X (.Call (.Name x p) (e :: es) [] pos) (tE X.E (mOp f m)) :=
  (pe_callTy hc hg hm hv ha hn hdb he hpl).weak fun _ _ _ h => op_sem hf h
end
end L2.M
namespace L2.M
open PySem PySem.Spec PyProof.Rows
abbrev TM := Cs → Option (Bool × Cs)
def tT (K : Ek) (m : TM) : TT := fun σ H Q => ∃ F R ε b ε', Sep K F R H σ ε [] ∧ m ε = some (b, ε') ∧ ∀ F' H', Same F F' → Sep K F' R H' σ ε' [] → Q b H'
def mTst (m : EM) : TM := fun ε => match m ε with
  | some (.sh (.bool b), ε') => some (b, ε')
  | _ => none
theorem Sep.boolT {K : Ek} {F R H : Hp} {σ : St} {ε : Cs} {T : Tms} {v : V} {b : Bool} (s : Sep K F R H σ ε ((v, .sh (.bool b)) :: T)) : v = .bl b := by
  have r := s.repT
  simpa only [Rep] using r
theorem Sep.addB {K : Ek} {F R H : Hp} {σ : St} {ε : Cs} {T : Tms} (s : Sep K F R H σ ε T) (b : Bool) : Sep K F R H σ ε ((.bl b, .sh (.bool b)) :: T) := s.addSh (by simp only [Rep])
section
variable {K : Ek} {σ : St} {H : Hp}
theorem tE_tst {m : EM} {Q : Bool → Hp → Prop} (h : tT K (mTst m) σ H Q) : tE K m σ H (fun x H' => ∃ k, x = .bl k ∧ Q k H') := by
  obtain ⟨F, R, ε, b, ε', o, e, q⟩ := h
  unfold mTst at e
  split at e
  · rename_i b' ε1 hm
    cases e
    exact ⟨F, R, ε, _, ε', o, hm, fun v F' H' fm p => ⟨b, p.boolT, q F' H' fm p.drop⟩⟩
  · cases e
end
section
variable {X : Cx} {a b e : Expr} {ma mb : OM} {m : EM} {pos : Pos} {rest : List Expr}
theorem mt_val (h : PE X e (tE X.E m)) (he : ∀ whole, isTrue e X.env whole = (do let v ← whole; standAt e.pos; holding [v] (truthy v))) : PT X e (tT X.E (mTst m)) :=
  (pt_val h he).weak fun _ _ _ => tE_tst
theorem mt_cmp {op : CmpOp} {f : D → D → Option C} {r : R2} (ho : OpR X (compareOp op) r) (hf : Fn2 X.K f r) (ha : PE X a (tO X.E ma)) (hb : PE X b (tO X.E mb)) (hm : behindInMarks op b = false) : PT X (.Compare a [op] [b] pos) (tT X.E (mTst (mB f ma mb))) :=
  (pt_cmpR ho ha hb hm).weak fun _ _ _ h => tE_b hf (tE_tst h)
def mNotT (m : TM) : TM := fun ε => do
  let (b, ε1) ← m ε
  some (!b, ε1)
def mAndT (m n : TM) : TM := fun ε => do
  let (b, ε1) ← m ε
  if b then n ε1 else some (false, ε1)
def mOrT (m n : TM) : TM := fun ε => do
  let (b, ε1) ← m ε
  if b then some (true, ε1) else n ε1
theorem tT_bind {K : Ek} {m : TM} {n : Bool → TM} {σ : St} {H : Hp} {Q : Bool → Hp → Prop} (h : tT K (fun ε => do let (b, ε1) ← m ε; n b ε1) σ H Q) : tT K m σ H fun b H1 => tT K (n b) σ H1 Q := by
  obtain ⟨F, R, ε, c, ε', o, e, q⟩ := h
  cases e1 : m ε with
  | none => simp [e1] at e
  | some p =>
    obtain ⟨b, ε1⟩ := p
    simp [e1] at e
    exact ⟨F, R, ε, b, ε1, o, e1, fun F1 H1 fm1 s1 => ⟨F1, R, ε1, c, ε', s1, e, fun F2 H2 fm2 s2 => q F2 H2 (fm1.trans fm2) s2⟩⟩
theorem tT_pure {K : Ek} {b : Bool} {σ : St} {H : Hp} {Q : Bool → Hp → Prop} (h : tT K (fun ε => some (b, ε)) σ H Q) : Q b H := by
  obtain ⟨F, R, ε, c, ε', o, e, q⟩ := h
  cases e
  exact q F H (Same.refl F) o
theorem tT_mono {K : Ek} {m : TM} {σ : St} {H : Hp} {Q Q' : Bool → Hp → Prop} (h : tT K m σ H Q) (w : ∀ v H', Q v H' → Q' v H') : tT K m σ H Q' := by
  obtain ⟨F, R, ε, o, ε', a, b, c⟩ := h
  exact ⟨F, R, ε, o, ε', a, b, fun F' H' fm s => w _ _ (c F' H' fm s)⟩
theorem mt_not {m : TM} (h : PT X e (tT X.E m)) : PT X (.UnaryOp .Not e pos) (tT X.E (mNotT m)) := (pt_not h).weak fun σ H Q q =>
  tT_mono (tT_bind (n := fun b ε => some (!b, ε)) q) fun _ _ z => tT_pure z
theorem mt_and {m n : TM} (h : PT X a (tT X.E m)) (g : PW X (.BoolOp .And (b :: rest) pos) (tT X.E n)) : PW X (.BoolOp .And (a :: b :: rest) pos) (tT X.E (mAndT m n)) := (pw_and h g).weak fun σ H Q q =>
  tT_mono (tT_bind (n := fun b ε => if b then n ε else some (false, ε)) q) fun b _ z => by
    cases b with
    | true => rw [if_pos rfl]; exact z
    | false => rw [if_neg Bool.false_ne_true]; exact tT_pure z
theorem mt_or {m n : TM} (h : PT X a (tT X.E m)) (g : PW X (.BoolOp .Or (b :: rest) pos) (tT X.E n)) : PW X (.BoolOp .Or (a :: b :: rest) pos) (tT X.E (mOrT m n)) := (pw_or h g).weak fun σ H Q q =>
  tT_mono (tT_bind (n := fun b ε => if b then some (true, ε) else n ε) q) fun b _ z => by
    cases b with
    | true => rw [if_pos rfl]; exact tT_pure z
    | false => rw [if_neg Bool.false_ne_true]; exact z
theorem mt_and1 {m : TM} (h : PT X a (tT X.E m)) : PW X (.BoolOp .And [a] pos) (tT X.E m) := pw_and1 h
theorem mt_or1 {m : TM} (h : PT X a (tT X.E m)) : PW X (.BoolOp .Or [a] pos) (tT X.E m) := pw_or1 h
def mNotE (m : EM) : EM := fun ε => match m ε with
  | some (.sh (.bool b), ε1) => some (.sh (.bool (!b)), ε1)
  | _ => none
def mAndE (m n : EM) : EM := fun ε => match m ε with
  | some (.sh (.bool true), ε1) => n ε1
  | some (.sh (.bool false), ε1) => some (.sh (.bool false), ε1)
  | _ => none
def mOrE (m n : EM) : EM := fun ε => match m ε with
  | some (.sh (.bool true), ε1) => some (.sh (.bool true), ε1)
  | some (.sh (.bool false), ε1) => n ε1
  | _ => none
def mIfE (t : TM) (m n : EM) : EM := fun ε => do
  let (b, ε1) ← t ε
  if b then m ε1 else n ε1
theorem me_not (h : PE X e (tE X.E m)) : PE X (.UnaryOp .Not e pos) (tE X.E (mNotE m)) := (pe_not h).weak fun σ H Q q => by
  obtain ⟨F, R, ε, c, ε', o, e, q⟩ := q
  unfold mNotE at e
  split at e
  · rename_i b ε1 hm
    cases e
    exact ⟨F, R, ε, _, ε', o, hm, fun v F' H' fm p => ⟨b, p.boolT, q _ F' H' fm (p.drop.addB _)⟩⟩
  · cases e
theorem me_and {n : EM} (h : PE X a (tE X.E m)) (g : PE X (.BoolOp .And (b :: rest) pos) (tE X.E n)) : PE X (.BoolOp .And (a :: b :: rest) pos) (tE X.E (mAndE m n)) := (pe_and h g).weak fun σ H Q q => by
  obtain ⟨F, R, ε, c, ε', o, e, q⟩ := q
  unfold mAndE at e
  split at e
  · rename_i ε1 hm
    refine ⟨F, R, ε, _, ε1, o, hm, fun v F' H' fm p => ⟨true, p.boolT, ?_⟩⟩
    rw [if_pos rfl]
    exact ⟨F', R, ε1, c, ε', p.drop, e, fun w F2 H2 fm2 p2 => q w F2 H2 (fm.trans fm2) p2⟩
  · rename_i ε1 hm
    cases e
    refine ⟨F, R, ε, _, ε', o, hm, fun v F' H' fm p => ⟨false, p.boolT, ?_⟩⟩
    rw [if_neg Bool.false_ne_true]
    exact q _ F' H' fm (p.drop.addB _)
  · cases e
theorem me_one {op : BoolOp} (h : PE X a (tE X.E m)) : PE X (.BoolOp op [a] pos) (tE X.E m) := pe_one h
end
abbrev GM := List C → Option (C × List C)
def spOf (K : Ek) (np : Nat) (g : GM) : Sp := fun vs H Q _ => vs.length = np ∧ ∃ F R cs c cs', Sep K F R H (vs.map some) cs [] ∧ g cs = some (c, cs') ∧ ∀ v F' H', Same F F' → Sep K F' R H' (vs.map some) cs' [(v, c)] → Q v H'
def frz : List Bool → List Opd → Cs → Option (List Opd × Cs)
  | [], [], ε => some ([], ε)
  | true :: bs, o :: os, ε => do
    let (os', ε1) ← frz bs os ε
    some (o :: os', ε1)
  | false :: bs, o :: os, ε => do
    let (d, ε1) ← fzO o ε
    let (os', ε2) ← frz bs os ε1
    some (.tm (.sh d) :: os', ε2)
  | _, _, _ => none
def wb : List Opd → List C → Cs → Cs
  | .pl i :: os, c :: cs, ε => wb os cs (ε.set i c)
  | .tm _ :: os, _ :: cs, ε => wb os cs ε
  | _, _, ε => ε
def mCall (io : List Bool) (g : GM) (ma : AM) : EM := fun ε => do
  let (os, ε1) ← ma ε
  let (os2, ε2) ← frz io os ε1
  let (cs, ε3) ← lend os2 ε2
  let (c, cs') ← g cs
  some (c, wb os2 cs' ε3)
theorem frz_ok {K : Ek} {H : Hp} {σ : St} {T : Tms} : ∀ {bs : List Bool} {os os2 : List Opd} {vs : List V} {F R : Hp} {ε ε' : Cs}, Sep K F R H σ ε (tmO os vs ++ T) → OpV σ vs os → frz bs os ε = some (os2, ε') →
    ∃ F', Same F F' ∧ Sep K F' R H σ ε' (tmO os2 vs ++ T) ∧ OpV σ vs os2 ∧ os2.length = bs.length
  | [], [], os2, vs, F, R, ε, ε', s, h, e => by
    cases h
    cases e
    exact ⟨F, Same.refl F, s, .nil, rfl⟩
  | true :: bs, o :: os, os2, vs, F, R, ε, ε', s, h, e => by
    unfold frz at e
    cases e1 : frz bs os ε with
    | none => simp [e1] at e
    | some p =>
      obtain ⟨os', ε1⟩ := p
      simp [e1] at e
      obtain ⟨rfl, rfl⟩ := e
      cases h with
      | @pl _ v vs' _ hv h2 =>
        obtain ⟨F', fm, s', v', l'⟩ := frz_ok (os := os) (vs := vs') s h2 e1
        exact ⟨F', fm, s', .pl hv v', by simp [l']⟩
      | @tm c v vs' _ h2 =>
        obtain ⟨R1, _, s1, back⟩ := Sep.hide (T := tmO os vs' ++ T) s
        obtain ⟨F', fm, s', v', l'⟩ := frz_ok s1 h2 e1
        exact ⟨F', fm, back F' H σ ε1 _ fm s', .tm v', by simp [l']⟩
  | false :: bs, o :: os, os2, vs, F, R, ε, ε', s, h, e => by
    unfold frz at e
    cases e1 : fzO o ε with
    | none => simp [e1] at e
    | some p =>
      obtain ⟨d, ε1⟩ := p
      cases e2 : frz bs os ε1 with
      | none => simp [e1, e2] at e
      | some p2 =>
        obtain ⟨os', ε2⟩ := p2
        simp [e1, e2] at e
        obtain ⟨rfl, rfl⟩ := e
        cases h with
        | @pl _ v vs' _ hv h2 =>
          obtain ⟨F1, fm1, r1, s1⟩ := fzO_pl s hv e1
          obtain ⟨F2, fm2, s2, v2, l2⟩ := frz_ok (os := os) (vs := vs') s1 h2 e2
          exact ⟨F2, fm1.trans fm2, s2.addSh (Rep.mono fm2 _ _ r1), .tm v2, by simp [l2]⟩
        | @tm c v vs' _ h2 =>
          obtain ⟨rfl, F1, fm1, r1, s1⟩ := fzO_tm (T := tmO os vs' ++ T) s e1
          obtain ⟨F2, fm2, s2, v2, l2⟩ := frz_ok s1 h2 e2
          exact ⟨F2, fm1.trans fm2, s2.addSh (Rep.mono fm2 _ _ r1), .tm v2, by simp [l2]⟩
  | [], _ :: _, _, _, _, _, _, _, _, _, e => by simp [frz] at e
  | true :: _, [], _, _, _, _, _, _, _, _, e => by simp [frz] at e
  | false :: _, [], _, _, _, _, _, _, _, _, e => by simp [frz] at e
theorem wb_ok {K : Ek} {F R H : Hp} {σ : St} {T : Tms} : ∀ {os : List Opd} {vs : List V} {cs : List C} {ε : Cs}, Sep K F R H σ ε (vs.zip cs ++ T) → OpV σ vs os → cs.length = os.length → Sep K F R H σ (wb os cs ε) T
  | [], vs, cs, ε, s, h, l => by
    cases h
    cases cs with
    | nil => exact s
    | cons _ _ => cases l
  | o :: os, vs, [], ε, s, h, l => by cases l
  | o :: os, vs, c :: cs, ε, s, h, l => by
    cases h with
    | pl hv h2 =>
      unfold wb
      exact wb_ok (Sep.put s hv) h2 (by simpa using l)
    | tm h2 =>
      unfold wb
      exact wb_ok (Sep.drop s) h2 (by simpa using l)
theorem zip_snd {α β : Type} {xs : List α} {ys : List β} (h : ys.length = xs.length) : (xs.zip ys).map (·.2) = ys := List.map_snd_zip (by omega)
theorem zip_fst {α β : Type} {xs : List α} {ys : List β} (h : ys.length = xs.length) : (xs.zip ys).map (·.1) = xs := List.map_fst_zip (by omega)
theorem zip_fsts {β : Type} {xs : List V} {ys : List β} (h : ys.length = xs.length) : (xs.zip ys).map (fun p => some p.1) = xs.map some := by
  rw [show (fun p : V × β => some p.1) = (fun x => some x) ∘ (fun p : V × β => p.1) from rfl, ← List.map_map, zip_fst h]
/-- the callee's frame, and the way back -/
theorem call_sep {K : Ek} {F R H : Hp} {σ : St} {ε3 : Cs} {os : List Opd} {vs : List V} {cs : List C} (s : Sep K F R H σ ε3 (vs.zip cs)) (ho : OpV σ vs os) (hl : cs.length = os.length) :
    ∃ R1, Sep K F R1 H (vs.map some) cs [] ∧ ∀ F' H' cs' T', Same F F' → Sep K F' R1 H' (vs.map some) cs' T' → Sep K F' R H' σ (wb os cs' ε3) T' := by
  have lv := ho.len
  obtain ⟨R1, s1, back⟩ := s.enter
  rw [zip_fsts (by omega), zip_snd (by omega)] at s1
  refine ⟨R1, s1, fun F' H' cs' T' fm s' => ?_⟩
  have lc : cs'.length = vs.length := by have := s'.len; simp at this; omega
  have := back F' H' cs' T' fm (by rw [zip_fsts (by omega)]; exact s')
  rw [zip_fst (by omega)] at this
  exact wb_ok this ho (by omega)
theorem tE_call {K : Ek} {np : Nat} {g : GM} {io : List Bool} {ma : AM} {σ : St} {H : Hp} {Q : VK} (hio : io.length = np) (h : tE K (mCall io g ma) σ H Q) : tCall (spOf K np g) [] E0 (tA K ma) σ H Q := by
  obtain ⟨F, R, ε, c, ε', ok, e, q⟩ := h
  unfold mCall at e
  cases e1 : ma ε with
  | none => simp [e1] at e
  | some p =>
    obtain ⟨os, ε1⟩ := p
    cases e2 : frz io os ε1 with
    | none => simp [e1, e2] at e
    | some p2 =>
      obtain ⟨os2, ε2⟩ := p2
      cases e3 : lend os2 ε2 with
      | none => simp [e1, e2, e3] at e
      | some p3 =>
        obtain ⟨cs, ε3⟩ := p3
        cases e4 : g cs with
        | none => simp [e1, e2, e3, e4] at e
        | some p4 =>
          obtain ⟨c', cs'⟩ := p4
          simp [e1, e2, e3, e4] at e
          obtain ⟨rfl, rfl⟩ := e
          refine ⟨F, R, ε, os, ε1, ok, e1, fun vs F1 H1 fm1 v1 s1 => ?_⟩
          rw [← List.append_nil (tmO os vs)] at s1
          obtain ⟨F2, fm2, s2, v2, l2⟩ := frz_ok s1 v1 e2
          obtain ⟨s3, l3⟩ := lend_ok s2 v2 e3
          rw [List.append_nil] at s3
          obtain ⟨R1, s4, back⟩ := call_sep s3 v2 l3
          refine ⟨by rw [List.append_nil, v2.len, l2]; exact hio, F2, R1, cs, c', cs', by rw [List.append_nil]; exact s4, e4, fun v F' H' fm p => ?_⟩
          rw [List.append_nil] at p
          exact q v F' H' ((fm1.trans fm2).trans fm) (back F' H' cs' _ fm p)
end L2.M
namespace L2.M
open PySem PySem.Spec PyProof.Rows
section
variable {K : PySem.W.Frag} {F H : Hp} {x : V}
theorem rb_non (h : RepB K F H x .none) : x = .non := by
  rcases h with h | ⟨_, _, _, _, h, _⟩
  · simpa only [Rep] using h
  · cases h
theorem rb_bool {b : Bool} (h : RepB K F H x (.bool b)) : x = .bl b := by
  rcases h with h | ⟨_, _, _, _, h, _⟩
  · simpa only [Rep] using h
  · cases h
theorem rb_int {i : Int} (h : RepB K F H x (.int i)) : x = .int i := by
  rcases h with h | ⟨_, _, _, _, h, _⟩
  · simpa only [Rep] using h
  · cases h
theorem rb_str {i : Str} (h : RepB K F H x (.str i)) : x = .str i := by
  rcases h with h | ⟨_, _, _, _, h, _⟩
  · simpa only [Rep] using h
  · cases h
theorem rb_tup {ds : List D} (s : Same F H) (h : RepB K F H x (.tuple ds)) : ∃ a vs, x = .ref a ∧ HdT F a vs ∧ SqT K H a vs ∧ Reps K F vs ds := by
  rcases h with ⟨a, vs, h1, h2, h3⟩ | ⟨_, _, _, _, h, _⟩
  · exact ⟨a, vs, h1, h2, (h2.mono s).sq, h3⟩
  · cases h
theorem rb_lst {ds : List D} (s : Same F H) (h : RepB K F H x (.list ds)) : ∃ a vs, x = .ref a ∧ SqL K H a vs ∧ Reps K F vs ds := by
  rcases h with ⟨a, vs, h1, h2, h3⟩ | ⟨a, ws, es, h1, h2, h3, h4⟩
  · exact ⟨a, vs, h1, sameL s h2, h3⟩
  · cases h2
    exact ⟨a, ws, h1, .inl (.inl h3), h4⟩
theorem rb_dct {kds : List (D × D)} (s : Same F H) (h : RepB K F H x (.dict kds)) : ∃ a kvs, x = .ref a ∧ H a = some (.dK kvs) ∧ RepKs K F kvs kds := by
  rcases h with ⟨a, vs, h1, h2, h3⟩ | ⟨_, _, _, _, h, _⟩
  · exact ⟨a, vs, h1, s _ _ h2, h3⟩
  · cases h
mutual
theorem Rep.dp (s : Same F H) : ∀ (d : D) (v : V), Rep K F v d → PyData.canLay0 d = true → Dp K H v d
  | .none, v, h, _ => by simp only [Rep] at h; subst h; exact .non
  | .bool b, v, h, _ => by simp only [Rep] at h; subst h; exact .bl b
  | .int b, v, h, _ => by simp only [Rep] at h; subst h; exact .int b
  | .str b, v, h, _ => by simp only [Rep] at h; subst h; exact .str b
  | .list ds, v, ⟨a, vs, h1, h2, h3⟩, hc => by subst h1; exact .lst (sameL s h2) (Reps.dp s ds vs h3 (by simpa [PyData.canLay0] using hc))
  | .tuple ds, v, ⟨a, vs, h1, h2, h3⟩, hc => by subst h1; exact .tup (h2.mono s).sq (Reps.dp s ds vs h3 (by simpa [PyData.canLay0] using hc))
  | .dict kds, v, _, hc => by simp [PyData.canLay0] at hc
theorem Reps.dp (s : Same F H) : ∀ (ds : List D) (vs : List V), Reps K F vs ds → PyData.canLayAll0 ds = true → DpAll K H vs ds
  | [], vs, h, _ => by cases (show vs = [] from h); exact .nil
  | d :: ds, vs, ⟨v, r, h1, h2, h3⟩, hc => by
    subst h1
    simp only [PyData.canLayAll0, Bool.and_eq_true] at hc
    exact .cons (Rep.dp s d v h2 hc.1) (Reps.dp s ds r h3 hc.2)
end
theorem rb_dp {d : D} (s : Same F H) (h : RepB K F H x d) (hc : PyData.canLay0 d = true) : Dp K H x d := by
  rcases h with h | ⟨a, ws, ds, h1, h2, h3, h4⟩
  · exact Rep.dp s d x h hc
  · subst h1 h2
    exact .lst (.inl (.inl h3)) (Reps.dp s ds ws h4 (by simpa [PyData.canLay0] using hc))
end
theorem list_mulW (l : Addr) (items : Array Value) (n : Nat) (x : Int) (u : Tok) (dd : Option Addr) (sl : Array (Option Value)) (hc0 : ¬(!Builtin.List.listFitsIndex x) = true) (hc1 : ¬items.size * x.toNat > (2 ^ 63 - 1) / 8) (hc2 : ¬Builtin.List.listTooLong (items.size * x.toNat) = true) :
    Meets (Builtin.«list.__mul__» ⟨[.ref l, .int x u], []⟩) (fun _ R s => s.heap.get? l = some { cls := .type "list", dict := dd, data := .seq items n, slots := sl } ∧ R (.ok (.ret (Value.ref s.heap.objs.size))) { s with heap := s.heap.push { cls := Value.type "list", data := Data.seq (List.foldl (fun x1 x2 => x1 ++ x2) #[] (List.replicate (if items.isEmpty = true then 0 else x.toNat) items)) }, toks := s.toks }) :=
  .of_wp fun prog w A R s h => by
    obtain ⟨hp, g, d, tk, os⟩ := s; obtain ⟨hl, h⟩ := h
    have hsz := AutoListH.joined_fits hc2
    wp_walk using wpAny_loadPart' hl; refine wpAny_ite_false (decide_eq_false (Nat.not_lt.mpr hsz)) ?_; wp_walk using wpAny_loadPart' hl; exact ⟨_, rfl, h⟩
theorem int_rmulW (a : Int) (t : Tok) (l : Addr) (items : Array Value) (n : Nat) (dd : Option Addr) (sl : Array (Option Value)) :
    Meets (Builtin.«int.__rmul__» ⟨[.int a t, .ref l], []⟩) (fun _ R s => s.heap.get? l = some { cls := .type "list", dict := dd, data := .seq items n, slots := sl } ∧ R (.ok (.ret Value.notImplemented)) s) :=
  .of_wp fun prog w A R s h => by obtain ⟨hp, g, d, tk, os⟩ := s; obtain ⟨hl, h⟩ := h; wp_walk using wpAny_loadPart' hl; exact ⟨_, rfl, h⟩
section
variable {K : PySem.W.Frag} {F H : Hp} {Q : VK}
theorem gv {v : V} {d : D} (s : Same F H) (r : Rep K F v d) (q : ∀ v F' H', Grow K F H F' H' v (.sh d) → Q v H') : Q v H :=
  q v F H ⟨Same.refl F, Same.refl H, s, fun b h h' => absurd h h', r, fun _ _ z => nomatch z⟩
theorem g_int {i : Int} (s : Same F H) (q : ∀ v F' H', Grow K F H F' H' v (.sh (.int i)) → Q v H') : Q (.int i) H := gv s (by simp only [Rep]) q
theorem g_bool {i : Bool} (s : Same F H) (q : ∀ v F' H', Grow K F H F' H' v (.sh (.bool i)) → Q v H') : Q (.bl i) H := gv s (by simp only [Rep]) q
theorem g_str {i : Str} (s : Same F H) (q : ∀ v F' H', Grow K F H F' H' v (.sh (.str i)) → Q v H') : Q (.str i) H := gv s (by simp only [Rep]) q
theorem g_tup {vs : List V} {ds : List D} (s : Same F H) (r : Reps K F vs ds) (q : ∀ v F' H', Grow K F H F' H' v (.sh (.tuple ds)) → Q v H') : ∀ (p : Addr) (o : Obj), o.dict = none → H p = none → Q (.ref p) (upd H p (.frz o (.tup vs))) := fun p o ho hp => by
  have g := Grw.laid (u := .frz o (.tup vs)) s hp
  exact q (.ref p) _ _ ⟨g.fm, g.hm, g.sub, g.ff, ⟨p, vs, rfl, ⟨o, ho, upd_same⟩, Reps.mono g.fm _ _ r⟩, fun _ _ z => nomatch z⟩
theorem g_lst {vs : List V} {ds : List D} (s : Same F H) (r : Reps K F vs ds) (q : ∀ v F' H', Grow K F H F' H' v (.ls ds) → Q v H') : ∀ p, H p = none → Q (.ref p) (upd H p (.lst vs)) := fun p hp => by
  have hm : Same H (upd H p (.lst vs)) := fun b x e => by rw [upd_ne (ne_of_none e hp)]; exact e
  exact q (.ref p) F _ ⟨Same.refl F, hm, s.trans hm, fun b h h' => absurd h h', ⟨p, vs, rfl, upd_same, s.free hp, r⟩, fun ds a _ z => by cases z; exact hp⟩
end
section
variable {X : Cx}
/-- a tuple laid behind an operation, known to have no dict -/
theorem laidH {pins : List (Addr × Obj)} {σ : St} {H : Hp} {s : Shared} {Q : VK} {ys : List V} {us : List Value} (I : Inv X pins σ H s) (r : Vals ys us) (hz : ys.length ≤ sizeLine) (q : ∀ (p : Addr) (o : Obj), o.dict = none → H p = none → Q (.ref p) (upd H p (.frz o (.tup ys)))) : EP X pins σ Q (.ref s.heap.objs.size) { s with heap := s.heap.push { cls := .type "tuple", data := .seq us.toArray } } := by
  refine ⟨.ref s.heap.objs.size, _, I.laid (t' := s.toks) (o := .frz { cls := .type "tuple", data := .seq us.toArray } (.tup ys)) (fun b ob q => Heap.get?_push_of_some _ q) (Nat.le_refl _) ?_, rfl, q _ _ rfl (I.hok.fresh (Nat.le_refl _))⟩
  exact ⟨Heap.get?_push_size _ rfl, hz, us, r, IsTup.new _ _⟩
def rCatH (K : PySem.W.Frag) : R2 := fun x y H Q => ∃ a b xs ys, x = .ref a ∧ y = .ref b ∧ SqT K H a xs ∧ SqT K H b ys ∧ xs.length + ys.length ≤ sizeLine ∧
  (xs = [] → Q (.ref b) H) ∧ (xs ≠ [] → ys = [] → Q (.ref a) H) ∧ (xs ≠ [] → ys ≠ [] → ∀ (p : Addr) (o : Obj), o.dict = none → H p = none → Q (.ref p) (upd H p (.frz o (.tup (xs ++ ys)))))
theorem op_catH : OpR X (binaryOp .Add) (rCatH X.K) := by
  rintro pins s σ H x y v u Q I rx ry ⟨a, b, xs, ys, rfl, rfl, ha, hb, hz, q0, q1, q2⟩
  cases rx
  cases ry
  obtain ⟨its, r1, p1, _⟩ := I.tuple ha
  obtain ⟨its2, r2, p2, _⟩ := I.tuple hb
  by_cases hx : xs = []
  · subst hx
    cases r1
    exact cat_tup0 p1 p2 ⟨.ref b, H, I, rfl, q0 rfl⟩
  · refine HT.cat_tup p1 p2 (fun z => hx (r1.nil_iff.mp z)) (fun z => ⟨.ref a, H, I, rfl, q1 hx (r2.nil_iff.mp z)⟩) (fun z => ?_) (by rw [← r1.length, ← r2.length]; exact hz)
    exact laidH I (r1.append r2) (by rw [List.length_append]; exact hz) (q2 hx fun w => z (r2.nil_iff.mpr w))
def rRepH (K : PySem.W.Frag) : R2 := fun x y H Q => ∃ l k xs, x = .ref l ∧ y = .int k ∧ SqT K H l xs ∧ xs ≠ [] ∧ 2 ≤ k ∧ k ≤ 1000 ∧ xs.length ≤ 1000 ∧ ∀ (p : Addr) (o : Obj), o.dict = none → H p = none → Q (.ref p) (upd H p (.frz o (.tup (List.replicate k.toNat xs).flatten)))
theorem op_repH : OpR X (binaryOp .Mult) (rRepH X.K) := by
  rintro pins s σ H x y v u Q I rx ry ⟨l, k, xs, rfl, rfl, hT, hne, h1, h2, hz, q⟩
  cases rx
  obtain ⟨t, rfl⟩ := ry
  obtain ⟨its, r, ⟨⟨cls, dd, data, sl⟩, ho, hc, n, hd⟩, hs⟩ := I.tuple hT
  cases (show cls = .type "tuple" from hc)
  cases (show data = .seq its.toArray n from hd)
  have le : its.length = xs.length := r.length.symm
  have hn : its ≠ [] := fun e => hne (r.nil_iff.mp e)
  have e0 : its.toArray.isEmpty = false := by cases its <;> simp_all
  have e1 : ((its.toArray.size : Nat) : Int) * k ≤ 1000000 := by
    rw [List.size_toArray, le]
    have : ((xs.length : Nat) : Int) * k ≤ 1000 * k := Int.mul_le_mul_of_nonneg_right (by omega) (by omega)
    omega
  have e2 : k.toNat * xs.length ≤ 1000 * 1000 := Nat.mul_le_mul (by omega) hz
  have b0 : (decide (k < -(2 ^ 63)) || decide (k ≥ 2 ^ 63)) = false := by simp; omega
  have b1 : (its.toArray.isEmpty || k == 1) = false := by rw [e0]; simp; omega
  have b2 : (decide (k ≤ 0) || its.toArray.isEmpty) = false := by rw [e0]; simp; omega
  have b3 : Builtin.Tuple.tupleTooMany (((its.toArray.size : Nat) : Int) * k) = false := by
    unfold Builtin.Tuple.tupleTooMany
    rw [sizeLine_eq]
    exact decide_eq_false (by omega)
  have z1 : (List.replicate k.toNat its).flatten.length ≤ sizeLine := by
    rw [PyProof.Rows.lm_len_rep_flat, le, sizeLine_eq]
    omega
  have z2 : (List.replicate k.toNat xs).flatten.length ≤ sizeLine := by
    rw [PyProof.Rows.lm_len_rep_flat, sizeLine_eq]
    omega
  have tis : s.TypeIs (.ref l) "tuple" := ⟨_, ho, rfl⟩
  refine wpAny_binaryOp_repeat_ref (T := "tuple") (U := "int") (by decide) tis (fun s' => typeIs_int s' k t) noFill_tuple_mul F.fills_int_mul F.slot_int_rmul repeat_tuple F.slot_int_index.lookup
    (call_meets F.slot_int_rmul (typeIs_int s k t) F.entry_int_rmul (F.args_int_rmul_2 _ _) (int_rmul_tuple k t l its.toArray n dd sl)
      ⟨ho, rfl, tis, call_meets F.slot_tuple_mul tis F.entry_tuple_mul (F.args_tuple_mul_2 _ _) (tuple_mulW l its.toArray n dd sl k t b0 b1 b2 (by omega) b3 (by rw [size_rep, List.size_toArray]; exact z1)) ⟨ho, ?_⟩⟩)
  rw [size_rep]
  exact laidH I (r.rep k.toNat) z2 q
def rCatL (K : PySem.W.Frag) : R2 := fun x y H Q => ∃ l b xs zs, x = .ref l ∧ y = .ref b ∧ SqL K H l xs ∧ SqL K H b zs ∧ xs.length + zs.length ≤ sizeLine ∧ ∀ p, H p = none → Q (.ref p) (upd H p (.lst (xs ++ zs)))
theorem op_catL : OpR X (binaryOp .Add) (rCatL X.K) := by
  intro pins s σ H x y v u Q I rx ry h
  obtain ⟨l, b, xs, zs, rfl, rfl, hH, hB, hz, q⟩ := h
  cases rx
  cases ry
  obtain ⟨its, r, ⟨o, n, e, hc, hd, hq⟩, _⟩ := I.list hH
  obtain ⟨its2, r2, ⟨o2, n2, e2, hc2, hd2, hq2⟩, _⟩ := I.list hB
  have hl := r.length
  have hl2 := r2.length
  obtain ⟨cls, dd, data, sl⟩ := o
  obtain ⟨cls2, dd2, data2, sl2⟩ := o2
  simp only at hc hd hq hc2 hd2 hq2
  subst hc hd hq hc2 hd2 hq2
  refine concat_meets ⟨_, e, rfl⟩ ⟨_, e2, rfl⟩ noFill_list_add seq_list_add F.slot_list_add F.entry_list_add (F.args_list_add_2 _ _) (list_addW l b its.toArray its2.toArray n n2 none none sl sl2 (by rw [List.size_toArray, List.size_toArray]; omega)) ⟨e, e2, ?_⟩
  have ea : its.toArray ++ its2.toArray = (its ++ its2).toArray := by simp
  rw [ea]
  exact ⟨.ref _, _, I.lnew (t' := s.toks) (r.append r2) (by rw [List.length_append]; omega), rfl, q _ I.fresh⟩
end
theorem OpR.no {X : Cx} {f : Value → Value → Sem Value} : OpR X f (fun _ _ _ _ => False) := fun _ _ _ _ _ _ _ _ _ _ _ _ h => h.elim
theorem CallR.no {X : Cx} {f : Value} : CallR X f (fun _ _ _ => False) := fun _ _ _ _ _ _ _ _ _ h => h.elim
def sm (i : Int) : Prop := -(2 ^ 200) < i ∧ i < 2 ^ 200
instance (i : Int) : Decidable (sm i) := inferInstanceAs (Decidable (_ ∧ _))
theorem sm_lit {i : Int} (h1 : -(2 ^ 200) < i) (h2 : i < 2 ^ 200) : sm i := ⟨h1, h2⟩
theorem log2_le {i : Int} (h1 : -(2 ^ 200) < i) (h2 : i < 2 ^ 200) : i.natAbs.log2 < 200 := by
  by_cases hz : i.natAbs = 0
  · rw [hz]; decide
  · exact (Nat.log2_lt hz).mpr (by omega)
def addD : D → D → Option C
  | .int i, .int j => some (.sh (.int (i + j)))
  | .str a, .str b => if a.length + b.length ≤ sizeLine then some (.sh (.str (a ++ b))) else none
  | .list a, .list b => if a.length + b.length ≤ sizeLine then some (.ls (a ++ b)) else none
  | .tuple a, .tuple b => if a.length + b.length ≤ sizeLine then some (.sh (.tuple (a ++ b))) else none
  | _, _ => none
def subD : D → D → Option C
  | .int i, .int j => some (.sh (.int (i - j)))
  | _, _ => none
def mulD : D → D → Option C
  | .int i, .int j => if sm i ∧ sm j then some (.sh (.int (i * j))) else none
  | .list a, .int k => if -(2 ^ 63) ≤ k ∧ k < 2 ^ 63 ∧ a.length * k.toNat ≤ sizeLine then some (.ls (List.replicate k.toNat a).flatten) else none
  | .tuple a, .int k => if (0 < a.length ∧ 2 ≤ k ∧ k ≤ 1000 ∧ a.length ≤ 1000) ∨ (-(2 ^ 63) ≤ k ∧ k < 2 ^ 63 ∧ (a.length = 0 ∨ k ≤ 1)) then some (.sh (.tuple (List.replicate k.toNat a).flatten)) else none
  | _, _ => none
def fdivD : D → D → Option C
  | .int i, .int j => if 0 < j ∧ sm j then some (.sh (.int (i / j))) else none
  | _, _ => none
def modD : D → D → Option C
  | .int i, .int j => if 0 < j then some (.sh (.int (i % j))) else none
  | _, _ => none
def powD : D → D → Option C
  | .int i, .int j => if 0 ≤ j ∧ j ≤ 1000000 ∧ i.natAbs < 2 ^ 64 then some (.sh (.int (i ^ j.toNat))) else none
  | _, _ => none
def shlD : D → D → Option C
  | .int i, .int j => if 0 ≤ j ∧ j ≤ 1000000 ∧ i.natAbs < 2 ^ 64 then some (.sh (.int (i * 2 ^ j.toNat))) else none
  | _, _ => none
def shrD : D → D → Option C
  | .int i, .int j => if 0 ≤ j then some (.sh (.int (i / 2 ^ j.toNat))) else none
  | _, _ => none
def andD : D → D → Option C
  | .int i, .int j => some (.sh (.int (Builtin.bitAnd i j)))
  | _, _ => none
def orD : D → D → Option C
  | .int i, .int j => some (.sh (.int (Builtin.bitOr i j)))
  | _, _ => none
def binD : Operator → D → D → Option C
  | .Add => addD
  | .Sub => subD
  | .Mult => mulD
  | .FloorDiv => fdivD
  | .Mod => modD
  | .Pow => powD
  | .LShift => shlD
  | .RShift => shrD
  | .BitAnd => andD
  | .BitOr => orD
  | _ => fun _ _ => none
section
variable {X : Cx}
/-- an operator on whole numbers -/
theorem ints_ok {f : Value → Value → Sem Value} {C0 : Int → Int → Prop} {g : Int → Int → Int} (h : OpR X f (rI C0 fun i j => .int (g i j))) {t : D → D → Option C}
    (ht : ∀ d e c, t d e = some c → ∃ i j, d = .int i ∧ e = .int j ∧ C0 i j ∧ c = .sh (.int (g i j))) : ∃ r, OpR X f r ∧ Fn2 X.K t r := by
  refine ⟨_, h, fun F H x y d e c Q s h1 h2 he q => ?_⟩
  obtain ⟨i, j, rfl, rfl, hc, rfl⟩ := ht d e c he
  exact ⟨i, j, rb_int h1, rb_int h2, hc, g_int s q⟩
theorem ints_ok0 {f : Value → Value → Sem Value} {g : Int → Int → Int} (h : OpR X f (rI0 fun i j => .int (g i j))) {t : D → D → Option C}
    (ht : ∀ d e c, t d e = some c → ∃ i j, d = .int i ∧ e = .int j ∧ c = .sh (.int (g i j))) : ∃ r, OpR X f r ∧ Fn2 X.K t r := by
  refine ⟨_, h, fun F H x y d e c Q s h1 h2 he q => ?_⟩
  obtain ⟨i, j, rfl, rfl, rfl⟩ := ht d e c he
  exact ⟨i, j, rb_int h1, rb_int h2, g_int s q⟩
theorem add_ok : ∃ r, OpR X (binaryOp .Add) r ∧ Fn2 X.K addD r := by
  refine ⟨_, op_add.or (op_add_str.or (op_catL.or op_catH)), fun F H x y d e c Q s h1 h2 he q => ?_⟩
  unfold addD at he
  split at he
  · cases he
    exact .inl ⟨_, _, rb_int h1, rb_int h2, g_int s q⟩
  · split at he
    · cases he
      exact .inr (.inl ⟨_, _, rb_str h1, rb_str h2, by assumption, g_str s q⟩)
    · cases he
  · split at he
    · rename_i hl
      cases he
      obtain ⟨a, vs, rfl, g1, g2⟩ := rb_lst s h1
      obtain ⟨b, ws, rfl, k1, k2⟩ := rb_lst s h2
      refine .inr (.inr (.inl ⟨a, b, vs, ws, rfl, rfl, g1, k1, by rw [g2.length, k2.length]; exact hl, g_lst s (g2.append k2) q⟩))
    · cases he
  · split at he
    · rename_i hl
      cases he
      obtain ⟨a, vs, rfl, g0, g1, g2⟩ := rb_tup s h1
      obtain ⟨b, ws, rfl, k0, k1, k2⟩ := rb_tup s h2
      refine .inr (.inr (.inr ⟨a, b, vs, ws, rfl, rfl, g1, k1, by rw [g2.length, k2.length]; exact hl, fun e => ?_, fun _ e => ?_, fun _ _ => g_tup s (g2.append k2) q⟩))
      · subst e
        have hz := g2.length
        have e2 : _ = [] := List.eq_nil_of_length_eq_zero hz.symm
        rw [e2] at q
        exact gv s (d := .tuple _) ⟨b, ws, rfl, k0, k2⟩ q
      · subst e
        have hz := k2.length
        have e2 : _ = [] := List.eq_nil_of_length_eq_zero hz.symm
        rw [e2, List.append_nil] at q
        exact gv s (d := .tuple _) ⟨a, vs, rfl, g0, g2⟩ q
    · cases he
  · cases he
def rRepL (K : PySem.W.Frag) : R2 := fun x y H Q => ∃ l k xs, x = .ref l ∧ y = .int k ∧ SqL K H l xs ∧ -(2 ^ 63) ≤ k ∧ k < 2 ^ 63 ∧ xs.length * k.toNat ≤ sizeLine ∧ ∀ p, H p = none → Q (.ref p) (upd H p (.lst (List.replicate k.toNat xs).flatten))
theorem op_repL : OpR X (binaryOp .Mult) (rRepL X.K) := by
  intro pins s σ H x y v u Q I rx ry h
  obtain ⟨l, k, xs, rfl, rfl, hH, h1, h2, hz, q⟩ := h
  cases rx
  obtain ⟨t, rfl⟩ := ry
  obtain ⟨its, r, ⟨o, n, e, hc, hd, hq⟩, _⟩ := I.list hH
  have hl := r.length
  obtain ⟨cls, dd, data, sl⟩ := o
  simp only at hc hd hq
  subst hc hd hq
  have hlen : its.toArray.size * k.toNat ≤ sizeLine := by rw [List.size_toArray, ← hl]; exact hz
  have hcap : ¬ its.toArray.size * k.toNat > (2 ^ 63 - 1) / 8 := by
    have : (sizeLine : Nat) ≤ (2 ^ 63 - 1) / 8 := by decide
    omega
  have hfit : ¬ (!Builtin.List.listFitsIndex k) = true := by
    rw [fitsIndex_both h1 h2]
    exact Bool.false_ne_true
  have hlong : ¬ Builtin.List.listTooLong (its.toArray.size * k.toNat) = true := by
    rw [notLongL hlen]
    exact Bool.false_ne_true
  have hnew : List.foldl (fun x1 x2 => x1 ++ x2) #[] (List.replicate (if its.toArray.isEmpty = true then 0 else k.toNat) its.toArray) = (List.replicate k.toNat its).flatten.toArray := by
    have f0 : ∀ m : Nat, List.foldl (fun x1 x2 => x1 ++ x2) #[] (List.replicate m its.toArray) = (List.replicate m its).flatten.toArray := fun m => by
      have := foldl_rep its m []
      rw [List.nil_append] at this
      exact this
    rw [f0]
    cases its with
    | nil => simp
    | cons a r' => rw [if_neg (by simp)]
  refine wpAny_binaryOp_repeat_ref (T := "list") (U := "int") (by decide) ⟨_, e, rfl⟩ (fun s' => typeIs_int s' k t) noFill_list_mul F.fills_int_mul F.slot_int_rmul repeat_list F.slot_int_index.lookup
    (call_meets F.slot_int_rmul (typeIs_int s k t) F.entry_int_rmul (F.args_int_rmul_2 _ _) (int_rmulW k t l its.toArray n none sl)
      ⟨e, rfl, ⟨_, e, rfl⟩, call_meets F.slot_list_mul ⟨_, e, rfl⟩ F.entry_list_mul (F.args_list_mul_2 _ _) (list_mulW l its.toArray n k t none sl hfit hcap hlong) ⟨e, ?_⟩⟩)
  rw [hnew]
  exact ⟨.ref _, _, I.lnew (t' := s.toks) (r.rep k.toNat) (by rw [PyProof.Rows.lm_len_rep_flat, Nat.mul_comm]; exact hz), rfl, q _ I.fresh⟩
theorem int2 {t : D → D → Option C} (hno : ∀ d e, (∀ i j, d = .int i → e = .int j → False) → t d e = none) {P : Int → Int → C → Prop} (hi : ∀ i j c, t (.int i) (.int j) = some c → P i j c) : ∀ d e c, t d e = some c → ∃ i j, d = .int i ∧ e = .int j ∧ P i j c := by
  intro d e c h
  by_cases hd : ∃ i, d = .int i
  · obtain ⟨i, rfl⟩ := hd
    by_cases he : ∃ j, e = .int j
    · obtain ⟨j, rfl⟩ := he
      exact ⟨i, j, rfl, rfl, hi i j c h⟩
    · rw [hno _ _ fun i' j _ z => he ⟨j, z⟩] at h
      cases h
  · rw [hno _ _ fun i j z _ => hd ⟨i, z⟩] at h
    cases h
theorem tuple_mul1 (l : Addr) (items : Array Value) (n : Nat) (dd : Option Addr) (sl : Array (Option Value)) (x : Int) (u : Tok) (c0 : (decide (x < -(2 ^ 63)) || decide (x ≥ 2 ^ 63)) = false) (c1 : (items.isEmpty || x == 1) = true) :
    Meets (Builtin.«tuple.__mul__» ⟨[.ref l, .int x u], []⟩) (fun _ R s => s.heap.get? l = some { cls := .type "tuple", dict := dd, data := .seq items n, slots := sl } ∧ R (.ok (.ret (Value.ref l))) s) := .of_wp fun prog w A R ⟨hp, g, d, tk, os⟩ ⟨hl, h⟩ => by
  have f1 := AutoSeq1.idx_int; wp_walk using wpAny_loadPart' hl
  repeat (first | (refine wpAny_ite_false (decide_eq_false (by rw [c0]; decide)) ?_; wp_walk using wpAny_loadPart' hl) | (refine wpAny_ite_true (decide_eq_true c1) ?_; wp_walk using wpAny_loadPart' hl))
  exact ⟨_, rfl, h⟩
theorem tuple_mul0 (l : Addr) (items : Array Value) (n : Nat) (dd : Option Addr) (sl : Array (Option Value)) (x : Int) (u : Tok) (c0 : (decide (x < -(2 ^ 63)) || decide (x ≥ 2 ^ 63)) = false) (c1 : (items.isEmpty || x == 1) = false) (c2 : (decide (x ≤ 0) || items.isEmpty) = true) :
    Meets (Builtin.«tuple.__mul__» ⟨[.ref l, .int x u], []⟩) (fun _ R s => s.heap.get? l = some { cls := .type "tuple", dict := dd, data := .seq items n, slots := sl } ∧ R (.ok (.ret (Value.ref s.heap.objs.size))) { s with heap := s.heap.push { cls := Value.type "tuple", data := Data.seq #[] } }) := .of_wp fun prog w A R ⟨hp, g, d, tk, os⟩ ⟨hl, h⟩ => by
  have f1 := AutoSeq1.idx_int; wp_walk using wpAny_loadPart' hl
  repeat (first | (refine wpAny_ite_false (decide_eq_false (by rw [c0]; decide)) ?_; wp_walk using wpAny_loadPart' hl) | (refine wpAny_ite_false (decide_eq_false (by rw [c1]; decide)) ?_; wp_walk using wpAny_loadPart' hl) | (refine wpAny_ite_true (decide_eq_true c2) ?_; wp_walk using wpAny_loadPart' hl))
  exact ⟨_, rfl, h⟩
def rRepT1 (K : PySem.W.Frag) : R2 := fun x y H Q => ∃ l k xs, x = .ref l ∧ y = .int k ∧ SqT K H l xs ∧ -(2 ^ 63) ≤ k ∧ k < 2 ^ 63 ∧ ((xs = [] ∨ k = 1) ∧ Q (.ref l) H ∨ xs ≠ [] ∧ k ≤ 0 ∧ ∀ (p : Addr) (o : Obj), o.dict = none → H p = none → Q (.ref p) (upd H p (.frz o (.tup []))))
theorem op_repT1 {X : Cx} : OpR X (binaryOp .Mult) (rRepT1 X.K) := by
  rintro pins s σ H x y v u Q I rx ry ⟨l, k, xs, rfl, rfl, hT, k0, k1, q⟩
  cases rx
  obtain ⟨t, rfl⟩ := ry
  obtain ⟨its, r, ⟨⟨cls, dd, data, sl⟩, ho, hc, n, hd⟩, hs⟩ := I.tuple hT
  cases (show cls = .type "tuple" from hc)
  cases (show data = .seq its.toArray n from hd)
  have le : its.length = xs.length := r.length.symm
  have b0 : (decide (k < -(2 ^ 63)) || decide (k ≥ 2 ^ 63)) = false := by simp; omega
  have tis : s.TypeIs (.ref l) "tuple" := ⟨_, ho, rfl⟩
  have road := fun (Q0 : Value → Shared → Prop) (E : Value → Shared → Prop) (m : wpAny (model X.prog X.w) X.A (call (.builtin "tuple.__mul__") [.ref l, .int k t]) Q0 E s) => wpAny_binaryOp_repeat_ref (T := "tuple") (U := "int") (by decide) tis (fun s' => typeIs_int s' k t) noFill_tuple_mul F.fills_int_mul F.slot_int_rmul repeat_tuple F.slot_int_index.lookup
    (call_meets F.slot_int_rmul (typeIs_int s k t) F.entry_int_rmul (F.args_int_rmul_2 _ _) (int_rmul_tuple k t l its.toArray n dd sl) ⟨ho, rfl, tis, m⟩)
  rcases q with ⟨hx, q⟩ | ⟨hx, hk, q⟩
  · have c1 : (its.toArray.isEmpty || k == 1) = true := by
      rcases hx with rfl | rfl
      · have : its = [] := List.eq_nil_of_length_eq_zero (by simpa using le)
        subst this
        rfl
      · simp
    exact road _ _ (call_meets F.slot_tuple_mul tis F.entry_tuple_mul (F.args_tuple_mul_2 _ _) (tuple_mul1 l its.toArray n dd sl k t b0 c1) ⟨ho, .ref l, H, I, rfl, q⟩)
  · have ne : its ≠ [] := by
      rintro rfl
      exact hx (List.eq_nil_of_length_eq_zero (by simpa using le.symm))
    have c1 : (its.toArray.isEmpty || k == 1) = false := by
      cases its with
      | nil => exact absurd rfl ne
      | cons a as => simp; omega
    have c2 : (decide (k ≤ 0) || its.toArray.isEmpty) = true := by simp [hk]
    refine road _ _ (call_meets F.slot_tuple_mul tis F.entry_tuple_mul (F.args_tuple_mul_2 _ _) (tuple_mul0 l its.toArray n dd sl k t b0 c1 c2) ⟨ho, laidH (us := []) I .nil (by simp) q⟩)
theorem mul_ok : ∃ r, OpR X (binaryOp .Mult) r ∧ Fn2 X.K mulD r := by
  refine ⟨_, op_mulW.or (op_repL.or (op_repH.or op_repT1)), fun F H x y d e c Q s h1 h2 he q => ?_⟩
  unfold mulD at he
  split at he
  · split at he
    · cases he
      rename_i hb
      exact .inl ⟨_, _, rb_int h1, rb_int h2, by have a := log2_le hb.1.1 hb.1.2; have b := log2_le hb.2.1 hb.2.2; show _ < _; omega, g_int s q⟩
    · cases he
  · split at he
    · rename_i hk
      cases he
      obtain ⟨a, vs, rfl, g1, g2⟩ := rb_lst s h1
      exact .inr (.inl ⟨a, _, vs, rfl, rb_int h2, g1, hk.1, hk.2.1, by rw [g2.length]; exact hk.2.2, g_lst s (Reps.replicate g2 _) q⟩)
    · cases he
  · split at he
    · rename_i hk
      cases he
      obtain ⟨a, vs, rfl, gF, g1, g2⟩ := rb_tup s h1
      have le := g2.length
      rcases hk with hk | ⟨k0, k1, hk⟩
      · refine .inr (.inr (.inl ⟨a, _, vs, rfl, rb_int h2, g1, ?_, hk.2.1, hk.2.2.1, by rw [le]; exact hk.2.2.2, g_tup s (Reps.replicate g2 _) q⟩))
        rintro rfl
        have := hk.1
        simp at le
        omega
      · refine .inr (.inr (.inr ⟨a, _, vs, rfl, rb_int h2, g1, k0, k1, ?_⟩))
        rename_i as z
        by_cases e : vs = [] ∨ z = 1
        · refine .inl ⟨e, ?_⟩
          have e2 : (List.replicate z.toNat as).flatten = as := by
            rcases e with rfl | rfl
            · have : as = [] := List.eq_nil_of_length_eq_zero (by simpa using le.symm)
              subst this
              simp
            · simp
          rw [e2] at q
          exact gv (d := .tuple as) s (show Rep X.K F (.ref a) (.tuple as) from ⟨a, vs, rfl, gF, g2⟩) q
        · simp only [not_or] at e
          have hz : z ≤ 0 := by
            rcases hk with hk | hk
            · exact absurd (List.eq_nil_of_length_eq_zero (by omega)) e.1
            · have := e.2
              omega
          have e2 : (List.replicate z.toNat as).flatten = [] := by
            have : z.toNat = 0 := by omega
            rw [this]
            simp
          rw [e2] at q
          exact .inr ⟨e.1, hz, g_tup (vs := []) (ds := []) s (by simp [Reps]) q⟩
    · cases he
  · cases he
theorem bin_ok (op : Operator) : ∃ r, OpR X (binaryOp op) r ∧ Fn2 X.K (binD op) r := by
  have no : ∀ op', binD op' = (fun _ _ => none) → ∃ r, OpR X (binaryOp op') r ∧ Fn2 X.K (binD op') r := fun op' h => ⟨_, OpR.no, fun F H x y d e c Q s _ _ he _ => by rw [h] at he; cases he⟩
  cases op with
  | Add => exact add_ok
  | Sub => exact ints_ok0 op_sub (int2 (fun d e h => by cases d <;> cases e <;> first | rfl | exact (h _ _ rfl rfl).elim) fun i j c h => by cases h; rfl)
  | Mult => exact mul_ok
  | FloorDiv => exact ints_ok op_fdivW (int2 (fun d e h => by cases d <;> cases e <;> first | rfl | exact (h _ _ rfl rfl).elim) fun i j c h => by
      simp only [binD, fdivD] at h
      split at h
      · rename_i hb
        cases h
        exact ⟨⟨hb.1, by have := log2_le hb.2.1 hb.2.2; omega⟩, rfl⟩
      · cases h)
  | Mod => exact ints_ok op_mod (int2 (fun d e h => by cases d <;> cases e <;> first | rfl | exact (h _ _ rfl rfl).elim) fun i j c h => by
      simp only [binD, modD] at h
      split at h
      · cases h; exact ⟨by assumption, rfl⟩
      · cases h)
  | Pow => exact ints_ok op_pow (int2 (fun d e h => by cases d <;> cases e <;> first | rfl | exact (h _ _ rfl rfl).elim) fun i j c h => by
      simp only [binD, powD] at h
      split at h
      · cases h; exact ⟨by assumption, rfl⟩
      · cases h)
  | LShift => exact ints_ok op_shl (int2 (fun d e h => by cases d <;> cases e <;> first | rfl | exact (h _ _ rfl rfl).elim) fun i j c h => by
      simp only [binD, shlD] at h
      split at h
      · cases h; exact ⟨by assumption, rfl⟩
      · cases h)
  | RShift => exact ints_ok op_shr (int2 (fun d e h => by cases d <;> cases e <;> first | rfl | exact (h _ _ rfl rfl).elim) fun i j c h => by
      simp only [binD, shrD] at h
      split at h
      · cases h; exact ⟨by assumption, rfl⟩
      · cases h)
  | BitAnd => exact ints_ok0 op_and (int2 (fun d e h => by cases d <;> cases e <;> first | rfl | exact (h _ _ rfl rfl).elim) fun i j c h => by cases h; rfl)
  | BitOr => exact ints_ok0 op_or (int2 (fun d e h => by cases d <;> cases e <;> first | rfl | exact (h _ _ rfl rfl).elim) fun i j c h => by cases h; rfl)
  | BitXor => exact no _ rfl
  | Div => exact no _ rfl
  | MatMult => exact no _ rfl
end
end L2.M
namespace L2.M
open PySem PySem.Spec PyProof.Rows
def scD : D → D → Bool
  | .none, .none => true
  | .none, .int _ => true
  | .none, .bool _ => true
  | .none, .str _ => true
  | .int _, .none => true
  | .int _, .int _ => true
  | .int _, .str _ => true
  | .bool _, .none => true
  | .bool _, .bool _ => true
  | .bool _, .str _ => true
  | .str _, .none => true
  | .str _, .int _ => true
  | .str _, .bool _ => true
  | .str _, .str _ => true
  | _, _ => false
/-- two tuples, one of them empty -/
def emD : D → D → Bool
  | .tuple ds, .tuple es => ds.isEmpty || es.isEmpty
  | _, _ => false
def eqD : D → D → Option C := fun d e => if scD d e || emD d e || (SeqAt.shaped d && SeqAt.shaped e) then some (.sh (.bool (PyData.eqv d e))) else none
def neD : D → D → Option C := fun d e => if scD d e || (SeqAt.shaped d && SeqAt.shaped e) then some (.sh (.bool (!PyData.eqv d e))) else none
def ltD : D → D → Option C
  | .int i, .int j => some (.sh (.bool (decide (i < j))))
  | .str i, .str j => some (.sh (.bool (decide (i.cps.toList < j.cps.toList))))
  | _, _ => none
def leD : D → D → Option C
  | .int i, .int j => some (.sh (.bool (decide (i ≤ j))))
  | _, _ => none
def gtD : D → D → Option C
  | .int i, .int j => some (.sh (.bool (decide (j < i))))
  | _, _ => none
def geD : D → D → Option C
  | .int i, .int j => some (.sh (.bool (decide (j ≤ i))))
  | _, _ => none
def isNon : D → Bool
  | .none => true
  | _ => false
def isD : D → D → Option C
  | d, .none => some (.sh (.bool (isNon d)))
  | .bool a, .bool b => some (.sh (.bool (decide (a = b))))
  | _, _ => none
def isnD : D → D → Option C
  | d, .none => some (.sh (.bool (!isNon d)))
  | .bool a, .bool b => some (.sh (.bool (!decide (a = b))))
  | _, _ => none
def inD : D → D → Option C := fun d e => match e with
  | .list ds => if SeqAt.shaped d && SeqAt.shaped (.list ds) then some (.sh (.bool (ds.any fun z => PyData.eqv z d))) else none
  | .tuple ds => if SeqAt.shaped d && SeqAt.shaped (.tuple ds) then some (.sh (.bool (ds.any fun z => PyData.eqv z d))) else none
  | _ => none
def ninD : D → D → Option C := fun d e => match e with
  | .list ds => if SeqAt.shaped d && SeqAt.shaped (.list ds) then some (.sh (.bool (!ds.any fun z => PyData.eqv z d))) else none
  | .tuple ds => if SeqAt.shaped d && SeqAt.shaped (.tuple ds) then some (.sh (.bool (!ds.any fun z => PyData.eqv z d))) else none
  | _ => none
def cmpD : CmpOp → D → D → Option C
  | .Eq => eqD
  | .NotEq => neD
  | .Lt => ltD
  | .LtE => leD
  | .Gt => gtD
  | .GtE => geD
  | .Is => isD
  | .IsNot => isnD
  | .In => inD
  | .NotIn => ninD
section
variable {X : Cx}
theorem isNon_ok {K : PySem.W.Frag} {F H : Hp} {x : V} {d : D} (h : RepB K F H x d) : decide (x = .non) = isNon d := by
  cases d with
  | none => rw [rb_non h]; rfl
  | bool b => rw [rb_bool h]; rfl
  | int b => rw [rb_int h]; rfl
  | str b => rw [rb_str h]; rfl
  | list b =>
    rcases h with ⟨a, vs, rfl, _⟩ | ⟨a, ws, es, rfl, _⟩ <;> rfl
  | tuple b =>
    rcases h with ⟨a, vs, rfl, _⟩ | ⟨a, ws, es, rfl, _⟩ <;> rfl
  | dict b =>
    rcases h with ⟨a, vs, rfl, _⟩ | ⟨a, ws, es, rfl, _⟩ <;> rfl
theorem sc_ok {K : PySem.W.Frag} {F H : Hp} {x y : V} {d e : D} (h1 : RepB K F H x d) (h2 : RepB K F H y e) (h : scD d e = true) : scal x y = true ∧ decide (x = y) = PyData.eqv d e := by
  have sb : ∀ {x : V} {d : D}, RepB K F H x d → (d = .none → x = .non) ∧ (∀ i, d = .int i → x = .int i) ∧ (∀ i, d = .bool i → x = .bl i) ∧ ∀ i, d = .str i → x = .str i := fun {x d} h =>
    ⟨fun e => rb_non (e ▸ h), fun i e => rb_int (e ▸ h), fun i e => rb_bool (e ▸ h), fun i e => rb_str (e ▸ h)⟩
  obtain ⟨a1, a2, a3, a4⟩ := sb h1
  obtain ⟨b1, b2, b3, b4⟩ := sb h2
  cases d <;> cases e <;> (try cases h) <;> first
    | (rw [a1 rfl, b1 rfl]; exact ⟨rfl, rfl⟩)
    | (rw [a1 rfl, b2 _ rfl]; exact ⟨rfl, rfl⟩)
    | (rw [a1 rfl, b3 _ rfl]; exact ⟨rfl, rfl⟩)
    | (rw [a1 rfl, b4 _ rfl]; exact ⟨rfl, rfl⟩)
    | (rw [a2 _ rfl, b1 rfl]; exact ⟨rfl, rfl⟩)
    | (rw [a2 _ rfl, b2 _ rfl]; exact ⟨rfl, by simp only [PyData.eqv]; exact dec_int⟩)
    | (rw [a2 _ rfl, b4 _ rfl]; exact ⟨rfl, rfl⟩)
    | (rw [a3 _ rfl, b1 rfl]; exact ⟨rfl, rfl⟩)
    | (rw [a3 _ rfl, b3 _ rfl]; exact ⟨rfl, by simp only [PyData.eqv]; exact dec_bl⟩)
    | (rw [a3 _ rfl, b4 _ rfl]; exact ⟨rfl, rfl⟩)
    | (rw [a4 _ rfl, b1 rfl]; exact ⟨rfl, rfl⟩)
    | (rw [a4 _ rfl, b2 _ rfl]; exact ⟨rfl, rfl⟩)
    | (rw [a4 _ rfl, b3 _ rfl]; exact ⟨rfl, rfl⟩)
    | (rw [a4 _ rfl, b4 _ rfl]; exact ⟨rfl, by simp only [PyData.eqv]; exact dec_str⟩)
def rEqE (K : PySem.W.Frag) : R2 := fun x y H Q => ∃ l b xs ys, x = .ref l ∧ y = .ref b ∧ SqT K H l xs ∧ SqT K H b ys ∧ (xs = [] ∨ ys = []) ∧ Q (.bl (xs.isEmpty && ys.isEmpty)) H
theorem op_eqE (hu : X.A.units + 64 < cLine) : OpR X (compareOp .Eq) (rEqE X.K) := by
  rintro pins s σ H x y v u Q I rx ry ⟨l, b, xs, ys, rfl, rfl, h1, h2, he, q⟩
  cases rx
  cases ry
  obtain ⟨is, r1, p1, _⟩ := I.tuple h1
  obtain ⟨js, r2, p2, _⟩ := I.tuple h2
  have l1 := r1.length
  have l2 := r2.length
  refine PySem.W.eq_tuplesT (n := 0) (e := fun _ => true) p1 p2 (fun j a c => ?_) (by omega) ⟨.bl (xs.isEmpty && ys.isEmpty), H, I, ?_, q⟩
  · exfalso
    simp at a c
    rcases he with rfl | rfl
    · simp at l1; omega
    · simp at l2; omega
  · have : ((List.range (min is.toArray.size js.toArray.size)).all (fun _ => true) && is.toArray.size == js.toArray.size) = (xs.isEmpty && ys.isEmpty) := by
      rcases he with rfl | rfl
      · have : is = [] := List.eq_nil_of_length_eq_zero (by simpa using l1.symm)
        subst this
        cases ys with
        | nil =>
          have : js = [] := List.eq_nil_of_length_eq_zero (by simpa using l2.symm)
          subst this
          rfl
        | cons y ys =>
          cases js with
          | nil => simp at l2
          | cons z zs => simp
      · have : js = [] := List.eq_nil_of_length_eq_zero (by simpa using l2.symm)
        subst this
        cases xs with
        | nil =>
          have : is = [] := List.eq_nil_of_length_eq_zero (by simpa using l1.symm)
          subst this
          rfl
        | cons y ys =>
          cases is with
          | nil => simp at l1
          | cons z zs => simp
    rw [this]
    exact rfl
theorem em_ok {K : PySem.W.Frag} {F H : Hp} {x y : V} {d e : D} (s : Same F H) (h1 : RepB K F H x d) (h2 : RepB K F H y e) (h : emD d e = true) : ∃ l b xs ys, x = .ref l ∧ y = .ref b ∧ SqT K H l xs ∧ SqT K H b ys ∧ (xs = [] ∨ ys = []) ∧ (xs.isEmpty && ys.isEmpty) = PyData.eqv d e := by
  have main : ∀ ds es : List D, d = .tuple ds → e = .tuple es → (ds = [] ∨ es = []) → ∃ l b xs ys, x = .ref l ∧ y = .ref b ∧ SqT K H l xs ∧ SqT K H b ys ∧ (xs = [] ∨ ys = []) ∧ (xs.isEmpty && ys.isEmpty) = PyData.eqv d e := by
    rintro ds es rfl rfl hh
    obtain ⟨a, vs, rfl, _, g1, r1⟩ := rb_tup s h1
    obtain ⟨b, ws, rfl, _, g2, r2⟩ := rb_tup s h2
    have l1 := r1.length
    have l2 := r2.length
    refine ⟨a, b, vs, ws, rfl, rfl, g1, g2, ?_, ?_⟩
    · rcases hh with rfl | rfl
      · exact .inl (List.eq_nil_of_length_eq_zero (by simpa using l1))
      · exact .inr (List.eq_nil_of_length_eq_zero (by simpa using l2))
    · have e1 : vs.isEmpty = ds.isEmpty := by cases vs <;> cases ds <;> simp_all
      have e2 : ws.isEmpty = es.isEmpty := by cases ws <;> cases es <;> simp_all
      rw [e1, e2]
      simp only [PyData.eqv]
      rcases hh with rfl | rfl
      · cases es <;> simp [PyData.eqvAll]
      · cases ds <;> simp [PyData.eqvAll]
  match d, e, h with
  | .tuple ds, .tuple es, h => exact main _ _ rfl rfl (by simpa [emD] using h)
theorem eq_ok (hu : X.A.units + 64 < cLine) : ∃ r, OpR X (compareOp .Eq) r ∧ Fn2 X.K eqD r := by
  refine ⟨_, (op_eqD hu).or ((op_eqE hu).or op_eq), fun F H x y d e c Q s h1 h2 he q => ?_⟩
  unfold eqD at he
  split at he
  · rename_i h
    simp only [Bool.or_eq_true, Bool.and_eq_true] at h
    cases he
    rcases h with (h | h) | h
    · obtain ⟨k1, k2⟩ := sc_ok h1 h2 h
      refine .inr (.inr ⟨k1, ?_⟩)
      rw [k2]
      exact g_bool s q
    · obtain ⟨l, b, xs, ys, rfl, rfl, g1, g2, g3, g4⟩ := em_ok s h1 h2 h
      refine .inr (.inl ⟨l, b, xs, ys, rfl, rfl, g1, g2, g3, ?_⟩)
      rw [g4]
      exact g_bool s q
    · exact .inl ⟨d, e, rb_dp s h1 (SeqAt.canLay_of_shaped h.1), rb_dp s h2 (SeqAt.canLay_of_shaped h.2), h.1, h.2, g_bool s q⟩
  · cases he
theorem ne_ok (hu : X.A.units + 64 < cLine) : ∃ r, OpR X (compareOp .NotEq) r ∧ Fn2 X.K neD r := by
  refine ⟨_, (op_neD hu).or op_ne, fun F H x y d e c Q s h1 h2 he q => ?_⟩
  unfold neD at he
  split at he
  · rename_i h
    simp only [Bool.or_eq_true, Bool.and_eq_true] at h
    cases he
    rcases h with h | h
    · obtain ⟨k1, k2⟩ := sc_ok h1 h2 h
      refine .inr ⟨k1, ?_⟩
      rw [k2]
      exact g_bool s q
    · exact .inl ⟨d, e, rb_dp s h1 (SeqAt.canLay_of_shaped h.1), rb_dp s h2 (SeqAt.canLay_of_shaped h.2), h.1, h.2, g_bool s q⟩
  · cases he
theorem lt_ok : ∃ r, OpR X (compareOp .Lt) r ∧ Fn2 X.K ltD r := by
  refine ⟨_, op_lt.or op_lt_str, fun F H x y d e c Q s h1 h2 he q => ?_⟩
  unfold ltD at he
  split at he
  · cases he; exact .inl ⟨_, _, rb_int h1, rb_int h2, g_bool s q⟩
  · cases he; exact .inr ⟨_, _, rb_str h1, rb_str h2, g_bool s q⟩
  · cases he
theorem is_ok : ∃ r, OpR X (compareOp .Is) r ∧ Fn2 X.K isD r := by
  refine ⟨_, op_isN.or op_isBl, fun F H x y d e c Q s h1 h2 he q => ?_⟩
  unfold isD at he
  split at he
  · cases he
    refine .inl ⟨rb_non h2, ?_⟩
    rw [isNon_ok h1]
    exact g_bool s q
  · cases he
    exact .inr ⟨_, _, rb_bool h1, rb_bool h2, g_bool s q⟩
  · cases he
theorem isn_ok : ∃ r, OpR X (compareOp .IsNot) r ∧ Fn2 X.K isnD r := by
  refine ⟨_, op_notN.or op_notBl, fun F H x y d e c Q s h1 h2 he q => ?_⟩
  unfold isnD at he
  split at he
  · cases he
    refine .inl ⟨rb_non h2, ?_⟩
    rw [isNon_ok h1]
    exact g_bool s q
  · cases he
    exact .inr ⟨_, _, rb_bool h1, rb_bool h2, g_bool s q⟩
  · cases he
def rAnyIn (K : PySem.W.Frag) : R2 := fun x y H Q => ∃ d ds, Dp K H x d ∧ (Dp K H y (.list ds) ∨ Dp K H y (.tuple ds)) ∧ SeqAt.shaped d = true ∧ (SeqAt.shaped (.list ds) = true ∨ SeqAt.shaped (.tuple ds) = true) ∧ Q (.bl (ds.any fun z => PyData.eqv z d)) H
theorem op_anyIn (hu : X.A.units + 65 < cLine) : OpR X (compareOp .In) (rAnyIn X.K) := by
  intro pins s σ H x y v u Q I rx ry h
  obtain ⟨d, ds, hd, he, sd, se, q⟩ := h
  obtain ⟨as, r1⟩ := Dp.reads I d x v hd rx
  have sa : PyData.canLayAll0 ds = true := se.elim (fun h => SeqAt.canLay_of_shaped h) (fun h => SeqAt.canLay_of_shaped h)
  rcases he with he | he
  · obtain ⟨bs, r2⟩ := Dp.reads I (.list ds) y u he ry
    exact SeqAt.in_list_reads r2 r1 sa (SeqAt.canLay_of_shaped sd) (room_in_shaped sd hu) ⟨.bl _, H, I, rfl, q⟩
  · obtain ⟨bs, r2⟩ := Dp.reads I (.tuple ds) y u he ry
    exact SeqAt.in_tuple_reads r2 r1 sa (SeqAt.canLay_of_shaped sd) (room_in_shaped sd hu) ⟨.bl _, H, I, rfl, q⟩
theorem in_ok (hu : X.A.units + 65 < cLine) : ∃ r, OpR X (compareOp .In) r ∧ Fn2 X.K inD r := by
  refine ⟨_, op_anyIn hu, fun F H x y d e c Q s h1 h2 he q => ?_⟩
  unfold inD at he
  split at he
  · split at he
    · rename_i h
      simp only [Bool.and_eq_true] at h
      cases he
      exact ⟨d, _, rb_dp s h1 (SeqAt.canLay_of_shaped h.1), .inl (rb_dp s h2 (SeqAt.canLay_of_shaped h.2)), h.1, .inl h.2, g_bool s q⟩
    · cases he
  · split at he
    · rename_i h
      simp only [Bool.and_eq_true] at h
      cases he
      exact ⟨d, _, rb_dp s h1 (SeqAt.canLay_of_shaped h.1), .inr (rb_dp s h2 (SeqAt.canLay_of_shaped h.2)), h.1, .inr h.2, g_bool s q⟩
    · cases he
  · cases he
def rAnyNotIn (K : PySem.W.Frag) : R2 := fun x y H Q => ∃ d ds, Dp K H x d ∧ (Dp K H y (.list ds) ∨ Dp K H y (.tuple ds)) ∧ SeqAt.shaped d = true ∧ (SeqAt.shaped (.list ds) = true ∨ SeqAt.shaped (.tuple ds) = true) ∧ Q (.bl (!ds.any fun z => PyData.eqv z d)) H
theorem op_anyNotIn (hu : X.A.units + 65 < cLine) : OpR X (compareOp .NotIn) (rAnyNotIn X.K) := by
  intro pins s σ H x y v u Q I rx ry h
  obtain ⟨d, ds, hd, he, sd, se, q⟩ := h
  obtain ⟨as, r1⟩ := Dp.reads I d x v hd rx
  have sa : PyData.canLayAll0 ds = true := se.elim (fun h => SeqAt.canLay_of_shaped h) (fun h => SeqAt.canLay_of_shaped h)
  rcases he with he | he
  · obtain ⟨bs, r2⟩ := Dp.reads I (.list ds) y u he ry
    exact SeqAt.notIn_list_reads r2 r1 sa (SeqAt.canLay_of_shaped sd) (room_in_shaped sd hu) ⟨.bl _, H, I, rfl, q⟩
  · obtain ⟨bs, r2⟩ := Dp.reads I (.tuple ds) y u he ry
    exact SeqAt.notIn_tuple_reads r2 r1 sa (SeqAt.canLay_of_shaped sd) (room_in_shaped sd hu) ⟨.bl _, H, I, rfl, q⟩
theorem nin_ok (hu : X.A.units + 65 < cLine) : ∃ r, OpR X (compareOp .NotIn) r ∧ Fn2 X.K ninD r := by
  refine ⟨_, op_anyNotIn hu, fun F H x y d e c Q s h1 h2 he q => ?_⟩
  unfold ninD at he
  split at he
  · split at he
    · rename_i h
      simp only [Bool.and_eq_true] at h
      cases he
      exact ⟨d, _, rb_dp s h1 (SeqAt.canLay_of_shaped h.1), .inl (rb_dp s h2 (SeqAt.canLay_of_shaped h.2)), h.1, .inl h.2, g_bool s q⟩
    · cases he
  · split at he
    · rename_i h
      simp only [Bool.and_eq_true] at h
      cases he
      exact ⟨d, _, rb_dp s h1 (SeqAt.canLay_of_shaped h.1), .inr (rb_dp s h2 (SeqAt.canLay_of_shaped h.2)), h.1, .inr h.2, g_bool s q⟩
    · cases he
  · cases he
theorem bools_ok {f : Value → Value → Sem Value} {g : Int → Int → Bool} (h : OpR X f (rI0 fun i j => .bl (g i j))) {t : D → D → Option C}
    (ht : ∀ d e c, t d e = some c → ∃ i j, d = .int i ∧ e = .int j ∧ c = .sh (.bool (g i j))) : ∃ r, OpR X f r ∧ Fn2 X.K t r := by
  refine ⟨_, h, fun F H x y d e c Q s h1 h2 he q => ?_⟩
  obtain ⟨i, j, rfl, rfl, rfl⟩ := ht d e c he
  exact ⟨i, j, rb_int h1, rb_int h2, g_bool s q⟩
theorem cmp_ok (hu : X.A.units + 65 < cLine) (op : CmpOp) : ∃ r, OpR X (compareOp op) r ∧ Fn2 X.K (cmpD op) r := by
  have hu' : X.A.units + 64 < cLine := by omega
  cases op with
  | Eq => exact eq_ok hu'
  | NotEq => exact ne_ok hu'
  | Lt => exact lt_ok
  | LtE => exact bools_ok op_le (int2 (fun d e h => by cases d <;> cases e <;> first | rfl | exact (h _ _ rfl rfl).elim) fun i j c h => by cases h; rfl)
  | Gt => exact bools_ok op_gt (int2 (fun d e h => by cases d <;> cases e <;> first | rfl | exact (h _ _ rfl rfl).elim) fun i j c h => by cases h; rfl)
  | GtE => exact bools_ok op_ge (int2 (fun d e h => by cases d <;> cases e <;> first | rfl | exact (h _ _ rfl rfl).elim) fun i j c h => by cases h; rfl)
  | Is => exact is_ok
  | IsNot => exact isn_ok
  | In => exact in_ok hu
  | NotIn => exact nin_ok hu
def negD : D → Option C
  | .int i => some (.sh (.int (-i)))
  | _ => none
theorem neg_ok : ∃ r, UnR X (unaryOp .USub) r ∧ Fn1 X.K negD r := by
  refine ⟨_, un_neg, fun F H x d c Q s h1 he q => ?_⟩
  unfold negD at he
  split at he
  · cases he; exact ⟨_, rb_int h1, g_int s q⟩
  · cases he
def ixD : D → D → Option C
  | .list ds, .int i => (atI ds i).map .sh
  | .tuple ds, .int i => (atI ds i).map .sh
  | .str z, .int i => if z.length ≤ sizeLine then (atI z.cps.toList i).map fun c => .sh (.str ⟨#[c]⟩) else none
  | _, _ => none
theorem Reps.atI {K : PySem.W.Frag} {F : Hp} {vs : List V} {ds : List D} {i : Int} {d : D} (h : Reps K F vs ds) (e : L2.atI ds i = some d) : ∃ v, L2.atI vs i = some v ∧ Rep K F v d := by
  unfold L2.atI at e ⊢
  rw [h.length]
  cases e1 : ixN ds.length i with
  | none => rw [e1] at e; cases e
  | some j =>
    rw [e1] at e
    exact h.get e
theorem ix_ok : ∃ r, IxR X r ∧ Fn2 X.K ixD r := by
  refine ⟨_, ix_seq, fun F H x y d e c Q s h1 h2 he q => ?_⟩
  unfold ixD at he
  split at he
  · simp only [Option.map_eq_some_iff] at he
    obtain ⟨d, hd, rfl⟩ := he
    obtain ⟨a, vs, rfl, g1, g2⟩ := rb_lst s h1
    rename_i ds i
    have hg : ∃ v, L2.atI vs i = some v ∧ Q v H := by
      obtain ⟨v, e1, e2⟩ := g2.atI hd
      exact ⟨v, e1, gv s e2 q⟩
    obtain ⟨v, e1, e2⟩ := hg
    exact .inl ⟨a, vs, _, v, rfl, rb_int h2, g1, e1, e2⟩
  · simp only [Option.map_eq_some_iff] at he
    obtain ⟨d, hd, rfl⟩ := he
    obtain ⟨a, vs, rfl, g0, g1, g2⟩ := rb_tup s h1
    obtain ⟨v, e1, e2⟩ := g2.atI hd
    exact .inr (.inl ⟨a, vs, _, v, rfl, rb_int h2, g1, e1, gv s e2 q⟩)
  · split at he
    · simp only [Option.map_eq_some_iff] at he
      obtain ⟨d, hd, rfl⟩ := he
      exact .inr (.inr ⟨_, _, _, rb_str h1, rb_int h2, by assumption, hd, g_str s q⟩)
    · cases he
  · cases he
def cutL {α : Type} (xs : List α) (lo hi : Option Int) : List α := (xs.drop (HT.sIx xs.length 0 lo)).take (HT.sIx xs.length xs.length hi - HT.sIx xs.length 0 lo)
def slD : D → Option Int → Option Int → Option C
  | .list ds, lo, hi => some (.ls (cutL ds lo hi))
  | .tuple ds, lo, hi => some (.sh (.tuple (cutL ds lo hi)))
  | .str z, lo, hi => if z.length ≤ sizeLine then some (.sh (.str (cutS z lo hi))) else none
  | _, _, _ => none
abbrev PM := Cs → Option (Option Int × Cs)
def mNoP : PM := fun ε => some (none, ε)
def mPt (m : OM) : PM := fun ε => do
  let (o, ε1) ← m ε
  let d ← bor ε1 o
  match d with
    | .int i => some (some i, ε1)
    | _ => none
def tP (K : Ek) (m : PM) : TO := fun σ H Q => ∃ F R ε o ε', Sep K F R H σ ε [] ∧ m ε = some (o, ε') ∧ ∀ F' H', Same F F' → Sep K F' R H' σ ε' [] → Q o H'
theorem _root_.L2.PO.weak {e : Option Expr} {t t' : TO} (h : PO X e t) (w : ∀ σ H Q, t' σ H Q → t σ H Q) : PO X e t' := ⟨fun pins s σ H Q I q => h.run pins s σ H Q I (w σ H Q q)⟩
theorem mp_none : PO X none (tP X.E mNoP) := po_none.weak fun σ H Q h => by
  obtain ⟨F, R, ε, o, ε', ok, e, q⟩ := h
  cases e
  exact q F H (Same.refl F) ok
theorem mp_some {e : Expr} {m : OM} (h : PE X e (tO X.E m)) : PO X (some e) (tP X.E (mPt m)) := (po_some h).weak fun σ H Q h => by
  obtain ⟨F, R, ε, o, ε', ok, e, q⟩ := h
  unfold mPt at e
  cases e1 : m ε with
  | none => simp [e1] at e
  | some p =>
    obtain ⟨o1, ε1⟩ := p
    cases e2 : bor ε1 o1 with
    | none => simp [e1, e2] at e
    | some d =>
      simp only [e1, e2, Option.bind_eq_bind, Option.bind_some] at e
      split at e
      · rename_i i
        cases e
        refine ⟨F, R, ε, o1, _, ok, e1, fun v F1 H1 fm1 v1 s1 => ?_⟩
        have hb : bors ε' [o1] = some [.int i] := by simp [bors, e2]
        rw [← List.append_nil (tmO [o1] [v])] at s1
        obtain ⟨x, ex, rx⟩ := (bors_ok s1 v1 hb).one
        cases ex
        exact ⟨i, rb_int rx, q F1 H1 fm1 (s1.drops _)⟩
      · cases e
/-- the value is looked at behind the parts: it must be frozen, or a list of its own -/
def mSl (m : OM) (lo hi : PM) : EM := fun ε => do
  let (o, ε1) ← m ε
  let (l, ε2) ← lo ε1
  let (h, ε3) ← hi ε2
  let d ← bor ε3 o
  let c ← slD d l h
  some (c, ε3)
theorem Reps.cut {K : PySem.W.Frag} {F : Hp} {vs : List V} {ds : List D} (h : Reps K F vs ds) (lo hi : Option Int) : Reps K F (cutV vs lo hi) (cutL ds lo hi) := by
  unfold cutV cutL
  rw [h.length]
  exact Reps.take _ (Reps.drop _ h)
theorem cut_whole {α : Type} {xs : List α} {lo hi : Option Int} (h : HT.sIx xs.length 0 lo = 0 ∧ HT.sIx xs.length xs.length hi = xs.length) : cutL xs lo hi = xs := by
  unfold cutL
  rw [h.1, h.2]
  simp
def rSlH (K : PySem.W.Frag) : V → Option Int → Option Int → Hp → VK → Prop := fun x lo hi H Q => ∃ a xs, x = .ref a ∧ SqT K H a xs ∧
  (HT.sIx xs.length 0 lo = 0 ∧ HT.sIx xs.length xs.length hi = xs.length → Q (.ref a) H) ∧ (¬ (HT.sIx xs.length 0 lo = 0 ∧ HT.sIx xs.length xs.length hi = xs.length) → ∀ (p : Addr) (o : Obj), o.dict = none → H p = none → Q (.ref p) (upd H p (.frz o (.tup (cutV xs lo hi)))))
theorem sl_tupH : SlR X (rSlH X.K) := by
  rintro pins s σ H x v vl vu lo hi sl Q I rx hs pl pu ⟨a, xs, rfl, hx, q1, q2⟩
  cases rx
  obtain ⟨its, r, ht, hz⟩ := I.tuple hx
  have le : its.toArray.size = xs.length := by rw [List.size_toArray]; exact r.length.symm
  refine ⟨"tuple", _, PyProof.Rows.slot_tuple_getitem.lookup, ht.typeIs, ?_⟩
  by_cases hw : HT.sIx xs.length 0 lo = 0 ∧ HT.sIx xs.length xs.length hi = xs.length
  · exact getItem_tuple_whole ht hs pl pu (by rw [le]; exact hw) ⟨.ref a, H, I, rfl, q1 hw⟩
  · refine HT.getItem_tuple_cut ht hs pl pu (by rw [le]; exact hw) ?_ (by rw [le]; exact hz)
    rw [le]
    exact laidH I ((r.drop (HT.sIx xs.length 0 lo)).take (HT.sIx xs.length xs.length hi - HT.sIx xs.length 0 lo)) (Nat.le_trans (cutV_length xs lo hi) hz) (q2 hw)
def slR (K : PySem.W.Frag) : V → Option Int → Option Int → Hp → VK → Prop := fun x lo hi H Q => rSlL K x lo hi H Q ∨ rSlH K x lo hi H Q ∨ rSlS x lo hi H Q
theorem sl_fn {K : PySem.W.Frag} {F H : Hp} {x : V} {d : D} {c : C} {lo hi : Option Int} {Q : VK} (s : Same F H) (h1 : RepB K F H x d) (he : slD d lo hi = some c) (q : ∀ v F' H', Grow K F H F' H' v c → Q v H') : slR K x lo hi H Q := by
  unfold slD at he
  split at he
  · cases he
    obtain ⟨a, vs, rfl, g1, g2⟩ := rb_lst s h1
    exact .inl ⟨a, vs, rfl, g1, g_lst s (g2.cut _ _) q⟩
  · cases he
    obtain ⟨a, vs, rfl, g0, g1, g2⟩ := rb_tup s h1
    refine .inr (.inl ⟨a, vs, rfl, g1, fun hw => ?_, fun _ => g_tup s (g2.cut _ _) q⟩)
    rw [g2.length] at hw
    rw [cut_whole hw] at q
    exact gv s (d := .tuple _) ⟨a, vs, rfl, g0, g2⟩ q
  · split at he
    · cases he
      exact .inr (.inr ⟨_, rb_str h1, by assumption, g_str s q⟩)
    · cases he
  · cases he
/-- the operands wait aside -/
theorem Sep.hides {K : Ek} {H : Hp} {σ : St} {ε : Cs} : ∀ {T0 : Tms} {F R : Hp}, Sep K F R H σ ε T0 → ∃ R1, Sep K F R1 H σ ε [] ∧ ∀ F' H' σ' ε' T', Same F F' → Sep K F' R1 H' σ' ε' T' → Sep K F' R H' σ' ε' (T0 ++ T')
  | [], F, R, s => ⟨R, s, fun F' H' σ' ε' T' _ s' => s'⟩
  | (v, c) :: T0, F, R, s => by
    obtain ⟨R1, _, s1, b1⟩ := s.hide
    obtain ⟨R2, s2, b2⟩ := Sep.hides s1
    exact ⟨R2, s2, fun F' H' σ' ε' T' fm s' => b1 F' H' σ' ε' _ fm (b2 F' H' σ' ε' T' fm s')⟩
theorem me_slice {e : Expr} {lo hi : Option Expr} {m : OM} {ml mh : PM} {p2 pos : Pos} (he : PE X e (tO X.E m)) (hl : PO X lo (tP X.E ml)) (hh : PO X hi (tP X.E mh)) : PE X (.Subscript e (.Slice lo hi none p2) pos) (tE X.E (mSl m ml mh)) :=
  (pe_slice (sl_list.or (sl_tupH.or sl_str)) he hl hh).weak fun σ H Q h => by
    obtain ⟨F, R, ε, c, ε', ok, e, q⟩ := h
    unfold mSl at e
    cases e1 : m ε with
    | none => simp [e1] at e
    | some p =>
      obtain ⟨o, ε1⟩ := p
      cases e2 : ml ε1 with
      | none => simp [e1, e2] at e
      | some p2 =>
        obtain ⟨l, ε2⟩ := p2
        cases e3 : mh ε2 with
        | none => simp [e1, e2, e3] at e
        | some p3 =>
          obtain ⟨u, ε3⟩ := p3
          cases e4 : bor ε3 o with
          | none => simp [e1, e2, e3, e4] at e
          | some d =>
            cases e5 : slD d l u with
            | none => simp [e1, e2, e3, e4, e5] at e
            | some c' =>
              simp [e1, e2, e3, e4, e5] at e
              obtain ⟨rfl, rfl⟩ := e
              refine ⟨F, R, ε, o, ε1, ok, e1, fun v F1 H1 fm1 v1 s1 => ?_⟩
              obtain ⟨R1, s1', back⟩ := s1.hides
              refine ⟨F1, R1, ε1, l, ε2, s1', e2, fun F2 H2 fm2 s2 => ⟨F2, R1, ε2, u, ε3, s2, e3, fun F3 H3 fm3 s3 => ?_⟩⟩
              have s3' := back F3 H3 σ ε3 [] (fm2.trans fm3) s3
              have hb : bors ε3 [o] = some [d] := by simp [bors, e4]
              obtain ⟨x, ex, rx⟩ := (bors_ok s3' v1 hb).one
              cases ex
              refine sl_fn s3'.sub rx e5 fun w F4 H4 g => ?_
              exact q w F4 H4 (((fm1.trans fm2).trans fm3).trans g.fm) ((s3'.drops _).res g)
def lenD : List D → Option C
  | [.list ds] => some (.sh (.int ds.length))
  | [.tuple ds] => some (.sh (.int ds.length))
  | [.str z] => if z.length ≤ sizeLine then some (.sh (.int z.length)) else none
  | _ => none
theorem len_ok : ∃ r, CallR X (.builtin "len") r ∧ FnB X.K lenD r := by
  refine ⟨_, call_len, fun F H vs ds c Q s hr he q => ?_⟩
  match ds, he, hr with
  | [.list ds], he, hr =>
    cases he
    obtain ⟨x, rfl, h1⟩ := hr.one
    obtain ⟨a, vs, rfl, g1, g2⟩ := rb_lst s h1
    refine ⟨_, ds.length, rfl, .inl ⟨vs, g1, g2.length.symm⟩, g_int s q⟩
  | [.tuple ds], he, hr =>
    cases he
    obtain ⟨x, rfl, h1⟩ := hr.one
    obtain ⟨a, vs, rfl, g0, g1, g2⟩ := rb_tup s h1
    refine ⟨_, ds.length, rfl, .inr ⟨vs, g1, g2.length.symm⟩, g_int s q⟩
  | [.str z], he, hr =>
    simp only [lenD] at he
    split at he
    · rename_i hz
      cases he
      obtain ⟨x, rfl, h1⟩ := hr.one
      rw [rb_str h1]
      exact ⟨_, z.length, rfl, ⟨hz, rfl⟩, g_int s q⟩
    · cases he
def intD : List D → Option C
  | [.int i] => some (.sh (.int i))
  | [.bool k] => some (.sh (.int (if k then 1 else 0)))
  | _ => none
theorem int_ok : ∃ r, CallR X (.type "int") r ∧ FnB X.K intD r := by
  refine ⟨_, call_int1, fun F H vs ds c Q s hr he q => ?_⟩
  match ds, he, hr with
  | [.int i], he, hr =>
    cases he
    obtain ⟨x, rfl, h1⟩ := hr.one
    rw [rb_int h1]
    exact .inl ⟨i, rfl, g_int s q⟩
  | [.bool k], he, hr =>
    cases he
    obtain ⟨x, rfl, h1⟩ := hr.one
    rw [rb_bool h1]
    exact .inr ⟨k, rfl, g_int s q⟩
def maxD : List D → Option C
  | [.int i, .int j] => some (.sh (.int (if j > i then j else i)))
  | _ => none
theorem max_ok (hc : X.calm = true) : ∃ r, CallR X (.builtin "max") r ∧ FnB X.K maxD r := by
  refine ⟨_, call_max2 hc, fun F H vs ds c Q s hr he q => ?_⟩
  match ds, he, hr with
  | [.int i, .int j], he, hr =>
    cases he
    obtain ⟨x, y, rfl, h1, h2⟩ := hr.two
    rw [rb_int h1, rb_int h2]
    exact ⟨i, j, rfl, g_int s q⟩
def minD : List D → Option C
  | [.int i, .int j] => some (.sh (.int (if j < i then j else i)))
  | _ => none
theorem min_ok (hc : X.calm = true) : ∃ r, CallR X (.builtin "min") r ∧ FnB X.K minD r := by
  refine ⟨_, call_min2 hc, fun F H vs ds c Q s hr he q => ?_⟩
  match ds, he, hr with
  | [.int i, .int j], he, hr =>
    cases he
    obtain ⟨x, y, rfl, h1, h2⟩ := hr.two
    rw [rb_int h1, rb_int h2]
    exact ⟨i, j, rfl, g_int s q⟩
def absD : List D → Option C
  | [.int i] => some (.sh (.int (if i < 0 then -i else i)))
  | _ => none
theorem abs_ok : ∃ r, CallR X (.builtin "abs") r ∧ FnB X.K absD r := by
  refine ⟨_, call_abs, fun F H vs ds c Q s hr he q => ?_⟩
  match ds, he, hr with
  | [.int i], he, hr =>
    cases he
    obtain ⟨x, rfl, h1⟩ := hr.one
    rw [rb_int h1]
    exact ⟨i, rfl, g_int s q⟩
def tupD : List D → Option C
  | [.list ds] => some (.sh (.tuple ds))
  | [.tuple ds] => some (.sh (.tuple ds))
  | _ => none
theorem call_tupleH : CallR X (.type "tuple") (fun xs H Q => ∃ p ys, xs = [.ref p] ∧ ((SqL X.K H p ys ∧ ∀ (l : Addr) (o : Obj), o.dict = none → H l = none → Q (.ref l) (upd H l (.frz o (.tup ys)))) ∨ (SqT X.K H p ys ∧ Q (.ref p) H))) := by
  rintro pins s σ H xs us Q I r ⟨p, ys, rfl, h⟩
  obtain ⟨u, rfl, rx⟩ := vals1 r
  cases rx
  rcases h with ⟨hq, q⟩ | ⟨hq, q⟩
  · obtain ⟨its, r', pl, hz⟩ := I.list hq
    have le := r'.length
    refine call_tuple_list pl.isList (fun h' kp => ?_) (by simp only [List.size_toArray] <;> omega)
    have I1 : Inv X pins σ H { s with heap := h' } := I.kept (t' := s.toks) kp
    exact laidH I1 r' hz q
  · obtain ⟨its, r', pl, hz⟩ := I.tuple hq
    exact call_tuple_same pl ⟨.ref p, H, I, rfl, q⟩
theorem tup_ok : ∃ r, CallR X (.type "tuple") r ∧ FnB X.K tupD r := by
  refine ⟨_, call_tupleH, fun F H vs ds c Q s hr he q => ?_⟩
  match ds, he, hr with
  | [.list ds], he, hr =>
    cases he
    obtain ⟨x, rfl, h1⟩ := hr.one
    obtain ⟨a, vs, rfl, g1, g2⟩ := rb_lst s h1
    exact ⟨a, vs, rfl, .inl ⟨g1, g_tup s g2 q⟩⟩
  | [.tuple ds], he, hr =>
    cases he
    obtain ⟨x, rfl, h1⟩ := hr.one
    obtain ⟨a, vs, rfl, g0, g1, g2⟩ := rb_tup s h1
    exact ⟨a, vs, rfl, .inr ⟨g1, gv s (d := .tuple _) ⟨a, vs, rfl, g0, g2⟩ q⟩⟩
def lstD : List D → Option C
  | [.list ds] => some (.ls ds)
  | [.tuple ds] => some (.ls ds)
  | _ => none
theorem lst_ok : ∃ r, CallR X (.type "list") r ∧ FnB X.K lstD r := by
  refine ⟨_, call_list_of, fun F H vs ds c Q s hr he q => ?_⟩
  match ds, he, hr with
  | [.list ds], he, hr =>
    cases he
    obtain ⟨x, rfl, h1⟩ := hr.one
    obtain ⟨a, vs, rfl, g1, g2⟩ := rb_lst s h1
    exact ⟨a, vs, rfl, .inl g1, g_lst s g2 q⟩
  | [.tuple ds], he, hr =>
    cases he
    obtain ⟨x, rfl, h1⟩ := hr.one
    obtain ⟨a, vs, rfl, g0, g1, g2⟩ := rb_tup s h1
    exact ⟨a, vs, rfl, .inr g1, g_lst s g2 q⟩
def repD : List D → Option C
  | [.none] => some (.sh (.str "None"))
  | [.bool b] => some (.sh (.str (if b then "True" else "False")))
  | [.int i] => if sm i then some (.sh (.str (toString i))) else none
  | _ => none
theorem rep_ok : ∃ r, CallR X (.builtin "repr") r ∧ FnB X.K repD r := by
  refine ⟨fun xs H Q => (xs = [.non] ∧ Q (.str "None") H) ∨ (∃ b, xs = [.bl b] ∧ Q (.str (if b then "True" else "False")) H) ∨ (∃ i, xs = [.int i] ∧ i.natAbs.log2 < 1920 ∧ Q (.str (toString i)) H), ?_, fun F H vs ds c Q s hr he q => ?_⟩
  · intro pins s σ H xs us Q I r h
    rcases h with ⟨rfl, q⟩ | ⟨b, rfl, q⟩ | ⟨i, rfl, hz, q⟩
    · obtain ⟨u, rfl, h⟩ := vals1 r
      cases h
      exact PySem.P.repr_of_none ⟨.str _, H, I.tok _, ⟨_, rfl⟩, q⟩
    · obtain ⟨u, rfl, h⟩ := vals1 r
      cases h
      exact PySem.P.repr_of_bool ⟨.str _, H, I.tok _, ⟨_, rfl⟩, q⟩
    · obtain ⟨u, rfl, t, rfl⟩ := vals1 r
      exact PySem.P.repr_of_int hz ⟨.str _, H, I.tok _, ⟨_, rfl⟩, q⟩
  match ds, he, hr with
  | [.none], he, hr =>
    cases he
    obtain ⟨x, rfl, h1⟩ := hr.one
    rw [rb_non h1]
    exact .inl ⟨rfl, g_str s q⟩
  | [.bool b], he, hr =>
    cases he
    obtain ⟨x, rfl, h1⟩ := hr.one
    rw [rb_bool h1]
    exact .inr (.inl ⟨b, rfl, g_str s q⟩)
  | [.int i], he, hr =>
    simp only [repD] at he
    split at he
    · rename_i hz
      cases he
      obtain ⟨x, rfl, h1⟩ := hr.one
      rw [rb_int h1]
      exact .inr (.inr ⟨i, rfl, by have := log2_le hz.1 hz.2; omega, g_str s q⟩)
    · cases he
end
end L2.M
namespace L2.M
open PySem PySem.Spec PyProof.Rows
abbrev BM := D → Cs → Option Cs
def bNm (i : Nat) : BM := fun d ε => if i < ε.length then some (ε.set i (.sh d)) else none
def bTps : List BM → List D → Cs → Option Cs
  | [], [], ε => some ε
  | b :: bs, d :: ds, ε => do
    let ε1 ← b d ε
    bTps bs ds ε1
  | _, _, _ => none
def bTup (bs : List BM) : BM := fun d ε => match d with
  | .tuple ds => if ds.length = bs.length then bTps bs ds ε else none
  | _ => none
/-- what a target leaves: the slots but S stay -/
structure Bnd (K : Ek) (F R H : Hp) (S : Nat → Prop) (σ : St) (ε : Cs) (H' : Hp) (σ' : St) (ε' : Cs) : Prop where
  sep : Sep K F R H' σ' ε' []
  st : ∀ i : Nat, ¬ S i → σ'[i]? = σ[i]?
  ln : σ'.length = σ.length
def Gd (K : Ek) (g : TG) (b : BM) (S : Nat → Prop) : Prop :=
  ∀ F R H σ ε x d ε' (Q : St → Hp → Prop), Sep K F R H σ ε [] → Rep K.1 F x d → b d ε = some ε' → (∀ H' σ', Bnd K F R H S σ ε H' σ' ε' → Q σ' H') → g x σ H Q
def Gds (K : Ek) (g : TGs) (b : List D → Cs → Option Cs) (S : Nat → Prop) : Prop :=
  ∀ F R H σ ε xs ds ε' (Q : St → Hp → Prop), Sep K F R H σ ε [] → Reps K.1 F xs ds → b ds ε = some ε' → (∀ H' σ', Bnd K F R H S σ ε H' σ' ε' → Q σ' H') → g xs σ H Q
section
variable {K : Ek} {F R H H1 H2 : Hp} {σ σ1 σ2 : St} {ε ε1 ε2 : Cs} {S S' : Nat → Prop}
theorem Bnd.trans (a : Bnd K F R H S σ ε H1 σ1 ε1) (b : Bnd K F R H1 S σ1 ε1 H2 σ2 ε2) : Bnd K F R H S σ ε H2 σ2 ε2 :=
  ⟨b.sep, fun i h => (b.st i h).trans (a.st i h), b.ln.trans a.ln⟩
theorem Bnd.imp (a : Bnd K F R H S σ ε H1 σ1 ε1) (h : ∀ i, S i → S' i) : Bnd K F R H S' σ ε H1 σ1 ε1 := ⟨a.sep, fun i n => a.st i fun z => n (h i z), a.ln⟩
theorem gd_name {i : Nat} : Gd K (gName i) (bNm i) (· = i) := by
  intro F R H σ ε x d ε' Q o r e q
  unfold bNm at e
  split at e
  · cases e
    exact q H _ ⟨(o.addSh r).store i, fun j h => List.getElem?_set_ne (Ne.symm h), by simp⟩
  · cases e
theorem gds_nil : Gds K gNil (bTps []) (fun _ => False) := by
  intro F R H σ ε xs ds ε' Q o r e q
  cases ds with
  | nil =>
    cases e
    exact ⟨r, q H σ ⟨o, fun _ _ => rfl, rfl⟩⟩
  | cons _ _ => simp [bTps] at e
theorem gds_cons {t : TG} {u : TGs} {b : BM} {bs : List BM} (h1 : Gd K t b S) (h2 : Gds K u (bTps bs) S') : Gds K (gCons t u) (bTps (b :: bs)) (fun i => S i ∨ S' i) := by
  intro F R H σ ε xs ds ε' Q o r e q
  cases ds with
  | nil => simp [bTps] at e
  | cons d ds =>
    obtain ⟨v, vr, rfl, r1, r2⟩ := r
    unfold bTps at e
    cases e1 : b d ε with
    | none => simp [e1] at e
    | some ε1 =>
      simp [e1] at e
      refine ⟨v, vr, rfl, h1 F R H σ ε v d ε1 _ o r1 e1 fun H1 σ1 b1 => ?_⟩
      exact h2 F R H1 σ1 ε1 vr ds ε' Q b1.sep r2 e fun H2 σ2 b2 => q H2 σ2 ((b1.imp fun _ z => .inl z).trans (b2.imp fun _ z => .inr z))
theorem gd_tup {t : TGs} {bs : List BM} {n : Nat} (hn : n = bs.length) (h : Gds K t (bTps bs) S) : Gd K (gTup K.1 n t) (bTup bs) S := by
  intro F R H σ ε x d ε' Q o r e q
  unfold bTup at e
  split at e
  · rename_i ds
    split at e
    · rename_i hl
      obtain ⟨a, vs, rfl, h1, h2⟩ := r
      exact ⟨a, vs, rfl, sameT o.sub h1.sq, by rw [h2.length, hl, hn], h F R H σ ε vs ds ε' Q o h2 e q⟩
    · cases e
  · cases e
end
def Src (K : Ek) (F R H : Hp) (σ : St) (ε : Cs) (J : It) (ds : List D) (ws : List Nat) : Prop :=
  ∃ G Y, Walk J ds.length G Y ∧ ∀ F2 H2 σ2 ε2, Same F F2 → Sep K F2 R H2 σ2 ε2 [] → (∀ i ∈ ws, σ2[i]? = σ[i]? ∧ ε2[i]? = ε[i]?) →
    G H2 ∧ ∀ i x H3, i < ds.length → Y i H2 x H3 → ∃ F3 d, ds[i]? = some d ∧ Rep K.1 F3 x d ∧ Grw F2 H2 F3 H3
/-- what waits aside comes back -/
def Back (K : Ek) (F R1 R : Hp) : Prop := ∀ F' H' σ' ε' T', Same F F' → Sep K F' R1 H' σ' ε' T' → Sep K F' R H' σ' ε' T'
abbrev SM := Cs → Option ((List D × List Nat) × Cs)
def tI (K : Ek) (m : SM) : TI := fun σ H Q => ∃ F R ε ds ws ε', Sep K F R H σ ε [] ∧ m ε = some ((ds, ws), ε') ∧ ∀ F' R' H' J, Same F F' → Sep K F' R' H' σ ε' [] → Back K F' R' R → Src K F' R' H' σ ε' J ds ws → Q J H'
def plOf : List Opd → List Nat
  | [] => []
  | .pl i :: os => i :: plOf os
  | .tm _ :: os => plOf os
def mSrc (kind : List D → Option (List D)) (ma : AM) : SM := fun ε => do
  let (os, ε1) ← ma ε
  let ds ← bors ε1 os
  let out ← kind ds
  some ((out, plOf os), ε1)
/-- the operands, looked at later -/
def Later (K : Ek) (F R : Hp) (σ : St) (ε : Cs) (ws : List Nat) (vs : List V) (ds : List D) : Prop := ∀ F2 H2 σ2 ε2, Same F F2 → Sep K F2 R H2 σ2 ε2 [] → (∀ i ∈ ws, σ2[i]? = σ[i]? ∧ ε2[i]? = ε[i]?) → RepBs K.1 F2 H2 vs ds
theorem opv_to {σ σ2 : St} : ∀ {os : List Opd} {vs : List V}, OpV σ vs os → (∀ i ∈ plOf os, σ2[i]? = σ[i]?) → OpV σ2 vs os
  | [], vs, h, k => by cases h; exact .nil
  | _ :: os, vs, h, k => by
    cases h with
    | pl hv h2 => exact .pl ((k _ (by simp [plOf])).trans hv) (opv_to h2 fun i hi => k i (by simp [plOf, hi]))
    | tm h2 => exact .tm (opv_to h2 k)
theorem bors_to {ε ε2 : Cs} : ∀ {os : List Opd} {ds : List D}, bors ε os = some ds → (∀ i ∈ plOf os, ε2[i]? = ε[i]?) → bors ε2 os = some ds
  | [], ds, h, k => h
  | o :: os, ds, h, k => by
    unfold bors at h ⊢
    have e1 : bor ε2 o = bor ε o := by
      cases o with
      | pl i => simp only [bor, k i (by simp [plOf])]
      | tm c => cases c <;> rfl
    have hk : ∀ i ∈ plOf os, ε2[i]? = ε[i]? := fun i hi => k i (by
      cases o with
      | pl j => simp [plOf, hi]
      | tm c => exact hi)
    rw [e1]
    cases e2 : bor ε o with
    | none => simp [e2] at h
    | some d =>
      cases e3 : bors ε os with
      | none => simp [e2, e3] at h
      | some ds2 =>
        rw [bors_to e3 hk]
        simpa [e2, e3] using h
theorem later_ok {K : Ek} {F R H : Hp} {σ : St} {ε : Cs} {os : List Opd} {vs : List V} {ds : List D} (s : Sep K F R H σ ε (tmO os vs)) (h : OpV σ vs os) (e : bors ε os = some ds) :
    ∃ R1, Sep K F R1 H σ ε [] ∧ Back K F R1 R ∧ Later K F R1 σ ε (plOf os) vs ds := by
  obtain ⟨R1, s1, back⟩ := s.hides
  refine ⟨R1, s1, fun F' H' σ' ε' T' fm s' => (back F' H' σ' ε' T' fm s').drops _, fun F2 H2 σ2 ε2 fm s2 k => ?_⟩
  exact bors_ok (back F2 H2 σ2 ε2 [] fm s2) (opv_to h fun i hi => (k i hi).1) (bors_to e fun i hi => (k i hi).2)
def itemsD : List D → Option (List D)
  | [.list ds] => some ds
  | [.tuple ds] => some ds
  | [.str z] => some (z.cps.toList.map fun c => .str ⟨#[c]⟩)
  | _ => none
def rangeD (lo c : Int) (n : Nat) : List D := (List.range n).map fun i => PyData.int (lo + (i : Nat) * c)
def rng1D : List D → Option (List D)
  | [.int j] => if -(2 ^ 62) ≤ j ∧ j < 2 ^ 62 then some (rangeD 0 1 j.toNat) else none
  | _ => none
theorem _root_.L2.PI.or {X : Cx} {tg e : Expr} {w1 w2 : TI} (a : PI X tg e w1) (b : PI X tg e w2) : PI X tg e (fun σ H R => w1 σ H R ∨ w2 σ H R) :=
  ⟨fun pins s σ H R I h => h.elim (a.run pins s σ H R I) (b.run pins s σ H R I)⟩
theorem _root_.L2.PI.weak {X : Cx} {tg e : Expr} {w1 w2 : TI} (a : PI X tg e w1) (h : ∀ σ H R, w2 σ H R → w1 σ H R) : PI X tg e w2 := ⟨fun pins s σ H R I q => a.run pins s σ H R I (h σ H R q)⟩
theorem src_parts {K : Ek} {kind : List D → Option (List D)} {ma : AM} {σ : St} {H : Hp} {Q : It → Hp → Prop} (h : tI K (mSrc kind ma) σ H Q) : tA K ma σ H fun vs H1 => ∃ F R ε ws ds out, Sep K F R H1 σ ε [] ∧ Later K F R σ ε ws vs ds ∧ kind ds = some out ∧
    ∀ F' H' J, Same F F' → Sep K F' R H' σ ε [] → Src K F' R H' σ ε J out ws → Q J H' := by
  obtain ⟨F, R, ε, ds, ws, ε', o, e, q⟩ := h
  unfold mSrc at e
  cases e1 : ma ε with
  | none => simp [e1] at e
  | some p =>
    obtain ⟨os, ε1⟩ := p
    cases e2 : bors ε1 os with
    | none => simp [e1, e2] at e
    | some ds' =>
      cases e3 : kind ds' with
      | none => simp [e1, e2, e3] at e
      | some out =>
        simp [e1, e2, e3] at e
        obtain ⟨⟨rfl, rfl⟩, rfl⟩ := e
        refine ⟨F, R, ε, os, ε1, o, e1, fun vs F1 H1 fm1 v1 s1 => ?_⟩
        obtain ⟨R1, s2, bk, lt⟩ := later_ok s1 v1 e2
        exact ⟨F1, R1, ε1, plOf os, ds', out, s2, lt, e3, fun F' H' J fm s' sr => q F' R1 H' J (fm1.trans fm) s' (fun F2 H2 σ2 ε2 T2 fm2 => bk F2 H2 σ2 ε2 T2 (fm.trans fm2)) sr⟩
theorem Later.now {K : Ek} {F R H : Hp} {σ : St} {ε : Cs} {ws : List Nat} {vs : List V} {ds : List D} (l : Later K F R σ ε ws vs ds) (s : Sep K F R H σ ε []) : RepBs K.1 F H vs ds := l F H σ ε (Same.refl F) s fun _ _ => ⟨rfl, rfl⟩
theorem walkL {K : PySem.W.Frag} {a : Addr} {n : Nat} : Walk (Itl K a) n (fun H => ∃ vs, SqL K H a vs ∧ vs.length = n) (fun i H x H' => H' = H ∧ ∀ vs, SqL K H a vs → vs[i]? = some x) :=
  ⟨fun i _ hi ⟨vs, q, e⟩ => ⟨vs, vs[i]'(by omega), q, by simp [show i < vs.length by omega]⟩, fun _ ⟨vs, q, e⟩ => ⟨vs, q, by omega⟩, fun _ _ _ _ _ _ y => y⟩
theorem RepBs.inj1 {K : PySem.W.Frag} {F H : Hp} {x : V} {d : D} (h : RepBs K F H [x] [d]) : RepB K F H x d := by
  cases h with
  | cons h _ => exact h
section
variable {X : Cx} {tg e : Expr} {m : OM} {ma : AM}
/-- for x in e, e a list, a tuple or a text -/
theorem mi_any (h : PE X e (tO X.E m)) : PI X tg e (tI X.E (mSrc itemsD (mCons m mNil))) := by
  refine ((pi_list h).or ((pi_tup h).or (pi_str h))).weak fun σ H Q q => ?_
  -- the data of the operand is told ahead
  obtain ⟨F0, R0, ε0, ds0, ws0, ε0', s0, e0, q0⟩ := q
  unfold mSrc mCons mNil at e0
  cases em : m ε0 with
  | none => simp [em] at e0
  | some p =>
    obtain ⟨o0, εm⟩ := p
    cases eb : bor εm o0 with
    | none => simp [em, bors, eb] at e0
    | some d =>
      cases ek : itemsD [d] with
      | none => simp [em, bors, eb, ek] at e0
      | some out =>
        simp [em, bors, eb, ek] at e0
        obtain ⟨⟨rfl, rfl⟩, rfl⟩ := e0
        have hb : bors εm [o0] = some [d] := by simp [bors, eb]
        have go : ∀ v F' H', Same F0 F' → OpV σ [v] [o0] → Sep X.E F' R0 H' σ εm (tmO [o0] [v]) → ∃ R1, Sep X.E F' R1 H' σ εm [] ∧ Later X.E F' R1 σ εm (plOf [o0]) [v] [d] ∧ ∀ J, Src X.E F' R1 H' σ εm J out (plOf [o0]) → Q J H' := fun v F' H' fm v1 s1 => by
          obtain ⟨R1, s2, bk, lt⟩ := later_ok s1 v1 hb
          exact ⟨R1, s2, lt, fun J sr => q0 F' R1 H' J fm s2 bk sr⟩
        match d, ek with
        | .list ds, ek =>
          cases ek
          refine .inl ⟨F0, R0, ε0, o0, εm, s0, em, fun v F1 H1 fm1 v1 s1 => ?_⟩
          obtain ⟨R1, s2, lt, q3⟩ := go v F1 H1 fm1 v1 s1
          obtain ⟨a, vs, rfl, g1, g2⟩ := rb_lst s2.sub (lt.now s2).inj1
          refine ⟨a, rfl, ⟨vs, g1⟩, q3 _ ⟨_, _, walkL, fun F2 H2 σ2 ε2 fm2 s3 hw => ?_⟩⟩
          obtain ⟨a', us, ea, k1, k2⟩ := rb_lst s3.sub (lt F2 H2 σ2 ε2 fm2 s3 hw).inj1
          cases ea
          refine ⟨⟨us, k1, k2.length⟩, fun i x H3 hi y => ?_⟩
          obtain ⟨rfl, y⟩ := y
          obtain ⟨w, j1, j2⟩ := k2.get (List.getElem?_eq_getElem hi)
          rw [y us k1] at j1
          cases j1
          exact ⟨F2, _, List.getElem?_eq_getElem hi, j2, Grw.refl s3.sub⟩
        | .tuple ds, ek =>
          cases ek
          refine .inr (.inl ⟨F0, R0, ε0, o0, εm, s0, em, fun v F1 H1 fm1 v1 s1 => ?_⟩)
          obtain ⟨R1, s2, lt, q3⟩ := go v F1 H1 fm1 v1 s1
          obtain ⟨a, vs, rfl, h2, _, h3⟩ := rb_tup s2.sub (lt.now s2).inj1
          refine ⟨a, rfl, ⟨vs, sameT s2.sub h2.sq⟩, q3 _ ⟨_, _, (show Walk (Itt X.K a) out.length (fun H => SqT X.K H a vs) (YAt vs) by rw [← h3.length]; exact walk_tup), fun F2 H2 σ2 ε2 fm2 s3 hw => ?_⟩⟩
          refine ⟨sameT s3.sub (sameT fm2 h2.sq), fun i x H3 hi y => ?_⟩
          obtain ⟨rfl, y⟩ := y
          obtain ⟨w, k1, k2⟩ := h3.get (List.getElem?_eq_getElem hi)
          rw [y] at k1
          cases k1
          exact ⟨F2, _, List.getElem?_eq_getElem hi, Rep.mono fm2 _ _ k2, Grw.refl s3.sub⟩
        | .str z, ek =>
          cases ek
          refine .inr (.inr ⟨F0, R0, ε0, o0, εm, s0, em, fun v F1 H1 fm1 v1 s1 => ?_⟩)
          obtain ⟨R1, s2, lt, q3⟩ := go v F1 H1 fm1 v1 s1
          refine ⟨z, rb_str (lt.now s2).inj1, q3 _ ⟨_, _, (show Walk (Its z) (z.cps.toList.map fun c => PyData.str ⟨#[c]⟩).length _ _ by rw [List.length_map, Array.length_toList]; exact walk_str), fun F2 H2 σ2 ε2 fm2 s3 hw => ?_⟩⟩
          refine ⟨trivial, fun i x H3 hi y => ?_⟩
          obtain ⟨rfl, c, y1, rfl⟩ := y
          refine ⟨F2, .str ⟨#[c]⟩, ?_, by simp [Rep], Grw.refl s3.sub⟩
          rw [List.getElem?_map, Array.getElem?_toList, y1]
          rfl
theorem src_range {K : Ek} {F R H : Hp} {σ : St} {ε : Cs} {lo : Int} {n : Nat} {ws : List Nat} : Src K F R H σ ε (Itr lo n) (rangeD lo 1 n) ws := by
  refine ⟨_, _, (show Walk (Itr lo n) (rangeD lo 1 n).length (fun _ => True) (YFn fun i => .int (lo + i)) by simp only [rangeD, List.length_map, List.length_range]; exact walk_range), fun F2 H2 σ2 ε2 fm2 s2 _ => ⟨trivial, fun i x H3 hi y => ?_⟩⟩
  obtain ⟨rfl, rfl⟩ := y
  refine ⟨F2, .int (lo + i), ?_, by simp [Rep], Grw.refl s2.sub⟩
  simp only [rangeD, List.length_map, List.length_range] at hi
  simp [rangeD, hi]
theorem mi_range1 {a : Expr} {p pos : Pos} (hg : Gl X "range") (hm : X.mg "range" = none) (ha : PA X [a] (tA X.E ma)) (hs : starEach [a] X.env = [(false, eval a X.env)]) : PI X tg (.Call (.Name "range" p) [a] [] pos) (tI X.E (mSrc rng1D ma)) := by
  refine (pi_range1 hg hm ha hs).weak fun σ H Q q => tA_mono (src_parts q) fun vs H1 h => ?_
  obtain ⟨F, R, ε, ws, ds, out, s, lt, ek, q⟩ := h
  have rb := lt.now s
  match ds, ek, rb with
  | [.int j], ek, rb =>
    simp only [rng1D] at ek
    split at ek
    · rename_i hj
      cases ek
      obtain ⟨x, rfl, h1⟩ := rb.one
      exact ⟨j, by rw [rb_int h1], hj.1, hj.2, q F H1 _ (Same.refl F) s src_range⟩
    · cases ek
end
end L2.M
namespace L2.M
open PySem PySem.Spec PyProof.Rows
def wipeC (ε : Cs) : List Nat → Cs
  | [] => ε
  | v :: vs => (wipeC ε vs).set v .no
def restC (ε ε1 : Cs) : List Nat → Cs
  | [] => ε
  | v :: vs => match ε1[v]? with
    | some c => (restC ε ε1 vs).set v c
    | none => restC ε ε1 vs
def sameC (ws : List Nat) (ε0 ε : Cs) : Prop := ∀ i ∈ ws, ε[i]? = ε0[i]?
open Classical in
noncomputable def lcL (ws : List Nat) (ε0 : Cs) (bind : BM) (tests : TM) (elt : EM) (own : List Nat) : List D → Nat → Cs → Option (List D × Cs)
  | [], _, ε => if sameC ws ε0 ε then some ([], ε) else none
  | d :: ds, n, ε => if sameC ws ε0 ε then do
      let ε1 ← bind d ε
      let (b, ε2) ← tests ε1
      if b then do
        let (c, ε3) ← elt ε2
        let e ← cD c
        if n < sizeLine then do
          let (r, ε4) ← lcL ws ε0 bind tests elt own ds (n + 1) (wipeC ε3 own)
          some (e :: r, ε4)
        else none
      else lcL ws ε0 bind tests elt own ds n (wipeC ε2 own)
    else none
noncomputable def mLc (src : SM) (bind : BM) (tests : TM) (elt : EM) (own : List Nat) : EM := fun ε => do
  let ((ds, ws), ε1) ← src ε
  if ws.all (fun i => !own.contains i) then do
    let (out, ε2) ← lcL ws ε1 bind tests elt own ds 0 (wipeC ε1 own)
    some (.ls out, restC ε2 ε1 own)
  else none
def mYes : TM := fun ε => some (true, ε)
section
variable {K : Ek} {F R H H' : Hp} {σ : St} {ε : Cs} {T : Tms} {v : V} {c : C} {a : Addr}
theorem rpcs_sh : ∀ {ds : List D} {vs : List V}, Reps K.1 F vs ds → RpCs K F H (vs.map some) (ds.map .sh) (List.replicate ds.length [])
  | [], vs, h => by cases (show vs = [] from h); exact ⟨rfl, rfl⟩
  | d :: ds, vs, ⟨v, r, h1, h2, h3⟩ => by
    subst h1
    exact ⟨some v, r.map some, [], _, rfl, rfl, ⟨rfl, v, rfl, h2⟩, rpcs_sh h3⟩
theorem flat_rep (n : Nat) : (List.replicate n ([] : List Addr)).flatten = [] := by
  induction n with
  | zero => rfl
  | succ n ih => rw [List.replicate_succ, List.flatten_cons, ih]; rfl
theorem rpcs_sh' : ∀ {ds : List D} {vs : List V} {fs : List (List Addr)}, RpCs K F H (vs.map some) (ds.map .sh) fs → Reps K.1 F vs ds ∧ fs.flatten = []
  | [], vs, fs, ⟨h1, h2⟩ => by
    rw [h2]
    exact ⟨show vs = [] by simpa using h1, rfl⟩
  | d :: ds, vs, fs, ⟨o, r, f, fr, h1, h2, ⟨h3, w, h4, h5⟩, h6⟩ => by
    cases vs with
    | nil => cases h1
    | cons v vs =>
      obtain ⟨rfl, rfl⟩ := List.cons.inj h1
      cases h4
      obtain ⟨k1, k2⟩ := rpcs_sh' h6
      exact ⟨⟨_, vs, rfl, h5, k1⟩, by rw [h2, List.flatten_cons, h3, k2]; rfl⟩
theorem rpc_toN {ds : List D} {o : Option V} {A : List Addr} (h : RpC K F H o (.ls ds) A) : RpC K F H o (.ob .ls (ds.map .sh)) A := by
  obtain ⟨a, vs, h1, h2, h3, h4⟩ := h
  exact ⟨a, vs, _, h1, by rw [flat_rep]; exact h2, h3, rpcs_sh h4⟩
theorem rpc_ofN {ds : List D} {o : Option V} {A : List Addr} (h : RpC K F H o (.ob .ls (ds.map .sh)) A) : RpC K F H o (.ls ds) A := by
  obtain ⟨a, vs, fs, h1, h2, h3, h4⟩ := h
  obtain ⟨k1, k2⟩ := rpcs_sh' h4
  exact ⟨a, vs, h1, by rw [h2, k2], h3, k1⟩
/-- a temporary's cell told otherwise -/
theorem Sep.recell {c' : C} (s : Sep K F R H σ ε ((v, c) :: T)) (h : ∀ A, RpC K F H (some v) c A → RpC K F H (some v) c' A) : Sep K F R H σ ε ((v, c') :: T) :=
  Sep.change (T1 := [(v, c)]) s fun gs k n _ => by
    obtain ⟨o, r, f, fr, e1, e2, k1, k2, k3⟩ := k
    obtain ⟨rfl, rfl⟩ := List.cons.inj e1
    subst e2 k3
    have e : ([f] : List (List Addr)).flatten = f := by simp
    rw [e] at n ⊢
    exact ⟨f, h f k1, n, fun b hb => .inl hb, fun b u _ e => e⟩
/-- one thing more in a list of own things -/
theorem Sep.appN {acc : List C} (s : Sep K F R H σ ε ((v, c) :: (.ref a, .ob .ls acc) :: T)) : ∃ ws, H a = some (.lst ws) ∧ ws.length = acc.length ∧ Sep K F R (upd H a (.lst (ws ++ [v]))) σ ε ((.ref a, .ob .ls (acc ++ [c])) :: T) := by
  obtain ⟨f0, ⟨a0, ws, fs0, e0, _, h0, r0⟩, _⟩ := s.drop.headT
  cases e0
  have h0 : H a = some (.lst ws) := h0
  refine ⟨ws, h0, by simpa using r0.len.1, ?_⟩
  refine Sep.change (T1 := [(v, c), (.ref a, .ob .ls acc)]) s fun gs k n _ => ?_
  obtain ⟨o, r, f, fr, e1, e2, k1, o', r', f', fr', e1', e2', k2, k3, k4⟩ := k
  obtain ⟨rfl, rfl⟩ := List.cons.inj e1
  obtain ⟨rfl, rfl⟩ := List.cons.inj e1'
  subst e2' e2 k4
  obtain ⟨b, us, fs, g1, g2, g3, g4⟩ := k2
  cases g1
  have g3 : H a = some (.lst us) := g3
  rw [h0] at g3
  cases g3
  have e : ([f, f'] : List (List Addr)).flatten = f ++ a :: fs.flatten := by simp [g2]
  rw [e] at n ⊢
  rw [List.nodup_append] at n
  obtain ⟨n1, n2, n3⟩ := n
  rw [List.nodup_cons] at n2
  have m1 : ∀ b ∈ f, b ≠ a := fun b hb => n3 b hb a List.mem_cons_self
  have m2 : ∀ b ∈ fs.flatten, b ≠ a := fun b hb z => n2.1 (z ▸ hb)
  refine ⟨a :: (fs ++ [f]).flatten, ⟨a, ws ++ [v], fs ++ [f], rfl, rfl, upd_same, ?_⟩, ?_, fun b hb => ?_, fun b u hb e => ?_⟩
  · rw [List.map_append]
    refine RpCs.append (RpCs.frame (Same.refl F) (fun b hb => upd_ne (m2 b hb)) g4) ⟨some v, [], f, [], rfl, rfl, RpC.frame (Same.refl F) (fun b hb => upd_ne (m1 b hb)) k1, rfl, rfl⟩
  · rw [List.flatten_append, List.nodup_cons, List.nodup_append]
    refine ⟨fun z => ?_, n2.2, by simpa using n1, fun x hx y hy z => ?_⟩
    · rcases List.mem_append.mp z with z | z
      · exact n2.1 z
      · exact m1 a (by simpa using z) rfl
    · have hy : y ∈ f := by simpa using hy
      exact n3 y hy x (List.mem_cons_of_mem _ hx) z.symm
  · left
    simp only [List.mem_cons, List.flatten_append, List.mem_append, List.flatten_cons, List.flatten_nil, List.append_nil] at hb ⊢
    rcases hb with hb | hb | hb
    · exact .inr (.inl hb)
    · exact .inr (.inr hb)
    · exact .inl hb
  · rw [upd_ne]
    · exact e
    · rintro rfl
      exact hb (by simp)
end
section
variable {K : Ek} {F R H : Hp} {σ : St} {ε : Cs} {T : Tms}
/-- a slot of which nothing is told may hold anything -/
theorem Sep.free (s : Sep K F R H σ ε T) {i : Nat} (h : ε[i]? = some .no) (o : Option V) : Sep K F R H (σ.set i o) ε T := by
  obtain ⟨a1, a2, a3, ⟨fs, gs, h1, h2, n, m⟩⟩ := s
  obtain ⟨o', f, e1, e2, e3⟩ := h1.get h
  have h1' := RpCs.set (o := o) (c := .no) (f := f) (K := K) (F := F) (H := H) e3 i h1
  rw [set_same h, set_same e2] at h1'
  exact ⟨a1, a2, a3, fs, gs, h1', h2, n, m⟩
theorem Sep.wipe1 (s : Sep K F R H σ ε T) (i : Nat) : Sep K F R H (σ.set i none) (ε.set i .no) T := by
  by_cases hi : i < ε.length
  · exact (s.dropAt i).free (by rw [List.getElem?_set_self hi]) none
  · have l := s.len
    rw [List.set_eq_of_length_le (by omega), List.set_eq_of_length_le (by omega)]
    exact s
theorem Sep.wipe (s : Sep K F R H σ ε T) : ∀ own : List Nat, Sep K F R H (L2.wipe σ own) (wipeC ε own) T
  | [] => s
  | i :: own => by
    unfold L2.wipe wipeC
    exact (Sep.wipe s own).wipe1 i
theorem Sep.hideAt (s : Sep K F R H σ ε []) (i : Nat) : ∃ R1, Sep K F R1 H (σ.set i none) (ε.set i .no) [] ∧ ∀ F' H' ε2 T', ε2.length = ε.length → Same F F' → Sep K F' R1 H' (σ.set i none) ε2 T' → Sep K F' R H' σ (match ε[i]? with | some c => ε2.set i c | none => ε2) T' := by
  have l := s.len
  cases hc : ε[i]? with
  | none =>
    have hi : ε.length ≤ i := List.getElem?_eq_none_iff.mp hc
    refine ⟨R, s.wipe1 i, fun F' H' ε2 T' _ fm s' => ?_⟩
    rw [List.set_eq_of_length_le (by omega)] at s'
    exact s'
  | some c =>
    have hi : i < ε.length := (List.getElem?_eq_some_iff.mp hc).1
    by_cases hn : c = .no
    · subst hn
      refine ⟨R, s.wipe1 i, fun F' H' ε2 T' l2 fm s' => ?_⟩
      have := (s'.dropAt i).free (i := i) (by rw [List.getElem?_set_self (by omega)]) σ[i]
      rw [List.set_set, set_same (List.getElem?_eq_getElem (by omega))] at this
      exact this
    · obtain ⟨v, hv⟩ := s.val hc hn
      obtain ⟨R1, _, s1, back⟩ := (s.take hc hv).hide
      refine ⟨R1, s1.free (by rw [List.getElem?_set_self hi]) none, fun F' H' ε2 T' l2 fm s' => ?_⟩
      have h1 := (s'.dropAt i).free (i := i) (by rw [List.getElem?_set_self (by omega)]) (some v)
      rw [List.set_set, set_same hv] at h1
      have h2 := (back F' H' _ _ _ fm h1).put hv
      rw [List.set_set] at h2
      exact h2
end
theorem wipe_get (σ : St) (i : Nat) : ∀ vs : List Nat, (wipe σ vs)[i]? = if i ∈ vs ∧ i < σ.length then some none else σ[i]?
  | [] => by simp [wipe]
  | v :: vs => by
    unfold wipe
    by_cases e : v = i
    · subst e
      by_cases h : v < σ.length
      · rw [List.getElem?_set_self (by rw [wipe_length]; exact h)]
        simp [h]
      · rw [List.getElem?_eq_none (by rw [List.length_set, wipe_length]; omega), if_neg (by simp [h]), List.getElem?_eq_none (by omega)]
    · rw [List.getElem?_set_ne e, wipe_get σ i vs]
      have : (i ∈ v :: vs) = (i ∈ vs) := by simp [Ne.symm e]
      simp only [this]
theorem wipeC_length (ε : Cs) : ∀ vs : List Nat, (wipeC ε vs).length = ε.length
  | [] => rfl
  | v :: vs => by unfold wipeC; rw [List.length_set, wipeC_length ε vs]
theorem wipeC_get (ε : Cs) (i : Nat) : ∀ vs : List Nat, (wipeC ε vs)[i]? = if i ∈ vs ∧ i < ε.length then some .no else ε[i]?
  | [] => by simp [wipeC]
  | v :: vs => by
    unfold wipeC
    by_cases e : v = i
    · subst e
      by_cases h : v < ε.length
      · rw [List.getElem?_set_self (by rw [wipeC_length]; exact h)]
        simp [h]
      · rw [List.getElem?_eq_none (by rw [List.length_set, wipeC_length]; omega), if_neg (by simp [h]), List.getElem?_eq_none (by omega)]
    · rw [List.getElem?_set_ne e, wipeC_get ε i vs]
      have : (i ∈ v :: vs) = (i ∈ vs) := by simp [Ne.symm e]
      simp only [this]
theorem restC_length (ε ε1 : Cs) : ∀ vs : List Nat, (restC ε ε1 vs).length = ε.length
  | [] => rfl
  | v :: vs => by
    unfold restC
    split
    · rw [List.length_set, restC_length ε ε1 vs]
    · exact restC_length ε ε1 vs
theorem restC_get (ε ε1 : Cs) (hl : ε.length = ε1.length) (i : Nat) : ∀ vs : List Nat, (restC ε ε1 vs)[i]? = if i ∈ vs then ε1[i]? else ε[i]?
  | [] => by simp [restC]
  | v :: vs => by
    unfold restC
    by_cases e : v = i
    · subst e
      split
      · rename_i c hc
        have hv : v < ε1.length := (List.getElem?_eq_some_iff.mp hc).1
        rw [List.getElem?_set_self (by rw [restC_length, hl]; exact hv)]
        simp [hc]
      · rename_i hc
        have hv : ¬ v < ε1.length := fun z => by rw [List.getElem?_eq_getElem z] at hc; cases hc
        rw [List.getElem?_eq_none (by rw [restC_length]; omega)]
        simp [hc]
    · have : (i ∈ v :: vs) = (i ∈ vs) := by simp [Ne.symm e]
      split
      · rw [List.getElem?_set_ne e, restC_get ε ε1 hl i vs]
        simp only [this]
      · rw [restC_get ε ε1 hl i vs]
        simp only [this]
section
variable {K : Ek} {F R H : Hp} {σ σ' : St} {ε ε1 : Cs} {T : Tms} {own : List Nat}
theorem Sep.hideOwn (s : Sep K F R H σ ε1 []) : ∀ own : List Nat, ∃ R1, Sep K F R1 H (L2.wipe σ own) (wipeC ε1 own) [] ∧ ∀ F' H' ε2 T', ε2.length = ε1.length → Same F F' → Sep K F' R1 H' (L2.wipe σ own) ε2 T' → Sep K F' R H' σ (restC ε2 ε1 own) T'
  | [] => ⟨R, s, fun F' H' ε2 T' _ _ s' => s'⟩
  | v :: vs => by
    obtain ⟨R1, s1, b1⟩ := Sep.hideOwn s vs
    obtain ⟨R2, s2, b2⟩ := s1.hideAt v
    refine ⟨R2, s2, fun F' H' ε2 T' l2 fm s' => ?_⟩
    have h1 := b2 F' H' ε2 T' (by rw [wipeC_length]; exact l2) fm s'
    have h2 := b1 F' H' _ T' (by split <;> simp [l2]) fm h1
    have e : restC (match (wipeC ε1 vs)[v]? with | some c => ε2.set v c | none => ε2) ε1 vs = restC ε2 ε1 (v :: vs) := by
      apply List.ext_getElem?
      intro j
      rw [restC_get _ _ (by split <;> simp [l2]), restC_get _ _ l2]
      by_cases hj : j ∈ vs
      · rw [if_pos hj, if_pos (by simp [hj])]
      · rw [if_neg hj]
        by_cases e : j = v
        · subst e
          rw [if_pos List.mem_cons_self, wipeC_get, if_neg fun z => hj z.1]
          cases q : ε1[j]? with
          | none =>
            have : ε1.length ≤ j := List.getElem?_eq_none_iff.mp q
            simp only
            exact List.getElem?_eq_none (by omega)
          | some c =>
            have : j < ε1.length := (List.getElem?_eq_some_iff.mp q).1
            simp only
            rw [List.getElem?_set_self (by omega)]
        · rw [if_neg (by simp [e, hj])]
          split
          · rw [List.getElem?_set_ne (Ne.symm e)]
          · rfl
    rw [e] at h2
    exact h2
theorem wipe_of_bnd {S : Nat → Prop} (hS : ∀ i, S i → i ∈ own) (h : ∀ i : Nat, ¬ S i → σ'[i]? = σ[i]?) (hl : σ'.length = σ.length) : L2.wipe σ' own = L2.wipe σ own := by
  apply List.ext_getElem?
  intro i
  rw [wipe_get, wipe_get, hl]
  by_cases hi : i ∈ own ∧ i < σ.length
  · rw [if_pos hi, if_pos hi]
  · rw [if_neg hi, if_neg hi]
    by_cases hs : S i
    · have := hS i hs
      have hn : ¬ i < σ.length := fun z => hi ⟨this, z⟩
      rw [List.getElem?_eq_none (by omega), List.getElem?_eq_none (by omega)]
    · exact h i hs
theorem wipe_wipe (σ : St) (own : List Nat) : L2.wipe (L2.wipe σ own) own = L2.wipe σ own := by
  apply List.ext_getElem?
  intro i
  rw [wipe_get, wipe_length, wipe_get]
  split <;> rfl
end
open Classical in
/-- .. by what becomes of an element -/
noncomputable def lcG (k : C → Option C) (ws : List Nat) (ε0 : Cs) (bind : BM) (tests : TM) (elt : EM) (own : List Nat) : List D → Nat → Cs → Option (List C × Cs)
  | [], _, ε => if sameC ws ε0 ε then some ([], ε) else none
  | d :: ds, n, ε => if sameC ws ε0 ε then do
      let ε1 ← bind d ε
      let (b, ε2) ← tests ε1
      if b then do
        let (c, ε3) ← elt ε2
        let e ← k c
        if n < sizeLine then do
          let (r, ε4) ← lcG k ws ε0 bind tests elt own ds (n + 1) (wipeC ε3 own)
          some (e :: r, ε4)
        else none
      else lcG k ws ε0 bind tests elt own ds n (wipeC ε2 own)
    else none
def frzC (c : C) : Option C := (cD c).map C.sh
theorem lcL_G {ws : List Nat} {ε0 : Cs} {bind : BM} {tests : TM} {elt : EM} {own : List Nat} : ∀ {ds : List D} {n : Nat} {ε : Cs} {out : List D} {ε' : Cs}, lcL ws ε0 bind tests elt own ds n ε = some (out, ε') → lcG frzC ws ε0 bind tests elt own ds n ε = some (out.map .sh, ε')
  | [], n, ε, out, ε', h => by
    unfold lcL at h
    unfold lcG
    split at h
    · rename_i hs
      cases h
      rw [if_pos hs]
      rfl
    · cases h
  | d :: ds, n, ε, out, ε', h => by
    unfold lcL at h
    unfold lcG
    split at h
    · rename_i hs
      rw [if_pos hs]
      cases e1 : bind d ε with
      | none => simp [e1] at h
      | some ε1 =>
        simp only [e1, Option.bind_eq_bind, Option.bind_some] at h ⊢
        cases e2 : tests ε1 with
        | none => simp [e2] at h
        | some p =>
          obtain ⟨b, ε2⟩ := p
          simp only [e2, Option.bind_some] at h ⊢
          cases b with
          | false =>
            simp only [Bool.false_eq_true, if_false] at h ⊢
            exact lcL_G h
          | true =>
            simp only [if_true] at h ⊢
            cases e3 : elt ε2 with
            | none => simp [e3] at h
            | some p3 =>
              obtain ⟨c, ε3⟩ := p3
              simp only [e3, Option.bind_some] at h ⊢
              cases e4 : cD c with
              | none => simp [e4] at h
              | some e =>
                simp only [e4, Option.bind_some] at h
                simp only [frzC, e4, Option.map_some, Option.bind_some]
                split at h
                · rename_i hn
                  rw [if_pos hn]
                  cases e5 : lcL ws ε0 bind tests elt own ds (n + 1) (wipeC ε3 own) with
                  | none => simp [e5] at h
                  | some p5 =>
                    obtain ⟨r, ε4⟩ := p5
                    simp [e5] at h
                    obtain ⟨rfl, rfl⟩ := h
                    rw [lcL_G e5]
                    rfl
                · cases h
    · cases h
/-- what may become of an element -/
def KpC (K : Ek) (k : C → Option C) : Prop := ∀ F R H σ ε T v c c', Sep K F R H σ ε ((v, c) :: T) → k c = some c' → ∃ F', Same F F' ∧ Sep K F' R H σ ε ((v, c') :: T)
theorem kp_frz {K : Ek} : KpC K frzC := fun F R H σ ε T v c c' s h => by
  unfold frzC at h
  cases e : cD c with
  | none => simp [e] at h
  | some d =>
    simp [e] at h
    subst h
    obtain ⟨F', fm, r, s'⟩ := s.freeze e
    exact ⟨F', fm, s'.addSh r⟩
section
variable {K : Ek}
theorem tE_lcG {k : C → Option C} (hk : KpC K k) {src : SM} {bind : BM} {tests : TM} {elt : EM} {own : List Nat} {g : TG} {S : Nat → Prop} (hg : Gd K g bind S) (hS : ∀ i, S i → i ∈ own) {σ : St} {H : Hp} {Q : VK}
    (h : ∃ F R ε ds ws ε1 out ε2, Sep K F R H σ ε [] ∧ src ε = some ((ds, ws), ε1) ∧ (∀ i ∈ ws, i ∉ own) ∧ lcG k ws ε1 bind tests elt own ds 0 (wipeC ε1 own) = some (out, ε2) ∧ ∀ v F' H', Same F F' → Sep K F' R H' σ (restC ε2 ε1 own) [(v, .ob .ls out)] → Q v H') :
    tLc (tI K src) g (tT K tests) (tE K elt) own σ H Q := by
  obtain ⟨F, R, ε, ds, ws, ε1, out, ε2, o, e1, hws, e2, q⟩ := h
  refine ⟨F, R, ε, ds, ws, ε1, o, e1, fun F1 R1 H1 J fm1 s1 bk sr Da hDa => ?_⟩
  obtain ⟨G, Y, w, hw⟩ := sr
  obtain ⟨R2, s2, bk2⟩ := s1.hideOwn own
  -- the walked thing is looked at from within: all of R1 stands in what R2 holds
  have look : ∀ {F2 H2 ε2' T'}, ε2'.length = ε1.length → Same F1 F2 → Sep K F2 R2 H2 (L2.wipe σ own) ε2' T' → (∀ i ∈ ws, ε2'[i]? = ε1[i]?) → G H2 ∧ ∀ i x H3, i < ds.length → Y i H2 x H3 → ∃ F3 d, ds[i]? = some d ∧ Rep K.1 F3 x d ∧ Grw F2 H2 F3 H3 := by
    intro F2 H2 ε2' T' l2 fm s' hq
    have s3 := (bk2 F2 H2 ε2' T' l2 fm s')
    have s4 : Sep K F2 R1 H2 σ (restC ε2' ε1 own) [] := by
      have := Sep.drops (T := []) T' (by simpa using s3)
      exact this
    refine hw F2 H2 σ _ fm s4 fun i hi => ⟨rfl, ?_⟩
    rw [restC_get _ _ l2, if_neg (hws i hi)]
    exact hq i hi
  refine lc_it w (fun i H2 => ∃ F2 ε2' acc rest, Same F1 F2 ∧ ε2'.length = ε1.length ∧ Sep K F2 R2 H2 (L2.wipe σ own) ε2' [(.ref Da, .ob .ls acc)] ∧ lcG k ws ε1 bind tests elt own (ds.drop i) acc.length ε2' = some (rest, ε2) ∧ acc ++ rest = out) ?_ ?_ ?_ ?_
  · -- the start
    refine ⟨F1, wipeC ε1 own, [], out, Same.refl F1, wipeC_length _ _, ?_, e2, rfl⟩
    exact (s2.newL (vs := []) (ds := []) hDa rfl).recell fun A h => rpc_toN h
  · -- what is walked stands
    rintro i H2 _ ⟨F2, ε2', acc, rest, fm, l2, s3, C1, C2⟩
    have hsame : sameC ws ε1 ε2' := by
      cases hd : ds.drop i with
      | nil =>
        rw [hd] at C1
        unfold lcG at C1
        split at C1
        · assumption
        · cases C1
      | cons d r =>
        rw [hd] at C1
        unfold lcG at C1
        split at C1
        · assumption
        · cases C1
    exact (look l2 fm s3 hsame).1
  · -- one turn
    rintro i x H2 H3 hi ⟨F2, ε2', acc, rest, fm, l2, s3, C1, C2⟩ y
    have hd : ds.drop i = ds[i] :: ds.drop (i + 1) := by rw [List.drop_eq_getElem_cons hi]
    rw [hd] at C1
    unfold lcG at C1
    split at C1
    · rename_i hsame
      obtain ⟨_, hy⟩ := look l2 fm s3 hsame
      obtain ⟨F3, d, hdi, rd, gr⟩ := hy i x H3 hi y
      rw [List.getElem?_eq_getElem hi] at hdi
      cases hdi
      have s4 := s3.grow gr
      obtain ⟨R3, _, s5, b5⟩ := s4.hide
      have fm3 := fm.trans gr.fm
      cases eb : bind ds[i] ε2' with
      | none => simp [eb] at C1
      | some εb =>
        refine hg F3 R3 H3 _ ε2' x _ εb _ s5 rd eb fun H4 σ2 bd => ?_
        have hwp : L2.wipe σ2 own = L2.wipe σ own := by rw [wipe_of_bnd hS bd.st bd.ln, wipe_wipe]
        refine ⟨hwp, ?_⟩
        have lb : εb.length = ε1.length := by rw [← bd.sep.len, bd.ln, s5.len]; exact l2
        cases et : tests εb with
        | none => simp [eb, et] at C1
        | some pt =>
          obtain ⟨b, εt⟩ := pt
          refine ⟨F3, R3, εb, b, εt, bd.sep, et, fun F5 H5 fm5 s6 => ?_⟩
          have lt : εt.length = ε1.length := by rw [← s6.len, bd.sep.len]; exact lb
          simp only [eb, et, Option.bind_eq_bind, Option.bind_some] at C1
          cases b with
          | false =>
            simp only [Bool.false_eq_true, if_false] at C1 ⊢
            have s7 := s6.wipe own
            rw [hwp] at s7
            exact ⟨F5, wipeC εt own, acc, rest, fm3.trans fm5, by rw [wipeC_length]; exact lt, b5 F5 H5 _ _ _ fm5 s7, C1, C2⟩
          | true =>
            simp only [if_true] at C1 ⊢
            cases ee : elt εt with
            | none => simp [ee] at C1
            | some pe =>
              obtain ⟨ce, εe⟩ := pe
              refine ⟨F5, R3, εt, ce, εe, s6, ee, fun v F6 H6 fm6 s7 => ?_⟩
              have le : εe.length = ε1.length := by rw [← s7.len, s6.len]; exact lt
              simp only [ee, Option.bind_some] at C1
              cases ec : k ce with
              | none => simp [ec] at C1
              | some c' =>
                simp only [ec, Option.bind_some] at C1
                split at C1
                · rename_i hsz
                  cases er : lcG k ws ε1 bind tests elt own (ds.drop (i + 1)) (acc.length + 1) (wipeC εe own) with
                  | none => simp [er] at C1
                  | some pr =>
                    obtain ⟨rr, εr⟩ := pr
                    simp [er] at C1
                    obtain ⟨rfl, rfl⟩ := C1
                    obtain ⟨F7, fm7, s8⟩ := hk _ _ _ _ _ _ _ _ _ s7 ec
                    have s9 := s8.wipe own
                    rw [hwp] at s9
                    -- the element waits aside while the list is fetched
                    have s10 : Sep K F7 R2 H6 (L2.wipe σ own) (wipeC εe own) ((v, c') :: (.ref Da, .ob .ls acc) :: []) := by
                      have := b5 F7 H6 _ _ [(v, c')] (fm5.trans (fm6.trans fm7)) s9
                      obtain ⟨a1, a2, a3, ⟨fs, gs, h1, ⟨o1, r1, f1, fr1, e1, e2, k1, ⟨o2, r2, f2, fr2, e3, e4, k2, k3, k4⟩⟩, n, m⟩⟩ := this
                      obtain ⟨rfl, rfl⟩ := List.cons.inj e1
                      obtain ⟨rfl, rfl⟩ := List.cons.inj e3
                      subst e2 e4 k4
                      have ef : ([f1, f2] : List (List Addr)).flatten = f1 ++ f2 := by simp
                      have ef2 : ([f2, f1] : List (List Addr)).flatten = f2 ++ f1 := by simp
                      rw [ef] at n m
                      refine ⟨a1, a2, a3, fs, [f2, f1], h1, ⟨_, _, _, _, rfl, rfl, k2, ⟨_, _, _, _, rfl, rfl, k1, rfl, rfl⟩⟩, ?_, fun b hb => m b ?_⟩
                      · rw [ef2]
                        rw [List.nodup_append, List.nodup_append] at n ⊢
                        refine ⟨n.1, ⟨n.2.1.2.1, n.2.1.1, fun a ha b hb => Ne.symm (n.2.1.2.2 b hb a ha)⟩, fun a ha b hb => n.2.2 a ha b ?_⟩
                        simp only [List.mem_append] at hb ⊢
                        exact hb.symm
                      · rw [ef2] at hb
                        simp only [List.mem_append] at hb ⊢
                        rcases hb with hb | hb | hb
                        · exact .inl hb
                        · exact .inr (.inr hb)
                        · exact .inr (.inl hb)
                    obtain ⟨ws', g1, g2, s11⟩ := s10.appN
                    refine ⟨ws', g1, by omega, F7, wipeC εe own, acc ++ [c'], rr, (fm3.trans fm5).trans (fm6.trans fm7), by rw [wipeC_length]; exact le, s11, by rw [List.length_append]; exact er, by simpa using C2⟩
                · cases C1
    · cases C1
  · -- the end
    rintro H2 ⟨F2, ε2', acc, rest, fm, l2, s3, C1, C2⟩
    rw [List.drop_length] at C1
    unfold lcG at C1
    split at C1
    · cases C1
      rw [List.append_nil] at C2
      subst C2
      exact q _ F2 H2 (fm1.trans fm) (bk F2 H2 σ _ _ fm (bk2 F2 H2 ε2 _ l2 fm s3))
    · cases C1
theorem tE_lc {src : SM} {bind : BM} {tests : TM} {elt : EM} {own : List Nat} {g : TG} {S : Nat → Prop} (hg : Gd K g bind S) (hS : ∀ i, S i → i ∈ own) {σ : St} {H : Hp} {Q : VK} (h : tE K (mLc src bind tests elt own) σ H Q) :
    tLc (tI K src) g (tT K tests) (tE K elt) own σ H Q := by
  obtain ⟨F, R, ε, c, ε', o, e, q⟩ := h
  unfold mLc at e
  cases e1 : src ε with
  | none => simp [e1] at e
  | some p =>
    obtain ⟨⟨ds, ws⟩, ε1⟩ := p
    simp only [e1, Option.bind_eq_bind, Option.bind_some] at e
    split at e
    · rename_i hws
      cases e2 : lcL ws ε1 bind tests elt own ds 0 (wipeC ε1 own) with
      | none => simp [e2] at e
      | some p2 =>
        obtain ⟨out, ε2⟩ := p2
        simp [e2] at e
        obtain ⟨rfl, rfl⟩ := e
        exact tE_lcG kp_frz hg hS ⟨F, R, ε, ds, ws, ε1, _, ε2, o, e1, by simpa using hws, lcL_G e2, fun v F' H' fm s => q v F' H' fm (s.recell fun A h => rpc_ofN h)⟩
    · cases e
end
end L2.M
namespace L2.M
open PySem PySem.Spec PyProof.Rows
abbrev Xw := Value → Option Addr → St → Hp → Prop
inductive Fl where
  | nx | bk | ct | rt (c : C) | xc (x : Xn)
abbrev XM := Cs → Option (Fl × Cs)
/-- the slots in io stay -/
structure StS (io : List Nat) (σ σ' : St) : Prop where
  st : ∀ i ∈ io, σ'[i]? = σ[i]?
  ln : σ'.length = σ.length
theorem StS.refl {io : List Nat} (σ : St) : StS io σ σ := ⟨fun _ _ => rfl, rfl⟩
theorem StS.trans {io : List Nat} {σ σ1 σ2 : St} (a : StS io σ σ1) (b : StS io σ1 σ2) : StS io σ σ2 := ⟨fun i h => (b.st i h).trans (a.st i h), b.ln.trans a.ln⟩
theorem StS.imp {io io' : List Nat} {σ σ1 : St} (a : StS io' σ σ1) (h : ∀ i ∈ io, i ∈ io') : StS io σ σ1 := ⟨fun i hi => a.st i (h i hi), a.ln⟩
theorem StS.set {io : List Nat} {σ : St} {i : Nat} {o : Option V} (h : i ∉ io) : StS io σ (σ.set i o) := ⟨fun j hj => List.getElem?_set_ne (by rintro rfl; exact h hj), by simp⟩
theorem Bnd.sts {K : Ek} {F R H H1 : Hp} {S : Nat → Prop} {σ σ1 : St} {ε ε1 : Cs} {io : List Nat} (b : Bnd K F R H S σ ε H1 σ1 ε1) (h : ∀ i, S i → i ∉ io) : StS io σ σ1 := ⟨fun i hi => b.st i fun z => h i z hi, b.ln⟩
def Fin (K : Ek) (R : Hp) (De : Ends) (W : Xw) (F' H' : Hp) (σ' : St) (ε' : Cs) : Fl → Prop
  | .nx => Sep K F' R H' σ' ε' [] → De.nx σ' H'
  | .bk => Sep K F' R H' σ' ε' [] → De.bk σ' H'
  | .ct => Sep K F' R H' σ' ε' [] → De.ct σ' H'
  | .rt c => ∀ v, Sep K F' R H' σ' ε' [(v, c)] → De.rt v H'
  | .xc x => ∀ cls d, Sep K F' R H' σ' ε' [] → RepX K F' cls d x → W cls d σ' H'
def tS (K : Ek) (W : Xw) (io : List Nat) (m : XM) : TS := fun De σ H => ∃ F R ε f ε', Sep K F R H σ ε [] ∧ m ε = some (f, ε') ∧ ∀ F' H' σ', Same F F' → StS io σ σ' → Fin K R De W F' H' σ' ε' f
theorem Fin.back {K : Ek} {F1 R R1 : Hp} {De : Ends} {W : Xw} {F' H' : Hp} {σ' : St} {ε' : Cs} {f : Fl} (bk : Back K F1 R1 R) (fm : Same F1 F') (h : Fin K R De W F' H' σ' ε' f) : Fin K R1 De W F' H' σ' ε' f := by
  cases f with
  | nx => exact fun s => h (bk F' H' σ' ε' [] fm s)
  | bk => exact fun s => h (bk F' H' σ' ε' [] fm s)
  | ct => exact fun s => h (bk F' H' σ' ε' [] fm s)
  | rt c => exact fun v s => h v (bk F' H' σ' ε' _ fm s)
  | xc x => exact fun cls d s => h cls d (bk F' H' σ' ε' _ fm s)
def mSkip : XM := fun ε => some (.nx, ε)
def mSeq (m n : XM) : XM := fun ε => match m ε with
  | some (.nx, ε1) => n ε1
  | r => r
section
variable {X : Cx} {W : Xw} {io : List Nat} {st : Stmt} {rest : List Stmt} {m n : XM} {e : Expr} {pos : Pos}
theorem ms_nil : PSs X [] (tS X.E W io mSkip) := ⟨fun pins s σ H De I h => by
  obtain ⟨F, R, ε, f, ε', o, e, q⟩ := h
  cases e
  exact pss_nil.run pins s σ H De I (q F H σ (Same.refl F) (StS.refl σ) o)⟩
theorem ms_cons (h1 : PS X st (tS X.E W io m)) (h2 : PSs X rest (tS X.E W io n)) : PSs X (st :: rest) (tS X.E W io (mSeq m n)) := ⟨fun pins s σ H De I h => by
  obtain ⟨F, R, ε, f, ε', o, e, q⟩ := h
  refine (pss_cons h1 h2).run pins s σ H De I ?_
  unfold mSeq at e
  split at e
  · rename_i ε1 e1
    exact ⟨F, R, ε, .nx, ε1, o, e1, fun F1 H1 σ1 fm1 t1 s1 => ⟨F1, R, ε1, f, ε', s1, e, fun F2 H2 σ2 fm2 t2 => q F2 H2 σ2 (fm1.trans fm2) (t1.trans t2)⟩⟩
  · rename_i r hr
    refine ⟨F, R, ε, f, ε', o, e, fun F1 H1 σ1 fm1 t1 => ?_⟩
    have := q F1 H1 σ1 fm1 t1
    cases f with
    | nx => exact (hr ε' e).elim
    | _ => exact this⟩
def mFlow (f : Fl) : XM := fun ε => some (f, ε)
/-- a statement that is not come to -/
def mStuck : XM := fun _ => none
theorem ms_never : PS X st (tS X.E W io mStuck) := ⟨fun pins s σ H De I h => by
  obtain ⟨F, R, ε, f, ε', o, e, q⟩ := h
  cases e⟩
theorem _root_.L2.PS.weak {t t' : TS} (h : PS X st t) (w : ∀ De σ H, t' De σ H → t De σ H) : PS X st t' := ⟨fun pins s σ H De I q => h.run pins s σ H De I (w De σ H q)⟩
def mExpr (m : EM) : XM := fun ε => do
  let (_, ε1) ← m ε
  some (.nx, ε1)
theorem ms_expr {m : EM} (he : PE X e (tE X.E m)) (hs : swapsWith e none pos.line X.env = pure false) : PS X (.Expr e pos) (tS X.E W io (mExpr m)) := (ps_expr he hs).weak fun De σ H h => by
  obtain ⟨F, R, ε, f, ε', o, e, q⟩ := h
  unfold mExpr at e
  cases e1 : m ε with
  | none => simp [e1] at e
  | some p =>
    obtain ⟨c, ε1⟩ := p
    simp [e1] at e
    obtain ⟨rfl, rfl⟩ := e
    exact ⟨F, R, ε, c, ε1, o, e1, fun v F1 H1 fm p => q F1 H1 σ fm (StS.refl σ) p.drop⟩
def mRet (m : EM) : XM := fun ε => do
  let (c, ε1) ← m ε
  some (.rt c, ε1)
theorem ms_ret {m : EM} (he : PE X e (tE X.E m)) : PS X (.Return (some e) pos) (tS X.E W io (mRet m)) := (ps_ret he).weak fun De σ H h => by
  obtain ⟨F, R, ε, f, ε', o, e, q⟩ := h
  unfold mRet at e
  cases e1 : m ε with
  | none => simp [e1] at e
  | some p =>
    obtain ⟨c, ε1⟩ := p
    simp [e1] at e
    obtain ⟨rfl, rfl⟩ := e
    exact ⟨F, R, ε, c, ε1, o, e1, fun v F1 H1 fm p => q F1 H1 σ fm (StS.refl σ) v p⟩
def mRetN : XM := fun ε => some (.rt (.sh .none), ε)
/-- return name: an own thing is handed out -/
def mRetV (io : List Nat) (i : Nat) : XM := fun ε => match ε[i]? with
  | some (.sh d) => some (.rt (.sh d), ε)
  | some (.ls ds) => if io.contains i then some (.rt (.sh (.list ds)), ε.set i (.sh (.list ds))) else some (.rt (.ls ds), ε.set i .no)
  | some (.dc k ds) => some (.rt (.dc k ds), ε.set i .no)
  | some (.ob k cs) => some (.rt (.ob k cs), ε.set i .no)
  | _ => none
theorem ms_retV {i : Nat} {x : Str} {p : Pos} (h : PE X (.Name x p) (tVar i)) : PS X (.Return (some (.Name x p)) pos) (tS X.E W io (mRetV io i)) := (ps_ret h).weak fun De σ H h => by
  obtain ⟨F, R, ε, f, ε', o, e, q⟩ := h
  have mv : ∀ {c : C}, ε[i]? = some c → c ≠ .no → f = .rt c → ε' = ε.set i .no → ∃ v, σ[i]? = some (some v) ∧ De.rt v H := fun {c} h1 h2 h3 h4 => by
    obtain ⟨v, hv⟩ := o.val h1 h2
    subst h3 h4
    exact ⟨v, hv, q F H σ (Same.refl F) (StS.refl σ) v (o.take h1 hv)⟩
  unfold mRetV at e
  split at e
  · rename_i d hd
    cases e
    obtain ⟨v, h1, h2⟩ := o.sh hd
    exact ⟨v, h1, q F H σ (Same.refl F) (StS.refl σ) v (o.addSh h2)⟩
  · rename_i ds hd
    split at e
    · cases e
      exact o.frzVal hd rfl fun v F' H' fm s => q F' H' σ fm (StS.refl σ) v s
    · cases e
      exact mv hd (fun z => nomatch z) rfl rfl
  · rename_i hd
    cases e
    exact mv hd (fun z => nomatch z) rfl rfl
  · rename_i hd
    cases e
    exact mv hd (fun z => nomatch z) rfl rfl
  · cases e
def mIf (t : TM) (m n : XM) : XM := fun ε => do
  let (b, ε1) ← t ε
  if b then m ε1 else n ε1
theorem ms_if {c : Expr} {a b : List Stmt} {t : TM} (hc : PT X c (tT X.E t)) (ha : PSs X a (tS X.E W io m)) (hb : PSs X b (tS X.E W io n)) : PS X (.If c a b pos) (tS X.E W io (mIf t m n)) := (ps_if hc ha hb).weak fun De σ H h => by
  obtain ⟨F, R, ε, f, ε', o, e, q⟩ := h
  unfold mIf at e
  cases e1 : t ε with
  | none => simp [e1] at e
  | some p =>
    obtain ⟨k, ε1⟩ := p
    simp [e1] at e
    refine ⟨F, R, ε, k, ε1, o, e1, fun F1 H1 fm1 s1 => ?_⟩
    cases k with
    | true =>
      simp at e
      exact iteT ⟨F1, R, ε1, f, ε', s1, e, fun F2 H2 σ2 fm2 t2 => q F2 H2 σ2 (fm1.trans fm2) t2⟩
    | false =>
      simp at e
      exact iteF ⟨F1, R, ε1, f, ε', s1, e, fun F2 H2 σ2 fm2 t2 => q F2 H2 σ2 (fm1.trans fm2) t2⟩
def mSet (io : List Nat) (i : Nat) (m : EM) : XM := fun ε => do
  let (c, ε1) ← m ε
  if i < ε1.length ∧ i ∉ io then some (.nx, ε1.set i c) else none
theorem tS_set {K : Ek} {i : Nat} {m : EM} {De : Ends} {σ : St} {H : Hp} (h : tS K W io (mSet io i m) De σ H) : tAsg (tE K m) (gName i) De σ H := by
  obtain ⟨F, R, ε, f, ε', o, e, q⟩ := h
  unfold mSet at e
  cases e1 : m ε with
  | none => simp [e1] at e
  | some p =>
    obtain ⟨c, ε1⟩ := p
    simp [e1] at e
    obtain ⟨⟨hi, hio⟩, rfl, rfl⟩ := e
    exact ⟨F, R, ε, c, ε1, o, e1, fun v F1 H1 fm p => q F1 H1 _ fm (StS.set hio) (p.store i)⟩
theorem ms_set {i : Nat} {x : Str} {m : EM} {p : Pos} (hN : X.N.Nodup) (hi : X.N[i]? = some x) (hx : Loc X.env.scope x) (he : PE X e (tE X.E m)) (hs : swapsWith e (some (.Name x p)) pos.line X.env = pure false) (hf : X.fn x = true ∨ X.env.scope.names.lookup x = some .local) :
    PS X (.Assign [.Name x p] e pos) (tS X.E W io (mSet io i m)) := (ps_set hN hi hx he hs hf).weak fun De σ H h => tS_set h
/-- a target of several names: the value is frozen data -/
def mAsg (ts io : List Nat) (b : BM) (m : EM) : XM := fun ε => do
  let (c, ε1) ← m ε
  let d ← (match c with | .sh d => some d | _ => none)
  let ε2 ← b d ε1
  if ts.all (fun i => !io.contains i) then some (.nx, ε2) else none
theorem tS_asg {K : Ek} {ts : List Nat} {b : BM} {g : TG} {m : EM} (hg : Gd K g b (· ∈ ts)) {De : Ends} {σ : St} {H : Hp} (h : tS K W io (mAsg ts io b m) De σ H) : tAsg (tE K m) g De σ H := by
  obtain ⟨F, R, ε, f, ε', o, e, q⟩ := h
  unfold mAsg at e
  cases e1 : m ε with
  | none => simp [e1] at e
  | some p =>
    obtain ⟨c, ε1⟩ := p
    cases c with
    | sh d =>
      cases e2 : b d ε1 with
      | none => simp [e1, e2] at e
      | some ε2 =>
        simp only [e1, e2, Option.bind_eq_bind, Option.bind_some] at e
        split at e
        · rename_i hts
          cases e
          have hts : ∀ i ∈ ts, i ∉ io := by simpa using hts
          refine ⟨F, R, ε, .sh d, ε1, o, e1, fun v F1 H1 fm p => ?_⟩
          refine hg F1 R H1 σ ε1 v d ε' _ p.drop p.repT e2 fun H2 σ2 bd => ?_
          exact q F1 H2 σ2 fm (bd.sts hts) bd.sep
        · cases e
    | no => simp [e1] at e
    | ls ds => simp [e1] at e
    | dc k ds => simp [e1] at e
    | ob k ds => simp [e1] at e
    | px _ _ _ _ => simp [e1] at e
    | fn _ => simp [e1] at e
    | fd _ => simp [e1] at e
    | fk _ => simp [e1] at e
theorem ms_asg {tg : Expr} {ts : List Nat} {b : BM} {g : TG} {m : EM} (hg : Gd X.E g b (· ∈ ts)) (he : PE X e (tE X.E m)) (hp : PG X tg g) (hs : swapsWithSole [tg] e pos.line X.env = pure false) (hw : swappedStores [tg] e X.env = pure none)
    (h1 : (assignEach [tg] X.env).map (·.2) = [assign tg X.env]) : PS X (.Assign [tg] e pos) (tS X.E W io (mAsg ts io b m)) := (ps_asg he hp hs hw h1).weak fun De σ H h => tS_asg hg h
end
section
variable {K : Ek} {F R H : Hp} {σ : St} {ε : Cs} {T : Tms}
/-- an own list in a slot: what stands there, and how it is rewritten -/
theorem Sep.atL {i : Nat} {ds : List D} (s : Sep K F R H σ ε T) (h : ε[i]? = some (.ls ds)) : ∃ a vs, σ[i]? = some (some (.ref a)) ∧ H a = some (.lst vs) ∧ Reps K.1 F vs ds ∧ ∀ ws es, Reps K.1 F ws es → Sep K F R (upd H a (.lst ws)) σ (ε.set i (.ls es)) T := by
  obtain ⟨a, vs, h1, h2, h3⟩ := s.lst h
  refine ⟨a, vs, h1, h2, h3, fun ws es r => ?_⟩
  have := ((s.take h h1).wr r).put h1
  rw [List.set_set] at this
  exact this
end
/-- xs.append(e) -/
def mApp (i : Nat) (m : EM) : XM := fun ε => match ε[i]? with
  | some (.ls _) => do
    let (c, ε1) ← m ε
    let d ← cD c
    match ε1[i]? with
      | some (.ls xs) => if xs.length < sizeLine then some (.nx, ε1.set i (.ls (xs ++ [d]))) else none
      | _ => none
  | _ => none
/-- .. to a list of own things -/
def mAppN (i : Nat) (m : EM) : XM := fun ε => match ε[i]? with
  | some (.ob .ls _) => do
    let (c, ε1) ← m ε
    match ε1[i]? with
      | some (.ob .ls cs) => if cs.length < sizeLine then some (.nx, ε1.set i (.ob .ls (cs ++ [c]))) else none
      | _ => none
  | _ => none
section
variable {X : Cx} {W : Xw} {io : List Nat} {pos : Pos}
theorem ms_app {i : Nat} {m : EM} {e : Expr} {x : Str} {p p2 p3 : Pos} (hv : PE X (.Name x p) (tVar i)) (he : PE X e (tE X.E m))
    (hbm : ∀ {to : TE} {t : TA}, PE X (.Name x p) to → PA X [e] t → PE X (.Call (.Attribute (.Name x p) "append" p2) [e] [] p3) (tBM X.K "list" rAppend to t)) (hst : starEach [e] X.env = [(false, eval e X.env)])
    (hs : swapsWith (.Call (.Attribute (.Name x p) "append" p2) [e] [] p3) none pos.line X.env = pure false) : PS X (.Expr (.Call (.Attribute (.Name x p) "append" p2) [e] [] p3) pos) (tS X.E W io (mApp i m)) :=
  (ps_expr (hbm hv (pa_cons he pa_nil hst)) hs).weak fun De σ H h => by
    obtain ⟨F, R, ε, f, ε', o, e, q⟩ := h
    unfold mApp at e
    split at e
    · rename_i xs0 hx0
      cases e1 : m ε with
      | none => simp [e1] at e
      | some p =>
        obtain ⟨c, ε1⟩ := p
        cases ec : cD c with
        | none => simp [e1, ec] at e
        | some d =>
          simp only [e1, ec, Option.bind_eq_bind, Option.bind_some] at e
          split at e
          · rename_i xs hx
            split at e
            · rename_i hl
              cases e
              obtain ⟨a, vs, h1, h2, h3⟩ := o.lst hx0
              refine ⟨_, h1, .inl ⟨rfl, vs, .inl (.inl h2)⟩, F, R, ε, c, ε1, o, e1, fun v F1 H1 fm p => ?_⟩
              obtain ⟨F2, fm2, r2, s2⟩ := p.freeze ec
              obtain ⟨a', vs', g1, g2, g4, wr⟩ := s2.atL hx
              rw [h1] at g1
              cases g1
              refine ⟨a, vs', v, rfl, rfl, g2, by rw [g4.length]; exact hl, ?_⟩
              exact q F2 _ σ (fm.trans fm2) (StS.refl σ) (wr _ _ (g4.append (Reps.one r2)))
            · cases e
          · cases e
    · cases e
/-- xs[k] = e -/
def mSetIx (i : Nat) (m : EM) (ix : OM) : XM := fun ε => do
  let (c, ε1) ← m ε
  let d ← cD c
  match ε1[i]? with
  | some (.ls _) => do
    let (p, ε2) ← ix ε1
    let k ← bor ε2 p
    match k, ε2[i]? with
      | .int k, some (.ls xs) => do
        let j ← ixN xs.length k
        some (.nx, ε2.set i (.ls (xs.set j d)))
      | _, _ => none
  | _ => none
theorem ms_setIx {i : Nat} {m : EM} {ix : OM} {e k : Expr} {x : Str} {p p2 : Pos} (hv : PE X (.Name x p) (tVar i)) (he : PE X e (tE X.E m)) (hk : PE X k (tO X.E ix))
    (ha : ∀ v, assign (.Subscript (.Name x p) k p2) X.env v = (do
      let ov ← holding [v] (eval (.Name x p) X.env)
      let iv ← holding [v, ov] (eval k X.env)
      standAt p2
      holding [v, ov, iv] (setItem ov iv v)
      release [v, ov, iv] []))
    (hs : swapsWithSole [.Subscript (.Name x p) k p2] e pos.line X.env = pure false) (hw : swappedStores [.Subscript (.Name x p) k p2] e X.env = pure none)
    (h1 : (assignEach [.Subscript (.Name x p) k p2] X.env).map (·.2) = [assign (.Subscript (.Name x p) k p2) X.env]) : PS X (.Assign [.Subscript (.Name x p) k p2] e pos) (tS X.E W io (mSetIx i m ix)) :=
  (ps_asg he (pg_sub hv hk set_list ha) hs hw h1).weak fun De σ H h => by
    obtain ⟨F, R, ε, f, ε', o, e, q⟩ := h
    unfold mSetIx at e
    cases e1 : m ε with
    | none => simp [e1] at e
    | some p =>
      obtain ⟨c, ε1⟩ := p
      cases ec : cD c with
      | none => simp [e1, ec] at e
      | some d =>
        simp only [e1, ec, Option.bind_eq_bind, Option.bind_some] at e
        split at e
        · rename_i xs0 hx0
          cases e2 : ix ε1 with
          | none => simp [e2] at e
          | some p2 =>
            obtain ⟨p, ε2⟩ := p2
            cases e3 : bor ε2 p with
            | none => simp [e2, e3] at e
            | some kd =>
              simp only [e2, e3, Option.bind_some] at e
              split at e
              · rename_i k xs hx
                cases e4 : ixN xs.length k with
                | none => simp [e4] at e
                | some j =>
                  simp [e4] at e
                  obtain ⟨rfl, rfl⟩ := e
                  refine ⟨F, R, ε, c, ε1, o, e1, fun v F1 H1 fm1 p1 => ?_⟩
                  obtain ⟨F2, fm2, r2, s2⟩ := p1.freeze ec
                  obtain ⟨w, hw⟩ := s2.val hx0 fun z => nomatch z
                  refine ⟨w, hw, F2, R, ε1, p, ε2, s2, e2, fun kv F3 H3 fm3 v3 s3 => ?_⟩
                  rw [← List.append_nil (tmO [p] [kv])] at s3
                  have rb := bors_ok (ds := [.int k]) s3 v3 (by simp [bors, e3])
                  obtain ⟨x', ex, hx'⟩ := rb.one
                  cases ex
                  rw [rb_int hx']
                  obtain ⟨a, vs, g1, g2, g4, wr⟩ := (s3.drops _).atL hx
                  rw [hw] at g1
                  cases g1
                  refine ⟨a, vs, k, j, rfl, rfl, g2, by rw [g4.length]; exact e4, ?_⟩
                  exact q F3 _ σ ((fm1.trans fm2).trans fm3) (StS.refl σ) (wr _ _ (Reps.set (Rep.mono fm3 _ _ r2) j g4))
              · cases e
        · cases e
def whileN (t : TM) (b : XM) : Nat → XM
  | 0, _ => none
  | n + 1, ε => do
    let (k, ε1) ← t ε
    if k then do
      let (f, ε2) ← b ε1
      match f with
        | .nx => whileN t b n ε2
        | .ct => whileN t b n ε2
        | .bk => some (.nx, ε2)
        | .rt c => some (.rt c, ε2)
        | .xc x => some (.xc x, ε2)
    else some (.nx, ε1)
theorem whileN_succ {t : TM} {b : XM} : ∀ {n : Nat} {ε : Cs} {r : Fl × Cs}, whileN t b n ε = some r → whileN t b (n + 1) ε = some r
  | 0, ε, r, h => by cases h
  | n + 1, ε, r, h => by
    unfold whileN at h ⊢
    cases e1 : t ε with
    | none => simp [e1] at h
    | some p =>
      obtain ⟨k, ε1⟩ := p
      simp only [e1, Option.bind_eq_bind, Option.bind_some] at h ⊢
      cases k with
      | false => exact h
      | true =>
        simp only [if_true] at h ⊢
        cases e2 : b ε1 with
        | none => simp [e2] at h
        | some p2 =>
          obtain ⟨f, ε2⟩ := p2
          simp only [e2, Option.bind_some] at h ⊢
          cases f with
          | nx => exact whileN_succ h
          | ct => exact whileN_succ h
          | bk => exact h
          | rt c => exact h
          | xc x => exact h
theorem whileN_le {t : TM} {b : XM} {n m : Nat} {ε : Cs} {r : Fl × Cs} (h : whileN t b n ε = some r) (hm : n ≤ m) : whileN t b m ε = some r := by
  induction hm with
  | refl => exact h
  | step _ ih => exact whileN_succ ih
open Classical in
noncomputable def mWhile (t : TM) (b : XM) : XM := fun ε => if h : ∃ n, (whileN t b n ε).isSome then whileN t b h.choose ε else none
theorem mWhile_of {t : TM} {b : XM} {n : Nat} {ε : Cs} {r : Fl × Cs} (h : whileN t b n ε = some r) : mWhile t b ε = some r := by
  have hx : ∃ n, (whileN t b n ε).isSome := ⟨n, by rw [h]; rfl⟩
  unfold mWhile
  rw [dif_pos hx]
  obtain ⟨r', hr⟩ := Option.isSome_iff_exists.mp hx.choose_spec
  have h1 := whileN_le h (Nat.le_max_left n hx.choose)
  have h2 := whileN_le hr (Nat.le_max_right n hx.choose)
  rw [hr, ← h1, h2]
theorem mWhile_to {t : TM} {b : XM} {ε : Cs} {r : Fl × Cs} (h : mWhile t b ε = some r) : ∃ n, whileN t b n ε = some r := by
  unfold mWhile at h
  split at h
  · exact ⟨_, h⟩
  · cases h
theorem ms_while {c : Expr} {body : List Stmt} {t : TM} {b : XM} (hp : PassesOwn (model X.prog X.w) X.A X.env X.xe) (hc : PT X c (tT X.E t)) (hb : PSs X body (tS X.E W io b)) : PS X (.While c body [] pos) (tS X.E W io (mWhile t b)) :=
  (ps_while hp hc hb).weak fun De σ H h => by
    obtain ⟨F, R, ε, f, ε', o, e, q⟩ := h
    obtain ⟨n, e⟩ := mWhile_to e
    refine ⟨fun n σ2 H2 => ∃ F2 ε2, Same F F2 ∧ StS io σ σ2 ∧ Sep X.E F2 R H2 σ2 ε2 [] ∧ whileN t b n ε2 = some (f, ε'), ⟨n, F, ε, Same.refl F, StS.refl σ, o, e⟩, ?_⟩
    rintro n σ2 H2 ⟨F2, ε2, fm2, t2, s2, e2⟩
    cases n with
    | zero => cases e2
    | succ n =>
      unfold whileN at e2
      cases e3 : t ε2 with
      | none => simp [e3] at e2
      | some p =>
        obtain ⟨k, ε3⟩ := p
        simp only [e3, Option.bind_eq_bind, Option.bind_some] at e2
        refine ⟨F2, R, ε2, k, ε3, s2, e3, fun F3 H3 fm3 s3 => ?_⟩
        cases k with
        | false =>
          simp only [Bool.false_eq_true, if_false] at e2
          cases e2
          exact iteF (q F3 H3 σ2 (fm2.trans fm3) t2 s3)
        | true =>
          simp only [if_true] at e2
          refine iteT ⟨fun σ' H' => ∃ F4 ε4, Same F F4 ∧ StS io σ σ' ∧ Sep X.E F4 R H' σ' ε4 [] ∧ whileN t b n ε4 = some (f, ε'), fun σ' H' hN => ⟨n, Nat.lt_succ_self n, hN⟩, ?_⟩
          cases e4 : b ε3 with
          | none => simp [e4] at e2
          | some p4 =>
            obtain ⟨g, ε4⟩ := p4
            simp only [e4, Option.bind_some] at e2
            refine ⟨F3, R, ε3, g, ε4, s3, e4, fun F4 H4 σ4 fm4 t4 => ?_⟩
            have fm := (fm2.trans fm3).trans fm4
            have tt := t2.trans t4
            cases g with
            | nx => exact fun s4 => ⟨F4, ε4, fm, tt, s4, e2⟩
            | ct => exact fun s4 => ⟨F4, ε4, fm, tt, s4, e2⟩
            | bk => cases e2; exact fun s4 => q F4 H4 σ4 fm tt s4
            | rt c => cases e2; exact q F4 H4 σ4 fm tt
            | xc x => cases e2; exact q F4 H4 σ4 fm tt
open Classical in
noncomputable def forL (ws : List Nat) (ε0 : Cs) (bind : BM) (body : XM) : List M.D → XM
  | [], ε => if sameC ws ε0 ε then some (.nx, ε) else none
  | d :: ds, ε => if sameC ws ε0 ε then do
      let ε1 ← bind d ε
      let (f, ε2) ← body ε1
      match f with
        | .nx => forL ws ε0 bind body ds ε2
        | .ct => forL ws ε0 bind body ds ε2
        | .bk => some (.nx, ε2)
        | .rt c => some (.rt c, ε2)
        | .xc x => some (.xc x, ε2)
    else none
noncomputable def mFor (io' : List Nat) (src : SM) (bind : BM) (body : XM) : XM := fun ε => do
  let ((ds, ws), ε1) ← src ε
  if ws.all (fun i => io'.contains i) then forL ws ε1 bind body ds ε1 else none
theorem ms_for {iter tg : Expr} {body : List Stmt} {io' ts : List Nat} {src : SM} {g : TG} {bind : BM} {b : XM} (hp : PassesOwn (model X.prog X.w) X.A X.env X.xe) (hc : X.calm = true) (hi : PI X tg iter (tI X.E src)) (hg : PG X tg g) (hgd : Gd X.E g bind (· ∈ ts))
    (hb : PSs X body (tS X.E W io' b)) (hio : ∀ i ∈ io, i ∈ io') (hts : ∀ i ∈ ts, i ∉ io') (hs : ∀ x, foldedSetIterable iter X.env x = pure x) : PS X (.For tg iter body [] pos) (tS X.E W io (mFor io' src bind b)) :=
  (ps_for hp hc hi hg hb hs).weak fun De σ H h => by
    obtain ⟨F, R, ε, f, ε', o, e, q⟩ := h
    unfold mFor at e
    cases e1 : src ε with
    | none => simp [e1] at e
    | some p =>
      obtain ⟨⟨ds, ws⟩, ε1⟩ := p
      simp only [e1, Option.bind_eq_bind, Option.bind_some] at e
      split at e
      · rename_i hws
        have hws : ∀ i ∈ ws, i ∈ io' := by simpa using hws
        refine ⟨F, R, ε, ds, ws, ε1, o, e1, fun F1 R1 H1 J fm1 s1 bk sr => ?_⟩
        obtain ⟨G, Y, w, hw⟩ := sr
        have same : ∀ {l : List M.D} {ε2 : Cs} {r : Fl × Cs}, forL ws ε1 bind b l ε2 = some r → sameC ws ε1 ε2 := fun {l ε2 r} h => by
          cases l with
          | nil =>
            unfold forL at h
            split at h
            · assumption
            · cases h
          | cons d l =>
            unfold forL at h
            split at h
            · assumption
            · cases h
        have q1 : ∀ F' H' σ', Same F1 F' → StS io' σ σ' → Fin X.E R1 De W F' H' σ' ε' f := fun F' H' σ' fm t => (q F' H' σ' (fm1.trans fm) (t.imp hio)).back bk fm
        refine for_it w (fun i σ2 H2 => ∃ F2 ε2, Same F1 F2 ∧ StS io' σ σ2 ∧ Sep X.E F2 R1 H2 σ2 ε2 [] ∧ forL ws ε1 bind b (ds.drop i) ε2 = some (f, ε')) ⟨F1, ε1, Same.refl F1, StS.refl σ, s1, e⟩ ?_ ?_ ?_
        · rintro i σ2 H2 _ ⟨F2, ε2, fm2, t2, s2, C1⟩
          exact (hw F2 H2 σ2 ε2 fm2 s2 fun j hj => ⟨t2.st j (hws j hj), same C1 j hj⟩).1
        · rintro i x σ2 H2 H3 hi ⟨F2, ε2, fm2, t2, s2, C1⟩ y
          obtain ⟨_, hy⟩ := hw F2 H2 σ2 ε2 fm2 s2 fun j hj => ⟨t2.st j (hws j hj), same C1 j hj⟩
          obtain ⟨F3, d, hdi, rd, gr⟩ := hy i x H3 hi y
          rw [List.getElem?_eq_getElem hi] at hdi
          cases hdi
          have s3 := s2.grow gr
          have hd : ds.drop i = ds[i] :: ds.drop (i + 1) := by rw [List.drop_eq_getElem_cons hi]
          rw [hd] at C1
          unfold forL at C1
          split at C1
          · cases eb : bind ds[i] ε2 with
            | none => simp [eb] at C1
            | some εb =>
              refine hgd F3 R1 H3 σ2 ε2 x _ εb _ s3 rd eb fun H4 σ4 bd => ?_
              have t4 := t2.trans (bd.sts (io := io') fun j hj => hts j hj)
              simp only [eb, Option.bind_eq_bind, Option.bind_some] at C1
              cases e5 : b εb with
              | none => simp [e5] at C1
              | some p5 =>
                obtain ⟨g, ε5⟩ := p5
                simp only [e5, Option.bind_some] at C1
                refine ⟨F3, R1, εb, g, ε5, bd.sep, e5, fun F5 H5 σ5 fm5 t5 => ?_⟩
                have fm := (fm2.trans gr.fm).trans fm5
                have tt := t4.trans t5
                cases g with
                | nx => exact fun s5 => ⟨F5, ε5, fm, tt, s5, C1⟩
                | ct => exact fun s5 => ⟨F5, ε5, fm, tt, s5, C1⟩
                | bk => cases C1; exact fun s5 => q1 F5 H5 σ5 fm tt s5
                | rt c => cases C1; exact q1 F5 H5 σ5 fm tt
                | xc x => cases C1; exact q1 F5 H5 σ5 fm tt
          · cases C1
        · rintro σ2 H2 ⟨F2, ε2, fm2, t2, s2, C1⟩
          rw [List.drop_length] at C1
          unfold forL at C1
          split at C1
          · cases C1
            exact q1 F2 H2 σ2 fm2 t2 s2
          · cases C1
      · cases e
end
end L2.M
namespace L2.M
open PySem PySem.Spec PyProof.Rows
def chnL : Opd → List ((D → D → Option C) × OM) → EM
  | _, [], _ => none
  | o, [(f, m)], ε => do
    let (p, ε1) ← m ε
    let d ← bor ε1 o
    let e ← bor ε1 p
    let c ← f d e
    some (c, ε1)
  | o, (f, m) :: x :: l, ε => do
    let (p, ε1) ← m ε
    let d ← bor ε1 o
    let e ← bor ε1 p
    match f d e with
      | some (.sh (.bool true)) => chnL p (x :: l) ε1
      | some (.sh (.bool false)) => some (.sh (.bool false), ε1)
      | _ => none
def mChn (m : OM) (l : List ((D → D → Option C) × OM)) : EM := fun ε => do
  let (o, ε1) ← m ε
  chnL o l ε1
inductive Chn (X : Cx) : List CmpOp → List Expr → List ((D → D → Option C) × OM) → Prop where
  | one {op : CmpOp} {e : Expr} {f : D → D → Option C} {m : OM} {r : R2} : OpR X (compareOp op) r → Fn2 X.K f r → PE X e (tO X.E m) → Chn X [op] [e] [(f, m)]
  | cons {op : CmpOp} {e : Expr} {f : D → D → Option C} {m : OM} {r : R2} {op' : CmpOp} {ops : List CmpOp} {e' : Expr} {es : List Expr} {x : (D → D → Option C) × OM} {l : List ((D → D → Option C) × OM)} :
      OpR X (compareOp op) r → Fn2 X.K f r → PE X e (tO X.E m) → Chn X (op' :: ops) (e' :: es) (x :: l) → Chn X (op :: op' :: ops) (e :: e' :: es) ((f, m) :: x :: l)
section
variable {X : Cx}
/-- two operands, the first one waiting while the second is reckoned -/
structure Two (X : Cx) (F R H : Hp) (σ : St) (ε : Cs) (x : V) (o : Opd) : Prop where
  ov : OpV σ [x] [o]
  sep : Sep X.E F R H σ ε (tmO [o] [x])
theorem Two.borne {F R H : Hp} {σ : St} {ε : Cs} {x : V} {o : Opd} {d : D} (t : Two X F R H σ ε x o) (e : bor ε o = some d) : RepB X.K F H x d := by
  have s := t.sep
  rw [← List.append_nil (tmO [o] [x])] at s
  exact (bors_ok s t.ov (by simp [bors, e])).inj1
/-- behind the second operand -/
theorem Two.next {F R H : Hp} {σ : St} {ε ε1 : Cs} {x : V} {o p : Opd} {m : OM} (t : Two X F R H σ ε x o) (em : m ε = some (p, ε1)) {Q : VK}
    (k : ∀ y F1 H1, Same F F1 → Two X F1 R H1 σ ε1 x o → (∀ F2 H2, Same F1 F2 → Sep X.E F2 R H2 σ ε1 (tmO [o] [x] ++ tmO [p] [y]) → Two X F2 R H2 σ ε1 y p) → OpV σ [y] [p] → Sep X.E F1 R H1 σ ε1 (tmO [o] [x] ++ tmO [p] [y]) → Q y H1) : tO X.E m σ H Q := by
  obtain ⟨R1, s1, bk⟩ := t.sep.hides
  refine ⟨F, R1, ε, p, ε1, s1, em, fun y F1 H1 fm vy sy => ?_⟩
  have s2 := bk F1 H1 σ ε1 _ fm sy
  refine k y F1 H1 fm ⟨t.ov, ?_⟩ (fun F2 H2 fm2 s3 => ⟨vy, s3.drops _⟩) vy s2
  have s3 := s1.grow (Grw.refl s1.sub)
  -- the first one alone
  have ov := t.ov
  cases o with
  | pl i => exact Sep.drops (T := []) (tmO [p] [y]) (by simpa [tmO] using s2)
  | tm c =>
    obtain ⟨R2, _, s4, bk2⟩ := Sep.hide (T := tmO [p] [y]) s2
    exact bk2 F1 H1 σ ε1 [] (Same.refl F1) (Sep.drops (T := []) (tmO [p] [y]) (by simpa using s4))
theorem chn_run : ∀ {ops : List CmpOp} {es : List Expr} {l : List ((D → D → Option C) × OM)}, Chn X ops es l → ∀ {pins : List (Addr × Obj)} {s : Shared} {σ : St} {F R H : Hp} {ε : Cs} {o : Opd} {x : V} {v : Value} {c : C} {ε' : Cs} {pos : Pos} {Q : VK}, Two X F R H σ ε x o →
    Inv X pins σ H s → RelV x v → chnL o l ε = some (c, ε') → (∀ w F' H', Same F F' → Sep X.E F' R H' σ ε' [(w, c)] → Q w H') →
    wpAny (model X.prog X.w) X.A (compareChain pos v ops (evalEach es X.env)) (EP X pins σ Q) X.xe s := by
  intro ops es l h
  induction h with
  | one ho hf he =>
    intro pins s σ F R H ε o x v c ε' pos Q tw I rx e q
    rename_i op ex f m rr
    simp only [chnL] at e
    cases e1 : m ε with
    | none => simp [e1] at e
    | some p =>
      obtain ⟨p, ε1⟩ := p
      cases e2 : bor ε1 o with
      | none => simp [e1, e2] at e
      | some d =>
        cases e3 : bor ε1 p with
        | none => simp [e1, e2, e3] at e
        | some d2 =>
          cases e4 : f d d2 with
          | none => simp [e1, e2, e3, e4] at e
          | some c' =>
            simp [e1, e2, e3, e4] at e
            obtain ⟨rfl, rfl⟩ := e
            refine chain_last (thn (he.run pins s σ H (fun y H1 => rr x y H1 Q) I (tw.next e1 fun y F1 H1 fm t1 t2 vy s1 => ?_)) fun u s4 ⟨y, H4, I4, r4, q4⟩ => ho pins s4 σ H4 x y v u Q I4 rx r4 q4)
            refine hf F1 H1 x y d d2 c' Q s1.sub (t1.borne e2) ((t2 F1 H1 (Same.refl F1) s1).borne e3) e4 fun w F2 H2 g => ?_
            exact q w F2 H2 (fm.trans g.fm) (Sep.res (Sep.drops (T := []) (tmO [o] [x] ++ tmO [p] [y]) (by simpa using s1)) g)
  | cons ho hf he hr ih =>
    intro pins s σ F R H ε o x v c ε' pos Q tw I rx e q
    rename_i op ex f m rr op' ops e' es y0 l
    simp only [chnL] at e
    cases e1 : m ε with
    | none => simp [e1] at e
    | some p =>
      obtain ⟨p, ε1⟩ := p
      cases e2 : bor ε1 o with
      | none => simp [e1, e2] at e
      | some d =>
        cases e3 : bor ε1 p with
        | none => simp [e1, e2, e3] at e
        | some d2 =>
          simp only [e1, e2, e3, Option.bind_eq_bind, Option.bind_some] at e
          refine chain_link (thn (he.run pins s σ H (fun y H1 => rr x y H1 fun z H2 => ∃ k F2, z = .bl k ∧ f d d2 = some (.sh (.bool k)) ∧ Same F F2 ∧ Two X F2 R H2 σ ε1 y p) I (tw.next e1 fun y F1 H1 fm t1 t2 vy s1 => ?_))
            fun u s4 ⟨y, H4, I4, r4, q4⟩ => thn (ho pins s4 σ H4 x y v u _ I4 rx r4 q4) fun dd s5 ⟨z, H5, I5, r5, k, F5, ez, ek, fm5, T5⟩ => ?_)
          · have fin : ∀ k, f d d2 = some (.sh (.bool k)) → rr x y H1 fun z H2 => ∃ k F2, z = .bl k ∧ f d d2 = some (.sh (.bool k)) ∧ Same F F2 ∧ Two X F2 R H2 σ ε1 y p := fun k ek => by
              refine hf F1 H1 x y d d2 _ _ s1.sub (t1.borne e2) ((t2 F1 H1 (Same.refl F1) s1).borne e3) ek fun w F2 H2 g => ?_
              have hw : w = .bl k := by
                have r := g.rep
                simpa only [RepC, Rep] using r
              exact ⟨k, F2, hw, ek, fm.trans g.fm, t2 F2 H2 g.fm (s1.grow g.grw)⟩
            split at e
            · exact fin true (by assumption)
            · exact fin false (by assumption)
            · cases e
          · subst ez
            cases r5
            refine wpAny_truthy_bool ?_
            cases k with
            | false =>
              rw [ek] at e
              cases e
              exact ite_ff ⟨.bl false, H5, I5, rfl, q _ F5 H5 fm5 (Sep.addB (Sep.drops (T := []) (tmO [p] [y]) (by simpa using T5.sep)) false)⟩
            | true =>
              rw [ek] at e
              exact ite_tt (ih T5 I5 r4 e fun w F' H' fm => q w F' H' (fm5.trans fm))
theorem tst_run : ∀ {ops : List CmpOp} {es : List Expr} {l : List ((D → D → Option C) × OM)}, Chn X ops es l → ∀ {pins : List (Addr × Obj)} {s : Shared} {σ : St} {F R H : Hp} {ε : Cs} {o : Opd} {x : V} {v : Value} {b : Bool} {ε' : Cs} {pos : Pos} {Q : Bool → Hp → Prop}, Two X F R H σ ε x o →
    Inv X pins σ H s → RelV x v → chnL o l ε = some (.sh (.bool b), ε') → (∀ F' H', Same F F' → Sep X.E F' R H' σ ε' [] → Q b H') →
    wpAny (model X.prog X.w) X.A (testChain pos v ops (evalEach es X.env)) (fun k s' => ∃ H', Inv X pins σ H' s' ∧ Q k H') X.xe s := by
  intro ops es l h
  induction h with
  | one ho hf he =>
    intro pins s σ F R H ε o x v b ε' pos Q tw I rx e q
    rename_i op ex f m rr
    simp only [chnL] at e
    cases e1 : m ε with
    | none => simp [e1] at e
    | some p =>
      obtain ⟨p, ε1⟩ := p
      cases e2 : bor ε1 o with
      | none => simp [e1, e2] at e
      | some d =>
        cases e3 : bor ε1 p with
        | none => simp [e1, e2, e3] at e
        | some d2 =>
          cases e4 : f d d2 with
          | none => simp [e1, e2, e3, e4] at e
          | some c' =>
            simp [e1, e2, e3, e4] at e
            obtain ⟨rfl, rfl⟩ := e
            refine test_last (thn (he.run pins s σ H (fun y H1 => rr x y H1 fun z H2 => z = .bl b ∧ Q b H2) I (tw.next e1 fun y F1 H1 fm t1 t2 vy s1 => ?_)) fun u s4 ⟨y, H4, I4, r4, q4⟩ =>
              thn (ho pins s4 σ H4 x y v u _ I4 rx r4 q4) fun dd s5 ⟨z, H5, I5, r5, ez, q5⟩ => ?_)
            · refine hf F1 H1 x y d d2 _ _ s1.sub (t1.borne e2) ((t2 F1 H1 (Same.refl F1) s1).borne e3) e4 fun w F2 H2 g => ?_
              have hw : w = .bl b := by
                have r := g.rep
                simpa only [RepC, Rep] using r
              exact ⟨hw, q F2 H2 (fm.trans g.fm) (Sep.drops (T := []) (tmO [o] [x] ++ tmO [p] [y]) (by simpa using s1.grow g.grw))⟩
            · subst ez
              cases r5
              exact wpAny_truthy_bool ⟨H5, I5, q5⟩
  | cons ho hf he hr ih =>
    intro pins s σ F R H ε o x v b ε' pos Q tw I rx e q
    rename_i op ex f m rr op' ops e' es y0 l
    simp only [chnL] at e
    cases e1 : m ε with
    | none => simp [e1] at e
    | some p =>
      obtain ⟨p, ε1⟩ := p
      cases e2 : bor ε1 o with
      | none => simp [e1, e2] at e
      | some d =>
        cases e3 : bor ε1 p with
        | none => simp [e1, e2, e3] at e
        | some d2 =>
          simp only [e1, e2, e3, Option.bind_eq_bind, Option.bind_some] at e
          refine test_link (thn (he.run pins s σ H (fun y H1 => rr x y H1 fun z H2 => ∃ k F2, z = .bl k ∧ f d d2 = some (.sh (.bool k)) ∧ Same F F2 ∧ Two X F2 R H2 σ ε1 y p) I (tw.next e1 fun y F1 H1 fm t1 t2 vy s1 => ?_))
            fun u s4 ⟨y, H4, I4, r4, q4⟩ => thn (ho pins s4 σ H4 x y v u _ I4 rx r4 q4) fun dd s5 ⟨z, H5, I5, r5, k, F5, ez, ek, fm5, T5⟩ => ?_)
          · have fin : ∀ k, f d d2 = some (.sh (.bool k)) → rr x y H1 fun z H2 => ∃ k F2, z = .bl k ∧ f d d2 = some (.sh (.bool k)) ∧ Same F F2 ∧ Two X F2 R H2 σ ε1 y p := fun k ek => by
              refine hf F1 H1 x y d d2 _ _ s1.sub (t1.borne e2) ((t2 F1 H1 (Same.refl F1) s1).borne e3) ek fun w F2 H2 g => ?_
              have hw : w = .bl k := by
                have r := g.rep
                simpa only [RepC, Rep] using r
              exact ⟨k, F2, hw, ek, fm.trans g.fm, t2 F2 H2 g.fm (s1.grow g.grw)⟩
            split at e
            · exact fin true (by assumption)
            · exact fin false (by assumption)
            · cases e
          · subst ez
            cases r5
            refine wpAny_truthy_bool ?_
            cases k with
            | false =>
              rw [ek] at e
              cases e
              exact ite_ff ⟨H5, I5, q F5 H5 fm5 (Sep.drops (T := []) (tmO [p] [y]) (by simpa using T5.sep))⟩
            | true =>
              rw [ek] at e
              exact ite_tt (ih T5 I5 r4 e fun F' H' fm => q F' H' (fm5.trans fm))
variable {a e1 e2 : Expr} {es : List Expr} {op1 op2 : CmpOp} {ops : List CmpOp} {m : OM} {l : List ((D → D → Option C) × OM)} {pos : Pos}
theorem me_chain (ha : PE X a (tO X.E m)) (h : Chn X (op1 :: op2 :: ops) (e1 :: e2 :: es) l) (hm : lastMarks (op1 :: op2 :: ops) (e1 :: e2 :: es) = false) : PE X (.Compare a (op1 :: op2 :: ops) (e1 :: e2 :: es) pos) (tE X.E (mChn m l)) :=
  ⟨fun pins s σ H Q I hh => by
    obtain ⟨F, R, ε, c, ε', ok, e, q⟩ := hh
    unfold mChn at e
    cases e0 : m ε with
    | none => simp [e0] at e
    | some p =>
      obtain ⟨o, ε1⟩ := p
      simp only [e0, Option.bind_eq_bind, Option.bind_some] at e
      refine Compare_chain (thn (ha.run pins s σ H (fun x H1 => ∃ F1, Same F F1 ∧ Two X F1 R H1 σ ε1 x o) I ⟨F, R, ε, o, ε1, ok, e0, fun v F1 H1 fm v1 s1 => ⟨F1, fm, v1, s1⟩⟩) fun v s1 ⟨x, H1, I1, r1, F1, fm1, T1⟩ => ?_) hm
      exact chn_run h T1 I1 r1 e fun w F' H' fm => q w F' H' (fm1.trans fm)⟩
theorem mt_chain (ha : PE X a (tO X.E m)) (h : Chn X (op1 :: op2 :: ops) (e1 :: e2 :: es) l) (hm : lastMarks (op1 :: op2 :: ops) (e1 :: e2 :: es) = false) : PT X (.Compare a (op1 :: op2 :: ops) (e1 :: e2 :: es) pos) (tT X.E (mTst (mChn m l))) :=
  ⟨fun pins s σ H Q I hh => by
    obtain ⟨F, R, ε, b, ε', ok, e, q⟩ := hh
    unfold mTst at e
    split at e
    · rename_i b' ε1 e'
      cases e
      unfold mChn at e'
      cases e0 : m ε with
      | none => simp [e0] at e'
      | some p =>
        obtain ⟨o, ε1⟩ := p
        simp only [e0, Option.bind_eq_bind, Option.bind_some] at e'
        refine isTrue_chain (thn (ha.run pins s σ H (fun x H1 => ∃ F1, Same F F1 ∧ Two X F1 R H1 σ ε1 x o) I ⟨F, R, ε, o, ε1, ok, e0, fun v F1 H1 fm v1 s1 => ⟨F1, fm, v1, s1⟩⟩) fun v s1 ⟨x, H1, I1, r1, F1, fm1, T1⟩ => ?_) hm
        exact tst_run h T1 I1 r1 e' fun F' H' fm => q F' H' (fm1.trans fm)
    · cases e⟩
end
def tyS : D → String
  | .none => "NoneType"
  | .bool _ => "bool"
  | .int _ => "int"
  | .str _ => "str"
  | .list _ => "list"
  | .tuple _ => "tuple"
  | .dict _ => "dict"
inductive Ty where
  | int | bool | str | list | tuple | dict
def Ty.nm : Ty → String
  | .int => "int"
  | .bool => "bool"
  | .str => "str"
  | .list => "list"
  | .tuple => "tuple"
  | .dict => "dict"
def isiD : Ty → D → Bool
  | .int, .int _ => true
  | .int, .bool _ => true
  | .bool, .bool _ => true
  | .str, .str _ => true
  | .list, .list _ => true
  | .tuple, .tuple _ => true
  | .dict, .dict _ => true
  | _, _ => false
theorem isi_kit : ∀ (T : Ty) (d : D), kitB (tyS d) T.nm = some (isiD T d) := by
  intro T d
  cases T <;> cases d <;> (simp only [tyS, Ty.nm, isiD]; decide +kernel)
theorem rb_ty {K : PySem.W.Frag} {F H : Hp} {x : V} {d : D} (s : Same F H) (h : RepB K F H x d) : TyX K H x (.type (tyS d)) := by
  cases d with
  | none => rw [rb_non h]; exact .base .non
  | bool b => rw [rb_bool h]; exact .base (.bl b)
  | int b => rw [rb_int h]; exact .base (.int b)
  | str b => rw [rb_str h]; exact .base (.str b)
  | list b =>
    obtain ⟨a, vs, rfl, g1, _⟩ := rb_lst s h
    rcases g1 with (g1 | ⟨o, g1⟩) | ⟨o, its, n, hk, hc, _⟩
    · exact .base (.lst g1)
    · exact .base (.frz g1)
    · exact .kList hk hc
  | tuple b =>
    obtain ⟨a, vs, rfl, _, g1, _⟩ := rb_tup s h
    rcases g1 with (g1 | ⟨o, g1⟩) | ⟨o, its, n, hk, hc, _⟩
    · exact .base (.tup g1)
    · exact .fTuple g1
    · exact .kTuple hk hc
  | dict b =>
    obtain ⟨a, kvs, rfl, g1, _⟩ := rb_dct s h
    exact .base (.dK g1)
def mIsi (T : Ty) (m : OM) : EM := mU (fun d => some (.sh (.bool (isiD T d)))) m
section
variable {X : Cx} {e : Expr} {m : OM} {x p pos : Pos}
theorem me_isi {T : Ty} {y : Str} (hm : X.mg "isinstance" = none) (hmT : X.mg y = none) (hg : Gl X "isinstance") (hgT : Gl X y) (hv : bootBuiltins y = some (.type T.nm)) (he : PE X e (tO X.E m)) (hn : y ≠ "__name__") (hdb : (y == ("__debug__" : Str)) = false)
    (hs : starEach [e, .Name y p] X.env = (false, eval e X.env) :: starEach [.Name y p] X.env) (hs2 : starEach [.Name y p] X.env = [(false, eval (.Name y p) X.env)]) (hpl : (backTo pos (starEach [.Name y p] X.env)).any (·.1) = false) :
    PE X (.Call (.Name "isinstance" x) [e, .Name y p] [] pos) (tE X.E (mIsi T m)) :=
  (pe_callB call_isi hg hm boot_isinstance (pa_cons he (pa_cons (pe_bltn (v := .ty T.nm) hgT hmT hv rfl hn hdb) pa_nil hs2) hs) (by decide) (by decide) hs hpl).weak fun σ H Q h => by
    have h2 := tE_u (r := fun x H Q => rIsi X.K [x, .ty T.nm] H Q) (fun F H x d c Q s h1 he q => by
      cases he
      exact ⟨x, .ty T.nm, _, _, isiD T d, rfl, .ty _, rb_ty s h1, kit_ty (isi_kit T d), g_bool s q⟩) h
    refine tO_mono h2 fun v H' q => ?_
    exact q
end
end L2.M
namespace L2.M
open PySem PySem.Spec PyProof.Rows
def keepT : List Opd → List Bool
  | [] => []
  | .pl _ :: os => false :: keepT os
  | .tm _ :: os => true :: keepT os
def tmsO : List Opd → Option (List C)
  | [] => some []
  | .tm (.sh d) :: os => (tmsO os).map (C.sh d :: ·)
  | .tm (.ls ds) :: os => (tmsO os).map (C.ls ds :: ·)
  | .tm (.dc k ds) :: os => (tmsO os).map (C.dc k ds :: ·)
  | .tm (.ob k cs) :: os => (tmsO os).map (C.ob k cs :: ·)
  | _ => none
theorem tmsO_zip : ∀ {os : List Opd} {vs : List V} {cs : List C}, os.length = vs.length → tmsO os = some cs → tmO os vs = vs.zip cs ∧ cs.length = os.length
  | [], vs, cs, l, e => by
    cases e
    cases vs with
    | nil => exact ⟨rfl, rfl⟩
    | cons _ _ => cases l
  | o :: os, [], cs, l, e => by cases l
  | .pl i :: os, v :: vs, cs, l, e => by cases e
  | .tm c :: os, v :: vs, cs, l, e => by
    have one : ∀ {c : C}, (tmsO os).map (c :: ·) = some cs → tmO (.tm c :: os) (v :: vs) = (v :: vs).zip cs ∧ cs.length = (Opd.tm c :: os).length := fun {c} e => by
      obtain ⟨cs2, e2, rfl⟩ := Option.map_eq_some_iff.mp e
      obtain ⟨h1, h2⟩ := tmsO_zip (vs := vs) (by simpa using l) e2
      exact ⟨by simp [tmO, h1], by simp [h2]⟩
    cases c with
    | no => cases e
    | sh d => exact one e
    | ls d => exact one e
    | dc k d => exact one e
    | ob k d => exact one e
    | px _ _ _ _ => cases e
    | fn _ => cases e
    | fd _ => cases e
    | fk _ => cases e
def setA : List Nat → List C → Cs → Cs
  | i :: is, c :: cs, ε => setA is cs (ε.set i c)
  | _, _, ε => ε
def setV : List Nat → List V → St → St
  | i :: is, v :: vs, σ => setV is vs (σ.set i (some v))
  | _, _, σ => σ
theorem putAll {K : Ek} {F R H : Hp} {T : Tms} : ∀ {is : List Nat} {vs : List V} {cs : List C} {σ : St} {ε : Cs}, Sep K F R H σ ε (vs.zip cs ++ T) → is.length = vs.length → cs.length = vs.length → Sep K F R H (setV is vs σ) (setA is cs ε) T
  | [], [], [], σ, ε, s, _, _ => s
  | i :: is, v :: vs, c :: cs, σ, ε, s, l1, l2 => putAll (is := is) (Sep.store s i) (by simpa using l1) (by simpa using l2)
  | [], v :: vs, cs, σ, ε, s, l1, l2 => by cases l1
  | i :: is, [], cs, σ, ε, s, l1, l2 => by cases l1
  | [], [], c :: cs, σ, ε, s, l1, l2 => by cases l2
  | i :: is, v :: vs, [], σ, ε, s, l1, l2 => by cases l2
theorem setV_sts {io : List Nat} : ∀ {is : List Nat} {vs : List V} {σ : St}, (∀ i ∈ is, i ∉ io) → StS io σ (setV is vs σ)
  | [], vs, σ, h => StS.refl σ
  | i :: is, [], σ, h => StS.refl σ
  | i :: is, v :: vs, σ, h => (StS.set (h i List.mem_cons_self)).trans (setV_sts fun j hj => h j (List.mem_cons_of_mem _ hj))
/-- a, b, .. = x, y, .. (names that no other def holds on to) -/
def mPar (io is : List Nat) (ma : AM) : XM := fun ε => do
  let (os, ε1) ← ma ε
  let (os2, ε2) ← frz (keepT os) os ε1
  let cs ← tmsO os2
  if cs.length = is.length ∧ cs.length ≤ sizeLine ∧ (∀ i ∈ is, i < ε2.length ∧ i ∉ io) then some (.nx, setA is cs ε2) else none
theorem Grw.junk {F H : Hp} (s : Same F H) {p : Addr} {u : HO} (hp : H p = none) : Grw F H F (upd H p u) :=
  ⟨Same.refl F, fun b x e => by rw [upd_ne (ne_of_none e hp)]; exact e, fun b x e => by rw [upd_ne (ne_of_none (s b x e) hp)]; exact s b x e, fun b h h' => absurd h h'⟩
theorem tS_par {K : Ek} {W : Xw} {io is : List Nat} {ma : AM} {De : Ends} {σ : St} {H : Hp} (h : tS K W io (mPar io is ma) De σ H) :
    tA K ma σ H fun vs H1 => vs.length = is.length ∧ vs.length ≤ sizeLine ∧ De.nx (setV is vs σ) H1 ∧ ∀ p, H1 p = none → De.nx (setV is vs σ) (upd H1 p (.tup vs)) := by
  obtain ⟨F, R, ε, f, ε', o, e, q⟩ := h
  unfold mPar at e
  cases e1 : ma ε with
  | none => simp [e1] at e
  | some p =>
    obtain ⟨os, ε1⟩ := p
    cases e2 : frz (keepT os) os ε1 with
    | none => simp [e1, e2] at e
    | some p2 =>
      obtain ⟨os2, ε2⟩ := p2
      cases e3 : tmsO os2 with
      | none => simp [e1, e2, e3] at e
      | some cs =>
        simp only [e1, e2, e3, Option.bind_eq_bind, Option.bind_some] at e
        split at e
        · rename_i hc
          cases e
          obtain ⟨hc1, hc2, hc3⟩ := hc
          refine ⟨F, R, ε, os, ε1, o, e1, fun vs F1 H1 fm1 v1 s1 => ?_⟩
          rw [← List.append_nil (tmO os vs)] at s1
          obtain ⟨F2, fm2, s2, v2, l2⟩ := frz_ok s1 v1 e2
          have lv := v2.len
          obtain ⟨z1, z2⟩ := tmsO_zip lv.symm e3
          rw [z1] at s2
          have vl : vs.length = is.length := by omega
          have t := setV_sts (vs := vs) (σ := σ) fun i hi => (hc3 i hi).2
          have s3 := putAll (is := is) s2 vl.symm (by omega)
          exact ⟨vl, by omega, q F2 H1 _ (fm1.trans fm2) t s3, fun p hp => q F2 _ _ (fm1.trans fm2) t (s3.grow (Grw.junk s3.sub hp))⟩
        · cases e
section
variable {X : Cx} {W : Xw} {io : List Nat} {ma : AM}
theorem ms_par2 {i j : Nat} {x y : Str} {a b : Expr} {px py pt pos : Pos} {kt k2 pt2} (hc : X.calm = true) (hN : X.N.Nodup) (hi : X.N[i]? = some x) (hj : X.N[j]? = some y) (hij : i ≠ j) (hx : X.env.scope.names.lookup x = some .local) (hy : X.env.scope.names.lookup y = some .local)
    (ha : PA X [a, b] (tA X.E ma)) (hw : swappedStores [.Tuple [.Name x px, .Name y py] kt pt] (.Tuple [a, b] k2 pt2) X.env = pure (some [x, y]))
    (hs : swapsWithSole [.Tuple [.Name x px, .Name y py] kt pt] (.Tuple [a, b] k2 pt2) pos.line X.env = pure false) :
    PS X (.Assign [.Tuple [.Name x px, .Name y py] kt pt] (.Tuple [a, b] k2 pt2) pos) (tS X.E W io (mPar io [i, j] ma)) := (ps_par hc hN hi hj hij hx hy ha hw hs).weak fun De σ H h => by
  refine tA_mono (tS_par h) fun vs H1 q => ?_
  obtain ⟨hl, _, q, _⟩ := q
  match vs, hl, q with
  | [u, v], _, q => exact ⟨u, v, rfl, q⟩
theorem ms_par3 {i j l : Nat} {x y z : Str} {a b c : Expr} {px py pz pt pos : Pos} {kt k2 pt2} (hc : X.calm = true) (hN : X.N.Nodup) (hi : X.N[i]? = some x) (hj : X.N[j]? = some y) (hl : X.N[l]? = some z) (hij : i ≠ j) (hil : i ≠ l) (hjl : j ≠ l)
    (hx : X.env.scope.names.lookup x = some .local) (hy : X.env.scope.names.lookup y = some .local) (hz : X.env.scope.names.lookup z = some .local) (ha : PA X [a, b, c] (tA X.E ma))
    (hw : swappedStores [.Tuple [.Name x px, .Name y py, .Name z pz] kt pt] (.Tuple [a, b, c] k2 pt2) X.env = pure (some [x, y, z]))
    (hs : swapsWithSole [.Tuple [.Name x px, .Name y py, .Name z pz] kt pt] (.Tuple [a, b, c] k2 pt2) pos.line X.env = pure false) :
    PS X (.Assign [.Tuple [.Name x px, .Name y py, .Name z pz] kt pt] (.Tuple [a, b, c] k2 pt2) pos) (tS X.E W io (mPar io [i, j, l] ma)) := (ps_par3 hc hN hi hj hl hij hil hjl hx hy hz ha hw hs).weak fun De σ H h => by
  refine tA_mono (tS_par h) fun vs H1 q => ?_
  obtain ⟨hl, _, q, _⟩ := q
  match vs, hl, q with
  | [u, v, w], _, q => exact ⟨u, v, w, rfl, q⟩
end
def shared : List Bool → List C → Bool
  | [], [] => true
  | true :: bs, c :: cs => shared bs cs
  | false :: bs, .sh _ :: cs => shared bs cs
  | _, _ => false
/-- what the caller's cells are behind the call -/
def after : List Bool → List C → Cs → List C
  | true :: bs, _ :: cs, e :: ε => e :: after bs cs ε
  | false :: bs, c :: cs, _ :: ε => c :: after bs cs ε
  | _, _, _ => []
def iosAt (k : Nat) : List Bool → List Nat
  | [] => []
  | true :: bs => k :: iosAt (k + 1) bs
  | false :: bs => iosAt (k + 1) bs
abbrev ios (bs : List Bool) : List Nat := iosAt 0 bs
def semF (io : List Bool) (ns : Nat) (m : XM) : GM := fun cs =>
  if shared io cs then
    match m (cs ++ List.replicate (ns - cs.length) .no) with
    | some (.rt c, ε') => some (c, after io cs ε')
    | some (.nx, ε') => some (.sh .none, after io cs ε')
    | _ => none
  else none
theorem mem_ios : ∀ {bs : List Bool} {k j : Nat}, j ∈ iosAt k bs ↔ k ≤ j ∧ bs[j - k]? = some true
  | [], k, j => by simp [iosAt]
  | true :: bs, k, j => by
    unfold iosAt
    rw [List.mem_cons, mem_ios]
    constructor
    · rintro (rfl | ⟨h1, h2⟩)
      · simp
      · refine ⟨by omega, ?_⟩
        rw [show j - k = (j - (k + 1)) + 1 by omega, List.getElem?_cons_succ]
        exact h2
    · rintro ⟨h1, h2⟩
      by_cases e : j = k
      · exact .inl e
      · refine .inr ⟨by omega, ?_⟩
        rw [show j - k = (j - (k + 1)) + 1 by omega, List.getElem?_cons_succ] at h2
        exact h2
  | false :: bs, k, j => by
    unfold iosAt
    rw [mem_ios]
    constructor
    · rintro ⟨h1, h2⟩
      refine ⟨by omega, ?_⟩
      rw [show j - k = (j - (k + 1)) + 1 by omega, List.getElem?_cons_succ]
      exact h2
    · rintro ⟨h1, h2⟩
      by_cases e : j = k
      · subst e
        simp at h2
      · refine ⟨by omega, ?_⟩
        rw [show j - k = (j - (k + 1)) + 1 by omega, List.getElem?_cons_succ] at h2
        exact h2
theorem mem_ios0 {bs : List Bool} {j : Nat} : j ∈ ios bs ↔ bs[j]? = some true := by
  unfold ios
  rw [mem_ios]
  simp
theorem leaveA {K : Ek} {F F' H H' : Hp} (fm : Same F F') : ∀ {bs : List Bool} {vs : List V} {cs : List C} {σ : St} {ε : Cs} {f0 fs : List (List Addr)}, RpCs K F H (vs.map some) cs f0 → RpCs K F' H' σ ε fs → shared bs cs = true → (∀ j : Nat, bs[j]? = some true → σ[j]? = (vs.map some)[j]?) → cs.length ≤ ε.length →
    ∃ f2, RpCs K F' H' (vs.map some) (after bs cs ε) f2 ∧ f2.flatten.Sublist fs.flatten
  | [], vs, [], σ, ε, f0, fs, h0, h, hs, hj, hl => ⟨[], by simpa [after] using ⟨h0.1, rfl⟩, by simp⟩
  | [], vs, c :: cs, σ, ε, f0, fs, h0, h, hs, hj, hl => by simp [shared] at hs
  | true :: bs, vs, [], σ, ε, f0, fs, h0, h, hs, hj, hl => by simp [shared] at hs
  | false :: bs, vs, [], σ, ε, f0, fs, h0, h, hs, hj, hl => by simp [shared] at hs
  | b :: bs, vs, c :: cs, σ, [], f0, fs, h0, h, hs, hj, hl => by simp at hl
  | b :: bs, vs, c :: cs, σ, e :: ε, f0, fs, h0, h, hs, hj, hl => by
    obtain ⟨o, r, f, fr, e1, e2, k1, k2⟩ := h0
    obtain ⟨o', r', f', fr', e1', e2', k1', k2'⟩ := h
    cases vs with
    | nil => cases e1
    | cons v vs =>
      obtain ⟨rfl, rfl⟩ := List.cons.inj e1
      subst e1' e2'
      have hs' : shared bs cs = true := by cases b <;> cases c <;> simp_all [shared]
      obtain ⟨f2, g1, g2⟩ := leaveA fm (bs := bs) k2 k2' hs' (fun j h => by simpa using hj (j + 1) (by simpa using h)) (by simpa using hl)
      cases b with
      | true =>
        have ho : o' = some v := by simpa using hj 0 rfl
        subst ho
        exact ⟨f' :: f2, ⟨_, _, _, _, rfl, rfl, k1', g1⟩, by rw [List.flatten_cons, List.flatten_cons]; exact List.Sublist.append (List.Sublist.refl _) g2⟩
      | false =>
        cases c with
        | sh d =>
          obtain ⟨_, w, ew, rw⟩ := k1
          refine ⟨[] :: f2, ⟨_, _, _, _, rfl, rfl, ⟨rfl, w, ew, Rep.mono fm _ _ rw⟩, g1⟩, ?_⟩
          rw [List.flatten_cons, List.flatten_cons, List.nil_append]
          exact g2.trans (List.sublist_append_right _ _)
        | no => simp [shared] at hs
        | ls d => simp [shared] at hs
        | dc k d => simp [shared] at hs
        | ob k d => simp [shared] at hs
        | px _ _ _ _ => simp [shared] at hs
        | fn _ => simp [shared] at hs
        | fd _ => simp [shared] at hs
        | fk _ => simp [shared] at hs
/-- the callee's frame at its begin -/
theorem Sep.ext {K : Ek} {F R H : Hp} {σ : St} {ε : Cs} (s : Sep K F R H σ ε []) (n : Nat) : Sep K F R H (σ ++ List.replicate n none) (ε ++ List.replicate n .no) [] := by
  obtain ⟨a1, a2, a3, ⟨fs, gs, h1, h2, n1, m1⟩⟩ := s
  have e : (fs ++ List.replicate n ([] : List Addr)).flatten = fs.flatten := by rw [List.flatten_append, flat_rep, List.append_nil]
  exact ⟨a1, a2, a3, fs ++ List.replicate n [], gs, h1.append (RpCs.nos n _ (by simp)), h2, by rw [e]; exact n1, by rw [e]; exact m1⟩
/-- .. and at its end -/
theorem Sep.leave {K : Ek} {F R H F' R' H' : Hp} {vs : List V} {cs : List C} {n : Nat} {io : List Bool} {σ' : St} {ε' : Cs} {T : Tms} (s : Sep K F R' H (vs.map some) cs []) (hs : shared io cs = true) (fm : Same F F') (t : StS (ios io) (vs.map some ++ List.replicate n none) σ')
    (s' : Sep K F' R H' σ' ε' T) : Sep K F' R H' (vs.map some) (after io cs ε') T := by
  have l0 := s.len
  have l1 := s'.len
  have l2 := t.ln
  rw [List.length_append, List.length_replicate, List.length_map] at l2
  rw [List.length_map] at l0
  obtain ⟨_, _, _, ⟨f0, _, k0, _⟩⟩ := s
  obtain ⟨a1, a2, a3, ⟨fs, gs, h1, h2, n1, m1⟩⟩ := s'
  have lb : ∀ {bs : List Bool} {cs : List C}, shared bs cs = true → bs.length = cs.length := by
    intro bs
    induction bs with
    | nil => intro cs h; cases cs <;> simp_all [shared]
    | cons b bs ih => intro cs h; cases cs with
      | nil => cases b <;> simp [shared] at h
      | cons c cs =>
        have : shared bs cs = true := by cases b <;> cases c <;> simp_all [shared]
        simp [ih this]
  obtain ⟨f2, g1, g2⟩ := leaveA fm k0 h1 hs (fun j hj => by
    have hlt : j < vs.length := by
      have := (List.getElem?_eq_some_iff.mp hj).1
      have := lb hs
      omega
    rw [t.st j (mem_ios0.mpr hj), List.getElem?_append_left (by simpa using hlt)]) (by omega)
  have sb := List.Sublist.append g2 (List.Sublist.refl gs.flatten)
  exact ⟨a1, a2, a3, f2, gs, g1, h2, sb.nodup n1, fun b hb => m1 b (sb.subset hb)⟩
theorem sem_run {K : Ek} {W : Xw} {np ns : Nat} {io : List Bool} {m : XM} {vs : List V} {H : Hp} {Q : VK} {E : XK} (h : spOf K np (semF io ns m) vs H Q E) :
    tS K W (ios io) m { nx := fun _ H' => Q .non H', rt := Q } (vs.map some ++ List.replicate (ns - vs.length) none) H := by
  obtain ⟨hl, F, R, cs, c, cs', s, e, q⟩ := h
  have lc : cs.length = vs.length := by rw [← s.len, List.length_map]
  unfold semF at e
  split at e
  · rename_i hs
    rw [lc] at e
    generalize hn : ns - vs.length = n at e ⊢
    have s2 := s.ext n
    split at e
    · rename_i c1 ε' hm
      cases e
      exact ⟨F, R, _, _, ε', s2, hm, fun F' H' σ' fm t v s' => q v F' H' fm (s.leave hs fm t s')⟩
    · rename_i ε' hm
      cases e
      exact ⟨F, R, _, _, ε', s2, hm, fun F' H' σ' fm t s' => q .non F' H' fm ((s.leave hs fm t s').addSh (by simp only [Rep]))⟩
    · cases e
  · cases e
end L2.M
namespace L2.M
open PySem PySem.Spec PyProof.Rows
section
variable {X : Cx} {a b c e : Expr} {es rest : List Expr} {ma mb mo : OM} {m n : EM} {mr : AM} {t t1 t2 : TM} {pos p x : Pos} {k : Nat}
theorem ma_cons (h1 : PE X e (tO X.E mo)) (h2 : PA X es (tA X.E mr)) (hs : starEach (e :: es) X.env = (false, eval e X.env) :: starEach es X.env := by rfl) : PA X (e :: es) (tA X.E (mCons mo mr)) :=
  (pa_cons h1 h2 hs).weak fun _ _ _ h => tA_cons h
theorem x_bin {op : Operator} (ha : PE X a (tO X.E ma)) (hb : PE X b (tO X.E mb)) : PE X (.BinOp a op b pos) (tE X.E (mB (binD op) ma mb)) :=
  let ⟨_, h1, h2⟩ := bin_ok op
  me_bin h1 h2 ha hb
theorem x_cmp {op : CmpOp} (hr : Room k X.A) (ha : PE X a (tO X.E ma)) (hb : PE X b (tO X.E mb)) (hm : behindInMarks op b = false := by rfl) : PE X (.Compare a [op] [b] pos) (tE X.E (mB (cmpD op) ma mb)) :=
  let ⟨_, h1, h2⟩ := cmp_ok (by have := hr.un; omega) op
  me_cmp h1 h2 ha hb hm
theorem y_cmp {op : CmpOp} (hr : Room k X.A) (ha : PE X a (tO X.E ma)) (hb : PE X b (tO X.E mb)) (hm : behindInMarks op b = false := by rfl) : PT X (.Compare a [op] [b] pos) (tT X.E (mTst (mB (cmpD op) ma mb))) :=
  let ⟨_, h1, h2⟩ := cmp_ok (by have := hr.un; omega) op
  mt_cmp h1 h2 ha hb hm
theorem x_neg (ha : PE X a (tO X.E ma)) : PE X (.UnaryOp .USub a pos) (tE X.E (mU negD ma)) :=
  let ⟨_, h1, h2⟩ := neg_ok
  me_un h1 h2 ha
theorem x_ix (ha : PE X a (tO X.E ma)) (hb : PE X b (tO X.E mb)) (hs : PlainIx b := by exact fun _ _ => rfl) : PE X (.Subscript a b pos) (tE X.E (mB ixD ma mb)) :=
  let ⟨_, h1, h2⟩ := ix_ok
  me_ix h1 h2 ha hb hs
theorem ch_one {op : CmpOp} (hr : Room k X.A) (hb : PE X b (tO X.E mb)) : Chn X [op] [b] [(cmpD op, mb)] :=
  let ⟨_, h1, h2⟩ := cmp_ok (by have := hr.un; omega) op
  .one h1 h2 hb
theorem ch_cons {op op' : CmpOp} {ops : List CmpOp} {e' : Expr} {z : (D → D → Option C) × OM} {l : List ((D → D → Option C) × OM)} (hr : Room k X.A) (hb : PE X b (tO X.E mb)) (h : Chn X (op' :: ops) (e' :: es) (z :: l)) : Chn X (op :: op' :: ops) (b :: e' :: es) ((cmpD op, mb) :: z :: l) :=
  let ⟨_, h1, h2⟩ := cmp_ok (by have := hr.un; omega) op
  .cons h1 h2 hb h
theorem x_chain {op1 op2 : CmpOp} {ops : List CmpOp} {l : List ((D → D → Option C) × OM)} (ha : PE X a (tO X.E ma)) (h : Chn X (op1 :: op2 :: ops) (b :: c :: es) l) (hm : lastMarks (op1 :: op2 :: ops) (b :: c :: es) = false := by rfl) : PE X (.Compare a (op1 :: op2 :: ops) (b :: c :: es) pos) (tE X.E (mChn ma l)) := me_chain ha h hm
theorem y_chain {op1 op2 : CmpOp} {ops : List CmpOp} {l : List ((D → D → Option C) × OM)} (ha : PE X a (tO X.E ma)) (h : Chn X (op1 :: op2 :: ops) (b :: c :: es) l) (hm : lastMarks (op1 :: op2 :: ops) (b :: c :: es) = false := by rfl) : PT X (.Compare a (op1 :: op2 :: ops) (b :: c :: es) pos) (tT X.E (mTst (mChn ma l))) := mt_chain ha h hm
theorem y_val (h : PE X e (tE X.E m)) (he : ∀ whole, isTrue e X.env whole = (do let v ← whole; standAt e.pos; holding [v] (truthy v)) := by intro _; rfl) : PT X e (tT X.E (mTst m)) := mt_val h he
/-- a built-in function's call -/
inductive Bf where
  | len | int | max | min | abs | tuple | list | repr
def Bf.nm : Bf → Str
  | .len => "len"
  | .int => "int"
  | .max => "max"
  | .min => "min"
  | .abs => "abs"
  | .tuple => "tuple"
  | .list => "list"
  | .repr => "repr"
def Bf.f : Bf → List D → Option C
  | .len => lenD
  | .int => intD
  | .max => maxD
  | .min => minD
  | .abs => absD
  | .tuple => tupD
  | .list => lstD
  | .repr => repD
theorem boot_abs : bootBuiltins "abs" = some (.builtin "abs") := by decide +kernel
theorem x_bf (q : Bf) {y : Str} (hy : y = q.nm) (hm : X.mg q.nm = none) (hc : X.calm = true) (hg : Gl X y) (ha : PA X (e :: es) (tA X.E mr)) (he : starEach (e :: es) X.env = (false, eval e X.env) :: starEach es X.env := by rfl) (hpl : (backTo pos (starEach es X.env)).any (·.1) = false := by rfl) :
    PE X (.Call (.Name y p) (e :: es) [] pos) (tE X.E (mOp q.f mr)) := by
  subst hy
  cases q with
  | len => exact let ⟨_, h1, h2⟩ := len_ok; me_callB h1 h2 hg hm boot_len ha (by decide) (by decide) he hpl
  | int => exact let ⟨_, h1, h2⟩ := int_ok; me_callTy h1 h2 hg hm boot_int ha (by decide) (by decide) he hpl
  | max => exact let ⟨_, h1, h2⟩ := max_ok hc; me_callB h1 h2 hg hm boot_max ha (by decide) (by decide) he hpl
  | min => exact let ⟨_, h1, h2⟩ := min_ok hc; me_callB h1 h2 hg hm boot_min ha (by decide) (by decide) he hpl
  | abs => exact let ⟨_, h1, h2⟩ := abs_ok; me_callB h1 h2 hg hm boot_abs ha (by decide) (by decide) he hpl
  | tuple => exact let ⟨_, h1, h2⟩ := tup_ok; me_callTy h1 h2 hg hm boot_tuple ha (by decide) (by decide) he hpl
  | list => exact let ⟨_, h1, h2⟩ := lst_ok; me_callTy h1 h2 hg hm boot_list ha (by decide) (by decide) he hpl
  | repr => exact let ⟨_, h1, h2⟩ := rep_ok; me_callB h1 h2 hg hm boot_repr ha (by decide) (by decide) he hpl
theorem Ty.boot : ∀ T : Ty, bootBuiltins T.nm = some (.type T.nm) := fun T => by
  cases T with
  | int => exact boot_int
  | bool => exact boot_bool
  | str => exact boot_str
  | list => exact boot_list
  | tuple => exact boot_tuple
  | dict => exact boot_dict
theorem x_isi (T : Ty) {y : Str} (hy : y = T.nm) (hm : X.mg "isinstance" = none) (hmT : X.mg T.nm = none) (hg : Gl X "isinstance") (hgT : Gl X y) (he : PE X e (tO X.E mo)) (hs : starEach [e, .Name y p] X.env = (false, eval e X.env) :: starEach [.Name y p] X.env := by rfl) :
    PE X (.Call (.Name "isinstance" x) [e, .Name y p] [] pos) (tE X.E (mIsi T mo)) := by
  subst hy
  exact me_isi (T := T) hm hmT hg hgT T.boot he (by cases T <;> decide) (by cases T <;> decide) hs rfl rfl
/-- a module's number, text -/
theorem x_gint {y : Str} {i : Int} (hm : ∃ t, X.mg y = some (.int i t)) (hg : Gl X y) (hd : (y == ("__debug__" : Str)) = false := by decide) : PE X (.Name y pos) (tE X.E (mK (.int i))) := by
  obtain ⟨t, hm⟩ := hm
  exact (pe_glob hg hm (show RelV (.int i) (.int i t) from ⟨t, rfl⟩) hd).weak fun _ _ _ => tE_k (d := .int i) (v := .int i) fun _ => by simp [Rep]
end
section
variable {X : Cx} {W : Xw} {io : List Nat} {pos p p2 p3 : Pos} {e : Expr} {m : EM}
theorem z_expr (he : PE X e (tE X.E m)) (hs : swapsWith e none pos.line X.env = pure false := by rfl) : PS X (.Expr e pos) (tS X.E W io (mExpr m)) := ms_expr he hs
theorem z_set (i : Nat) {y : Str} (hN : X.N.Nodup) (he : PE X e (tE X.E m)) (hi : X.N[i]? = some y := by rfl) (hx : Loc X.env.scope y := by first | exact .inl rfl | exact .inr rfl) (hf : X.fn y = true ∨ X.env.scope.names.lookup y = some .local := by first | exact .inr rfl | exact .inl rfl) (hs : swapsWith e (some (.Name y p)) pos.line X.env = pure false := by rfl) : PS X (.Assign [.Name y p] e pos) (tS X.E W io (mSet io i m)) :=
  ms_set hN hi hx he hs hf
theorem z_asg {tg : Expr} {ts : List Nat} {g : TG} {bd : BM} (hg : Gd X.E g bd (· ∈ ts)) (hp : PG X tg g) (he : PE X e (tE X.E m)) (hs : swapsWithSole [tg] e pos.line X.env = pure false := by rfl) (hw : swappedStores [tg] e X.env = pure none := by rfl)
    (h1 : (assignEach [tg] X.env).map (·.2) = [assign tg X.env] := by rfl) : PS X (.Assign [tg] e pos) (tS X.E W io (mAsg ts io bd m)) := ms_asg hg he hp hs hw h1
theorem Gd.imp {K : Ek} {g : TG} {b : BM} {S S' : Nat → Prop} (h : Gd K g b S) (i : ∀ j, S j → S' j) : Gd K g b S' := fun F R H σ ε x d ε' Q o r e q => h F R H σ ε x d ε' Q o r e fun H' σ' bd => q H' σ' (bd.imp i)
theorem g_nm (i : Nat) {y : Str} (hN : X.N.Nodup) (hi : X.N[i]? = some y := by rfl) (hx : Loc X.env.scope y := by first | exact .inl rfl | exact .inr rfl) (hf : X.fn y = true ∨ X.env.scope.names.lookup y = some .local := by first | exact .inr rfl | exact .inl rfl) : PG X (.Name y p) (gName i) := pg_name hN hi hx hf
theorem z_app (i : Nat) {y : Str} (hv : PE X (.Name y p) (tVar i)) (he : PE X e (tE X.E m)) (hbase : attributeBase (.Name y p) "append" X.env (eval (.Name y p) X.env) = eval (.Name y p) X.env := by rfl)
    (hfew : ((backTo p3 (starEach [e] X.env)).all (fun x => !x.1) && (backToKw p3 (keywordEach [] X.env)).all (fun x => x.1.isSome) && decide ([e].length + ([] : List Keyword).length + (if ([] : List Keyword).isEmpty then 0 else 1) < 30)) = true := by rfl)
    (hline : (p2.endLine == p3.line) = true := by rfl) (hs : starEach [e] X.env = (false, eval e X.env) :: starEach [] X.env := by rfl) (hplain : (backTo p3 (starEach [] X.env)).any (·.1) = false := by rfl) (hst : starEach [e] X.env = [(false, eval e X.env)] := by rfl)
    (hsw : swapsWith (.Call (.Attribute (.Name y p) "append" p2) [e] [] p3) none pos.line X.env = pure false := by rfl) : PS X (.Expr (.Call (.Attribute (.Name y p) "append" p2) [e] [] p3) pos) (tS X.E W io (mApp i m)) :=
  ms_app hv he (fun {to t} h1 h2 => pe_bm PySem.F.plainAttrs_list PySem.F.slot_list_append PySem.F.type_list_append mt_append h1 h2 hbase hfew hline hs hplain) hst hsw
theorem z_ix (i : Nat) {y : Str} {kx : Expr} {ix : OM} (hv : PE X (.Name y p) (tVar i)) (hk : PE X kx (tO X.E ix)) (he : PE X e (tE X.E m))
    (ha : ∀ v, assign (.Subscript (.Name y p) kx p2) X.env v = (do
      let ov ← holding [v] (eval (.Name y p) X.env)
      let iv ← holding [v, ov] (eval kx X.env)
      standAt p2
      holding [v, ov, iv] (setItem ov iv v)
      release [v, ov, iv] []) := by intro _; rfl)
    (hs : swapsWithSole [.Subscript (.Name y p) kx p2] e pos.line X.env = pure false := by rfl) (hw : swappedStores [.Subscript (.Name y p) kx p2] e X.env = pure none := by rfl)
    (h1 : (assignEach [.Subscript (.Name y p) kx p2] X.env).map (·.2) = [assign (.Subscript (.Name y p) kx p2) X.env] := by rfl) : PS X (.Assign [.Subscript (.Name y p) kx p2] e pos) (tS X.E W io (mSetIx i m ix)) := ms_setIx hv he hk ha hs hw h1
theorem z_par2 (i j : Nat) {y z : Str} {a b : Expr} {kt k2 : Nat} {pt pt2 py pz : Pos} {ma : AM} (hc : X.calm = true) (hN : X.N.Nodup) (ha : PA X [a, b] (tA X.E ma)) (hi : X.N[i]? = some y := by rfl) (hj : X.N[j]? = some z := by rfl) (hij : i ≠ j := by decide)
    (hx : X.env.scope.names.lookup y = some .local := by rfl) (hy : X.env.scope.names.lookup z = some .local := by rfl)
    (hw : swappedStores [.Tuple [.Name y py, .Name z pz] kt pt] (.Tuple [a, b] k2 pt2) X.env = pure (some [y, z]) := by rfl)
    (hs : swapsWithSole [.Tuple [.Name y py, .Name z pz] kt pt] (.Tuple [a, b] k2 pt2) pos.line X.env = pure false := by rfl) :
    PS X (.Assign [.Tuple [.Name y py, .Name z pz] kt pt] (.Tuple [a, b] k2 pt2) pos) (tS X.E W io (mPar io [i, j] ma)) := ms_par2 hc hN hi hj hij hx hy ha hw hs
theorem z_par3 (i j l : Nat) {y z w : Str} {a b c : Expr} {kt k2 : Nat} {pt pt2 py pz pw : Pos} {ma : AM} (hc : X.calm = true) (hN : X.N.Nodup) (ha : PA X [a, b, c] (tA X.E ma)) (hi : X.N[i]? = some y := by rfl) (hj : X.N[j]? = some z := by rfl) (hl : X.N[l]? = some w := by rfl) (hij : i ≠ j := by decide) (hil : i ≠ l := by decide) (hjl : j ≠ l := by decide)
    (hx : X.env.scope.names.lookup y = some .local := by rfl) (hy : X.env.scope.names.lookup z = some .local := by rfl) (hz : X.env.scope.names.lookup w = some .local := by rfl)
    (hw : swappedStores [.Tuple [.Name y py, .Name z pz, .Name w pw] kt pt] (.Tuple [a, b, c] k2 pt2) X.env = pure (some [y, z, w]) := by rfl)
    (hs : swapsWithSole [.Tuple [.Name y py, .Name z pz, .Name w pw] kt pt] (.Tuple [a, b, c] k2 pt2) pos.line X.env = pure false := by rfl) :
    PS X (.Assign [.Tuple [.Name y py, .Name z pz, .Name w pw] kt pt] (.Tuple [a, b, c] k2 pt2) pos) (tS X.E W io (mPar io [i, j, l] ma)) := ms_par3 hc hN hi hj hl hij hil hjl hx hy hz ha hw hs
theorem z_for {iter tg : Expr} {body : List Stmt} {io' ts : List Nat} {src : SM} {g : TG} {bind : BM} {b : XM} (hp : PassesOwn (model X.prog X.w) X.A X.env X.xe) (hc : X.calm = true) (hi : PI X tg iter (tI X.E src)) (hgd : Gd X.E g bind (· ∈ ts)) (hg : PG X tg g)
    (hb : PSs X body (tS X.E W io' b)) (hio : ∀ i ∈ io, i ∈ io' := by decide) (hts : ∀ i ∈ ts, i ∉ io' := by decide) (hs : ∀ x, foldedSetIterable iter X.env x = pure x := by intro _; rfl) : PS X (.For tg iter body [] pos) (tS X.E W io (mFor io' src bind b)) := ms_for hp hc hi hg hgd hb hio hts hs
theorem z_rng1 {tg a : Expr} {ma : AM} (hm : X.mg "range" = none) (hg : Gl X "range") (ha : PA X [a] (tA X.E ma)) (hs : starEach [a] X.env = [(false, eval a X.env)] := by rfl) : PI X tg (.Call (.Name "range" p) [a] [] pos) (tI X.E (mSrc rng1D ma)) := mi_range1 hg hm ha hs
end
def Wo (fa : List He.Fa) (fn : List He.DefD) (K : PySem.W.Frag) (mg : Str → Option Value) : Prop := ∃ h : Heap, K.In h ∧ h.Ns mainGlobals mg ∧ He.SaysD fa fn K
section
variable {fa : List He.Fa} {fn : List He.DefD} {K : PySem.W.Frag} {mg : Str → Option Value}
theorem Wo.free (W : Wo fa fn K mg) (i : Nat) {x : Str} (h : fa[i]? = some (.free x) := by rfl) : mg x = none :=
  let ⟨_, X, G, c⟩ := W
  He.free_ok X G (c.fact i h)
theorem Wo.int (W : Wo fa fn K mg) (i : Nat) {x : Str} {n : Int} (h : fa[i]? = some (.int x n) := by rfl) : ∃ t, mg x = some (.int n t) :=
  let ⟨_, X, G, c⟩ := W
  He.int_ok X G (c.fact i h)
theorem Wo.str (W : Wo fa fn K mg) (i : Nat) {x z : Str} (h : fa[i]? = some (.str x z) := by rfl) : ∃ t, mg x = some (.str z t) :=
  let ⟨_, X, G, c⟩ := W
  He.str_ok X G (c.fact i h)
end
def Plain (d : He.DefD) (ps : List Str) : Prop := d.dfl = [] ∧ d.kwd = [] ∧ ∀ (kV doc pm : Value) (an : Option Addr) (cdv ct : Value) (us : List Value), us.length = ps.length → bindArgs (PySem.W.fnOf d.name d.qual d.params d.body d.scope .none kV doc pm an cdv ct) ⟨us, []⟩ = pure (ps.zip us)
abbrev cxN (P : Program) (w : World) (K : PySem.W.Frag) (mg : Str → Option Value) (base : Heap) (N : List Str) (d : He.DefD) (f : Addr) (cdv : Value) (A : Around) (outer : List Env) (s : Shared) (H : Hp) (E : XK) : Cx := (cxOf CX0 P w K mg base N d.qual d.scope f cdv A outer s H E).nox
/-- nothing is raised -/
abbrev W0 : Xw := fun _ _ _ _ => False
/-- a script in the first heap: read as frozen data -/
theorem sp_law {K : Ek} {m : XM} {n : Nat} {H : Hp} {a : Addr} {ns : List Int} (O : Only H) (h : SqL K.1 H a (ns.map V.int)) (hm : ∃ cs', semF [false] n m [.sh (.list (ns.map PyData.int))] = some (.sh (.bool true), cs')) :
    spOf K 1 (semF [false] n m) [.ref a] H (fun v _ => v = .bl true) fun _ _ _ => False := by
  obtain ⟨cs', hm⟩ := hm
  have reps : ∀ ns : List Int, Reps K.1 H (ns.map V.int) (ns.map PyData.int) := fun ns => by
    induction ns with
    | nil => rfl
    | cons x r ih => exact ⟨_, _, rfl, by simp only [Rep], ih⟩
  refine ⟨rfl, H, fun _ => none, [.sh (.list (ns.map PyData.int))], _, _, ⟨Same.refl H, fun b u z => (nomatch z), fun b _ => rfl, [[]], [], ⟨_, _, _, _, rfl, rfl, ⟨rfl, _, rfl, a, _, rfl, h, reps ns⟩, rfl, rfl⟩, ⟨rfl, rfl⟩, by simp, fun b hb => by simp at hb⟩, hm, fun v F' H' fm p => p.boolT⟩
end L2.M
namespace L2.M
open PySem PySem.Spec PyProof.Rows
section
variable {X : Cx} {pos p : Pos}
theorem pts_no : PTs X [] (tT X.E mYes) := ⟨fun pins s σ H Q I q => pts_nil.run pins s σ H Q I (tT_pure q)⟩
theorem pts_it {c : Expr} {t : TM} (h : PT X c (tT X.E t)) : PTs X [c] (tT X.E t) := pts_one h
theorem x_lc {elt tg iter : Expr} {ifs : List Expr} {scope : Scope} {src : SM} {bd : BM} {g : TG} {tt : TM} {m : EM} (own : List (Str × Nat)) (hc : X.calm = true) (hN : X.N.Nodup) (hok : BlkOk X.N X.env.scope scope own) (hsrc : PI X tg iter (tI X.E src)) (hgd : Gd X.E g bd (· ∈ own.map (·.2)))
    (hg : ∀ (s : Shared) (H : Hp) (c0 : Addr) (cl : List (Str × Addr)) (fp : List Addr), PG (X.blk s H scope (compEnvC scope cl c0 X.env) fp) tg g) (ht : ∀ (s : Shared) (H : Hp) (c0 : Addr) (cl : List (Str × Addr)) (fp : List Addr), PTs (X.blk s H scope (compEnvC scope cl c0 X.env) fp) ifs (tT X.E tt))
    (he : ∀ (s : Shared) (H : Hp) (c0 : Addr) (cl : List (Str × Addr)) (fp : List Addr), PE (X.blk s H scope (compEnvC scope cl c0 X.env) fp) elt (tE X.E m)) (hs : ∀ x, foldedSetIterable iter X.env x = pure x := by intro _; rfl) :
    PE X (.ListComp elt [⟨tg, iter, ifs, 0⟩] scope pos) (tE X.E (mLc src bd tt m (own.map (·.2)))) := (pe_lc hc hN hsrc hok hg ht he hs).weak fun _ _ _ h => tE_lc hgd (fun _ h => h) h
def revD : D → Option C
  | .list ds => some (.ls ds.reverse)
  | .tuple ds => some (.sh (.tuple ds.reverse))
  | _ => none
end
section
variable {X : Cx} {e : Expr} {k : Nat} {p1 p2 p3 pos : Pos}
def mRev (m : OM) : EM := mU revD m
end
end L2.M
namespace L2.M
open PySem PySem.Spec PyProof.Rows
def intsOf : List D → Option (List Int)
  | [] => some []
  | .int i :: ds => (intsOf ds).map (i :: ·)
  | _ => none
def boolsOf : List D → Option (List Bool)
  | [] => some []
  | .bool i :: ds => (boolsOf ds).map (i :: ·)
  | _ => none
theorem ints_reps {K : PySem.W.Frag} {F : Hp} : ∀ {ds : List D} {vs : List V} {ns : List Int}, Reps K F vs ds → intsOf ds = some ns → vs = ns.map V.int
  | [], vs, ns, h, e => by cases e; exact h
  | .int i :: ds, vs, ns, ⟨v, r, h1, h2, h3⟩, e => by
    simp only [intsOf, Option.map_eq_some_iff] at e
    obtain ⟨ms, e1, rfl⟩ := e
    subst h1
    simp only [Rep] at h2
    rw [h2, ints_reps h3 e1]
    rfl
  | .none :: ds, vs, ns, h, e => by cases e
  | .bool _ :: ds, vs, ns, h, e => by cases e
  | .str _ :: ds, vs, ns, h, e => by cases e
  | .list _ :: ds, vs, ns, h, e => by cases e
  | .tuple _ :: ds, vs, ns, h, e => by cases e
  | .dict _ :: ds, vs, ns, h, e => by cases e
theorem bools_reps {K : PySem.W.Frag} {F : Hp} : ∀ {ds : List D} {vs : List V} {ns : List Bool}, Reps K F vs ds → boolsOf ds = some ns → vs = ns.map V.bl
  | [], vs, ns, h, e => by cases e; exact h
  | .bool i :: ds, vs, ns, ⟨v, r, h1, h2, h3⟩, e => by
    simp only [boolsOf, Option.map_eq_some_iff] at e
    obtain ⟨ms, e1, rfl⟩ := e
    subst h1
    simp only [Rep] at h2
    rw [h2, bools_reps h3 e1]
    rfl
  | .none :: ds, vs, ns, h, e => by cases e
  | .int _ :: ds, vs, ns, h, e => by cases e
  | .str _ :: ds, vs, ns, h, e => by cases e
  | .list _ :: ds, vs, ns, h, e => by cases e
  | .tuple _ :: ds, vs, ns, h, e => by cases e
  | .dict _ :: ds, vs, ns, h, e => by cases e
theorem reps_ints {K : PySem.W.Frag} {F : Hp} : ∀ ns : List Int, Reps K F (ns.map V.int) (ns.map PyData.int)
  | [] => rfl
  | n :: ns => ⟨_, _, rfl, by simp only [Rep], reps_ints ns⟩
def anyD : List D → Option C
  | [.list ds] => (boolsOf ds).map fun bs => .sh (.bool (bs.any id))
  | _ => none
def allD : List D → Option C
  | [.list ds] => (boolsOf ds).map fun bs => .sh (.bool (bs.all id))
  | _ => none
def sumD : List D → Option C
  | [.list ds] => (intsOf ds).map fun ns => .sh (.int ns.sum)
  | _ => none
def isort (ns : List Int) : List Int := ns.mergeSort fun a b => decide (a ≤ b)
def sortD : List D → Option C
  | [.list ds] => (intsOf ds).map fun ns => .ls ((isort ns).map PyData.int)
  | _ => none
def strD : List D → Option C
  | [.int i] => if sm i then some (.sh (.str (toString i))) else none
  | _ => none
def gmaxD : List D → Option C
  | [.list ds] => match intsOf ds with
    | some (n :: ns) => some (.sh (.int (ns.foldl max n)))
    | _ => none
  | _ => none
def gminD : List D → Option C
  | [.list ds] => match intsOf ds with
    | some (n :: ns) => some (.sh (.int (ns.foldl min n)))
    | _ => none
  | _ => none
theorem isort_of {ns ms : List Int} (p : ms.Perm ns) (s : ms.Pairwise (· ≤ ·)) : ms = isort ns := by
  have h1 : (isort ns).Perm ns := List.mergeSort_perm ns _
  have h2 : (isort ns).Pairwise (fun a b => decide (a ≤ b) = true) := List.pairwise_mergeSort (by intro a b c; simp; omega) (by intro a b; simp; omega) ns
  have h3 : (isort ns).Pairwise (· ≤ ·) := h2.imp fun h => by simpa using h
  exact (p.trans h1.symm).eq_of_pairwise (fun a b _ _ h k => Int.le_antisymm h k) s h3
section
variable {X : Cx}
theorem any_ok (hc : X.calm = true) : ∃ r, CallR X (.builtin "any") r ∧ FnB X.K anyD r := by
  refine ⟨_, cr_any hc, fun F H vs ds c Q s hr he q => ?_⟩
  match ds, he, hr with
  | [.list ds], he, hr =>
    simp only [anyD, Option.map_eq_some_iff] at he
    obtain ⟨bs, e1, rfl⟩ := he
    obtain ⟨x, rfl, h1⟩ := hr.one
    obtain ⟨a, vs, rfl, g1, g2⟩ := rb_lst s h1
    rw [bools_reps g2 e1] at g1
    exact ⟨a, bs, rfl, g1, g_bool s q⟩
theorem all_ok (hc : X.calm = true) : ∃ r, CallR X (.builtin "all") r ∧ FnB X.K allD r := by
  refine ⟨_, cr_all hc, fun F H vs ds c Q s hr he q => ?_⟩
  match ds, he, hr with
  | [.list ds], he, hr =>
    simp only [allD, Option.map_eq_some_iff] at he
    obtain ⟨bs, e1, rfl⟩ := he
    obtain ⟨x, rfl, h1⟩ := hr.one
    obtain ⟨a, vs, rfl, g1, g2⟩ := rb_lst s h1
    rw [bools_reps g2 e1] at g1
    exact ⟨a, bs, rfl, g1, g_bool s q⟩
theorem sum_ok (hc : X.calm = true) : ∃ r, CallR X (.builtin "sum") r ∧ FnB X.K sumD r := by
  refine ⟨_, cr_sum hc, fun F H vs ds c Q s hr he q => ?_⟩
  match ds, he, hr with
  | [.list ds], he, hr =>
    simp only [sumD, Option.map_eq_some_iff] at he
    obtain ⟨bs, e1, rfl⟩ := he
    obtain ⟨x, rfl, h1⟩ := hr.one
    obtain ⟨a, vs, rfl, g1, g2⟩ := rb_lst s h1
    rw [ints_reps g2 e1] at g1
    exact ⟨a, bs, rfl, g1, g_int s q⟩
theorem sort_ok : ∃ r, CallR X (.builtin "sorted") r ∧ FnB X.K sortD r := by
  refine ⟨_, cr_sortedI, fun F H vs ds c Q s hr he q => ?_⟩
  match ds, he, hr with
  | [.list ds], he, hr =>
    simp only [sortD, Option.map_eq_some_iff] at he
    obtain ⟨bs, e1, rfl⟩ := he
    obtain ⟨x, rfl, h1⟩ := hr.one
    obtain ⟨a, vs, rfl, g1, g2⟩ := rb_lst s h1
    rw [ints_reps g2 e1] at g1
    refine ⟨a, bs, rfl, g1, fun ms p hp hs hq => ?_⟩
    rw [isort_of hp hs]
    exact g_lst s (reps_ints _) q p hq
theorem str_ok : ∃ r, CallR X (.type "str") r ∧ FnB X.K strD r := by
  refine ⟨_, call_str_int, fun F H vs ds c Q s hr he q => ?_⟩
  match ds, he, hr with
  | [.int i], he, hr =>
    simp only [strD] at he
    split at he
    · rename_i hz
      cases he
      obtain ⟨x, rfl, h1⟩ := hr.one
      rw [rb_int h1]
      exact ⟨i, rfl, by have := log2_le hz.1 hz.2; omega, g_str s q⟩
    · cases he
theorem fold_max : ∀ (ns : List Int) (n : Int), (ns.foldl max n = n ∨ ns.foldl max n ∈ ns) ∧ n ≤ ns.foldl max n ∧ ∀ y ∈ ns, y ≤ ns.foldl max n
  | [], n => ⟨.inl rfl, Int.le_refl _, fun y h => by cases h⟩
  | m :: ns, n => by
    obtain ⟨h1, h2, h3⟩ := fold_max ns (max n m)
    simp only [List.foldl_cons]
    refine ⟨?_, by omega, fun y hy => ?_⟩
    · rcases h1 with h | h
      · rw [h]
        by_cases k : n ≤ m
        · right; rw [Int.max_eq_right k]; exact List.mem_cons_self
        · left; exact Int.max_eq_left (by omega)
      · exact .inr (List.mem_cons_of_mem _ h)
    · rcases List.mem_cons.mp hy with rfl | hy
      · omega
      · exact h3 y hy
theorem fold_min : ∀ (ns : List Int) (n : Int), (ns.foldl min n = n ∨ ns.foldl min n ∈ ns) ∧ ns.foldl min n ≤ n ∧ ∀ y ∈ ns, ns.foldl min n ≤ y
  | [], n => ⟨.inl rfl, Int.le_refl _, fun y h => by cases h⟩
  | m :: ns, n => by
    obtain ⟨h1, h2, h3⟩ := fold_min ns (min n m)
    simp only [List.foldl_cons]
    refine ⟨?_, by omega, fun y hy => ?_⟩
    · rcases h1 with h | h
      · rw [h]
        by_cases k : n ≤ m
        · left; exact Int.min_eq_left k
        · right; rw [Int.min_eq_right (by omega)]; exact List.mem_cons_self
      · exact .inr (List.mem_cons_of_mem _ h)
    · rcases List.mem_cons.mp hy with rfl | hy
      · omega
      · exact h3 y hy
theorem gmax_ok (hc : X.calm = true) : ∃ r, CallR X (.builtin "max") r ∧ FnB X.K gmaxD r := by
  refine ⟨_, cr_max hc, fun F H vs ds c Q s hr he q => ?_⟩
  match ds, he, hr with
  | [.list ds], he, hr =>
    simp only [gmaxD] at he
    split at he
    · rename_i n ns e1
      cases he
      obtain ⟨x, rfl, h1⟩ := hr.one
      obtain ⟨a, vs, rfl, g1, g2⟩ := rb_lst s h1
      rw [ints_reps g2 e1] at g1
      refine ⟨a, n :: ns, rfl, g1, by simp, fun m hm hy => ?_⟩
      obtain ⟨k1, k2, k3⟩ := fold_max ns n
      have e : m = ns.foldl max n := by
        apply Int.le_antisymm
        · rcases List.mem_cons.mp hm with rfl | h
          · exact k2
          · exact k3 _ h
        · rcases k1 with h | h
          · rw [h]; exact hy _ List.mem_cons_self
          · exact hy _ (List.mem_cons_of_mem _ h)
      rw [e]
      exact g_int s q
    · cases he
theorem gmin_ok (hc : X.calm = true) : ∃ r, CallR X (.builtin "min") r ∧ FnB X.K gminD r := by
  refine ⟨_, cr_min hc, fun F H vs ds c Q s hr he q => ?_⟩
  match ds, he, hr with
  | [.list ds], he, hr =>
    simp only [gminD] at he
    split at he
    · rename_i n ns e1
      cases he
      obtain ⟨x, rfl, h1⟩ := hr.one
      obtain ⟨a, vs, rfl, g1, g2⟩ := rb_lst s h1
      rw [ints_reps g2 e1] at g1
      refine ⟨a, n :: ns, rfl, g1, by simp, fun m hm hy => ?_⟩
      obtain ⟨k1, k2, k3⟩ := fold_min ns n
      have e : m = ns.foldl min n := by
        apply Int.le_antisymm
        · rcases k1 with h | h
          · rw [h]; exact hy _ List.mem_cons_self
          · exact hy _ (List.mem_cons_of_mem _ h)
        · rcases List.mem_cons.mp hm with rfl | h
          · exact k2
          · exact k3 _ h
      rw [e]
      exact g_int s q
    · cases he
end
/-- more built-in functions of one list -/
inductive Bg where
  | any | all | sum | sorted | str | maxl | minl
def Bg.nm : Bg → Str
  | .any => "any"
  | .all => "all"
  | .sum => "sum"
  | .sorted => "sorted"
  | .str => "str"
  | .maxl => "max"
  | .minl => "min"
def Bg.f : Bg → List D → Option C
  | .any => anyD
  | .all => allD
  | .sum => sumD
  | .sorted => sortD
  | .str => strD
  | .maxl => gmaxD
  | .minl => gminD
theorem boot_any1 : bootBuiltins "any" = some (.builtin "any") := by decide +kernel
theorem boot_all1 : bootBuiltins "all" = some (.builtin "all") := by decide +kernel
theorem boot_sum1 : bootBuiltins "sum" = some (.builtin "sum") := by decide +kernel
theorem boot_sorted1 : bootBuiltins "sorted" = some (.builtin "sorted") := by decide +kernel
section
variable {X : Cx} {e : Expr} {es : List Expr} {mr : AM} {p pos : Pos}
theorem x_bg (q : Bg) {y : Str} (hy : y = q.nm) (hm : X.mg q.nm = none) (hc : X.calm = true) (hg : Gl X y) (ha : PA X (e :: es) (tA X.E mr)) (he : starEach (e :: es) X.env = (false, eval e X.env) :: starEach es X.env := by rfl) (hpl : (backTo pos (starEach es X.env)).any (·.1) = false := by rfl) :
    PE X (.Call (.Name y p) (e :: es) [] pos) (tE X.E (mOp q.f mr)) := by
  subst hy
  cases q with
  | any => exact let ⟨_, h1, h2⟩ := any_ok hc; me_callB h1 h2 hg hm boot_any1 ha (by decide) (by decide) he hpl
  | all => exact let ⟨_, h1, h2⟩ := all_ok hc; me_callB h1 h2 hg hm boot_all1 ha (by decide) (by decide) he hpl
  | sum => exact let ⟨_, h1, h2⟩ := sum_ok hc; me_callB h1 h2 hg hm boot_sum1 ha (by decide) (by decide) he hpl
  | sorted => exact let ⟨_, h1, h2⟩ := sort_ok; me_callB h1 h2 hg hm boot_sorted1 ha (by decide) (by decide) he hpl
  | str => exact let ⟨_, h1, h2⟩ := str_ok; me_callTy h1 h2 hg hm boot_str ha (by decide) (by decide) he hpl
  | maxl => exact let ⟨_, h1, h2⟩ := gmax_ok hc; me_callB h1 h2 hg hm boot_max ha (by decide) (by decide) he hpl
  | minl => exact let ⟨_, h1, h2⟩ := gmin_ok hc; me_callB h1 h2 hg hm boot_min ha (by decide) (by decide) he hpl
def enumFrom (k : Nat) : List D → List D
  | [] => []
  | d :: ds => .tuple [.int (k : Int), d] :: enumFrom (k + 1) ds
theorem enum_get : ∀ (ds : List D) (k i : Nat), (enumFrom k ds)[i]? = ds[i]?.map fun d => .tuple [.int ((k + i : Nat) : Int), d]
  | [], k, i => by simp [enumFrom]
  | d :: ds, k, 0 => by simp [enumFrom]
  | d :: ds, k, i + 1 => by
    simp only [enumFrom, List.getElem?_cons_succ]
    rw [enum_get ds (k + 1) i]
    have : k + 1 + i = k + (i + 1) := by omega
    rw [this]
theorem enum_len : ∀ (ds : List D) (k : Nat), (enumFrom k ds).length = ds.length
  | [], k => rfl
  | d :: ds, k => by simp [enumFrom, enum_len ds (k + 1)]
end
end L2.M
namespace L2.M
open PySem PySem.Spec PyProof.Rows
structure Rm (k : Nat) (A : Around) : Prop extends Room k A where
  gd : A.guards = some []
theorem Rm.mono {j k : Nat} {A : Around} (r : Rm k A) (h : j ≤ k) : Rm j A := ⟨r.toRoom.mono h, r.gd⟩
structure FnG (P : Program) (w : World) (K : PySem.W.Frag) (mg : Str → Option Value) (base : Heap) (CX : CXT) (k : Nat) (f : Addr) (fd : FuncData) (ps : List Str) (sp : Sp) : Prop where
  len : ∀ vs H Q E, sp vs H Q E → vs.length = ps.length
  run : ∀ (A : Around) (outer : List Env) (s : Shared) (H : Hp) (args : Args) (us : List Value) (vs : List V) (Q : VK) (E : XK), Rm k A → Env0 P w K mg base A outer s H → BindsTo s fd args (ps.zip us) → Vals vs us → sp vs H Q E →
    codeAny (model P w) A (.call (.ref f) args) (CR CX outer P w H s Q E) s
section
variable {P : Program} {w : World} {K : PySem.W.Frag} {mg : Str → Option Value} {base : Heap} {CX : CXT}
theorem FnG.mono {j k : Nat} {f : Addr} {fd : FuncData} {ps : List Str} {sp : Sp} (F : FnG P w K mg base CX j f fd ps sp) (h : j ≤ k) : FnG P w K mg base CX k f fd ps sp :=
  ⟨F.len, fun A outer s H args us vs Q E hr => F.run A outer s H args us vs Q E (hr.mono h)⟩
/-- a def's body, run where the guards are known -/
theorem fnG_of {N ps : List Str} {k : Nat} {sp : Sp} {f : Addr} {name qual : Str} {params : Arguments} {body : List Stmt} {scope : Scope} {dV kV doc pm cdv ct oc : Value} {an od : Option Addr} {osl : Array (Option Value)}
    (l0 : K.lookup f = some ⟨oc, od, .func (PySem.W.fnOf name qual params body scope dV kV doc pm an cdv ct), osl⟩) (c0 : PySem.W.codeIn K cdv qual = true) (S : FnScope N ps scope) (len : ∀ vs H Q E, sp vs H Q E → vs.length = ps.length)
    (hb : ∀ (A : Around) (outer : List Env) (s : Shared) (H : Hp) (vs : List V) (Q : VK) (E : XK), Rm k (A.deeper (envOfC qual scope s.heap.objs.size f cdv)) → sp vs H Q E →
      ∃ t, PSs (cxOf CX P w K mg base N qual scope f cdv A outer s H E) body t ∧ t { nx := fun _ H' => Q .non H', rt := Q } (start N vs) H) :
    FnG P w K mg base CX (k + 1) f (PySem.W.fnOf name qual params body scope dV kV doc pm an cdv ct) ps sp := by
  refine ⟨len, fun A outer s H args us vs Q E r0 env0 bd rv h0 => ?_⟩
  have inK : K.In s.heap := env0.mod.kin.keeps fun b o z => (env0.bs b o z).1
  have nl : s.heap.NoLimit := env0.mod.nolimit.keeps fun b o z => (env0.bs b o z).1
  have kinds : ∀ y ∈ ps.zip us, scope.names.lookup y.1 = some .local ∨ (scope.names.lookup y.1 = some .cell ∧ ((cellsFrom (s.heap.objs.size + 1) scope.names []).lookup y.1).isSome = true) := by
    rintro ⟨n, v⟩ hy
    have hn := S.par n (List.of_mem_zip hy).1
    rcases hn with z | z
    · exact .inl z
    · exact .inr ⟨z, PySem.W.cellsFrom_some _ _ _ (.inl z)⟩
  refine codeAny_call_function r0.toRoom.depth (inK _ _ l0) rfl S.co S.gen rfl (PySem.W.codeRec_of inK c0) (bd _ _ _ _ ?_)
  refine wpAny_newFunctionEnv_cells S.kind kinds fun env ee s2 x2 => ?_
  subst ee
  refine ⟨nl.keeps x2.toInCall.keep, codeAny_func ?_⟩
  obtain ⟨t, ht, hq⟩ := hb A outer s H vs Q E ⟨r0.toRoom.deeper _, r0.gd⟩ h0
  have J : Inv (cxOf CX P w K mg base N qual scope f cdv A outer s H E) [] (start N vs) H s2 := inv_start S r0.hd env0 (len _ _ _ _ h0) rv x2
  refine wpAny_mono (ht.run [] s2 (start N vs) H _ J hq) (fun fl s' z => ?_) fun e s' z => z
  cases fl with
  | ret u =>
    obtain ⟨v, σ', H', I, r, q⟩ := z
    exact ⟨v, H', I.os, I.bare, I.base, I.hok, r, q⟩
  | next =>
    obtain ⟨σ', H', I, q⟩ := z
    exact ⟨.non, H', I.os, I.bare, I.base, I.hok, rfl, q⟩
  | brk =>
    obtain ⟨_, _, _, q⟩ := z
    exact q.elim
  | cont =>
    obtain ⟨_, _, _, q⟩ := z
    exact q.elim
end
/-- a def that keeps its promise there, by its name -/
structure KnG (P : Program) (w : World) (K : PySem.W.Frag) (mg : Str → Option Value) (base : Heap) (k : Nat) (x : Str) (ps : List Str) (sp : Sp) : Prop where
  ex : ∃ (f : Addr) (fd : FuncData), mg x = some (.ref f) ∧ PySem.W.keepIn K (.ref f) = true ∧ Binds K fd ps [] ∧ FnG P w K mg base CX0 k f fd ps sp
section
variable {fa : List He.Fa} {fn : List He.DefD} {K : PySem.W.Frag} {mg : Str → Option Value} {P : Program} {w : World} {base : Heap}
theorem defG {N ps : List Str} {d : He.DefD} {k : Nat} {io : List Bool} {m : XM} {f : Addr} {fd : FuncData} {dvs : List V} {kws : List (Str × V)} (F : FunD K d.name d.qual d.params d.body d.scope dvs kws f fd) (S : FnScope N ps d.scope)
    (hb : ∀ (f : Addr) (cdv : Value) (A : Around) (outer : List Env) (s : Shared) (H : Hp) (E : XK), Rm k (cxN P w K mg base N d f cdv A outer s H E).A → PSs (cxN P w K mg base N d f cdv A outer s H E) d.body (tS (K, w) W0 (ios io) m)) :
    FnG P w K mg base CX0 (k + 1) f fd ps (spOf (K, w) ps.length (semF io N.length m)) := by
  obtain ⟨oc, od, dV, kV, doc, pm, an, cdv, ct, osl, rfl, l0, c0, _, _⟩ := F.ex
  exact fnG_of l0 c0 S (fun vs H Q E h => h.1) fun A outer s H vs Q E hr h => ⟨tS (K, w) W0 (ios io) m, PSs.nox (hb f cdv A outer s H E hr), sem_run h⟩
theorem kng_mk (W : Wo fa fn K mg) (i j : Nat) {N ps : List Str} {d : He.DefD} {k : Nat} {io : List Bool} {m : XM} {x : Str} (hd : fn[i]? = some d) (hx : d.at_ = (x, none)) (hf : fa[j]? = some (.glo x)) (pl : Plain d ps) (S : FnScope N ps d.scope)
    (hb : ∀ (f : Addr) (cdv : Value) (A : Around) (outer : List Env) (s : Shared) (H : Hp) (E : XK), Rm k (cxN P w K mg base N d f cdv A outer s H E).A → PSs (cxN P w K mg base N d f cdv A outer s H E) d.body (tS (K, w) W0 (ios io) m)) :
    KnG P w K mg base (k + 1) x ps (spOf (K, w) ps.length (semF io N.length m)) := by
  obtain ⟨h, X, G, c⟩ := W
  obtain ⟨fd, F⟩ := c.def_ i hd
  have g := He.glo_ok X G (c.fact j hf)
  have eD : d.dvs K = [] := by unfold He.DefD.dvs; rw [pl.1]; rfl
  have eA : He.fAd K d.at_ = He.ga K x := by rw [hx]; rfl
  rw [eD, eA] at F
  exact ⟨⟨_, fd, g, F.kp, F.bindsN pl.2.2, defG F S hb⟩⟩
/-- the callee runs, the guards known -/
theorem runG {X : Cx} {pins : List (Addr × Obj)} {σ : St} {H : Hp} {s : Shared} {Q : VK} {us : List Value} {vs : List V} {k : Nat} {f : Addr} {fd : FuncData} {ps : List Str} {sp : Sp} (F : FnG X.prog X.w X.K X.mg X.base CX0 k f fd ps sp) (hr : Rm k X.A) (hb : Binds X.K fd ps []) (I : Inv X pins σ H s) (r : Vals vs us) (h : sp vs H Q E0) :
    wpAny (model X.prog X.w) X.A (call (.ref f) us) (EP X pins σ Q) X.xe s := by
  have hl : us.length = ps.length := by rw [← r.length]; exact F.len _ _ _ _ h
  have bd := hb s us I.kIn (by rw [List.append_nil]; exact hl)
  rw [List.append_nil] at bd
  refine wpAny_call (codeAny_mono (F.run X.A X.stack s H ⟨us, []⟩ us vs Q E0 hr I.env0 bd r h) fun res s' hq => ?_)
  cases res with
  | error e => exact hq.elim
  | ok fl =>
    cases fl with
    | ret u => exact I.after hq
    | next => exact False.elim hq
    | brk => exact False.elim hq
    | cont => exact False.elim hq
theorem g_call {X : Cx} {k k' np : Nat} {x : Str} {ps : List Str} {g : GM} {io : List Bool} {ma : AM} {e : Expr} {es : List Expr} {p pos : Pos} (h : KnG X.prog X.w X.K X.mg X.base k x ps (spOf X.E np g)) (hr : Rm k' X.A) (hk : k ≤ k') (hg : Gl X x) (ha : PA X (e :: es) (tA X.E ma)) (hio : io.length = np := by rfl)
    (hdb : (x == ("__debug__" : Str)) = false := by decide) (he : starEach (e :: es) X.env = (false, eval e X.env) :: starEach es X.env := by rfl) (hpl : (backTo pos (starEach es X.env)).any (·.1) = false := by rfl) : PE X (.Call (.Name x p) (e :: es) [] pos) (tE X.E (mCall io g ma)) := by
  obtain ⟨f, fd, hm, hkp, hbi, F⟩ := h.ex
  refine ⟨fun pins s σ H Q I q => ?_⟩
  have q2 := tE_call hio q
  refine wpAny_Call_Name_kw (ld_glob I hg hm ?_ hdb)
  refine PySem.W.callWith_K (h₀ := X.base) I.ok.mod.kin hkp (thn (ha.run pos pins s σ H _ I q2) fun us s1 ⟨vs, H1, I1, r, q3⟩ => ⟨I1.kIn, ?_⟩) he hpl
  have q3 : spOf X.E np g (vs ++ []) H1 Q E0 := q3
  rw [List.append_nil] at q3
  exact runG (F.mono hk) hr hbi I1 r q3
end
section
variable {P : Program} {w : World} {K : PySem.W.Frag} {mg mb : Str → Option Value} {k : Nat} {fA a : Addr} {fd : FuncData} {x : Str} {sp : Sp} {s : Shared} {vs : List Value} {ns : List Int}
abbrev LawEnd (s : Shared) (r : Result) (s' : Shared) : Prop := r = .ok (.ret (.bool true)) ∧ OldK s.heap s'.heap ∧ s'.os = s.os ∧ AllBare s'.gens
theorem top_core {H : Hp} (inK : K.In s.heap) (n1 : s.heap.Ns mainGlobals mg) (n2 : s.heap.Ns builtinsNs mb) (bb : ∀ y : Str, y ≠ "__name__" → mb y = bootBuiltins y) (nl : s.heap.NoLimit) (g0 : s.gens = #[])
    (ea : s.heap.get? a = some { cls := .type "list", data := .seq vs.toArray }) (hr : Rm k callerA) (F : ∀ base : Heap, K.In base → base.Ns mainGlobals mg → FnG P w K mg base CX0 k fA fd [x] sp) (bd : ∀ (s : Shared) (u : Value), BindsTo s fd ⟨[u], []⟩ [(x, u)])
    (h0 : sp [.ref a] H (fun v _ => v = .bl true) fun _ _ _ => False) (hO : Only H) (hok : HOk P w H s.heap) (hA : ∀ b, H b ≠ none → b = a) (hK : H a ≠ none → K.lookup a = none) : codeAny (model P w) callerA (.call (.ref fA) ⟨[.ref a], []⟩) (LawEnd s) s := by
  have untr : ∀ {b : Addr} {o : Obj}, s.heap.get? b = some o → (b = a → o.data ≠ .seq vs.toArray → False) → (b = a → False) → H b = none := fun {b o} _ _ no => by
    by_cases z : H b = none
    · exact z
    · exact (no (hA b z)).elim
  have dictN : ∀ {b : Addr} {o : Obj} {es : Array DictEntry} {ep : Nat}, s.heap.get? b = some o → o.data = .dict es ep → H b = none := fun {b o es ep} e d => by
    refine untr e (fun _ _ => ?_) fun eb => ?_
    · rename_i eb ne
      subst eb
      rw [ea] at e
      cases e
      exact ne rfl
    · subst eb
      rw [ea] at e
      cases e
      have d2 : Data.seq vs.toArray _ = Data.dict es ep := d
      cases d2
  have ns2 : ∀ {b : Addr} {m : Str → Option Value}, s.heap.Ns b m → (hidT s.heap H).Ns b m := by
    rintro b m ⟨o, es, ep, e, d, r⟩
    exact ⟨o, es, ep, hidT_get e (dictN e d), d, r⟩
  have inB : K.In (hidT s.heap H) := by
    intro b o e
    refine hidT_get (inK b o e) ?_
    by_cases z : H b = none
    · exact z
    · have eb := hA b z
      subst eb
      rw [hK z] at e
      cases e
  obtain ⟨mc, l1, l2⟩ := nl
  have md : Mod K mg (hidT s.heap H) := ⟨inB, ns2 n1, ⟨mb, ns2 n2, bb⟩, ⟨mc, ns2 l1, l2⟩⟩
  have ev : Env0 P w K mg (hidT s.heap H) callerA [] s H := ⟨rfl, md, fun b o z => of_hidT z, Nat.le_of_eq (hidT_size _ _), trivial, fun b z => absurd (show b ∈ ([] : List Addr) from z) (by simp), hok, .of_eq g0⟩
  refine codeAny_mono ((F _ inB (ns2 n1)).run callerA [] s H ⟨[.ref a], []⟩ [.ref a] [.ref a] _ _ hr ev (bd s (.ref a)) (.cons rfl .nil) h0) fun r s' z => ?_
  match r, z with
  | .error e, z => exact z.elim
  | .ok .next, z => exact z.elim
  | .ok .brk, z => exact z.elim
  | .ok .cont, z => exact z.elim
  | .ok (.ret u), ⟨v, H', os, bare, un, hok2, rv, q⟩ =>
    have q : v = .bl true := q
    subst q
    obtain rfl : u = Value.bool true := rv
    refine ⟨rfl, OldK.of_keep fun b o e => ?_, os, bare⟩
    cases z : H b with
    | none => exact un.keep b o e z (fun y => absurd (show b ∈ ([] : List Addr) from y) (by simp)) (by simp)
    | some t =>
      rcases hO b with y | ⟨ob, xs, y⟩
      · rw [z] at y; cases y
      · obtain ⟨e1, _⟩ := hok b _ y
        obtain ⟨e2, _⟩ := hok2 b _ (un.frzs b ob _ y)
        rw [e] at e1
        cases e1
        exact e2
theorem top_call (inK : K.In s.heap) (n1 : s.heap.Ns mainGlobals mg) (n2 : s.heap.Ns builtinsNs mb) (bb : ∀ y : Str, y ≠ "__name__" → mb y = bootBuiltins y) (nl : s.heap.NoLimit) (g0 : s.gens = #[])
    (ea : s.heap.get? a = some { cls := .type "list", data := .seq vs.toArray }) (hi : IntsAre vs ns) (hl : ns.length ≤ sizeLine) (hr : Rm k callerA) (F : ∀ base : Heap, K.In base → base.Ns mainGlobals mg → FnG P w K mg base CX0 k fA fd [x] sp) (bd : ∀ (s : Shared) (u : Value), BindsTo s fd ⟨[u], []⟩ [(x, u)])
    (h0 : ∀ H : Hp, Only H → SqL K H a (ns.map V.int) → sp [.ref a] H (fun v _ => v = .bl true) fun _ _ _ => False) : codeAny (model P w) callerA (.call (.ref fA) ⟨[.ref a], []⟩) (LawEnd s) s := by
  have rv := vals_ints hi
  have len := hi.length
  by_cases hk : ∃ o, K.lookup a = some o
  · obtain ⟨o, hk⟩ := hk
    have e := inK a o hk
    rw [ea] at e
    cases e
    have sq : SqL K (fun _ => none) a (ns.map V.int) := .inr ⟨_, vs.toArray, _, hk, rfl, rfl, rfl, by rw [List.size_toArray, len]; exact hl, by simpa using rv⟩
    exact top_core inK n1 n2 bb nl g0 ea hr F bd (h0 _ (fun _ => .inl rfl) sq) (fun _ => .inl rfl) (fun b u z => by have z2 : (none : Option HO) = some u := z; cases z2) (fun b z => absurd rfl z) fun z => absurd rfl z
  · have hk : K.lookup a = none := by
      cases z : K.lookup a with
      | none => rfl
      | some o => exact absurd ⟨o, z⟩ hk
    let Hs : Hp := fun b => if b = a then some (.frz { cls := .type "list", data := .seq vs.toArray } (.lst (ns.map V.int))) else none
    have at1 : Hs a = some (.frz { cls := .type "list", data := .seq vs.toArray } (.lst (ns.map V.int))) := if_pos rfl
    have at2 : ∀ {b : Addr}, b ≠ a → Hs b = none := fun {b} n => if_neg n
    have on : Only Hs := fun b => by
      by_cases eb : b = a
      · subst eb; exact .inr ⟨_, _, at1⟩
      · exact .inl (at2 eb)
    refine top_core (H := Hs) inK n1 n2 bb nl g0 ea hr F bd (h0 Hs on (.inl (.inr ⟨_, at1⟩))) on (fun b u z => ?_) (fun b z => ?_) fun _ => hk
    · by_cases eb : b = a
      · subst eb
        rw [at1] at z
        cases z
        exact ⟨ea, by rw [List.length_map]; exact hl, vs, _, rv, ea⟩
      · rw [at2 eb] at z; cases z
    · by_cases eb : b = a
      · exact eb
      · exact absurd (at2 eb) z
end
theorem walkG {l : PySem.W.OpenLaw} {n k : Nat} {q : Program} {loose : List Str} {XP : (Str → Option Value) → Heap → Prop} {YP : World → Heap → Prop} {d : DefRec} {x : Str} (hn : l.most = some n) (h2 : n ≤ sizeLine) (h3 : d.params.defaults = []) (hr : Rm k callerA)
    (F : ∀ (w : World) (mg : Str → Option Value) (fA : Addr) (h : Heap), YP w h → h.Ns mainGlobals mg → mg d.name = some (.ref fA) → ∃ (K : PySem.W.Frag) (fd : FuncData) (sp : Sp), K.In h ∧ (∀ (s : Shared) (u : Value), BindsTo s fd ⟨[u], []⟩ [(x, u)]) ∧
      (∀ (H : Hp) (a : Addr) (ns : List Int), ns.length ≤ n → Only H → SqL K H a (ns.map V.int) → sp [.ref a] H (fun v _ => v = .bl true) fun _ _ _ => False) ∧ ∀ base : Heap, K.In base → base.Ns mainGlobals mg → FnG l.prog w K mg base CX0 k fA fd [x] sp) :
    PySem.W.WalkO q loose XP YP l.row.toRowW d [] (fun f vs => PySem.call f vs) := by
  refine Att.attach_call hn h3 fun w s0 s1 mg mb fA o pm cd doc a vs ns G Y ho hd hcd hmg hobj hints hlen hg => ?_
  obtain ⟨K, fd, sp, KX, hb, h0, hF⟩ := F w mg fA _ Y G.T.g hmg
  exact top_call KX G.T.g G.T.b G.T.builtins G.T.nolimit hg hobj hints (Nat.le_trans hlen h2) hr hF hb fun H hO hS => h0 H a ns hlen hO hS
theorem topG {fa : List He.Fa} {fn : List He.DefD} {K : PySem.W.Frag} {mg : Str → Option Value} {P : Program} {w : World} (W : Wo fa fn K mg) (i j : Nat) {N : List Str} {d : He.DefD} {k : Nat} {m : XM} {x f0 : Str} (hd : fn[i]? = some d) (hx : d.at_ = (f0, none)) (hf : fa[j]? = some (.glo f0)) (pl : Plain d [x]) (S : FnScope N [x] d.scope) {fA : Addr} (hfa : mg f0 = some (.ref fA))
    (hb : ∀ (base : Heap) (f : Addr) (cdv : Value) (A : Around) (outer : List Env) (s : Shared) (H : Hp) (E : XK), Rm k (cxN P w K mg base N d f cdv A outer s H E).A → PSs (cxN P w K mg base N d f cdv A outer s H E) d.body (tS (K, w) W0 (ios [false]) m)) :
    ∃ fd : FuncData, (∀ (s : Shared) (v : Value), BindsTo s fd ⟨[v], []⟩ [(x, v)]) ∧ ∀ base : Heap, K.In base → base.Ns mainGlobals mg → FnG P w K mg base CX0 (k + 1) fA fd [x] (spOf (K, w) 1 (semF [false] N.length m)) := by
  obtain ⟨h, X, G, c⟩ := W
  obtain ⟨fd, F⟩ := c.def_ i hd
  have g := He.glo_ok X G (c.fact j hf)
  have eD : d.dvs K = [] := by unfold He.DefD.dvs; rw [pl.1]; rfl
  have eA : He.fAd K d.at_ = He.ga K f0 := by rw [hx]; rfl
  have e := hfa.symm.trans g
  cases e
  rw [eD, eA] at F
  exact ⟨fd, fun s v => FunD.bindsA F pl.2.2 s [v] rfl, fun base _ _ => defG F S (hb base)⟩
end L2.M
namespace L2.M
open PySem PySem.Spec PyProof.Rows
theorem bools_map (f : PyData → Bool) : ∀ ds : List PyData, boolsOf (ds.map fun d => PyData.bool (f d)) = some (ds.map f)
  | [] => rfl
  | d :: ds => by
    simp only [List.map_cons, boolsOf, bools_map f ds, Option.map_some]
theorem ints_all : ∀ ns : List Int, intsOf (ns.map PyData.int) = some ns
  | [] => rfl
  | d :: ds => by
    simp only [List.map_cons, intsOf, ints_all ds, Option.map_some]
inductive Sk where
  | l | t
def itX : Sk → Heap → Addr → Addr → Nat → Prop
  | .l => fun h it a i => h.IsListIter it a i
  | .t => fun h it a i => h.IsTupleIter it a i
def newX : Sk → Addr → Obj
  | .l => fun a => { cls := .type "list_iterator", data := .fields #[.ref a, .int 0 0] }
  | .t => fun a => { cls := .type "tuple_iterator", data := .fields #[.ref a, .int 0 0] }
theorem itX.new {k : Sk} {h : Heap} {it a : Addr} (g : h.get? it = some (newX k a)) : itX k h it a 0 := by
  cases k <;> exact ⟨_, g, rfl, rfl⟩
theorem itX.at {k : Sk} {h h' : Heap} {it a : Addr} {i : Nat} (g : itX k h it a i) (e : ∀ o, h.get? it = some o → h'.get? it = some o) : itX k h' it a i := by
  cases k
  · exact Heap.IsListIter.at g e
  · exact Heap.IsTupleIter.at g e
theorem two {P : Addr → Prop} {a b : Addr} (ha : P a) (hb : P b) : ∀ x ∈ [a, b], P x := by
  simp only [List.forall_mem_cons]
  exact ⟨ha, hb, fun x h => (by cases h)⟩
def itemsX : D → Option (Sk × List D)
  | .list ds => some (.l, ds)
  | .tuple ds => some (.t, ds)
  | _ => none
def zipX : List D → Option (List D)
  | [d, e] => do
    let (_, ds) ← itemsX d
    let (_, es) ← itemsX e
    some (List.zipWith (fun a b => .tuple [a, b]) ds es)
  | _ => none
def enumX : List D → Option (List D)
  | [d] => (itemsX d).map fun p => enumFrom 0 p.2
  | _ => none
end L2.M
namespace L2.M
open PySem PySem.Spec PyProof.Rows
abbrev Lk := List (Int ⊕ List Nat)
def dItems (sh : Nat → Bool) : Nat → List D → Option Lk
  | _, [] => some []
  | i, .int n :: r => if sh i = true then none else (dItems sh (i + 1) r).map (Sum.inl n :: ·)
  | i, .str x :: r => if sh i = true then (dItems sh (i + 1) r).map (Sum.inr x.cps.toList :: ·) else none
  | _, _ :: _ => none
def dKey (sh : Nat → Bool) : D → Option Lk
  | .tuple (d :: ds) => dItems sh 0 (d :: ds)
  | _ => none
/-- at which places the first one has texts -/
def shp : List D → Nat → Bool
  | .tuple es :: _ => fun i => match es[i]? with
    | some (.str _) => true
    | _ => false
  | _ => fun _ => false
def kLe (a b : Lk) : Bool := !lexLt itemOrd b a
def tle (sh : Nat → Bool) (d e : D) : Bool := kLe ((dKey sh d).getD []) ((dKey sh e).getD [])
def tsort (ds : List D) : List D := ds.mergeSort (tle (shp ds))
def tups (ds : List D) : Bool := ds.all fun d => (dKey (shp ds) d).isSome
def sortX : List D → Option C
  | [.list ds] => match intsOf ds with
    | some ns => some (.ls ((isort ns).map PyData.int))
    | none => if tups ds then some (.ls (tsort ds)) else none
  | _ => none
theorem cps_inj {x y : Str} (h : x.cps.toList = y.cps.toList) : x = y := by
  cases x; cases y
  simp at h
  rw [h]
theorem sortX_ints (ns : List Int) : sortX [.list (ns.map PyData.int)] = some (.ls ((isort ns).map PyData.int)) := by
  have : ∀ ns : List Int, intsOf (ns.map PyData.int) = some ns := fun ns => by
    induction ns with
    | nil => rfl
    | cons n ns ih => simp [intsOf, ih]
  simp only [sortX, this]
end L2.M
namespace L2.M
open PySem PySem.Spec PyProof.Rows
def mM (f : List D → Option C) (kind : D → Bool) (mo : OM) (ma : AM) : EM := fun ε => do
  let (o, ε1) ← mo ε
  let d0 ← bor ε1 o
  if kind d0 then
    let (os, ε2) ← ma ε1
    let ds ← bors ε2 (o :: os)
    let c ← f ds
    some (c, ε2)
  else none
def isL : D → Bool
  | .list _ => true
  | _ => false
def isS : D → Bool
  | .str _ => true
  | _ => false
def FnM (K : PySem.W.Frag) (f : List D → Option C) (r : V → List V → Hp → VK → Prop) : Prop :=
  ∀ F H x xs ds c Q, Same F H → RepBs K F H (x :: xs) ds → f ds = some c → (∀ v F' H', Grow K F H F' H' v c → Q v H') → r x xs H Q
theorem tyV_S {K : PySem.W.Frag} {F H : Hp} {x : V} {d : D} (s : Same F H) (h : RepB K F H x d) (k : isS d = true) : tyV K "str" x H := by
  cases d with
  | str z =>
    rw [rb_str h]
    exact rfl
  | _ => cases k
theorem tE_m {K : Ek} {T : String} {f : List D → Option C} {r : V → List V → Hp → VK → Prop} {kind : D → Bool} (hf : FnM K.1 f r) (hk : ∀ (F H : Hp) (x : V) (d : D), Same F H → RepB K.1 F H x d → kind d = true → tyV K.1 T x H) {mo : OM} {ma : AM} {σ : St} {H : Hp} {Q : VK}
    (h : tE K (mM f kind mo ma) σ H Q) : tBM K.1 T r (tO K mo) (tA K ma) σ H Q := by
  obtain ⟨F, R, ε, c, ε', ok, e, q⟩ := h
  unfold mM at e
  cases e1 : mo ε with
  | none => simp [e1] at e
  | some p =>
    obtain ⟨o, ε1⟩ := p
    cases e2 : bor ε1 o with
    | none => simp [e1, e2] at e
    | some d0 =>
      cases e3 : kind d0 with
      | false => simp [e1, e2, e3] at e
      | true =>
        cases e4 : ma ε1 with
        | none => simp [e1, e2, e3, e4] at e
        | some p2 =>
          obtain ⟨os, ε2⟩ := p2
          cases e5 : bors ε2 (o :: os) with
          | none => simp [e1, e2, e3, e4, e5] at e
          | some ds =>
            cases e6 : f ds with
            | none => simp [e1, e2, e3, e4, e5, e6] at e
            | some c' =>
              simp [e1, e2, e3, e4, e5, e6] at e
              obtain ⟨rfl, rfl⟩ := e
              refine ⟨F, R, ε, o, ε1, ok, e1, fun v F1 H1 fm1 v1 s1 => ?_⟩
              have b1 : bors ε1 [o] = some [d0] := by simp [bors, e2]
              have hx := (bors_ok (T := []) (by simpa using s1) v1 b1).inj1
              obtain ⟨R1, s1', bk⟩ := s1.hides
              refine ⟨hk F1 H1 v d0 s1.sub hx e3, F1, R1, ε1, os, ε2, s1', e4, fun vs F2 H2 fm2 v2 s2 => ?_⟩
              have s3 := bk F2 H2 σ ε2 _ fm2 s2
              have v3 : OpV σ (v :: vs) (o :: os) := by
                cases v1 with
                | pl h _ => exact .pl h v2
                | tm _ => exact .tm v2
              have s4 : Sep K F2 R H2 σ ε2 (tmO (o :: os) (v :: vs) ++ []) := by
                rw [List.append_nil]
                cases o with
                | pl i => exact s3
                | tm c => exact s3
              refine hf F2 H2 v vs ds c' Q s4.sub (bors_ok s4 v3 e5) e6 fun w F3 H3 g => ?_
              exact q w F3 H3 ((fm1.trans fm2).trans g.fm) ((s4.drops _).res g)
end L2.M
namespace L2.M
open PySem PySem.Spec PyProof.Rows
theorem ObP.set {K : Ek} {H : Hp} {a : Addr} {vs : List V} {k : Nat} {v : V} (hv : vs[k]? = some v) : ∀ {kd : Kd}, ObP K H a vs kd → ObP K H a (vs.set k v) kd := fun {kd} h => by rw [set_same hv]; exact h
def PlV (K : Ek) (H : Hp) (σ : St) (ε : Cs) (i k : Nat) (v : V) : Prop := ∃ a kd cs vs, σ[i]? = some (some (.ref a)) ∧ ε[i]? = some (.ob kd cs) ∧ ObP K H a vs kd ∧ vs[k]? = some v ∧ vs.length = cs.length
section
variable {K : Ek} {F R H : Hp} {σ : St} {ε : Cs} {T : Tms} {i k : Nat} {v : V} {c : C} {kd : Kd} {cs : List C}
theorem ObP.inj {a : Addr} {vs us : List V} : ∀ {kd : Kd}, ObP K H a vs kd → ObP K H a us kd → vs = us
  | .dn _, h, _ => h.elim
  | .ls, h, g => by
    have h : H a = _ := h
    have g : H a = _ := g
    rw [h] at g
    cases g
    rfl
  | .ins x fs, ⟨dx, h1, h2, _⟩, ⟨dy, g1, g2, _⟩ => by
    rw [h1] at g1
    injection g1 with g1
    injection g1 with _ _ g1
    have := congrArg (List.map (·.2)) g1
    rwa [List.map_snd_zip (by omega), List.map_snd_zip (by omega)] at this
theorem PlV.heap {H' : Hp} (p : PlV K H σ ε i k v) (h : ∀ a, σ[i]? = some (some (.ref a)) → H' a = H a) : PlV K H' σ ε i k v := by
  obtain ⟨a, kd, cs, vs, p1, p2, p3, p4, p5⟩ := p
  exact ⟨a, kd, cs, vs, p1, p2, ObP.frame (h a p1) p3, p4, p5⟩
end
end L2.M
namespace L2.M
open PySem PySem.Spec PyProof.Rows
abbrev PlM := Cs → Option ((Nat × Nat) × Cs)
/-- x.f -/
def mPlF (i k : Nat) (x f : Str) : PlM := fun ε => match ε[i]? with
  | some (.ob (.ins y fs) cs) => if y = x ∧ fs[k]? = some f ∧ k < cs.length then some ((i, k), ε) else none
  | _ => none
/-- x[e] -/
def mPlI (i : Nat) (ix : OM) : PlM := fun ε => match ε[i]? with
  | some (.ob .ls _) => do
    let (o, ε1) ← ix ε
    let d ← bor ε1 o
    match d, ε1[i]? with
      | .int z, some (.ob .ls cs) => do
        let j ← ixN cs.length z
        some ((i, j), ε1)
      | _, _ => none
  | _ => none
/-- the value there: an own list is frozen -/
def mRd (m : PlM) : EM := fun ε => do
  let ((i, k), ε1) ← m ε
  match ε1[i]? with
  | some (.ob kd cs) => match cs[k]? with
    | some (.sh d) => some (.sh d, ε1)
    | some (.ls ds) => some (.sh (.list ds), ε1.set i (.ob kd (cs.set k (.sh (.list ds)))))
    | _ => none
  | _ => none
/-- an operation of one, on what stands there -/
def mPU (f : List D → Option C) (m : PlM) : EM := fun ε => do
  let ((i, k), ε1) ← m ε
  match ε1[i]? with
  | some (.ob _ cs) => do
    let c0 ← cs[k]?
    let d ← cD c0
    let c ← f [d]
    some (c, ε1)
  | _ => none
/-- an operation of two, the first one there -/
def mPB (f : D → D → Option C) (m : PlM) (b : OM) : EM := fun ε => do
  let ((i, k), ε1) ← m ε
  match ε1[i]? with
  | some (.ob kd cs) => do
    let c0 ← cs[k]?
    let d ← cD c0
    let (o, ε2) ← b (ε1.set i .no)
    let e ← bor ε2 o
    let c ← f d e
    some (c, ε2.set i (.ob kd cs))
  | _ => none
end L2.M
namespace L2.M
open PySem PySem.Spec PyProof.Rows
section
variable {K : Ek} {F R H H' : Hp} {σ : St} {ε : Cs} {T : Tms} {i k : Nat} {y : V} {c : C} {kd kd' : Kd} {cs : List C}
/-- a part stored (or a new one behind the others), the object itself rewritten -/
theorem Sep.part (s : Sep K F R H σ ε ((y, c) :: T)) (h : ε[i]? = some (.ob kd cs)) : ∃ a vs, σ[i]? = some (some (.ref a)) ∧ ObAt K F H a vs kd ∧ vs.length = cs.length ∧ ∀ o us ds, (∀ gg f, RpCs K F H (vs.map some) cs gg → RpC K F H (some y) c f → (gg.flatten ++ f).Nodup → ∃ g2, RpCs K F H (us.map some) ds g2 ∧ g2.flatten.Nodup ∧ ∀ b ∈ g2.flatten, b ∈ gg.flatten ++ f) →
    ObAt K F (upd H a o) a us kd' → Sep K F R (upd H a o) σ (ε.set i (.ob kd' ds)) T := by
  obtain ⟨o0, f0, e1, h0⟩ := s.cell h
  obtain ⟨w, hw⟩ := s.val h fun z => nomatch z
  have s1 := s.take h hw
  obtain ⟨gs, q, n, nf, close⟩ := Sep.opens (T1 := [(w, .ob kd cs), (y, c)]) s1
  obtain ⟨o', r, f, fr, q1, q2, ⟨a, vs, gg, g1, g2, g3, g4⟩, o2, r2, f2, fr2, q3, q4, g5, g6, g7⟩ := q
  obtain ⟨rfl, rfl⟩ := List.cons.inj q1
  obtain ⟨rfl, rfl⟩ := List.cons.inj q3
  cases g1
  have l := g4.len
  rw [List.length_map] at l
  subst q4 q2 g7
  have e : ([f, f2] : List (List Addr)).flatten = a :: (gg.flatten ++ f2) := by simp [g2]
  rw [e] at n close
  rw [List.nodup_cons] at n
  refine ⟨a, vs, hw, g3, l.1, fun o us ds k1 k2 => ?_⟩
  obtain ⟨g8, m1, m2, m3⟩ := k1 gg f2 g4 g5 n.2
  have na : ∀ b ∈ g8.flatten, b ≠ a := fun b hb z => n.1 (by rw [← z]; exact m3 b hb)
  have s2 : Sep K F R (upd H a o) σ (ε.set i .no) ((.ref a, .ob kd' ds) :: T) := by
    refine close _ _ _ (a :: g8.flatten) ⟨a, us, g8, rfl, rfl, k2, RpCs.frame (Same.refl F) (fun b hb => upd_ne (na b hb)) m1⟩ (List.nodup_cons.mpr ⟨fun z => na a z rfl, m2⟩) (fun b hb => ?_) (fun b u hb e => ?_)
    · left
      rcases List.mem_cons.mp hb with rfl | hb
      · exact List.mem_cons_self
      · exact List.mem_cons_of_mem _ (m3 b hb)
    · rw [upd_ne]
      · exact e
      · rintro rfl
        exact hb List.mem_cons_self
  have s3 := s2.put hw
  rw [List.set_set] at s3
  exact s3
theorem part_set {vs : List V} {gg : List (List Addr)} {f : List Addr} {k : Nat} (g : RpCs K F H (vs.map some) cs gg) (r : RpC K F H (some y) c f) (n : (gg.flatten ++ f).Nodup) : ∃ g2, RpCs K F H ((vs.set k y).map some) (cs.set k c) g2 ∧ g2.flatten.Nodup ∧ ∀ b ∈ g2.flatten, b ∈ gg.flatten ++ f := by
  rw [List.nodup_append] at n
  refine ⟨gg.set k f, by rw [List.map_set]; exact RpCs.set r k g, nodup_set n.2.1 n.1 fun j x hj hx b hb hb2 => n.2.2 b (flat_get hx hb2) b hb rfl, fun b hb => ?_⟩
  rcases flat_set hb with hb | ⟨j, x, _, hx, hb⟩
  · exact List.mem_append_right _ hb
  · exact List.mem_append_left _ (flat_get hx hb)
theorem part_add {vs : List V} {gg : List (List Addr)} {f : List Addr} (g : RpCs K F H (vs.map some) cs gg) (r : RpC K F H (some y) c f) (n : (gg.flatten ++ f).Nodup) : ∃ g2, RpCs K F H ((vs ++ [y]).map some) (cs ++ [c]) g2 ∧ g2.flatten.Nodup ∧ ∀ b ∈ g2.flatten, b ∈ gg.flatten ++ f := by
  have e : (gg ++ [f]).flatten = gg.flatten ++ f := by simp
  refine ⟨gg ++ [f], by rw [List.map_append]; exact g.append ⟨_, _, _, _, rfl, rfl, r, rfl, rfl⟩, by rw [e]; exact n, fun b hb => by rw [e] at hb; exact hb⟩
end
/-- x.f = e -/
def mFSet (i k : Nat) (x f : Str) (m : EM) : XM := fun ε => do
  let (c, ε1) ← m ε
  match ε1[i]? with
  | some (.ob (.ins y fs) cs) =>
    if y = x ∧ fs[k]? = some f ∧ k < cs.length ∧ cs.length < 1000 then some (.nx, ε1.set i (.ob (.ins y fs) (cs.set k c)))
    else none
  | _ => none
/-- .. for the first time -/
def mFNew (i : Nat) (x f : Str) (m : EM) : XM := fun ε => do
  let (c, ε1) ← m ε
  match ε1[i]? with
  | some (.ob (.ins y fs) cs) =>
    if y = x ∧ f ∉ fs ∧ cs.length < 1000 then some (.nx, ε1.set i (.ob (.ins y (fs ++ [f])) (cs ++ [c])))
    else none
  | _ => none
/-- x[ix] = e, x a list of own things -/
def mNSet (i : Nat) (m : EM) (ix : OM) : XM := fun ε => do
  let (c, ε1) ← m ε
  match ε1[i]? with
  | some (.ob .ls _) => do
    let (p, ε2) ← ix ε1
    let k ← bor ε2 p
    match k, ε2[i]? with
      | .int k, some (.ob .ls cs) => do
        let j ← ixN cs.length k
        some (.nx, ε2.set i (.ob .ls (cs.set j c)))
      | _, _ => none
  | _ => none
/-- p.append(e) -/
def mPApp (m : PlM) (e : EM) : XM := fun ε => do
  let ((i, k), ε1) ← m ε
  match ε1[i]? with
  | some (.ob kd cs) => match cs[k]? with
    | some (.ls ds) => do
      let (c, ε2) ← e (ε1.set i .no)
      let d ← cD c
      if ds.length < sizeLine then some (.nx, ε2.set i (.ob kd (cs.set k (.ls (ds ++ [d]))))) else none
    | _ => none
  | _ => none
/-- p[ix] = e -/
def mPSetIx (m : PlM) (e : EM) (ix : OM) : XM := fun ε => do
  let (c, ε0) ← e ε
  let d ← cD c
  let ((i, k), ε1) ← m ε0
  match ε1[i]? with
  | some (.ob kd cs) => match cs[k]? with
    | some (.ls ds) => do
      let (o, ε2) ← ix (ε1.set i .no)
      let z ← bor ε2 o
      match z with
        | .int z => do
          let j ← ixN ds.length z
          some (.nx, ε2.set i (.ob kd (cs.set k (.ls (ds.set j d)))))
        | _ => none
    | _ => none
  | _ => none
/-- p.pop() -/
def mPPop (m : PlM) : EM := fun ε => do
  let ((i, k), ε1) ← m ε
  match ε1[i]? with
  | some (.ob kd cs) => match cs[k]? with
    | some (.ls ds) => do
      let d ← ds.getLast?
      some (.sh d, ε1.set i (.ob kd (cs.set k (.ls ds.dropLast))))
    | _ => none
  | _ => none
end L2.M
namespace L2.M
open PySem PySem.Spec PyProof.Rows
def cellO (ε : Cs) : Opd → Option C
  | .pl i => ε[i]?
  | .tm c => some c
/-- an object of the class x that has no attribute m of its own -/
def isIns (x m : Str) : Option C → Bool
  | some (.ob (.ins y fs) _) => decide (y = x ∧ m ∉ fs)
  | _ => false
def mMeth (x m : Str) (io : List Bool) (g : GM) (mo : OM) (ma : AM) : EM := fun ε => do
  let (o, ε1) ← mo ε
  if isIns x m (cellO ε1 o) = true then do
    let (os, ε2) ← ma ε1
    let (os2, ε3) ← frz io (o :: os) ε2
    let (cs, ε4) ← lend os2 ε3
    let (c, cs') ← g cs
    some (c, wb os2 cs' ε4)
  else none
def mNew (x : Str) (io : List Bool) (g : GM) (ma : AM) : EM := fun ε => do
  let (os, ε1) ← ma ε
  let (os2, ε2) ← frz io os ε1
  let (cs, ε3) ← lend os2 ε2
  match g (.ob (.ins x []) [] :: cs) with
  | some (.sh .none, c :: cs') => some (c, wb os2 cs' ε3)
  | _ => none
section
variable {fa : List He.Fa} {fn : List He.DefD} {K : PySem.W.Frag} {mg : Str → Option Value} {P : Program} {w : World} {base : Heap}
theorem Wo.cls (W : Wo fa fn K mg) (i : Nat) {x : Str} (h : fa[i]? = some (.cls x) := by rfl) : Cls K (He.ga K x) := let ⟨_, _, _, c⟩ := W; He.cls_ok (c.fact i h)
theorem Wo.glo (W : Wo fa fn K mg) (i : Nat) {x : Str} (h : fa[i]? = some (.glo x) := by rfl) : mg x = some (.ref (He.ga K x)) := let ⟨_, X, G, c⟩ := W; He.glo_ok X G (c.fact i h)
end
end L2.M
namespace L2.M
open PySem PySem.Spec PyProof.Rows
def mAddN (a : OM) (b : EM) : EM := fun ε => do
  let (o, ε1) ← a ε
  let (c, ε2) ← b ε1
  let d ← bor ε2 o
  match d, c with
    | .list ds, .ob .ls cs => if ds.length + cs.length ≤ sizeLine then some (.ob .ls (ds.map .sh ++ cs), ε2) else none
    | _, _ => none
end L2.M
namespace L2.M
open PySem PySem.Spec PyProof.Rows
end L2.M
namespace L2.M
end L2.M
namespace L2.M
open PySem PySem.Spec PyProof.Rows
section
variable {X : Cx}
def mRaise (x : Str) : XM := fun ε => some (.xc ⟨x, []⟩, ε)
end
abbrev GX := List C → Option ((C ⊕ Xn) × List C)
abbrev EXM := Cs → Option ((C ⊕ Xn) × Cs)
def semX (io : List Bool) (ns : Nat) (m : XM) : GX := fun cs =>
  if shared io cs then
    match m (cs ++ List.replicate (ns - cs.length) .no) with
    | some (.rt c, ε') => some (.inl c, after io cs ε')
    | some (.nx, ε') => some (.inl (.sh .none), after io cs ε')
    | some (.xc x, ε') => some (.inr x, after io cs ε')
    | _ => none
  else none
/-- what comes of an expression that may raise -/
def FinX (K : Ek) (R : Hp) (σ : St) (Q : VK) (E : XK) (F' H' : Hp) (ε' : Cs) : C ⊕ Xn → Prop
  | .inl c => ∀ v, Sep K F' R H' σ ε' [(v, c)] → Q v H'
  | .inr x => ∀ cls d, Sep K F' R H' σ ε' [] → RepX K F' cls d x → E cls d H'
def spX (K : Ek) (np : Nat) (g : GX) : Sp := fun vs H Q E => vs.length = np ∧ ∃ F R cs r cs', Sep K F R H (vs.map some) cs [] ∧ g cs = some (r, cs') ∧ ∀ F' H', Same F F' → FinX K R (vs.map some) Q E F' H' cs' r
/-- a call of a def that raises -/
def mCallX (io : List Bool) (g : GX) (ma : AM) : EXM := fun ε => do
  let (os, ε1) ← ma ε
  let (os2, ε2) ← frz io os ε1
  let (cs, ε3) ← lend os2 ε2
  let (r, cs') ← g cs
  some (r, wb os2 cs' ε3)
section
variable {X : Cx} {W : Xw} {io : List Nat} {pos : Pos} {e : Expr} {m : EXM}
def xRet (m : EXM) : XM := fun ε => do
  let (r, ε1) ← m ε
  match r with
  | .inl c => some (.rt c, ε1)
  | .inr x => some (.xc x, ε1)
def xExpr (m : EXM) : XM := fun ε => do
  let (r, ε1) ← m ε
  match r with
  | .inl _ => some (.nx, ε1)
  | .inr x => some (.xc x, ε1)
def xSet (io : List Nat) (i : Nat) (m : EXM) : XM := fun ε => do
  let (r, ε1) ← m ε
  match r with
  | .inl c => if i < ε1.length ∧ i ∉ io then some (.nx, ε1.set i c) else none
  | .inr x => some (.xc x, ε1)
end
/-- a def that may raise, by its name -/
structure KnX (P : Program) (w : World) (K : PySem.W.Frag) (mg : Str → Option Value) (base : Heap) (k : Nat) (x : Str) (ps : List Str) (sp : Sp) : Prop where
  ex : ∃ (f : Addr) (fd : FuncData), mg x = some (.ref f) ∧ PySem.W.keepIn K (.ref f) = true ∧ Binds K fd ps [] ∧ FnG P w K mg base (L2N.CX P w) k f fd ps sp
end L2.M
namespace L2.M
open PySem PySem.Spec PyProof.Rows
def mTold (io : List Nat) (i : Nat) (ref : Xn → Option D) (m : EXM) : XM := fun ε => do
  let (r, ε1) ← m ε
  match r with
  | .inl c => some (.rt c, ε1)
  | .inr x => match ε1[i]? with
    | some .no => if i ∉ io then (ref x).map fun d => (.rt (.sh d), ε1) else none
    | _ => none
end L2.M
namespace L2.M
open PySem PySem.Spec PyProof.Rows
abbrev Ck := PySem.W.Frag → Bool
/-- isinstance of an x, asked of the class y of the module -/
def kitB (x y : Str) (b : Bool) : Ck := fun K => decide (PySem.W.kitOne K (.ref (He.ga K x)) (.ref (He.ga K y)) = some b)
end L2.M
namespace L2.M
open PySem PySem.Spec PyProof.Rows PySem.Calls
open PySem.W (findIn specialIn subIn hasDictIn takesIn mroIn clsIn findObj looks_findIn looks_find looks_subIn any_some class_get KitX kitOne kitAny kia_one kia_tup)
end L2.M
namespace L2.M
open PySem PySem.Spec PyProof.Rows
def XdAt (H : Hp) (d : Option Addr) : Prop := d = none ∨ ∃ dd fs, d = some dd ∧ H dd = some (.xd fs)
theorem RepX.at_ {K : Ek} {F H : Hp} {cls : Value} {d : Option Addr} {x : Xn} (s : Same F H) (h : RepX K F cls d x) : XdAt H d := by
  obtain ⟨_, ⟨_, h2⟩ | ⟨dx, fs, h2, h3, _⟩⟩ := h
  · exact .inl h2
  · exact .inr ⟨dx, fs, h2, s _ _ h3⟩
end L2.M
namespace L2.M
open PySem PySem.Spec PyProof.Rows
end L2.M
namespace L2.M
open PySem PySem.Spec PyProof.Rows
end L2.M
namespace L2.M
open PySem PySem.Spec PyProof.Rows
end L2.M
namespace L2.M
open PySem PySem.Spec PyProof.Rows
end L2.M
namespace L2.M
open PySem PySem.Spec PyProof.Rows
end L2.M
namespace L2.M
open PySem PySem.Spec PyProof.Rows
end L2.M
namespace L2.M
open PySem PySem.Spec PyProof.Rows
section
variable {X : Cx} {e : Expr} {es : List Expr} {ta : TA} {p pos : Pos}
/-- plain values: the fields of the exceptions here -/
def scal : D → Bool
  | .none => true
  | .bool _ => true
  | .int _ => true
  | .str _ => true
  | _ => false
def mRaiseX (x : Str) (ns : List Str) (ma : AM) : XM := fun ε => do
  let (os, ε1) ← ma ε
  let ds ← bors ε1 os
  if ds.length = ns.length ∧ ds.length ≤ 1000 ∧ ns ≠ [] ∧ ds.all scal = true then some (.xc ⟨x, (ns.zip ds).reverse⟩, ε1) else none
end
end L2.M
namespace L2.M
open PySem PySem.Spec PyProof.Rows
end L2.M
namespace L2.M
open PySem PySem.Spec PyProof.Rows
end L2.M
namespace L2.M
open PySem PySem.Spec PyProof.Rows
def truD : D → Option Bool
  | .none => some false
  | .bool b => some b
  | .tuple ds => some (!ds.isEmpty)
  | .list ds => some (!ds.isEmpty)
  | _ => none
def mOrV (m n : EM) : EM := fun ε => match m ε with
  | some (.sh d, ε1) => (match truD d with
    | some true => some (.sh d, ε1)
    | some false => n ε1
    | none => none)
  | _ => none
end L2.M
namespace L2.M
open PySem PySem.Spec PyProof.Rows
end L2.M
namespace L2.M
open PySem PySem.Spec PyProof.Rows
end L2.M
namespace L2.M
open PySem PySem.Spec PyProof.Rows
end L2.M
namespace L2.M
open PySem PySem.Spec PyProof.Rows
end L2.M
namespace L2.M
open PySem PySem.Spec PyProof.Rows
end L2.M
namespace L2.M
open PySem PySem.Spec PyProof.Rows
end L2.M
namespace L2.M
open PySem PySem.Spec PyProof.Rows
def kyD : D → Option Key
  | .int i => some (.inl i)
  | .str x => some (.inr x)
  | _ => none
def dLk (kds : List (D × D)) (k : D) : Option D := (kds.find? fun p => PyData.eqv p.1 k).map (·.2)
def dPt (kds : List (D × D)) (k d : D) : List (D × D) := if (kds.any fun p => PyData.eqv p.1 k) = true then kds.map (fun p => if PyData.eqv p.1 k = true then (p.1, d) else p) else kds ++ [(k, d)]
theorem eqv_key (a b : Key) : PyData.eqv (keyD a) (keyD b) = decide (a = b) := by
  cases a <;> cases b <;> simp [keyD, PyData.eqv, Bool.beq_eq_decide_eq]
theorem ky_rep {K : PySem.W.Frag} {F : Hp} {v : V} {d : D} {key : Key} (h : kyD d = some key) (r : Rep K F v d) : v = kV key ∧ d = keyD key := by
  cases d <;> simp [kyD] at h
  · subst h; exact ⟨by simpa [Rep, kV] using r, rfl⟩
  · subst h; exact ⟨by simpa [Rep, kV] using r, rfl⟩
theorem ky_repB {K : PySem.W.Frag} {F H : Hp} {v : V} {d : D} {key : Key} (h : kyD d = some key) (r : RepB K F H v d) : v = kV key ∧ d = keyD key := by
  rcases r with r | ⟨a, ws, ds, _, rfl, _⟩
  · exact ky_rep h r
  · cases h
section
variable {K : PySem.W.Frag} {F : Hp}
theorem lk_rep : ∀ {kds : List (D × D)} {kvs : List (Key × V)}, RepKs K F kvs kds → ∀ key, (∃ v d, valV kvs key = some v ∧ dLk kds (keyD key) = some d ∧ Rep K F v d) ∨ (valV kvs key = none ∧ dLk kds (keyD key) = none)
  | [], kvs, h, key => by
    cases (show kvs = [] from h)
    exact .inr ⟨rfl, rfl⟩
  | (k, d) :: kds, kvs, ⟨key', v, r, h1, h0, h2, h3⟩, key => by
    subst h1 h0
    have e := eqv_key key' key
    by_cases c : key' = key
    · left
      refine ⟨v, d, valV_pos c, ?_, h2⟩
      unfold dLk
      rw [List.find?_cons, e, decide_eq_true c]
      rfl
    · have e1 : valV ((key', v) :: r) key = valV r key := valV_neg c
      have e2 : dLk ((keyD key', d) :: kds) (keyD key) = dLk kds (keyD key) := by
        unfold dLk
        rw [List.find?_cons, e, decide_eq_false c]
      rw [e1, e2]
      exact lk_rep h3 key
theorem any_rep : ∀ {kds : List (D × D)} {kvs : List (Key × V)}, RepKs K F kvs kds → ∀ key, (kvs.any fun kv => decide (kv.1 = key)) = (kds.any fun p => PyData.eqv p.1 (keyD key))
  | [], kvs, h, key => by
    cases (show kvs = [] from h)
    rfl
  | (k, d) :: kds, kvs, ⟨key', v, r, h1, h0, h2, h3⟩, key => by
    subst h1 h0
    simp only [List.any_cons, eqv_key, any_rep h3 key]
theorem map_rep {key : Key} {y : V} {d : D} (g : Rep K F y d) : ∀ {kds : List (D × D)} {kvs : List (Key × V)}, RepKs K F kvs kds → RepKs K F (kvs.map fun kv => if kv.1 = key then (kv.1, y) else kv) (kds.map fun p => if PyData.eqv p.1 (keyD key) = true then (p.1, d) else p)
  | [], kvs, h => by
    cases (show kvs = [] from h)
    exact rfl
  | (k, d0) :: kds, kvs, ⟨key', v, r, h1, h0, h2, h3⟩ => by
    subst h1 h0
    have ih := map_rep (key := key) g h3
    simp only [List.map_cons, eqv_key]
    by_cases c : key' = key
    · simp only [c, decide_true, if_true]
      exact ⟨key, y, _, rfl, rfl, g, ih⟩
    · simp only [c, decide_false, if_false, Bool.false_eq_true]
      exact ⟨key', v, _, rfl, rfl, h2, ih⟩
theorem app_rep {key : Key} {y : V} {d : D} (g : Rep K F y d) : ∀ {kds : List (D × D)} {kvs : List (Key × V)}, RepKs K F kvs kds → RepKs K F (kvs ++ [(key, y)]) (kds ++ [(keyD key, d)])
  | [], kvs, h => by
    cases (show kvs = [] from h)
    exact ⟨key, y, [], rfl, rfl, g, rfl⟩
  | (k, d0) :: kds, kvs, ⟨key', v, r, h1, h0, h2, h3⟩ => by
    subst h1 h0
    exact ⟨key', v, _, rfl, rfl, h2, app_rep g h3⟩
theorem pt_rep {kds : List (D × D)} {kvs : List (Key × V)} {key : Key} {y : V} {d : D} (h : RepKs K F kvs kds) (g : Rep K F y d) : RepKs K F (putK kvs key y) (dPt kds (keyD key) d) := by
  unfold putK dPt
  rw [any_rep h key]
  split
  · exact map_rep g h
  · exact app_rep g h
theorem ks_len : ∀ {kds : List (D × D)} {kvs : List (Key × V)}, RepKs K F kvs kds → kvs.length = kds.length
  | [], kvs, h => by
    cases (show kvs = [] from h)
    rfl
  | (k, d0) :: kds, kvs, ⟨key', v, r, h1, h0, h2, h3⟩ => by
    subst h1
    rw [List.length_cons, List.length_cons, ks_len h3]
end
section
variable {K : Ek} {F R H : Hp} {σ : St} {ε : Cs} {T : Tms} {i : Nat} {v : V}
theorem Sep.dic {kds : List (D × D)} (s : Sep K F R H σ ε T) (h : ε[i]? = some (.dc 0 kds)) : ∃ a kvs, σ[i]? = some (some (.ref a)) ∧ H a = some (.dK kvs) ∧ RepKs K.1 F kvs kds := by
  obtain ⟨o, f, e1, a, rfl, _, kvs, h1, h2⟩ := s.cell h
  exact ⟨a, kvs, e1, h1, h2⟩
theorem Sep.newD (s : Sep K F R H σ ε T) {p : Addr} (hp : H p = none) : Sep K F R (upd H p (.dK [])) σ ε ((.ref p, .dc 0 []) :: T) :=
  Sep.change (T1 := []) s fun gs h n _ => ⟨[p], ⟨p, rfl, rfl, [], upd_same, rfl⟩, by simp, fun b hb => .inr (by rw [List.mem_singleton.mp hb]; exact hp), fun b u _ e => by rw [upd_ne (ne_of_none e hp)]; exact e⟩
theorem Sep.wrD {a : Addr} {kds eds : List (D × D)} {kvs : List (Key × V)} (s : Sep K F R H σ ε ((.ref a, .dc 0 kds) :: T)) (r : RepKs K.1 F kvs eds) : Sep K F R (upd H a (.dK kvs)) σ ε ((.ref a, .dc 0 eds) :: T) :=
  Sep.change (T1 := [(.ref a, .dc 0 kds)]) s fun gs h n _ => by
    obtain ⟨o, r0, f, fr, e1, e2, ⟨b, e3, e4, e5⟩, h4⟩ := h
    obtain ⟨rfl, rfl⟩ := List.cons.inj e1
    cases e3
    have ha : a ∈ gs.flatten := by rw [e2, e4]; simp
    exact ⟨[a], ⟨a, rfl, rfl, kvs, upd_same, r⟩, by simp, fun b hb => .inl (by rw [List.mem_singleton.mp hb]; exact ha), fun b u hb e => by rw [upd_ne (by rintro rfl; exact hb ha)]; exact e⟩
theorem Sep.atD {kds : List (D × D)} (s : Sep K F R H σ ε T) (h : ε[i]? = some (.dc 0 kds)) : ∃ a kvs, σ[i]? = some (some (.ref a)) ∧ H a = some (.dK kvs) ∧ RepKs K.1 F kvs kds ∧ ∀ ws eds, RepKs K.1 F ws eds → Sep K F R (upd H a (.dK ws)) σ (ε.set i (.dc 0 eds)) T := by
  obtain ⟨a, kvs, h1, h2, h3⟩ := s.dic h
  refine ⟨a, kvs, h1, h2, h3, fun ws eds r => ?_⟩
  have := ((s.take h h1).wrD r).put h1
  rw [List.set_set] at this
  exact this
end
def mDNew : EM := fun ε => some (.dc 0 [], ε)
def mDIn (n : Bool) (i : Nat) (m : OM) : EM := fun ε => do
  let (o, ε1) ← m ε
  let k ← bor ε1 o
  let _ ← kyD k
  match ε1[i]? with
  | some (.dc 0 kds) => some (.sh (.bool (if n then !(dLk kds k).isSome else (dLk kds k).isSome)), ε1)
  | _ => none
def mDGet (i : Nat) (m : OM) : EM := fun ε => match ε[i]? with
  | some (.dc _ _) => do
    let (o, ε1) ← m ε
    let k ← bor ε1 o
    let _ ← kyD k
    match ε1[i]? with
      | some (.dc 0 kds) => do
        let d ← dLk kds k
        some (.sh d, ε1)
      | _ => none
  | _ => none
def mDLen (i : Nat) : EM := fun ε => match ε[i]? with
  | some (.dc 0 kds) => some (.sh (.int kds.length), ε)
  | _ => none
def mDPut (i : Nat) (m : EM) (ix : OM) : XM := fun ε => do
  let (c, ε1) ← m ε
  let d ← cD c
  match ε1[i]? with
  | some (.dc 0 _) => do
    let (p, ε2) ← ix ε1
    let k ← bor ε2 p
    let _ ← kyD k
    match ε2[i]? with
      | some (.dc 0 kds) => if kds.length < sizeLine then some (.nx, ε2.set i (.dc 0 (dPt kds k d))) else none
      | _ => none
  | _ => none
section
variable {X : Cx} {W : Xw} {io : List Nat} {e kx : Expr} {y : Str} {p p2 pos : Pos} {m : OM} {i k : Nat}
theorem x_dnew : PE X (.Dict [] [] pos) (tE X.E mDNew) := pe_dnewK.weak fun σ H Q h => by
  obtain ⟨F, R, ε, c, ε', s, e, q⟩ := h
  cases e
  intro p hp
  exact q _ _ _ (Same.refl F) (s.newD hp)
/-- the operand's key, the dict -/
theorem dkey {K : Ek} {σ : St} {H : Hp} {m : OM} {i : Nat} {ε ε1 : Cs} {o : Opd} {F R : Hp} {kd : D} {key : Key} {kds : List (D × D)} {Q : V → Hp → Prop} (s : Sep K F R H σ ε []) (e1 : m ε = some (o, ε1)) (e2 : bor ε1 o = some kd) (e3 : kyD kd = some key) (hx : ε1[i]? = some (.dc 0 kds))
    (h : ∀ F1 H1 a kvs, Same F F1 → Sep K F1 R H1 σ ε1 [] → σ[i]? = some (some (.ref a)) → H1 a = some (.dK kvs) → RepKs K.1 F1 kvs kds → kd = keyD key → Q (kV key) H1) : tO K m σ H Q := by
  refine ⟨F, R, ε, o, ε1, s, e1, fun v F1 H1 fm v1 s1 => ?_⟩
  rw [← List.append_nil (tmO [o] [v])] at s1
  have rb := (bors_ok s1 v1 (by simp [bors, e2] : bors ε1 [o] = some [kd])).inj1
  obtain ⟨rfl, ek⟩ := ky_repB e3 rb
  have s2 := s1.drops _
  obtain ⟨a, kvs, h1, h2, h3⟩ := s2.dic hx
  exact h F1 H1 a kvs fm s2 h1 h2 h3 ek
theorem din_core {K : Ek} {σ : St} {H : Hp} {Q : VK} {n : Bool} (h : tE K (mDIn n i m) σ H Q) : tO K m σ H fun y H1 => tVar i σ H1 fun x H2 => ∃ a o, x = .ref a ∧ DGet H2 a y o ∧ Q (.bl (if n then !o.isSome else o.isSome)) H2 := by
  obtain ⟨F, R, ε, c, ε', s, e, q⟩ := h
  unfold mDIn at e
  cases e1 : m ε with
  | none => simp [e1] at e
  | some p =>
    obtain ⟨o, ε1⟩ := p
    cases e2 : bor ε1 o with
    | none => simp [e1, e2] at e
    | some kd =>
      cases e3 : kyD kd with
      | none => simp [e1, e2, e3] at e
      | some key =>
        simp only [e1, e2, e3, Option.bind_eq_bind, Option.bind_some] at e
        split at e
        · rename_i kds hx
          cases e
          refine dkey s e1 e2 e3 hx fun F1 H1 a kvs fm s2 h1 h2 h3 ek => ⟨_, h1, a, valV kvs key, rfl, DGet.k h2, ?_⟩
          have hh : (valV kvs key).isSome = (dLk kds kd).isSome := by
            rw [ek]
            rcases lk_rep h3 key with ⟨v, d, a1, a2, _⟩ | ⟨a1, a2⟩ <;> rw [a1, a2] <;> rfl
          rw [hh]
          exact q _ F1 H1 fm (s2.addSh rfl)
        · cases e
theorem y_din (hr : Room k X.A) (hv : PE X (.Name y p) (tVar i)) (he : PE X e (tO X.E m)) (hm : behindInMarks .In (.Name y p) = false := by rfl) : PT X (.Compare e [.In] [.Name y p] pos) (tT X.E (mTst (mDIn false i m))) :=
  (pt_cmp (pc_din (by have := hr.un; omega) he hv) hm).weak fun σ H Q h => din_core (tE_tst h)
theorem x_dget (hr : Room k X.A) (hv : PE X (.Name y p) (tVar i)) (he : PE X kx (tO X.E m)) (hs : NoSl kx := by exact fun _ _ => rfl) : PE X (.Subscript (.Name y p) kx pos) (tE X.E (mDGet i m)) :=
  (pe_dget (by have := hr.un; omega) hv he hs).weak fun σ H Q h => by
    obtain ⟨F, R, ε, c, ε', s, e, q⟩ := h
    unfold mDGet at e
    split at e
    · rename_i n0 kds0 hx0
      cases e1 : m ε with
      | none => simp [e1] at e
      | some p =>
        obtain ⟨o, ε1⟩ := p
        cases e2 : bor ε1 o with
        | none => simp [e1, e2] at e
        | some kd =>
          cases e3 : kyD kd with
          | none => simp [e1, e2, e3] at e
          | some key =>
            simp only [e1, e2, e3, Option.bind_eq_bind, Option.bind_some] at e
            split at e
            · rename_i kds hx
              cases e4 : dLk kds kd with
              | none => simp [e4] at e
              | some d =>
                simp only [e4, Option.bind_some] at e
                cases e
                obtain ⟨w, hw⟩ := s.val hx0 fun z => nomatch z
                refine ⟨w, hw, dkey s e1 e2 e3 hx fun F1 H1 a kvs fm s2 h1 h2 h3 ek => ?_⟩
                rw [hw] at h1
                cases h1
                rcases lk_rep h3 key with ⟨v, d', a1, a2, a3⟩ | ⟨a1, a2⟩
                · rw [ek, a2] at e4
                  cases e4
                  exact ⟨a, v, rfl, by rw [← a1]; exact DGet.k h2, q _ F1 H1 fm (s2.addSh a3)⟩
                · rw [ek, a2] at e4
                  cases e4
            · cases e
    · cases e
theorem z_dput (hr : Room k X.A) (i : Nat) {m : EM} {ix : OM} (hv : PE X (.Name y p) (tVar i)) (he : PE X e (tE X.E m)) (hk : PE X kx (tO X.E ix)) (hs : swapsWith e (some (.Subscript (.Name y p) kx p2)) pos.line X.env = pure false := by rfl) :
    PS X (.Assign [.Subscript (.Name y p) kx p2] e pos) (tS X.E W io (mDPut i m ix)) :=
  (ps_dput (by have := hr.un; omega) hv hk he hs).weak fun De σ H h => by
    obtain ⟨F, R, ε, f, ε', s, e, q⟩ := h
    unfold mDPut at e
    cases e1 : m ε with
    | none => simp [e1] at e
    | some p =>
      obtain ⟨c, ε1⟩ := p
      cases ec : cD c with
      | none => simp [e1, ec] at e
      | some d =>
        simp only [e1, ec, Option.bind_eq_bind, Option.bind_some] at e
        split at e
        · rename_i kds0 hx0
          cases e2 : ix ε1 with
          | none => simp [e2] at e
          | some p2 =>
            obtain ⟨o, ε2⟩ := p2
            cases e3 : bor ε2 o with
            | none => simp [e2, e3] at e
            | some kd =>
              cases e4 : kyD kd with
              | none => simp [e2, e3, e4] at e
              | some key =>
                simp only [e2, e3, e4, Option.bind_some] at e
                split at e
                · rename_i kds hx
                  split at e
                  · rename_i hl
                    cases e
                    refine ⟨F, R, ε, c, ε1, s, e1, fun v F1 H1 fm1 p1 => ?_⟩
                    obtain ⟨F2, fm2, r2, s2⟩ := p1.freeze ec
                    obtain ⟨w, hw⟩ := s2.val hx0 fun z => nomatch z
                    refine ⟨w, hw, F2, R, ε1, o, ε2, s2, e2, fun kv F3 H3 fm3 v3 s3 => ?_⟩
                    rw [← List.append_nil (tmO [o] [kv])] at s3
                    have rb := (bors_ok s3 v3 (by simp [bors, e3] : bors ε2 [o] = some [kd])).inj1
                    obtain ⟨rfl, ek⟩ := ky_repB e4 rb
                    obtain ⟨a, kvs, g1, g2, g4, wr⟩ := (s3.drops _).atD hx
                    rw [hw] at g1
                    cases g1
                    refine ⟨a, _, rfl, DPut.k g2 (by rw [ks_len g4]; exact hl), ?_⟩
                    have := wr _ _ (pt_rep (key := key) g4 (Rep.mono fm3 _ _ r2))
                    rw [← ek] at this
                    exact q F3 _ σ ((fm1.trans fm2).trans fm3) (StS.refl σ) this
                  · cases e
                · cases e
        · cases e
end
end L2.M
namespace L2.M
open PySem PySem.Spec PyProof.Rows
section
variable {P : Program} {w : World} {K : PySem.W.Frag} {F H : Hp} {h : Heap}
mutual
theorem nk_is (fs : Same F H) (ok : HOk P w H h) : ∀ (d : D) (v : V) (k : NestedKey) (u : Value), nKey d = some k → Rep K F v d → RelV v u → NestedIs h k u
  | .none, v, k, u, e, r, q => by
    cases e
    cases (show v = .non from r)
    cases (show u = Value.none from q)
    exact .none
  | .bool b, v, k, u, e, r, q => by
    cases e
    cases (show v = .bl b from r)
    cases (show u = Value.bool b from q)
    exact .bool rfl
  | .int i, v, k, u, e, r, q => by
    cases e
    cases (show v = .int i from r)
    obtain ⟨t, rfl⟩ := (show ∃ t, u = Value.int i t from q)
    exact .int _ _
  | .str x, v, k, u, e, r, q => by
    cases e
    cases (show v = .str x from r)
    obtain ⟨t, rfl⟩ := (show ∃ t, u = Value.str x t from q)
    exact .text _ _
  | .list ds, v, k, u, e, r, q => by cases e
  | .dict ds, v, k, u, e, r, q => by cases e
  | .tuple ds, v, k, u, e, r, q => by
    obtain ⟨a, vs, rfl, ⟨o, hn, hF⟩, r2⟩ := r
    cases (show u = Value.ref a from q)
    unfold nKey at e
    obtain ⟨ks, e2, rfl⟩ := Option.map_eq_some_iff.mp e
    obtain ⟨hg, _, its, rel, o', h1, h2, n, h3⟩ := ok a _ (fs _ _ hF)
    exact .tup h1 h2 h3 (by simpa using nks_are fs ok ds vs ks its e2 r2 rel)
theorem nks_are (fs : Same F H) (ok : HOk P w H h) : ∀ (ds : List D) (vs : List V) (ks : List NestedKey) (us : List Value), nKeys ds = some ks → Reps K F vs ds → Vals vs us → NestedAll h ks us
  | [], vs, ks, us, e, r, q => by
    cases e
    cases (show vs = [] from r)
    cases q
    exact .nil
  | d :: ds, vs, ks, us, e, r, q => by
    obtain ⟨v, vr, rfl, r1, r2⟩ := r
    cases q with
    | cons q1 q2 =>
      unfold nKeys at e
      split at e
      · rename_i k kr e1 e2
        cases e
        exact .cons (nk_is fs ok d v k _ e1 r1 q1) (nks_are fs ok ds vr kr _ e2 r2 q2)
      · cases e
end
end
theorem nk_ref {K : PySem.W.Frag} {F : Hp} {v : V} {ds : List D} (r : Rep K F v (.tuple ds)) : ∃ b, v = .ref b := by
  obtain ⟨a, vs, rfl, _⟩ := r
  exact ⟨a, rfl⟩
def NVal (w : World) : NEnt × Value → NestedKey × Addr × Value := fun x => (x.1.1, x.1.2, x.2)
abbrev NX := List (NEnt × V)
abbrev nkR (p : NEnt × V) (q : NEnt × Value) : Prop := p.1 = q.1 ∧ RelV p.2 q.2
/-- the keys stand as told -/
def NkIs (h : Heap) (bs : List NEnt) : Prop := ∀ b ∈ bs, NestedIs h b.1 (.ref b.2) ∧ b.1.depth ≤ 8
section
variable {P : Program} {w : World} {H : Hp} {h : Heap} {a : Addr} {xs : NX}
theorem nk_of (ok : HOk P w H h) (e : H a = some (nkO w a xs) ∨ ∃ od, H a = some (.frz od (nkO w a xs))) : xs.length ≤ sizeLine ∧ (a == sysModules) = false ∧ ∃ vs : List (NEnt × Value), Paired nkR xs vs ∧ ∃ o es ep, h.get? a = some o ∧ o.ExactDict ∧ o.data = .dict es ep ∧ es.toList = vs.map (nkE w) ∧ (xs.map (·.1.1)).Nodup := by
  rcases e with e | ⟨od, e⟩
  · exact (show ObjOk P w H h a (nkO w a xs) from ok a _ e).1
  · exact (show ObjOk P w H h a (nkO w a xs) from (ok a _ e).2).1
theorem nkr_keys : ∀ {xs : NX} {vs : List (NEnt × Value)}, Paired nkR xs vs → vs.map (·.1) = xs.map (·.1)
  | _, _, .nil => rfl
  | _, _, .cons q r => by simp only [List.map_cons, nkr_keys r, q.1]
theorem nk_dict {vs : List (NEnt × Value)} (hk : NkIs h (xs.map (·.1))) (pr : Paired nkR xs vs) (r : ∃ o es ep, h.get? a = some o ∧ o.ExactDict ∧ o.data = .dict es ep ∧ es.toList = vs.map (nkE w) ∧ (xs.map (·.1.1)).Nodup) : h.DictOfH (nestedKind P w) a (vs.map (NVal w)) := by
  obtain ⟨o, es, ep, h1, h2, h3, h4, h5⟩ := r
  have ek := nkr_keys pr
  refine ⟨o, es, ep, h1, h2, h3, ?_, fun x hx => ?_, ?_⟩
  · rw [h4, List.map_map]
    rfl
  · obtain ⟨y, hy, rfl⟩ := List.mem_map.mp hx
    exact hk y.1 (by rw [← ek]; exact List.mem_map_of_mem hy)
  · rw [List.map_map]
    have : (xs.map (·.1.1)) = vs.map (fun y => y.1.1) := by
      have := congrArg (List.map (·.1)) ek
      rw [List.map_map, List.map_map] at this
      exact this.symm
    have e2 : ((fun x : NestedKey × Addr × Value => x.1) ∘ NVal w) = fun y : NEnt × Value => y.1.1 := rfl
    rw [e2, ← this]
    exact h5
/-- a new or changed dict is such -/
theorem nk_mk {H' : Hp} {h' : Heap} {vs : List (NEnt × Value)} (hz : xs.length ≤ sizeLine) (hd : (a == sysModules) = false) (pr : Paired nkR xs vs) (dd : h'.DictOfH (nestedKind P w) a (vs.map (NVal w))) : ObjOk P w H' h' a (nkO w a xs) := by
  obtain ⟨o, es, ep, h1, h2, h3, h4, h5, h6⟩ := dd
  have ek := nkr_keys pr
  have h4 : es.toList = vs.map (nkE w) := by
    rw [h4, List.map_map]
    rfl
  have h6 : (xs.map (·.1.1)).Nodup := by
    have : (xs.map (·.1.1)) = vs.map (fun y => y.1.1) := by
      have := congrArg (List.map (·.1)) ek
      rw [List.map_map, List.map_map] at this
      exact this.symm
    rw [this]
    rw [List.map_map] at h6
    exact h6
  refine ⟨⟨hz, hd, vs, pr, o, es, ep, h1, h2, h3, h4, h6⟩, ⟨o, h1⟩, fun g1 g2 p k => ?_⟩
  obtain ⟨p1, p2, ws, p3, o', es', ep', q1, q2, q3, q4, q5⟩ := p
  exact ⟨p1, p2, ws, p3, o', es', ep', k _ q1, q2, q3, q4, q5⟩
end
def lkN (xs : NX) (k : NestedKey) : Option V := (xs.find? fun x => decide (x.1.1 = k)).map (·.2)
def ptN (xs : NX) (b : NEnt) (v : V) : NX := if (lkN xs b.1).isSome then xs.map (fun x => if x.1.1 = b.1 then (x.1, v) else x) else xs ++ [(b, v)]
section
variable {w : World}
theorem lk_val : ∀ {xs : NX} {vs : List (NEnt × Value)} {k : NestedKey}, Paired nkR xs vs → RelO (lkN xs k) ((atKey (vs.map (NVal w)) k).map (·.2))
  | _, _, k, .nil => by simp [lkN, atKey, RelO]
  | x :: xs, y :: vs, k, .cons q r => by
    obtain ⟨q1, q2⟩ := q
    by_cases c : x.1.1 = k
    · have c2 : (NVal w y).1 = k := by show y.1.1 = k; rw [← q1]; exact c
      have e1 : lkN (x :: xs) k = some x.2 := by simp [lkN, c]
      have e2 : (atKey ((y :: vs).map (NVal w)) k).map (·.2) = some y.2 := by
        unfold atKey
        rw [List.map_cons, List.find?_cons_of_pos (by simpa using c2)]
        rfl
      rw [e1, e2]
      exact q2
    · have c2 : ¬ (NVal w y).1 = k := by show ¬ y.1.1 = k; rw [← q1]; exact c
      have e1 : lkN (x :: xs) k = lkN xs k := by simp [lkN, c]
      have e2 : (atKey ((y :: vs).map (NVal w)) k).map (·.2) = (atKey (vs.map (NVal w)) k).map (·.2) := by simp [atKey, c2]
      rw [e1, e2]
      exact lk_val r
theorem lk_some {xs : NX} {vs : List (NEnt × Value)} {k : NestedKey} (r : Paired nkR xs vs) : (atKey (vs.map (NVal w)) k).isSome = (lkN xs k).isSome := by
  have := (lk_val (w := w) (k := k) r).isSome_eq
  rw [Option.isSome_map] at this
  exact this.symm
theorem pt_val {xs : NX} {vs : List (NEnt × Value)} {b : NEnt} {v : V} {u : Value} (r : Paired nkR xs vs) (rv : RelV v u) : ∃ ws, Paired nkR (ptN xs b v) ws ∧ storedH (vs.map (NVal w)) b.1 b.2 u = ws.map (NVal w) := by
  unfold ptN storedH
  rw [lk_some r]
  by_cases c : (lkN xs b.1).isSome = true
  · rw [if_pos c, if_pos c]
    refine ⟨vs.map fun y => if y.1.1 = b.1 then (y.1, u) else y, ?_, ?_⟩
    · clear c
      induction r with
      | nil => exact .nil
      | @cons x y xs vs q r ih =>
        obtain ⟨q1, q2⟩ := q
        simp only [List.map_cons]
        refine .cons ?_ ih
        by_cases c : x.1.1 = b.1
        · rw [if_pos c, if_pos (by rw [← q1]; exact c)]
          exact ⟨q1, rv⟩
        · rw [if_neg c, if_neg (by rw [← q1]; exact c)]
          exact ⟨q1, q2⟩
    · rw [List.map_map, List.map_map]
      refine List.map_congr_left fun y _ => ?_
      show putAt b.1 u (NVal w y) = NVal w (if y.1.1 = b.1 then (y.1, u) else y)
      unfold putAt
      by_cases c3 : y.1.1 = b.1
      · rw [if_pos c3, if_pos (show (NVal w y).1 = b.1 from c3)]
        rfl
      · rw [if_neg c3, if_neg (show ¬ (NVal w y).1 = b.1 from c3)]
  · rw [if_neg c, if_neg c]
    refine ⟨vs ++ [(b, u)], Paired.snoc r ⟨rfl, rv⟩, ?_⟩
    rw [List.map_append]
    rfl
theorem pt_len (xs : NX) (b : NEnt) (v : V) : (ptN xs b v).length ≤ xs.length + 1 := by
  unfold ptN
  split
  · rw [List.length_map]; omega
  · rw [List.length_append]; exact Nat.le_refl _
end
section
variable {X : Cx} {pins : List (Addr × Obj)} {σ : St} {H : Hp} {s : Shared} {a : Addr} {A : Around} {E : Value → Shared → Prop} {xs : NX}
def NkAt (w : World) (H : Hp) (a : Addr) (xs : NX) : Prop := H a = some (nkO w a xs) ∨ ∃ od, H a = some (.frz od (nkO w a xs))
/-- the key y is told -/
def NkKey (P : Program) (w : World) (H : Hp) (y : V) (k : NestedKey) : Prop := (∃ b, y = .ref b) ∧ k.depth ≤ 8 ∧ ∀ h, HOk P w H h → ∀ u, RelV y u → NestedIs h k u
def NkKeys (P : Program) (w : World) (H : Hp) (bs : List NEnt) : Prop := ∀ b ∈ bs, NkKey P w H (.ref b.2) b.1
theorem NkKeys.are {P : Program} {w : World} {h : Heap} {bs : List NEnt} (k : NkKeys P w H bs) (ok : HOk P w H h) : NkIs h bs := fun b hb => ⟨(k b hb).2.2 h ok _ rfl, (k b hb).2.1⟩
theorem nroom (hu : A.units + 9 < cLine) : (nestedKind X.prog X.w).room A.in1 := by
  show A.units + 1 + 8 < cLine
  omega
theorem n_dict (I : Inv X pins σ H s) (g : NkAt X.w H a xs) (hk : NkKeys X.prog X.w H (xs.map (·.1))) : xs.length ≤ sizeLine ∧ (a == sysModules) = false ∧ ∃ vs : List (NEnt × Value), Paired nkR xs vs ∧ s.heap.DictOfH (nestedKind X.prog X.w) a (vs.map (NVal X.w)) := by
  obtain ⟨z, hd, vs, pr, r⟩ := nk_of I.hok g
  exact ⟨z, hd, vs, pr, nk_dict (hk.are I.hok) pr r⟩
theorem n_getItem {y v : V} {u : Value} {k : NestedKey} {Q : Value → Shared → Prop} (hu : A.units + 9 < cLine) (I : Inv X pins σ H s) (g : NkAt X.w H a xs) (hk : NkKeys X.prog X.w H (xs.map (·.1))) (hy : NkKey X.prog X.w H y k) (hv : lkN xs k = some v) (ry : RelV y u) (h : ∀ w' s', Inv X pins σ H s' → RelV v w' → Q w' s') :
    wpAny (model X.prog X.w) A (getItem (.ref a) u) Q E s := by
  obtain ⟨z, hd, vs, pr, dd⟩ := n_dict I g hk
  obtain ⟨⟨b, rfl⟩, k8, kis⟩ := hy
  cases (show u = Value.ref b from ry)
  obtain ⟨w', hw, rw'⟩ := RelO.some_of (v := v) (o := (atKey (vs.map (NVal X.w)) k).map (·.2)) (by rw [← hv]; exact lk_val pr)
  obtain ⟨p, hp, hp2⟩ := Option.map_eq_some_iff.mp hw
  refine wpAny_getItem_heap (nroom hu) ⟨kis _ I.hok _ rfl, k8⟩ dd hp ?_
  rw [hp2]
  exact h w' _ (I.tok _) rw'
theorem n_notIn {y : V} {u : Value} {k : NestedKey} {Q : Value → Shared → Prop} (hu : A.units + 9 < cLine) (I : Inv X pins σ H s) (g : NkAt X.w H a xs) (hk : NkKeys X.prog X.w H (xs.map (·.1))) (hy : NkKey X.prog X.w H y k) (ry : RelV y u) (h : ∀ s', Inv X pins σ H s' → Q (.bool (!(lkN xs k).isSome)) s') :
    wpAny (model X.prog X.w) A (compareOp .NotIn u (.ref a)) Q E s := by
  obtain ⟨z, hd, vs, pr, dd⟩ := n_dict I g hk
  obtain ⟨⟨b, rfl⟩, k8, kis⟩ := hy
  cases (show u = Value.ref b from ry)
  refine wpAny_notIn_heap (nroom hu) ⟨kis _ I.hok _ rfl, k8⟩ hd dd ?_
  rw [lk_some pr]
  exact h _ (I.tok _)
theorem n_setItem {b : Addr} {v : V} {r : Value} {k : NestedKey} {Q : Unit → Shared → Prop} (hu : A.units + 9 < cLine) (I : Inv X pins σ H s) (g : H a = some (nkO X.w a xs)) (hk : NkKeys X.prog X.w H (xs.map (·.1))) (hy : NkKey X.prog X.w H (.ref b) k) (hl : xs.length < sizeLine) (rv : RelV v r) (h : ∀ s', Inv X pins σ (upd H a (nkO X.w a (ptN xs (k, b) v))) s' → Q () s') :
    wpAny (model X.prog X.w) A (setItem (.ref a) (.ref b) r) Q E s := by
  obtain ⟨z, hd, vs, pr, dd⟩ := n_dict I (.inl g) hk
  obtain ⟨_, k8, kis⟩ := hy
  have hz : (vs.map (NVal X.w)).length ≤ sizeLine := by rw [List.length_map, ← Paired.length pr]; exact z
  refine wpAny_setItem_heap (nroom hu) ⟨kis _ I.hok _ rfl, k8⟩ dd (fun h' dd' hs => ?_) hz
  obtain ⟨ws, pr', e⟩ := pt_val (w := X.w) (b := (k, b)) pr rv
  rw [e] at dd'
  have he : ∃ q, h'.get? a = some q := let ⟨o, _, _, q, _⟩ := dd'; ⟨o, q⟩
  refine h _ (d_write I (by rw [g]; exact True.intro) hs he (nk_mk ?_ hd pr' dd'))
  have := pt_len xs (k, b) v
  omega
theorem n_typeIs (I : Inv X pins σ H s) (g : NkAt X.w H a xs) : s.TypeIs (.ref a) "dict" := by
  obtain ⟨_, _, vs, _, o, es, ep, h1, h2, _⟩ := nk_of I.hok g
  exact ⟨o, h1, h2.1⟩
end
section
variable {X : Cx} {o i e value : Expr} {pos pos' tpos : Pos} {td ty tv : TE}
def NGet (P : Program) (w : World) (H : Hp) (a : Addr) (y : V) (r : Option V) : Prop := ∃ xs k, NkAt w H a xs ∧ NkKeys P w H (xs.map (·.1)) ∧ NkKey P w H y k ∧ r = lkN xs k
def tNGet (P : Program) (w : World) (td ty : TE) : TE := fun σ H Q => td σ H fun x H1 => ty σ H1 fun y H2 => ∃ a v, x = .ref a ∧ NGet P w H2 a y (some v) ∧ Q v H2
def tNIn (P : Program) (w : World) (n : Bool) (ty td : TE) : TE := fun σ H Q => ty σ H fun y H1 => td σ H1 fun x H2 => ∃ a o, x = .ref a ∧ NGet P w H2 a y o ∧ Q (.bl (if n then !o.isSome else o.isSome)) H2
def sNPut (P : Program) (w : World) (td ty tv : TE) : TS := fun D σ H => tv σ H fun v H1 => td σ H1 fun x H2 => ty σ H2 fun y H3 => ∃ a xs b k, x = .ref a ∧ y = .ref b ∧ H3 a = some (nkO w a xs) ∧ NkKeys P w H3 (xs.map (·.1)) ∧ NkKey P w H3 (.ref b) k ∧ xs.length < sizeLine ∧ D.nx σ (upd H3 a (nkO w a (ptN xs (k, b) v)))
theorem pe_nget (hu : X.A.units + 9 < cLine) (ho : PE X o td) (hi : PE X i ty) (hs : NoSl i) : PE X (.Subscript o i pos) (tNGet X.prog X.w td ty) := by
  refine ⟨fun pins s σ H Q I h => ?_⟩
  refine subD_of PySem.F.slot_dict_getitem.lookup hs (thn (ho.run pins s σ H _ I h) fun u s1 ⟨x, H1, I1, rx, q1⟩ => thn (hi.run pins s1 σ H1 _ I1 q1) fun iv s2 ⟨y, H2, I2, ry, a, v, ex, g, q2⟩ => ?_)
  subst ex
  obtain rfl : u = Value.ref a := rx
  obtain ⟨xs, k, g1, g2, g3, g4⟩ := g
  exact ⟨n_typeIs I2 g1, n_getItem hu I2 g1 g2 g3 g4.symm ry fun w' s3 I3 rw' => ⟨v, H2, I3, rw', q2⟩⟩
theorem pc_nnin (hu : X.A.units + 9 < cLine) (hi : PE X i ty) (ho : PE X o td) : PC X .NotIn i o (tNIn X.prog X.w true ty td) := by
  refine ⟨fun pins s σ H Q I h => ?_⟩
  refine thn (hi.run pins s σ H _ I h) fun iv s1 ⟨y, H1, I1, ry, q1⟩ => thn (ho.run pins s1 σ H1 _ I1 q1) fun u s2 ⟨x, H2, I2, rx, a, ov, ex, g, q2⟩ => ?_
  subst ex
  obtain rfl : u = Value.ref a := rx
  obtain ⟨xs, k, g1, g2, g3, rfl⟩ := g
  exact n_notIn hu I2 g1 g2 g3 ry fun s3 I3 => ⟨.bl _, H2, I3, rfl, q2⟩
theorem ps_nput (hu : X.A.units + 9 < cLine) (ho : PE X o td) (hi : PE X i ty) (hv : PE X value tv) (hs : swapsWith value (some (.Subscript o i pos')) pos.line X.env = pure false) :
    PS X (.Assign [.Subscript o i pos'] value pos) (sNPut X.prog X.w td ty tv) := by
  refine ⟨fun pins s σ H D I h => ?_⟩
  refine wpAny_Assign_Subscript (thn (hv.run pins s σ H _ I h) fun r s1 ⟨v, H1, I1, rv, q1⟩ => thn (ho.run pins s1 σ H1 _ I1 q1) fun u s2 ⟨x, H2, I2, rx, q2⟩ => thn (hi.run pins s2 σ H2 _ I2 q2) fun iv s3 ⟨y, H3, I3, ry, a, xs, b, k, ex, ey, g1, g2, g3, g4, q3⟩ => ?_) hs
  subst ex ey
  obtain rfl : u = Value.ref a := rx
  obtain rfl : iv = Value.ref b := ry
  exact n_setItem hu I3 g1 g2 g3 g4 rv fun s4 I4 => ⟨σ, _, I4, q3⟩
end
end L2.M
namespace L2.M
open PySem PySem.Spec PyProof.Rows
def okKey : D → Option NestedKey
  | .tuple ds => (nKey (.tuple ds)).bind fun n => if n.depth ≤ 8 then some n else none
  | _ => none
def idxN (ks : List D) (key : NestedKey) : Option Nat := ks.findIdx? fun k => decide (nKey k = some key)
def nKs : C → Option (List D)
  | .ob (.dn ks) _ => some ks
  | .fd kds => some (kds.map (·.1))
  | _ => none
def nVl : C → Nat → Option D
  | .ob (.dn _) cs, j => match cs[j]? with
    | some (.sh d) => some d
    | _ => none
  | .fd kds, j => (kds[j]?).map (·.2)
  | _, _ => none
section
variable {K : Ek} {F R H : Hp} {σ : St} {ε : Cs} {T : Tms} {i : Nat} {c : C} {ks : List D} {bs : List NEnt} {vs : List V} {key : NestedKey}
theorem KeysN.len : ∀ {ks : List D} {bs : List NEnt}, KeysN K.1 F bs ks → bs.length = ks.length
  | [], bs, h => by cases (show bs = [] from h); rfl
  | k :: ks, bs, ⟨b, r, h1, _, _, _, h5⟩ => by rw [h1, List.length_cons, List.length_cons, KeysN.len h5]
theorem KeysN.nk {P : Program} {w : World} (fs : Same F H) : ∀ {ks : List D} {bs : List NEnt}, KeysN K.1 F bs ks → NkKeys P w H bs
  | [], bs, h => by
    cases (show bs = [] from h)
    intro b hb
    cases hb
  | k :: ks, bs, ⟨b, r, h1, h2, h3, h4, h5⟩ => by
    subst h1
    intro b' hb
    rcases List.mem_cons.mp hb with rfl | hb
    · exact ⟨⟨_, rfl⟩, h3, fun h ok u q => nk_is fs ok k _ _ u h2 h4 q⟩
    · exact KeysN.nk fs h5 b' hb
theorem KeysN.idx (key : NestedKey) : ∀ {ks : List D} {bs : List NEnt}, KeysN K.1 F bs ks → (bs.findIdx? fun b => decide (b.1 = key)) = idxN ks key
  | [], bs, h => by
    cases (show bs = [] from h)
    rfl
  | k :: ks, bs, ⟨b, r, h1, h2, h3, h4, h5⟩ => by
    subst h1
    have ih := KeysN.idx key h5
    unfold idxN at ih ⊢
    rw [List.findIdx?_cons, List.findIdx?_cons, ih, h2]
    have e : decide (b.1 = key) = decide (some b.1 = some key) := by
      by_cases c : b.1 = key
      · simp [c]
      · simp [c]
    rw [e]
theorem KeysN.app {b : NEnt} {k : D} (h1 : nKey k = some b.1) (h2 : b.1.depth ≤ 8) (h3 : Rep K.1 F (.ref b.2) k) : ∀ {ks : List D} {bs : List NEnt}, KeysN K.1 F bs ks → KeysN K.1 F (bs ++ [b]) (ks ++ [k])
  | [], bs, h => by
    cases (show bs = [] from h)
    exact ⟨b, [], rfl, h1, h2, h3, rfl⟩
  | k' :: ks, bs, ⟨b', r, g1, g2, g3, g4, g5⟩ => by
    subst g1
    exact ⟨b', r ++ [b], rfl, g2, g3, g4, KeysN.app h1 h2 h3 g5⟩
theorem lk_zip {key : NestedKey} : ∀ {bs : List NEnt} {vs : List V}, bs.length = vs.length → lkN (bs.zip vs) key = (bs.findIdx? fun b => decide (b.1 = key)).bind fun j => vs[j]?
  | [], [], _ => rfl
  | [], _ :: _, h => by cases h
  | _ :: _, [], h => by cases h
  | b :: bs, v :: vs, h => by
    have ih := lk_zip (key := key) (bs := bs) (vs := vs) (by simpa using h)
    rw [List.findIdx?_cons]
    by_cases c : b.1 = key
    · simp [lkN, c]
    · rw [if_neg (by simpa using c)]
      have e : lkN ((b :: bs).zip (v :: vs)) key = lkN (bs.zip vs) key := by simp [lkN, c]
      rw [e, ih, Option.bind_map]
      rfl
theorem nVl_ob {ks : List D} {cs : List C} {j : Nat} {d : D} (h : nVl (.ob (.dn ks) cs) j = some d) : cs[j]? = some (.sh d) := by
  have h : (match cs[j]? with
    | some (.sh d) => some d
    | _ => none) = some d := h
  split at h
  · rename_i d' hc
    cases h
    exact hc
  · cases h
theorem Sep.nview (s : Sep K F R H σ ε T) (h : ε[i]? = some c) (hk : nKs c = some ks) : ∃ a bs vs, σ[i]? = some (some (.ref a)) ∧ NkAt K.2 H a (bs.zip vs) ∧ bs.length = vs.length ∧ KeysN K.1 F bs ks ∧ ∀ j d, nVl c j = some d → ∃ v, vs[j]? = some v ∧ Rep K.1 F v d := by
  obtain ⟨o, f, e1, h1⟩ := s.cell h
  match c, hk, h1 with
  | .ob (.dn ks') cs, hk, h1 =>
    cases hk
    obtain ⟨a, vs, fs, rfl, e2, ⟨bs, g1, g2, g3, _⟩, h4⟩ := h1
    refine ⟨a, bs, vs, e1, .inl g1, g2, g3, fun j d hd => ?_⟩
    have hc : cs[j]? = some (.sh d) := nVl_ob hd
    obtain ⟨o', f', k1, k2, _, v, rfl, r⟩ := h4.get hc
    rw [List.getElem?_map] at k1
    obtain ⟨v', hv, e⟩ := Option.map_eq_some_iff.mp k1
    injection e with e
    subst e
    exact ⟨_, hv, r⟩
  | .fd kds, hk, h1 =>
    cases hk
    obtain ⟨_, a, rfl, od, bs, vs, g1, g2, g3, g4⟩ := h1
    refine ⟨a, bs, vs, e1, .inr ⟨od, s.sub _ _ g1⟩, g2, g3, fun j d hd => ?_⟩
    have hd : (kds.map (·.2))[j]? = some d := by rw [List.getElem?_map]; exact hd
    exact g4.get hd
theorem nlk (hl : bs.length = vs.length) (hk : KeysN K.1 F bs ks) (key : NestedKey) : lkN (bs.zip vs) key = (idxN ks key).bind fun j => vs[j]? := by
  rw [lk_zip hl, hk.idx]
theorem nlk_some (hl : bs.length = vs.length) (hk : KeysN K.1 F bs ks) (key : NestedKey) : (lkN (bs.zip vs) key).isSome = (idxN ks key).isSome := by
  rw [nlk hl hk]
  cases e : idxN ks key with
  | none => rfl
  | some j =>
    unfold idxN at e
    have hj := (List.findIdx?_eq_some_iff_findIdx_eq.mp e).1
    have : j < vs.length := by rw [← hl, hk.len]; exact hj
    simp [this]
theorem okKey_rep {P : Program} {w : World} {d : D} {v : V} (fs : Same F H) (h : okKey d = some key) (r : RepB K.1 F H v d) : NkKey P w H v key ∧ Rep K.1 F v d ∧ nKey d = some key ∧ key.depth ≤ 8 := by
  unfold okKey at h
  split at h
  · rename_i ds
    cases e : nKey (.tuple ds) with
    | none => simp [e] at h
    | some n =>
      simp only [e, Option.bind_some] at h
      split at h
      · rename_i hn
        cases h
        have rr : Rep K.1 F v (.tuple ds) := by
          rcases r with r | ⟨a, ws, ds', _, hq, _⟩
          · exact r
          · cases hq
        exact ⟨⟨nk_ref rr, hn, fun h ok u q => nk_is fs ok _ _ _ u e rr q⟩, rr, rfl, hn⟩
      · cases h
  · cases h
end
def mNNew : EM := fun ε => some (.ob (.dn []) [], ε)
def mNIn (n : Bool) (i : Nat) (m : OM) : EM := fun ε => do
  let (o, ε1) ← m ε
  let k ← bor ε1 o
  let key ← okKey k
  let c ← ε1[i]?
  let ks ← nKs c
  some (.sh (.bool (if n then !(idxN ks key).isSome else (idxN ks key).isSome)), ε1)
def mNGet (i : Nat) (m : OM) : EM := fun ε => do
  let c0 ← ε[i]?
  let _ ← nKs c0
  let (o, ε1) ← m ε
  let k ← bor ε1 o
  let key ← okKey k
  let c ← ε1[i]?
  let ks ← nKs c
  let j ← idxN ks key
  let d ← nVl c j
  some (.sh d, ε1)
/-- d[k] = e -/
def mNPut (i : Nat) (m : EM) (ix : OM) : XM := fun ε => do
  let (c, ε1) ← m ε
  match ε1[i]? with
  | some (.ob (.dn _) _) => do
    let (p, ε2) ← ix ε1
    let k ← bor ε2 p
    let key ← okKey k
    match ε2[i]? with
      | some (.ob (.dn ks) cs) => if cs.length < sizeLine then some (.nx, ε2.set i (match idxN ks key with
          | some j => .ob (.dn ks) (cs.set j c)
          | none => .ob (.dn (ks ++ [k])) (cs ++ [c]))) else none
      | _ => none
  | _ => none
section
variable {X : Cx} {W : Xw} {io : List Nat} {e kx : Expr} {y : Str} {p p2 pos : Pos} {m : OM} {i k : Nat}
theorem nkey {K : Ek} {P : Program} {w : World} {σ : St} {H : Hp} {m : OM} {ε ε1 : Cs} {o : Opd} {F R : Hp} {kd : D} {key : NestedKey} {Q : V → Hp → Prop} (s : Sep K F R H σ ε []) (e1 : m ε = some (o, ε1)) (e2 : bor ε1 o = some kd) (e3 : okKey kd = some key)
    (h : ∀ F1 H1 v, Same F F1 → Sep K F1 R H1 σ ε1 [] → NkKey P w H1 v key → Q v H1) : tO K m σ H Q := by
  refine ⟨F, R, ε, o, ε1, s, e1, fun v F1 H1 fm v1 s1 => ?_⟩
  rw [← List.append_nil (tmO [o] [v])] at s1
  have rb := (bors_ok s1 v1 (by simp [bors, e2] : bors ε1 [o] = some [kd])).inj1
  have s2 := s1.drops _
  exact h F1 H1 v fm s2 (okKey_rep s2.sub e3 rb).1
theorem nin_core {K : Ek} {P : Program} {σ : St} {H : Hp} {Q : VK} {n : Bool} (h : tE K (mNIn n i m) σ H Q) : tO K m σ H fun y H1 => tVar i σ H1 fun x H2 => ∃ a o, x = .ref a ∧ NGet P K.2 H2 a y o ∧ Q (.bl (if n then !o.isSome else o.isSome)) H2 := by
  obtain ⟨F, R, ε, c, ε', s, e, q⟩ := h
  unfold mNIn at e
  cases e1 : m ε with
  | none => simp [e1] at e
  | some p =>
    obtain ⟨o, ε1⟩ := p
    cases e2 : bor ε1 o with
    | none => simp [e1, e2] at e
    | some kd =>
      cases e3 : okKey kd with
      | none => simp [e1, e2, e3] at e
      | some key =>
        cases e4 : ε1[i]? with
        | none => simp [e1, e2, e3, e4] at e
        | some c1 =>
          cases e5 : nKs c1 with
          | none => simp [e1, e2, e3, e4, e5] at e
          | some ks =>
            simp only [e1, e2, e3, e4, e5, Option.bind_eq_bind, Option.bind_some] at e
            cases e
            refine nkey (P := P) (w := K.2) s e1 e2 e3 fun F1 H1 v fm s2 nk => ?_
            obtain ⟨a, bs, vs, g1, g2, g3, g4, _⟩ := s2.nview e4 e5
            refine ⟨_, g1, a, lkN (bs.zip vs) key, rfl, ⟨_, key, g2, ?_, nk, rfl⟩, ?_⟩
            · rw [List.map_fst_zip (by omega)]
              exact g4.nk s2.sub
            · rw [nlk_some g3 g4]
              exact q _ F1 H1 fm (s2.addSh rfl)
theorem y_nnin (hr : Room k X.A) (hv : PE X (.Name y p) (tVar i)) (he : PE X e (tO X.E m)) (hm : behindInMarks .NotIn (.Name y p) = false := by rfl) : PT X (.Compare e [.NotIn] [.Name y p] pos) (tT X.E (mTst (mNIn true i m))) :=
  (pt_cmp (pc_nnin (by have := hr.un; omega) he hv) hm).weak fun σ H Q h => nin_core (tE_tst h)
theorem x_nget (hr : Room k X.A) (hv : PE X (.Name y p) (tVar i)) (he : PE X kx (tO X.E m)) (hs : NoSl kx := by exact fun _ _ => rfl) : PE X (.Subscript (.Name y p) kx pos) (tE X.E (mNGet i m)) :=
  (pe_nget (by have := hr.un; omega) hv he hs).weak fun σ H Q h => by
    obtain ⟨F, R, ε, c, ε', s, e, q⟩ := h
    unfold mNGet at e
    cases e0 : ε[i]? with
    | none => simp [e0] at e
    | some c0 =>
      cases e00 : nKs c0 with
      | none => simp [e0, e00] at e
      | some ks0 =>
        cases e1 : m ε with
        | none => simp [e0, e00, e1] at e
        | some p =>
          obtain ⟨o, ε1⟩ := p
          cases e2 : bor ε1 o with
          | none => simp [e0, e00, e1, e2] at e
          | some kd =>
            cases e3 : okKey kd with
            | none => simp [e0, e00, e1, e2, e3] at e
            | some key =>
              cases e4 : ε1[i]? with
              | none => simp [e0, e00, e1, e2, e3, e4] at e
              | some c1 =>
                cases e5 : nKs c1 with
                | none => simp [e0, e00, e1, e2, e3, e4, e5] at e
                | some ks =>
                  cases e6 : idxN ks key with
                  | none => simp [e0, e00, e1, e2, e3, e4, e5, e6] at e
                  | some j =>
                    cases e7 : nVl c1 j with
                    | none => simp [e0, e00, e1, e2, e3, e4, e5, e6, e7] at e
                    | some d =>
                      simp only [e0, e00, e1, e2, e3, e4, e5, e6, e7, Option.bind_eq_bind, Option.bind_some] at e
                      cases e
                      obtain ⟨a0, _, _, hw, _⟩ := s.nview e0 e00
                      refine ⟨_, hw, nkey (P := X.prog) (w := X.w) s e1 e2 e3 fun F1 H1 v fm s2 nk => ?_⟩
                      obtain ⟨a, bs, vs, g1, g2, g3, g4, g5⟩ := s2.nview e4 e5
                      rw [hw] at g1
                      cases g1
                      obtain ⟨v', hv', r⟩ := g5 j d e7
                      refine ⟨_, v', rfl, ⟨_, key, g2, ?_, nk, ?_⟩, q _ F1 H1 fm (s2.addSh r)⟩
                      · rw [List.map_fst_zip (by omega)]
                        exact g4.nk s2.sub
                      · rw [nlk g3 g4, e6]
                        exact hv'.symm
theorem pt_zip {key : NestedKey} {b : Addr} {v : V} {bs : List NEnt} {vs : List V} (hl : bs.length = vs.length) (nd : (bs.map (·.1)).Nodup) :
    (∀ j, (bs.findIdx? fun b => decide (b.1 = key)) = some j → ptN (bs.zip vs) (key, b) v = bs.zip (vs.set j v)) ∧ ((bs.findIdx? fun b => decide (b.1 = key)) = none → ptN (bs.zip vs) (key, b) v = (bs ++ [(key, b)]).zip (vs ++ [v])) := by
  refine ⟨fun j hj => ?_, fun hj => ?_⟩
  · have e1 : (lkN (bs.zip vs) key).isSome = true := by
      rw [lk_zip hl, hj]
      have := (List.findIdx?_eq_some_iff_findIdx_eq.mp hj).1
      have : j < vs.length := by omega
      simp [this]
    unfold ptN
    rw [if_pos e1]
    clear e1
    induction bs generalizing vs j with
    | nil => cases hj
    | cons c bs ih =>
      cases vs with
      | nil => cases hl
      | cons u vs =>
        rw [List.map_cons, List.nodup_cons] at nd
        rw [List.findIdx?_cons] at hj
        rw [List.zip_cons_cons, List.map_cons]
        by_cases hc : c.1 = key
        · rw [if_pos (by simpa using hc)] at hj
          cases hj
          rw [if_pos hc, List.set_cons_zero, List.zip_cons_cons]
          refine congrArg _ ?_
          conv => rhs; rw [← List.map_id (bs.zip vs)]
          refine List.map_congr_left fun x hx => ?_
          have hx : x.1 ∈ bs := (List.of_mem_zip hx).1
          rw [if_neg fun z => nd.1 (by have z : x.1.1 = key := z; rw [hc, ← z]; exact List.mem_map_of_mem hx)]
          rfl
        · rw [if_neg (by simpa using hc)] at hj
          obtain ⟨j', hj', rfl⟩ := Option.map_eq_some_iff.mp hj
          rw [if_neg hc, List.set_cons_succ, List.zip_cons_cons]
          exact congrArg _ (ih (by simpa using hl) nd.2 j' hj')
  · have e1 : (lkN (bs.zip vs) key).isSome = false := by
      rw [lk_zip hl, hj]
      rfl
    unfold ptN
    rw [if_neg (by rw [e1]; simp), List.zip_append hl]
    rfl
theorem z_nput (hr : Room k X.A) (i : Nat) {m : EM} {ix : OM} (hv : PE X (.Name y p) (tVar i)) (he : PE X e (tE X.E m)) (hk : PE X kx (tO X.E ix)) (hs : swapsWith e (some (.Subscript (.Name y p) kx p2)) pos.line X.env = pure false := by rfl) :
    PS X (.Assign [.Subscript (.Name y p) kx p2] e pos) (tS X.E W io (mNPut i m ix)) :=
  (ps_nput (by have := hr.un; omega) hv hk he hs).weak fun De σ H h => by
    obtain ⟨F, R, ε, f, ε', s, e, q⟩ := h
    unfold mNPut at e
    cases e1 : m ε with
    | none => simp [e1] at e
    | some p =>
      obtain ⟨c, ε1⟩ := p
      simp only [e1, Option.bind_eq_bind, Option.bind_some] at e
      split at e
      · rename_i ks0 cs0 hx0
        cases e2 : ix ε1 with
        | none => simp [e2] at e
        | some p2 =>
          obtain ⟨o, ε2⟩ := p2
          cases e3 : bor ε2 o with
          | none => simp [e2, e3] at e
          | some kd =>
            cases e4 : okKey kd with
            | none => simp [e2, e3, e4] at e
            | some key =>
              simp only [e2, e3, e4, Option.bind_some] at e
              split at e
              · rename_i ks cs hx
                split at e
                · rename_i hl
                  cases e
                  refine ⟨F, R, ε, c, ε1, s, e1, fun v F1 H1 fm1 p1 => ?_⟩
                  obtain ⟨w, hw⟩ := p1.val hx0 fun z => nomatch z
                  obtain ⟨R1, _, p2, bk⟩ := p1.hide
                  refine ⟨w, hw, F1, R1, ε1, o, ε2, p2, e2, fun kv F3 H3 fm3 v3 s3 => ?_⟩
                  rw [← List.append_nil (tmO [o] [kv])] at s3
                  have rb := (bors_ok s3 v3 (by simp [bors, e3] : bors ε2 [o] = some [kd])).inj1
                  have s4 := bk F3 H3 σ ε2 [] fm3 (s3.drops _)
                  obtain ⟨nk, rk, n1, n2⟩ := okKey_rep (P := X.prog) (w := X.w) s4.sub e4 rb
                  obtain ⟨⟨b, rfl⟩, _, _⟩ := id nk
                  have key2 : ∀ kd', ∃ a vs, σ[i]? = some (some (.ref a)) ∧ ObAt X.E F3 H3 a vs (.dn ks) ∧ vs.length = cs.length ∧ ∀ o us ds, (∀ gg f, RpCs X.E F3 H3 (vs.map some) cs gg → RpC X.E F3 H3 (some v) c f → (gg.flatten ++ f).Nodup → ∃ g2, RpCs X.E F3 H3 (us.map some) ds g2 ∧ g2.flatten.Nodup ∧ ∀ b ∈ g2.flatten, b ∈ gg.flatten ++ f) →
                      ObAt X.E F3 (upd H3 a o) a us kd' → Sep X.E F3 R (upd H3 a o) σ (ε2.set i (.ob kd' ds)) [] := fun kd' => s4.part (kd' := kd') hx
                  have z1 : ∀ (vs : List V) (ds : List C) (us : List V) (o : HO) (a : Addr), True := fun _ _ _ _ _ => trivial
                  cases e6 : idxN ks key with
                  | some j =>
                    obtain ⟨a, vs, g1, ⟨bs, g2, g3, g4, g5⟩, g6, k1⟩ := key2 (.dn ks)
                    rw [hw] at g1
                    cases g1
                    have hz : (bs.zip vs).length < sizeLine := by rw [List.length_zip]; omega
                    refine ⟨a, bs.zip vs, b, key, rfl, rfl, g2, ?_, nk, hz, ?_⟩
                    · rw [List.map_fst_zip (by omega)]
                      exact g4.nk s4.sub
                    · have pz := (pt_zip (key := key) (b := b) (v := v) g3 g5).1 j (by rw [g4.idx, e6])
                      rw [pz]
                      refine q F3 _ σ (fm1.trans fm3) (StS.refl σ) ?_
                      simp only [e6]
                      exact k1 _ (vs.set j v) (cs.set j c) (fun gg f g r n => part_set g r n) ⟨bs, upd_same, by rw [List.length_set]; exact g3, g4, g5⟩
                  | none =>
                    obtain ⟨a, vs, g1, ⟨bs, g2, g3, g4, g5⟩, g6, k1⟩ := key2 (.dn (ks ++ [kd]))
                    rw [hw] at g1
                    cases g1
                    have hz : (bs.zip vs).length < sizeLine := by rw [List.length_zip]; omega
                    refine ⟨a, bs.zip vs, b, key, rfl, rfl, g2, ?_, nk, hz, ?_⟩
                    · rw [List.map_fst_zip (by omega)]
                      exact g4.nk s4.sub
                    · have hj : (bs.findIdx? fun b => decide (b.1 = key)) = none := by rw [g4.idx, e6]
                      have pz := (pt_zip (key := key) (b := b) (v := v) g3 g5).2 hj
                      rw [pz]
                      refine q F3 _ σ (fm1.trans fm3) (StS.refl σ) ?_
                      simp only [e6]
                      refine k1 _ (vs ++ [v]) (cs ++ [c]) (fun gg f g r n => part_add g r n) ⟨bs ++ [(key, b)], upd_same, by simp [g3], g4.app n1 n2 rk, ?_⟩
                      rw [List.map_append, List.nodup_append]
                      refine ⟨g5, by simp, fun x hx y hy z => ?_⟩
                      rw [List.mem_singleton.mp hy] at z
                      obtain ⟨b', hb', rfl⟩ := List.mem_map.mp hx
                      rw [List.findIdx?_eq_none_iff] at hj
                      have := hj b' hb'
                      simp at this
                      exact this z
                · cases e
              · cases e
      · cases e
end
end L2.M
namespace L2.M
open PySem PySem.Spec PyProof.Rows
section
variable {K : Ek} {F F' R H : Hp} {σ : L2.St} {ε : Cs} {T : Tms} {i : Nat}
theorem KeysN.get {F : Hp} : ∀ {ks : List D} {bs : List NEnt} {i : Nat} {b : NEnt}, KeysN K.1 F bs ks → bs[i]? = some b → ∃ k, ks[i]? = some k ∧ Rep K.1 F (.ref b.2) k
  | [], bs, i, b, h, e => by
    cases (show bs = [] from h)
    simp at e
  | k :: ks, bs, 0, b, ⟨b', r, h1, _, _, h4, _⟩, e => by
    subst h1
    simp at e
    subst e
    exact ⟨k, rfl, h4⟩
  | k :: ks, bs, i + 1, b, ⟨b', r, h1, _, _, h4, h5⟩, e => by
    subst h1
    obtain ⟨k', q1, q2⟩ := KeysN.get (i := i) h5 (by simpa using e)
    exact ⟨k', by simpa using q1, q2⟩
end
end L2.M
namespace L2.M
open PySem PySem.Spec PyProof.Rows
def mNList (i : Nat) : EM := fun ε => do
  let c ← ε[i]?
  let ks ← nKs c
  some (.ls ks, ε)
def shs : List C → Option (List D)
  | [] => some []
  | .sh d :: cs => (shs cs).map (d :: ·)
  | _ => none
def nVs : C → Option (List D)
  | .ob (.dn _) cs => shs cs
  | .fd kds => some (kds.map (·.2))
  | _ => none
def mNVals (i : Nat) : EM := fun ε => do
  let c ← ε[i]?
  let ds ← nVs c
  some (.ls ds, ε)
section
variable {X : Cx} {W : Xw} {io : List Nat} {e kx vx : Expr} {y : Str} {p p2 pos apos cpos : Pos} {m : OM} {i k : Nat}
def mN1 (mk mv : EM) : EM := fun ε => do
  let (ck, ε1) ← mk ε
  let kd ← cD ck
  let _ ← okKey kd
  let (cv, ε2) ← mv ε1
  some (.ob (.dn [kd]) [cv], ε2)
def tND1 (P : Program) (w : World) (tk tv : TE) : TE := fun σ H Q => ∀ p, H p = none → tk σ (upd H p (nkO w p [])) fun x H1 => tv σ H1 fun z H2 => ∃ b key, x = .ref b ∧ NkKey P w H2 (.ref b) key ∧ H2 p = some (nkO w p []) ∧ Q (.ref p) (upd H2 p (nkO w p [((key, b), z)]))
theorem pe_nd1 {tk tv : TE} (hu : X.A.units + 8 < cLine) (hk : PE X kx tk) (hv : PE X vx tv) : PE X (.Dict [some kx] [vx] pos) (tND1 X.prog X.w tk tv) := by
  refine ⟨fun pins s σ H Q I q => ?_⟩
  have hn := I.hok.fresh (Nat.le_refl s.heap.objs.size)
  have hsm : (s.heap.objs.size == sysModules) = false := beq_eq_false_iff_ne.mpr (Ne.symm (Nat.ne_of_lt I.big))
  have I1 := I.laid (a := s.heap.objs.size) (o := nkO X.w s.heap.objs.size []) (h' := s.heap.push { cls := .type "dict", data := .dict #[] }) (t' := s.toks) (fun _ _ q => Heap.get?_push_of_some _ q) (Nat.le_refl _)
    (nk_mk (P := X.prog) (vs := []) (Nat.zero_le _) hsm .nil ⟨_, #[], 0, Heap.get?_push_size _ rfl, ⟨rfl, rfl, rfl⟩, rfl, rfl, (fun x hx => by cases hx), List.nodup_nil⟩)
  have hshape : (evalEachOpt [some kx] X.env).zip ((evalEach [vx] X.env).map fun v => do let x ← v; standAt pos; pure x) = (pairTrees [some kx] [vx] X.env pos).map fun p => (some p.1, p.2) := by rfl
  have h0 : pairTrees [some kx] [vx] X.env pos ≠ [] := fun z => nomatch z
  have hlen : (pairTrees [some kx] [vx] X.env pos).length ≤ 15 := by show 1 ≤ 15; omega
  rw [arm_eval_Dict, hshape, dictDisplay_pairs _ h0 (by omega)]
  refine wpAny_bind (wpAny_standAt (wpAny_bind (wpAny_subDictH (knd := nestedKind X.prog X.w) (Q := fun d s' => wpAny (model X.prog X.w) X.A (pure (Value.ref d)) (EP X pins σ Q) X.xe s') hu hlen ?_)))
  refine pairTrees_cons_walk (thn (hk.run pins _ σ _ _ I1 (q _ hn)) fun u s1 ⟨x, H1, I2, rx, q1⟩ => thn (hv.run pins s1 σ H1 _ I2 q1) fun w2 s2 ⟨z, H2, I3, rz, b, key, ex, nk, hp, q2⟩ => pairTrees_nil_walk ?_)
  subst ex
  obtain rfl : u = Value.ref b := rx
  obtain ⟨_, _, vs0, pr, dd⟩ := n_dict I3 (.inl hp) (fun b hb => by cases hb)
  cases pr
  refine ⟨[(key, b, w2)], ⟨rfl, rfl, ⟨nk.2.2 _ I3.hok _ rfl, nk.2.1⟩, trivial⟩, dd, fun h' tk dd' hs => wpAny_pure ⟨.ref s.heap.objs.size, _, ?_, rfl, q2⟩⟩
  have dd'' : h'.DictOfH (nestedKind X.prog X.w) s.heap.objs.size ([((key, b), w2)].map (NVal X.w)) := dd'
  have he : ∃ q, h'.get? s.heap.objs.size = some q := let ⟨q, _, _, hq, _⟩ := dd'; ⟨q, hq⟩
  exact d_write I3 (by rw [hp]; exact True.intro) hs he (nk_mk (xs := [((key, b), z)]) (by rw [sizeLine_eq]; show 1 ≤ 16777216; omega) hsm (.cons ⟨rfl, rz⟩ .nil) dd'')
theorem x_nd1 {mk mv : EM} (hr : Room k X.A) (hk : PE X kx (tE X.E mk)) (hv : PE X vx (tE X.E mv)) : PE X (.Dict [some kx] [vx] pos) (tE X.E (mN1 mk mv)) :=
  (pe_nd1 (by have := hr.un; omega) hk hv).weak fun σ H Q h => by
    obtain ⟨F, R, ε, c, ε', s, e, q⟩ := h
    unfold mN1 at e
    cases e1 : mk ε with
    | none => simp [e1] at e
    | some p1 =>
      obtain ⟨ck, ε1⟩ := p1
      cases e2 : cD ck with
      | none => simp [e1, e2] at e
      | some kd =>
        cases e3 : okKey kd with
        | none => simp [e1, e2, e3] at e
        | some key =>
          cases e4 : mv ε1 with
          | none => simp [e1, e2, e3, e4] at e
          | some p4 =>
            obtain ⟨cv, ε2⟩ := p4
            simp only [e1, e2, e3, e4, Option.bind_eq_bind, Option.bind_some] at e
            cases e
            intro p hp
            have s1 : Sep X.E F R (upd H p (nkO X.w p [])) σ ε ((.ref p, .ob (.dn []) []) :: []) := Sep.change (T1 := []) s fun gs h n _ => ⟨[p], ⟨p, [], [], rfl, rfl, ⟨[], upd_same, rfl, rfl, List.nodup_nil⟩, rfl, rfl⟩, by simp, fun b hb => .inr (by rw [List.mem_singleton.mp hb]; exact hp), fun b u _ e => by rw [upd_ne (ne_of_none e hp)]; exact e⟩
            obtain ⟨R1, _, s2, bk⟩ := s1.hide
            refine ⟨F, R1, ε, ck, ε1, s2, e1, fun x F1 H1 fm1 s3 => ?_⟩
            obtain ⟨F2, fm2, r2, s4⟩ := s3.freeze e2
            refine ⟨F2, R1, ε1, cv, ε', s4, e4, fun z F3 H3 fm3 s5 => ?_⟩
            have s6 := bk F3 H3 σ ε' [(z, cv)] ((fm1.trans fm2).trans fm3) s5
            obtain ⟨nk, rk, n1, n2⟩ := okKey_rep (P := X.prog) (w := X.w) s6.sub e3 (.inl (r2.mono fm3))
            obtain ⟨⟨b, rfl⟩, _, _⟩ := id nk
            obtain ⟨gs, g1, g2, g3, close⟩ := Sep.opens (T1 := [(.ref p, .ob (.dn []) []), (z, cv)]) s6
            obtain ⟨o', r, f, fr, q1, q2, ⟨a, vs, gg, k1, k2, ⟨bs, k3, k4, k5, _⟩, k6⟩, o2, r2', f2, fr2, q3, q4, k7, k8, k9⟩ := g1
            obtain ⟨rfl, rfl⟩ := List.cons.inj q1
            obtain ⟨rfl, rfl⟩ := List.cons.inj q3
            cases k1
            subst q2 q4 k9
            cases (show bs = [] from k5)
            have hvs : vs = [] := List.eq_nil_of_length_eq_zero k4.symm
            subst hvs
            obtain ⟨-, rfl⟩ := k6
            have k2 : f = [p] := k2
            subst k2
            have en : ([[p], f2] : List (List Addr)).flatten = p :: f2 := by simp
            rw [en] at g2 close
            rw [List.nodup_cons] at g2
            have nf : ∀ b ∈ f2, b ≠ p := fun b hb z => g2.1 (by rw [← z]; exact hb)
            refine ⟨b, key, rfl, nk, k3, q _ F3 _ ((fm1.trans fm2).trans fm3) ?_⟩
            refine close (.ref p) (.ob (.dn [kd]) [cv]) _ (p :: f2) ⟨p, [z], [f2], rfl, by simp, ⟨[(key, b)], upd_same, rfl, ⟨_, _, rfl, n1, n2, rk, rfl⟩, by simp⟩, ⟨_, _, _, _, rfl, rfl, RpC.frame (Same.refl F3) (fun b hb => upd_ne (nf b hb)) k7, rfl, rfl⟩⟩ (List.nodup_cons.mpr g2) (fun b hb => .inl hb) (fun b u hb e => ?_)
            rw [upd_ne (fun z => hb (by rw [z]; exact List.mem_cons_self))]
            exact e
def mFnV (x : Str) : EM := fun ε => some (.fn x, ε)
def mCallF (i : Nat) (io : List Bool) (cands : List (Str × GM)) (ma : AM) : EM := fun ε => match ε[i]? with
  | some (.fn x) => match cands.lookup x with
    | some g => mCall io g ma ε
    | none => none
  | _ => none
/-- a slot's thing taken out -/
def mTake (i : Nat) : EM := fun ε => match ε[i]? with
  | some .no => none
  | some c => some (c, ε.set i .no)
  | none => none
end
end L2.M
namespace L2.M
open PySem PySem.Spec PyProof.Rows
end L2.M
namespace L2.M
open PySem PySem.Spec PyProof.Rows
end L2.M
namespace L2.M
open PySem PySem.Spec PyProof.Rows
end L2.M
namespace L2.M
open PySem PySem.Spec PyProof.Rows
end L2.M
namespace L2.M
open PySem PySem.Spec PyProof.Rows
def strsOf : List D → Option (List Str)
  | [] => some []
  | .str z :: ds => (strsOf ds).map (z :: ·)
  | _ :: _ => none
theorem strs_all : ∀ zs : List Str, strsOf (zs.map PyData.str) = some zs
  | [] => rfl
  | z :: zs => by
    show (strsOf (zs.map PyData.str)).map (z :: ·) = _
    rw [strs_all zs]
    rfl
theorem strs_reps {K : PySem.W.Frag} {F : Hp} : ∀ {ds : List D} {vs : List V} {zs : List Str}, Reps K F vs ds → strsOf ds = some zs → vs = zs.map V.str
  | [], vs, zs, h, e => by
    cases e
    exact h
  | .str z :: ds, vs, zs, h, e => by
    obtain ⟨v, r, rfl, h1, h2⟩ := h
    simp only [strsOf, Option.map_eq_some_iff] at e
    obtain ⟨zs', e1, rfl⟩ := e
    have e2 : v = .str z := h1
    rw [strs_reps h2 e1, e2]
    rfl
  | .none :: ds, vs, zs, h, e => by cases e
  | .bool _ :: ds, vs, zs, h, e => by cases e
  | .int _ :: ds, vs, zs, h, e => by cases e
  | .list _ :: ds, vs, zs, h, e => by cases e
  | .tuple _ :: ds, vs, zs, h, e => by cases e
  | .dict _ :: ds, vs, zs, h, e => by cases e
def joinOf (a : Str) (ds : List D) : Option C := match strsOf ds with
  | some ys => if (ys.map (·.length)).sum + ys.length * a.length ≤ 16777216 then some (.sh (.str (Txt.join a ys))) else none
  | none => none
def joinD : List D → Option C
  | [.str a, .list ds] => joinOf a ds
  | [.str a, .tuple ds] => joinOf a ds
  | _ => none
def scountD : List D → Option C
  | [.str a, .str b] => some (.sh (.int (Txt.count a b)))
  | _ => none
def ninSD : D → D → Option C
  | .str x, .str z => match x.cps.toList with
    | [c] => some (.sh (.bool (!decide (c ∈ z.cps.toList))))
    | _ => none
  | _, _ => none
section
variable {X : Cx}
theorem join_ok : ∃ r, MtR X "str.join" r ∧ FnM X.K joinD r := by
  refine ⟨_, mt_join, fun F H x xs ds c Q s hr he q => ?_⟩
  have key : ∀ (a : Str) (ds : List D), joinOf a ds = some c → ∃ ys : List Str, strsOf ds = some ys ∧ (ys.map (·.length)).sum + ys.length * a.length ≤ 16777216 ∧ c = .sh (.str (Txt.join a ys)) := fun a ds he => by
    unfold joinOf at he
    split at he
    · rename_i ys e1
      split at he
      · rename_i h2
        cases he
        exact ⟨ys, e1, h2, rfl⟩
      · cases he
    · cases he
  match ds, he, hr with
  | [.str a, .list es], he, hr =>
    obtain ⟨ys, e1, e2, rfl⟩ := key a es he
    obtain ⟨y, w, e, h1, h2⟩ := hr.two
    cases e
    obtain ⟨p, vs, rfl, g1, g2⟩ := rb_lst s h2
    rw [strs_reps g2 e1] at g1
    exact ⟨a, p, ys, rb_str h1, rfl, .inl g1, e2, g_str s q⟩
  | [.str a, .tuple es], he, hr =>
    obtain ⟨ys, e1, e2, rfl⟩ := key a es he
    obtain ⟨y, w, e, h1, h2⟩ := hr.two
    cases e
    obtain ⟨p, vs, rfl, _, g1, g2⟩ := rb_tup s h2
    rw [strs_reps g2 e1] at g1
    exact ⟨a, p, ys, rb_str h1, rfl, .inr g1, e2, g_str s q⟩
theorem scount_ok : ∃ r, MtR X "str.count" r ∧ FnM X.K scountD r := by
  refine ⟨_, mt_count, fun F H x xs ds c Q s hr he q => ?_⟩
  match ds, he, hr with
  | [.str a, .str b], he, hr =>
    cases he
    obtain ⟨y, w, e, h1, h2⟩ := hr.two
    cases e
    exact ⟨a, b, rb_str h1, by rw [rb_str h2], g_int s q⟩
theorem sign_eq {x : Str} {c : Nat} (h : x.cps.toList = [c]) : x = ⟨#[c]⟩ := by
  cases x
  rename_i a
  congr 1
  exact Array.toList_inj.mp h
theorem ninS_ok : ∃ r, OpR X (compareOp .NotIn) r ∧ Fn2 X.K ninSD r := by
  refine ⟨_, op_notInS, fun F H x y d e c Q s h1 h2 he q => ?_⟩
  match d, e, he, h1, h2 with
  | .str a, .str z, he, h1, h2 =>
    simp only [ninSD] at he
    split at he
    · rename_i k hk
      cases he
      exact ⟨k, z, by rw [rb_str h1, sign_eq hk], rb_str h2, g_bool s q⟩
    · cases he
variable {o e a b : Expr} {es : List Expr} {mo ma mb : OM} {mr : AM} {apos cpos pos p : Pos} {k : Nat}
theorem x_join (ho : PE X o (tO X.E mo)) (ha : PA X (e :: es) (tA X.E mr))
    (hb : attributeBase o "join" X.env (eval o X.env) = eval o X.env := by rfl)
    (hfw : ((backTo cpos (starEach (e :: es) X.env)).all (fun x => !x.1) && (backToKw cpos (keywordEach [] X.env)).all (fun x => x.1.isSome) && decide ((e :: es).length + ([] : List Keyword).length + (if ([] : List Keyword).isEmpty then 0 else 1) < 30)) = true := by rfl)
    (hln : (apos.endLine == cpos.line) = true := by rfl) (hs : starEach (e :: es) X.env = (false, eval e X.env) :: starEach es X.env := by rfl) (hp : (backTo cpos (starEach es X.env)).any (·.1) = false := by rfl) :
    PE X (.Call (.Attribute o "join" apos) (e :: es) [] cpos) (tE X.E (mM joinD isS mo mr)) :=
  let ⟨_, h1, h2⟩ := join_ok
  (pe_bm PySem.F.plainAttrs_str PySem.F.slot_str_join PySem.F.type_str_join h1 ho ha hb hfw hln hs hp).weak fun _ _ _ h => tE_m h2 (fun _ _ _ _ s r k => tyV_S s r k) h
theorem x_scount (ho : PE X o (tO X.E mo)) (ha : PA X (e :: es) (tA X.E mr))
    (hb : attributeBase o "count" X.env (eval o X.env) = eval o X.env := by rfl)
    (hfw : ((backTo cpos (starEach (e :: es) X.env)).all (fun x => !x.1) && (backToKw cpos (keywordEach [] X.env)).all (fun x => x.1.isSome) && decide ((e :: es).length + ([] : List Keyword).length + (if ([] : List Keyword).isEmpty then 0 else 1) < 30)) = true := by rfl)
    (hln : (apos.endLine == cpos.line) = true := by rfl) (hs : starEach (e :: es) X.env = (false, eval e X.env) :: starEach es X.env := by rfl) (hp : (backTo cpos (starEach es X.env)).any (·.1) = false := by rfl) :
    PE X (.Call (.Attribute o "count" apos) (e :: es) [] cpos) (tE X.E (mM scountD isS mo mr)) :=
  let ⟨_, h1, h2⟩ := scount_ok
  (pe_bm PySem.F.plainAttrs_str PySem.F.slot_str_count PySem.F.type_str_count h1 ho ha hb hfw hln hs hp).weak fun _ _ _ h => tE_m h2 (fun _ _ _ _ s r k => tyV_S s r k) h
theorem y_ninS (ha : PE X a (tO X.E ma)) (hb : PE X b (tO X.E mb)) (hm : behindInMarks .NotIn b = false := by rfl) : PT X (.Compare a [.NotIn] [b] pos) (tT X.E (mTst (mB ninSD ma mb))) :=
  let ⟨_, h1, h2⟩ := ninS_ok
  (pt_cmpR h1 ha hb hm).weak fun _ _ _ h => tE_b h2 (tE_tst h)
end
end L2.M
namespace L2.M
open PySem PySem.Spec PyProof.Rows
end L2.M
namespace L2.M
open PySem PySem.Spec PyProof.Rows
end L2.M
namespace L2.M
open PySem PySem.Spec PyProof.Rows
/-- the text, so many times -/
def repS (a : Str) (n : Nat) : Str := ⟨(List.replicate n a.cps).foldl (· ++ ·) #[]⟩
def smulD : D → D → Option C
  | .str a, .int k => if 0 ≤ k ∧ k ≤ 10000 ∧ a.length ≤ 1000 then some (.sh (.str (repS a k.toNat))) else none
  | _, _ => none
theorem repS_cps (a : Str) (n : Nat) : (repS a n).cps.toList = (List.replicate n a.cps.toList).flatten := by
  have f0 : ∀ (m : Nat) (acc : Array Nat), (List.foldl (fun x1 x2 => x1 ++ x2) acc (List.replicate m a.cps)).toList = acc.toList ++ (List.replicate m a.cps.toList).flatten := by
    intro m
    induction m with
    | zero => intro acc; simp
    | succ m ih =>
      intro acc
      rw [List.replicate_succ, List.foldl_cons, ih, List.replicate_succ, List.flatten_cons, Array.toList_append, List.append_assoc]
  have := f0 n #[]
  simpa [repS] using this
section
variable {X : Cx}
theorem op_smul : OpR X (binaryOp .Mult) (fun x y H Q => ∃ i k, x = .str i ∧ y = .int k ∧ 0 ≤ k ∧ k ≤ 10000 ∧ i.length ≤ 1000 ∧ Q (.str (repS i k.toNat)) H) := by
  intro pins s σ H x y v u Q I rx ry h
  obtain ⟨i, k, rfl, rfl, k0, k1, hz, q⟩ := h
  obtain ⟨t, rfl⟩ := rx
  obtain ⟨t', rfl⟩ := ry
  have b0 : (decide (k < -(2 ^ 63 : Int)) || decide (k ≥ 2 ^ 63)) = false := by simp; omega
  refine P.mul_str b0 (fun h1 h2 => ?_) (fun h1 h2 => ?_) ?_
  · have h3 : (2 ^ 63 - 1) / 10000 ≤ ((2 : Int) ^ 63 - 1) / k := by
      rw [Int.le_ediv_iff_mul_le (by omega)]
      have : ((2 : Int) ^ 63 - 1) / 10000 * k ≤ ((2 : Int) ^ 63 - 1) / 10000 * 10000 := Int.mul_le_mul_of_nonneg_left k1 (by decide)
      have h4 : ((2 : Int) ^ 63 - 1) / 10000 * 10000 ≤ 2 ^ 63 - 1 := by decide
      exact Int.le_trans this h4
    have h5 : (1000 : Int) ≤ (2 ^ 63 - 1) / 10000 := by decide
    omega
  · have h3 : i.length * k.toNat ≤ 1000 * 10000 := Nat.mul_le_mul hz (by omega)
    have hs : i.length * k.toNat ≤ sizeLine := Nat.le_trans h3 (by decide)
    exact decide_eq_false (show ¬ i.length * k.toNat > sizeLine by omega)
  · split
    · have e : k.toNat = 0 := by omega
      rw [e] at q
      exact ⟨by decide, .str Str.empty, H, I.tok _, ⟨_, rfl⟩, q⟩
    · split
      · rename_i hk he
        have e : repS i k.toNat = i := by
          have e2 := repS_cps i k.toNat
          have e3 : (List.replicate k.toNat i.cps.toList).flatten = i.cps.toList := by
            simp only [Bool.or_eq_true, beq_iff_eq] at he
            rcases he with he | he
            · subst he
              simp
            · have : i.cps.toList = [] := List.eq_nil_of_length_eq_zero (by rw [Array.length_toList]; exact he)
              rw [this]
              simp
          rw [e3] at e2
          cases i
          exact congrArg Str.mk (Array.toList_inj.mp e2)
        rw [e] at q
        exact ⟨.str i, H, I, ⟨_, rfl⟩, q⟩
      · refine ⟨?_, .str (repS i k.toNat), H, I.tok _, ⟨_, rfl⟩, q⟩
        have h3 : i.length * k.toNat ≤ 1000 * 10000 := Nat.mul_le_mul hz (by omega)
        have e2 := congrArg List.length (repS_cps i k.toNat)
        rw [Array.length_toList, List.length_flatten, List.map_replicate, List.sum_replicate_nat, Array.length_toList, Nat.mul_comm] at e2
        have e3 : (repS i k.toNat).length = i.length * k.toNat := e2
        show (repS i k.toNat).length ≤ _
        rw [e3]
        exact Nat.le_trans h3 (by decide)
theorem smul_ok : ∃ r, OpR X (binaryOp .Mult) r ∧ Fn2 X.K smulD r := by
  refine ⟨_, op_smul, fun F H x y d e c Q s h1 h2 he q => ?_⟩
  unfold smulD at he
  split at he
  · split at he
    · rename_i hb
      cases he
      exact ⟨_, _, rb_str h1, rb_int h2, hb.1, hb.2.1, hb.2.2, g_str s q⟩
    · cases he
  · cases he
variable {a b : Expr} {ma mb : OM} {pos : Pos}
theorem x_smul (ha : PE X a (tO X.E ma)) (hb : PE X b (tO X.E mb)) : PE X (.BinOp a .Mult b pos) (tE X.E (mB smulD ma mb)) :=
  let ⟨_, h1, h2⟩ := smul_ok
  me_bin h1 h2 ha hb
end
end L2.M
namespace L2.M
open PySem PySem.Spec PyProof.Rows
theorem drwS {prog : Program} {w : World} {A : Around} (hh : A.handled = none) (it : Addr) (x : Str) (t : Tok) : Draws prog w A it [it] x.cps.size (fun i v => ∃ c u, x.cps[i]? = some c ∧ v = .str ⟨#[c]⟩ u) fun i h => h.IsStrIter it (strIterType x) x t i := by
  unfold strIterType
  split
  · exact Draws.strAscii hh it x t
  · exact Draws.strWide hh it x t
theorem isS_obj {h : Heap} {a : Addr} {ty : String} {x : Str} {t : Tok} {i : Nat} (g : h.IsStrIter a ty x t i) : ∃ o, h.get? a = some o ∧ ∀ v, o.data ≠ .cell v := by
  obtain ⟨o, e, _, d⟩ := g
  exact ⟨o, e, fun v q => by rw [d] at q; cases q⟩
theorem isS_at {h h' : Heap} {a : Addr} {ty : String} {x : Str} {t : Tok} {i : Nat} (g : h.IsStrIter a ty x t i) (e : ∀ o, h.get? a = some o → h'.get? a = some o) : h'.IsStrIter a ty x t i := by
  obtain ⟨o, q, r⟩ := g
  exact ⟨o, e o q, r⟩
def IteS (z : Str) : It :=
  ⟨fun i H => i < z.cps.size,
   fun i H v H' => ∃ T c, v = .ref T ∧ H T = none ∧ (∃ o : Obj, o.dict = none ∧ H' = upd H T (.frz o (.tup [.int (i : Nat), .str ⟨#[c]⟩]))) ∧ z.cps[i]? = some c,
   fun i H => i = z.cps.size⟩
theorem turnS {P : Program} {w : World} {K : PySem.W.Frag} {elts : List Expr} {kk : Nat} {tpos : Pos} {z : Str} {t : Tok} {e p : Addr} (ne : e ≠ p) :
    Turn P w K (.Tuple elts kk tpos) (IteS z) [e, p] e (fun i h => (∃ old, IsEnum h e p ((i : Nat) : Int) old) ∧ h.IsStrIter p (strIterType z) z t i) where
  mem := List.mem_cons_self
  obj := fun i h ⟨⟨_, he⟩, g⟩ => two ⟨_, he, fun v q => nomatch q⟩ (isS_obj g)
  keep := fun i h h' ⟨⟨old, he⟩, g⟩ kp => ⟨⟨old, kp e (by simp) _ he⟩, isS_at g fun o q => kp p (by simp) o q⟩
  item := by
    rintro X rfl rfl rfl calm i pins s σ H E I fresh ⟨⟨old, he⟩, g⟩ lu
    have le : e < s.heap.objs.size := Heap.lt_size he
    have lp : p < s.heap.objs.size := by
      obtain ⟨_, q, _⟩ := isS_obj g
      exact Heap.lt_size q
    refine wpAny_pyNext_enum_itemD (fp := [p]) (drwS (A := X.A.in1) (I.ok.hd calm) p z t) he g lu ne (by simp [ne]) fun c h1 tk e1 z1 n1 t1 sz kp => ?_
    obtain ⟨c0, u0, hc, rfl⟩ := e1
    refine ⟨_, rfl, wpAny_letOwnedTupleGo_enum (s := { s with heap := h1, toks := tk + 1 }) z1 fun h2 z2 sb => ?_⟩
    have tT : h2.get? s.heap.objs.size = some { cls := .type "tuple", data := .seq #[.int i tk, .str ⟨#[c0]⟩ u0] } := (sb.2 _ (Nat.ne_of_gt le)).trans t1
    have laid : ObjOk X.prog X.w (upd H s.heap.objs.size (.frz { cls := .type "tuple", data := .seq #[.int i tk, .str ⟨#[c0]⟩ u0] } (.tup [.int (i : Nat), .str ⟨#[c0]⟩]))) h2 s.heap.objs.size (.frz { cls := .type "tuple", data := .seq #[.int i tk, .str ⟨#[c0]⟩ u0] } (.tup [.int (i : Nat), .str ⟨#[c0]⟩])) :=
      ⟨tT, show 2 ≤ sizeLine by decide, [.int i tk, .str ⟨#[c0]⟩ u0], .cons ⟨_, rfl⟩ (.cons ⟨_, rfl⟩ .nil), ⟨_, tT, rfl, _, rfl⟩⟩
    have kept : ∀ (c : Addr) (o : Obj), c ∉ [e, p] → s.heap.get? c = some o → h2.get? c = some o := by
      intro c o nc q
      simp only [List.mem_cons, List.not_mem_nil, or_false, not_or] at nc
      exact (sb.2 c nc.1).trans (kp c o nc.1 nc.2 q)
    have es : ((i + 1 : Nat) : Int) = (i : Int) + 1 := by omega
    refine ⟨.ref s.heap.objs.size, _, I.turnedNew (t' := tk + 1) (ch := [e, p]) kept fresh (Nat.le_refl _) laid, rfl, ⟨_, c0, rfl, I.hok.fresh (Nat.le_refl _), ⟨_, rfl, rfl⟩, hc⟩, ⟨⟨_, by rw [es]; exact z2⟩, isS_at n1 fun o q => (sb.2 p (Ne.symm ne)).trans q⟩, two ?_ ?_⟩
    · rw [upd_ne (Nat.ne_of_lt le)]
      exact (fresh e (by simp)).1
    · rw [upd_ne (Nat.ne_of_lt lp)]
      exact (fresh p (by simp)).1
  done := by
    rintro X rfl rfl rfl calm i pins s σ H E I fresh ⟨⟨old, he⟩, g⟩ hx
    have ei : i = z.cps.size := hx
    rw [ei] at g
    obtain ⟨f0, f1, f2, f3, f4, f5⟩ := fresh p (by simp)
    exact wpAny_pyNext_enum_endD (drwS (A := X.A.in1) (I.ok.hd calm) p z t) he g fun h1 kp => ⟨rfl, I.turned (t' := s.toks) (fun b o nb q => kp b o nb q) f0 f1 f3 f4 f5⟩
  self := fun A i s Q E ⟨⟨_, he⟩, _⟩ h => wpAny_pyIter_enum he h
def iEnumS (ta : TA) : TI := fun σ H R => ta σ H fun vs H1 => ∃ z : Str, vs = [.str z] ∧ R (IteS z) H1
theorem pi_enumS {X : Cx} {e : Expr} {ta : TA} {p pos tpos : Pos} {elts : List Expr} {kk : Nat} (hg : Gl X "enumerate") (hm : X.mg "enumerate" = none) (ha : PA X [e] ta) (hs : starEach [e] X.env = [(false, eval e X.env)]) :
    PI X (.Tuple elts kk tpos) (.Call (.Name "enumerate" p) [e] [] pos) (iEnumS ta) := by
  refine ⟨fun pins s σ H R I h => Call_ (ld_blt I hg hm boot_enumerate (PyProof.Rows.callWith_type1 (thn (ha.run pos pins s σ H _ I h) fun us s1 ⟨vs, H1, I1, r1, z, ev, q⟩ => ?_) hs rfl))⟩
  subst ev
  rcases r1 with _ | ⟨r, rr⟩
  cases rr
  obtain ⟨t, rfl⟩ := r
  refine call_enumerate_str fun h1 he g1 hz kp => wpAny_pyIter_enum he ?_
  have one : ∀ c, s1.heap.objs.size ≤ c → FpOk X pins H1 c := fun c hc => I1.fpOk hc (I1.hok.fresh hc)
  exact ⟨_, _, _, _, H1, rfl, I1.kept (t' := s1.toks) kp, turnS (K := X.K) (z := z) (t := t) (Nat.succ_ne_self _), ⟨⟨.none, he⟩, g1⟩, two (one _ (Nat.le_add_right _ _)) (one _ (Nat.le_refl _)), q⟩
def chD0 (c : Nat) : D := .str ⟨#[c]⟩
def enumS : List D → Option (List D)
  | [.str z] => some (enumFrom 0 (z.cps.toList.map chD0))
  | _ => none
theorem walkES {z : Str} : Walk (IteS z) z.cps.size (fun H => True) (fun i H x H' => ∃ t c, x = .ref t ∧ H t = none ∧ (∃ o : Obj, o.dict = none ∧ H' = upd H t (.frz o (.tup [.int (i : Nat), .str ⟨#[c]⟩]))) ∧ z.cps[i]? = some c) :=
  ⟨fun i H hi _ => hi, fun H h => rfl, fun i H x H' _ _ y => y⟩
section
variable {X : Cx} {e a b : Expr} {p pos : Pos}
theorem mi_enumS {elts : List Expr} {kk : Nat} {tpos : Pos} (hm : X.mg "enumerate" = none) (hg : Gl X "enumerate") {m : OM} (h : PE X e (tO X.E m)) (hs : starEach [e] X.env = [(false, eval e X.env)] := by rfl) :
    PI X (.Tuple elts kk tpos) (.Call (.Name "enumerate" p) [e] [] pos) (tI X.E (mSrc enumS (mCons m mNil))) := by
  refine (pi_enumS hg hm (ma_cons h ma_nil hs) hs).weak fun σ H Q q => tA_mono (src_parts q) fun vs H1 h => ?_
  obtain ⟨F, R, ε, ws, ds, out, s, lt, ek, q⟩ := h
  have rb := lt.now s
  match ds, ek, rb, lt with
  | [.str z], ek, rb, lt =>
    simp only [enumS, Option.some.injEq] at ek
    subst ek
    obtain ⟨x, rfl, r1⟩ := rb.one
    refine ⟨z, by rw [rb_str r1], q F H1 _ (Same.refl F) s ?_⟩
    have ln : (enumFrom 0 (z.cps.toList.map chD0)).length = z.cps.size := by rw [enum_len, List.length_map, Array.length_toList]
    refine ⟨_, _, (by rw [ln]; exact walkES), fun F2 H2 σ2 ε2 fm2 s2 st => ⟨trivial, fun i x H3 hi y => ?_⟩⟩
    obtain ⟨t, c, rfl, ht, ⟨ob, hob, rfl⟩, hc⟩ := y
    have gl := Grw.laid (u := .frz ob (.tup [.int (i : Nat), .str ⟨#[c]⟩])) s2.sub ht
    have d1 : (z.cps.toList.map chD0)[i]? = some (chD0 c) := by
      rw [List.getElem?_map, Array.getElem?_toList, hc]
      rfl
    refine ⟨_, .tuple [.int (i : Nat), chD0 c], by rw [enum_get, d1]; simp, ⟨t, _, rfl, ⟨ob, hob, upd_same⟩, ?_⟩, gl⟩
    exact ⟨_, _, rfl, rfl, _, _, rfl, rfl, rfl⟩
end
end L2.M
namespace L2.M
open PySem PySem.Spec PyProof.Rows
inductive SelOk (X : Cx) (k' np : Nat) : List Expr → List V → List GX → Prop where
  | nil : SelOk X k' np [] [] []
  | cons {x : Str} {p : Pos} {g : GX} {k : Nat} {ps : List Str} {es : List Expr} {vs : List V} {gs : List GX} (h : KnX X.prog X.w X.K X.mg X.base k x ps (spX X.E np g)) (hk : k ≤ k') (hg : Gl X x) (hm : X.mg x = some (.ref (He.ga X.K x))) (hd : (x == ("__debug__" : Str)) = false) (hs : starEach (.Name x p :: es) X.env = (false, eval (.Name x p) X.env) :: starEach es X.env) (r : SelOk X k' np es vs gs) : SelOk X k' np (.Name x p :: es) (.ref (He.ga X.K x) :: vs) (g :: gs)
section
variable {X : Cx} {k' np : Nat}
theorem SelOk.len : ∀ {es : List Expr} {vs : List V} {gs : List GX}, SelOk X k' np es vs gs → vs.length = gs.length ∧ es.length = gs.length
  | _, _, _, .nil => ⟨rfl, rfl⟩
  | _, _, _, .cons _ _ _ _ _ _ r => ⟨congrArg (· + 1) r.len.1, congrArg (· + 1) r.len.2⟩
theorem SelOk.get : ∀ {es : List Expr} {vs : List V} {gs : List GX}, SelOk X k' np es vs gs → ∀ (j : Nat) (g : GX), gs[j]? = some g → ∃ x k ps, vs[j]? = some (.ref (He.ga X.K x)) ∧ k ≤ k' ∧ KnX X.prog X.w X.K X.mg X.base k x ps (spX X.E np g) ∧ X.mg x = some (.ref (He.ga X.K x))
  | _, _, _, .nil, j, g, e => by cases e
  | _, _, _, .cons (x := x) (k := k) (ps := ps) h hk hg hm hd hs r, 0, g, e => by
    cases e
    exact ⟨x, k, ps, rfl, hk, h, hm⟩
  | _, _, _, .cons h hk hg hm hd hs r, j + 1, g, e => r.get j g e
end
end L2.M
namespace L2.M
open PySem PySem.Spec PyProof.Rows
end L2.M
namespace L2.M
open PySem PySem.Spec PyProof.Rows
end L2.M
namespace L2.M
open PySem PySem.Spec PyProof.Rows
open PySem.Builtin PySem.Builtin.Str
section
variable {P : Program} {w : World} {K : PySem.W.Frag} {mg : Str → Option Value} {base : Heap} {CX : CXT}
theorem PSsT.nox {X : Cx} {st : List Stmt} {t : TS} (h : PSsT X.nox st t) : PSsT X st t := fun pins s σ H D h0 I hw =>
  wpAny_mono (h pins s σ H D h0 (I.wish _) hw) (fun _ _ q => q.unwish) fun _ _ z => False.elim z
end
end L2.M
namespace L2.M
open PySem PySem.Spec PyProof.Rows
end L2.M
namespace L2.M
open PySem PySem.Spec PyProof.Rows
end L2.M
namespace L2.M
open PySem PySem.Spec PyProof.Rows
def mDGetD (i : Nat) (m n : EM) : EM := fun ε => match ε[i]? with
  | some (.dc 0 _) => do
    let (c1, ε1) ← m ε
    let (c2, ε2) ← n ε1
    match c1, c2, ε2[i]? with
      | .sh kd, .sh d, some (.dc 0 kds) => if (kyD kd).isSome = true then some (.sh ((dLk kds kd).getD d), ε2) else none
      | _, _, _ => none
  | _ => none
def mDList (i : Nat) : EM := fun ε => match ε[i]? with
  | some (.dc 0 kds) => some (.ls (kds.map (·.1)), ε)
  | _ => none
end L2.M
namespace L2.M
open PySem PySem.Spec PyProof.Rows
end L2.M
namespace L2.M
open PySem PySem.Spec PyProof.Rows
end L2.M
namespace L2.M
open PySem PySem.Spec PyProof.Rows
end L2.M
namespace L2.M
open PySem PySem.Spec PyProof.Rows
/-- a dict is not empty -/
def mNNe (i : Nat) : EM := fun ε => match ε[i]? with
  | some c => (nKs c).map fun ks => (.sh (.bool (!ks.isEmpty)), ε)
  | none => none
end L2.M
namespace L2.M
open PySem PySem.Spec PyProof.Rows
end L2.M
namespace L2.M
open PySem PySem.Spec PyProof.Rows
end L2.M
namespace PySem.SeqAt
open AutoSeq1 (wpAny_loadPart')
open MeetsSeq MeetsSeq2 MeetsSeq3
end PySem.SeqAt
namespace L2.M
open PySem PySem.Spec PyProof.Rows
end L2.M
namespace L2.M
open PySem PySem.Spec PyProof.Rows
end L2.M
namespace L2.M
open PySem PySem.Spec PyProof.Rows
end L2.M
namespace KW
open PySem PySem.Spec PyProof.Rows L2 L2.M
theorem at_nn {α : Type} {xs : List α} {i : Int} (h : 0 ≤ i) : atI xs i = xs[i.toNat]? := by
  unfold atI ixN
  rw [if_pos h]
  by_cases k : i.toNat < xs.length
  · rw [if_pos (by omega)]; rfl
  · rw [if_neg (by omega)]
    rw [List.getElem?_eq_none (by omega)]
    rfl
theorem at_lit {α : Type} {xs : List α} {n : Nat} : atI xs (no_index (OfNat.ofNat n) : Int) = xs[n]? := at_nn (Int.natCast_nonneg n)
theorem at_nat {α : Type} {xs : List α} {n : Nat} : atI xs (n : Int) = xs[n]? := at_nn (Int.natCast_nonneg n)
theorem at_neg {α : Type} {xs : List α} {n : Nat} (h : 0 < n) : atI xs (-(n : Int)) = if n ≤ xs.length then xs[xs.length - n]? else none := by
  unfold atI ixN
  rw [if_neg (by omega)]
  by_cases k : n ≤ xs.length
  · rw [if_pos (by omega), if_pos k]
    have : (-(n : Int) + (xs.length : Int)).toNat = xs.length - n := by omega
    simp [this]
  · rw [if_neg (by omega), if_neg k]
    rfl
theorem at_m1 {α : Type} {xs : List α} : atI xs (-1) = xs.getLast? := by
  have := at_neg (xs := xs) (n := 1) (by decide)
  rw [show (-1 : Int) = -((1 : Nat) : Int) by rfl, this]
  cases xs with
  | nil => rfl
  | cons x xs => simp [List.getLast?_eq_getElem?]
theorem at_m2 {α : Type} {xs : List α} : atI xs (-2) = if 2 ≤ xs.length then xs[xs.length - 2]? else none := by
  rw [show (-2 : Int) = -((2 : Nat) : Int) by rfl, at_neg (by decide)]
theorem bq_int (i j : Int) : (i == j) = decide (i = j) := by
  by_cases h : i = j <;> simp [h]
theorem bq_str (i j : Str) : (i == j) = decide (i = j) := by
  by_cases h : i = j <;> simp [h]
theorem ofs_inj (a b : String) : (Str.ofString a = Str.ofString b) = (a = b) := by
  apply propext
  constructor
  · intro h
    rw [Str.ofString_eq_toList, Str.ofString_eq_toList] at h
    have h1 : (a.toList.map Char.toNat).toArray = (b.toList.map Char.toNat).toArray := congrArg Str.cps h
    have h2 : a.toList.map Char.toNat = b.toList.map Char.toNat := by simpa using h1
    have h3 : a.toList = b.toList := List.map_inj_right (fun x y h => Char.toNat_inj.mp h) |>.mp h2
    exact String.toList_inj.mp h3
  · rintro rfl
    rfl
theorem ee_ii (i j : Int) : PyData.eqv (.int i) (.int j) = decide (i = j) := by simp only [PyData.eqv]; exact bq_int i j
theorem ee_ss (i j : Str) : PyData.eqv (.str i) (.str j) = decide (i = j) := by simp only [PyData.eqv]; exact bq_str i j
theorem ee_bb (i j : Bool) : PyData.eqv (.bool i) (.bool j) = decide (i = j) := by cases i <;> cases j <;> rfl
theorem ee_nn : PyData.eqv .none .none = true := rfl
theorem ee_is (i : Int) (j : Str) : PyData.eqv (.int i) (.str j) = false := rfl
theorem ee_si (i : Int) (j : Str) : PyData.eqv (.str j) (.int i) = false := rfl
theorem ee_in (i : Int) : PyData.eqv (.int i) .none = false := rfl
theorem ee_ni (i : Int) : PyData.eqv .none (.int i) = false := rfl
theorem ee_tt (xs ys : List PyData) : PyData.eqv (.tuple xs) (.tuple ys) = PyData.eqvAll xs ys := by simp only [PyData.eqv]
theorem ee_ll (xs ys : List PyData) : PyData.eqv (.list xs) (.list ys) = PyData.eqvAll xs ys := by simp only [PyData.eqv]
theorem ee_0 : PyData.eqvAll [] [] = true := rfl
theorem ee_1 (x y : PyData) (xs ys : List PyData) : PyData.eqvAll (x :: xs) (y :: ys) = (PyData.eqv x y && PyData.eqvAll xs ys) := by simp only [PyData.eqvAll]
theorem ee_2 (x : PyData) (xs : List PyData) : PyData.eqvAll (x :: xs) [] = false := rfl
theorem ee_3 (x : PyData) (xs : List PyData) : PyData.eqvAll [] (x :: xs) = false := rfl
theorem ee_maps (xs ys : List Int) : PyData.eqvAll (xs.map .int) (ys.map .int) = decide (xs = ys) := by
  induction xs generalizing ys with
  | nil => cases ys <;> simp [ee_0, ee_3]
  | cons x xs ih => cases ys <;> simp [ee_1, ee_2, ih, ee_ii]
structure Pn where
  l : Int
  b : Int
  s : Int
def penL (p : Pn) : List PyData := [.int p.l, .int p.b, .int p.s]
def nxt (s : Int) : Int := ((s + 7919) % 2147483647 * ((s + 7919) % 2147483647) + 48271 * ((s + 7919) % 2147483647) + 12345) % 2147483629
def pnOf (x : Int) : Pn := ⟨if 0 - x > x then 0 - x else x, if (10 : Int) ^ 18 ≤ (if 0 - x > x then 0 - x else x) then 1 else 0, (if 0 - x > x then 0 - x else x) % 1000003⟩
def dr (p : Pn) (n : Int) : Int := if p.b = 1 ∧ 0 < p.l then p.l % n else nxt (nxt p.s + 7) / 64 % n
def dn (p : Pn) (n : Int) : Pn := if p.b = 1 ∧ 0 < p.l then ⟨p.l / n, p.b, p.s⟩ else ⟨p.l, p.b, nxt (nxt p.s + 7)⟩
theorem dr_nn {p : Pn} {n : Int} (h : 0 < n) : 0 ≤ dr p n := by
  unfold dr
  split <;> exact Int.emod_nonneg _ (by omega)
theorem dr_lt {p : Pn} {n : Int} (h : 0 < n) : dr p n < n := by
  unfold dr
  split <;> exact Int.emod_lt_of_pos _ h
theorem dr_ab (p : Pn) (n : Int) (h : 0 < n) : 0 ≤ dr p n ∧ dr p n < n := ⟨dr_nn h, dr_lt h⟩
theorem dr_a2 (p : Pn) (n : Int) : 0 < n → 0 ≤ dr p n ∧ dr p n < n := fun h => ⟨dr_nn h, dr_lt h⟩
grind_pattern dr_a2 => dr p n
/-- the item of a list of whole numbers -/
def gt (xs : List Int) (i : Int) : Int := xs.getD i.toNat 0
theorem gt_mem {xs : List Int} {i : Int} (h0 : 0 ≤ i) (h1 : i < xs.length) : gt xs i ∈ xs := by
  unfold gt
  rw [List.getD_eq_getElem?_getD, List.getElem?_eq_getElem (by omega)]
  simp
theorem pk {xs : List Int} {ds : List PyData} {i : Int} (e : ds = xs.map PyData.int) (h0 : 0 ≤ i) (h1 : i < xs.length) : atI ds i = some (.int (gt xs i)) := by
  subst e
  have : i.toNat < xs.length := by omega
  rw [at_nn h0]
  simp [gt, this]
theorem pk3 {a b c i : Int} (h0 : 0 ≤ i) (h1 : i < 3) : atI ([.int a, .int b, .int c] : List PyData) i = some (.int (gt [a, b, c] i)) := pk rfl h0 h1
theorem pkd3 {a b c : Int} {p : Pn} : atI ([.int a, .int b, .int c] : List PyData) (dr p 3) = some (.int (gt [a, b, c] (dr p 3))) := pk3 (dr_nn (by decide)) (dr_lt (by decide))
theorem gd3 {a b c : Int} {p : Pn} {P : Int → Prop} (H : P a ∧ P b ∧ P c) : P (gt [a, b, c] (dr p 3)) := by
  have m := gt_mem (xs := [a, b, c]) (i := dr p 3) (dr_nn (by decide)) (dr_lt (by decide))
  simp only [List.mem_cons, List.not_mem_nil, or_false] at m
  obtain ⟨h0, h1, h2⟩ := H
  rcases m with e | e | e <;> (rw [e]; assumption)
def Wx (x : Option (Fl × Cs)) (Q : Fl → Cs → Prop) : Prop := ∃ f ε, x = some (f, ε) ∧ Q f ε
def Rt (x : Option (C × List C)) (P : C → List C → Prop) : Prop := ∃ c cs, x = some (c, cs) ∧ P c cs
def endQ (io : List Bool) (cs : List C) (P : C → List C → Prop) : Fl → Cs → Prop
  | .rt c, ε => P c (after io cs ε)
  | .nx, ε => P (.sh .none) (after io cs ε)
  | _, _ => False
theorem rt_eq {x : Option (C × List C)} {c : C} {cs : List C} (h : Rt x fun c' cs' => c' = c ∧ cs' = cs) : x = some (c, cs) := by
  obtain ⟨_, _, e, rfl, rfl⟩ := h
  exact e
theorem wx_nx {m n : XM} {ε ε1 : Cs} {Q : Fl → Cs → Prop} (h : m ε = some (.nx, ε1)) (h2 : Wx (n ε1) Q) : Wx (mSeq m n ε) Q := by
  unfold mSeq
  rw [h]
  exact h2
theorem wx_rt {m n : XM} {ε ε1 : Cs} {c : C} {Q : Fl → Cs → Prop} (h : m ε = some (.rt c, ε1)) (h2 : Q (.rt c) ε1) : Wx (mSeq m n ε) Q := by
  unfold mSeq
  rw [h]
  exact ⟨_, _, rfl, h2⟩
theorem wx_seq {m n : XM} {ε : Cs} {Q : Fl → Cs → Prop} (h : Wx (m ε) fun f ε1 => match f with | .nx => Wx (n ε1) Q | f => Q f ε1) : Wx (mSeq m n ε) Q := by
  obtain ⟨f, ε1, e, q⟩ := h
  unfold mSeq
  rw [e]
  cases f with
  | nx => exact q
  | bk => exact ⟨_, _, rfl, q⟩
  | ct => exact ⟨_, _, rfl, q⟩
  | rt c => exact ⟨_, _, rfl, q⟩
  | xc x => exact ⟨_, _, rfl, q⟩
theorem wx_skip {ε : Cs} {Q : Fl → Cs → Prop} (h : Q .nx ε) : Wx (mSkip ε) Q := ⟨_, _, rfl, h⟩
/-- an if ahead of the rest -/
theorem wx_ifs {t : TM} {m n r : XM} {ε ε1 : Cs} {b : Bool} {Q : Fl → Cs → Prop} (h : t ε = some (b, ε1)) (h1 : b = true → Wx (mSeq m r ε1) Q) (h2 : b = false → Wx (mSeq n r ε1) Q) : Wx (mSeq (mIf t m n) r ε) Q := by
  have e : mIf t m n ε = if b then m ε1 else n ε1 := by
    unfold mIf
    rw [h]
    rfl
  unfold mSeq
  rw [e]
  cases b with
  | true => exact h1 rfl
  | false => exact h2 rfl
theorem wx_in {m n r : XM} {ε : Cs} {Q : Fl → Cs → Prop} (h : Wx (mSeq m (mSeq n r) ε) Q) : Wx (mSeq (mSeq m n) r ε) Q := by
  unfold mSeq at h ⊢
  revert h
  cases m ε with
  | none => exact id
  | some p =>
    obtain ⟨f, ε1⟩ := p
    cases f <;> exact id
theorem wx_sk {r : XM} {ε : Cs} {Q : Fl → Cs → Prop} (h : Wx (r ε) Q) : Wx (mSeq mSkip r ε) Q := h
theorem rt_sem {io : List Bool} {ns : Nat} {m : XM} {cs : List C} {P : C → List C → Prop} (hs : shared io cs = true) (h : Wx (m (cs ++ List.replicate (ns - cs.length) .no)) (endQ io cs P)) : Rt (semF io ns m cs) P := by
  obtain ⟨f, ε, e, q⟩ := h
  unfold semF
  rw [if_pos hs, e]
  cases f with
  | nx => exact ⟨_, _, rfl, q⟩
  | bk => exact q.elim
  | ct => exact q.elim
  | rt c => exact ⟨_, _, rfl, q⟩
  | xc x => exact q.elim
theorem wx_val {x : Option (Fl × Cs)} {f : Fl} {ε : Cs} {Q : Fl → Cs → Prop} (h : x = some (f, ε)) (q : Q f ε) : Wx x Q := ⟨_, _, h, q⟩
/-- a loop, by what holds ahead of each round -/
theorem wx_for {io : List Nat} {src : SM} {bind : BM} {body : XM} {ε ε1 : Cs} {ds : List PyData} {ws : List Nat} {Q : Fl → Cs → Prop} (J : Nat → Cs → Prop) (hs : src ε = some ((ds, ws), ε1)) (hw : ws.all (fun i => io.contains i) = true)
    (h0 : J 0 ε1) (hJ : ∀ i ε2, J i ε2 → sameC ws ε1 ε2) (hstep : ∀ i d ε2, ds[i]? = some d → J i ε2 → ∃ ε3, bind d ε2 = some ε3 ∧ Wx (body ε3) fun f ε4 => match f with
      | .nx => J (i + 1) ε4
      | .ct => J (i + 1) ε4
      | .bk => Q .nx ε4
      | .rt c => Q (.rt c) ε4
      | .xc x => Q (.xc x) ε4) (hend : ∀ ε2, J ds.length ε2 → Q .nx ε2) : Wx (mFor io src bind body ε) Q := by
  unfold mFor
  simp only [hs, Option.bind_eq_bind, Option.bind_some, hw, if_true]
  have main : ∀ (l : List PyData) (i : Nat) (ε2 : Cs), ds.drop i = l → i ≤ ds.length → J i ε2 → Wx (forL ws ε1 bind body l ε2) Q := by
    intro l
    induction l with
    | nil =>
      intro i ε2 hl hi hj
      unfold forL
      rw [if_pos (hJ i ε2 hj)]
      have : i = ds.length := by
        have := List.drop_eq_nil_iff.mp hl
        omega
      subst this
      exact ⟨_, _, rfl, hend _ hj⟩
    | cons d l ih =>
      intro i ε2 hl hi hj
      unfold forL
      rw [if_pos (hJ i ε2 hj)]
      have hd : ds[i]? = some d := by
        have := congrArg (fun x => x[0]?) hl
        simpa using this
      obtain ⟨ε3, e3, f, ε4, e4, q⟩ := hstep i d ε2 hd hj
      have hi' : i + 1 ≤ ds.length := (List.getElem?_eq_some_iff.mp hd).1
      have hl' : ds.drop (i + 1) = l := by
        rw [← List.drop_drop, hl]
        rfl
      simp only [e3, e4, Option.bind_eq_bind, Option.bind_some]
      cases f with
      | nx => exact ih (i + 1) ε4 hl' hi' q
      | ct => exact ih (i + 1) ε4 hl' hi' q
      | bk => exact ⟨_, _, rfl, q⟩
      | rt c => exact ⟨_, _, rfl, q⟩
      | xc x => exact ⟨_, _, rfl, q⟩
  exact main ds 0 ε1 rfl (Nat.zero_le _) h0
/-- a loop whose source is no locked list: each item is known by its membership -/
theorem wx_each {io : List Nat} {src : SM} {bind : BM} {body : XM} {ε ε1 : Cs} {ds : List PyData} {Q : Fl → Cs → Prop} (J : Cs → Prop) (hs : src ε = some ((ds, []), ε1))
    (h0 : J ε1) (hstep : ∀ d ε2, d ∈ ds → J ε2 → ∃ ε3, bind d ε2 = some ε3 ∧ Wx (body ε3) fun f ε4 => match f with
      | .nx => J ε4
      | .ct => J ε4
      | .bk => Q .nx ε4
      | .rt c => Q (.rt c) ε4
      | .xc x => Q (.xc x) ε4) (hend : ∀ ε2, J ε2 → Q .nx ε2) : Wx (mFor io src bind body ε) Q :=
  wx_for (fun _ => J) hs rfl h0 (fun i ε hj j hj2 => by cases hj2) (fun i d ε2 hd hj => hstep d ε2 (List.mem_of_getElem? hd) hj) hend
/-- while, by a measure -/
theorem wx_while {t : TM} {b : XM} {ε : Cs} {Q : Fl → Cs → Prop} (J : Nat → Cs → Prop) (n : Nat) (h0 : J n ε)
    (hstep : ∀ n ε2, J n ε2 → ∃ k ε3, t ε2 = some (k, ε3) ∧ (k = false → Q .nx ε3) ∧ (k = true → Wx (b ε3) fun f ε4 => match f with
      | .nx => ∃ n', n' < n ∧ J n' ε4
      | .ct => ∃ n', n' < n ∧ J n' ε4
      | .bk => Q .nx ε4
      | .rt c => Q (.rt c) ε4
      | .xc x => Q (.xc x) ε4)) : Wx (mWhile t b ε) Q := by
  have main : ∀ (n : Nat) (ε : Cs), J n ε → ∃ m r, whileN t b m ε = some r ∧ Q r.1 r.2 := by
    intro n
    induction n using Nat.strongRecOn with
    | ind n ih =>
      intro ε hj
      obtain ⟨k, ε3, e3, hf, ht⟩ := hstep n ε hj
      cases k with
      | false => exact ⟨1, (.nx, ε3), by simp [whileN, e3], hf rfl⟩
      | true =>
        obtain ⟨f, ε4, e4, q⟩ := ht rfl
        cases f with
        | nx =>
          obtain ⟨n', hn, hj'⟩ := q
          obtain ⟨m, r, e5, q5⟩ := ih n' hn ε4 hj'
          exact ⟨m + 1, r, by simp [whileN, e3, e4, e5], q5⟩
        | ct =>
          obtain ⟨n', hn, hj'⟩ := q
          obtain ⟨m, r, e5, q5⟩ := ih n' hn ε4 hj'
          exact ⟨m + 1, r, by simp [whileN, e3, e4, e5], q5⟩
        | bk => exact ⟨1, (.nx, ε4), by simp [whileN, e3, e4], q⟩
        | rt c => exact ⟨1, (.rt c, ε4), by simp [whileN, e3, e4], q⟩
        | xc x => exact ⟨1, (.xc x, ε4), by simp [whileN, e3, e4], q⟩
  obtain ⟨m, r, e, q⟩ := main n ε h0
  exact ⟨r.1, r.2, mWhile_of e, q⟩
/-- a comprehension, by what holds ahead of each item -/
theorem lc_rule {src : SM} {bind : BM} {tests : TM} {elt : EM} {own ws : List Nat} {ε ε1 : Cs} {ds : List PyData} (J : Nat → List PyData → Cs → Prop) (hs : src ε = some ((ds, ws), ε1)) (hw : ws.all (fun i => !own.contains i) = true)
    (h0 : J 0 [] (wipeC ε1 own)) (hJ : ∀ i out ε2, J i out ε2 → sameC ws ε1 ε2) (hn : ds.length ≤ sizeLine)
    (hstep : ∀ i d out ε2, ds[i]? = some d → J i out ε2 → ∃ ε3 b ε4, bind d ε2 = some ε3 ∧ tests ε3 = some (b, ε4) ∧ (b = false → J (i + 1) out (wipeC ε4 own)) ∧
      (b = true → ∃ c e ε5, elt ε4 = some (c, ε5) ∧ cD c = some e ∧ J (i + 1) (out ++ [e]) (wipeC ε5 own))) :
    ∃ out ε2, mLc src bind tests elt own ε = some (.ls out, restC ε2 ε1 own) ∧ J ds.length out ε2 := by
  have main : ∀ (l : List PyData) (i : Nat) (acc : List PyData) (ε2 : Cs), ds.drop i = l → i ≤ ds.length → acc.length ≤ i → J i acc ε2 → ∃ out ε3, lcL ws ε1 bind tests elt own l acc.length ε2 = some (out, ε3) ∧ J ds.length (acc ++ out) ε3 := by
    intro l
    induction l with
    | nil =>
      intro i acc ε2 hl hi ha hj
      have : i = ds.length := by
        have := List.drop_eq_nil_iff.mp hl
        omega
      subst this
      refine ⟨[], ε2, ?_, by simpa using hj⟩
      unfold lcL
      rw [if_pos (hJ _ _ _ hj)]
    | cons d l ih =>
      intro i acc ε2 hl hi ha hj
      have hd : ds[i]? = some d := by
        have := congrArg (fun x => x[0]?) hl
        simpa using this
      have hi' : i + 1 ≤ ds.length := (List.getElem?_eq_some_iff.mp hd).1
      have hl' : ds.drop (i + 1) = l := by
        rw [← List.drop_drop, hl]
        rfl
      obtain ⟨ε3, b, ε4, e3, e4, hf, ht⟩ := hstep i d acc ε2 hd hj
      unfold lcL
      rw [if_pos (hJ _ _ _ hj)]
      cases b with
      | false =>
        obtain ⟨out, ε6, e6, j6⟩ := ih (i + 1) acc _ hl' hi' (by omega) (hf rfl)
        exact ⟨out, ε6, by simp [e3, e4, e6], j6⟩
      | true =>
        obtain ⟨c, e, ε5, e5, ec, j5⟩ := ht rfl
        obtain ⟨out, ε6, e6, j6⟩ := ih (i + 1) (acc ++ [e]) _ hl' hi' (by simp; omega) j5
        refine ⟨e :: out, ε6, ?_, by simpa using j6⟩
        have hlt : acc.length < sizeLine := by omega
        have e6' : lcL ws ε1 bind tests elt own l (acc.length + 1) (wipeC ε5 own) = some (out, ε6) := by simpa using e6
        simp [e3, e4, e5, ec, hlt, e6']
  obtain ⟨out, ε3, e, j⟩ := main ds 0 [] _ rfl (Nat.zero_le _) (Nat.le_refl _) h0
  refine ⟨out, ε3, ?_, by simpa using j⟩
  unfold mLc
  have e' : lcL ws ε1 bind tests elt own ds 0 (wipeC ε1 own) = some (out, ε3) := by simpa using e
  simp only [hs, Option.bind_eq_bind, Option.bind_some, hw, if_true, e']
theorem cut_map {α β : Type} (f : α → β) (xs : List α) (lo hi : Option Int) : L2.M.cutL (xs.map f) lo hi = (L2.M.cutL xs lo hi).map f := by
  unfold L2.M.cutL
  simp [List.map_take, List.map_drop]
theorem cut_to {α : Type} (xs : List α) {i : Int} (h : 0 ≤ i) : L2.M.cutL xs none (some i) = xs.take i.toNat := by
  unfold L2.M.cutL HT.sIx
  simp only [if_neg (show ¬ i < 0 by omega), List.drop_zero, Nat.sub_zero]
  by_cases k : i.toNat ≤ xs.length
  · rw [Nat.min_eq_left k]
  · rw [Nat.min_eq_right (by omega), List.take_length, List.take_of_length_le (by omega)]
theorem cut_from {α : Type} (xs : List α) {i : Int} (h : 0 ≤ i) : L2.M.cutL xs (some i) none = xs.drop i.toNat := by
  unfold L2.M.cutL HT.sIx
  simp only [if_neg (show ¬ i < 0 by omega)]
  by_cases k : i.toNat ≤ xs.length
  · rw [Nat.min_eq_left k, List.take_of_length_le (by simp)]
  · rw [Nat.min_eq_right (by omega)]
    simp only [List.drop_length, List.take_nil]
    rw [List.drop_eq_nil_of_le (by omega)]
theorem cut_len {α : Type} (xs : List α) (lo hi : Option Int) : (L2.M.cutL xs lo hi).length ≤ xs.length := by
  unfold L2.M.cutL
  simp only [List.length_take, List.length_drop]
  omega
theorem cut_to1 {α : Type} (xs : List α) : L2.M.cutL xs none (some (-1)) = xs.dropLast := by
  unfold L2.M.cutL HT.sIx
  simp only [if_pos (show (-1 : Int) < 0 by omega)]
  have : (-1 + (xs.length : Int)).toNat = xs.length - 1 := by omega
  simp [this, List.dropLast_eq_take]
@[simp] def whole : PyData → Bool
  | .int _ => true
  | _ => false
def num (d : PyData) (lo hi : Int) : Bool := match d with
  | .int i => decide (lo ≤ i) && decide (i ≤ hi)
  | _ => false
def lay (n : Nat) (d : PyData) : Bool := d.canLay0 && decide (d.depth ≤ n)
theorem shaped_lay (d : PyData) : SeqAt.shaped d = lay 64 d := rfl
theorem lay_int (n : Nat) (i : Int) : lay n (.int i) = true := by simp [lay, PyData.canLay0, PyData.depth]
theorem lay_bool (n : Nat) (i : Bool) : lay n (.bool i) = true := by simp [lay, PyData.canLay0, PyData.depth]
theorem lay_none (n : Nat) : lay n .none = true := by simp [lay, PyData.canLay0, PyData.depth]
theorem lay_str (n : Nat) (s : Str) : lay n (.str s) = PyData.strOk s := by simp [lay, PyData.canLay0, PyData.depth]
theorem lay_dict (n : Nat) (s : List (PyData × PyData)) : lay n (.dict s) = false := by simp [lay, PyData.canLay0]
theorem lay_all (n : Nat) : ∀ ds : List PyData, (PyData.canLayAll0 ds && decide (PyData.depthAll ds ≤ n)) = ds.all (lay n)
  | [] => by simp [PyData.canLayAll0, PyData.depthAll]
  | d :: ds => by
    have ih := lay_all n ds
    simp only [PyData.canLayAll0, PyData.depthAll, List.all_cons, ← ih, lay]
    by_cases h1 : d.canLay0 = true <;> by_cases h2 : PyData.canLayAll0 ds = true <;> by_cases h3 : d.depth ≤ n <;> by_cases h4 : PyData.depthAll ds ≤ n <;> simp [h1, h2, h3, h4, Nat.max_le]
theorem lay_tup {n : Nat} (ds : List PyData) (h : 0 < n) : lay n (.tuple ds) = ds.all (lay (n - 1)) := by
  rw [← lay_all]
  simp only [lay, PyData.canLay0, PyData.depth]
  have : (PyData.depthAll ds + 1 ≤ n) = (PyData.depthAll ds ≤ n - 1) := by
    apply propext
    omega
  simp only [this]
theorem lay_list {n : Nat} (ds : List PyData) (h : 0 < n) : lay n (.list ds) = ds.all (lay (n - 1)) := by
  rw [← lay_all]
  simp only [lay, PyData.canLay0, PyData.depth]
  have : (PyData.depthAll ds + 1 ≤ n) = (PyData.depthAll ds ≤ n - 1) := by
    apply propext
    omega
  simp only [this]
theorem lay_ints (n : Nat) (ns : List Int) : (ns.map PyData.int).all (lay n) = true := by
  simp [List.all_map, lay_int]
theorem lay_mono {n m : Nat} {d : PyData} (h : n ≤ m) (l : lay n d = true) : lay m d = true := by
  simp only [lay, Bool.and_eq_true, decide_eq_true_eq] at l ⊢
  exact ⟨l.1, Nat.le_trans l.2 h⟩
end KW
namespace KW
open PySem PySem.Spec PyProof.Rows L2 L2.M
local macro_rules | `(tactic| walk_at "ev") => `(tactic| simp [semF, shared, after, mSeq, mSkip, mIf, mRet, mRetN, mRetV, mSet, mSetIx, mExpr, mB, mU, mTm, mPl, mK, mVar, mOp, mCons, mNil, bor, bors, mTst, mAndT, mOrT, mNotT, mAndE, mOrE, mNotE, mIfE, mIsi, isiD, mChn, chnL, cmpD, binD, addD, subD, mulD, modD, fdivD, powD, eqD, neD, ltD, leD, gtD, geD, isD, isnD, L2.M.isNon, negD, ixD, Bf.f, Bg.f, lenD, L2.M.intD, maxD, minD, repD, strD, gmaxD, gminD, sumD, sortD, anyD, allD, mCall, frz, fzO, lend, wb, mTup, mLst, fzs, cD, mAsg, bTup, bTps, mApp, tupD, lstD, mRev, revD, ofs_inj, ee_ii, ee_ss, ee_bb, ee_nn, ee_is, ee_si, ee_in, ee_ni, ee_tt, ee_ll, ee_maps, ee_0, ee_1, ee_2, ee_3, at_lit, at_nat, at_m1, at_m2, scD, emD, sizeLine_eq, ixN, sm_lit, mSrc, itemsD, plOf, rng1D, bNm, mSl, mPt, mNoP, slD, mPar, keepT, tmsO, setA, mFlow, zipX, enumX, itemsX, intsOf, ints_all, boolsOf, shaped_lay, lay_int, lay_bool, lay_none, lay_dict, lay_tup, lay_list, lay_ints, sortX_ints, mPlF, mPlI, mRd, mPU, mPB, mFSet, mFNew, mNSet, mPApp, mPSetIx, mPPop, mMeth, mNew, isIns, cellO, mLstN, mAddN, mAppN, semX, mTold, mCallX, xRet, xExpr, xSet, mRaise, mM, isL, isS, mOrV, truD])
local macro_rules | `(tactic| walk_at "es") => `(tactic| simp [semF, shared, after, mSeq, mSkip, mIf, mRet, mRetN, mRetV, mSet, mSetIx, mExpr, mB, mU, mTm, mPl, mK, mVar, mOp, mCons, mNil, bor, bors, mTst, mAndT, mOrT, mNotT, mAndE, mOrE, mNotE, mIfE, mIsi, isiD, mChn, chnL, cmpD, binD, addD, subD, mulD, modD, fdivD, powD, eqD, neD, ltD, leD, gtD, geD, isD, isnD, L2.M.isNon, negD, ixD, Bf.f, Bg.f, lenD, L2.M.intD, maxD, minD, repD, strD, gmaxD, gminD, sumD, sortD, anyD, allD, mCall, frz, fzO, lend, wb, mTup, mLst, fzs, cD, mAsg, bTup, bTps, mApp, tupD, lstD, mRev, revD, ofs_inj, ee_ii, ee_ss, ee_bb, ee_nn, ee_is, ee_si, ee_in, ee_ni, ee_tt, ee_ll, ee_maps, ee_0, ee_1, ee_2, ee_3, at_lit, at_nat, at_m1, at_m2, scD, emD, sizeLine_eq, ixN, sm_lit, mSrc, itemsD, plOf, rng1D, bNm, mSl, mPt, mNoP, slD, mPar, keepT, tmsO, setA, mFlow, zipX, enumX, itemsX, intsOf, ints_all, boolsOf, shaped_lay, lay_int, lay_bool, lay_none, lay_dict, lay_tup, lay_list, lay_ints, sortX_ints, mPlF, mPlI, mRd, mPU, mPB, mFSet, mFNew, mNSet, mPApp, mPSetIx, mPPop, mMeth, mNew, isIns, cellO, mLstN, mAddN, mAppN, semX, mTold, mCallX, xRet, xExpr, xSet, mRaise, mM, isL, isS, mOrV, truD, *])
local macro_rules | `(tactic| walk_at "el") => `(tactic| simp [semF, shared, after, mSeq, mSkip, mIf, mRet, mRetN, mRetV, mSet, mSetIx, mExpr, mB, mU, mTm, mPl, mK, mVar, mOp, mCons, mNil, bor, bors, mTst, mAndT, mOrT, mNotT, mAndE, mOrE, mNotE, mIfE, mIsi, isiD, mChn, chnL, cmpD, binD, addD, subD, mulD, modD, fdivD, powD, eqD, neD, ltD, leD, gtD, geD, isD, isnD, L2.M.isNon, negD, ixD, Bf.f, Bg.f, lenD, L2.M.intD, maxD, minD, repD, strD, gmaxD, gminD, sumD, sortD, anyD, allD, mCall, frz, fzO, lend, wb, mTup, mLst, fzs, cD, mAsg, bTup, bTps, mApp, tupD, lstD, mRev, revD, ofs_inj, ee_ii, ee_ss, ee_bb, ee_nn, ee_is, ee_si, ee_in, ee_ni, ee_tt, ee_ll, ee_maps, ee_0, ee_1, ee_2, ee_3, at_lit, at_nat, at_m1, at_m2, scD, emD, sizeLine_eq, ixN, sm_lit, mSrc, itemsD, plOf, rng1D, bNm, mSl, mPt, mNoP, slD, mPar, keepT, tmsO, setA, mFlow, zipX, enumX, itemsX, intsOf, ints_all, boolsOf, shaped_lay, lay_int, lay_bool, lay_none, lay_dict, lay_tup, lay_list, lay_ints, sortX_ints, mPlF, mPlI, mRd, mPU, mPB, mFSet, mFNew, mNSet, mPApp, mPSetIx, mPPop, mMeth, mNew, isIns, cellO, mLstN, mAddN, mAppN, semX, mTold, mCallX, xRet, xExpr, xSet, mRaise, mM, isL, isS, mOrV, truD, mLc, lcL, sameC, wipeC, restC, mYes, *])
local macro_rules | `(tactic| walk_at "ef") => `(tactic| simp [semF, shared, after, mSeq, mSkip, mIf, mRet, mRetN, mRetV, mSet, mSetIx, mExpr, mB, mU, mTm, mPl, mK, mVar, mOp, mCons, mNil, bor, bors, mTst, mAndT, mOrT, mNotT, mAndE, mOrE, mNotE, mIfE, mIsi, isiD, mChn, chnL, cmpD, binD, addD, subD, mulD, modD, fdivD, powD, eqD, neD, ltD, leD, gtD, geD, isD, isnD, L2.M.isNon, negD, ixD, Bf.f, Bg.f, lenD, L2.M.intD, maxD, minD, repD, strD, gmaxD, gminD, sumD, sortD, anyD, allD, mCall, frz, fzO, lend, wb, mTup, mLst, fzs, cD, mAsg, bTup, bTps, mApp, tupD, lstD, mRev, revD, ofs_inj, ee_ii, ee_ss, ee_bb, ee_nn, ee_is, ee_si, ee_in, ee_ni, ee_tt, ee_ll, ee_maps, ee_0, ee_1, ee_2, ee_3, at_lit, at_nat, at_m1, at_m2, scD, emD, sizeLine_eq, ixN, sm_lit, mSrc, itemsD, plOf, rng1D, bNm, mSl, mPt, mNoP, slD, mPar, keepT, tmsO, setA, mFlow, zipX, enumX, itemsX, intsOf, ints_all, boolsOf, shaped_lay, lay_int, lay_bool, lay_none, lay_dict, lay_tup, lay_list, lay_ints, sortX_ints, mPlF, mPlI, mRd, mPU, mPB, mFSet, mFNew, mNSet, mPApp, mPSetIx, mPPop, mMeth, mNew, isIns, cellO, mLstN, mAddN, mAppN, semX, mTold, mCallX, xRet, xExpr, xSet, mRaise, mM, isL, isS, mOrV, truD, mFor, forL, mLc, lcL, sameC, wipeC, restC, mYes, *])
local macro_rules | `(tactic| walk_at "rg") => `(tactic| (and_intros <;> grind))
local macro_rules | `(tactic| walk_at "nx") => `(tactic| (apply wx_nx; focus (walk_at "ev"; try first | exact ⟨rfl, rfl⟩ | rfl)))
local macro_rules | `(tactic| walk_at "ns") => `(tactic| (apply wx_nx; focus (walk_at "es"; try first | exact ⟨rfl, rfl⟩ | rfl)))
local macro_rules | `(tactic| walk_at "rt") => `(tactic| (apply wx_rt; focus (walk_at "ev"; try first | exact ⟨rfl, rfl⟩ | rfl)))
local macro_rules | `(tactic| walk_at "rs") => `(tactic| (apply wx_rt; focus (walk_at "es"; try first | exact ⟨rfl, rfl⟩ | rfl)))
local macro_rules | `(tactic| walk_at "ed") => `(tactic| simp [semF, shared, after, mSeq, mSkip, mIf, mRet, mRetN, mRetV, mSet, mSetIx, mExpr, mB, mU, mTm, mPl, mK, mVar, mOp, mCons, mNil, bor, bors, mTst, mAndT, mOrT, mNotT, mAndE, mOrE, mNotE, mIfE, mIsi, isiD, mChn, chnL, cmpD, binD, addD, subD, mulD, modD, fdivD, powD, eqD, neD, ltD, leD, gtD, geD, isD, isnD, L2.M.isNon, negD, ixD, Bf.f, Bg.f, lenD, L2.M.intD, maxD, minD, repD, strD, gmaxD, gminD, sumD, sortD, anyD, allD, mCall, frz, fzO, lend, wb, mTup, mLst, fzs, cD, mAsg, bTup, bTps, mApp, tupD, lstD, mRev, revD, ofs_inj, ee_ii, ee_ss, ee_bb, ee_nn, ee_is, ee_si, ee_in, ee_ni, ee_tt, ee_ll, ee_maps, ee_0, ee_1, ee_2, ee_3, at_lit, at_nat, at_m1, at_m2, scD, emD, sizeLine_eq, ixN, sm_lit, mSrc, itemsD, plOf, rng1D, bNm, mSl, mPt, mNoP, slD, mPar, keepT, tmsO, setA, mFlow, zipX, enumX, itemsX, intsOf, ints_all, boolsOf, shaped_lay, lay_int, lay_bool, lay_none, lay_dict, lay_tup, lay_list, lay_ints, sortX_ints, mPlF, mPlI, mRd, mPU, mPB, mFSet, mFNew, mNSet, mPApp, mPSetIx, mPPop, mMeth, mNew, isIns, cellO, mLstN, mAddN, mAppN, semX, mTold, mCallX, xRet, xExpr, xSet, mRaise, mM, isL, isS, mOrV, truD, mDNew, mDIn, mDGet, mDLen, mDPut, kyD, mNNew, mN1, mTake, mFnV, mCallF, mNIn, mNGet, mNPut, mNVals, mNList, nKs, mDGetD, mDList, mNNe, *])
section
variable {m n : EM} {ε ε1 ε2 : Cs} {c c1 c2 c' : C} {d d1 d2 : PyData} {io : List Nat} {i : Nat} {b : Bool}
theorem e_op1 {f : List PyData → Option C} (h : m ε = some (c, ε1)) (hd : cD c = some d) (hf : f [d] = some c') : mOp f (mCons (mTm m) mNil) ε = some (c', ε1) := by
  cases c <;> simp [cD] at hd <;> subst hd <;> simp [mOp, mCons, mTm, mNil, h, bors, bor, hf]
end
theorem set_back {ε : Cs} {i : Nat} {c0 c1 : C} (h : ε[i]? = some c0) : (ε.set i c1).set i c0 = ε := by
  rw [List.set_set]
  apply List.ext_getElem?
  intro j
  by_cases ej : i = j
  · subst ej
    rw [List.getElem?_set_self (List.getElem?_eq_some_iff.mp h).1, h]
  · rw [List.getElem?_set_ne ej]
/-- a comprehension over items of one form -/
theorem mLc_enc {α : Type} (f e : α → PyData) {i : Nat} {src : SM} {m : EM} {ε ε1 : Cs} {xs : List α} {c0 : C} {ws : List Nat} (hs : src ε = some ((xs.map f, ws), ε1)) (h1 : ε1[i]? = some c0) (h : ∀ x ∈ xs, ∃ c, m (ε1.set i (.sh (f x))) = some (c, ε1.set i (.sh (f x))) ∧ cD c = some (e x)) (hn : xs.length ≤ sizeLine) (hw : ws.all (fun j => !([i] : List Nat).contains j) = true := by rfl) :
    mLc src (bNm i) mYes m [i] ε = some (.ls (xs.map e), ε1) := by
  have hl : i < ε1.length := (List.getElem?_eq_some_iff.mp h1).1
  have hsm : sameC ws ε1 (ε1.set i .no) := by
    intro j hj
    have := List.all_eq_true.mp hw j hj
    have ne : i ≠ j := by
      rintro rfl
      simp at this
    rw [List.getElem?_set_ne ne]
  obtain ⟨out, ε2, e1, e2, e3⟩ := lc_rule (src := src) (bind := bNm i) (tests := mYes) (elt := m) (own := [i]) (ε := ε) (fun k out ε2 => out = (xs.take k).map e ∧ ε2 = ε1.set i .no) hs hw ⟨by simp, by simp [wipeC]⟩ (fun _ _ _ h => by rw [h.2]; exact hsm) (by simpa using hn) (by
    rintro k d out ε2 hd ⟨rfl, rfl⟩
    rw [List.getElem?_map] at hd
    obtain ⟨x, hx, rfl⟩ := Option.map_eq_some_iff.mp hd
    obtain ⟨hk, rfl⟩ := List.getElem?_eq_some_iff.mp hx
    obtain ⟨c, g1, g2⟩ := h _ (List.getElem_mem hk)
    refine ⟨ε1.set i (.sh (f xs[k])), true, _, by simp [bNm, hl], rfl, fun z => (by cases z), fun _ => ⟨c, _, _, g1, g2, ?_, ?_⟩⟩
    · rw [List.take_succ_eq_append_getElem hk, List.map_append]
      rfl
    · simp [wipeC])
  subst e3
  rw [List.length_map, List.take_of_length_le (Nat.le_refl _)] at e2
  subst e2
  rw [e1]
  simp only [restC, h1]
  rw [set_back h1]
/-- all([w(x) for x in xs]), w a test of one thing that all are -/
theorem mLc_yes {i : Nat} {src : SM} {m : EM} {ε ε1 : Cs} {ds : List PyData} {c0 : C} {ws : List Nat} (hs : src ε = some ((ds, ws), ε1)) (h1 : ε1[i]? = some c0) (h : ∀ d ∈ ds, m (ε1.set i (.sh d)) = some (.sh (.bool true), ε1.set i (.sh d))) (hn : ds.length ≤ sizeLine) (hw : ws.all (fun j => !([i] : List Nat).contains j) = true := by rfl) :
    mOp (Bg.f .all) (mCons (mTm (mLc src (bNm i) mYes m [i])) mNil) ε = some (.sh (.bool true), ε1) := by
  refine e_op1 (mLc_enc id (fun _ => .bool true) (by rw [List.map_id]; exact hs) h1 (fun d hd => ⟨_, h d hd, rfl⟩) hn hw) rfl ?_
  have : ∀ ds : List PyData, boolsOf (ds.map fun _ => PyData.bool true) = some (ds.map fun _ => true) := fun ds => bools_map (fun _ => true) ds
  simp [Bg.f, allD, this]
end KW
namespace KW
open PySem PySem.Spec PyProof.Rows L2 L2.M
local macro_rules | `(tactic| walk_at "ev") => `(tactic| simp [semF, shared, after, mSeq, mSkip, mIf, mRet, mRetN, mRetV, mSet, mSetIx, mExpr, mB, mU, mTm, mPl, mK, mVar, mOp, mCons, mNil, bor, bors, mTst, mAndT, mOrT, mNotT, mAndE, mOrE, mNotE, mIfE, mIsi, isiD, mChn, chnL, cmpD, binD, addD, subD, mulD, modD, fdivD, powD, eqD, neD, ltD, leD, gtD, geD, isD, isnD, L2.M.isNon, negD, ixD, Bf.f, Bg.f, lenD, L2.M.intD, maxD, minD, repD, strD, gmaxD, gminD, sumD, sortD, anyD, allD, mCall, frz, fzO, lend, wb, mTup, mLst, fzs, cD, mAsg, bTup, bTps, mApp, tupD, lstD, mRev, revD, ofs_inj, ee_ii, ee_ss, ee_bb, ee_nn, ee_is, ee_si, ee_in, ee_ni, ee_tt, ee_ll, ee_maps, ee_0, ee_1, ee_2, ee_3, at_lit, at_nat, at_m1, at_m2, scD, emD, sizeLine_eq, ixN, sm_lit, mSrc, itemsD, plOf, rng1D, bNm, mSl, mPt, mNoP, slD, mPar, keepT, tmsO, setA, mFlow, zipX, enumX, itemsX, intsOf, ints_all, boolsOf, shaped_lay, lay_int, lay_bool, lay_none, lay_dict, lay_tup, lay_list, lay_ints, sortX_ints, mPlF, mPlI, mRd, mPU, mPB, mFSet, mFNew, mNSet, mPApp, mPSetIx, mPPop, mMeth, mNew, isIns, cellO, mLstN, mAddN, mAppN, semX, mTold, mCallX, xRet, xExpr, xSet, mRaise, mM, isL, isS, mOrV, truD])
local macro_rules | `(tactic| walk_at "es") => `(tactic| simp [semF, shared, after, mSeq, mSkip, mIf, mRet, mRetN, mRetV, mSet, mSetIx, mExpr, mB, mU, mTm, mPl, mK, mVar, mOp, mCons, mNil, bor, bors, mTst, mAndT, mOrT, mNotT, mAndE, mOrE, mNotE, mIfE, mIsi, isiD, mChn, chnL, cmpD, binD, addD, subD, mulD, modD, fdivD, powD, eqD, neD, ltD, leD, gtD, geD, isD, isnD, L2.M.isNon, negD, ixD, Bf.f, Bg.f, lenD, L2.M.intD, maxD, minD, repD, strD, gmaxD, gminD, sumD, sortD, anyD, allD, mCall, frz, fzO, lend, wb, mTup, mLst, fzs, cD, mAsg, bTup, bTps, mApp, tupD, lstD, mRev, revD, ofs_inj, ee_ii, ee_ss, ee_bb, ee_nn, ee_is, ee_si, ee_in, ee_ni, ee_tt, ee_ll, ee_maps, ee_0, ee_1, ee_2, ee_3, at_lit, at_nat, at_m1, at_m2, scD, emD, sizeLine_eq, ixN, sm_lit, mSrc, itemsD, plOf, rng1D, bNm, mSl, mPt, mNoP, slD, mPar, keepT, tmsO, setA, mFlow, zipX, enumX, itemsX, intsOf, ints_all, boolsOf, shaped_lay, lay_int, lay_bool, lay_none, lay_dict, lay_tup, lay_list, lay_ints, sortX_ints, mPlF, mPlI, mRd, mPU, mPB, mFSet, mFNew, mNSet, mPApp, mPSetIx, mPPop, mMeth, mNew, isIns, cellO, mLstN, mAddN, mAppN, semX, mTold, mCallX, xRet, xExpr, xSet, mRaise, mM, isL, isS, mOrV, truD, *])
local macro_rules | `(tactic| walk_at "el") => `(tactic| simp [semF, shared, after, mSeq, mSkip, mIf, mRet, mRetN, mRetV, mSet, mSetIx, mExpr, mB, mU, mTm, mPl, mK, mVar, mOp, mCons, mNil, bor, bors, mTst, mAndT, mOrT, mNotT, mAndE, mOrE, mNotE, mIfE, mIsi, isiD, mChn, chnL, cmpD, binD, addD, subD, mulD, modD, fdivD, powD, eqD, neD, ltD, leD, gtD, geD, isD, isnD, L2.M.isNon, negD, ixD, Bf.f, Bg.f, lenD, L2.M.intD, maxD, minD, repD, strD, gmaxD, gminD, sumD, sortD, anyD, allD, mCall, frz, fzO, lend, wb, mTup, mLst, fzs, cD, mAsg, bTup, bTps, mApp, tupD, lstD, mRev, revD, ofs_inj, ee_ii, ee_ss, ee_bb, ee_nn, ee_is, ee_si, ee_in, ee_ni, ee_tt, ee_ll, ee_maps, ee_0, ee_1, ee_2, ee_3, at_lit, at_nat, at_m1, at_m2, scD, emD, sizeLine_eq, ixN, sm_lit, mSrc, itemsD, plOf, rng1D, bNm, mSl, mPt, mNoP, slD, mPar, keepT, tmsO, setA, mFlow, zipX, enumX, itemsX, intsOf, ints_all, boolsOf, shaped_lay, lay_int, lay_bool, lay_none, lay_dict, lay_tup, lay_list, lay_ints, sortX_ints, mPlF, mPlI, mRd, mPU, mPB, mFSet, mFNew, mNSet, mPApp, mPSetIx, mPPop, mMeth, mNew, isIns, cellO, mLstN, mAddN, mAppN, semX, mTold, mCallX, xRet, xExpr, xSet, mRaise, mM, isL, isS, mOrV, truD, mLc, lcL, sameC, wipeC, restC, mYes, *])
local macro_rules | `(tactic| walk_at "ef") => `(tactic| simp [semF, shared, after, mSeq, mSkip, mIf, mRet, mRetN, mRetV, mSet, mSetIx, mExpr, mB, mU, mTm, mPl, mK, mVar, mOp, mCons, mNil, bor, bors, mTst, mAndT, mOrT, mNotT, mAndE, mOrE, mNotE, mIfE, mIsi, isiD, mChn, chnL, cmpD, binD, addD, subD, mulD, modD, fdivD, powD, eqD, neD, ltD, leD, gtD, geD, isD, isnD, L2.M.isNon, negD, ixD, Bf.f, Bg.f, lenD, L2.M.intD, maxD, minD, repD, strD, gmaxD, gminD, sumD, sortD, anyD, allD, mCall, frz, fzO, lend, wb, mTup, mLst, fzs, cD, mAsg, bTup, bTps, mApp, tupD, lstD, mRev, revD, ofs_inj, ee_ii, ee_ss, ee_bb, ee_nn, ee_is, ee_si, ee_in, ee_ni, ee_tt, ee_ll, ee_maps, ee_0, ee_1, ee_2, ee_3, at_lit, at_nat, at_m1, at_m2, scD, emD, sizeLine_eq, ixN, sm_lit, mSrc, itemsD, plOf, rng1D, bNm, mSl, mPt, mNoP, slD, mPar, keepT, tmsO, setA, mFlow, zipX, enumX, itemsX, intsOf, ints_all, boolsOf, shaped_lay, lay_int, lay_bool, lay_none, lay_dict, lay_tup, lay_list, lay_ints, sortX_ints, mPlF, mPlI, mRd, mPU, mPB, mFSet, mFNew, mNSet, mPApp, mPSetIx, mPPop, mMeth, mNew, isIns, cellO, mLstN, mAddN, mAppN, semX, mTold, mCallX, xRet, xExpr, xSet, mRaise, mM, isL, isS, mOrV, truD, mFor, forL, mLc, lcL, sameC, wipeC, restC, mYes, *])
local macro_rules | `(tactic| walk_at "rg") => `(tactic| (and_intros <;> grind))
local macro_rules | `(tactic| walk_at "nx") => `(tactic| (apply wx_nx; focus (walk_at "ev"; try first | exact ⟨rfl, rfl⟩ | rfl)))
local macro_rules | `(tactic| walk_at "ns") => `(tactic| (apply wx_nx; focus (walk_at "es"; try first | exact ⟨rfl, rfl⟩ | rfl)))
local macro_rules | `(tactic| walk_at "rt") => `(tactic| (apply wx_rt; focus (walk_at "ev"; try first | exact ⟨rfl, rfl⟩ | rfl)))
local macro_rules | `(tactic| walk_at "rs") => `(tactic| (apply wx_rt; focus (walk_at "es"; try first | exact ⟨rfl, rfl⟩ | rfl)))
local macro_rules | `(tactic| walk_at "ed") => `(tactic| simp [semF, shared, after, mSeq, mSkip, mIf, mRet, mRetN, mRetV, mSet, mSetIx, mExpr, mB, mU, mTm, mPl, mK, mVar, mOp, mCons, mNil, bor, bors, mTst, mAndT, mOrT, mNotT, mAndE, mOrE, mNotE, mIfE, mIsi, isiD, mChn, chnL, cmpD, binD, addD, subD, mulD, modD, fdivD, powD, eqD, neD, ltD, leD, gtD, geD, isD, isnD, L2.M.isNon, negD, ixD, Bf.f, Bg.f, lenD, L2.M.intD, maxD, minD, repD, strD, gmaxD, gminD, sumD, sortD, anyD, allD, mCall, frz, fzO, lend, wb, mTup, mLst, fzs, cD, mAsg, bTup, bTps, mApp, tupD, lstD, mRev, revD, ofs_inj, ee_ii, ee_ss, ee_bb, ee_nn, ee_is, ee_si, ee_in, ee_ni, ee_tt, ee_ll, ee_maps, ee_0, ee_1, ee_2, ee_3, at_lit, at_nat, at_m1, at_m2, scD, emD, sizeLine_eq, ixN, sm_lit, mSrc, itemsD, plOf, rng1D, bNm, mSl, mPt, mNoP, slD, mPar, keepT, tmsO, setA, mFlow, zipX, enumX, itemsX, intsOf, ints_all, boolsOf, shaped_lay, lay_int, lay_bool, lay_none, lay_dict, lay_tup, lay_list, lay_ints, sortX_ints, mPlF, mPlI, mRd, mPU, mPB, mFSet, mFNew, mNSet, mPApp, mPSetIx, mPPop, mMeth, mNew, isIns, cellO, mLstN, mAddN, mAppN, semX, mTold, mCallX, xRet, xExpr, xSet, mRaise, mM, isL, isS, mOrV, truD, mDNew, mDIn, mDGet, mDLen, mDPut, kyD, mNNew, mN1, mTake, mFnV, mCallF, mNIn, mNGet, mNPut, mNVals, mNList, nKs, mDGetD, mDList, mNNe, *])
structure Shw (k n : Nat) (d : PyData) : Prop where
  l : lay k d = true
  s : d.showable = true
  z : d.shown.length ≤ n
theorem Shw.mono {k k' n n' : Nat} {d : PyData} (h : Shw k n d) (hk : k ≤ k') (hn : n ≤ n') : Shw k' n' d := ⟨lay_mono hk h.l, h.s, Nat.le_trans h.z hn⟩
end KW
namespace KW
open PySem PySem.Spec PyProof.Rows L2 L2.M
local macro_rules | `(tactic| walk_at "ev") => `(tactic| simp [semF, shared, after, mSeq, mSkip, mIf, mRet, mRetN, mRetV, mSet, mSetIx, mExpr, mB, mU, mTm, mPl, mK, mVar, mOp, mCons, mNil, bor, bors, mTst, mAndT, mOrT, mNotT, mAndE, mOrE, mNotE, mIfE, mIsi, isiD, mChn, chnL, cmpD, binD, addD, subD, mulD, modD, fdivD, powD, eqD, neD, ltD, leD, gtD, geD, isD, isnD, L2.M.isNon, negD, ixD, Bf.f, Bg.f, lenD, L2.M.intD, maxD, minD, repD, strD, gmaxD, gminD, sumD, sortD, anyD, allD, mCall, frz, fzO, lend, wb, mTup, mLst, fzs, cD, mAsg, bTup, bTps, mApp, tupD, lstD, mRev, revD, ofs_inj, ee_ii, ee_ss, ee_bb, ee_nn, ee_is, ee_si, ee_in, ee_ni, ee_tt, ee_ll, ee_maps, ee_0, ee_1, ee_2, ee_3, at_lit, at_nat, at_m1, at_m2, scD, emD, sizeLine_eq, ixN, sm_lit, mSrc, itemsD, plOf, rng1D, bNm, mSl, mPt, mNoP, slD, mPar, keepT, tmsO, setA, mFlow, zipX, enumX, itemsX, intsOf, ints_all, boolsOf, shaped_lay, lay_int, lay_bool, lay_none, lay_dict, lay_tup, lay_list, lay_ints, sortX_ints, mPlF, mPlI, mRd, mPU, mPB, mFSet, mFNew, mNSet, mPApp, mPSetIx, mPPop, mMeth, mNew, isIns, cellO, mLstN, mAddN, mAppN, semX, mTold, mCallX, xRet, xExpr, xSet, mRaise, mM, isL, isS, mOrV, truD])
local macro_rules | `(tactic| walk_at "es") => `(tactic| simp [semF, shared, after, mSeq, mSkip, mIf, mRet, mRetN, mRetV, mSet, mSetIx, mExpr, mB, mU, mTm, mPl, mK, mVar, mOp, mCons, mNil, bor, bors, mTst, mAndT, mOrT, mNotT, mAndE, mOrE, mNotE, mIfE, mIsi, isiD, mChn, chnL, cmpD, binD, addD, subD, mulD, modD, fdivD, powD, eqD, neD, ltD, leD, gtD, geD, isD, isnD, L2.M.isNon, negD, ixD, Bf.f, Bg.f, lenD, L2.M.intD, maxD, minD, repD, strD, gmaxD, gminD, sumD, sortD, anyD, allD, mCall, frz, fzO, lend, wb, mTup, mLst, fzs, cD, mAsg, bTup, bTps, mApp, tupD, lstD, mRev, revD, ofs_inj, ee_ii, ee_ss, ee_bb, ee_nn, ee_is, ee_si, ee_in, ee_ni, ee_tt, ee_ll, ee_maps, ee_0, ee_1, ee_2, ee_3, at_lit, at_nat, at_m1, at_m2, scD, emD, sizeLine_eq, ixN, sm_lit, mSrc, itemsD, plOf, rng1D, bNm, mSl, mPt, mNoP, slD, mPar, keepT, tmsO, setA, mFlow, zipX, enumX, itemsX, intsOf, ints_all, boolsOf, shaped_lay, lay_int, lay_bool, lay_none, lay_dict, lay_tup, lay_list, lay_ints, sortX_ints, mPlF, mPlI, mRd, mPU, mPB, mFSet, mFNew, mNSet, mPApp, mPSetIx, mPPop, mMeth, mNew, isIns, cellO, mLstN, mAddN, mAppN, semX, mTold, mCallX, xRet, xExpr, xSet, mRaise, mM, isL, isS, mOrV, truD, *])
local macro_rules | `(tactic| walk_at "el") => `(tactic| simp [semF, shared, after, mSeq, mSkip, mIf, mRet, mRetN, mRetV, mSet, mSetIx, mExpr, mB, mU, mTm, mPl, mK, mVar, mOp, mCons, mNil, bor, bors, mTst, mAndT, mOrT, mNotT, mAndE, mOrE, mNotE, mIfE, mIsi, isiD, mChn, chnL, cmpD, binD, addD, subD, mulD, modD, fdivD, powD, eqD, neD, ltD, leD, gtD, geD, isD, isnD, L2.M.isNon, negD, ixD, Bf.f, Bg.f, lenD, L2.M.intD, maxD, minD, repD, strD, gmaxD, gminD, sumD, sortD, anyD, allD, mCall, frz, fzO, lend, wb, mTup, mLst, fzs, cD, mAsg, bTup, bTps, mApp, tupD, lstD, mRev, revD, ofs_inj, ee_ii, ee_ss, ee_bb, ee_nn, ee_is, ee_si, ee_in, ee_ni, ee_tt, ee_ll, ee_maps, ee_0, ee_1, ee_2, ee_3, at_lit, at_nat, at_m1, at_m2, scD, emD, sizeLine_eq, ixN, sm_lit, mSrc, itemsD, plOf, rng1D, bNm, mSl, mPt, mNoP, slD, mPar, keepT, tmsO, setA, mFlow, zipX, enumX, itemsX, intsOf, ints_all, boolsOf, shaped_lay, lay_int, lay_bool, lay_none, lay_dict, lay_tup, lay_list, lay_ints, sortX_ints, mPlF, mPlI, mRd, mPU, mPB, mFSet, mFNew, mNSet, mPApp, mPSetIx, mPPop, mMeth, mNew, isIns, cellO, mLstN, mAddN, mAppN, semX, mTold, mCallX, xRet, xExpr, xSet, mRaise, mM, isL, isS, mOrV, truD, mLc, lcL, sameC, wipeC, restC, mYes, *])
local macro_rules | `(tactic| walk_at "ef") => `(tactic| simp [semF, shared, after, mSeq, mSkip, mIf, mRet, mRetN, mRetV, mSet, mSetIx, mExpr, mB, mU, mTm, mPl, mK, mVar, mOp, mCons, mNil, bor, bors, mTst, mAndT, mOrT, mNotT, mAndE, mOrE, mNotE, mIfE, mIsi, isiD, mChn, chnL, cmpD, binD, addD, subD, mulD, modD, fdivD, powD, eqD, neD, ltD, leD, gtD, geD, isD, isnD, L2.M.isNon, negD, ixD, Bf.f, Bg.f, lenD, L2.M.intD, maxD, minD, repD, strD, gmaxD, gminD, sumD, sortD, anyD, allD, mCall, frz, fzO, lend, wb, mTup, mLst, fzs, cD, mAsg, bTup, bTps, mApp, tupD, lstD, mRev, revD, ofs_inj, ee_ii, ee_ss, ee_bb, ee_nn, ee_is, ee_si, ee_in, ee_ni, ee_tt, ee_ll, ee_maps, ee_0, ee_1, ee_2, ee_3, at_lit, at_nat, at_m1, at_m2, scD, emD, sizeLine_eq, ixN, sm_lit, mSrc, itemsD, plOf, rng1D, bNm, mSl, mPt, mNoP, slD, mPar, keepT, tmsO, setA, mFlow, zipX, enumX, itemsX, intsOf, ints_all, boolsOf, shaped_lay, lay_int, lay_bool, lay_none, lay_dict, lay_tup, lay_list, lay_ints, sortX_ints, mPlF, mPlI, mRd, mPU, mPB, mFSet, mFNew, mNSet, mPApp, mPSetIx, mPPop, mMeth, mNew, isIns, cellO, mLstN, mAddN, mAppN, semX, mTold, mCallX, xRet, xExpr, xSet, mRaise, mM, isL, isS, mOrV, truD, mFor, forL, mLc, lcL, sameC, wipeC, restC, mYes, *])
local macro_rules | `(tactic| walk_at "rg") => `(tactic| (and_intros <;> grind))
local macro_rules | `(tactic| walk_at "nx") => `(tactic| (apply wx_nx; focus (walk_at "ev"; try first | exact ⟨rfl, rfl⟩ | rfl)))
local macro_rules | `(tactic| walk_at "ns") => `(tactic| (apply wx_nx; focus (walk_at "es"; try first | exact ⟨rfl, rfl⟩ | rfl)))
local macro_rules | `(tactic| walk_at "rt") => `(tactic| (apply wx_rt; focus (walk_at "ev"; try first | exact ⟨rfl, rfl⟩ | rfl)))
local macro_rules | `(tactic| walk_at "rs") => `(tactic| (apply wx_rt; focus (walk_at "es"; try first | exact ⟨rfl, rfl⟩ | rfl)))
local macro_rules | `(tactic| walk_at "ed") => `(tactic| simp [semF, shared, after, mSeq, mSkip, mIf, mRet, mRetN, mRetV, mSet, mSetIx, mExpr, mB, mU, mTm, mPl, mK, mVar, mOp, mCons, mNil, bor, bors, mTst, mAndT, mOrT, mNotT, mAndE, mOrE, mNotE, mIfE, mIsi, isiD, mChn, chnL, cmpD, binD, addD, subD, mulD, modD, fdivD, powD, eqD, neD, ltD, leD, gtD, geD, isD, isnD, L2.M.isNon, negD, ixD, Bf.f, Bg.f, lenD, L2.M.intD, maxD, minD, repD, strD, gmaxD, gminD, sumD, sortD, anyD, allD, mCall, frz, fzO, lend, wb, mTup, mLst, fzs, cD, mAsg, bTup, bTps, mApp, tupD, lstD, mRev, revD, ofs_inj, ee_ii, ee_ss, ee_bb, ee_nn, ee_is, ee_si, ee_in, ee_ni, ee_tt, ee_ll, ee_maps, ee_0, ee_1, ee_2, ee_3, at_lit, at_nat, at_m1, at_m2, scD, emD, sizeLine_eq, ixN, sm_lit, mSrc, itemsD, plOf, rng1D, bNm, mSl, mPt, mNoP, slD, mPar, keepT, tmsO, setA, mFlow, zipX, enumX, itemsX, intsOf, ints_all, boolsOf, shaped_lay, lay_int, lay_bool, lay_none, lay_dict, lay_tup, lay_list, lay_ints, sortX_ints, mPlF, mPlI, mRd, mPU, mPB, mFSet, mFNew, mNSet, mPApp, mPSetIx, mPPop, mMeth, mNew, isIns, cellO, mLstN, mAddN, mAppN, semX, mTold, mCallX, xRet, xExpr, xSet, mRaise, mM, isL, isS, mOrV, truD, mDNew, mDIn, mDGet, mDLen, mDPut, kyD, mNNew, mN1, mTake, mFnV, mCallF, mNIn, mNGet, mNPut, mNVals, mNList, nKs, mDGetD, mDList, mNNe, *])
end KW
namespace KW
open PySem PySem.Spec PyProof.Rows L2 L2.M
local macro_rules | `(tactic| walk_at "ev") => `(tactic| simp [semF, shared, after, mSeq, mSkip, mIf, mRet, mRetN, mRetV, mSet, mSetIx, mExpr, mB, mU, mTm, mPl, mK, mVar, mOp, mCons, mNil, bor, bors, mTst, mAndT, mOrT, mNotT, mAndE, mOrE, mNotE, mIfE, mIsi, isiD, mChn, chnL, cmpD, binD, addD, subD, mulD, modD, fdivD, powD, eqD, neD, ltD, leD, gtD, geD, isD, isnD, L2.M.isNon, negD, ixD, Bf.f, Bg.f, lenD, L2.M.intD, maxD, minD, repD, strD, gmaxD, gminD, sumD, sortD, anyD, allD, mCall, frz, fzO, lend, wb, mTup, mLst, fzs, cD, mAsg, bTup, bTps, mApp, tupD, lstD, mRev, revD, ofs_inj, ee_ii, ee_ss, ee_bb, ee_nn, ee_is, ee_si, ee_in, ee_ni, ee_tt, ee_ll, ee_maps, ee_0, ee_1, ee_2, ee_3, at_lit, at_nat, at_m1, at_m2, scD, emD, sizeLine_eq, ixN, sm_lit, mSrc, itemsD, plOf, rng1D, bNm, mSl, mPt, mNoP, slD, mPar, keepT, tmsO, setA, mFlow, zipX, enumX, itemsX, intsOf, ints_all, boolsOf, shaped_lay, lay_int, lay_bool, lay_none, lay_dict, lay_tup, lay_list, lay_ints, sortX_ints, mPlF, mPlI, mRd, mPU, mPB, mFSet, mFNew, mNSet, mPApp, mPSetIx, mPPop, mMeth, mNew, isIns, cellO, mLstN, mAddN, mAppN, semX, mTold, mCallX, xRet, xExpr, xSet, mRaise, mM, isL, isS, mOrV, truD])
local macro_rules | `(tactic| walk_at "es") => `(tactic| simp [semF, shared, after, mSeq, mSkip, mIf, mRet, mRetN, mRetV, mSet, mSetIx, mExpr, mB, mU, mTm, mPl, mK, mVar, mOp, mCons, mNil, bor, bors, mTst, mAndT, mOrT, mNotT, mAndE, mOrE, mNotE, mIfE, mIsi, isiD, mChn, chnL, cmpD, binD, addD, subD, mulD, modD, fdivD, powD, eqD, neD, ltD, leD, gtD, geD, isD, isnD, L2.M.isNon, negD, ixD, Bf.f, Bg.f, lenD, L2.M.intD, maxD, minD, repD, strD, gmaxD, gminD, sumD, sortD, anyD, allD, mCall, frz, fzO, lend, wb, mTup, mLst, fzs, cD, mAsg, bTup, bTps, mApp, tupD, lstD, mRev, revD, ofs_inj, ee_ii, ee_ss, ee_bb, ee_nn, ee_is, ee_si, ee_in, ee_ni, ee_tt, ee_ll, ee_maps, ee_0, ee_1, ee_2, ee_3, at_lit, at_nat, at_m1, at_m2, scD, emD, sizeLine_eq, ixN, sm_lit, mSrc, itemsD, plOf, rng1D, bNm, mSl, mPt, mNoP, slD, mPar, keepT, tmsO, setA, mFlow, zipX, enumX, itemsX, intsOf, ints_all, boolsOf, shaped_lay, lay_int, lay_bool, lay_none, lay_dict, lay_tup, lay_list, lay_ints, sortX_ints, mPlF, mPlI, mRd, mPU, mPB, mFSet, mFNew, mNSet, mPApp, mPSetIx, mPPop, mMeth, mNew, isIns, cellO, mLstN, mAddN, mAppN, semX, mTold, mCallX, xRet, xExpr, xSet, mRaise, mM, isL, isS, mOrV, truD, *])
local macro_rules | `(tactic| walk_at "el") => `(tactic| simp [semF, shared, after, mSeq, mSkip, mIf, mRet, mRetN, mRetV, mSet, mSetIx, mExpr, mB, mU, mTm, mPl, mK, mVar, mOp, mCons, mNil, bor, bors, mTst, mAndT, mOrT, mNotT, mAndE, mOrE, mNotE, mIfE, mIsi, isiD, mChn, chnL, cmpD, binD, addD, subD, mulD, modD, fdivD, powD, eqD, neD, ltD, leD, gtD, geD, isD, isnD, L2.M.isNon, negD, ixD, Bf.f, Bg.f, lenD, L2.M.intD, maxD, minD, repD, strD, gmaxD, gminD, sumD, sortD, anyD, allD, mCall, frz, fzO, lend, wb, mTup, mLst, fzs, cD, mAsg, bTup, bTps, mApp, tupD, lstD, mRev, revD, ofs_inj, ee_ii, ee_ss, ee_bb, ee_nn, ee_is, ee_si, ee_in, ee_ni, ee_tt, ee_ll, ee_maps, ee_0, ee_1, ee_2, ee_3, at_lit, at_nat, at_m1, at_m2, scD, emD, sizeLine_eq, ixN, sm_lit, mSrc, itemsD, plOf, rng1D, bNm, mSl, mPt, mNoP, slD, mPar, keepT, tmsO, setA, mFlow, zipX, enumX, itemsX, intsOf, ints_all, boolsOf, shaped_lay, lay_int, lay_bool, lay_none, lay_dict, lay_tup, lay_list, lay_ints, sortX_ints, mPlF, mPlI, mRd, mPU, mPB, mFSet, mFNew, mNSet, mPApp, mPSetIx, mPPop, mMeth, mNew, isIns, cellO, mLstN, mAddN, mAppN, semX, mTold, mCallX, xRet, xExpr, xSet, mRaise, mM, isL, isS, mOrV, truD, mLc, lcL, sameC, wipeC, restC, mYes, *])
local macro_rules | `(tactic| walk_at "ef") => `(tactic| simp [semF, shared, after, mSeq, mSkip, mIf, mRet, mRetN, mRetV, mSet, mSetIx, mExpr, mB, mU, mTm, mPl, mK, mVar, mOp, mCons, mNil, bor, bors, mTst, mAndT, mOrT, mNotT, mAndE, mOrE, mNotE, mIfE, mIsi, isiD, mChn, chnL, cmpD, binD, addD, subD, mulD, modD, fdivD, powD, eqD, neD, ltD, leD, gtD, geD, isD, isnD, L2.M.isNon, negD, ixD, Bf.f, Bg.f, lenD, L2.M.intD, maxD, minD, repD, strD, gmaxD, gminD, sumD, sortD, anyD, allD, mCall, frz, fzO, lend, wb, mTup, mLst, fzs, cD, mAsg, bTup, bTps, mApp, tupD, lstD, mRev, revD, ofs_inj, ee_ii, ee_ss, ee_bb, ee_nn, ee_is, ee_si, ee_in, ee_ni, ee_tt, ee_ll, ee_maps, ee_0, ee_1, ee_2, ee_3, at_lit, at_nat, at_m1, at_m2, scD, emD, sizeLine_eq, ixN, sm_lit, mSrc, itemsD, plOf, rng1D, bNm, mSl, mPt, mNoP, slD, mPar, keepT, tmsO, setA, mFlow, zipX, enumX, itemsX, intsOf, ints_all, boolsOf, shaped_lay, lay_int, lay_bool, lay_none, lay_dict, lay_tup, lay_list, lay_ints, sortX_ints, mPlF, mPlI, mRd, mPU, mPB, mFSet, mFNew, mNSet, mPApp, mPSetIx, mPPop, mMeth, mNew, isIns, cellO, mLstN, mAddN, mAppN, semX, mTold, mCallX, xRet, xExpr, xSet, mRaise, mM, isL, isS, mOrV, truD, mFor, forL, mLc, lcL, sameC, wipeC, restC, mYes, *])
local macro_rules | `(tactic| walk_at "rg") => `(tactic| (and_intros <;> grind))
local macro_rules | `(tactic| walk_at "nx") => `(tactic| (apply wx_nx; focus (walk_at "ev"; try first | exact ⟨rfl, rfl⟩ | rfl)))
local macro_rules | `(tactic| walk_at "ns") => `(tactic| (apply wx_nx; focus (walk_at "es"; try first | exact ⟨rfl, rfl⟩ | rfl)))
local macro_rules | `(tactic| walk_at "rt") => `(tactic| (apply wx_rt; focus (walk_at "ev"; try first | exact ⟨rfl, rfl⟩ | rfl)))
local macro_rules | `(tactic| walk_at "rs") => `(tactic| (apply wx_rt; focus (walk_at "es"; try first | exact ⟨rfl, rfl⟩ | rfl)))
local macro_rules | `(tactic| walk_at "ed") => `(tactic| simp [semF, shared, after, mSeq, mSkip, mIf, mRet, mRetN, mRetV, mSet, mSetIx, mExpr, mB, mU, mTm, mPl, mK, mVar, mOp, mCons, mNil, bor, bors, mTst, mAndT, mOrT, mNotT, mAndE, mOrE, mNotE, mIfE, mIsi, isiD, mChn, chnL, cmpD, binD, addD, subD, mulD, modD, fdivD, powD, eqD, neD, ltD, leD, gtD, geD, isD, isnD, L2.M.isNon, negD, ixD, Bf.f, Bg.f, lenD, L2.M.intD, maxD, minD, repD, strD, gmaxD, gminD, sumD, sortD, anyD, allD, mCall, frz, fzO, lend, wb, mTup, mLst, fzs, cD, mAsg, bTup, bTps, mApp, tupD, lstD, mRev, revD, ofs_inj, ee_ii, ee_ss, ee_bb, ee_nn, ee_is, ee_si, ee_in, ee_ni, ee_tt, ee_ll, ee_maps, ee_0, ee_1, ee_2, ee_3, at_lit, at_nat, at_m1, at_m2, scD, emD, sizeLine_eq, ixN, sm_lit, mSrc, itemsD, plOf, rng1D, bNm, mSl, mPt, mNoP, slD, mPar, keepT, tmsO, setA, mFlow, zipX, enumX, itemsX, intsOf, ints_all, boolsOf, shaped_lay, lay_int, lay_bool, lay_none, lay_dict, lay_tup, lay_list, lay_ints, sortX_ints, mPlF, mPlI, mRd, mPU, mPB, mFSet, mFNew, mNSet, mPApp, mPSetIx, mPPop, mMeth, mNew, isIns, cellO, mLstN, mAddN, mAppN, semX, mTold, mCallX, xRet, xExpr, xSet, mRaise, mM, isL, isS, mOrV, truD, mDNew, mDIn, mDGet, mDLen, mDPut, kyD, mNNew, mN1, mTake, mFnV, mCallF, mNIn, mNGet, mNPut, mNVals, mNList, nKs, mDGetD, mDList, mNNe, *])
/-- a comprehension over items of one form, those that a test lets through -/
theorem mLc_encF {α : Type} (f e : α → PyData) (q : α → Bool) {i : Nat} {src : SM} {tests : TM} {m : EM} {ε ε1 : Cs} {xs : List α} {c0 : C} {ws : List Nat} (hs : src ε = some ((xs.map f, ws), ε1)) (h1 : ε1[i]? = some c0) (ht : ∀ x ∈ xs, tests (ε1.set i (.sh (f x))) = some (q x, ε1.set i (.sh (f x)))) (h : ∀ x ∈ xs, q x = true → ∃ c, m (ε1.set i (.sh (f x))) = some (c, ε1.set i (.sh (f x))) ∧ cD c = some (e x)) (hn : xs.length ≤ sizeLine) (hw : ws.all (fun j => !([i] : List Nat).contains j) = true := by rfl) :
    mLc src (bNm i) tests m [i] ε = some (.ls ((xs.filter q).map e), ε1) := by
  have hl : i < ε1.length := (List.getElem?_eq_some_iff.mp h1).1
  have hsm : sameC ws ε1 (ε1.set i .no) := by
    intro j hj
    have := List.all_eq_true.mp hw j hj
    have ne : i ≠ j := by
      rintro rfl
      simp at this
    rw [List.getElem?_set_ne ne]
  obtain ⟨out, ε2, e1, e2, e3⟩ := lc_rule (src := src) (bind := bNm i) (tests := tests) (elt := m) (own := [i]) (ε := ε) (fun k out ε2 => out = ((xs.take k).filter q).map e ∧ ε2 = ε1.set i .no) hs hw ⟨by simp, by simp [wipeC]⟩ (fun _ _ _ h => by rw [h.2]; exact hsm) (by simpa using hn) (by
    rintro k d out ε2 hd ⟨rfl, rfl⟩
    rw [List.getElem?_map] at hd
    obtain ⟨x, hx, rfl⟩ := Option.map_eq_some_iff.mp hd
    obtain ⟨hk, rfl⟩ := List.getElem?_eq_some_iff.mp hx
    refine ⟨ε1.set i (.sh (f xs[k])), q xs[k], _, by simp [bNm, hl], ht _ (List.getElem_mem hk), fun z => ⟨?_, ?_⟩, fun z => ?_⟩
    · rw [List.take_succ_eq_append_getElem hk, List.filter_append]
      simp [z]
    · simp [wipeC]
    · obtain ⟨c, g1, g2⟩ := h _ (List.getElem_mem hk) z
      refine ⟨c, _, _, g1, g2, ?_, ?_⟩
      · rw [List.take_succ_eq_append_getElem hk, List.filter_append]
        simp [z]
      · simp [wipeC])
  subst e3
  rw [List.length_map, List.take_of_length_le (Nat.le_refl _)] at e2
  subst e2
  rw [e1]
  simp only [restC, h1]
  rw [set_back h1]
theorem rng_nat0 {k : Nat} (j : Int) (e : j = k) (hk : 0 ≤ j ∧ j ≤ 8000000) : rng1D [.int j] = some (rangeD 0 1 k) := by
  simp only [rng1D]
  rw [if_pos ⟨by omega, by omega⟩, e, Int.toNat_natCast]
theorem rng_nat {k : Nat} (hk : k ≤ 8000000) : rng1D [.int k] = some (rangeD 0 1 k) := rng_nat0 _ rfl ⟨by omega, by omega⟩
theorem src_f {f : List PyData → Option (List PyData)} {d : PyData} {ds : List PyData} {ε ε1 : Cs} {m : EM} (h : m ε = some (.sh d, ε1)) (hf : f [d] = some ds) : mSrc f (mCons (mTm m) mNil) ε = some ((ds, []), ε1) := by
  simp [mSrc, mCons, mTm, mNil, bors, bor, plOf, hf, h]
end KW
namespace KW
open PySem PySem.Spec PyProof.Rows L2 L2.M
local macro_rules | `(tactic| walk_at "ev") => `(tactic| simp [semF, shared, after, mSeq, mSkip, mIf, mRet, mRetN, mRetV, mSet, mSetIx, mExpr, mB, mU, mTm, mPl, mK, mVar, mOp, mCons, mNil, bor, bors, mTst, mAndT, mOrT, mNotT, mAndE, mOrE, mNotE, mIfE, mIsi, isiD, mChn, chnL, cmpD, binD, addD, subD, mulD, modD, fdivD, powD, eqD, neD, ltD, leD, gtD, geD, isD, isnD, L2.M.isNon, negD, ixD, Bf.f, Bg.f, lenD, L2.M.intD, maxD, minD, repD, strD, gmaxD, gminD, sumD, sortD, anyD, allD, mCall, frz, fzO, lend, wb, mTup, mLst, fzs, cD, mAsg, bTup, bTps, mApp, tupD, lstD, mRev, revD, ofs_inj, ee_ii, ee_ss, ee_bb, ee_nn, ee_is, ee_si, ee_in, ee_ni, ee_tt, ee_ll, ee_maps, ee_0, ee_1, ee_2, ee_3, at_lit, at_nat, at_m1, at_m2, scD, emD, sizeLine_eq, ixN, sm_lit, mSrc, itemsD, plOf, rng1D, bNm, mSl, mPt, mNoP, slD, mPar, keepT, tmsO, setA, mFlow, zipX, enumX, itemsX, intsOf, ints_all, boolsOf, shaped_lay, lay_int, lay_bool, lay_none, lay_dict, lay_tup, lay_list, lay_ints, sortX_ints, mPlF, mPlI, mRd, mPU, mPB, mFSet, mFNew, mNSet, mPApp, mPSetIx, mPPop, mMeth, mNew, isIns, cellO, mLstN, mAddN, mAppN, semX, mTold, mCallX, xRet, xExpr, xSet, mRaise, mM, isL, isS, mOrV, truD])
local macro_rules | `(tactic| walk_at "es") => `(tactic| simp [semF, shared, after, mSeq, mSkip, mIf, mRet, mRetN, mRetV, mSet, mSetIx, mExpr, mB, mU, mTm, mPl, mK, mVar, mOp, mCons, mNil, bor, bors, mTst, mAndT, mOrT, mNotT, mAndE, mOrE, mNotE, mIfE, mIsi, isiD, mChn, chnL, cmpD, binD, addD, subD, mulD, modD, fdivD, powD, eqD, neD, ltD, leD, gtD, geD, isD, isnD, L2.M.isNon, negD, ixD, Bf.f, Bg.f, lenD, L2.M.intD, maxD, minD, repD, strD, gmaxD, gminD, sumD, sortD, anyD, allD, mCall, frz, fzO, lend, wb, mTup, mLst, fzs, cD, mAsg, bTup, bTps, mApp, tupD, lstD, mRev, revD, ofs_inj, ee_ii, ee_ss, ee_bb, ee_nn, ee_is, ee_si, ee_in, ee_ni, ee_tt, ee_ll, ee_maps, ee_0, ee_1, ee_2, ee_3, at_lit, at_nat, at_m1, at_m2, scD, emD, sizeLine_eq, ixN, sm_lit, mSrc, itemsD, plOf, rng1D, bNm, mSl, mPt, mNoP, slD, mPar, keepT, tmsO, setA, mFlow, zipX, enumX, itemsX, intsOf, ints_all, boolsOf, shaped_lay, lay_int, lay_bool, lay_none, lay_dict, lay_tup, lay_list, lay_ints, sortX_ints, mPlF, mPlI, mRd, mPU, mPB, mFSet, mFNew, mNSet, mPApp, mPSetIx, mPPop, mMeth, mNew, isIns, cellO, mLstN, mAddN, mAppN, semX, mTold, mCallX, xRet, xExpr, xSet, mRaise, mM, isL, isS, mOrV, truD, *])
local macro_rules | `(tactic| walk_at "el") => `(tactic| simp [semF, shared, after, mSeq, mSkip, mIf, mRet, mRetN, mRetV, mSet, mSetIx, mExpr, mB, mU, mTm, mPl, mK, mVar, mOp, mCons, mNil, bor, bors, mTst, mAndT, mOrT, mNotT, mAndE, mOrE, mNotE, mIfE, mIsi, isiD, mChn, chnL, cmpD, binD, addD, subD, mulD, modD, fdivD, powD, eqD, neD, ltD, leD, gtD, geD, isD, isnD, L2.M.isNon, negD, ixD, Bf.f, Bg.f, lenD, L2.M.intD, maxD, minD, repD, strD, gmaxD, gminD, sumD, sortD, anyD, allD, mCall, frz, fzO, lend, wb, mTup, mLst, fzs, cD, mAsg, bTup, bTps, mApp, tupD, lstD, mRev, revD, ofs_inj, ee_ii, ee_ss, ee_bb, ee_nn, ee_is, ee_si, ee_in, ee_ni, ee_tt, ee_ll, ee_maps, ee_0, ee_1, ee_2, ee_3, at_lit, at_nat, at_m1, at_m2, scD, emD, sizeLine_eq, ixN, sm_lit, mSrc, itemsD, plOf, rng1D, bNm, mSl, mPt, mNoP, slD, mPar, keepT, tmsO, setA, mFlow, zipX, enumX, itemsX, intsOf, ints_all, boolsOf, shaped_lay, lay_int, lay_bool, lay_none, lay_dict, lay_tup, lay_list, lay_ints, sortX_ints, mPlF, mPlI, mRd, mPU, mPB, mFSet, mFNew, mNSet, mPApp, mPSetIx, mPPop, mMeth, mNew, isIns, cellO, mLstN, mAddN, mAppN, semX, mTold, mCallX, xRet, xExpr, xSet, mRaise, mM, isL, isS, mOrV, truD, mLc, lcL, sameC, wipeC, restC, mYes, *])
local macro_rules | `(tactic| walk_at "ef") => `(tactic| simp [semF, shared, after, mSeq, mSkip, mIf, mRet, mRetN, mRetV, mSet, mSetIx, mExpr, mB, mU, mTm, mPl, mK, mVar, mOp, mCons, mNil, bor, bors, mTst, mAndT, mOrT, mNotT, mAndE, mOrE, mNotE, mIfE, mIsi, isiD, mChn, chnL, cmpD, binD, addD, subD, mulD, modD, fdivD, powD, eqD, neD, ltD, leD, gtD, geD, isD, isnD, L2.M.isNon, negD, ixD, Bf.f, Bg.f, lenD, L2.M.intD, maxD, minD, repD, strD, gmaxD, gminD, sumD, sortD, anyD, allD, mCall, frz, fzO, lend, wb, mTup, mLst, fzs, cD, mAsg, bTup, bTps, mApp, tupD, lstD, mRev, revD, ofs_inj, ee_ii, ee_ss, ee_bb, ee_nn, ee_is, ee_si, ee_in, ee_ni, ee_tt, ee_ll, ee_maps, ee_0, ee_1, ee_2, ee_3, at_lit, at_nat, at_m1, at_m2, scD, emD, sizeLine_eq, ixN, sm_lit, mSrc, itemsD, plOf, rng1D, bNm, mSl, mPt, mNoP, slD, mPar, keepT, tmsO, setA, mFlow, zipX, enumX, itemsX, intsOf, ints_all, boolsOf, shaped_lay, lay_int, lay_bool, lay_none, lay_dict, lay_tup, lay_list, lay_ints, sortX_ints, mPlF, mPlI, mRd, mPU, mPB, mFSet, mFNew, mNSet, mPApp, mPSetIx, mPPop, mMeth, mNew, isIns, cellO, mLstN, mAddN, mAppN, semX, mTold, mCallX, xRet, xExpr, xSet, mRaise, mM, isL, isS, mOrV, truD, mFor, forL, mLc, lcL, sameC, wipeC, restC, mYes, *])
local macro_rules | `(tactic| walk_at "rg") => `(tactic| (and_intros <;> grind))
local macro_rules | `(tactic| walk_at "nx") => `(tactic| (apply wx_nx; focus (walk_at "ev"; try first | exact ⟨rfl, rfl⟩ | rfl)))
local macro_rules | `(tactic| walk_at "ns") => `(tactic| (apply wx_nx; focus (walk_at "es"; try first | exact ⟨rfl, rfl⟩ | rfl)))
local macro_rules | `(tactic| walk_at "rt") => `(tactic| (apply wx_rt; focus (walk_at "ev"; try first | exact ⟨rfl, rfl⟩ | rfl)))
local macro_rules | `(tactic| walk_at "rs") => `(tactic| (apply wx_rt; focus (walk_at "es"; try first | exact ⟨rfl, rfl⟩ | rfl)))
local macro_rules | `(tactic| walk_at "ed") => `(tactic| simp [semF, shared, after, mSeq, mSkip, mIf, mRet, mRetN, mRetV, mSet, mSetIx, mExpr, mB, mU, mTm, mPl, mK, mVar, mOp, mCons, mNil, bor, bors, mTst, mAndT, mOrT, mNotT, mAndE, mOrE, mNotE, mIfE, mIsi, isiD, mChn, chnL, cmpD, binD, addD, subD, mulD, modD, fdivD, powD, eqD, neD, ltD, leD, gtD, geD, isD, isnD, L2.M.isNon, negD, ixD, Bf.f, Bg.f, lenD, L2.M.intD, maxD, minD, repD, strD, gmaxD, gminD, sumD, sortD, anyD, allD, mCall, frz, fzO, lend, wb, mTup, mLst, fzs, cD, mAsg, bTup, bTps, mApp, tupD, lstD, mRev, revD, ofs_inj, ee_ii, ee_ss, ee_bb, ee_nn, ee_is, ee_si, ee_in, ee_ni, ee_tt, ee_ll, ee_maps, ee_0, ee_1, ee_2, ee_3, at_lit, at_nat, at_m1, at_m2, scD, emD, sizeLine_eq, ixN, sm_lit, mSrc, itemsD, plOf, rng1D, bNm, mSl, mPt, mNoP, slD, mPar, keepT, tmsO, setA, mFlow, zipX, enumX, itemsX, intsOf, ints_all, boolsOf, shaped_lay, lay_int, lay_bool, lay_none, lay_dict, lay_tup, lay_list, lay_ints, sortX_ints, mPlF, mPlI, mRd, mPU, mPB, mFSet, mFNew, mNSet, mPApp, mPSetIx, mPPop, mMeth, mNew, isIns, cellO, mLstN, mAddN, mAppN, semX, mTold, mCallX, xRet, xExpr, xSet, mRaise, mM, isL, isS, mOrV, truD, mDNew, mDIn, mDGet, mDLen, mDPut, kyD, mNNew, mN1, mTake, mFnV, mCallF, mNIn, mNGet, mNPut, mNVals, mNList, nKs, mDGetD, mDList, mNNe, *])
structure Pz where
  (p r c f : Int)
def Pz.d (z : Pz) : PyData := .tuple [.int z.p, .int z.r, .int z.c, .int z.f]
structure Pz.Ok (z : Pz) : Prop where
  p0 : 0 ≤ z.p
  p1 : z.p ≤ 1000
  r0 : 1 ≤ z.r
  r1 : z.r ≤ 1000
  f0 : 0 ≤ z.f
  f1 : z.f ≤ z.c
  c1 : z.c ≤ 10000
def pin (z : Pz) (c : Int) : Int := if c + z.p < z.c then c + z.p else z.c
/-- paying as soon as can be -/
def gr (z : Pz) : Int → Nat → Int
  | c, 0 => c / z.r
  | c, m + 1 => c / z.r + gr z (pin z (c % z.r)) m
/-- .. behind what is left -/
def sp (z : Pz) : Int → Nat → Int
  | _, 0 => 0
  | c, m + 1 => pin z c / z.r + sp z (pin z c % z.r) m
def cj (z : Pz) : Int → Nat → Int
  | c, 0 => c
  | c, m + 1 => cj z (pin z c % z.r) m
theorem gr_sp (z : Pz) : ∀ (m : Nat) (c : Int), gr z c m = c / z.r + sp z (c % z.r) m
  | 0, c => by simp [gr, sp]
  | m + 1, c => by
    rw [gr, sp, gr_sp z m]
theorem sp_add (z : Pz) : ∀ (j n : Nat) (c : Int), sp z c (j + n) = sp z c j + sp z (cj z c j) n
  | 0, n, c => by simp [sp, cj]
  | j + 1, n, c => by
    rw [show j + 1 + n = (j + n) + 1 by omega, sp, sp, cj, sp_add z j n]
    omega
theorem cj_s (z : Pz) : ∀ (j : Nat) (c : Int), cj z c (j + 1) = pin z (cj z c j) % z.r
  | 0, c => rfl
  | j + 1, c => by
    rw [cj, cj_s z j]
    rfl
theorem sp_s (z : Pz) (j : Nat) (c : Int) : sp z c (j + 1) = sp z c j + pin z (cj z c j) / z.r := by
  rw [sp_add z j 1 c]
  simp [sp]
/-- round and round -/
theorem sp_rounds (z : Pz) {c : Int} {L : Nat} (h : cj z c L = c) : ∀ q n : Nat, sp z c (q * L + n) = q * sp z c L + sp z c n
  | 0, n => by simp
  | q + 1, n => by
    rw [show (q + 1) * L + n = L + (q * L + n) by rw [Nat.add_mul]; omega, sp_add, h, sp_rounds z h q n]
    have : ((q + 1 : Nat) : Int) * sp z c L = q * sp z c L + sp z c L := by
      rw [Int.natCast_add, Int.add_mul]
      simp
    omega
section
variable {z : Pz} (h : z.Ok)
include h
theorem pin_b {c : Int} (h0 : 0 ≤ c) : 0 ≤ pin z c ∧ pin z c ≤ c + z.p ∧ pin z c ≤ z.c := by
  have := h.p0
  have := h.f0
  have := h.f1
  unfold pin
  split <;> omega
theorem md_b (c : Int) : 0 ≤ c % z.r ∧ c % z.r < z.r := by
  have := h.r0
  exact ⟨Int.emod_nonneg _ (by omega), Int.emod_lt_of_pos _ (by omega)⟩
theorem cj_b {c : Int} (h0 : 0 ≤ c ∧ c < z.r) : ∀ j, 0 ≤ cj z c j ∧ cj z c j < z.r
  | 0 => h0
  | j + 1 => by
    rw [cj_s]
    exact md_b h _
theorem sp_b {c : Int} (h0 : 0 ≤ c ∧ c < z.r) : ∀ j : Nat, 0 ≤ sp z c j ∧ sp z c j ≤ j * 2000
  | 0 => by simp [sp]
  | j + 1 => by
    rw [sp_s]
    have h1 := sp_b h0 j
    have h2 := cj_b h h0 j
    have h3 := pin_b h h2.1
    have h4 : 0 ≤ pin z (cj z c j) / z.r := Int.ediv_nonneg h3.1 (by have := h.r0; omega)
    have h5 : pin z (cj z c j) / z.r ≤ pin z (cj z c j) := Int.ediv_le_self _ h3.1
    have := h.r1
    have := h.p1
    have e : ((j + 1 : Nat) : Int) * 2000 = j * 2000 + 2000 := by omega
    omega
theorem gr_r (c : Int) : ∀ m, gr z (c + z.r) m = gr z c m + 1 := by
  intro m
  have hr := h.r0
  rw [gr_sp, gr_sp]
  have e1 : (c + z.r) / z.r = c / z.r + 1 := by
    rw [Int.add_ediv_of_dvd_right (Int.dvd_refl _), Int.ediv_self (by omega)]
  have e2 : (c + z.r) % z.r = c % z.r := Int.add_emod_right _ _
  rw [e1, e2]
  omega
theorem gr_rk (c : Int) (m : Nat) : ∀ j : Nat, gr z (c + j * z.r) m = gr z c m + j
  | 0 => by simp
  | j + 1 => by
    have e : c + ((j + 1 : Nat) : Int) * z.r = (c + j * z.r) + z.r := by
      rw [Int.natCast_add, Int.add_mul]
      simp
      omega
    rw [e, gr_r h, gr_rk c m j]
    omega
theorem gr_mono : ∀ (m : Nat) {c c' : Int}, c ≤ c' → gr z c m ≤ gr z c' m
  | 0, c, c', hc => Int.ediv_le_ediv (by have := h.r0; omega) hc
  | m + 1, c, c', hc => by
    have hr := h.r0
    rw [gr, gr]
    have h1 : c / z.r ≤ c' / z.r := Int.ediv_le_ediv (by omega) hc
    have b1 := md_b h c
    have b2 := md_b h c'
    have e1 := Int.emod_add_mul_ediv c z.r
    have e2 := Int.emod_add_mul_ediv c' z.r
    by_cases q : c / z.r = c' / z.r
    · rw [q] at e1 ⊢
      have : pin z (c % z.r) ≤ pin z (c' % z.r) := by
        unfold pin
        split <;> split <;> omega
      have := gr_mono m this
      omega
    · have : pin z (c % z.r) ≤ pin z (c' % z.r) + z.r := by
        unfold pin
        split <;> split <;> omega
      have := gr_mono m this
      rw [gr_r h] at this
      omega
/-- nobody pays more -/
theorem gr_best {c k : Int} (h0 : 0 ≤ c) (hk : 0 ≤ k) (hk2 : k ≤ c / z.r) (m : Nat) : k + gr z (pin z (c - k * z.r)) m ≤ gr z c (m + 1) := by
  have hr := h.r0
  rw [gr]
  obtain ⟨j, hj⟩ : ∃ j : Nat, c / z.r - k = j := ⟨(c / z.r - k).toNat, by omega⟩
  have e1 := Int.emod_add_mul_ediv c z.r
  have e2 : c - k * z.r = c % z.r + j * z.r := by
    rw [← hj, Int.sub_mul, Int.mul_comm (c / z.r) z.r]
    omega
  have hj0 : 0 ≤ (j : Int) * z.r := Int.mul_nonneg (by omega) (by omega)
  have : pin z (c - k * z.r) ≤ pin z (c % z.r) + j * z.r := by
    rw [e2]
    unfold pin
    split <;> split <;> omega
  have := gr_mono h m this
  rw [gr_rk h] at this
  omega
theorem gr_nn : ∀ (m : Nat) {c : Int}, 0 ≤ c → 0 ≤ gr z c m
  | 0, c, hc => Int.ediv_nonneg hc (by have := h.r0; omega)
  | m + 1, c, hc => by
    rw [gr]
    have h1 : 0 ≤ c / z.r := Int.ediv_nonneg hc (by have := h.r0; omega)
    have := gr_nn m (pin_b h (md_b h c).1).1
    omega
end
def kdE {β : Type} (val : β → PyData) (E : List (Int × β)) : List (PyData × PyData) := E.map fun e => (.int e.1, val e.2)
def lkE {β : Type} (E : List (Int × β)) (c : Int) : Option β := (E.find? fun e => decide (e.1 = c)).map (·.2)
def ptE {β : Type} (E : List (Int × β)) (c : Int) (b : β) : List (Int × β) := if (E.any fun e => decide (e.1 = c)) = true then E.map (fun e => if e.1 = c then (e.1, b) else e) else E ++ [(c, b)]
theorem dLk_int {β : Type} (val : β → PyData) : ∀ (E : List (Int × β)) (c : Int), dLk (kdE val E) (.int c) = (lkE E c).map val
  | [], c => rfl
  | e :: E, c => by
    have ih := dLk_int val E c
    unfold dLk lkE kdE at ih ⊢
    rw [List.map_cons, List.find?_cons, List.find?_cons, ee_ii]
    by_cases q : e.1 = c
    · rw [decide_eq_true q]
      rfl
    · rw [decide_eq_false q]
      exact ih
theorem any_int {β : Type} (val : β → PyData) : ∀ (E : List (Int × β)) (c : Int), ((kdE val E).any fun p => PyData.eqv p.1 (.int c)) = E.any fun e => decide (e.1 = c)
  | [], c => rfl
  | e :: E, c => by
    have ih := any_int val E c
    unfold kdE at ih ⊢
    rw [List.map_cons, List.any_cons, List.any_cons, ee_ii, ih]
theorem dPt_int {β : Type} (val : β → PyData) (E : List (Int × β)) (c : Int) (b : β) : dPt (kdE val E) (.int c) (val b) = kdE val (ptE E c b) := by
  unfold dPt ptE
  rw [any_int]
  split
  · unfold kdE
    rw [List.map_map, List.map_map]
    refine List.map_congr_left fun e _ => ?_
    simp only [Function.comp, ee_ii, decide_eq_true_eq]
    split <;> rfl
  · unfold kdE
    rw [List.map_append]
    rfl
theorem lkE_some {β : Type} {E : List (Int × β)} {c : Int} {b : β} (h : lkE E c = some b) : (c, b) ∈ E := by
  unfold lkE at h
  obtain ⟨e, h1, rfl⟩ := Option.map_eq_some_iff.mp h
  have h2 := List.find?_some h1
  simp at h2
  have := List.mem_of_find?_eq_some h1
  rw [← h2]
  exact this
theorem ptE_mem {β : Type} {E : List (Int × β)} {c : Int} {b : β} {x : Int × β} (h : x ∈ ptE E c b) : x = (c, b) ∨ (x ∈ E ∧ x.1 ≠ c) := by
  unfold ptE at h
  split at h
  · obtain ⟨e, he, rfl⟩ := List.mem_map.mp h
    split
    · rename_i q
      exact .inl (by rw [q])
    · rename_i q
      exact .inr ⟨he, q⟩
  · rename_i q
    rcases List.mem_append.mp h with h | h
    · refine .inr ⟨h, fun e => q ?_⟩
      rw [List.any_eq_true]
      exact ⟨x, h, by simpa using e⟩
    · exact .inl (List.mem_singleton.mp h)
theorem ptE_keys {β : Type} (E : List (Int × β)) (c : Int) (b : β) : (ptE E c b).map (·.1) = if (E.any fun e => decide (e.1 = c)) = true then E.map (·.1) else E.map (·.1) ++ [c] := by
  unfold ptE
  split
  · rw [List.map_map]
    refine List.map_congr_left fun e _ => ?_
    simp only [Function.comp]
    split <;> rfl
  · rw [List.map_append]
    rfl
theorem ptE_nd {β : Type} {E : List (Int × β)} (h : (E.map (·.1)).Nodup) (c : Int) (b : β) : ((ptE E c b).map (·.1)).Nodup := by
  rw [ptE_keys]
  split
  · exact h
  · rename_i q
    rw [List.nodup_append]
    refine ⟨h, by simp, fun x hx y hy e => q ?_⟩
    obtain ⟨z, hz, rfl⟩ := List.mem_map.mp hx
    rw [List.any_eq_true]
    exact ⟨z, hz, by rw [List.mem_singleton.mp hy] at e; simpa using e⟩
/-- so many keys as there are numbers -/
theorem keys_len {β : Type} {E : List (Int × β)} (h : (E.map (·.1)).Nodup) {n : Nat} (hb : ∀ e ∈ E, 0 ≤ e.1 ∧ e.1 < (n : Int)) : E.length ≤ n := by
  have e : ((E.map (·.1)).map Int.toNat).Nodup := by
    rw [List.Nodup, List.pairwise_map]
    refine h.imp_of_mem fun {a b} ha hb' hne => ?_
    obtain ⟨x, hx, rfl⟩ := List.mem_map.mp ha
    obtain ⟨y, hy, rfl⟩ := List.mem_map.mp hb'
    have := hb x hx
    have := hb y hy
    omega
  have hs : ∀ x ∈ (E.map (·.1)).map Int.toNat, x ∈ List.range n := by
    intro x hx
    rw [List.map_map] at hx
    obtain ⟨y, hy, rfl⟩ := List.mem_map.mp hx
    have := hb y hy
    rw [List.mem_range]
    show y.1.toNat < n
    omega
  have key : ∀ (R L : List Nat), R.Nodup → (∀ x ∈ R, x ∈ L) → R.length ≤ L.length := by
    intro R
    induction R with
    | nil => intro L _ _; simp
    | cons a R ih =>
      intro L hn hs
      have ha := hs a List.mem_cons_self
      have hn2 := List.nodup_cons.mp hn
      have h1 := ih (L.erase a) hn2.2 fun x hx => by
        have hne : x ≠ a := fun e => hn2.1 (e ▸ hx)
        exact (List.mem_erase_of_ne hne).mpr (hs x (List.mem_cons_of_mem _ hx))
      rw [List.length_erase_of_mem ha] at h1
      have : 0 < L.length := List.length_pos_of_mem ha
      simp only [List.length_cons]
      omega
  have := key _ _ e hs
  simpa using this
end KW
namespace KW
open PySem PySem.Spec PyProof.Rows L2 L2.M
local macro_rules | `(tactic| walk_at "ev") => `(tactic| simp [semF, shared, after, mSeq, mSkip, mIf, mRet, mRetN, mRetV, mSet, mSetIx, mExpr, mB, mU, mTm, mPl, mK, mVar, mOp, mCons, mNil, bor, bors, mTst, mAndT, mOrT, mNotT, mAndE, mOrE, mNotE, mIfE, mIsi, isiD, mChn, chnL, cmpD, binD, addD, subD, mulD, modD, fdivD, powD, eqD, neD, ltD, leD, gtD, geD, isD, isnD, L2.M.isNon, negD, ixD, Bf.f, Bg.f, lenD, L2.M.intD, maxD, minD, repD, strD, gmaxD, gminD, sumD, sortD, anyD, allD, mCall, frz, fzO, lend, wb, mTup, mLst, fzs, cD, mAsg, bTup, bTps, mApp, tupD, lstD, mRev, revD, ofs_inj, ee_ii, ee_ss, ee_bb, ee_nn, ee_is, ee_si, ee_in, ee_ni, ee_tt, ee_ll, ee_maps, ee_0, ee_1, ee_2, ee_3, at_lit, at_nat, at_m1, at_m2, scD, emD, sizeLine_eq, ixN, sm_lit, mSrc, itemsD, plOf, rng1D, bNm, mSl, mPt, mNoP, slD, mPar, keepT, tmsO, setA, mFlow, zipX, enumX, itemsX, intsOf, ints_all, boolsOf, shaped_lay, lay_int, lay_bool, lay_none, lay_dict, lay_tup, lay_list, lay_ints, sortX_ints, mPlF, mPlI, mRd, mPU, mPB, mFSet, mFNew, mNSet, mPApp, mPSetIx, mPPop, mMeth, mNew, isIns, cellO, mLstN, mAddN, mAppN, semX, mTold, mCallX, xRet, xExpr, xSet, mRaise, mM, isL, isS, mOrV, truD])
local macro_rules | `(tactic| walk_at "es") => `(tactic| simp [semF, shared, after, mSeq, mSkip, mIf, mRet, mRetN, mRetV, mSet, mSetIx, mExpr, mB, mU, mTm, mPl, mK, mVar, mOp, mCons, mNil, bor, bors, mTst, mAndT, mOrT, mNotT, mAndE, mOrE, mNotE, mIfE, mIsi, isiD, mChn, chnL, cmpD, binD, addD, subD, mulD, modD, fdivD, powD, eqD, neD, ltD, leD, gtD, geD, isD, isnD, L2.M.isNon, negD, ixD, Bf.f, Bg.f, lenD, L2.M.intD, maxD, minD, repD, strD, gmaxD, gminD, sumD, sortD, anyD, allD, mCall, frz, fzO, lend, wb, mTup, mLst, fzs, cD, mAsg, bTup, bTps, mApp, tupD, lstD, mRev, revD, ofs_inj, ee_ii, ee_ss, ee_bb, ee_nn, ee_is, ee_si, ee_in, ee_ni, ee_tt, ee_ll, ee_maps, ee_0, ee_1, ee_2, ee_3, at_lit, at_nat, at_m1, at_m2, scD, emD, sizeLine_eq, ixN, sm_lit, mSrc, itemsD, plOf, rng1D, bNm, mSl, mPt, mNoP, slD, mPar, keepT, tmsO, setA, mFlow, zipX, enumX, itemsX, intsOf, ints_all, boolsOf, shaped_lay, lay_int, lay_bool, lay_none, lay_dict, lay_tup, lay_list, lay_ints, sortX_ints, mPlF, mPlI, mRd, mPU, mPB, mFSet, mFNew, mNSet, mPApp, mPSetIx, mPPop, mMeth, mNew, isIns, cellO, mLstN, mAddN, mAppN, semX, mTold, mCallX, xRet, xExpr, xSet, mRaise, mM, isL, isS, mOrV, truD, *])
local macro_rules | `(tactic| walk_at "el") => `(tactic| simp [semF, shared, after, mSeq, mSkip, mIf, mRet, mRetN, mRetV, mSet, mSetIx, mExpr, mB, mU, mTm, mPl, mK, mVar, mOp, mCons, mNil, bor, bors, mTst, mAndT, mOrT, mNotT, mAndE, mOrE, mNotE, mIfE, mIsi, isiD, mChn, chnL, cmpD, binD, addD, subD, mulD, modD, fdivD, powD, eqD, neD, ltD, leD, gtD, geD, isD, isnD, L2.M.isNon, negD, ixD, Bf.f, Bg.f, lenD, L2.M.intD, maxD, minD, repD, strD, gmaxD, gminD, sumD, sortD, anyD, allD, mCall, frz, fzO, lend, wb, mTup, mLst, fzs, cD, mAsg, bTup, bTps, mApp, tupD, lstD, mRev, revD, ofs_inj, ee_ii, ee_ss, ee_bb, ee_nn, ee_is, ee_si, ee_in, ee_ni, ee_tt, ee_ll, ee_maps, ee_0, ee_1, ee_2, ee_3, at_lit, at_nat, at_m1, at_m2, scD, emD, sizeLine_eq, ixN, sm_lit, mSrc, itemsD, plOf, rng1D, bNm, mSl, mPt, mNoP, slD, mPar, keepT, tmsO, setA, mFlow, zipX, enumX, itemsX, intsOf, ints_all, boolsOf, shaped_lay, lay_int, lay_bool, lay_none, lay_dict, lay_tup, lay_list, lay_ints, sortX_ints, mPlF, mPlI, mRd, mPU, mPB, mFSet, mFNew, mNSet, mPApp, mPSetIx, mPPop, mMeth, mNew, isIns, cellO, mLstN, mAddN, mAppN, semX, mTold, mCallX, xRet, xExpr, xSet, mRaise, mM, isL, isS, mOrV, truD, mLc, lcL, sameC, wipeC, restC, mYes, *])
local macro_rules | `(tactic| walk_at "ef") => `(tactic| simp [semF, shared, after, mSeq, mSkip, mIf, mRet, mRetN, mRetV, mSet, mSetIx, mExpr, mB, mU, mTm, mPl, mK, mVar, mOp, mCons, mNil, bor, bors, mTst, mAndT, mOrT, mNotT, mAndE, mOrE, mNotE, mIfE, mIsi, isiD, mChn, chnL, cmpD, binD, addD, subD, mulD, modD, fdivD, powD, eqD, neD, ltD, leD, gtD, geD, isD, isnD, L2.M.isNon, negD, ixD, Bf.f, Bg.f, lenD, L2.M.intD, maxD, minD, repD, strD, gmaxD, gminD, sumD, sortD, anyD, allD, mCall, frz, fzO, lend, wb, mTup, mLst, fzs, cD, mAsg, bTup, bTps, mApp, tupD, lstD, mRev, revD, ofs_inj, ee_ii, ee_ss, ee_bb, ee_nn, ee_is, ee_si, ee_in, ee_ni, ee_tt, ee_ll, ee_maps, ee_0, ee_1, ee_2, ee_3, at_lit, at_nat, at_m1, at_m2, scD, emD, sizeLine_eq, ixN, sm_lit, mSrc, itemsD, plOf, rng1D, bNm, mSl, mPt, mNoP, slD, mPar, keepT, tmsO, setA, mFlow, zipX, enumX, itemsX, intsOf, ints_all, boolsOf, shaped_lay, lay_int, lay_bool, lay_none, lay_dict, lay_tup, lay_list, lay_ints, sortX_ints, mPlF, mPlI, mRd, mPU, mPB, mFSet, mFNew, mNSet, mPApp, mPSetIx, mPPop, mMeth, mNew, isIns, cellO, mLstN, mAddN, mAppN, semX, mTold, mCallX, xRet, xExpr, xSet, mRaise, mM, isL, isS, mOrV, truD, mFor, forL, mLc, lcL, sameC, wipeC, restC, mYes, *])
local macro_rules | `(tactic| walk_at "rg") => `(tactic| (and_intros <;> grind))
local macro_rules | `(tactic| walk_at "nx") => `(tactic| (apply wx_nx; focus (walk_at "ev"; try first | exact ⟨rfl, rfl⟩ | rfl)))
local macro_rules | `(tactic| walk_at "ns") => `(tactic| (apply wx_nx; focus (walk_at "es"; try first | exact ⟨rfl, rfl⟩ | rfl)))
local macro_rules | `(tactic| walk_at "rt") => `(tactic| (apply wx_rt; focus (walk_at "ev"; try first | exact ⟨rfl, rfl⟩ | rfl)))
local macro_rules | `(tactic| walk_at "rs") => `(tactic| (apply wx_rt; focus (walk_at "es"; try first | exact ⟨rfl, rfl⟩ | rfl)))
local macro_rules | `(tactic| walk_at "ed") => `(tactic| simp [semF, shared, after, mSeq, mSkip, mIf, mRet, mRetN, mRetV, mSet, mSetIx, mExpr, mB, mU, mTm, mPl, mK, mVar, mOp, mCons, mNil, bor, bors, mTst, mAndT, mOrT, mNotT, mAndE, mOrE, mNotE, mIfE, mIsi, isiD, mChn, chnL, cmpD, binD, addD, subD, mulD, modD, fdivD, powD, eqD, neD, ltD, leD, gtD, geD, isD, isnD, L2.M.isNon, negD, ixD, Bf.f, Bg.f, lenD, L2.M.intD, maxD, minD, repD, strD, gmaxD, gminD, sumD, sortD, anyD, allD, mCall, frz, fzO, lend, wb, mTup, mLst, fzs, cD, mAsg, bTup, bTps, mApp, tupD, lstD, mRev, revD, ofs_inj, ee_ii, ee_ss, ee_bb, ee_nn, ee_is, ee_si, ee_in, ee_ni, ee_tt, ee_ll, ee_maps, ee_0, ee_1, ee_2, ee_3, at_lit, at_nat, at_m1, at_m2, scD, emD, sizeLine_eq, ixN, sm_lit, mSrc, itemsD, plOf, rng1D, bNm, mSl, mPt, mNoP, slD, mPar, keepT, tmsO, setA, mFlow, zipX, enumX, itemsX, intsOf, ints_all, boolsOf, shaped_lay, lay_int, lay_bool, lay_none, lay_dict, lay_tup, lay_list, lay_ints, sortX_ints, mPlF, mPlI, mRd, mPU, mPB, mFSet, mFNew, mNSet, mPApp, mPSetIx, mPPop, mMeth, mNew, isIns, cellO, mLstN, mAddN, mAppN, semX, mTold, mCallX, xRet, xExpr, xSet, mRaise, mM, isL, isS, mOrV, truD, mDNew, mDIn, mDGet, mDLen, mDPut, kyD, mNNew, mN1, mTake, mFnV, mCallF, mNIn, mNGet, mNPut, mNVals, mNList, nKs, mDGetD, mDList, mNNe, *])
def sgT (g : Bool) : Str := if g then "a" else "k"
def on (z : Pz) (u : Int) (g : Bool) : Int := if g = true then pin z u else if z.r ≤ u then u - z.r else u
def unp (z : Pz) : Int → Int → List Bool → List Int
  | _, _, [] => []
  | i, u, g :: bs => (if g = false ∧ u < z.r then [i] else []) ++ unp z (i + 1) (on z u g) bs
def pd (z : Pz) : Int → List Bool → Int
  | _, [] => 0
  | u, g :: bs => (if g = false ∧ z.r ≤ u then 1 else 0) + pd z (on z u g) bs
abbrev en (z : Pz) (u : Int) (bs : List Bool) : Int := bs.foldl (on z) u
theorem pd_unp (z : Pz) : ∀ (bs : List Bool) (i u : Int), pd z u bs + ((unp z i u bs).length : Int) = (bs.count false : Nat)
  | [], _, _ => rfl
  | g :: bs, i, u => by
    have ih := pd_unp z bs (i + 1) (on z u g)
    rw [pd, unp, List.length_append, List.count_cons]
    cases g with
    | true => simp; omega
    | false =>
      by_cases q : z.r ≤ u
      · rw [if_pos ⟨rfl, q⟩, if_neg (by omega)]
        simp
        omega
      · rw [if_neg (by omega), if_pos ⟨rfl, by omega⟩]
        simp
        omega
theorem unp_len (z : Pz) (bs : List Bool) (i u : Int) : (unp z i u bs).length ≤ bs.length := by
  induction bs generalizing i u with
  | nil => exact Nat.le_refl _
  | cons g bs ih =>
    have := ih (i + 1) (on z u g)
    rw [unp, List.length_append, List.length_cons]
    split <;> simp <;> omega
theorem pd_app (z : Pz) : ∀ (a b : List Bool) (u : Int), pd z u (a ++ b) = pd z u a + pd z (en z u a) b
  | [], b, u => by simp [pd]
  | g :: a, b, u => by
    rw [List.cons_append, pd, pd, pd_app z a b]
    show _ + (_ + pd z (en z (on z u g) a) b) = _ + _ + pd z (en z (on z u g) a) b
    omega
theorem unp_app (z : Pz) : ∀ (a b : List Bool) (i u : Int), unp z i u (a ++ b) = unp z i u a ++ unp z (i + a.length) (en z u a) b
  | [], b, i, u => by simp [unp]
  | g :: a, b, i, u => by
    rw [List.cons_append, unp, unp, unp_app z a b, List.append_assoc]
    have : i + 1 + (a.length : Int) = i + ((g :: a).length : Int) := by simp; omega
    rw [this]
    rfl
theorem unp_lt (z : Pz) : ∀ (a : List Bool) (i u : Int), ∀ x ∈ unp z i u a, i ≤ x ∧ x < i + a.length
  | [], i, u, x, hx => by cases hx
  | g :: a, i, u, x, hx => by
    rw [unp] at hx
    rw [List.length_cons]
    rcases List.mem_append.mp hx with hx | hx
    · split at hx
      · rw [List.mem_singleton.mp hx]
        omega
      · cases hx
    · have := unp_lt z a _ _ x hx
      omega
section
variable {z : Pz} (h : z.Ok)
include h
theorem on_b {u : Int} (b : 0 ≤ u ∧ u ≤ z.c) (g : Bool) : 0 ≤ on z u g ∧ on z u g ≤ z.c := by
  have := pin_b h b.1
  have := h.r0
  unfold on
  split
  · omega
  · split <;> omega
theorem en_b : ∀ (bs : List Bool) {u : Int}, 0 ≤ u ∧ u ≤ z.c → 0 ≤ en z u bs ∧ en z u bs ≤ z.c
  | [], _, b => b
  | g :: bs, _, b => en_b bs (on_b h b g)
theorem pd_two : ∀ (bs : List Bool) (u v : Int), (u ≤ v → pd z u bs ≤ pd z v bs) ∧ (u ≤ v + z.r → pd z u bs ≤ pd z v bs + 1)
  | [], u, v => ⟨fun _ => Int.le_refl _, fun _ => by simp [pd]⟩
  | true :: bs, u, v => by
    have ih := pd_two bs (on z u true) (on z v true)
    have hr := h.r0
    have e : ∀ w, pd z w (true :: bs) = pd z (on z w true) bs := fun w => by rw [pd]; simp
    rw [e, e]
    have o : ∀ w, on z w true = pin z w := fun w => rfl
    rw [o, o] at *
    refine ⟨fun q => ih.1 ?_, fun q => ih.2 ?_⟩
    · unfold pin
      split <;> split <;> omega
    · unfold pin
      split <;> split <;> omega
  | false :: bs, u, v => by
    have hr := h.r0
    have e1 : ∀ w, z.r ≤ w → pd z w (false :: bs) = 1 + pd z (w - z.r) bs := fun w q => by
      rw [pd, if_pos ⟨rfl, q⟩]
      have : on z w false = w - z.r := by unfold on; simp [q]
      rw [this]
    have e2 : ∀ w, ¬ z.r ≤ w → pd z w (false :: bs) = pd z w bs := fun w q => by
      rw [pd, if_neg (by omega)]
      have : on z w false = w := by unfold on; simp [q]
      rw [this]
      omega
    by_cases qu : z.r ≤ u <;> by_cases qv : z.r ≤ v
    · rw [e1 u qu, e1 v qv]
      have ih := pd_two bs (u - z.r) (v - z.r)
      exact ⟨fun q => by have := ih.1 (by omega); omega, fun q => by have := ih.2 (by omega); omega⟩
    · rw [e1 u qu, e2 v qv]
      have ih := pd_two bs (u - z.r) v
      exact ⟨fun q => by omega, fun q => by have := ih.1 (by omega); omega⟩
    · rw [e2 u qu, e1 v qv]
      have ih := pd_two bs u (v - z.r)
      exact ⟨fun q => by have := ih.2 (by omega); omega, fun q => by have := ih.2 (by omega); omega⟩
    · rw [e2 u qu, e2 v qv]
      have ih := pd_two bs u v
      exact ⟨fun q => ih.1 q, fun q => ih.2 q⟩
theorem pd_mono {u v : Int} (q : u ≤ v) (bs : List Bool) : pd z u bs ≤ pd z v bs := (pd_two h bs u v).1 q
theorem pd_gr : ∀ (bs : List Bool) {u : Int}, 0 ≤ u → pd z u bs ≤ gr z u (bs.count true)
  | [], u, hu => by
    have := gr_nn h 0 hu
    simpa [pd] using this
  | true :: bs, u, hu => by
    have ih := pd_gr bs (pin_b h hu).1
    have hb := gr_best h hu (k := 0) (by decide) (Int.ediv_nonneg hu (by have := h.r0; omega)) (bs.count true)
    have e : pd z u (true :: bs) = pd z (pin z u) bs := by
      rw [pd]
      have : on z u true = pin z u := rfl
      rw [this]
      simp
    rw [e, List.count_cons]
    simp at hb ⊢
    omega
  | false :: bs, u, hu => by
    rw [List.count_cons, pd]
    by_cases q : z.r ≤ u
    · have ih := pd_gr bs (u := u - z.r) (by omega)
      have := gr_r h (u - z.r) (bs.count true)
      rw [show u - z.r + z.r = u by omega] at this
      have o : on z u false = u - z.r := by unfold on; simp [q]
      rw [if_pos ⟨rfl, q⟩, o]
      simp
      omega
    · have ih := pd_gr bs hu
      have o : on z u false = u := by unfold on; simp [q]
      rw [if_neg (by omega), o]
      simp
      omega
theorem en_free (hp : z.p = 0) : ∀ (bs : List Bool) {u : Int}, en z u bs ≤ u
  | [], _ => Int.le_refl _
  | g :: bs, u => by
    have ih := en_free hp bs (u := on z u g)
    have : on z u g ≤ u := by
      have := h.r0
      unfold on
      split
      · unfold pin
        split <;> omega
      · split <;> omega
    show en z (on z u g) bs ≤ u
    omega
theorem gr_up {u : Int} (hu : 0 ≤ u) (M : Nat) : 0 ≤ gr z u (M + 1) - gr z u M ∧ gr z u (M + 1) - gr z u M ≤ (z.p + z.r - 1) / z.r := by
  have hr := h.r0
  rw [gr_sp, gr_sp, sp_s]
  have b := cj_b h (md_b h u) M
  have p := pin_b h b.1
  generalize cj z (u % z.r) M = j at *
  have h1 : 0 ≤ pin z j / z.r := Int.ediv_nonneg p.1 (by omega)
  have h2 : pin z j / z.r ≤ (z.p + z.r - 1) / z.r := Int.ediv_le_ediv (by omega) (by omega)
  omega
end
end KW
namespace KW
open PySem PySem.Spec PyProof.Rows L2 L2.M
local macro_rules | `(tactic| walk_at "ev") => `(tactic| simp [semF, shared, after, mSeq, mSkip, mIf, mRet, mRetN, mRetV, mSet, mSetIx, mExpr, mB, mU, mTm, mPl, mK, mVar, mOp, mCons, mNil, bor, bors, mTst, mAndT, mOrT, mNotT, mAndE, mOrE, mNotE, mIfE, mIsi, isiD, mChn, chnL, cmpD, binD, addD, subD, mulD, modD, fdivD, powD, eqD, neD, ltD, leD, gtD, geD, isD, isnD, L2.M.isNon, negD, ixD, Bf.f, Bg.f, lenD, L2.M.intD, maxD, minD, repD, strD, gmaxD, gminD, sumD, sortD, anyD, allD, mCall, frz, fzO, lend, wb, mTup, mLst, fzs, cD, mAsg, bTup, bTps, mApp, tupD, lstD, mRev, revD, ofs_inj, ee_ii, ee_ss, ee_bb, ee_nn, ee_is, ee_si, ee_in, ee_ni, ee_tt, ee_ll, ee_maps, ee_0, ee_1, ee_2, ee_3, at_lit, at_nat, at_m1, at_m2, scD, emD, sizeLine_eq, ixN, sm_lit, mSrc, itemsD, plOf, rng1D, bNm, mSl, mPt, mNoP, slD, mPar, keepT, tmsO, setA, mFlow, zipX, enumX, itemsX, intsOf, ints_all, boolsOf, shaped_lay, lay_int, lay_bool, lay_none, lay_dict, lay_tup, lay_list, lay_ints, sortX_ints, mPlF, mPlI, mRd, mPU, mPB, mFSet, mFNew, mNSet, mPApp, mPSetIx, mPPop, mMeth, mNew, isIns, cellO, mLstN, mAddN, mAppN, semX, mTold, mCallX, xRet, xExpr, xSet, mRaise, mM, isL, isS, mOrV, truD])
local macro_rules | `(tactic| walk_at "es") => `(tactic| simp [semF, shared, after, mSeq, mSkip, mIf, mRet, mRetN, mRetV, mSet, mSetIx, mExpr, mB, mU, mTm, mPl, mK, mVar, mOp, mCons, mNil, bor, bors, mTst, mAndT, mOrT, mNotT, mAndE, mOrE, mNotE, mIfE, mIsi, isiD, mChn, chnL, cmpD, binD, addD, subD, mulD, modD, fdivD, powD, eqD, neD, ltD, leD, gtD, geD, isD, isnD, L2.M.isNon, negD, ixD, Bf.f, Bg.f, lenD, L2.M.intD, maxD, minD, repD, strD, gmaxD, gminD, sumD, sortD, anyD, allD, mCall, frz, fzO, lend, wb, mTup, mLst, fzs, cD, mAsg, bTup, bTps, mApp, tupD, lstD, mRev, revD, ofs_inj, ee_ii, ee_ss, ee_bb, ee_nn, ee_is, ee_si, ee_in, ee_ni, ee_tt, ee_ll, ee_maps, ee_0, ee_1, ee_2, ee_3, at_lit, at_nat, at_m1, at_m2, scD, emD, sizeLine_eq, ixN, sm_lit, mSrc, itemsD, plOf, rng1D, bNm, mSl, mPt, mNoP, slD, mPar, keepT, tmsO, setA, mFlow, zipX, enumX, itemsX, intsOf, ints_all, boolsOf, shaped_lay, lay_int, lay_bool, lay_none, lay_dict, lay_tup, lay_list, lay_ints, sortX_ints, mPlF, mPlI, mRd, mPU, mPB, mFSet, mFNew, mNSet, mPApp, mPSetIx, mPPop, mMeth, mNew, isIns, cellO, mLstN, mAddN, mAppN, semX, mTold, mCallX, xRet, xExpr, xSet, mRaise, mM, isL, isS, mOrV, truD, *])
local macro_rules | `(tactic| walk_at "el") => `(tactic| simp [semF, shared, after, mSeq, mSkip, mIf, mRet, mRetN, mRetV, mSet, mSetIx, mExpr, mB, mU, mTm, mPl, mK, mVar, mOp, mCons, mNil, bor, bors, mTst, mAndT, mOrT, mNotT, mAndE, mOrE, mNotE, mIfE, mIsi, isiD, mChn, chnL, cmpD, binD, addD, subD, mulD, modD, fdivD, powD, eqD, neD, ltD, leD, gtD, geD, isD, isnD, L2.M.isNon, negD, ixD, Bf.f, Bg.f, lenD, L2.M.intD, maxD, minD, repD, strD, gmaxD, gminD, sumD, sortD, anyD, allD, mCall, frz, fzO, lend, wb, mTup, mLst, fzs, cD, mAsg, bTup, bTps, mApp, tupD, lstD, mRev, revD, ofs_inj, ee_ii, ee_ss, ee_bb, ee_nn, ee_is, ee_si, ee_in, ee_ni, ee_tt, ee_ll, ee_maps, ee_0, ee_1, ee_2, ee_3, at_lit, at_nat, at_m1, at_m2, scD, emD, sizeLine_eq, ixN, sm_lit, mSrc, itemsD, plOf, rng1D, bNm, mSl, mPt, mNoP, slD, mPar, keepT, tmsO, setA, mFlow, zipX, enumX, itemsX, intsOf, ints_all, boolsOf, shaped_lay, lay_int, lay_bool, lay_none, lay_dict, lay_tup, lay_list, lay_ints, sortX_ints, mPlF, mPlI, mRd, mPU, mPB, mFSet, mFNew, mNSet, mPApp, mPSetIx, mPPop, mMeth, mNew, isIns, cellO, mLstN, mAddN, mAppN, semX, mTold, mCallX, xRet, xExpr, xSet, mRaise, mM, isL, isS, mOrV, truD, mLc, lcL, sameC, wipeC, restC, mYes, *])
local macro_rules | `(tactic| walk_at "ef") => `(tactic| simp [semF, shared, after, mSeq, mSkip, mIf, mRet, mRetN, mRetV, mSet, mSetIx, mExpr, mB, mU, mTm, mPl, mK, mVar, mOp, mCons, mNil, bor, bors, mTst, mAndT, mOrT, mNotT, mAndE, mOrE, mNotE, mIfE, mIsi, isiD, mChn, chnL, cmpD, binD, addD, subD, mulD, modD, fdivD, powD, eqD, neD, ltD, leD, gtD, geD, isD, isnD, L2.M.isNon, negD, ixD, Bf.f, Bg.f, lenD, L2.M.intD, maxD, minD, repD, strD, gmaxD, gminD, sumD, sortD, anyD, allD, mCall, frz, fzO, lend, wb, mTup, mLst, fzs, cD, mAsg, bTup, bTps, mApp, tupD, lstD, mRev, revD, ofs_inj, ee_ii, ee_ss, ee_bb, ee_nn, ee_is, ee_si, ee_in, ee_ni, ee_tt, ee_ll, ee_maps, ee_0, ee_1, ee_2, ee_3, at_lit, at_nat, at_m1, at_m2, scD, emD, sizeLine_eq, ixN, sm_lit, mSrc, itemsD, plOf, rng1D, bNm, mSl, mPt, mNoP, slD, mPar, keepT, tmsO, setA, mFlow, zipX, enumX, itemsX, intsOf, ints_all, boolsOf, shaped_lay, lay_int, lay_bool, lay_none, lay_dict, lay_tup, lay_list, lay_ints, sortX_ints, mPlF, mPlI, mRd, mPU, mPB, mFSet, mFNew, mNSet, mPApp, mPSetIx, mPPop, mMeth, mNew, isIns, cellO, mLstN, mAddN, mAppN, semX, mTold, mCallX, xRet, xExpr, xSet, mRaise, mM, isL, isS, mOrV, truD, mFor, forL, mLc, lcL, sameC, wipeC, restC, mYes, *])
local macro_rules | `(tactic| walk_at "rg") => `(tactic| (and_intros <;> grind))
local macro_rules | `(tactic| walk_at "nx") => `(tactic| (apply wx_nx; focus (walk_at "ev"; try first | exact ⟨rfl, rfl⟩ | rfl)))
local macro_rules | `(tactic| walk_at "ns") => `(tactic| (apply wx_nx; focus (walk_at "es"; try first | exact ⟨rfl, rfl⟩ | rfl)))
local macro_rules | `(tactic| walk_at "rt") => `(tactic| (apply wx_rt; focus (walk_at "ev"; try first | exact ⟨rfl, rfl⟩ | rfl)))
local macro_rules | `(tactic| walk_at "rs") => `(tactic| (apply wx_rt; focus (walk_at "es"; try first | exact ⟨rfl, rfl⟩ | rfl)))
local macro_rules | `(tactic| walk_at "ed") => `(tactic| simp [semF, shared, after, mSeq, mSkip, mIf, mRet, mRetN, mRetV, mSet, mSetIx, mExpr, mB, mU, mTm, mPl, mK, mVar, mOp, mCons, mNil, bor, bors, mTst, mAndT, mOrT, mNotT, mAndE, mOrE, mNotE, mIfE, mIsi, isiD, mChn, chnL, cmpD, binD, addD, subD, mulD, modD, fdivD, powD, eqD, neD, ltD, leD, gtD, geD, isD, isnD, L2.M.isNon, negD, ixD, Bf.f, Bg.f, lenD, L2.M.intD, maxD, minD, repD, strD, gmaxD, gminD, sumD, sortD, anyD, allD, mCall, frz, fzO, lend, wb, mTup, mLst, fzs, cD, mAsg, bTup, bTps, mApp, tupD, lstD, mRev, revD, ofs_inj, ee_ii, ee_ss, ee_bb, ee_nn, ee_is, ee_si, ee_in, ee_ni, ee_tt, ee_ll, ee_maps, ee_0, ee_1, ee_2, ee_3, at_lit, at_nat, at_m1, at_m2, scD, emD, sizeLine_eq, ixN, sm_lit, mSrc, itemsD, plOf, rng1D, bNm, mSl, mPt, mNoP, slD, mPar, keepT, tmsO, setA, mFlow, zipX, enumX, itemsX, intsOf, ints_all, boolsOf, shaped_lay, lay_int, lay_bool, lay_none, lay_dict, lay_tup, lay_list, lay_ints, sortX_ints, mPlF, mPlI, mRd, mPU, mPB, mFSet, mFNew, mNSet, mPApp, mPSetIx, mPPop, mMeth, mNew, isIns, cellO, mLstN, mAddN, mAppN, semX, mTold, mCallX, xRet, xExpr, xSet, mRaise, mM, isL, isS, mOrV, truD, mDNew, mDIn, mDGet, mDLen, mDPut, kyD, mNNew, mN1, mTake, mFnV, mCallF, mNIn, mNGet, mNPut, mNVals, mNList, nKs, mDGetD, mDList, mNNe, *])
end KW
namespace KW
open PySem PySem.Spec PyProof.Rows L2 L2.M
local macro_rules | `(tactic| walk_at "ev") => `(tactic| simp [semF, shared, after, mSeq, mSkip, mIf, mRet, mRetN, mRetV, mSet, mSetIx, mExpr, mB, mU, mTm, mPl, mK, mVar, mOp, mCons, mNil, bor, bors, mTst, mAndT, mOrT, mNotT, mAndE, mOrE, mNotE, mIfE, mIsi, isiD, mChn, chnL, cmpD, binD, addD, subD, mulD, modD, fdivD, powD, eqD, neD, ltD, leD, gtD, geD, isD, isnD, L2.M.isNon, negD, ixD, Bf.f, Bg.f, lenD, L2.M.intD, maxD, minD, repD, strD, gmaxD, gminD, sumD, sortD, anyD, allD, mCall, frz, fzO, lend, wb, mTup, mLst, fzs, cD, mAsg, bTup, bTps, mApp, tupD, lstD, mRev, revD, ofs_inj, ee_ii, ee_ss, ee_bb, ee_nn, ee_is, ee_si, ee_in, ee_ni, ee_tt, ee_ll, ee_maps, ee_0, ee_1, ee_2, ee_3, at_lit, at_nat, at_m1, at_m2, scD, emD, sizeLine_eq, ixN, sm_lit, mSrc, itemsD, plOf, rng1D, bNm, mSl, mPt, mNoP, slD, mPar, keepT, tmsO, setA, mFlow, zipX, enumX, itemsX, intsOf, ints_all, boolsOf, shaped_lay, lay_int, lay_bool, lay_none, lay_dict, lay_tup, lay_list, lay_ints, sortX_ints, mPlF, mPlI, mRd, mPU, mPB, mFSet, mFNew, mNSet, mPApp, mPSetIx, mPPop, mMeth, mNew, isIns, cellO, mLstN, mAddN, mAppN, semX, mTold, mCallX, xRet, xExpr, xSet, mRaise, mM, isL, isS, mOrV, truD])
local macro_rules | `(tactic| walk_at "es") => `(tactic| simp [semF, shared, after, mSeq, mSkip, mIf, mRet, mRetN, mRetV, mSet, mSetIx, mExpr, mB, mU, mTm, mPl, mK, mVar, mOp, mCons, mNil, bor, bors, mTst, mAndT, mOrT, mNotT, mAndE, mOrE, mNotE, mIfE, mIsi, isiD, mChn, chnL, cmpD, binD, addD, subD, mulD, modD, fdivD, powD, eqD, neD, ltD, leD, gtD, geD, isD, isnD, L2.M.isNon, negD, ixD, Bf.f, Bg.f, lenD, L2.M.intD, maxD, minD, repD, strD, gmaxD, gminD, sumD, sortD, anyD, allD, mCall, frz, fzO, lend, wb, mTup, mLst, fzs, cD, mAsg, bTup, bTps, mApp, tupD, lstD, mRev, revD, ofs_inj, ee_ii, ee_ss, ee_bb, ee_nn, ee_is, ee_si, ee_in, ee_ni, ee_tt, ee_ll, ee_maps, ee_0, ee_1, ee_2, ee_3, at_lit, at_nat, at_m1, at_m2, scD, emD, sizeLine_eq, ixN, sm_lit, mSrc, itemsD, plOf, rng1D, bNm, mSl, mPt, mNoP, slD, mPar, keepT, tmsO, setA, mFlow, zipX, enumX, itemsX, intsOf, ints_all, boolsOf, shaped_lay, lay_int, lay_bool, lay_none, lay_dict, lay_tup, lay_list, lay_ints, sortX_ints, mPlF, mPlI, mRd, mPU, mPB, mFSet, mFNew, mNSet, mPApp, mPSetIx, mPPop, mMeth, mNew, isIns, cellO, mLstN, mAddN, mAppN, semX, mTold, mCallX, xRet, xExpr, xSet, mRaise, mM, isL, isS, mOrV, truD, *])
local macro_rules | `(tactic| walk_at "el") => `(tactic| simp [semF, shared, after, mSeq, mSkip, mIf, mRet, mRetN, mRetV, mSet, mSetIx, mExpr, mB, mU, mTm, mPl, mK, mVar, mOp, mCons, mNil, bor, bors, mTst, mAndT, mOrT, mNotT, mAndE, mOrE, mNotE, mIfE, mIsi, isiD, mChn, chnL, cmpD, binD, addD, subD, mulD, modD, fdivD, powD, eqD, neD, ltD, leD, gtD, geD, isD, isnD, L2.M.isNon, negD, ixD, Bf.f, Bg.f, lenD, L2.M.intD, maxD, minD, repD, strD, gmaxD, gminD, sumD, sortD, anyD, allD, mCall, frz, fzO, lend, wb, mTup, mLst, fzs, cD, mAsg, bTup, bTps, mApp, tupD, lstD, mRev, revD, ofs_inj, ee_ii, ee_ss, ee_bb, ee_nn, ee_is, ee_si, ee_in, ee_ni, ee_tt, ee_ll, ee_maps, ee_0, ee_1, ee_2, ee_3, at_lit, at_nat, at_m1, at_m2, scD, emD, sizeLine_eq, ixN, sm_lit, mSrc, itemsD, plOf, rng1D, bNm, mSl, mPt, mNoP, slD, mPar, keepT, tmsO, setA, mFlow, zipX, enumX, itemsX, intsOf, ints_all, boolsOf, shaped_lay, lay_int, lay_bool, lay_none, lay_dict, lay_tup, lay_list, lay_ints, sortX_ints, mPlF, mPlI, mRd, mPU, mPB, mFSet, mFNew, mNSet, mPApp, mPSetIx, mPPop, mMeth, mNew, isIns, cellO, mLstN, mAddN, mAppN, semX, mTold, mCallX, xRet, xExpr, xSet, mRaise, mM, isL, isS, mOrV, truD, mLc, lcL, sameC, wipeC, restC, mYes, *])
local macro_rules | `(tactic| walk_at "ef") => `(tactic| simp [semF, shared, after, mSeq, mSkip, mIf, mRet, mRetN, mRetV, mSet, mSetIx, mExpr, mB, mU, mTm, mPl, mK, mVar, mOp, mCons, mNil, bor, bors, mTst, mAndT, mOrT, mNotT, mAndE, mOrE, mNotE, mIfE, mIsi, isiD, mChn, chnL, cmpD, binD, addD, subD, mulD, modD, fdivD, powD, eqD, neD, ltD, leD, gtD, geD, isD, isnD, L2.M.isNon, negD, ixD, Bf.f, Bg.f, lenD, L2.M.intD, maxD, minD, repD, strD, gmaxD, gminD, sumD, sortD, anyD, allD, mCall, frz, fzO, lend, wb, mTup, mLst, fzs, cD, mAsg, bTup, bTps, mApp, tupD, lstD, mRev, revD, ofs_inj, ee_ii, ee_ss, ee_bb, ee_nn, ee_is, ee_si, ee_in, ee_ni, ee_tt, ee_ll, ee_maps, ee_0, ee_1, ee_2, ee_3, at_lit, at_nat, at_m1, at_m2, scD, emD, sizeLine_eq, ixN, sm_lit, mSrc, itemsD, plOf, rng1D, bNm, mSl, mPt, mNoP, slD, mPar, keepT, tmsO, setA, mFlow, zipX, enumX, itemsX, intsOf, ints_all, boolsOf, shaped_lay, lay_int, lay_bool, lay_none, lay_dict, lay_tup, lay_list, lay_ints, sortX_ints, mPlF, mPlI, mRd, mPU, mPB, mFSet, mFNew, mNSet, mPApp, mPSetIx, mPPop, mMeth, mNew, isIns, cellO, mLstN, mAddN, mAppN, semX, mTold, mCallX, xRet, xExpr, xSet, mRaise, mM, isL, isS, mOrV, truD, mFor, forL, mLc, lcL, sameC, wipeC, restC, mYes, *])
local macro_rules | `(tactic| walk_at "rg") => `(tactic| (and_intros <;> grind))
local macro_rules | `(tactic| walk_at "nx") => `(tactic| (apply wx_nx; focus (walk_at "ev"; try first | exact ⟨rfl, rfl⟩ | rfl)))
local macro_rules | `(tactic| walk_at "ns") => `(tactic| (apply wx_nx; focus (walk_at "es"; try first | exact ⟨rfl, rfl⟩ | rfl)))
local macro_rules | `(tactic| walk_at "rt") => `(tactic| (apply wx_rt; focus (walk_at "ev"; try first | exact ⟨rfl, rfl⟩ | rfl)))
local macro_rules | `(tactic| walk_at "rs") => `(tactic| (apply wx_rt; focus (walk_at "es"; try first | exact ⟨rfl, rfl⟩ | rfl)))
local macro_rules | `(tactic| walk_at "ed") => `(tactic| simp [semF, shared, after, mSeq, mSkip, mIf, mRet, mRetN, mRetV, mSet, mSetIx, mExpr, mB, mU, mTm, mPl, mK, mVar, mOp, mCons, mNil, bor, bors, mTst, mAndT, mOrT, mNotT, mAndE, mOrE, mNotE, mIfE, mIsi, isiD, mChn, chnL, cmpD, binD, addD, subD, mulD, modD, fdivD, powD, eqD, neD, ltD, leD, gtD, geD, isD, isnD, L2.M.isNon, negD, ixD, Bf.f, Bg.f, lenD, L2.M.intD, maxD, minD, repD, strD, gmaxD, gminD, sumD, sortD, anyD, allD, mCall, frz, fzO, lend, wb, mTup, mLst, fzs, cD, mAsg, bTup, bTps, mApp, tupD, lstD, mRev, revD, ofs_inj, ee_ii, ee_ss, ee_bb, ee_nn, ee_is, ee_si, ee_in, ee_ni, ee_tt, ee_ll, ee_maps, ee_0, ee_1, ee_2, ee_3, at_lit, at_nat, at_m1, at_m2, scD, emD, sizeLine_eq, ixN, sm_lit, mSrc, itemsD, plOf, rng1D, bNm, mSl, mPt, mNoP, slD, mPar, keepT, tmsO, setA, mFlow, zipX, enumX, itemsX, intsOf, ints_all, boolsOf, shaped_lay, lay_int, lay_bool, lay_none, lay_dict, lay_tup, lay_list, lay_ints, sortX_ints, mPlF, mPlI, mRd, mPU, mPB, mFSet, mFNew, mNSet, mPApp, mPSetIx, mPPop, mMeth, mNew, isIns, cellO, mLstN, mAddN, mAppN, semX, mTold, mCallX, xRet, xExpr, xSet, mRaise, mM, isL, isS, mOrV, truD, mDNew, mDIn, mDGet, mDLen, mDPut, kyD, mNNew, mN1, mTake, mFnV, mCallF, mNIn, mNGet, mNPut, mNVals, mNList, nKs, mDGetD, mDList, mNNe, *])
theorem rngD_at {n i : Nat} {d : PyData} (h : (rangeD 0 1 n)[i]? = some d) : d = .int (i : Int) ∧ i < n := by
  unfold rangeD at h
  rw [List.getElem?_map] at h
  obtain ⟨x, hx, rfl⟩ := Option.map_eq_some_iff.mp h
  obtain ⟨hi, rfl⟩ := List.getElem?_eq_some_iff.mp hx
  simp at hi
  simp [hi]
theorem rngD_len (n : Nat) : (rangeD 0 1 n).length = n := by simp [rangeD]
theorem wx_rngn {io : List Nat} {src : SM} {bind : BM} {body : XM} {ε ε1 : Cs} {n : Nat} {Q : Fl → Cs → Prop} (J : Nat → Cs → Prop) (hs : src ε = some ((rangeD 0 1 n, []), ε1)) (h0 : J 0 ε1)
    (hstep : ∀ (i : Nat) (ε2 : Cs), i < n → J i ε2 → ∃ ε3, bind (.int (i : Int)) ε2 = some ε3 ∧ Wx (body ε3) fun f ε4 => match f with
      | .nx => J (i + 1) ε4
      | .ct => J (i + 1) ε4
      | .bk => Q .nx ε4
      | .rt c => Q (.rt c) ε4
      | .xc x => Q (.xc x) ε4) (hend : ∀ ε2, J n ε2 → Q .nx ε2) : Wx (mFor io src bind body ε) Q := by
  refine wx_for J hs rfl h0 (fun i ε hj j hj2 => by cases hj2) (fun i d ε2 hd hj => ?_) (fun ε2 h => hend ε2 (by rwa [rngD_len] at h))
  obtain ⟨rfl, hi⟩ := rngD_at hd
  exact hstep i ε2 hi hj
end KW
namespace KW
open PySem PySem.Spec PyProof.Rows L2 L2.M
local macro_rules | `(tactic| walk_at "ev") => `(tactic| simp [semF, shared, after, mSeq, mSkip, mIf, mRet, mRetN, mRetV, mSet, mSetIx, mExpr, mB, mU, mTm, mPl, mK, mVar, mOp, mCons, mNil, bor, bors, mTst, mAndT, mOrT, mNotT, mAndE, mOrE, mNotE, mIfE, mIsi, isiD, mChn, chnL, cmpD, binD, addD, subD, mulD, modD, fdivD, powD, eqD, neD, ltD, leD, gtD, geD, isD, isnD, L2.M.isNon, negD, ixD, Bf.f, Bg.f, lenD, L2.M.intD, maxD, minD, repD, strD, gmaxD, gminD, sumD, sortD, anyD, allD, mCall, frz, fzO, lend, wb, mTup, mLst, fzs, cD, mAsg, bTup, bTps, mApp, tupD, lstD, mRev, revD, ofs_inj, ee_ii, ee_ss, ee_bb, ee_nn, ee_is, ee_si, ee_in, ee_ni, ee_tt, ee_ll, ee_maps, ee_0, ee_1, ee_2, ee_3, at_lit, at_nat, at_m1, at_m2, scD, emD, sizeLine_eq, ixN, sm_lit, mSrc, itemsD, plOf, rng1D, bNm, mSl, mPt, mNoP, slD, mPar, keepT, tmsO, setA, mFlow, zipX, enumX, itemsX, intsOf, ints_all, boolsOf, shaped_lay, lay_int, lay_bool, lay_none, lay_dict, lay_tup, lay_list, lay_ints, sortX_ints, mPlF, mPlI, mRd, mPU, mPB, mFSet, mFNew, mNSet, mPApp, mPSetIx, mPPop, mMeth, mNew, isIns, cellO, mLstN, mAddN, mAppN, semX, mTold, mCallX, xRet, xExpr, xSet, mRaise, mM, isL, isS, mOrV, truD])
local macro_rules | `(tactic| walk_at "es") => `(tactic| simp [semF, shared, after, mSeq, mSkip, mIf, mRet, mRetN, mRetV, mSet, mSetIx, mExpr, mB, mU, mTm, mPl, mK, mVar, mOp, mCons, mNil, bor, bors, mTst, mAndT, mOrT, mNotT, mAndE, mOrE, mNotE, mIfE, mIsi, isiD, mChn, chnL, cmpD, binD, addD, subD, mulD, modD, fdivD, powD, eqD, neD, ltD, leD, gtD, geD, isD, isnD, L2.M.isNon, negD, ixD, Bf.f, Bg.f, lenD, L2.M.intD, maxD, minD, repD, strD, gmaxD, gminD, sumD, sortD, anyD, allD, mCall, frz, fzO, lend, wb, mTup, mLst, fzs, cD, mAsg, bTup, bTps, mApp, tupD, lstD, mRev, revD, ofs_inj, ee_ii, ee_ss, ee_bb, ee_nn, ee_is, ee_si, ee_in, ee_ni, ee_tt, ee_ll, ee_maps, ee_0, ee_1, ee_2, ee_3, at_lit, at_nat, at_m1, at_m2, scD, emD, sizeLine_eq, ixN, sm_lit, mSrc, itemsD, plOf, rng1D, bNm, mSl, mPt, mNoP, slD, mPar, keepT, tmsO, setA, mFlow, zipX, enumX, itemsX, intsOf, ints_all, boolsOf, shaped_lay, lay_int, lay_bool, lay_none, lay_dict, lay_tup, lay_list, lay_ints, sortX_ints, mPlF, mPlI, mRd, mPU, mPB, mFSet, mFNew, mNSet, mPApp, mPSetIx, mPPop, mMeth, mNew, isIns, cellO, mLstN, mAddN, mAppN, semX, mTold, mCallX, xRet, xExpr, xSet, mRaise, mM, isL, isS, mOrV, truD, *])
local macro_rules | `(tactic| walk_at "el") => `(tactic| simp [semF, shared, after, mSeq, mSkip, mIf, mRet, mRetN, mRetV, mSet, mSetIx, mExpr, mB, mU, mTm, mPl, mK, mVar, mOp, mCons, mNil, bor, bors, mTst, mAndT, mOrT, mNotT, mAndE, mOrE, mNotE, mIfE, mIsi, isiD, mChn, chnL, cmpD, binD, addD, subD, mulD, modD, fdivD, powD, eqD, neD, ltD, leD, gtD, geD, isD, isnD, L2.M.isNon, negD, ixD, Bf.f, Bg.f, lenD, L2.M.intD, maxD, minD, repD, strD, gmaxD, gminD, sumD, sortD, anyD, allD, mCall, frz, fzO, lend, wb, mTup, mLst, fzs, cD, mAsg, bTup, bTps, mApp, tupD, lstD, mRev, revD, ofs_inj, ee_ii, ee_ss, ee_bb, ee_nn, ee_is, ee_si, ee_in, ee_ni, ee_tt, ee_ll, ee_maps, ee_0, ee_1, ee_2, ee_3, at_lit, at_nat, at_m1, at_m2, scD, emD, sizeLine_eq, ixN, sm_lit, mSrc, itemsD, plOf, rng1D, bNm, mSl, mPt, mNoP, slD, mPar, keepT, tmsO, setA, mFlow, zipX, enumX, itemsX, intsOf, ints_all, boolsOf, shaped_lay, lay_int, lay_bool, lay_none, lay_dict, lay_tup, lay_list, lay_ints, sortX_ints, mPlF, mPlI, mRd, mPU, mPB, mFSet, mFNew, mNSet, mPApp, mPSetIx, mPPop, mMeth, mNew, isIns, cellO, mLstN, mAddN, mAppN, semX, mTold, mCallX, xRet, xExpr, xSet, mRaise, mM, isL, isS, mOrV, truD, mLc, lcL, sameC, wipeC, restC, mYes, *])
local macro_rules | `(tactic| walk_at "ef") => `(tactic| simp [semF, shared, after, mSeq, mSkip, mIf, mRet, mRetN, mRetV, mSet, mSetIx, mExpr, mB, mU, mTm, mPl, mK, mVar, mOp, mCons, mNil, bor, bors, mTst, mAndT, mOrT, mNotT, mAndE, mOrE, mNotE, mIfE, mIsi, isiD, mChn, chnL, cmpD, binD, addD, subD, mulD, modD, fdivD, powD, eqD, neD, ltD, leD, gtD, geD, isD, isnD, L2.M.isNon, negD, ixD, Bf.f, Bg.f, lenD, L2.M.intD, maxD, minD, repD, strD, gmaxD, gminD, sumD, sortD, anyD, allD, mCall, frz, fzO, lend, wb, mTup, mLst, fzs, cD, mAsg, bTup, bTps, mApp, tupD, lstD, mRev, revD, ofs_inj, ee_ii, ee_ss, ee_bb, ee_nn, ee_is, ee_si, ee_in, ee_ni, ee_tt, ee_ll, ee_maps, ee_0, ee_1, ee_2, ee_3, at_lit, at_nat, at_m1, at_m2, scD, emD, sizeLine_eq, ixN, sm_lit, mSrc, itemsD, plOf, rng1D, bNm, mSl, mPt, mNoP, slD, mPar, keepT, tmsO, setA, mFlow, zipX, enumX, itemsX, intsOf, ints_all, boolsOf, shaped_lay, lay_int, lay_bool, lay_none, lay_dict, lay_tup, lay_list, lay_ints, sortX_ints, mPlF, mPlI, mRd, mPU, mPB, mFSet, mFNew, mNSet, mPApp, mPSetIx, mPPop, mMeth, mNew, isIns, cellO, mLstN, mAddN, mAppN, semX, mTold, mCallX, xRet, xExpr, xSet, mRaise, mM, isL, isS, mOrV, truD, mFor, forL, mLc, lcL, sameC, wipeC, restC, mYes, *])
local macro_rules | `(tactic| walk_at "rg") => `(tactic| (and_intros <;> grind))
local macro_rules | `(tactic| walk_at "nx") => `(tactic| (apply wx_nx; focus (walk_at "ev"; try first | exact ⟨rfl, rfl⟩ | rfl)))
local macro_rules | `(tactic| walk_at "ns") => `(tactic| (apply wx_nx; focus (walk_at "es"; try first | exact ⟨rfl, rfl⟩ | rfl)))
local macro_rules | `(tactic| walk_at "rt") => `(tactic| (apply wx_rt; focus (walk_at "ev"; try first | exact ⟨rfl, rfl⟩ | rfl)))
local macro_rules | `(tactic| walk_at "rs") => `(tactic| (apply wx_rt; focus (walk_at "es"; try first | exact ⟨rfl, rfl⟩ | rfl)))
local macro_rules | `(tactic| walk_at "ed") => `(tactic| simp [semF, shared, after, mSeq, mSkip, mIf, mRet, mRetN, mRetV, mSet, mSetIx, mExpr, mB, mU, mTm, mPl, mK, mVar, mOp, mCons, mNil, bor, bors, mTst, mAndT, mOrT, mNotT, mAndE, mOrE, mNotE, mIfE, mIsi, isiD, mChn, chnL, cmpD, binD, addD, subD, mulD, modD, fdivD, powD, eqD, neD, ltD, leD, gtD, geD, isD, isnD, L2.M.isNon, negD, ixD, Bf.f, Bg.f, lenD, L2.M.intD, maxD, minD, repD, strD, gmaxD, gminD, sumD, sortD, anyD, allD, mCall, frz, fzO, lend, wb, mTup, mLst, fzs, cD, mAsg, bTup, bTps, mApp, tupD, lstD, mRev, revD, ofs_inj, ee_ii, ee_ss, ee_bb, ee_nn, ee_is, ee_si, ee_in, ee_ni, ee_tt, ee_ll, ee_maps, ee_0, ee_1, ee_2, ee_3, at_lit, at_nat, at_m1, at_m2, scD, emD, sizeLine_eq, ixN, sm_lit, mSrc, itemsD, plOf, rng1D, bNm, mSl, mPt, mNoP, slD, mPar, keepT, tmsO, setA, mFlow, zipX, enumX, itemsX, intsOf, ints_all, boolsOf, shaped_lay, lay_int, lay_bool, lay_none, lay_dict, lay_tup, lay_list, lay_ints, sortX_ints, mPlF, mPlI, mRd, mPU, mPB, mFSet, mFNew, mNSet, mPApp, mPSetIx, mPPop, mMeth, mNew, isIns, cellO, mLstN, mAddN, mAppN, semX, mTold, mCallX, xRet, xExpr, xSet, mRaise, mM, isL, isS, mOrV, truD, mDNew, mDIn, mDGet, mDLen, mDPut, kyD, mNNew, mN1, mTake, mFnV, mCallF, mNIn, mNGet, mNPut, mNVals, mNList, nKs, mDGetD, mDList, mNNe, *])
abbrev cpsL (z : Str) : List Nat := z.cps.toList
theorem len_cps (z : Str) : (cpsL z).length = z.length := Array.length_toList
theorem str_ext {x y : Str} (h : cpsL x = cpsL y) : x = y := cps_inj h
theorem cps_app (x y : Str) : cpsL (x ++ y) = cpsL x ++ cpsL y := cps_toList_append x y
theorem strOk_iff {z : Str} : PyData.strOk z = true ↔ ∀ c ∈ cpsL z, c < 1114112 := by
  unfold PyData.strOk
  rw [Array.all_eq_true_iff_forall_mem]
  simp only [Array.mem_def, decide_eq_true_eq]
structure Tx (B : Nat) (z : Str) : Prop where
  ok : ∀ c ∈ cpsL z, c < 1114112
  len : z.length ≤ B
theorem Tx.mono {A B : Nat} {z : Str} (h : Tx A z) (hb : A ≤ B) : Tx B z := ⟨h.ok, Nat.le_trans h.len hb⟩
theorem Tx.strOk {B : Nat} {z : Str} (h : Tx B z) : PyData.strOk z = true := strOk_iff.mpr h.ok
theorem join_eq (b : Str) (ps : List Str) : Txt.join b ps = Str.join b ps := StrLaws.glued_eq_join b ps
theorem chars_items (z : Str) : itemsD [.str z] = some ((cpsL z).map fun c => PyData.str ⟨#[c]⟩) := rfl
end KW
namespace KW
open PySem PySem.Spec PyProof.Rows L2 L2.M
local macro_rules | `(tactic| walk_at "ev") => `(tactic| simp [semF, shared, after, mSeq, mSkip, mIf, mRet, mRetN, mRetV, mSet, mSetIx, mExpr, mB, mU, mTm, mPl, mK, mVar, mOp, mCons, mNil, bor, bors, mTst, mAndT, mOrT, mNotT, mAndE, mOrE, mNotE, mIfE, mIsi, isiD, mChn, chnL, cmpD, binD, addD, subD, mulD, modD, fdivD, powD, eqD, neD, ltD, leD, gtD, geD, isD, isnD, L2.M.isNon, negD, ixD, Bf.f, Bg.f, lenD, L2.M.intD, maxD, minD, repD, strD, gmaxD, gminD, sumD, sortD, anyD, allD, mCall, frz, fzO, lend, wb, mTup, mLst, fzs, cD, mAsg, bTup, bTps, mApp, tupD, lstD, mRev, revD, ofs_inj, ee_ii, ee_ss, ee_bb, ee_nn, ee_is, ee_si, ee_in, ee_ni, ee_tt, ee_ll, ee_maps, ee_0, ee_1, ee_2, ee_3, at_lit, at_nat, at_m1, at_m2, scD, emD, sizeLine_eq, ixN, sm_lit, mSrc, itemsD, plOf, rng1D, bNm, mSl, mPt, mNoP, slD, mPar, keepT, tmsO, setA, mFlow, zipX, enumX, itemsX, intsOf, ints_all, boolsOf, shaped_lay, lay_int, lay_bool, lay_none, lay_dict, lay_tup, lay_list, lay_ints, sortX_ints, mPlF, mPlI, mRd, mPU, mPB, mFSet, mFNew, mNSet, mPApp, mPSetIx, mPPop, mMeth, mNew, isIns, cellO, mLstN, mAddN, mAppN, semX, mTold, mCallX, xRet, xExpr, xSet, mRaise, mM, isL, isS, mOrV, truD])
local macro_rules | `(tactic| walk_at "es") => `(tactic| simp [semF, shared, after, mSeq, mSkip, mIf, mRet, mRetN, mRetV, mSet, mSetIx, mExpr, mB, mU, mTm, mPl, mK, mVar, mOp, mCons, mNil, bor, bors, mTst, mAndT, mOrT, mNotT, mAndE, mOrE, mNotE, mIfE, mIsi, isiD, mChn, chnL, cmpD, binD, addD, subD, mulD, modD, fdivD, powD, eqD, neD, ltD, leD, gtD, geD, isD, isnD, L2.M.isNon, negD, ixD, Bf.f, Bg.f, lenD, L2.M.intD, maxD, minD, repD, strD, gmaxD, gminD, sumD, sortD, anyD, allD, mCall, frz, fzO, lend, wb, mTup, mLst, fzs, cD, mAsg, bTup, bTps, mApp, tupD, lstD, mRev, revD, ofs_inj, ee_ii, ee_ss, ee_bb, ee_nn, ee_is, ee_si, ee_in, ee_ni, ee_tt, ee_ll, ee_maps, ee_0, ee_1, ee_2, ee_3, at_lit, at_nat, at_m1, at_m2, scD, emD, sizeLine_eq, ixN, sm_lit, mSrc, itemsD, plOf, rng1D, bNm, mSl, mPt, mNoP, slD, mPar, keepT, tmsO, setA, mFlow, zipX, enumX, itemsX, intsOf, ints_all, boolsOf, shaped_lay, lay_int, lay_bool, lay_none, lay_dict, lay_tup, lay_list, lay_ints, sortX_ints, mPlF, mPlI, mRd, mPU, mPB, mFSet, mFNew, mNSet, mPApp, mPSetIx, mPPop, mMeth, mNew, isIns, cellO, mLstN, mAddN, mAppN, semX, mTold, mCallX, xRet, xExpr, xSet, mRaise, mM, isL, isS, mOrV, truD, *])
local macro_rules | `(tactic| walk_at "el") => `(tactic| simp [semF, shared, after, mSeq, mSkip, mIf, mRet, mRetN, mRetV, mSet, mSetIx, mExpr, mB, mU, mTm, mPl, mK, mVar, mOp, mCons, mNil, bor, bors, mTst, mAndT, mOrT, mNotT, mAndE, mOrE, mNotE, mIfE, mIsi, isiD, mChn, chnL, cmpD, binD, addD, subD, mulD, modD, fdivD, powD, eqD, neD, ltD, leD, gtD, geD, isD, isnD, L2.M.isNon, negD, ixD, Bf.f, Bg.f, lenD, L2.M.intD, maxD, minD, repD, strD, gmaxD, gminD, sumD, sortD, anyD, allD, mCall, frz, fzO, lend, wb, mTup, mLst, fzs, cD, mAsg, bTup, bTps, mApp, tupD, lstD, mRev, revD, ofs_inj, ee_ii, ee_ss, ee_bb, ee_nn, ee_is, ee_si, ee_in, ee_ni, ee_tt, ee_ll, ee_maps, ee_0, ee_1, ee_2, ee_3, at_lit, at_nat, at_m1, at_m2, scD, emD, sizeLine_eq, ixN, sm_lit, mSrc, itemsD, plOf, rng1D, bNm, mSl, mPt, mNoP, slD, mPar, keepT, tmsO, setA, mFlow, zipX, enumX, itemsX, intsOf, ints_all, boolsOf, shaped_lay, lay_int, lay_bool, lay_none, lay_dict, lay_tup, lay_list, lay_ints, sortX_ints, mPlF, mPlI, mRd, mPU, mPB, mFSet, mFNew, mNSet, mPApp, mPSetIx, mPPop, mMeth, mNew, isIns, cellO, mLstN, mAddN, mAppN, semX, mTold, mCallX, xRet, xExpr, xSet, mRaise, mM, isL, isS, mOrV, truD, mLc, lcL, sameC, wipeC, restC, mYes, *])
local macro_rules | `(tactic| walk_at "ef") => `(tactic| simp [semF, shared, after, mSeq, mSkip, mIf, mRet, mRetN, mRetV, mSet, mSetIx, mExpr, mB, mU, mTm, mPl, mK, mVar, mOp, mCons, mNil, bor, bors, mTst, mAndT, mOrT, mNotT, mAndE, mOrE, mNotE, mIfE, mIsi, isiD, mChn, chnL, cmpD, binD, addD, subD, mulD, modD, fdivD, powD, eqD, neD, ltD, leD, gtD, geD, isD, isnD, L2.M.isNon, negD, ixD, Bf.f, Bg.f, lenD, L2.M.intD, maxD, minD, repD, strD, gmaxD, gminD, sumD, sortD, anyD, allD, mCall, frz, fzO, lend, wb, mTup, mLst, fzs, cD, mAsg, bTup, bTps, mApp, tupD, lstD, mRev, revD, ofs_inj, ee_ii, ee_ss, ee_bb, ee_nn, ee_is, ee_si, ee_in, ee_ni, ee_tt, ee_ll, ee_maps, ee_0, ee_1, ee_2, ee_3, at_lit, at_nat, at_m1, at_m2, scD, emD, sizeLine_eq, ixN, sm_lit, mSrc, itemsD, plOf, rng1D, bNm, mSl, mPt, mNoP, slD, mPar, keepT, tmsO, setA, mFlow, zipX, enumX, itemsX, intsOf, ints_all, boolsOf, shaped_lay, lay_int, lay_bool, lay_none, lay_dict, lay_tup, lay_list, lay_ints, sortX_ints, mPlF, mPlI, mRd, mPU, mPB, mFSet, mFNew, mNSet, mPApp, mPSetIx, mPPop, mMeth, mNew, isIns, cellO, mLstN, mAddN, mAppN, semX, mTold, mCallX, xRet, xExpr, xSet, mRaise, mM, isL, isS, mOrV, truD, mFor, forL, mLc, lcL, sameC, wipeC, restC, mYes, *])
local macro_rules | `(tactic| walk_at "rg") => `(tactic| (and_intros <;> grind))
local macro_rules | `(tactic| walk_at "nx") => `(tactic| (apply wx_nx; focus (walk_at "ev"; try first | exact ⟨rfl, rfl⟩ | rfl)))
local macro_rules | `(tactic| walk_at "ns") => `(tactic| (apply wx_nx; focus (walk_at "es"; try first | exact ⟨rfl, rfl⟩ | rfl)))
local macro_rules | `(tactic| walk_at "rt") => `(tactic| (apply wx_rt; focus (walk_at "ev"; try first | exact ⟨rfl, rfl⟩ | rfl)))
local macro_rules | `(tactic| walk_at "rs") => `(tactic| (apply wx_rt; focus (walk_at "es"; try first | exact ⟨rfl, rfl⟩ | rfl)))
local macro_rules | `(tactic| walk_at "ed") => `(tactic| simp [semF, shared, after, mSeq, mSkip, mIf, mRet, mRetN, mRetV, mSet, mSetIx, mExpr, mB, mU, mTm, mPl, mK, mVar, mOp, mCons, mNil, bor, bors, mTst, mAndT, mOrT, mNotT, mAndE, mOrE, mNotE, mIfE, mIsi, isiD, mChn, chnL, cmpD, binD, addD, subD, mulD, modD, fdivD, powD, eqD, neD, ltD, leD, gtD, geD, isD, isnD, L2.M.isNon, negD, ixD, Bf.f, Bg.f, lenD, L2.M.intD, maxD, minD, repD, strD, gmaxD, gminD, sumD, sortD, anyD, allD, mCall, frz, fzO, lend, wb, mTup, mLst, fzs, cD, mAsg, bTup, bTps, mApp, tupD, lstD, mRev, revD, ofs_inj, ee_ii, ee_ss, ee_bb, ee_nn, ee_is, ee_si, ee_in, ee_ni, ee_tt, ee_ll, ee_maps, ee_0, ee_1, ee_2, ee_3, at_lit, at_nat, at_m1, at_m2, scD, emD, sizeLine_eq, ixN, sm_lit, mSrc, itemsD, plOf, rng1D, bNm, mSl, mPt, mNoP, slD, mPar, keepT, tmsO, setA, mFlow, zipX, enumX, itemsX, intsOf, ints_all, boolsOf, shaped_lay, lay_int, lay_bool, lay_none, lay_dict, lay_tup, lay_list, lay_ints, sortX_ints, mPlF, mPlI, mRd, mPU, mPB, mFSet, mFNew, mNSet, mPApp, mPSetIx, mPPop, mMeth, mNew, isIns, cellO, mLstN, mAddN, mAppN, semX, mTold, mCallX, xRet, xExpr, xSet, mRaise, mM, isL, isS, mOrV, truD, mDNew, mDIn, mDGet, mDLen, mDPut, kyD, mNNew, mN1, mTake, mFnV, mCallF, mNIn, mNGet, mNPut, mNVals, mNList, nKs, mDGetD, mDList, mNNe, *])
structure Bn where
  (q1 q2 : Int) (w : List Bool) (v : PyData)
abbrev kP (a b : Int) : PyData := .tuple [.int a, .int b]
def kQ (a b : Int) : NestedKey := .tup [.num a, .num b]
theorem nKey_p (a b : Int) : nKey (kP a b) = some (kQ a b) := by
  unfold kQ
  simp [nKey, nKeys]
theorem okKey_p (a b : Int) : okKey (kP a b) = some (kQ a b) := by
  have e : okKey (kP a b) = (nKey (kP a b)).bind fun n => if n.depth ≤ 8 then some n else none := rfl
  rw [e, nKey_p, Option.bind_some, if_pos]
  unfold kQ
  simp [NestedKey.depth, NestedKey.depthAll]
theorem kQ_inj {a b c d : Int} (h : kQ a b = kQ c d) : a = c ∧ b = d := by
  unfold kQ at h
  injection h with h
  injection h with h1 h2
  injection h1 with h1
  injection h2 with h2 _
  injection h2 with h2
  exact ⟨h1, h2⟩
def bKs (F : List Bn) : List PyData := F.map fun e => kP e.q1 e.q2
def bCs (F : List Bn) : List C := F.map fun e => .sh e.v
abbrev bC (F : List Bn) : C := .ob (.dn (bKs F)) (bCs F)
def bIx (F : List Bn) (a b : Int) : Option Nat := F.findIdx? fun e => decide (e.q1 = a ∧ e.q2 = b)
theorem idx_b (F : List Bn) (a b : Int) : idxN (bKs F) (kQ a b) = bIx F a b := by
  unfold idxN bKs bIx
  rw [List.findIdx?_map]
  congr 1
  funext r
  show decide (nKey (kP r.q1 r.q2) = some (kQ a b)) = _
  rw [nKey_p]
  by_cases c : r.q1 = a ∧ r.q2 = b
  · obtain ⟨rfl, rfl⟩ := c
    simp
  · have : ¬ kQ r.q1 r.q2 = kQ a b := fun e => c (kQ_inj e)
    simp only [Option.some.injEq, this, c, decide_false]
abbrev bK (e : Bn) : Int × Int := (e.q1, e.q2)
theorem bIx_none {F : List Bn} {a b : Int} (h : bIx F a b = none) : (a, b) ∉ F.map bK := by
  intro hm
  obtain ⟨e, he, q⟩ := List.mem_map.mp hm
  have := List.findIdx?_eq_none_iff.mp h e he
  have h1 := congrArg Prod.fst q
  have h2 := congrArg Prod.snd q
  simp only at h1 h2
  simp [h1, h2] at this
theorem bIx_some {F : List Bn} {a b : Int} {j : Nat} (h : bIx F a b = some j) : (a, b) ∈ F.map bK := by
  obtain ⟨h1, h2, _⟩ := List.findIdx?_eq_some_iff_getElem.mp h
  have h2 := of_decide_eq_true h2
  exact List.mem_map.mpr ⟨F[j], List.getElem_mem h1, by rw [← h2.1, ← h2.2]⟩
theorem bIx_at {F : List Bn} (hn : (F.map bK).Nodup) {j : Nat} {e : Bn} (h : F[j]? = some e) : bIx F e.q1 e.q2 = some j := by
  obtain ⟨hj, rfl⟩ := List.getElem?_eq_some_iff.mp h
  cases hi : bIx F F[j].q1 F[j].q2 with
  | none => exact absurd (List.mem_map.mpr ⟨F[j], List.getElem_mem hj, rfl⟩) (bIx_none hi)
  | some k =>
    obtain ⟨h1, h2, _⟩ := List.findIdx?_eq_some_iff_getElem.mp hi
    have h2 := of_decide_eq_true h2
    have h3 : (F.map bK)[k]? = some (bK F[j]) := by
      rw [List.getElem?_map, List.getElem?_eq_getElem h1]
      show some (_, _) = some (_, _)
      rw [h2.1, h2.2]
    have h4 : (F.map bK)[j]? = some (bK F[j]) := by rw [List.getElem?_map, h]; rfl
    have := (List.getElem?_inj (by rw [List.length_map]; exact hj) hn).mp (h4.trans h3.symm)
    rw [this]
def addB (F : List Bn) (e : Bn) : List Bn := match bIx F e.q1 e.q2 with
  | none => F ++ [e]
  | some _ => F
def kid (z y : Pz) (e : Bn) (g : Bool) : Bn := ⟨on z e.q1 g, on y e.q2 g, e.w ++ [g], .tuple [kP e.q1 e.q2, .str (sgT g)]⟩
def stepB (z y : Pz) (F : List Bn) (e : Bn) : List Bn := addB (addB F (kid z y e true)) (kid z y e false)
def misB (z y : Pz) (e : Bn) : Bool := decide (z.r ≤ e.q1) != decide (y.r ≤ e.q2)
structure BInv (z y : Pz) (F : List Bn) : Prop where
  nd : (F.map bK).Nodup
  st : F[0]? = some ⟨z.f, y.f, [], .none⟩
  en : ∀ e ∈ F, e.q1 = en z z.f e.w ∧ e.q2 = en y y.f e.w
  par : ∀ i e, F[i + 1]? = some e → ∃ (j : Nat) (e' : Bn) (g : Bool), j ≤ i ∧ F[j]? = some e' ∧ e.w = e'.w ++ [g] ∧ e.v = .tuple [kP e'.q1 e'.q2, .str (sgT g)]
def bSt (z y : Pz) : Bn := ⟨z.f, y.f, [], .none⟩
theorem binv0 (z y : Pz) : BInv z y [bSt z y] := by
  refine ⟨by simp, rfl, ?_, fun i e h => by simp at h⟩
  intro e he
  rw [List.mem_singleton.mp he]
  exact ⟨rfl, rfl⟩
theorem addB_sub {F : List Bn} {e x : Bn} (h : x ∈ F) : x ∈ addB F e := by
  unfold addB
  split
  · exact List.mem_append_left _ h
  · exact h
theorem addB_get {F : List Bn} {e x : Bn} {j : Nat} (h : F[j]? = some x) : (addB F e)[j]? = some x := by
  unfold addB
  split
  · rw [List.getElem?_append_left (List.getElem?_eq_some_iff.mp h).1]
    exact h
  · exact h
theorem addB_has (F : List Bn) (e : Bn) : bK e ∈ (addB F e).map bK := by
  unfold addB
  split
  · simp
  · rename_i j h
    exact bIx_some h
theorem addB_mem {F : List Bn} {e x : Bn} (h : x ∈ addB F e) : x ∈ F ∨ x = e := by
  unfold addB at h
  split at h
  · rcases List.mem_append.mp h with h | h
    · exact .inl h
    · exact .inr (List.mem_singleton.mp h)
  · exact .inl h
theorem addB_inv {z y : Pz} {F : List Bn} (k : BInv z y F) {t : Nat} {e : Bn} (he : F[t]? = some e) (g : Bool) : BInv z y (addB F (kid z y e g)) := by
  unfold addB
  split
  · rename_i q
    have hF := (List.getElem?_eq_some_iff.mp k.st).1
    have hee := k.en e (List.mem_of_getElem? he)
    refine ⟨?_, ?_, ?_, ?_⟩
    · rw [List.map_append, List.nodup_append]
      refine ⟨k.nd, by simp, fun a ha b hb z => bIx_none q ?_⟩
      have hb := List.mem_singleton.mp hb
      rw [z, hb] at ha
      exact ha
    · rw [List.getElem?_append_left hF]
      exact k.st
    · intro x hx
      rcases List.mem_append.mp hx with hx | hx
      · exact k.en x hx
      · rw [List.mem_singleton.mp hx]
        have h1 : ∀ (p : Pz) (u : Int), KW.en p u (e.w ++ [g]) = on p (KW.en p u e.w) g := fun p u => by
          show List.foldl _ _ _ = _
          rw [List.foldl_append]
          rfl
        show on z e.q1 g = KW.en z z.f (e.w ++ [g]) ∧ on y e.q2 g = KW.en y y.f (e.w ++ [g])
        rw [h1, h1, ← hee.1, ← hee.2]
        exact ⟨rfl, rfl⟩
    · intro i x hx
      by_cases hi : i + 1 < F.length
      · rw [List.getElem?_append_left hi] at hx
        obtain ⟨j, e', g', h1, h2, h3⟩ := k.par i x hx
        exact ⟨j, e', g', h1, by rw [List.getElem?_append_left (List.getElem?_eq_some_iff.mp h2).1]; exact h2, h3⟩
      · rw [List.getElem?_append_right (by omega)] at hx
        have hl := (List.getElem?_eq_some_iff.mp hx).1
        have hil : i + 1 = F.length := by simp at hl; omega
        rw [hil, Nat.sub_self] at hx
        have hx := Option.some.inj hx
        have ht := (List.getElem?_eq_some_iff.mp he).1
        exact ⟨t, e, g, by omega, by rw [List.getElem?_append_left ht]; exact he, by rw [← hx]; rfl, by rw [← hx]; rfl⟩
  · exact k
theorem stepB_inv {z y : Pz} {F : List Bn} (k : BInv z y F) {t : Nat} {e : Bn} (he : F[t]? = some e) : BInv z y (stepB z y F e) := addB_inv (addB_inv k he true) (addB_get he) false
theorem bw_len {z y : Pz} {F : List Bn} (k : BInv z y F) : ∀ (i : Nat) (e : Bn), F[i]? = some e → e.w.length ≤ i := by
  intro i
  induction i using Nat.strongRecOn with
  | ind i ih =>
    intro e he
    cases i with
    | zero =>
      rw [k.st] at he
      cases he
      exact Nat.le_refl _
    | succ i =>
      obtain ⟨j, e', g, h1, h2, h3, _⟩ := k.par i e he
      have := ih j (by omega) e' h2
      rw [h3, List.length_append, List.length_singleton]
      omega
theorem b_len {z y : Pz} (hz : z.Ok) (hy : y.Ok) (cz : z.c ≤ 60) (cy : y.c ≤ 60) {F : List Bn} (k : BInv z y F) : F.length ≤ 3721 := by
  have hb : ∀ e ∈ F, (0 ≤ e.q1 ∧ e.q1 ≤ z.c) ∧ (0 ≤ e.q2 ∧ e.q2 ≤ y.c) := by
    intro e he
    have h := k.en e he
    rw [h.1, h.2]
    exact ⟨en_b hz _ ⟨hz.f0, hz.f1⟩, en_b hy _ ⟨hy.f0, hy.f1⟩⟩
  have h1 := keys_len (β := Unit) (E := F.map fun e => (e.q1 * 61 + e.q2, ())) (n := 3721) (by
    rw [List.map_map]
    have nd := k.nd
    rw [List.Nodup, List.pairwise_map] at nd ⊢
    refine nd.imp_of_mem fun {a b} ha hb' hne q => hne ?_
    have h1 := hb a ha
    have h2 := hb b hb'
    have q : a.q1 * 61 + a.q2 = b.q1 * 61 + b.q2 := q
    have e1 : a.q1 = b.q1 := by omega
    have e2 : a.q2 = b.q2 := by omega
    show (_, _) = (_, _)
    rw [e1, e2]) (by
    intro x hx
    obtain ⟨e, he, rfl⟩ := List.mem_map.mp hx
    have := hb e he
    dsimp only
    omega)
  rwa [List.length_map] at h1
end KW
namespace KW
open PySem PySem.Spec PyProof.Rows L2 L2.M
local macro_rules | `(tactic| walk_at "ev") => `(tactic| simp [semF, shared, after, mSeq, mSkip, mIf, mRet, mRetN, mRetV, mSet, mSetIx, mExpr, mB, mU, mTm, mPl, mK, mVar, mOp, mCons, mNil, bor, bors, mTst, mAndT, mOrT, mNotT, mAndE, mOrE, mNotE, mIfE, mIsi, isiD, mChn, chnL, cmpD, binD, addD, subD, mulD, modD, fdivD, powD, eqD, neD, ltD, leD, gtD, geD, isD, isnD, L2.M.isNon, negD, ixD, Bf.f, Bg.f, lenD, L2.M.intD, maxD, minD, repD, strD, gmaxD, gminD, sumD, sortD, anyD, allD, mCall, frz, fzO, lend, wb, mTup, mLst, fzs, cD, mAsg, bTup, bTps, mApp, tupD, lstD, mRev, revD, ofs_inj, ee_ii, ee_ss, ee_bb, ee_nn, ee_is, ee_si, ee_in, ee_ni, ee_tt, ee_ll, ee_maps, ee_0, ee_1, ee_2, ee_3, at_lit, at_nat, at_m1, at_m2, scD, emD, sizeLine_eq, ixN, sm_lit, mSrc, itemsD, plOf, rng1D, bNm, mSl, mPt, mNoP, slD, mPar, keepT, tmsO, setA, mFlow, zipX, enumX, itemsX, intsOf, ints_all, boolsOf, shaped_lay, lay_int, lay_bool, lay_none, lay_dict, lay_tup, lay_list, lay_ints, sortX_ints, mPlF, mPlI, mRd, mPU, mPB, mFSet, mFNew, mNSet, mPApp, mPSetIx, mPPop, mMeth, mNew, isIns, cellO, mLstN, mAddN, mAppN, semX, mTold, mCallX, xRet, xExpr, xSet, mRaise, mM, isL, isS, mOrV, truD])
local macro_rules | `(tactic| walk_at "es") => `(tactic| simp [semF, shared, after, mSeq, mSkip, mIf, mRet, mRetN, mRetV, mSet, mSetIx, mExpr, mB, mU, mTm, mPl, mK, mVar, mOp, mCons, mNil, bor, bors, mTst, mAndT, mOrT, mNotT, mAndE, mOrE, mNotE, mIfE, mIsi, isiD, mChn, chnL, cmpD, binD, addD, subD, mulD, modD, fdivD, powD, eqD, neD, ltD, leD, gtD, geD, isD, isnD, L2.M.isNon, negD, ixD, Bf.f, Bg.f, lenD, L2.M.intD, maxD, minD, repD, strD, gmaxD, gminD, sumD, sortD, anyD, allD, mCall, frz, fzO, lend, wb, mTup, mLst, fzs, cD, mAsg, bTup, bTps, mApp, tupD, lstD, mRev, revD, ofs_inj, ee_ii, ee_ss, ee_bb, ee_nn, ee_is, ee_si, ee_in, ee_ni, ee_tt, ee_ll, ee_maps, ee_0, ee_1, ee_2, ee_3, at_lit, at_nat, at_m1, at_m2, scD, emD, sizeLine_eq, ixN, sm_lit, mSrc, itemsD, plOf, rng1D, bNm, mSl, mPt, mNoP, slD, mPar, keepT, tmsO, setA, mFlow, zipX, enumX, itemsX, intsOf, ints_all, boolsOf, shaped_lay, lay_int, lay_bool, lay_none, lay_dict, lay_tup, lay_list, lay_ints, sortX_ints, mPlF, mPlI, mRd, mPU, mPB, mFSet, mFNew, mNSet, mPApp, mPSetIx, mPPop, mMeth, mNew, isIns, cellO, mLstN, mAddN, mAppN, semX, mTold, mCallX, xRet, xExpr, xSet, mRaise, mM, isL, isS, mOrV, truD, *])
local macro_rules | `(tactic| walk_at "el") => `(tactic| simp [semF, shared, after, mSeq, mSkip, mIf, mRet, mRetN, mRetV, mSet, mSetIx, mExpr, mB, mU, mTm, mPl, mK, mVar, mOp, mCons, mNil, bor, bors, mTst, mAndT, mOrT, mNotT, mAndE, mOrE, mNotE, mIfE, mIsi, isiD, mChn, chnL, cmpD, binD, addD, subD, mulD, modD, fdivD, powD, eqD, neD, ltD, leD, gtD, geD, isD, isnD, L2.M.isNon, negD, ixD, Bf.f, Bg.f, lenD, L2.M.intD, maxD, minD, repD, strD, gmaxD, gminD, sumD, sortD, anyD, allD, mCall, frz, fzO, lend, wb, mTup, mLst, fzs, cD, mAsg, bTup, bTps, mApp, tupD, lstD, mRev, revD, ofs_inj, ee_ii, ee_ss, ee_bb, ee_nn, ee_is, ee_si, ee_in, ee_ni, ee_tt, ee_ll, ee_maps, ee_0, ee_1, ee_2, ee_3, at_lit, at_nat, at_m1, at_m2, scD, emD, sizeLine_eq, ixN, sm_lit, mSrc, itemsD, plOf, rng1D, bNm, mSl, mPt, mNoP, slD, mPar, keepT, tmsO, setA, mFlow, zipX, enumX, itemsX, intsOf, ints_all, boolsOf, shaped_lay, lay_int, lay_bool, lay_none, lay_dict, lay_tup, lay_list, lay_ints, sortX_ints, mPlF, mPlI, mRd, mPU, mPB, mFSet, mFNew, mNSet, mPApp, mPSetIx, mPPop, mMeth, mNew, isIns, cellO, mLstN, mAddN, mAppN, semX, mTold, mCallX, xRet, xExpr, xSet, mRaise, mM, isL, isS, mOrV, truD, mLc, lcL, sameC, wipeC, restC, mYes, *])
local macro_rules | `(tactic| walk_at "ef") => `(tactic| simp [semF, shared, after, mSeq, mSkip, mIf, mRet, mRetN, mRetV, mSet, mSetIx, mExpr, mB, mU, mTm, mPl, mK, mVar, mOp, mCons, mNil, bor, bors, mTst, mAndT, mOrT, mNotT, mAndE, mOrE, mNotE, mIfE, mIsi, isiD, mChn, chnL, cmpD, binD, addD, subD, mulD, modD, fdivD, powD, eqD, neD, ltD, leD, gtD, geD, isD, isnD, L2.M.isNon, negD, ixD, Bf.f, Bg.f, lenD, L2.M.intD, maxD, minD, repD, strD, gmaxD, gminD, sumD, sortD, anyD, allD, mCall, frz, fzO, lend, wb, mTup, mLst, fzs, cD, mAsg, bTup, bTps, mApp, tupD, lstD, mRev, revD, ofs_inj, ee_ii, ee_ss, ee_bb, ee_nn, ee_is, ee_si, ee_in, ee_ni, ee_tt, ee_ll, ee_maps, ee_0, ee_1, ee_2, ee_3, at_lit, at_nat, at_m1, at_m2, scD, emD, sizeLine_eq, ixN, sm_lit, mSrc, itemsD, plOf, rng1D, bNm, mSl, mPt, mNoP, slD, mPar, keepT, tmsO, setA, mFlow, zipX, enumX, itemsX, intsOf, ints_all, boolsOf, shaped_lay, lay_int, lay_bool, lay_none, lay_dict, lay_tup, lay_list, lay_ints, sortX_ints, mPlF, mPlI, mRd, mPU, mPB, mFSet, mFNew, mNSet, mPApp, mPSetIx, mPPop, mMeth, mNew, isIns, cellO, mLstN, mAddN, mAppN, semX, mTold, mCallX, xRet, xExpr, xSet, mRaise, mM, isL, isS, mOrV, truD, mFor, forL, mLc, lcL, sameC, wipeC, restC, mYes, *])
local macro_rules | `(tactic| walk_at "rg") => `(tactic| (and_intros <;> grind))
local macro_rules | `(tactic| walk_at "nx") => `(tactic| (apply wx_nx; focus (walk_at "ev"; try first | exact ⟨rfl, rfl⟩ | rfl)))
local macro_rules | `(tactic| walk_at "ns") => `(tactic| (apply wx_nx; focus (walk_at "es"; try first | exact ⟨rfl, rfl⟩ | rfl)))
local macro_rules | `(tactic| walk_at "rt") => `(tactic| (apply wx_rt; focus (walk_at "ev"; try first | exact ⟨rfl, rfl⟩ | rfl)))
local macro_rules | `(tactic| walk_at "rs") => `(tactic| (apply wx_rt; focus (walk_at "es"; try first | exact ⟨rfl, rfl⟩ | rfl)))
local macro_rules | `(tactic| walk_at "ed") => `(tactic| simp [semF, shared, after, mSeq, mSkip, mIf, mRet, mRetN, mRetV, mSet, mSetIx, mExpr, mB, mU, mTm, mPl, mK, mVar, mOp, mCons, mNil, bor, bors, mTst, mAndT, mOrT, mNotT, mAndE, mOrE, mNotE, mIfE, mIsi, isiD, mChn, chnL, cmpD, binD, addD, subD, mulD, modD, fdivD, powD, eqD, neD, ltD, leD, gtD, geD, isD, isnD, L2.M.isNon, negD, ixD, Bf.f, Bg.f, lenD, L2.M.intD, maxD, minD, repD, strD, gmaxD, gminD, sumD, sortD, anyD, allD, mCall, frz, fzO, lend, wb, mTup, mLst, fzs, cD, mAsg, bTup, bTps, mApp, tupD, lstD, mRev, revD, ofs_inj, ee_ii, ee_ss, ee_bb, ee_nn, ee_is, ee_si, ee_in, ee_ni, ee_tt, ee_ll, ee_maps, ee_0, ee_1, ee_2, ee_3, at_lit, at_nat, at_m1, at_m2, scD, emD, sizeLine_eq, ixN, sm_lit, mSrc, itemsD, plOf, rng1D, bNm, mSl, mPt, mNoP, slD, mPar, keepT, tmsO, setA, mFlow, zipX, enumX, itemsX, intsOf, ints_all, boolsOf, shaped_lay, lay_int, lay_bool, lay_none, lay_dict, lay_tup, lay_list, lay_ints, sortX_ints, mPlF, mPlI, mRd, mPU, mPB, mFSet, mFNew, mNSet, mPApp, mPSetIx, mPPop, mMeth, mNew, isIns, cellO, mLstN, mAddN, mAppN, semX, mTold, mCallX, xRet, xExpr, xSet, mRaise, mM, isL, isS, mOrV, truD, mDNew, mDIn, mDGet, mDLen, mDPut, kyD, mNNew, mN1, mTake, mFnV, mCallF, mNIn, mNGet, mNPut, mNVals, mNList, nKs, mDGetD, mDList, mNNe, *])
structure CInv (z y : Pz) (t : Nat) (F : List Bn) : Prop where
  b : BInv z y F
  ag : ∀ e ∈ F, unp z 0 z.f e.w = unp y 0 y.f e.w
  cl : ∀ (i : Nat) (e : Bn), i < t → F[i]? = some e → misB z y e = false ∧ ∀ g, bK (kid z y e g) ∈ F.map bK
theorem cinv0 (z y : Pz) : CInv z y 0 [bSt z y] := by
  refine ⟨binv0 z y, ?_, fun i e h => by omega⟩
  intro e he
  rw [List.mem_singleton.mp he]
  rfl
theorem mis_no {z y : Pz} {e : Bn} (h : misB z y e = false) : z.r ≤ e.q1 ↔ y.r ≤ e.q2 := by
  unfold misB at h
  have : decide (z.r ≤ e.q1) = decide (y.r ≤ e.q2) := by simpa using h
  rwa [decide_eq_decide] at this
theorem unp_sn (z : Pz) (w : List Bool) (g : Bool) (i u : Int) : unp z i u (w ++ [g]) = unp z i u w ++ if g = false ∧ en z u w < z.r then [i + w.length] else [] := by
  rw [unp_app, unp, unp, List.append_nil]
theorem cinv_step {z y : Pz} {t : Nat} {F : List Bn} {e : Bn} (k : CInv z y t F) (he : F[t]? = some e) (hm : misB z y e = false) : CInv z y (t + 1) (stepB z y F e) := by
  have hme := List.mem_of_getElem? he
  have hen := k.b.en e hme
  have hmm := mis_no hm
  have hmap : ∀ {A : List Bn} {x : Bn} {q : Int × Int}, q ∈ A.map bK → q ∈ (addB A x).map bK := by
    intro A x q hq
    obtain ⟨e', h1, rfl⟩ := List.mem_map.mp hq
    exact List.mem_map.mpr ⟨e', addB_sub h1, rfl⟩
  refine ⟨stepB_inv k.b he, ?_, ?_⟩
  · have hk : ∀ g, unp z 0 z.f (kid z y e g).w = unp y 0 y.f (kid z y e g).w := by
      intro g
      show unp z 0 z.f (e.w ++ [g]) = unp y 0 y.f (e.w ++ [g])
      rw [unp_sn, unp_sn, k.ag e hme, ← hen.1, ← hen.2]
      congr 1
      by_cases q : g = false ∧ e.q1 < z.r
      · rw [if_pos q, if_pos ⟨q.1, by have := q.2; omega⟩]
      · rw [if_neg q, if_neg (fun q2 => q ⟨q2.1, by have := q2.2; omega⟩)]
    intro x hx
    rcases addB_mem hx with hx | rfl
    · rcases addB_mem hx with hx | rfl
      · exact k.ag x hx
      · exact hk true
    · exact hk false
  · intro i x hi hx
    by_cases q : i < t
    · have hF : i < F.length := by
        have := (List.getElem?_eq_some_iff.mp he).1
        omega
      have hx2 : F[i]? = some x := by
        obtain ⟨x', hx'⟩ : ∃ x', F[i]? = some x' := ⟨_, List.getElem?_eq_getElem hF⟩
        have := addB_get (e := kid z y e false) (addB_get (e := kid z y e true) hx')
        rw [show (addB (addB F (kid z y e true)) (kid z y e false)) = stepB z y F e from rfl, hx] at this
        rw [hx', ← this]
      obtain ⟨h1, h2⟩ := k.cl i x q hx2
      exact ⟨h1, fun g => hmap (hmap (h2 g))⟩
    · have : i = t := by omega
      subst this
      have := addB_get (e := kid z y e false) (addB_get (e := kid z y e true) he)
      rw [show (addB (addB F (kid z y e true)) (kid z y e false)) = stepB z y F e from rfl, hx] at this
      cases this
      refine ⟨hm, fun g => ?_⟩
      cases g with
      | true => exact hmap (addB_has F _)
      | false => exact addB_has _ _
/-- no pair parts: no row does -/
theorem closed_all {z y : Pz} {F : List Bn} (k : CInv z y F.length F) : ∀ (bs : List Bool) (i a b : Int), (a, b) ∈ F.map bK → unp z i a bs = unp y i b bs
  | [], _, _, _, _ => rfl
  | g :: bs, i, a, b, h => by
    obtain ⟨e, he, q⟩ := List.mem_map.mp h
    obtain ⟨j, hj, hje⟩ := List.getElem_of_mem he
    obtain ⟨hm, hc⟩ := k.cl j e hj (by rw [List.getElem?_eq_getElem hj, hje])
    have h1 : e.q1 = a := congrArg Prod.fst q
    have h2 : e.q2 = b := congrArg Prod.snd q
    subst h1 h2
    have hmm := mis_no hm
    have ih : unp z (i + 1) (on z e.q1 g) bs = unp y (i + 1) (on y e.q2 g) bs := closed_all k bs (i + 1) _ _ (hc g)
    rw [unp, unp, ih]
    congr 1
    by_cases q : g = false ∧ e.q1 < z.r
    · rw [if_pos q, if_pos ⟨q.1, by have := q.2; omega⟩]
    · rw [if_neg q, if_neg (fun q2 => q ⟨q2.1, by have := q2.2; omega⟩)]
theorem closed_none {z y : Pz} {F : List Bn} (k : CInv z y F.length F) (bs : List Bool) : unp z 0 z.f bs = unp y 0 y.f bs :=
  closed_all k bs 0 z.f y.f (List.mem_map.mpr ⟨bSt z y, List.mem_of_getElem? k.b.st, rfl⟩)
end KW
namespace KW
open PySem PySem.Spec PyProof.Rows L2 L2.M
local macro_rules | `(tactic| walk_at "ev") => `(tactic| simp [semF, shared, after, mSeq, mSkip, mIf, mRet, mRetN, mRetV, mSet, mSetIx, mExpr, mB, mU, mTm, mPl, mK, mVar, mOp, mCons, mNil, bor, bors, mTst, mAndT, mOrT, mNotT, mAndE, mOrE, mNotE, mIfE, mIsi, isiD, mChn, chnL, cmpD, binD, addD, subD, mulD, modD, fdivD, powD, eqD, neD, ltD, leD, gtD, geD, isD, isnD, L2.M.isNon, negD, ixD, Bf.f, Bg.f, lenD, L2.M.intD, maxD, minD, repD, strD, gmaxD, gminD, sumD, sortD, anyD, allD, mCall, frz, fzO, lend, wb, mTup, mLst, fzs, cD, mAsg, bTup, bTps, mApp, tupD, lstD, mRev, revD, ofs_inj, ee_ii, ee_ss, ee_bb, ee_nn, ee_is, ee_si, ee_in, ee_ni, ee_tt, ee_ll, ee_maps, ee_0, ee_1, ee_2, ee_3, at_lit, at_nat, at_m1, at_m2, scD, emD, sizeLine_eq, ixN, sm_lit, mSrc, itemsD, plOf, rng1D, bNm, mSl, mPt, mNoP, slD, mPar, keepT, tmsO, setA, mFlow, zipX, enumX, itemsX, intsOf, ints_all, boolsOf, shaped_lay, lay_int, lay_bool, lay_none, lay_dict, lay_tup, lay_list, lay_ints, sortX_ints, mPlF, mPlI, mRd, mPU, mPB, mFSet, mFNew, mNSet, mPApp, mPSetIx, mPPop, mMeth, mNew, isIns, cellO, mLstN, mAddN, mAppN, semX, mTold, mCallX, xRet, xExpr, xSet, mRaise, mM, isL, isS, mOrV, truD])
local macro_rules | `(tactic| walk_at "es") => `(tactic| simp [semF, shared, after, mSeq, mSkip, mIf, mRet, mRetN, mRetV, mSet, mSetIx, mExpr, mB, mU, mTm, mPl, mK, mVar, mOp, mCons, mNil, bor, bors, mTst, mAndT, mOrT, mNotT, mAndE, mOrE, mNotE, mIfE, mIsi, isiD, mChn, chnL, cmpD, binD, addD, subD, mulD, modD, fdivD, powD, eqD, neD, ltD, leD, gtD, geD, isD, isnD, L2.M.isNon, negD, ixD, Bf.f, Bg.f, lenD, L2.M.intD, maxD, minD, repD, strD, gmaxD, gminD, sumD, sortD, anyD, allD, mCall, frz, fzO, lend, wb, mTup, mLst, fzs, cD, mAsg, bTup, bTps, mApp, tupD, lstD, mRev, revD, ofs_inj, ee_ii, ee_ss, ee_bb, ee_nn, ee_is, ee_si, ee_in, ee_ni, ee_tt, ee_ll, ee_maps, ee_0, ee_1, ee_2, ee_3, at_lit, at_nat, at_m1, at_m2, scD, emD, sizeLine_eq, ixN, sm_lit, mSrc, itemsD, plOf, rng1D, bNm, mSl, mPt, mNoP, slD, mPar, keepT, tmsO, setA, mFlow, zipX, enumX, itemsX, intsOf, ints_all, boolsOf, shaped_lay, lay_int, lay_bool, lay_none, lay_dict, lay_tup, lay_list, lay_ints, sortX_ints, mPlF, mPlI, mRd, mPU, mPB, mFSet, mFNew, mNSet, mPApp, mPSetIx, mPPop, mMeth, mNew, isIns, cellO, mLstN, mAddN, mAppN, semX, mTold, mCallX, xRet, xExpr, xSet, mRaise, mM, isL, isS, mOrV, truD, *])
local macro_rules | `(tactic| walk_at "el") => `(tactic| simp [semF, shared, after, mSeq, mSkip, mIf, mRet, mRetN, mRetV, mSet, mSetIx, mExpr, mB, mU, mTm, mPl, mK, mVar, mOp, mCons, mNil, bor, bors, mTst, mAndT, mOrT, mNotT, mAndE, mOrE, mNotE, mIfE, mIsi, isiD, mChn, chnL, cmpD, binD, addD, subD, mulD, modD, fdivD, powD, eqD, neD, ltD, leD, gtD, geD, isD, isnD, L2.M.isNon, negD, ixD, Bf.f, Bg.f, lenD, L2.M.intD, maxD, minD, repD, strD, gmaxD, gminD, sumD, sortD, anyD, allD, mCall, frz, fzO, lend, wb, mTup, mLst, fzs, cD, mAsg, bTup, bTps, mApp, tupD, lstD, mRev, revD, ofs_inj, ee_ii, ee_ss, ee_bb, ee_nn, ee_is, ee_si, ee_in, ee_ni, ee_tt, ee_ll, ee_maps, ee_0, ee_1, ee_2, ee_3, at_lit, at_nat, at_m1, at_m2, scD, emD, sizeLine_eq, ixN, sm_lit, mSrc, itemsD, plOf, rng1D, bNm, mSl, mPt, mNoP, slD, mPar, keepT, tmsO, setA, mFlow, zipX, enumX, itemsX, intsOf, ints_all, boolsOf, shaped_lay, lay_int, lay_bool, lay_none, lay_dict, lay_tup, lay_list, lay_ints, sortX_ints, mPlF, mPlI, mRd, mPU, mPB, mFSet, mFNew, mNSet, mPApp, mPSetIx, mPPop, mMeth, mNew, isIns, cellO, mLstN, mAddN, mAppN, semX, mTold, mCallX, xRet, xExpr, xSet, mRaise, mM, isL, isS, mOrV, truD, mLc, lcL, sameC, wipeC, restC, mYes, *])
local macro_rules | `(tactic| walk_at "ef") => `(tactic| simp [semF, shared, after, mSeq, mSkip, mIf, mRet, mRetN, mRetV, mSet, mSetIx, mExpr, mB, mU, mTm, mPl, mK, mVar, mOp, mCons, mNil, bor, bors, mTst, mAndT, mOrT, mNotT, mAndE, mOrE, mNotE, mIfE, mIsi, isiD, mChn, chnL, cmpD, binD, addD, subD, mulD, modD, fdivD, powD, eqD, neD, ltD, leD, gtD, geD, isD, isnD, L2.M.isNon, negD, ixD, Bf.f, Bg.f, lenD, L2.M.intD, maxD, minD, repD, strD, gmaxD, gminD, sumD, sortD, anyD, allD, mCall, frz, fzO, lend, wb, mTup, mLst, fzs, cD, mAsg, bTup, bTps, mApp, tupD, lstD, mRev, revD, ofs_inj, ee_ii, ee_ss, ee_bb, ee_nn, ee_is, ee_si, ee_in, ee_ni, ee_tt, ee_ll, ee_maps, ee_0, ee_1, ee_2, ee_3, at_lit, at_nat, at_m1, at_m2, scD, emD, sizeLine_eq, ixN, sm_lit, mSrc, itemsD, plOf, rng1D, bNm, mSl, mPt, mNoP, slD, mPar, keepT, tmsO, setA, mFlow, zipX, enumX, itemsX, intsOf, ints_all, boolsOf, shaped_lay, lay_int, lay_bool, lay_none, lay_dict, lay_tup, lay_list, lay_ints, sortX_ints, mPlF, mPlI, mRd, mPU, mPB, mFSet, mFNew, mNSet, mPApp, mPSetIx, mPPop, mMeth, mNew, isIns, cellO, mLstN, mAddN, mAppN, semX, mTold, mCallX, xRet, xExpr, xSet, mRaise, mM, isL, isS, mOrV, truD, mFor, forL, mLc, lcL, sameC, wipeC, restC, mYes, *])
local macro_rules | `(tactic| walk_at "rg") => `(tactic| (and_intros <;> grind))
local macro_rules | `(tactic| walk_at "nx") => `(tactic| (apply wx_nx; focus (walk_at "ev"; try first | exact ⟨rfl, rfl⟩ | rfl)))
local macro_rules | `(tactic| walk_at "ns") => `(tactic| (apply wx_nx; focus (walk_at "es"; try first | exact ⟨rfl, rfl⟩ | rfl)))
local macro_rules | `(tactic| walk_at "rt") => `(tactic| (apply wx_rt; focus (walk_at "ev"; try first | exact ⟨rfl, rfl⟩ | rfl)))
local macro_rules | `(tactic| walk_at "rs") => `(tactic| (apply wx_rt; focus (walk_at "es"; try first | exact ⟨rfl, rfl⟩ | rfl)))
local macro_rules | `(tactic| walk_at "ed") => `(tactic| simp [semF, shared, after, mSeq, mSkip, mIf, mRet, mRetN, mRetV, mSet, mSetIx, mExpr, mB, mU, mTm, mPl, mK, mVar, mOp, mCons, mNil, bor, bors, mTst, mAndT, mOrT, mNotT, mAndE, mOrE, mNotE, mIfE, mIsi, isiD, mChn, chnL, cmpD, binD, addD, subD, mulD, modD, fdivD, powD, eqD, neD, ltD, leD, gtD, geD, isD, isnD, L2.M.isNon, negD, ixD, Bf.f, Bg.f, lenD, L2.M.intD, maxD, minD, repD, strD, gmaxD, gminD, sumD, sortD, anyD, allD, mCall, frz, fzO, lend, wb, mTup, mLst, fzs, cD, mAsg, bTup, bTps, mApp, tupD, lstD, mRev, revD, ofs_inj, ee_ii, ee_ss, ee_bb, ee_nn, ee_is, ee_si, ee_in, ee_ni, ee_tt, ee_ll, ee_maps, ee_0, ee_1, ee_2, ee_3, at_lit, at_nat, at_m1, at_m2, scD, emD, sizeLine_eq, ixN, sm_lit, mSrc, itemsD, plOf, rng1D, bNm, mSl, mPt, mNoP, slD, mPar, keepT, tmsO, setA, mFlow, zipX, enumX, itemsX, intsOf, ints_all, boolsOf, shaped_lay, lay_int, lay_bool, lay_none, lay_dict, lay_tup, lay_list, lay_ints, sortX_ints, mPlF, mPlI, mRd, mPU, mPB, mFSet, mFNew, mNSet, mPApp, mPSetIx, mPPop, mMeth, mNew, isIns, cellO, mLstN, mAddN, mAppN, semX, mTold, mCallX, xRet, xExpr, xSet, mRaise, mM, isL, isS, mOrV, truD, mDNew, mDIn, mDGet, mDLen, mDPut, kyD, mNNew, mN1, mTake, mFnV, mCallF, mNIn, mNGet, mNPut, mNVals, mNList, nKs, mDGetD, mDList, mNNe, *])
theorem shaped_ls (L : List Int) : SeqAt.shaped (.list (L.map .int)) = true := by
  rw [shaped_lay, lay_list _ (by decide), lay_ints]
theorem eq_lss (L M : List Int) : cmpD .Eq (.list (L.map .int)) (.list (M.map .int)) = some (.sh (.bool (decide (L = M)))) := by
  show eqD _ _ = _
  unfold eqD
  rw [if_pos (by rw [shaped_ls, shaped_ls]; simp), ee_ll, ee_maps]
theorem ne_lss (L M : List Int) : cmpD .NotEq (.list (L.map .int)) (.list (M.map .int)) = some (.sh (.bool (!decide (L = M)))) := by
  show neD _ _ = _
  unfold neD
  rw [if_pos (by rw [shaped_ls, shaped_ls]; simp), ee_ll, ee_maps]
theorem in_ints (L : List Int) (k : Int) : cmpD .In (.int k) (.list (L.map .int)) = some (.sh (.bool (decide (k ∈ L)))) := by
  have h1 : SeqAt.shaped (.list (L.map PyData.int)) = true := by rw [shaped_lay, lay_list _ (by decide), lay_ints]
  have h2 : SeqAt.shaped (.int k) = true := by rw [shaped_lay, lay_int]
  have e : (L.map PyData.int).any (fun z => PyData.eqv z (.int k)) = decide (k ∈ L) := by
    rw [List.any_map, Bool.eq_iff_iff, List.any_eq_true, decide_eq_true_eq]
    constructor
    · rintro ⟨x, hx, hh⟩
      simp only [Function.comp, ee_ii, decide_eq_true_eq] at hh
      exact hh ▸ hx
    · intro hx
      exact ⟨_, hx, by simp [ee_ii]⟩
  rw [show cmpD .In = L2.M.inD from rfl, ← e]
  unfold inD
  simp only [h1, h2, Bool.and_self, if_true]
theorem cut_last {α : Type} (xs : List α) (x : α) : L2.M.cutL (xs ++ [x]) (some (-1)) none = [x] := by
  unfold L2.M.cutL HT.sIx
  simp only [if_pos (show (-1 : Int) < 0 by omega)]
  have : (-1 + ((xs ++ [x]).length : Int)).toNat = xs.length := by simp; omega
  rw [this]
  simp
end KW
namespace KW
open PySem PySem.Spec PyProof.Rows L2 L2.M
def top (i : Nat) : Stmt := PySem.Challenge.pw_knockpurse_k38_whole_purses.main.body.getD i (.Pass ⟨0, 0, 0, 0⟩)
abbrev st_is_whole : Stmt := top 6
def d_is_whole : He.DefD := ⟨("is_whole", none), "is_whole", "is_whole", defArgs st_is_whole, defBody st_is_whole, defScope st_is_whole, [], []⟩
abbrev st_purse_good : Stmt := top 14
def d_purse_good : He.DefD := ⟨("purse_good", none), "purse_good", "purse_good", defArgs st_purse_good, defBody st_purse_good, defScope st_purse_good, [], []⟩
abbrev st_put_in : Stmt := top 15
def d_put_in : He.DefD := ⟨("put_in", none), "put_in", "put_in", defArgs st_put_in, defBody st_put_in, defScope st_put_in, [], []⟩
abbrev st_walked : Stmt := top 16
def d_walked : He.DefD := ⟨("walked", none), "walked", "walked", defArgs st_walked, defBody st_walked, defScope st_walked, [], []⟩
abbrev st_check_row : Stmt := top 17
def d_check_row : He.DefD := ⟨("check_row", none), "check_row", "check_row", defArgs st_check_row, defBody st_check_row, defScope st_check_row, [], []⟩
abbrev st_coins_behind : Stmt := top 18
def d_coins_behind : He.DefD := ⟨("coins_behind", none), "coins_behind", "coins_behind", defArgs st_coins_behind, defBody st_coins_behind, defScope st_coins_behind, [], []⟩
abbrev st_paid_in : Stmt := top 19
def d_paid_in : He.DefD := ⟨("paid_in", none), "paid_in", "paid_in", defArgs st_paid_in, defBody st_paid_in, defScope st_paid_in, [], []⟩
abbrev st_unpaid_at : Stmt := top 20
def d_unpaid_at : He.DefD := ⟨("unpaid_at", none), "unpaid_at", "unpaid_at", defArgs st_unpaid_at, defBody st_unpaid_at, defScope st_unpaid_at, [], []⟩
abbrev st_is_long : Stmt := top 21
def d_is_long : He.DefD := ⟨("is_long", none), "is_long", "is_long", defArgs st_is_long, defBody st_is_long, defScope st_is_long, [], []⟩
abbrev st_far_behind : Stmt := top 22
def d_far_behind : He.DefD := ⟨("far_behind", none), "far_behind", "far_behind", defArgs st_far_behind, defBody st_far_behind, defScope st_far_behind, [], []⟩
abbrev st_paid_turns : Stmt := top 23
def d_paid_turns : He.DefD := ⟨("paid_turns", none), "paid_turns", "paid_turns", defArgs st_paid_turns, defBody st_paid_turns, defScope st_paid_turns, [], []⟩
abbrev st_most_paid : Stmt := top 24
def d_most_paid : He.DefD := ⟨("most_paid", none), "most_paid", "most_paid", defArgs st_most_paid, defBody st_most_paid, defScope st_most_paid, [], []⟩
abbrev st_best_row : Stmt := top 25
def d_best_row : He.DefD := ⟨("best_row", none), "best_row", "best_row", defArgs st_best_row, defBody st_best_row, defScope st_best_row, [], []⟩
abbrev st_most_between : Stmt := top 26
def d_most_between : He.DefD := ⟨("most_between", none), "most_between", "most_between", defArgs st_most_between, defBody st_most_between, defScope st_most_between, [], []⟩
abbrev st_knocked : Stmt := top 27
def d_knocked : He.DefD := ⟨("knocked", none), "knocked", "knocked", defArgs st_knocked, defBody st_knocked, defScope st_knocked, [], []⟩
abbrev st_is_row : Stmt := top 28
def d_is_row : He.DefD := ⟨("is_row", none), "is_row", "is_row", defArgs st_is_row, defBody st_is_row, defScope st_is_row, [], []⟩
abbrev st_parts : Stmt := top 29
def d_parts : He.DefD := ⟨("parts", none), "parts", "parts", defArgs st_parts, defBody st_parts, defScope st_parts, [], []⟩
abbrev st_row_back : Stmt := top 30
def d_row_back : He.DefD := ⟨("row_back", none), "row_back", "row_back", defArgs st_row_back, defBody st_row_back, defScope st_row_back, [], []⟩
abbrev st_parted_by : Stmt := top 31
def d_parted_by : He.DefD := ⟨("parted_by", none), "parted_by", "parted_by", defArgs st_parted_by, defBody st_parted_by, defScope st_parted_by, [], []⟩
abbrev st_later : Stmt := top 32
def d_later : He.DefD := ⟨("later", none), "later", "later", defArgs st_later, defBody st_later, defScope st_later, [], []⟩
abbrev st_law_cell_at : Stmt := top 34
def d_law_cell_at : He.DefD := ⟨("_law_cell_at", none), "_law_cell_at", "_law_cell_at", defArgs st_law_cell_at, defBody st_law_cell_at, defScope st_law_cell_at, [], []⟩
abbrev st_law_next : Stmt := top 35
def d_law_next : He.DefD := ⟨("_law_next", none), "_law_next", "_law_next", defArgs st_law_next, defBody st_law_next, defScope st_law_next, [], []⟩
abbrev st_law_pen_of : Stmt := top 36
def d_law_pen_of : He.DefD := ⟨("_law_pen_of", none), "_law_pen_of", "_law_pen_of", defArgs st_law_pen_of, defBody st_law_pen_of, defScope st_law_pen_of, [], []⟩
abbrev st_law_draw : Stmt := top 37
def d_law_draw : He.DefD := ⟨("_law_draw", none), "_law_draw", "_law_draw", defArgs st_law_draw, defBody st_law_draw, defScope st_law_draw, [], []⟩
abbrev st_law_purse : Stmt := top 38
def d_law_purse : He.DefD := ⟨("_law_purse", none), "_law_purse", "_law_purse", defArgs st_law_purse, defBody st_law_purse, defScope st_law_purse, [], []⟩
abbrev st_law_small : Stmt := top 39
def d_law_small : He.DefD := ⟨("_law_small", none), "_law_small", "_law_small", defArgs st_law_small, defBody st_law_small, defScope st_law_small, [], []⟩
abbrev st_law_row_right : Stmt := top 40
def d_law_row_right : He.DefD := ⟨("_law_row_right", none), "_law_row_right", "_law_row_right", defArgs st_law_row_right, defBody st_law_row_right, defScope st_law_row_right, [], []⟩
abbrev st_law_most_right : Stmt := top 41
def d_law_most_right : He.DefD := ⟨("_law_most_right", none), "_law_most_right", "_law_most_right", defArgs st_law_most_right, defBody st_law_most_right, defScope st_law_most_right, [], []⟩
abbrev st_law_two_right : Stmt := top 42
def d_law_two_right : He.DefD := ⟨("_law_two_right", none), "_law_two_right", "_law_two_right", defArgs st_law_two_right, defBody st_law_two_right, defScope st_law_two_right, [], []⟩
abbrev st_law : Stmt := top 43
def d_law : He.DefD := ⟨("law", none), "law", "law", defArgs st_law, defBody st_law, defScope st_law, [], []⟩
def fn : List He.DefD := [d_is_whole, d_purse_good, d_put_in, d_walked, d_check_row, d_coins_behind, d_paid_in, d_unpaid_at, d_is_long, d_far_behind, d_paid_turns, d_most_paid, d_best_row, d_most_between, d_knocked, d_is_row, d_parts, d_row_back, d_parted_by, d_later, d_law_cell_at, d_law_next, d_law_pen_of, d_law_draw, d_law_purse, d_law_small, d_law_row_right, d_law_most_right, d_law_two_right, d_law]
def fa : List He.Fa := [.glo "is_whole", .glo "purse_good", .glo "put_in", .glo "walked", .glo "check_row", .glo "coins_behind", .glo "paid_in", .glo "unpaid_at", .glo "is_long", .glo "far_behind", .glo "paid_turns", .glo "most_paid", .glo "best_row", .glo "most_between", .glo "knocked", .glo "is_row", .glo "parts", .glo "row_back", .glo "parted_by", .glo "later", .glo "_law_cell_at", .glo "_law_next", .glo "_law_pen_of", .glo "_law_draw", .glo "_law_purse", .glo "_law_small", .glo "_law_row_right", .glo "_law_most_right", .glo "_law_two_right", .glo "law", .int "MOST_PART" 1000, .int "MOST_CAP" 10000, .int "MOST_DEEDS" 200, .int "MOST_TUPLES" 20, .int "FAR" 1000000000000, .int "MOST_PARTED" 60, .free "isinstance", .free "int", .free "bool", .free "tuple", .free "len", .free "all", .free "min", .free "enumerate", .free "str", .free "range", .free "max", .free "abs"]
abbrev Wd (K : PySem.W.Frag) (mg : Str → Option Value) : Prop := Wo fa fn K mg
noncomputable def m_is_whole : XM := mSeq (mRet (mAndE (mIsi .int (mPl 0)) (mNotE (mIsi .bool (mPl 0))))) (mSkip)
noncomputable def g_is_whole : GM := semF [true] 1 m_is_whole
noncomputable def m_purse_good : XM := mSeq (mIf (mOrT (mNotT (mTst (mIsi .tuple (mPl 0)))) (mOrT (mTst (mB (cmpD .NotEq) (mTm (mOp (Bf.f .len) (mCons (mPl 0) (mNil)))) (mTm (mK (.int 4))))) (mNotT (mTst (mOp (Bg.f .all) (mCons (mTm (mLc (mSrc itemsD (mCons (mTm (mVar 0)) mNil)) (bNm 1) (mYes) (mCall [true] g_is_whole (mCons (mPl 1) (mNil))) [1])) (mNil))))))) (mSeq (mRet (mK (.bool false))) (mSkip)) (mSkip)) (mSeq (mAsg [2, 3, 4, 5] [0] (bTup [bNm 2, bNm 3, bNm 4, bNm 5]) (mVar 0)) (mSeq (mRet (mAndE (mChn (mTm (mK (.int 0))) [(cmpD .LtE, mPl 2), (cmpD .LtE, mTm (mK (.int 1000)))]) (mAndE (mChn (mTm (mK (.int 1))) [(cmpD .LtE, mPl 3), (cmpD .LtE, mTm (mK (.int 1000)))]) (mChn (mTm (mK (.int 0))) [(cmpD .LtE, mPl 5), (cmpD .LtE, mPl 4), (cmpD .LtE, mTm (mK (.int 10000)))])))) (mSkip)))
noncomputable def g_purse_good : GM := semF [true] 6 m_purse_good
noncomputable def m_put_in : XM := mSeq (mRet (mOp (Bf.f .min) (mCons (mTm (mB ixD (mPl 0) (mTm (mK (.int 2))))) (mCons (mTm (mB (binD .Add) (mPl 1) (mTm (mB ixD (mPl 0) (mTm (mK (.int 0))))))) (mNil))))) (mSkip)
noncomputable def g_put_in : GM := semF [true, true] 2 m_put_in
noncomputable def m_walked : XM := mSeq (mSet [0, 1] 2 (mB ixD (mPl 0) (mTm (mK (.int 3))))) (mSeq (mSet [0, 1] 3 (mLst (mNil))) (mSeq (mFor [0, 1] (mSrc enumS (mCons (mTm (mVar 1)) mNil)) (bTup [bNm 4, bNm 5]) (mSeq (mIf (mTst (mB (cmpD .Eq) (mPl 5) (mTm (mK (.str "a"))))) (mSeq (mSet [0, 1] 2 (mCall [true, true] g_put_in (mCons (mPl 0) (mCons (mPl 2) (mNil))))) (mSkip)) (mSeq (mIf (mTst (mB (cmpD .GtE) (mPl 2) (mTm (mB ixD (mPl 0) (mTm (mK (.int 1))))))) (mSeq (mSet [0, 1] 2 (mB (binD .Sub) (mPl 2) (mTm (mB ixD (mPl 0) (mTm (mK (.int 1))))))) (mSkip)) (mSeq (mApp 3 (mVar 4)) (mSkip))) (mSkip))) (mSkip))) (mSeq (mRet (mTup (mCons (mPl 2) (mCons (mPl 3) (mNil))))) (mSkip))))
noncomputable def g_walked : GM := semF [true, true] 6 m_walked
noncomputable def m_check_row : XM := mSeq (mIf (mOrT (mNotT (mTst (mIsi .str (mPl 0)))) (mOrT (mTst (mB (cmpD .Gt) (mTm (mOp (Bf.f .len) (mCons (mPl 0) (mNil)))) (mTm (mK (.int 200))))) (mTst (mB (cmpD .NotEq) (mTm (mLc (mSrc itemsD (mCons (mTm (mVar 0)) mNil)) (bNm 1) (mTst (mB ninSD (mPl 1) (mTm (mK (.str "ak"))))) (mVar 1) [1])) (mTm (mLst (mNil))))))) (mSeq (mStuck) (mSkip)) (mSkip)) (mSkip)
noncomputable def g_check_row : GM := semF [true] 2 m_check_row
noncomputable def m_coins_behind : XM := mSeq (mExpr (mCall [true] g_check_row (mCons (mPl 1) (mNil)))) (mSeq (mRet (mB ixD (mTm (mCall [true, true] g_walked (mCons (mPl 0) (mCons (mPl 1) (mNil))))) (mTm (mK (.int 0))))) (mSkip))
noncomputable def g_coins_behind : GM := semF [true, true] 2 m_coins_behind
noncomputable def m_paid_in : XM := mSeq (mExpr (mCall [true] g_check_row (mCons (mPl 1) (mNil)))) (mSeq (mRet (mB (binD .Sub) (mTm (mM scountD isS (mPl 1) (mCons (mTm (mK (.str "k"))) (mNil)))) (mTm (mOp (Bf.f .len) (mCons (mTm (mB ixD (mTm (mCall [true, true] g_walked (mCons (mPl 0) (mCons (mPl 1) (mNil))))) (mTm (mK (.int 1))))) (mNil)))))) (mSkip))
noncomputable def g_paid_in : GM := semF [true, true] 2 m_paid_in
noncomputable def m_unpaid_at : XM := mSeq (mExpr (mCall [true] g_check_row (mCons (mPl 1) (mNil)))) (mSeq (mRet (mB ixD (mTm (mCall [true, true] g_walked (mCons (mPl 0) (mCons (mPl 1) (mNil))))) (mTm (mK (.int 1))))) (mSkip))
noncomputable def g_unpaid_at : GM := semF [true, true] 2 m_unpaid_at
noncomputable def m_is_long : XM := mSeq (mIf (mOrT (mNotT (mTst (mIsi .tuple (mPl 0)))) (mOrT (mTst (mB (cmpD .NotEq) (mTm (mOp (Bf.f .len) (mCons (mPl 0) (mNil)))) (mTm (mK (.int 2))))) (mOrT (mNotT (mTst (mIsi .str (mTm (mB ixD (mPl 0) (mTm (mK (.int 0)))))))) (mTst (mB (cmpD .NotIn) (mTm (mB ixD (mPl 0) (mTm (mK (.int 0))))) (mTm (mTup (mCons (mTm (mK (.str "a"))) (mCons (mTm (mK (.str "k"))) (mNil)))))))))) (mSeq (mRet (mK (.bool false))) (mSkip)) (mSkip)) (mSeq (mRet (mAndE (mCall [true] g_is_whole (mCons (mTm (mB ixD (mPl 0) (mTm (mK (.int 1))))) (mNil))) (mChn (mTm (mK (.int 0))) [(cmpD .LtE, mTm (mB ixD (mPl 0) (mTm (mK (.int 1))))), (cmpD .LtE, mTm (mK (.int 1000000000000)))]))) (mSkip))
noncomputable def g_is_long : GM := semF [true] 1 m_is_long
noncomputable def m_far_behind : XM := mSeq (mIf (mOrT (mNotT (mTst (mIsi .tuple (mPl 1)))) (mOrT (mTst (mB (cmpD .Gt) (mTm (mOp (Bf.f .len) (mCons (mPl 1) (mNil)))) (mTm (mK (.int 20))))) (mNotT (mTst (mOp (Bg.f .all) (mCons (mTm (mLc (mSrc itemsD (mCons (mTm (mVar 1)) mNil)) (bNm 2) (mYes) (mCall [true] g_is_long (mCons (mPl 2) (mNil))) [2])) (mNil))))))) (mSeq (mStuck) (mSkip)) (mSkip)) (mSeq (mPar [0, 1] [3, 4] (mCons (mTm (mB ixD (mPl 0) (mTm (mK (.int 3))))) (mCons (mTm (mK (.int 0))) (mNil)))) (mSeq (mFor [0, 1] (mSrc itemsD (mCons (mTm (mVar 1)) mNil)) (bTup [bNm 5, bNm 6]) (mSeq (mIf (mTst (mB (cmpD .Eq) (mPl 5) (mTm (mK (.str "a"))))) (mSeq (mSet [0, 1] 3 (mOp (Bf.f .min) (mCons (mTm (mB ixD (mPl 0) (mTm (mK (.int 2))))) (mCons (mTm (mB (binD .Add) (mPl 3) (mTm (mB (binD .Mult) (mPl 6) (mTm (mB ixD (mPl 0) (mTm (mK (.int 0))))))))) (mNil))))) (mSkip)) (mSeq (mSet [0, 1] 7 (mOp (Bf.f .min) (mCons (mPl 6) (mCons (mTm (mB (binD .FloorDiv) (mPl 3) (mTm (mB ixD (mPl 0) (mTm (mK (.int 1))))))) (mNil))))) (mSeq (mSet [0, 1] 3 (mB (binD .Sub) (mPl 3) (mTm (mB (binD .Mult) (mPl 7) (mTm (mB ixD (mPl 0) (mTm (mK (.int 1))))))))) (mSeq (mSet [0, 1] 4 (mB (binD .Add) (mPl 4) (mPl 7))) (mSkip))))) (mSkip))) (mSeq (mRet (mTup (mCons (mPl 3) (mCons (mPl 4) (mNil))))) (mSkip))))
noncomputable def g_far_behind : GM := semF [true, true] 8 m_far_behind
noncomputable def m_paid_turns : XM := mSeq (mPar [0, 2] [3, 1] (mCons (mTm (mB (binD .FloorDiv) (mPl 1) (mTm (mB ixD (mPl 0) (mTm (mK (.int 1))))))) (mCons (mTm (mB (binD .Mod) (mPl 1) (mTm (mB ixD (mPl 0) (mTm (mK (.int 1))))))) (mNil)))) (mSeq (mSet [0, 2] 4 (mDNew)) (mSeq (mSet [0, 2] 5 (mK (.int 0))) (mSeq (mWhile (mTst (mB (cmpD .Lt) (mPl 5) (mPl 2))) (mSeq (mIf (mTst (mDIn false 4 (mPl 1))) (mSeq (mAsg [6, 7] [0, 2] (bTup [bNm 6, bNm 7]) (mDGet 4 (mPl 1))) (mSeq (mSet [0, 2] 8 (mB (binD .FloorDiv) (mTm (mB (binD .Sub) (mPl 2) (mPl 5))) (mTm (mB (binD .Sub) (mPl 5) (mPl 6))))) (mSeq (mSet [0, 2] 3 (mB (binD .Add) (mPl 3) (mTm (mB (binD .Mult) (mPl 8) (mTm (mB (binD .Sub) (mPl 3) (mPl 7))))))) (mSeq (mSet [0, 2] 5 (mB (binD .Add) (mPl 5) (mTm (mB (binD .Mult) (mPl 8) (mTm (mB (binD .Sub) (mPl 5) (mPl 6))))))) (mSeq (mSet [0, 2] 4 (mDNew)) (mSkip)))))) (mSeq (mDPut 4 (mTup (mCons (mPl 5) (mCons (mPl 3) (mNil)))) (mPl 1)) (mSkip))) (mSeq (mIf (mTst (mB (cmpD .Lt) (mPl 5) (mPl 2))) (mSeq (mSet [0, 2] 1 (mCall [true, true] g_put_in (mCons (mPl 0) (mCons (mPl 1) (mNil))))) (mSeq (mPar [0, 2] [3, 1] (mCons (mTm (mB (binD .Add) (mPl 3) (mTm (mB (binD .FloorDiv) (mPl 1) (mTm (mB ixD (mPl 0) (mTm (mK (.int 1))))))))) (mCons (mTm (mB (binD .Mod) (mPl 1) (mTm (mB ixD (mPl 0) (mTm (mK (.int 1))))))) (mNil)))) (mSeq (mSet [0, 2] 5 (mB (binD .Add) (mPl 5) (mTm (mK (.int 1))))) (mSkip)))) (mSkip)) (mSkip)))) (mSeq (mRetV [0, 2] 3) (mSkip)))))
noncomputable def g_paid_turns : GM := semF [true, false, true] 9 m_paid_turns
noncomputable def m_most_paid : XM := mSeq (mRet (mCall [true, false, true] g_paid_turns (mCons (mPl 0) (mCons (mTm (mB ixD (mPl 0) (mTm (mK (.int 3))))) (mCons (mPl 1) (mNil)))))) (mSkip)
noncomputable def g_most_paid : GM := semF [true, true] 2 m_most_paid
noncomputable def m_best_row : XM := mSeq (mSet [0, 1] 2 (mB (binD .Add) (mPl 1) (mTm (mCall [true, true] g_most_paid (mCons (mPl 0) (mCons (mPl 1) (mNil))))))) (mSeq (mIf (mTst (mB (cmpD .Gt) (mPl 2) (mTm (mK (.int 200))))) (mSeq (mStuck) (mSkip)) (mSkip)) (mSeq (mSet [0, 1] 3 (mB (binD .Mod) (mTm (mB ixD (mPl 0) (mTm (mK (.int 3))))) (mTm (mB ixD (mPl 0) (mTm (mK (.int 1))))))) (mSeq (mSet [0, 1] 4 (mB smulD (mTm (mK (.str "k"))) (mTm (mB (binD .FloorDiv) (mTm (mB ixD (mPl 0) (mTm (mK (.int 3))))) (mTm (mB ixD (mPl 0) (mTm (mK (.int 1))))))))) (mSeq (mFor [0, 1] (mSrc rng1D (mCons (mTm (mVar 1)) (mNil))) (bNm 5) (mSeq (mSet [0, 1] 3 (mCall [true, true] g_put_in (mCons (mPl 0) (mCons (mPl 3) (mNil))))) (mSeq (mSet [0, 1] 4 (mB (binD .Add) (mTm (mB (binD .Add) (mPl 4) (mTm (mK (.str "a"))))) (mTm (mB smulD (mTm (mK (.str "k"))) (mTm (mB (binD .FloorDiv) (mPl 3) (mTm (mB ixD (mPl 0) (mTm (mK (.int 1))))))))))) (mSeq (mSet [0, 1] 3 (mB (binD .Mod) (mPl 3) (mTm (mB ixD (mPl 0) (mTm (mK (.int 1))))))) (mSkip))))) (mSeq (mRetV [0, 1] 4) (mSkip))))))
noncomputable def g_best_row : GM := semF [true, true] 6 m_best_row
noncomputable def m_most_between : XM := mSeq (mIf (mTst (mB (cmpD .Eq) (mTm (mB ixD (mPl 0) (mTm (mK (.int 0))))) (mTm (mK (.int 0))))) (mSeq (mRet (mCall [true, false, true] g_paid_turns (mCons (mPl 0) (mCons (mTm (mB ixD (mPl 0) (mTm (mK (.int 3))))) (mCons (mPl 1) (mNil)))))) (mSkip)) (mSkip)) (mSeq (mRet (mCall [true, false, true] g_paid_turns (mCons (mPl 0) (mCons (mTm (mB ixD (mPl 0) (mTm (mK (.int 2))))) (mCons (mPl 1) (mNil)))))) (mSkip))
noncomputable def g_most_between : GM := semF [true, true] 2 m_most_between
noncomputable def m_knocked : XM := mSeq (mIf (mTst (mB (cmpD .GtE) (mPl 1) (mTm (mB ixD (mPl 0) (mTm (mK (.int 1))))))) (mSeq (mRet (mTup (mCons (mTm (mK (.bool true))) (mCons (mTm (mB (binD .Sub) (mPl 1) (mTm (mB ixD (mPl 0) (mTm (mK (.int 1))))))) (mNil))))) (mSkip)) (mSkip)) (mSeq (mRet (mTup (mCons (mTm (mK (.bool false))) (mCons (mPl 1) (mNil))))) (mSkip))
noncomputable def g_knocked : GM := semF [true, true] 2 m_knocked
noncomputable def m_is_row : XM := mSeq (mRet (mAndE (mIsi .str (mPl 0)) (mB (cmpD .Eq) (mTm (mLc (mSrc itemsD (mCons (mTm (mVar 0)) mNil)) (bNm 1) (mTst (mB ninSD (mPl 1) (mTm (mK (.str "ak"))))) (mVar 1) [1])) (mTm (mLst (mNil)))))) (mSkip)
noncomputable def g_is_row : GM := semF [true] 2 m_is_row
noncomputable def m_parts : XM := mSeq (mIf (mOrT (mNotT (mTst (mCall [true] g_is_row (mCons (mPl 2) (mNil))))) (mTst (mB (cmpD .NotEq) (mTm (mSl (mPl 2) (mPt (mTm (mU negD (mTm (mK (.int 1)))))) (mNoP))) (mTm (mK (.str "k")))))) (mSeq (mRet (mK (.bool false))) (mSkip)) (mSkip)) (mSeq (mSet [0, 1, 2] 3 (mB (binD .Sub) (mTm (mOp (Bf.f .len) (mCons (mPl 2) (mNil)))) (mTm (mK (.int 1))))) (mSeq (mRet (mB (cmpD .NotEq) (mTm (mB (cmpD .In) (mPl 3) (mTm (mB ixD (mTm (mCall [true, true] g_walked (mCons (mPl 0) (mCons (mPl 2) (mNil))))) (mTm (mK (.int 1))))))) (mTm (mB (cmpD .In) (mPl 3) (mTm (mB ixD (mTm (mCall [true, true] g_walked (mCons (mPl 1) (mCons (mPl 2) (mNil))))) (mTm (mK (.int 1))))))))) (mSkip)))
noncomputable def g_parts : GM := semF [true, true, true] 4 m_parts
noncomputable def m_row_back : XM := mSeq (mWhile (mTst (mB (cmpD .IsNot) (mTm (mNGet 0 (mPl 1))) (mTm (mK .none)))) (mSeq (mAsg [1, 3] [0] (bTup [bNm 1, bNm 3]) (mNGet 0 (mPl 1))) (mSeq (mSet [0] 2 (mB (binD .Add) (mPl 3) (mPl 2))) (mSkip)))) (mSeq (mRetV [0] 2) (mSkip))
noncomputable def g_row_back : GM := semF [true, false, false] 4 m_row_back
noncomputable def m_parted_by : XM := mSeq (mSet [0, 1] 2 (mOp (Bf.f .max) (mCons (mTm (mB ixD (mPl 0) (mTm (mK (.int 2))))) (mCons (mTm (mB ixD (mPl 1) (mTm (mK (.int 2))))) (mNil))))) (mSeq (mIf (mTst (mB (cmpD .Gt) (mPl 2) (mTm (mK (.int 60))))) (mSeq (mStuck) (mSkip)) (mSkip)) (mSeq (mSet [0, 1] 3 (mN1 (mTup (mCons (mTm (mB ixD (mPl 0) (mTm (mK (.int 3))))) (mCons (mTm (mB ixD (mPl 1) (mTm (mK (.int 3))))) (mNil)))) (mK .none))) (mSeq (mSet [0, 1] 4 (mLst (mCons (mTm (mTup (mCons (mTm (mB ixD (mPl 0) (mTm (mK (.int 3))))) (mCons (mTm (mB ixD (mPl 1) (mTm (mK (.int 3))))) (mNil))))) (mNil)))) (mSeq (mSet [0, 1] 5 (mK (.int 0))) (mSeq (mWhile (mTst (mB (cmpD .Lt) (mPl 5) (mTm (mOp (Bf.f .len) (mCons (mPl 4) (mNil)))))) (mSeq (mSet [0, 1] 6 (mB ixD (mPl 4) (mPl 5))) (mSeq (mSet [0, 1] 5 (mB (binD .Add) (mPl 5) (mTm (mK (.int 1))))) (mSeq (mPar [0, 1] [7, 8] (mCons (mTm (mCall [true, true] g_knocked (mCons (mPl 0) (mCons (mTm (mB ixD (mPl 6) (mTm (mK (.int 0))))) (mNil))))) (mCons (mTm (mCall [true, true] g_knocked (mCons (mPl 1) (mCons (mTm (mB ixD (mPl 6) (mTm (mK (.int 1))))) (mNil))))) (mNil)))) (mSeq (mIf (mTst (mB (cmpD .NotEq) (mTm (mB ixD (mPl 7) (mTm (mK (.int 0))))) (mTm (mB ixD (mPl 8) (mTm (mK (.int 0))))))) (mSeq (mRet (mCall [true, false, false] g_row_back (mCons (mPl 3) (mCons (mPl 6) (mCons (mTm (mK (.str "k"))) (mNil)))))) (mSkip)) (mSkip)) (mSeq (mFor [0, 1] (mSrc itemsD (mCons (mTm (mTup (mCons (mTm (mTup (mCons (mTm (mK (.str "a"))) (mCons (mTm (mTup (mCons (mTm (mCall [true, true] g_put_in (mCons (mPl 0) (mCons (mTm (mB ixD (mPl 6) (mTm (mK (.int 0))))) (mNil))))) (mCons (mTm (mCall [true, true] g_put_in (mCons (mPl 1) (mCons (mTm (mB ixD (mPl 6) (mTm (mK (.int 1))))) (mNil))))) (mNil))))) (mNil))))) (mCons (mTm (mTup (mCons (mTm (mK (.str "k"))) (mCons (mTm (mTup (mCons (mTm (mB ixD (mPl 7) (mTm (mK (.int 1))))) (mCons (mTm (mB ixD (mPl 8) (mTm (mK (.int 1))))) (mNil))))) (mNil))))) (mNil))))) mNil)) (bTup [bNm 9, bNm 10]) (mSeq (mIf (mTst (mNIn true 3 (mPl 10))) (mSeq (mNPut 3 (mTup (mCons (mPl 6) (mCons (mPl 9) (mNil)))) (mPl 10)) (mSeq (mApp 4 (mVar 10)) (mSkip))) (mSkip)) (mSkip))) (mSkip))))))) (mSeq (mRet (mK .none)) (mSkip)))))))
noncomputable def g_parted_by : GM := semF [true, true] 11 m_parted_by
noncomputable def m_later : XM := mSeq (mIf (mOrT (mNotT (mTst (mCall [true] g_is_whole (mCons (mPl 1) (mNil))))) (mNotT (mTst (mChn (mTm (mK (.int 0))) [(cmpD .LtE, mPl 1), (cmpD .LtE, mTm (mB ixD (mPl 0) (mTm (mK (.int 2)))))])))) (mSeq (mStuck) (mSkip)) (mSkip)) (mSeq (mRet (mTup (mCons (mTm (mB ixD (mPl 0) (mTm (mK (.int 0))))) (mCons (mTm (mB ixD (mPl 0) (mTm (mK (.int 1))))) (mCons (mTm (mB ixD (mPl 0) (mTm (mK (.int 2))))) (mCons (mPl 1) (mNil))))))) (mSkip))
noncomputable def g_later : GM := semF [true, true] 2 m_later
noncomputable def m_law_cell_at : XM := mSeq (mIf (mTst (mB (cmpD .Lt) (mPl 1) (mTm (mOp (Bf.f .len) (mCons (mPl 0) (mNil)))))) (mSeq (mRet (mB ixD (mPl 0) (mPl 1))) (mSkip)) (mSkip)) (mSeq (mRet (mK (.int 0))) (mSkip))
noncomputable def g_law_cell_at : GM := semF [true, true] 2 m_law_cell_at
noncomputable def m_law_next : XM := mSeq (mSet [] 0 (mB (binD .Mod) (mTm (mB (binD .Add) (mPl 0) (mTm (mK (.int 7919))))) (mTm (mK (.int 2147483647))))) (mSeq (mRet (mB (binD .Mod) (mTm (mB (binD .Add) (mTm (mB (binD .Add) (mTm (mB (binD .Mult) (mPl 0) (mPl 0))) (mTm (mB (binD .Mult) (mTm (mK (.int 48271))) (mPl 0))))) (mTm (mK (.int 12345))))) (mTm (mK (.int 2147483629))))) (mSkip))
noncomputable def g_law_next : GM := semF [false] 1 m_law_next
noncomputable def m_law_pen_of : XM := mSeq (mSet [0] 1 (mOp (Bf.f .max) (mCons (mPl 0) (mCons (mTm (mB (binD .Sub) (mTm (mK (.int 0))) (mPl 0))) (mNil))))) (mSeq (mRet (mLst (mCons (mPl 1) (mCons (mTm (mOp (Bf.f .int) (mCons (mTm (mB (cmpD .GtE) (mPl 1) (mTm (mB (binD .Pow) (mTm (mK (.int 10))) (mTm (mK (.int 18))))))) (mNil)))) (mCons (mTm (mB (binD .Mod) (mPl 1) (mTm (mK (.int 1000003))))) (mNil)))))) (mSkip))
noncomputable def g_law_pen_of : GM := semF [true] 2 m_law_pen_of
noncomputable def m_law_draw : XM := mSeq (mIf (mAndT (mTst (mB (cmpD .Eq) (mTm (mB ixD (mPl 0) (mTm (mK (.int 1))))) (mTm (mK (.int 1))))) (mTst (mB (cmpD .Gt) (mTm (mB ixD (mPl 0) (mTm (mK (.int 0))))) (mTm (mK (.int 0)))))) (mSeq (mSet [0, 1] 2 (mB (binD .Mod) (mTm (mB ixD (mPl 0) (mTm (mK (.int 0))))) (mPl 1))) (mSeq (mSetIx 0 (mB (binD .FloorDiv) (mTm (mB ixD (mPl 0) (mTm (mK (.int 0))))) (mPl 1)) (mTm (mK (.int 0)))) (mSeq (mRetV [0, 1] 2) (mSkip)))) (mSkip)) (mSeq (mSetIx 0 (mCall [false] g_law_next (mCons (mTm (mB (binD .Add) (mTm (mCall [false] g_law_next (mCons (mTm (mB ixD (mPl 0) (mTm (mK (.int 2))))) (mNil)))) (mTm (mK (.int 7))))) (mNil))) (mTm (mK (.int 2)))) (mSeq (mRet (mB (binD .Mod) (mTm (mB (binD .FloorDiv) (mTm (mB ixD (mPl 0) (mTm (mK (.int 2))))) (mTm (mK (.int 64))))) (mPl 1))) (mSkip)))
noncomputable def g_law_draw : GM := semF [true, true] 3 m_law_draw
noncomputable def m_law_purse : XM := mSeq (mSet [0] 1 (mCall [true, true] g_law_draw (mCons (mPl 0) (mCons (mTm (mK (.int 4))) (mNil))))) (mSeq (mAsg [2, 3, 4] [0] (bTup [bNm 2, bNm 3, bNm 4]) (mB ixD (mTm (mLst (mCons (mTm (mTup (mCons (mTm (mK (.int 4))) (mCons (mTm (mK (.int 4))) (mCons (mTm (mK (.int 20))) (mNil)))))) (mCons (mTm (mTup (mCons (mTm (mK (.int 12))) (mCons (mTm (mK (.int 12))) (mCons (mTm (mK (.int 60))) (mNil)))))) (mCons (mTm (mTup (mCons (mTm (mK (.int 60))) (mCons (mTm (mK (.int 40))) (mCons (mTm (mK (.int 200))) (mNil)))))) (mCons (mTm (mTup (mCons (mTm (mK (.int 1001))) (mCons (mTm (mK (.int 1000))) (mCons (mTm (mK (.int 10001))) (mNil)))))) (mNil))))))) (mPl 1))) (mSeq (mSet [0] 5 (mTup (mCons (mTm (mCall [true, true] g_law_draw (mCons (mPl 0) (mCons (mPl 2) (mNil))))) (mCons (mTm (mB (binD .Add) (mTm (mK (.int 1))) (mTm (mCall [true, true] g_law_draw (mCons (mPl 0) (mCons (mPl 3) (mNil))))))) (mCons (mTm (mCall [true, true] g_law_draw (mCons (mPl 0) (mCons (mPl 4) (mNil))))) (mNil)))))) (mSeq (mRet (mB (binD .Add) (mPl 5) (mTm (mTup (mCons (mTm (mB ixD (mTm (mLst (mCons (mTm (mK (.int 0))) (mCons (mTm (mB ixD (mPl 5) (mTm (mK (.int 2))))) (mCons (mTm (mCall [true, true] g_law_draw (mCons (mPl 0) (mCons (mTm (mB (binD .Add) (mTm (mB ixD (mPl 5) (mTm (mK (.int 2))))) (mTm (mK (.int 1))))) (mNil))))) (mNil)))))) (mTm (mCall [true, true] g_law_draw (mCons (mPl 0) (mCons (mTm (mK (.int 3))) (mNil))))))) (mNil)))))) (mSkip))))
noncomputable def g_law_purse : GM := semF [true] 6 m_law_purse
noncomputable def m_law_small : XM := mSeq (mSet [0, 1] 2 (mCall [true, true] g_law_draw (mCons (mPl 0) (mCons (mTm (mB (binD .Add) (mPl 1) (mTm (mK (.int 1))))) (mNil))))) (mSeq (mSet [0, 1] 3 (mTup (mCons (mTm (mCall [true, true] g_law_draw (mCons (mPl 0) (mCons (mTm (mK (.int 9))) (mNil))))) (mCons (mTm (mB (binD .Add) (mTm (mK (.int 1))) (mTm (mCall [true, true] g_law_draw (mCons (mPl 0) (mCons (mTm (mK (.int 9))) (mNil))))))) (mCons (mPl 2) (mNil)))))) (mSeq (mRet (mB (binD .Add) (mPl 3) (mTm (mTup (mCons (mTm (mB ixD (mTm (mLst (mCons (mTm (mK (.int 0))) (mCons (mPl 2) (mCons (mTm (mCall [true, true] g_law_draw (mCons (mPl 0) (mCons (mTm (mB (binD .Add) (mPl 2) (mTm (mK (.int 1))))) (mNil))))) (mNil)))))) (mTm (mCall [true, true] g_law_draw (mCons (mPl 0) (mCons (mTm (mK (.int 3))) (mNil))))))) (mNil)))))) (mSkip)))
noncomputable def g_law_small : GM := semF [true, true] 4 m_law_small
noncomputable def m_law_row_right : XM := mSeq (mPar [0, 1, 2] [3, 4] (mCons (mTm (mSl (mPl 1) (mNoP) (mPt (mPl 2)))) (mCons (mTm (mSl (mPl 1) (mPt (mPl 2)) (mNoP))) (mNil)))) (mSeq (mSet [0, 1, 2] 5 (mCall [true, true] g_later (mCons (mPl 0) (mCons (mTm (mCall [true, true] g_coins_behind (mCons (mPl 0) (mCons (mPl 3) (mNil))))) (mNil))))) (mSeq (mIf (mTst (mB (cmpD .NotEq) (mTm (mCall [true, true] g_paid_in (mCons (mPl 0) (mCons (mPl 1) (mNil))))) (mTm (mB (binD .Add) (mTm (mCall [true, true] g_paid_in (mCons (mPl 0) (mCons (mPl 3) (mNil))))) (mTm (mCall [true, true] g_paid_in (mCons (mPl 5) (mCons (mPl 4) (mNil))))))))) (mSeq (mRet (mK (.bool false))) (mSkip)) (mSkip)) (mSeq (mIf (mOrT (mTst (mB (cmpD .NotEq) (mTm (mCall [true, true] g_coins_behind (mCons (mPl 0) (mCons (mPl 1) (mNil))))) (mTm (mCall [true, true] g_coins_behind (mCons (mPl 5) (mCons (mPl 4) (mNil))))))) (mTst (mB (cmpD .IsNot) (mTm (mCall [true] g_purse_good (mCons (mPl 5) (mNil)))) (mTm (mK (.bool true)))))) (mSeq (mRet (mK (.bool false))) (mSkip)) (mSkip)) (mSeq (mIf (mTst (mB (cmpD .NotEq) (mTm (mB (binD .Add) (mTm (mCall [true, true] g_paid_in (mCons (mPl 0) (mCons (mPl 1) (mNil))))) (mTm (mOp (Bf.f .len) (mCons (mTm (mCall [true, true] g_unpaid_at (mCons (mPl 0) (mCons (mPl 1) (mNil))))) (mNil)))))) (mTm (mM scountD isS (mPl 1) (mCons (mTm (mK (.str "k"))) (mNil)))))) (mSeq (mRet (mK (.bool false))) (mSkip)) (mSkip)) (mSeq (mIf (mTst (mB (cmpD .Lt) (mTm (mCall [true, true] g_paid_in (mCons (mPl 0) (mCons (mTm (mB (binD .Add) (mTm (mB (binD .Add) (mPl 3) (mTm (mK (.str "a"))))) (mPl 4))) (mNil))))) (mTm (mCall [true, true] g_paid_in (mCons (mPl 0) (mCons (mPl 1) (mNil))))))) (mSeq (mRet (mK (.bool false))) (mSkip)) (mSkip)) (mSeq (mIf (mTst (mB (cmpD .Gt) (mTm (mCall [true, true] g_paid_in (mCons (mPl 0) (mCons (mPl 1) (mNil))))) (mTm (mCall [true, true] g_most_paid (mCons (mPl 0) (mCons (mTm (mM scountD isS (mPl 1) (mCons (mTm (mK (.str "a"))) (mNil)))) (mNil))))))) (mSeq (mRet (mK (.bool false))) (mSkip)) (mSkip)) (mSeq (mRet (mB (cmpD .LtE) (mTm (mCall [true, true] g_paid_in (mCons (mPl 5) (mCons (mPl 4) (mNil))))) (mTm (mCall [true, true] g_most_between (mCons (mPl 0) (mCons (mTm (mM scountD isS (mPl 4) (mCons (mTm (mK (.str "a"))) (mNil)))) (mNil))))))) (mSkip))))))))
noncomputable def g_law_row_right : GM := semF [true, true, true] 6 m_law_row_right
noncomputable def m_law_most_right : XM := mSeq (mSet [0, 1] 2 (mLst (mCons (mTm (mCall [true, true] g_most_paid (mCons (mPl 0) (mCons (mPl 1) (mNil))))) (mCons (mTm (mCall [true, true] g_most_paid (mCons (mPl 0) (mCons (mTm (mB (binD .Add) (mPl 1) (mTm (mK (.int 1))))) (mNil))))) (mNil))))) (mSeq (mIf (mNotT (mTst (mChn (mTm (mK (.int 0))) [(cmpD .LtE, mTm (mB (binD .Sub) (mTm (mB ixD (mPl 2) (mTm (mK (.int 1))))) (mTm (mB ixD (mPl 2) (mTm (mK (.int 0))))))), (cmpD .LtE, mTm (mB (binD .FloorDiv) (mTm (mB (binD .Sub) (mTm (mB (binD .Add) (mTm (mB ixD (mPl 0) (mTm (mK (.int 0))))) (mTm (mB ixD (mPl 0) (mTm (mK (.int 1))))))) (mTm (mK (.int 1))))) (mTm (mB ixD (mPl 0) (mTm (mK (.int 1)))))))]))) (mSeq (mRet (mK (.bool false))) (mSkip)) (mSkip)) (mSeq (mIf (mTst (mB (cmpD .Gt) (mTm (mB (binD .Add) (mPl 1) (mTm (mB ixD (mPl 2) (mTm (mK (.int 0))))))) (mTm (mK (.int 200))))) (mSeq (mRet (mK (.bool true))) (mSkip)) (mSkip)) (mSeq (mSet [0, 1] 3 (mCall [true, true] g_best_row (mCons (mPl 0) (mCons (mPl 1) (mNil))))) (mSeq (mIf (mOrT (mTst (mB (cmpD .NotEq) (mTm (mCall [true, true] g_unpaid_at (mCons (mPl 0) (mCons (mPl 3) (mNil))))) (mTm (mLst (mNil))))) (mOrT (mTst (mB (cmpD .NotEq) (mTm (mCall [true, true] g_paid_in (mCons (mPl 0) (mCons (mPl 3) (mNil))))) (mTm (mB ixD (mPl 2) (mTm (mK (.int 0))))))) (mTst (mB (cmpD .NotEq) (mTm (mM scountD isS (mPl 3) (mCons (mTm (mK (.str "a"))) (mNil)))) (mPl 1))))) (mSeq (mRet (mK (.bool false))) (mSkip)) (mSkip)) (mSeq (mSet [0, 1] 4 (mSl (mPl 3) (mNoP) (mPt (mTm (mK (.int 20)))))) (mSeq (mSet [0, 1] 5 (mTup (mCons (mTm (mCall [true, true] g_coins_behind (mCons (mPl 0) (mCons (mPl 4) (mNil))))) (mCons (mTm (mCall [true, true] g_paid_in (mCons (mPl 0) (mCons (mPl 4) (mNil))))) (mNil))))) (mSeq (mRet (mB (cmpD .Eq) (mTm (mCall [true, true] g_far_behind (mCons (mPl 0) (mCons (mTm (mOp (Bf.f .tuple) (mCons (mTm (mLc (mSrc itemsD (mCons (mTm (mVar 4)) mNil)) (bNm 6) (mYes) (mTup (mCons (mPl 6) (mCons (mTm (mK (.int 1))) (mNil)))) [6])) (mNil)))) (mNil))))) (mPl 5))) (mSkip))))))))
noncomputable def g_law_most_right : GM := semF [true, true] 7 m_law_most_right
noncomputable def m_law_two_right : XM := mSeq (mSet [0, 1, 2] 3 (mCall [true, true] g_parted_by (mCons (mPl 0) (mCons (mPl 1) (mNil))))) (mSeq (mIf (mTst (mB (cmpD .Is) (mPl 3) (mTm (mK .none)))) (mSeq (mRet (mB (cmpD .Eq) (mTm (mCall [true, true] g_unpaid_at (mCons (mPl 0) (mCons (mPl 2) (mNil))))) (mTm (mCall [true, true] g_unpaid_at (mCons (mPl 1) (mCons (mPl 2) (mNil))))))) (mSkip)) (mSkip)) (mSeq (mIf (mOrT (mTst (mB (cmpD .IsNot) (mTm (mCall [true, true, true] g_parts (mCons (mPl 0) (mCons (mPl 1) (mCons (mPl 3) (mNil)))))) (mTm (mK (.bool true))))) (mTst (mB (cmpD .IsNot) (mTm (mCall [true, true, true] g_parts (mCons (mPl 1) (mCons (mPl 0) (mCons (mPl 3) (mNil)))))) (mTm (mK (.bool true)))))) (mSeq (mRet (mK (.bool false))) (mSkip)) (mSkip)) (mSeq (mIf (mTst (mB (cmpD .Gt) (mTm (mOp (Bf.f .len) (mCons (mPl 3) (mNil)))) (mTm (mK (.int 200))))) (mSeq (mRet (mK (.bool true))) (mSkip)) (mSkip)) (mSeq (mIf (mTst (mB (cmpD .NotEq) (mTm (mCall [true, true] g_unpaid_at (mCons (mPl 0) (mCons (mTm (mSl (mPl 3) (mNoP) (mPt (mTm (mU negD (mTm (mK (.int 1)))))))) (mNil))))) (mTm (mCall [true, true] g_unpaid_at (mCons (mPl 1) (mCons (mTm (mSl (mPl 3) (mNoP) (mPt (mTm (mU negD (mTm (mK (.int 1)))))))) (mNil))))))) (mSeq (mRet (mK (.bool false))) (mSkip)) (mSkip)) (mSeq (mRet (mB (cmpD .Eq) (mTm (mOp (Bf.f .abs) (mCons (mTm (mB (binD .Sub) (mTm (mCall [true, true] g_paid_in (mCons (mPl 0) (mCons (mPl 3) (mNil))))) (mTm (mCall [true, true] g_paid_in (mCons (mPl 1) (mCons (mPl 3) (mNil))))))) (mNil)))) (mTm (mK (.int 1))))) (mSkip))))))
noncomputable def g_law_two_right : GM := semF [true, true, true] 4 m_law_two_right
noncomputable def m_law : XM := mSeq (mFor [] (mSrc itemsD (mCons (mTm (mB (binD .Add) (mTm (mLst (mCons (mTm (mCall [true, true] g_law_cell_at (mCons (mPl 0) (mCons (mTm (mK (.int 0))) (mNil))))) (mNil)))) (mTm (mSl (mPl 0) (mPt (mTm (mK (.int 1)))) (mPt (mTm (mK (.int 4)))))))) mNil)) (bNm 1) (mSeq (mSet [] 2 (mCall [true] g_law_pen_of (mCons (mPl 1) (mNil)))) (mSeq (mPar [] [3, 4, 5] (mCons (mTm (mCall [true] g_law_purse (mCons (mPl 2) (mNil)))) (mCons (mTm (mCall [true, true] g_law_small (mCons (mPl 2) (mCons (mTm (mK (.int 40))) (mNil))))) (mCons (mTm (mCall [true, true] g_law_small (mCons (mPl 2) (mCons (mTm (mK (.int 40))) (mNil))))) (mNil))))) (mSeq (mSet [] 6 (mM joinD isS (mTm (mK (.str ""))) (mCons (mTm (mLc (mSrc rng1D (mCons (mTm (mCall [true, true] g_law_draw (mCons (mPl 2) (mCons (mTm (mK (.int 101))) (mNil))))) (mNil))) (bNm 7) (mYes) (mB ixD (mTm (mK (.str "ak"))) (mTm (mCall [true, true] g_law_draw (mCons (mPl 2) (mCons (mTm (mK (.int 2))) (mNil)))))) [7])) (mNil)))) (mSeq (mPar [] [8, 9] (mCons (mTm (mCall [true, true] g_law_draw (mCons (mPl 2) (mCons (mTm (mB (binD .Add) (mTm (mOp (Bf.f .len) (mCons (mPl 6) (mNil)))) (mTm (mK (.int 1))))) (mNil))))) (mCons (mTm (mCall [true, true] g_law_draw (mCons (mPl 2) (mCons (mTm (mK (.int 40))) (mNil))))) (mNil)))) (mSeq (mFor [] (mSrc itemsD (mCons (mTm (mTup (mCons (mPl 3) (mCons (mPl 4) (mCons (mPl 5) (mNil)))))) mNil)) (bNm 10) (mSeq (mIf (mOrT (mNotT (mTst (mCall [true, true, true] g_law_row_right (mCons (mPl 10) (mCons (mPl 6) (mCons (mPl 8) (mNil))))))) (mNotT (mTst (mCall [true, true] g_law_most_right (mCons (mPl 10) (mCons (mPl 9) (mNil))))))) (mSeq (mRet (mK (.bool false))) (mSkip)) (mSkip)) (mSkip))) (mSeq (mIf (mOrT (mNotT (mTst (mCall [true, true, true] g_law_two_right (mCons (mPl 4) (mCons (mPl 5) (mCons (mPl 6) (mNil))))))) (mNotT (mTst (mCall [true, true, true] g_law_two_right (mCons (mPl 4) (mCons (mTm (mCall [true, true] g_later (mCons (mPl 4) (mCons (mTm (mK (.int 0))) (mNil))))) (mCons (mPl 6) (mNil)))))))) (mSeq (mRet (mK (.bool false))) (mSkip)) (mSkip)) (mSeq (mIf (mTst (mB (cmpD .IsNot) (mTm (mCall [true, true] g_parted_by (mCons (mPl 4) (mCons (mPl 4) (mNil))))) (mTm (mK .none)))) (mSeq (mRet (mK (.bool false))) (mSkip)) (mSkip)) (mSkip))))))))) (mSeq (mRet (mK (.bool true))) (mSkip))
section
variable {P : Program} {w : World} {K : PySem.W.Frag} {mg : Str → Option Value} {base : Heap}
theorem sc_is_whole : FnScope ["thing"] ["thing"] (defScope st_is_whole) := ⟨rfl, rfl, rfl, by decide +kernel, rfl, by decide +kernel, by decide +kernel⟩
theorem pl_is_whole : Plain d_is_whole ["thing"] := ⟨rfl, rfl, fun _ _ _ _ _ _ us hl => match us, hl with | [_], _ => rfl⟩
theorem bd_is_whole (W : Wd K mg) (f : Addr) (cdv : Value) (A : Around) (outer : List Env) (s : Shared) (H : Hp) (E : XK) (hr : Rm 0 (cxN P w K mg base ["thing"] d_is_whole f cdv A outer s H E).A) : PSs (cxN P w K mg base ["thing"] d_is_whole f cdv A outer s H E) d_is_whole.body (tS (K, w) W0 (ios [true]) m_is_whole) :=
  have nd : (["thing"] : List Str).Nodup := sc_is_whole.nd
  ms_cons (ms_ret (me_and (x_isi .int rfl (W.free 36) (W.free 37) rfl rfl (mo_name (pv 0))) (me_one (me_not (x_isi .bool rfl (W.free 36) (W.free 38) rfl rfl (mo_name (pv 0))))))) (ms_nil)
theorem ok_is_whole (W : Wd K mg) : KnG P w K mg base 1 "is_whole" ["thing"] (spOf (K, w) 1 g_is_whole) := kng_mk W 0 0 rfl rfl rfl pl_is_whole sc_is_whole (bd_is_whole W)
theorem sc_purse_good : FnScope ["thing", "one", "part", "price", "cap", "first"] ["thing"] (defScope st_purse_good) := ⟨rfl, rfl, rfl, by decide +kernel, rfl, by decide +kernel, by decide +kernel⟩
theorem pl_purse_good : Plain d_purse_good ["thing"] := ⟨rfl, rfl, fun _ _ _ _ _ _ us hl => match us, hl with | [_], _ => rfl⟩
theorem bd_purse_good (W : Wd K mg) (f : Addr) (cdv : Value) (A : Around) (outer : List Env) (s : Shared) (H : Hp) (E : XK) (hr : Rm 1 (cxN P w K mg base ["thing", "one", "part", "price", "cap", "first"] d_purse_good f cdv A outer s H E).A) : PSs (cxN P w K mg base ["thing", "one", "part", "price", "cap", "first"] d_purse_good f cdv A outer s H E) d_purse_good.body (tS (K, w) W0 (ios [true]) m_purse_good) :=
  have nd : (["thing", "one", "part", "price", "cap", "first"] : List Str).Nodup := sc_purse_good.nd
  ms_cons (ms_if (PW.pt (mt_or (mt_not (y_val (x_isi .tuple rfl (W.free 36) (W.free 39) rfl rfl (mo_name (pv 0))))) (mt_or (y_cmp hr.toRoom (mo_tm (x_bf .len rfl (W.free 40) rfl rfl (ma_cons (mo_name (pv 0)) (ma_nil)))) (mo_tm (me_int))) (mt_or1 (mt_not (y_val (x_bg .all rfl (W.free 41) rfl rfl (ma_cons (mo_tm (x_lc [("one", 1)] rfl nd (blkOk_by (by first | rfl | kernel_rfl)) (mi_any (mo_tm (me_name (pv 0)))) (Gd.imp (gd_name) (by intro j h; simpa using h)) (fun _ _ _ _ _ => g_nm 1 nd) (fun _ _ _ _ _ => pts_no) (fun _ _ _ _ _ => g_call (ok_is_whole W) hr (by decide) rfl (ma_cons (mo_name (pv 1)) (ma_nil))))) (ma_nil))))))))) (ms_cons (ms_ret (me_bl)) (ms_nil)) (ms_nil)) (ms_cons (z_asg (Gd.imp (gd_tup rfl (gds_cons (gd_name) (gds_cons (gd_name) (gds_cons (gd_name) (gds_cons (gd_name) (gds_nil)))))) (by intro j h; simpa using h)) (pg_tup rfl (pgs_cons (g_nm 2 nd) (pgs_cons (g_nm 3 nd) (pgs_cons (g_nm 4 nd) (pgs_cons (g_nm 5 nd) (pgs_nil)))))) (me_name (pv 0))) (ms_cons (ms_ret (me_and (x_chain (mo_tm (me_int)) (ch_cons hr.toRoom (mo_name (pv 2)) (ch_one hr.toRoom (mo_tm (x_gint (W.int 30) rfl))))) (me_and (x_chain (mo_tm (me_int)) (ch_cons hr.toRoom (mo_name (pv 3)) (ch_one hr.toRoom (mo_tm (x_gint (W.int 30) rfl))))) (me_one (x_chain (mo_tm (me_int)) (ch_cons hr.toRoom (mo_name (pv 5)) (ch_cons hr.toRoom (mo_name (pv 4)) (ch_one hr.toRoom (mo_tm (x_gint (W.int 31) rfl)))))))))) (ms_nil)))
theorem ok_purse_good (W : Wd K mg) : KnG P w K mg base 2 "purse_good" ["thing"] (spOf (K, w) 1 g_purse_good) := kng_mk W 1 1 rfl rfl rfl pl_purse_good sc_purse_good (bd_purse_good W)
theorem sc_put_in : FnScope ["purse", "coins"] ["purse", "coins"] (defScope st_put_in) := ⟨rfl, rfl, rfl, by decide +kernel, rfl, by decide +kernel, by decide +kernel⟩
theorem pl_put_in : Plain d_put_in ["purse", "coins"] := ⟨rfl, rfl, fun _ _ _ _ _ _ us hl => match us, hl with | [_, _], _ => rfl⟩
theorem bd_put_in (W : Wd K mg) (f : Addr) (cdv : Value) (A : Around) (outer : List Env) (s : Shared) (H : Hp) (E : XK) (hr : Rm 0 (cxN P w K mg base ["purse", "coins"] d_put_in f cdv A outer s H E).A) : PSs (cxN P w K mg base ["purse", "coins"] d_put_in f cdv A outer s H E) d_put_in.body (tS (K, w) W0 (ios [true, true]) m_put_in) :=
  have nd : (["purse", "coins"] : List Str).Nodup := sc_put_in.nd
  ms_cons (ms_ret (x_bf .min rfl (W.free 42) rfl rfl (ma_cons (mo_tm (x_ix (mo_name (pv 0)) (mo_tm (me_int)))) (ma_cons (mo_tm (x_bin (mo_name (pv 1)) (mo_tm (x_ix (mo_name (pv 0)) (mo_tm (me_int)))))) (ma_nil))))) (ms_nil)
theorem ok_put_in (W : Wd K mg) : KnG P w K mg base 1 "put_in" ["purse", "coins"] (spOf (K, w) 2 g_put_in) := kng_mk W 2 2 rfl rfl rfl pl_put_in sc_put_in (bd_put_in W)
theorem sc_walked : FnScope ["purse", "row", "coins", "found", "place", "sign"] ["purse", "row"] (defScope st_walked) := ⟨rfl, rfl, rfl, by decide +kernel, rfl, by decide +kernel, by decide +kernel⟩
theorem pl_walked : Plain d_walked ["purse", "row"] := ⟨rfl, rfl, fun _ _ _ _ _ _ us hl => match us, hl with | [_, _], _ => rfl⟩
theorem bd_walked (W : Wd K mg) (f : Addr) (cdv : Value) (A : Around) (outer : List Env) (s : Shared) (H : Hp) (E : XK) (hr : Rm 1 (cxN P w K mg base ["purse", "row", "coins", "found", "place", "sign"] d_walked f cdv A outer s H E).A) : PSs (cxN P w K mg base ["purse", "row", "coins", "found", "place", "sign"] d_walked f cdv A outer s H E) d_walked.body (tS (K, w) W0 (ios [true, true]) m_walked) :=
  have nd : (["purse", "row", "coins", "found", "place", "sign"] : List Str).Nodup := sc_walked.nd
  ms_cons (z_set 2 nd (x_ix (mo_name (pv 0)) (mo_tm (me_int)))) (ms_cons (z_set 3 nd (me_lst (ma_nil))) (ms_cons (z_for (ts := [4, 5]) .never rfl ((by refine mi_enumS (W.free 43) ?_ ?_; exact rfl; exact (mo_tm (me_name (pv 1))))) (Gd.imp (gd_tup rfl (gds_cons (gd_name) (gds_cons (gd_name) (gds_nil)))) (by intro j h; simpa using h)) (pg_tup rfl (pgs_cons (g_nm 4 nd) (pgs_cons (g_nm 5 nd) (pgs_nil)))) (ms_cons (ms_if (y_cmp hr.toRoom (mo_name (pv 5)) (mo_tm (me_str))) (ms_cons (z_set 2 nd (g_call (ok_put_in W) hr (by decide) rfl (ma_cons (mo_name (pv 0)) (ma_cons (mo_name (pv 2)) (ma_nil))))) (ms_nil)) (ms_cons (ms_if (y_cmp hr.toRoom (mo_name (pv 2)) (mo_tm (x_ix (mo_name (pv 0)) (mo_tm (me_int))))) (ms_cons (z_set 2 nd (x_bin (mo_name (pv 2)) (mo_tm (x_ix (mo_name (pv 0)) (mo_tm (me_int)))))) (ms_nil)) (ms_cons (z_app 3 (pv 3) (me_name (pv 4))) (ms_nil))) (ms_nil))) (ms_nil))) (ms_cons (ms_ret (me_tup (ma_cons (mo_name (pv 2)) (ma_cons (mo_name (pv 3)) (ma_nil))))) (ms_nil))))
theorem ok_walked (W : Wd K mg) : KnG P w K mg base 2 "walked" ["purse", "row"] (spOf (K, w) 2 g_walked) := kng_mk W 3 3 rfl rfl rfl pl_walked sc_walked (bd_walked W)
theorem sc_check_row : FnScope ["row", "sign"] ["row"] (defScope st_check_row) := ⟨rfl, rfl, rfl, by decide +kernel, rfl, by decide +kernel, by decide +kernel⟩
theorem pl_check_row : Plain d_check_row ["row"] := ⟨rfl, rfl, fun _ _ _ _ _ _ us hl => match us, hl with | [_], _ => rfl⟩
theorem bd_check_row (W : Wd K mg) (f : Addr) (cdv : Value) (A : Around) (outer : List Env) (s : Shared) (H : Hp) (E : XK) (hr : Rm 0 (cxN P w K mg base ["row", "sign"] d_check_row f cdv A outer s H E).A) : PSs (cxN P w K mg base ["row", "sign"] d_check_row f cdv A outer s H E) d_check_row.body (tS (K, w) W0 (ios [true]) m_check_row) :=
  have nd : (["row", "sign"] : List Str).Nodup := sc_check_row.nd
  ms_cons (ms_if (PW.pt (mt_or (mt_not (y_val (x_isi .str rfl (W.free 36) (W.free 44) rfl rfl (mo_name (pv 0))))) (mt_or (y_cmp hr.toRoom (mo_tm (x_bf .len rfl (W.free 40) rfl rfl (ma_cons (mo_name (pv 0)) (ma_nil)))) (mo_tm (x_gint (W.int 32) rfl))) (mt_or1 (y_cmp hr.toRoom (mo_tm (x_lc [("sign", 1)] rfl nd (blkOk_by (by first | rfl | kernel_rfl)) (mi_any (mo_tm (me_name (pv 0)))) (Gd.imp (gd_name) (by intro j h; simpa using h)) (fun _ _ _ _ _ => g_nm 1 nd) (fun _ _ _ _ _ => pts_it (y_ninS (mo_name (pv 1)) (mo_tm (me_str)))) (fun _ _ _ _ _ => me_name (pv 1)))) (mo_tm (me_lst (ma_nil)))))))) (ms_cons (ms_never) (ms_nil)) (ms_nil)) (ms_nil)
theorem ok_check_row (W : Wd K mg) : KnG P w K mg base 1 "check_row" ["row"] (spOf (K, w) 1 g_check_row) := kng_mk W 4 4 rfl rfl rfl pl_check_row sc_check_row (bd_check_row W)
theorem sc_coins_behind : FnScope ["purse", "row"] ["purse", "row"] (defScope st_coins_behind) := ⟨rfl, rfl, rfl, by decide +kernel, rfl, by decide +kernel, by decide +kernel⟩
theorem pl_coins_behind : Plain d_coins_behind ["purse", "row"] := ⟨rfl, rfl, fun _ _ _ _ _ _ us hl => match us, hl with | [_, _], _ => rfl⟩
theorem bd_coins_behind (W : Wd K mg) (f : Addr) (cdv : Value) (A : Around) (outer : List Env) (s : Shared) (H : Hp) (E : XK) (hr : Rm 2 (cxN P w K mg base ["purse", "row"] d_coins_behind f cdv A outer s H E).A) : PSs (cxN P w K mg base ["purse", "row"] d_coins_behind f cdv A outer s H E) d_coins_behind.body (tS (K, w) W0 (ios [true, true]) m_coins_behind) :=
  have nd : (["purse", "row"] : List Str).Nodup := sc_coins_behind.nd
  ms_cons (z_expr (g_call (ok_check_row W) hr (by decide) rfl (ma_cons (mo_name (pv 1)) (ma_nil)))) (ms_cons (ms_ret (x_ix (mo_tm (g_call (ok_walked W) hr (by decide) rfl (ma_cons (mo_name (pv 0)) (ma_cons (mo_name (pv 1)) (ma_nil))))) (mo_tm (me_int)))) (ms_nil))
theorem ok_coins_behind (W : Wd K mg) : KnG P w K mg base 3 "coins_behind" ["purse", "row"] (spOf (K, w) 2 g_coins_behind) := kng_mk W 5 5 rfl rfl rfl pl_coins_behind sc_coins_behind (bd_coins_behind W)
theorem sc_paid_in : FnScope ["purse", "row"] ["purse", "row"] (defScope st_paid_in) := ⟨rfl, rfl, rfl, by decide +kernel, rfl, by decide +kernel, by decide +kernel⟩
theorem pl_paid_in : Plain d_paid_in ["purse", "row"] := ⟨rfl, rfl, fun _ _ _ _ _ _ us hl => match us, hl with | [_, _], _ => rfl⟩
theorem bd_paid_in (W : Wd K mg) (f : Addr) (cdv : Value) (A : Around) (outer : List Env) (s : Shared) (H : Hp) (E : XK) (hr : Rm 2 (cxN P w K mg base ["purse", "row"] d_paid_in f cdv A outer s H E).A) : PSs (cxN P w K mg base ["purse", "row"] d_paid_in f cdv A outer s H E) d_paid_in.body (tS (K, w) W0 (ios [true, true]) m_paid_in) :=
  have nd : (["purse", "row"] : List Str).Nodup := sc_paid_in.nd
  ms_cons (z_expr (g_call (ok_check_row W) hr (by decide) rfl (ma_cons (mo_name (pv 1)) (ma_nil)))) (ms_cons (ms_ret (x_bin (mo_tm (x_scount (mo_name (pv 1)) (ma_cons (mo_tm (me_str)) (ma_nil)))) (mo_tm (x_bf .len rfl (W.free 40) rfl rfl (ma_cons (mo_tm (x_ix (mo_tm (g_call (ok_walked W) hr (by decide) rfl (ma_cons (mo_name (pv 0)) (ma_cons (mo_name (pv 1)) (ma_nil))))) (mo_tm (me_int)))) (ma_nil)))))) (ms_nil))
theorem ok_paid_in (W : Wd K mg) : KnG P w K mg base 3 "paid_in" ["purse", "row"] (spOf (K, w) 2 g_paid_in) := kng_mk W 6 6 rfl rfl rfl pl_paid_in sc_paid_in (bd_paid_in W)
theorem sc_unpaid_at : FnScope ["purse", "row"] ["purse", "row"] (defScope st_unpaid_at) := ⟨rfl, rfl, rfl, by decide +kernel, rfl, by decide +kernel, by decide +kernel⟩
theorem pl_unpaid_at : Plain d_unpaid_at ["purse", "row"] := ⟨rfl, rfl, fun _ _ _ _ _ _ us hl => match us, hl with | [_, _], _ => rfl⟩
theorem bd_unpaid_at (W : Wd K mg) (f : Addr) (cdv : Value) (A : Around) (outer : List Env) (s : Shared) (H : Hp) (E : XK) (hr : Rm 2 (cxN P w K mg base ["purse", "row"] d_unpaid_at f cdv A outer s H E).A) : PSs (cxN P w K mg base ["purse", "row"] d_unpaid_at f cdv A outer s H E) d_unpaid_at.body (tS (K, w) W0 (ios [true, true]) m_unpaid_at) :=
  have nd : (["purse", "row"] : List Str).Nodup := sc_unpaid_at.nd
  ms_cons (z_expr (g_call (ok_check_row W) hr (by decide) rfl (ma_cons (mo_name (pv 1)) (ma_nil)))) (ms_cons (ms_ret (x_ix (mo_tm (g_call (ok_walked W) hr (by decide) rfl (ma_cons (mo_name (pv 0)) (ma_cons (mo_name (pv 1)) (ma_nil))))) (mo_tm (me_int)))) (ms_nil))
theorem ok_unpaid_at (W : Wd K mg) : KnG P w K mg base 3 "unpaid_at" ["purse", "row"] (spOf (K, w) 2 g_unpaid_at) := kng_mk W 7 7 rfl rfl rfl pl_unpaid_at sc_unpaid_at (bd_unpaid_at W)
theorem sc_is_long : FnScope ["thing"] ["thing"] (defScope st_is_long) := ⟨rfl, rfl, rfl, by decide +kernel, rfl, by decide +kernel, by decide +kernel⟩
theorem pl_is_long : Plain d_is_long ["thing"] := ⟨rfl, rfl, fun _ _ _ _ _ _ us hl => match us, hl with | [_], _ => rfl⟩
theorem bd_is_long (W : Wd K mg) (f : Addr) (cdv : Value) (A : Around) (outer : List Env) (s : Shared) (H : Hp) (E : XK) (hr : Rm 1 (cxN P w K mg base ["thing"] d_is_long f cdv A outer s H E).A) : PSs (cxN P w K mg base ["thing"] d_is_long f cdv A outer s H E) d_is_long.body (tS (K, w) W0 (ios [true]) m_is_long) :=
  have nd : (["thing"] : List Str).Nodup := sc_is_long.nd
  ms_cons (ms_if (PW.pt (mt_or (mt_not (y_val (x_isi .tuple rfl (W.free 36) (W.free 39) rfl rfl (mo_name (pv 0))))) (mt_or (y_cmp hr.toRoom (mo_tm (x_bf .len rfl (W.free 40) rfl rfl (ma_cons (mo_name (pv 0)) (ma_nil)))) (mo_tm (me_int))) (mt_or (mt_not (y_val (x_isi .str rfl (W.free 36) (W.free 44) rfl rfl (mo_tm (x_ix (mo_name (pv 0)) (mo_tm (me_int))))))) (mt_or1 (y_cmp hr.toRoom (mo_tm (x_ix (mo_name (pv 0)) (mo_tm (me_int)))) (mo_tm (me_tup (ma_cons (mo_tm (me_str)) (ma_cons (mo_tm (me_str)) (ma_nil))))))))))) (ms_cons (ms_ret (me_bl)) (ms_nil)) (ms_nil)) (ms_cons (ms_ret (me_and (g_call (ok_is_whole W) hr (by decide) rfl (ma_cons (mo_tm (x_ix (mo_name (pv 0)) (mo_tm (me_int)))) (ma_nil))) (me_one (x_chain (mo_tm (me_int)) (ch_cons hr.toRoom (mo_tm (x_ix (mo_name (pv 0)) (mo_tm (me_int)))) (ch_one hr.toRoom (mo_tm (x_gint (W.int 34) rfl)))))))) (ms_nil))
theorem ok_is_long (W : Wd K mg) : KnG P w K mg base 2 "is_long" ["thing"] (spOf (K, w) 1 g_is_long) := kng_mk W 8 8 rfl rfl rfl pl_is_long sc_is_long (bd_is_long W)
theorem sc_far_behind : FnScope ["purse", "row", "one", "coins", "paid", "sign", "many", "most"] ["purse", "row"] (defScope st_far_behind) := ⟨rfl, rfl, rfl, by decide +kernel, rfl, by decide +kernel, by decide +kernel⟩
theorem pl_far_behind : Plain d_far_behind ["purse", "row"] := ⟨rfl, rfl, fun _ _ _ _ _ _ us hl => match us, hl with | [_, _], _ => rfl⟩
theorem bd_far_behind (W : Wd K mg) (f : Addr) (cdv : Value) (A : Around) (outer : List Env) (s : Shared) (H : Hp) (E : XK) (hr : Rm 2 (cxN P w K mg base ["purse", "row", "one", "coins", "paid", "sign", "many", "most"] d_far_behind f cdv A outer s H E).A) : PSs (cxN P w K mg base ["purse", "row", "one", "coins", "paid", "sign", "many", "most"] d_far_behind f cdv A outer s H E) d_far_behind.body (tS (K, w) W0 (ios [true, true]) m_far_behind) :=
  have nd : (["purse", "row", "one", "coins", "paid", "sign", "many", "most"] : List Str).Nodup := sc_far_behind.nd
  ms_cons (ms_if (PW.pt (mt_or (mt_not (y_val (x_isi .tuple rfl (W.free 36) (W.free 39) rfl rfl (mo_name (pv 1))))) (mt_or (y_cmp hr.toRoom (mo_tm (x_bf .len rfl (W.free 40) rfl rfl (ma_cons (mo_name (pv 1)) (ma_nil)))) (mo_tm (x_gint (W.int 33) rfl))) (mt_or1 (mt_not (y_val (x_bg .all rfl (W.free 41) rfl rfl (ma_cons (mo_tm (x_lc [("one", 2)] rfl nd (blkOk_by (by first | rfl | kernel_rfl)) (mi_any (mo_tm (me_name (pv 1)))) (Gd.imp (gd_name) (by intro j h; simpa using h)) (fun _ _ _ _ _ => g_nm 2 nd) (fun _ _ _ _ _ => pts_no) (fun _ _ _ _ _ => g_call (ok_is_long W) hr (by decide) rfl (ma_cons (mo_name (pv 2)) (ma_nil))))) (ma_nil))))))))) (ms_cons (ms_never) (ms_nil)) (ms_nil)) (ms_cons (z_par2 3 4 rfl nd (ma_cons (mo_tm (x_ix (mo_name (pv 0)) (mo_tm (me_int)))) (ma_cons (mo_tm (me_int)) (ma_nil)))) (ms_cons (z_for (ts := [5, 6]) .never rfl (mi_any (mo_tm (me_name (pv 1)))) (Gd.imp (gd_tup rfl (gds_cons (gd_name) (gds_cons (gd_name) (gds_nil)))) (by intro j h; simpa using h)) (pg_tup rfl (pgs_cons (g_nm 5 nd) (pgs_cons (g_nm 6 nd) (pgs_nil)))) (ms_cons (ms_if (y_cmp hr.toRoom (mo_name (pv 5)) (mo_tm (me_str))) (ms_cons (z_set 3 nd (x_bf .min rfl (W.free 42) rfl rfl (ma_cons (mo_tm (x_ix (mo_name (pv 0)) (mo_tm (me_int)))) (ma_cons (mo_tm (x_bin (mo_name (pv 3)) (mo_tm (x_bin (mo_name (pv 6)) (mo_tm (x_ix (mo_name (pv 0)) (mo_tm (me_int)))))))) (ma_nil))))) (ms_nil)) (ms_cons (z_set 7 nd (x_bf .min rfl (W.free 42) rfl rfl (ma_cons (mo_name (pv 6)) (ma_cons (mo_tm (x_bin (mo_name (pv 3)) (mo_tm (x_ix (mo_name (pv 0)) (mo_tm (me_int)))))) (ma_nil))))) (ms_cons (z_set 3 nd (x_bin (mo_name (pv 3)) (mo_tm (x_bin (mo_name (pv 7)) (mo_tm (x_ix (mo_name (pv 0)) (mo_tm (me_int)))))))) (ms_cons (z_set 4 nd (x_bin (mo_name (pv 4)) (mo_name (pv 7)))) (ms_nil))))) (ms_nil))) (ms_cons (ms_ret (me_tup (ma_cons (mo_name (pv 3)) (ma_cons (mo_name (pv 4)) (ma_nil))))) (ms_nil))))
theorem ok_far_behind (W : Wd K mg) : KnG P w K mg base 3 "far_behind" ["purse", "row"] (spOf (K, w) 2 g_far_behind) := kng_mk W 9 9 rfl rfl rfl pl_far_behind sc_far_behind (bd_far_behind W)
theorem sc_paid_turns : FnScope ["purse", "coins", "many", "paid", "known", "turn", "ago", "before", "rounds"] ["purse", "coins", "many"] (defScope st_paid_turns) := ⟨rfl, rfl, rfl, by decide +kernel, rfl, by decide +kernel, by decide +kernel⟩
theorem pl_paid_turns : Plain d_paid_turns ["purse", "coins", "many"] := ⟨rfl, rfl, fun _ _ _ _ _ _ us hl => match us, hl with | [_, _, _], _ => rfl⟩
theorem bd_paid_turns (W : Wd K mg) (f : Addr) (cdv : Value) (A : Around) (outer : List Env) (s : Shared) (H : Hp) (E : XK) (hr : Rm 1 (cxN P w K mg base ["purse", "coins", "many", "paid", "known", "turn", "ago", "before", "rounds"] d_paid_turns f cdv A outer s H E).A) : PSs (cxN P w K mg base ["purse", "coins", "many", "paid", "known", "turn", "ago", "before", "rounds"] d_paid_turns f cdv A outer s H E) d_paid_turns.body (tS (K, w) W0 (ios [true, false, true]) m_paid_turns) :=
  have nd : (["purse", "coins", "many", "paid", "known", "turn", "ago", "before", "rounds"] : List Str).Nodup := sc_paid_turns.nd
  ms_cons (z_par2 3 1 rfl nd (ma_cons (mo_tm (x_bin (mo_name (pv 1)) (mo_tm (x_ix (mo_name (pv 0)) (mo_tm (me_int)))))) (ma_cons (mo_tm (x_bin (mo_name (pv 1)) (mo_tm (x_ix (mo_name (pv 0)) (mo_tm (me_int)))))) (ma_nil)))) (ms_cons (z_set 4 nd (x_dnew)) (ms_cons (z_set 5 nd (me_int)) (ms_cons (ms_while .never (y_cmp hr.toRoom (mo_name (pv 5)) (mo_name (pv 2))) (ms_cons (ms_if (y_din hr.toRoom (pv 4) (mo_name (pv 1))) (ms_cons (z_asg (Gd.imp (gd_tup rfl (gds_cons (gd_name) (gds_cons (gd_name) (gds_nil)))) (by intro j h; simpa using h)) (pg_tup rfl (pgs_cons (g_nm 6 nd) (pgs_cons (g_nm 7 nd) (pgs_nil)))) (x_dget hr.toRoom (pv 4) (mo_name (pv 1)))) (ms_cons (z_set 8 nd (x_bin (mo_tm (x_bin (mo_name (pv 2)) (mo_name (pv 5)))) (mo_tm (x_bin (mo_name (pv 5)) (mo_name (pv 6)))))) (ms_cons (z_set 3 nd (x_bin (mo_name (pv 3)) (mo_tm (x_bin (mo_name (pv 8)) (mo_tm (x_bin (mo_name (pv 3)) (mo_name (pv 7)))))))) (ms_cons (z_set 5 nd (x_bin (mo_name (pv 5)) (mo_tm (x_bin (mo_name (pv 8)) (mo_tm (x_bin (mo_name (pv 5)) (mo_name (pv 6)))))))) (ms_cons (z_set 4 nd (x_dnew)) (ms_nil)))))) (ms_cons (z_dput hr.toRoom 4 (pv 4) (me_tup (ma_cons (mo_name (pv 5)) (ma_cons (mo_name (pv 3)) (ma_nil)))) (mo_name (pv 1))) (ms_nil))) (ms_cons (ms_if (y_cmp hr.toRoom (mo_name (pv 5)) (mo_name (pv 2))) (ms_cons (z_set 1 nd (g_call (ok_put_in W) hr (by decide) rfl (ma_cons (mo_name (pv 0)) (ma_cons (mo_name (pv 1)) (ma_nil))))) (ms_cons (z_par2 3 1 rfl nd (ma_cons (mo_tm (x_bin (mo_name (pv 3)) (mo_tm (x_bin (mo_name (pv 1)) (mo_tm (x_ix (mo_name (pv 0)) (mo_tm (me_int)))))))) (ma_cons (mo_tm (x_bin (mo_name (pv 1)) (mo_tm (x_ix (mo_name (pv 0)) (mo_tm (me_int)))))) (ma_nil)))) (ms_cons (z_set 5 nd (x_bin (mo_name (pv 5)) (mo_tm (me_int)))) (ms_nil)))) (ms_nil)) (ms_nil)))) (ms_cons (ms_retV (pv 3)) (ms_nil)))))
theorem ok_paid_turns (W : Wd K mg) : KnG P w K mg base 2 "paid_turns" ["purse", "coins", "many"] (spOf (K, w) 3 g_paid_turns) := kng_mk W 10 10 rfl rfl rfl pl_paid_turns sc_paid_turns (bd_paid_turns W)
theorem sc_most_paid : FnScope ["purse", "many"] ["purse", "many"] (defScope st_most_paid) := ⟨rfl, rfl, rfl, by decide +kernel, rfl, by decide +kernel, by decide +kernel⟩
theorem pl_most_paid : Plain d_most_paid ["purse", "many"] := ⟨rfl, rfl, fun _ _ _ _ _ _ us hl => match us, hl with | [_, _], _ => rfl⟩
theorem bd_most_paid (W : Wd K mg) (f : Addr) (cdv : Value) (A : Around) (outer : List Env) (s : Shared) (H : Hp) (E : XK) (hr : Rm 2 (cxN P w K mg base ["purse", "many"] d_most_paid f cdv A outer s H E).A) : PSs (cxN P w K mg base ["purse", "many"] d_most_paid f cdv A outer s H E) d_most_paid.body (tS (K, w) W0 (ios [true, true]) m_most_paid) :=
  have nd : (["purse", "many"] : List Str).Nodup := sc_most_paid.nd
  ms_cons (ms_ret (g_call (ok_paid_turns W) hr (by decide) rfl (ma_cons (mo_name (pv 0)) (ma_cons (mo_tm (x_ix (mo_name (pv 0)) (mo_tm (me_int)))) (ma_cons (mo_name (pv 1)) (ma_nil)))))) (ms_nil)
theorem ok_most_paid (W : Wd K mg) : KnG P w K mg base 3 "most_paid" ["purse", "many"] (spOf (K, w) 2 g_most_paid) := kng_mk W 11 11 rfl rfl rfl pl_most_paid sc_most_paid (bd_most_paid W)
theorem sc_best_row : FnScope ["purse", "many", "size", "coins", "row", "turn"] ["purse", "many"] (defScope st_best_row) := ⟨rfl, rfl, rfl, by decide +kernel, rfl, by decide +kernel, by decide +kernel⟩
theorem pl_best_row : Plain d_best_row ["purse", "many"] := ⟨rfl, rfl, fun _ _ _ _ _ _ us hl => match us, hl with | [_, _], _ => rfl⟩
theorem bd_best_row (W : Wd K mg) (f : Addr) (cdv : Value) (A : Around) (outer : List Env) (s : Shared) (H : Hp) (E : XK) (hr : Rm 3 (cxN P w K mg base ["purse", "many", "size", "coins", "row", "turn"] d_best_row f cdv A outer s H E).A) : PSs (cxN P w K mg base ["purse", "many", "size", "coins", "row", "turn"] d_best_row f cdv A outer s H E) d_best_row.body (tS (K, w) W0 (ios [true, true]) m_best_row) :=
  have nd : (["purse", "many", "size", "coins", "row", "turn"] : List Str).Nodup := sc_best_row.nd
  ms_cons (z_set 2 nd (x_bin (mo_name (pv 1)) (mo_tm (g_call (ok_most_paid W) hr (by decide) rfl (ma_cons (mo_name (pv 0)) (ma_cons (mo_name (pv 1)) (ma_nil))))))) (ms_cons (ms_if (y_cmp hr.toRoom (mo_name (pv 2)) (mo_tm (x_gint (W.int 32) rfl))) (ms_cons (ms_never) (ms_nil)) (ms_nil)) (ms_cons (z_set 3 nd (x_bin (mo_tm (x_ix (mo_name (pv 0)) (mo_tm (me_int)))) (mo_tm (x_ix (mo_name (pv 0)) (mo_tm (me_int)))))) (ms_cons (z_set 4 nd (x_smul (mo_tm (me_str)) (mo_tm (x_bin (mo_tm (x_ix (mo_name (pv 0)) (mo_tm (me_int)))) (mo_tm (x_ix (mo_name (pv 0)) (mo_tm (me_int)))))))) (ms_cons (z_for (ts := [5]) .never rfl (z_rng1 (W.free 45) rfl (ma_cons (mo_tm (me_name (pv 1))) (ma_nil))) (Gd.imp (gd_name) (by intro j h; simpa using h)) (g_nm 5 nd) (ms_cons (z_set 3 nd (g_call (ok_put_in W) hr (by decide) rfl (ma_cons (mo_name (pv 0)) (ma_cons (mo_name (pv 3)) (ma_nil))))) (ms_cons (z_set 4 nd (x_bin (mo_tm (x_bin (mo_name (pv 4)) (mo_tm (me_str)))) (mo_tm (x_smul (mo_tm (me_str)) (mo_tm (x_bin (mo_name (pv 3)) (mo_tm (x_ix (mo_name (pv 0)) (mo_tm (me_int)))))))))) (ms_cons (z_set 3 nd (x_bin (mo_name (pv 3)) (mo_tm (x_ix (mo_name (pv 0)) (mo_tm (me_int)))))) (ms_nil))))) (ms_cons (ms_retV (pv 4)) (ms_nil))))))
theorem ok_best_row (W : Wd K mg) : KnG P w K mg base 4 "best_row" ["purse", "many"] (spOf (K, w) 2 g_best_row) := kng_mk W 12 12 rfl rfl rfl pl_best_row sc_best_row (bd_best_row W)
theorem sc_most_between : FnScope ["purse", "many"] ["purse", "many"] (defScope st_most_between) := ⟨rfl, rfl, rfl, by decide +kernel, rfl, by decide +kernel, by decide +kernel⟩
theorem pl_most_between : Plain d_most_between ["purse", "many"] := ⟨rfl, rfl, fun _ _ _ _ _ _ us hl => match us, hl with | [_, _], _ => rfl⟩
theorem bd_most_between (W : Wd K mg) (f : Addr) (cdv : Value) (A : Around) (outer : List Env) (s : Shared) (H : Hp) (E : XK) (hr : Rm 2 (cxN P w K mg base ["purse", "many"] d_most_between f cdv A outer s H E).A) : PSs (cxN P w K mg base ["purse", "many"] d_most_between f cdv A outer s H E) d_most_between.body (tS (K, w) W0 (ios [true, true]) m_most_between) :=
  have nd : (["purse", "many"] : List Str).Nodup := sc_most_between.nd
  ms_cons (ms_if (y_cmp hr.toRoom (mo_tm (x_ix (mo_name (pv 0)) (mo_tm (me_int)))) (mo_tm (me_int))) (ms_cons (ms_ret (g_call (ok_paid_turns W) hr (by decide) rfl (ma_cons (mo_name (pv 0)) (ma_cons (mo_tm (x_ix (mo_name (pv 0)) (mo_tm (me_int)))) (ma_cons (mo_name (pv 1)) (ma_nil)))))) (ms_nil)) (ms_nil)) (ms_cons (ms_ret (g_call (ok_paid_turns W) hr (by decide) rfl (ma_cons (mo_name (pv 0)) (ma_cons (mo_tm (x_ix (mo_name (pv 0)) (mo_tm (me_int)))) (ma_cons (mo_name (pv 1)) (ma_nil)))))) (ms_nil))
theorem ok_most_between (W : Wd K mg) : KnG P w K mg base 3 "most_between" ["purse", "many"] (spOf (K, w) 2 g_most_between) := kng_mk W 13 13 rfl rfl rfl pl_most_between sc_most_between (bd_most_between W)
theorem sc_knocked : FnScope ["purse", "coins"] ["purse", "coins"] (defScope st_knocked) := ⟨rfl, rfl, rfl, by decide +kernel, rfl, by decide +kernel, by decide +kernel⟩
theorem pl_knocked : Plain d_knocked ["purse", "coins"] := ⟨rfl, rfl, fun _ _ _ _ _ _ us hl => match us, hl with | [_, _], _ => rfl⟩
theorem bd_knocked (W : Wd K mg) (f : Addr) (cdv : Value) (A : Around) (outer : List Env) (s : Shared) (H : Hp) (E : XK) (hr : Rm 0 (cxN P w K mg base ["purse", "coins"] d_knocked f cdv A outer s H E).A) : PSs (cxN P w K mg base ["purse", "coins"] d_knocked f cdv A outer s H E) d_knocked.body (tS (K, w) W0 (ios [true, true]) m_knocked) :=
  have nd : (["purse", "coins"] : List Str).Nodup := sc_knocked.nd
  ms_cons (ms_if (y_cmp hr.toRoom (mo_name (pv 1)) (mo_tm (x_ix (mo_name (pv 0)) (mo_tm (me_int))))) (ms_cons (ms_ret (me_tup (ma_cons (mo_tm (me_bl)) (ma_cons (mo_tm (x_bin (mo_name (pv 1)) (mo_tm (x_ix (mo_name (pv 0)) (mo_tm (me_int)))))) (ma_nil))))) (ms_nil)) (ms_nil)) (ms_cons (ms_ret (me_tup (ma_cons (mo_tm (me_bl)) (ma_cons (mo_name (pv 1)) (ma_nil))))) (ms_nil))
theorem ok_knocked (W : Wd K mg) : KnG P w K mg base 1 "knocked" ["purse", "coins"] (spOf (K, w) 2 g_knocked) := kng_mk W 14 14 rfl rfl rfl pl_knocked sc_knocked (bd_knocked W)
theorem sc_is_row : FnScope ["thing", "sign"] ["thing"] (defScope st_is_row) := ⟨rfl, rfl, rfl, by decide +kernel, rfl, by decide +kernel, by decide +kernel⟩
theorem pl_is_row : Plain d_is_row ["thing"] := ⟨rfl, rfl, fun _ _ _ _ _ _ us hl => match us, hl with | [_], _ => rfl⟩
theorem bd_is_row (W : Wd K mg) (f : Addr) (cdv : Value) (A : Around) (outer : List Env) (s : Shared) (H : Hp) (E : XK) (hr : Rm 0 (cxN P w K mg base ["thing", "sign"] d_is_row f cdv A outer s H E).A) : PSs (cxN P w K mg base ["thing", "sign"] d_is_row f cdv A outer s H E) d_is_row.body (tS (K, w) W0 (ios [true]) m_is_row) :=
  have nd : (["thing", "sign"] : List Str).Nodup := sc_is_row.nd
  ms_cons (ms_ret (me_and (x_isi .str rfl (W.free 36) (W.free 44) rfl rfl (mo_name (pv 0))) (me_one (x_cmp hr.toRoom (mo_tm (x_lc [("sign", 1)] rfl nd (blkOk_by (by first | rfl | kernel_rfl)) (mi_any (mo_tm (me_name (pv 0)))) (Gd.imp (gd_name) (by intro j h; simpa using h)) (fun _ _ _ _ _ => g_nm 1 nd) (fun _ _ _ _ _ => pts_it (y_ninS (mo_name (pv 1)) (mo_tm (me_str)))) (fun _ _ _ _ _ => me_name (pv 1)))) (mo_tm (me_lst (ma_nil))))))) (ms_nil)
theorem ok_is_row (W : Wd K mg) : KnG P w K mg base 1 "is_row" ["thing"] (spOf (K, w) 1 g_is_row) := kng_mk W 15 15 rfl rfl rfl pl_is_row sc_is_row (bd_is_row W)
theorem sc_parts : FnScope ["one", "other", "thing", "last"] ["one", "other", "thing"] (defScope st_parts) := ⟨rfl, rfl, rfl, by decide +kernel, rfl, by decide +kernel, by decide +kernel⟩
theorem pl_parts : Plain d_parts ["one", "other", "thing"] := ⟨rfl, rfl, fun _ _ _ _ _ _ us hl => match us, hl with | [_, _, _], _ => rfl⟩
theorem bd_parts (W : Wd K mg) (f : Addr) (cdv : Value) (A : Around) (outer : List Env) (s : Shared) (H : Hp) (E : XK) (hr : Rm 2 (cxN P w K mg base ["one", "other", "thing", "last"] d_parts f cdv A outer s H E).A) : PSs (cxN P w K mg base ["one", "other", "thing", "last"] d_parts f cdv A outer s H E) d_parts.body (tS (K, w) W0 (ios [true, true, true]) m_parts) :=
  have nd : (["one", "other", "thing", "last"] : List Str).Nodup := sc_parts.nd
  ms_cons (ms_if (PW.pt (mt_or (mt_not (y_val (g_call (ok_is_row W) hr (by decide) rfl (ma_cons (mo_name (pv 2)) (ma_nil))))) (mt_or1 (y_cmp hr.toRoom (mo_tm (me_slice (mo_name (pv 2)) (mp_some (mo_tm (x_neg (mo_tm (me_int))))) (mp_none))) (mo_tm (me_str)))))) (ms_cons (ms_ret (me_bl)) (ms_nil)) (ms_nil)) (ms_cons (z_set 3 nd (x_bin (mo_tm (x_bf .len rfl (W.free 40) rfl rfl (ma_cons (mo_name (pv 2)) (ma_nil)))) (mo_tm (me_int)))) (ms_cons (ms_ret (x_cmp hr.toRoom (mo_tm (x_cmp hr.toRoom (mo_name (pv 3)) (mo_tm (x_ix (mo_tm (g_call (ok_walked W) hr (by decide) rfl (ma_cons (mo_name (pv 0)) (ma_cons (mo_name (pv 2)) (ma_nil))))) (mo_tm (me_int)))))) (mo_tm (x_cmp hr.toRoom (mo_name (pv 3)) (mo_tm (x_ix (mo_tm (g_call (ok_walked W) hr (by decide) rfl (ma_cons (mo_name (pv 1)) (ma_cons (mo_name (pv 2)) (ma_nil))))) (mo_tm (me_int)))))))) (ms_nil)))
theorem ok_parts (W : Wd K mg) : KnG P w K mg base 3 "parts" ["one", "other", "thing"] (spOf (K, w) 3 g_parts) := kng_mk W 16 16 rfl rfl rfl pl_parts sc_parts (bd_parts W)
theorem sc_row_back : FnScope ["ahead", "here", "row", "sign"] ["ahead", "here", "row"] (defScope st_row_back) := ⟨rfl, rfl, rfl, by decide +kernel, rfl, by decide +kernel, by decide +kernel⟩
theorem pl_row_back : Plain d_row_back ["ahead", "here", "row"] := ⟨rfl, rfl, fun _ _ _ _ _ _ us hl => match us, hl with | [_, _, _], _ => rfl⟩
theorem bd_row_back (W : Wd K mg) (f : Addr) (cdv : Value) (A : Around) (outer : List Env) (s : Shared) (H : Hp) (E : XK) (hr : Rm 0 (cxN P w K mg base ["ahead", "here", "row", "sign"] d_row_back f cdv A outer s H E).A) : PSs (cxN P w K mg base ["ahead", "here", "row", "sign"] d_row_back f cdv A outer s H E) d_row_back.body (tS (K, w) W0 (ios [true, false, false]) m_row_back) :=
  have nd : (["ahead", "here", "row", "sign"] : List Str).Nodup := sc_row_back.nd
  ms_cons (ms_while .never (y_cmp hr.toRoom (mo_tm (x_nget hr.toRoom (pv 0) (mo_name (pv 1)))) (mo_tm (me_non))) (ms_cons (z_asg (Gd.imp (gd_tup rfl (gds_cons (gd_name) (gds_cons (gd_name) (gds_nil)))) (by intro j h; simpa using h)) (pg_tup rfl (pgs_cons (g_nm 1 nd) (pgs_cons (g_nm 3 nd) (pgs_nil)))) (x_nget hr.toRoom (pv 0) (mo_name (pv 1)))) (ms_cons (z_set 2 nd (x_bin (mo_name (pv 3)) (mo_name (pv 2)))) (ms_nil)))) (ms_cons (ms_retV (pv 2)) (ms_nil))
theorem ok_row_back (W : Wd K mg) : KnG P w K mg base 1 "row_back" ["ahead", "here", "row"] (spOf (K, w) 3 g_row_back) := kng_mk W 17 17 rfl rfl rfl pl_row_back sc_row_back (bd_row_back W)
theorem sc_parted_by : FnScope ["one", "other", "cap", "ahead", "fresh", "at", "here", "mine", "yours", "sign", "later"] ["one", "other"] (defScope st_parted_by) := ⟨rfl, rfl, rfl, by decide +kernel, rfl, by decide +kernel, by decide +kernel⟩
theorem pl_parted_by : Plain d_parted_by ["one", "other"] := ⟨rfl, rfl, fun _ _ _ _ _ _ us hl => match us, hl with | [_, _], _ => rfl⟩
theorem bd_parted_by (W : Wd K mg) (f : Addr) (cdv : Value) (A : Around) (outer : List Env) (s : Shared) (H : Hp) (E : XK) (hr : Rm 1 (cxN P w K mg base ["one", "other", "cap", "ahead", "fresh", "at", "here", "mine", "yours", "sign", "later"] d_parted_by f cdv A outer s H E).A) : PSs (cxN P w K mg base ["one", "other", "cap", "ahead", "fresh", "at", "here", "mine", "yours", "sign", "later"] d_parted_by f cdv A outer s H E) d_parted_by.body (tS (K, w) W0 (ios [true, true]) m_parted_by) :=
  have nd : (["one", "other", "cap", "ahead", "fresh", "at", "here", "mine", "yours", "sign", "later"] : List Str).Nodup := sc_parted_by.nd
  ms_cons (z_set 2 nd (x_bf .max rfl (W.free 46) rfl rfl (ma_cons (mo_tm (x_ix (mo_name (pv 0)) (mo_tm (me_int)))) (ma_cons (mo_tm (x_ix (mo_name (pv 1)) (mo_tm (me_int)))) (ma_nil))))) (ms_cons (ms_if (y_cmp hr.toRoom (mo_name (pv 2)) (mo_tm (x_gint (W.int 35) rfl))) (ms_cons (ms_never) (ms_nil)) (ms_nil)) (ms_cons (z_set 3 nd (x_nd1 hr.toRoom (me_tup (ma_cons (mo_tm (x_ix (mo_name (pv 0)) (mo_tm (me_int)))) (ma_cons (mo_tm (x_ix (mo_name (pv 1)) (mo_tm (me_int)))) (ma_nil)))) (me_non))) (ms_cons (z_set 4 nd (me_lst (ma_cons (mo_tm (me_tup (ma_cons (mo_tm (x_ix (mo_name (pv 0)) (mo_tm (me_int)))) (ma_cons (mo_tm (x_ix (mo_name (pv 1)) (mo_tm (me_int)))) (ma_nil))))) (ma_nil)))) (ms_cons (z_set 5 nd (me_int)) (ms_cons (ms_while .never (y_cmp hr.toRoom (mo_name (pv 5)) (mo_tm (x_bf .len rfl (W.free 40) rfl rfl (ma_cons (mo_name (pv 4)) (ma_nil))))) (ms_cons (z_set 6 nd (x_ix (mo_name (pv 4)) (mo_name (pv 5)))) (ms_cons (z_set 5 nd (x_bin (mo_name (pv 5)) (mo_tm (me_int)))) (ms_cons (z_par2 7 8 rfl nd (ma_cons (mo_tm (g_call (ok_knocked W) hr (by decide) rfl (ma_cons (mo_name (pv 0)) (ma_cons (mo_tm (x_ix (mo_name (pv 6)) (mo_tm (me_int)))) (ma_nil))))) (ma_cons (mo_tm (g_call (ok_knocked W) hr (by decide) rfl (ma_cons (mo_name (pv 1)) (ma_cons (mo_tm (x_ix (mo_name (pv 6)) (mo_tm (me_int)))) (ma_nil))))) (ma_nil)))) (ms_cons (ms_if (y_cmp hr.toRoom (mo_tm (x_ix (mo_name (pv 7)) (mo_tm (me_int)))) (mo_tm (x_ix (mo_name (pv 8)) (mo_tm (me_int))))) (ms_cons (ms_ret (g_call (ok_row_back W) hr (by decide) rfl (ma_cons (mo_name (pv 3)) (ma_cons (mo_name (pv 6)) (ma_cons (mo_tm (me_str)) (ma_nil)))))) (ms_nil)) (ms_nil)) (ms_cons (z_for (ts := [9, 10]) .never rfl (mi_any (mo_tm (me_tup (ma_cons (mo_tm (me_tup (ma_cons (mo_tm (me_str)) (ma_cons (mo_tm (me_tup (ma_cons (mo_tm (g_call (ok_put_in W) hr (by decide) rfl (ma_cons (mo_name (pv 0)) (ma_cons (mo_tm (x_ix (mo_name (pv 6)) (mo_tm (me_int)))) (ma_nil))))) (ma_cons (mo_tm (g_call (ok_put_in W) hr (by decide) rfl (ma_cons (mo_name (pv 1)) (ma_cons (mo_tm (x_ix (mo_name (pv 6)) (mo_tm (me_int)))) (ma_nil))))) (ma_nil))))) (ma_nil))))) (ma_cons (mo_tm (me_tup (ma_cons (mo_tm (me_str)) (ma_cons (mo_tm (me_tup (ma_cons (mo_tm (x_ix (mo_name (pv 7)) (mo_tm (me_int)))) (ma_cons (mo_tm (x_ix (mo_name (pv 8)) (mo_tm (me_int)))) (ma_nil))))) (ma_nil))))) (ma_nil)))))) (Gd.imp (gd_tup rfl (gds_cons (gd_name) (gds_cons (gd_name) (gds_nil)))) (by intro j h; simpa using h)) (pg_tup rfl (pgs_cons (g_nm 9 nd) (pgs_cons (g_nm 10 nd) (pgs_nil)))) (ms_cons (ms_if (y_nnin hr.toRoom (pv 3) (mo_name (pv 10))) (ms_cons (z_nput hr.toRoom 3 (pv 3) (me_tup (ma_cons (mo_name (pv 6)) (ma_cons (mo_name (pv 9)) (ma_nil)))) (mo_name (pv 10))) (ms_cons (z_app 4 (pv 4) (me_name (pv 10))) (ms_nil))) (ms_nil)) (ms_nil))) (ms_nil))))))) (ms_cons (ms_ret (me_non)) (ms_nil)))))))
theorem ok_parted_by (W : Wd K mg) : KnG P w K mg base 2 "parted_by" ["one", "other"] (spOf (K, w) 2 g_parted_by) := kng_mk W 18 18 rfl rfl rfl pl_parted_by sc_parted_by (bd_parted_by W)
theorem sc_later : FnScope ["purse", "coins"] ["purse", "coins"] (defScope st_later) := ⟨rfl, rfl, rfl, by decide +kernel, rfl, by decide +kernel, by decide +kernel⟩
theorem pl_later : Plain d_later ["purse", "coins"] := ⟨rfl, rfl, fun _ _ _ _ _ _ us hl => match us, hl with | [_, _], _ => rfl⟩
theorem bd_later (W : Wd K mg) (f : Addr) (cdv : Value) (A : Around) (outer : List Env) (s : Shared) (H : Hp) (E : XK) (hr : Rm 1 (cxN P w K mg base ["purse", "coins"] d_later f cdv A outer s H E).A) : PSs (cxN P w K mg base ["purse", "coins"] d_later f cdv A outer s H E) d_later.body (tS (K, w) W0 (ios [true, true]) m_later) :=
  have nd : (["purse", "coins"] : List Str).Nodup := sc_later.nd
  ms_cons (ms_if (PW.pt (mt_or (mt_not (y_val (g_call (ok_is_whole W) hr (by decide) rfl (ma_cons (mo_name (pv 1)) (ma_nil))))) (mt_or1 (mt_not (y_chain (mo_tm (me_int)) (ch_cons hr.toRoom (mo_name (pv 1)) (ch_one hr.toRoom (mo_tm (x_ix (mo_name (pv 0)) (mo_tm (me_int))))))))))) (ms_cons (ms_never) (ms_nil)) (ms_nil)) (ms_cons (ms_ret (me_tup (ma_cons (mo_tm (x_ix (mo_name (pv 0)) (mo_tm (me_int)))) (ma_cons (mo_tm (x_ix (mo_name (pv 0)) (mo_tm (me_int)))) (ma_cons (mo_tm (x_ix (mo_name (pv 0)) (mo_tm (me_int)))) (ma_cons (mo_name (pv 1)) (ma_nil))))))) (ms_nil))
theorem ok_later (W : Wd K mg) : KnG P w K mg base 2 "later" ["purse", "coins"] (spOf (K, w) 2 g_later) := kng_mk W 19 19 rfl rfl rfl pl_later sc_later (bd_later W)
theorem sc_law_cell_at : FnScope ["_law_script", "_law_k"] ["_law_script", "_law_k"] (defScope st_law_cell_at) := ⟨rfl, rfl, rfl, by decide +kernel, rfl, by decide +kernel, by decide +kernel⟩
theorem pl_law_cell_at : Plain d_law_cell_at ["_law_script", "_law_k"] := ⟨rfl, rfl, fun _ _ _ _ _ _ us hl => match us, hl with | [_, _], _ => rfl⟩
theorem bd_law_cell_at (W : Wd K mg) (f : Addr) (cdv : Value) (A : Around) (outer : List Env) (s : Shared) (H : Hp) (E : XK) (hr : Rm 0 (cxN P w K mg base ["_law_script", "_law_k"] d_law_cell_at f cdv A outer s H E).A) : PSs (cxN P w K mg base ["_law_script", "_law_k"] d_law_cell_at f cdv A outer s H E) d_law_cell_at.body (tS (K, w) W0 (ios [true, true]) m_law_cell_at) :=
  have nd : (["_law_script", "_law_k"] : List Str).Nodup := sc_law_cell_at.nd
  ms_cons (ms_if (y_cmp hr.toRoom (mo_name (pv 1)) (mo_tm (x_bf .len rfl (W.free 40) rfl rfl (ma_cons (mo_name (pv 0)) (ma_nil))))) (ms_cons (ms_ret (x_ix (mo_name (pv 0)) (mo_name (pv 1)))) (ms_nil)) (ms_nil)) (ms_cons (ms_ret (me_int)) (ms_nil))
theorem ok_law_cell_at (W : Wd K mg) : KnG P w K mg base 1 "_law_cell_at" ["_law_script", "_law_k"] (spOf (K, w) 2 g_law_cell_at) := kng_mk W 20 20 rfl rfl rfl pl_law_cell_at sc_law_cell_at (bd_law_cell_at W)
theorem sc_law_next : FnScope ["_law_seed"] ["_law_seed"] (defScope st_law_next) := ⟨rfl, rfl, rfl, by decide +kernel, rfl, by decide +kernel, by decide +kernel⟩
theorem pl_law_next : Plain d_law_next ["_law_seed"] := ⟨rfl, rfl, fun _ _ _ _ _ _ us hl => match us, hl with | [_], _ => rfl⟩
theorem bd_law_next (W : Wd K mg) (f : Addr) (cdv : Value) (A : Around) (outer : List Env) (s : Shared) (H : Hp) (E : XK) (hr : Rm 0 (cxN P w K mg base ["_law_seed"] d_law_next f cdv A outer s H E).A) : PSs (cxN P w K mg base ["_law_seed"] d_law_next f cdv A outer s H E) d_law_next.body (tS (K, w) W0 (ios [false]) m_law_next) :=
  have nd : (["_law_seed"] : List Str).Nodup := sc_law_next.nd
  ms_cons (z_set 0 nd (x_bin (mo_tm (x_bin (mo_name (pv 0)) (mo_tm (me_int)))) (mo_tm (me_int)))) (ms_cons (ms_ret (x_bin (mo_tm (x_bin (mo_tm (x_bin (mo_tm (x_bin (mo_name (pv 0)) (mo_name (pv 0)))) (mo_tm (x_bin (mo_tm (me_int)) (mo_name (pv 0)))))) (mo_tm (me_int)))) (mo_tm (me_int)))) (ms_nil))
theorem ok_law_next (W : Wd K mg) : KnG P w K mg base 1 "_law_next" ["_law_seed"] (spOf (K, w) 1 g_law_next) := kng_mk W 21 21 rfl rfl rfl pl_law_next sc_law_next (bd_law_next W)
theorem sc_law_pen_of : FnScope ["_law_cell", "_law_left"] ["_law_cell"] (defScope st_law_pen_of) := ⟨rfl, rfl, rfl, by decide +kernel, rfl, by decide +kernel, by decide +kernel⟩
theorem pl_law_pen_of : Plain d_law_pen_of ["_law_cell"] := ⟨rfl, rfl, fun _ _ _ _ _ _ us hl => match us, hl with | [_], _ => rfl⟩
theorem bd_law_pen_of (W : Wd K mg) (f : Addr) (cdv : Value) (A : Around) (outer : List Env) (s : Shared) (H : Hp) (E : XK) (hr : Rm 0 (cxN P w K mg base ["_law_cell", "_law_left"] d_law_pen_of f cdv A outer s H E).A) : PSs (cxN P w K mg base ["_law_cell", "_law_left"] d_law_pen_of f cdv A outer s H E) d_law_pen_of.body (tS (K, w) W0 (ios [true]) m_law_pen_of) :=
  have nd : (["_law_cell", "_law_left"] : List Str).Nodup := sc_law_pen_of.nd
  ms_cons (z_set 1 nd (x_bf .max rfl (W.free 46) rfl rfl (ma_cons (mo_name (pv 0)) (ma_cons (mo_tm (x_bin (mo_tm (me_int)) (mo_name (pv 0)))) (ma_nil))))) (ms_cons (ms_ret (me_lst (ma_cons (mo_name (pv 1)) (ma_cons (mo_tm (x_bf .int rfl (W.free 37) rfl rfl (ma_cons (mo_tm (x_cmp hr.toRoom (mo_name (pv 1)) (mo_tm (x_bin (mo_tm (me_int)) (mo_tm (me_int)))))) (ma_nil)))) (ma_cons (mo_tm (x_bin (mo_name (pv 1)) (mo_tm (me_int)))) (ma_nil)))))) (ms_nil))
theorem ok_law_pen_of (W : Wd K mg) : KnG P w K mg base 1 "_law_pen_of" ["_law_cell"] (spOf (K, w) 1 g_law_pen_of) := kng_mk W 22 22 rfl rfl rfl pl_law_pen_of sc_law_pen_of (bd_law_pen_of W)
theorem sc_law_draw : FnScope ["_law_pen", "_law_many", "_law_found"] ["_law_pen", "_law_many"] (defScope st_law_draw) := ⟨rfl, rfl, rfl, by decide +kernel, rfl, by decide +kernel, by decide +kernel⟩
theorem pl_law_draw : Plain d_law_draw ["_law_pen", "_law_many"] := ⟨rfl, rfl, fun _ _ _ _ _ _ us hl => match us, hl with | [_, _], _ => rfl⟩
theorem bd_law_draw (W : Wd K mg) (f : Addr) (cdv : Value) (A : Around) (outer : List Env) (s : Shared) (H : Hp) (E : XK) (hr : Rm 1 (cxN P w K mg base ["_law_pen", "_law_many", "_law_found"] d_law_draw f cdv A outer s H E).A) : PSs (cxN P w K mg base ["_law_pen", "_law_many", "_law_found"] d_law_draw f cdv A outer s H E) d_law_draw.body (tS (K, w) W0 (ios [true, true]) m_law_draw) :=
  have nd : (["_law_pen", "_law_many", "_law_found"] : List Str).Nodup := sc_law_draw.nd
  ms_cons (ms_if (PW.pt (mt_and (y_cmp hr.toRoom (mo_tm (x_ix (mo_name (pv 0)) (mo_tm (me_int)))) (mo_tm (me_int))) (mt_and1 (y_cmp hr.toRoom (mo_tm (x_ix (mo_name (pv 0)) (mo_tm (me_int)))) (mo_tm (me_int)))))) (ms_cons (z_set 2 nd (x_bin (mo_tm (x_ix (mo_name (pv 0)) (mo_tm (me_int)))) (mo_name (pv 1)))) (ms_cons (z_ix 0 (pv 0) (mo_tm (me_int)) (x_bin (mo_tm (x_ix (mo_name (pv 0)) (mo_tm (me_int)))) (mo_name (pv 1)))) (ms_cons (ms_retV (pv 2)) (ms_nil)))) (ms_nil)) (ms_cons (z_ix 0 (pv 0) (mo_tm (me_int)) (g_call (ok_law_next W) hr (by decide) rfl (ma_cons (mo_tm (x_bin (mo_tm (g_call (ok_law_next W) hr (by decide) rfl (ma_cons (mo_tm (x_ix (mo_name (pv 0)) (mo_tm (me_int)))) (ma_nil)))) (mo_tm (me_int)))) (ma_nil)))) (ms_cons (ms_ret (x_bin (mo_tm (x_bin (mo_tm (x_ix (mo_name (pv 0)) (mo_tm (me_int)))) (mo_tm (me_int)))) (mo_name (pv 1)))) (ms_nil)))
theorem ok_law_draw (W : Wd K mg) : KnG P w K mg base 2 "_law_draw" ["_law_pen", "_law_many"] (spOf (K, w) 2 g_law_draw) := kng_mk W 23 23 rfl rfl rfl pl_law_draw sc_law_draw (bd_law_draw W)
theorem sc_law_purse : FnScope ["_law_pen", "_law_way", "_law_part", "_law_price", "_law_cap", "_law_purse_here"] ["_law_pen"] (defScope st_law_purse) := ⟨rfl, rfl, rfl, by decide +kernel, rfl, by decide +kernel, by decide +kernel⟩
theorem pl_law_purse : Plain d_law_purse ["_law_pen"] := ⟨rfl, rfl, fun _ _ _ _ _ _ us hl => match us, hl with | [_], _ => rfl⟩
theorem bd_law_purse (W : Wd K mg) (f : Addr) (cdv : Value) (A : Around) (outer : List Env) (s : Shared) (H : Hp) (E : XK) (hr : Rm 2 (cxN P w K mg base ["_law_pen", "_law_way", "_law_part", "_law_price", "_law_cap", "_law_purse_here"] d_law_purse f cdv A outer s H E).A) : PSs (cxN P w K mg base ["_law_pen", "_law_way", "_law_part", "_law_price", "_law_cap", "_law_purse_here"] d_law_purse f cdv A outer s H E) d_law_purse.body (tS (K, w) W0 (ios [true]) m_law_purse) :=
  have nd : (["_law_pen", "_law_way", "_law_part", "_law_price", "_law_cap", "_law_purse_here"] : List Str).Nodup := sc_law_purse.nd
  ms_cons (z_set 1 nd (g_call (ok_law_draw W) hr (by decide) rfl (ma_cons (mo_name (pv 0)) (ma_cons (mo_tm (me_int)) (ma_nil))))) (ms_cons (z_asg (Gd.imp (gd_tup rfl (gds_cons (gd_name) (gds_cons (gd_name) (gds_cons (gd_name) (gds_nil))))) (by intro j h; simpa using h)) (pg_tup rfl (pgs_cons (g_nm 2 nd) (pgs_cons (g_nm 3 nd) (pgs_cons (g_nm 4 nd) (pgs_nil))))) (x_ix (mo_tm (me_lst (ma_cons (mo_tm (me_tup (ma_cons (mo_tm (me_int)) (ma_cons (mo_tm (me_int)) (ma_cons (mo_tm (me_int)) (ma_nil)))))) (ma_cons (mo_tm (me_tup (ma_cons (mo_tm (me_int)) (ma_cons (mo_tm (me_int)) (ma_cons (mo_tm (me_int)) (ma_nil)))))) (ma_cons (mo_tm (me_tup (ma_cons (mo_tm (me_int)) (ma_cons (mo_tm (me_int)) (ma_cons (mo_tm (me_int)) (ma_nil)))))) (ma_cons (mo_tm (me_tup (ma_cons (mo_tm (me_int)) (ma_cons (mo_tm (me_int)) (ma_cons (mo_tm (me_int)) (ma_nil)))))) (ma_nil))))))) (mo_name (pv 1)))) (ms_cons (z_set 5 nd (me_tup (ma_cons (mo_tm (g_call (ok_law_draw W) hr (by decide) rfl (ma_cons (mo_name (pv 0)) (ma_cons (mo_name (pv 2)) (ma_nil))))) (ma_cons (mo_tm (x_bin (mo_tm (me_int)) (mo_tm (g_call (ok_law_draw W) hr (by decide) rfl (ma_cons (mo_name (pv 0)) (ma_cons (mo_name (pv 3)) (ma_nil))))))) (ma_cons (mo_tm (g_call (ok_law_draw W) hr (by decide) rfl (ma_cons (mo_name (pv 0)) (ma_cons (mo_name (pv 4)) (ma_nil))))) (ma_nil)))))) (ms_cons (ms_ret (x_bin (mo_name (pv 5)) (mo_tm (me_tup (ma_cons (mo_tm (x_ix (mo_tm (me_lst (ma_cons (mo_tm (me_int)) (ma_cons (mo_tm (x_ix (mo_name (pv 5)) (mo_tm (me_int)))) (ma_cons (mo_tm (g_call (ok_law_draw W) hr (by decide) rfl (ma_cons (mo_name (pv 0)) (ma_cons (mo_tm (x_bin (mo_tm (x_ix (mo_name (pv 5)) (mo_tm (me_int)))) (mo_tm (me_int)))) (ma_nil))))) (ma_nil)))))) (mo_tm (g_call (ok_law_draw W) hr (by decide) rfl (ma_cons (mo_name (pv 0)) (ma_cons (mo_tm (me_int)) (ma_nil))))))) (ma_nil)))))) (ms_nil))))
theorem ok_law_purse (W : Wd K mg) : KnG P w K mg base 3 "_law_purse" ["_law_pen"] (spOf (K, w) 1 g_law_purse) := kng_mk W 24 24 rfl rfl rfl pl_law_purse sc_law_purse (bd_law_purse W)
theorem sc_law_small : FnScope ["_law_pen", "_law_most", "_law_cap", "_law_purse_here"] ["_law_pen", "_law_most"] (defScope st_law_small) := ⟨rfl, rfl, rfl, by decide +kernel, rfl, by decide +kernel, by decide +kernel⟩
theorem pl_law_small : Plain d_law_small ["_law_pen", "_law_most"] := ⟨rfl, rfl, fun _ _ _ _ _ _ us hl => match us, hl with | [_, _], _ => rfl⟩
theorem bd_law_small (W : Wd K mg) (f : Addr) (cdv : Value) (A : Around) (outer : List Env) (s : Shared) (H : Hp) (E : XK) (hr : Rm 2 (cxN P w K mg base ["_law_pen", "_law_most", "_law_cap", "_law_purse_here"] d_law_small f cdv A outer s H E).A) : PSs (cxN P w K mg base ["_law_pen", "_law_most", "_law_cap", "_law_purse_here"] d_law_small f cdv A outer s H E) d_law_small.body (tS (K, w) W0 (ios [true, true]) m_law_small) :=
  have nd : (["_law_pen", "_law_most", "_law_cap", "_law_purse_here"] : List Str).Nodup := sc_law_small.nd
  ms_cons (z_set 2 nd (g_call (ok_law_draw W) hr (by decide) rfl (ma_cons (mo_name (pv 0)) (ma_cons (mo_tm (x_bin (mo_name (pv 1)) (mo_tm (me_int)))) (ma_nil))))) (ms_cons (z_set 3 nd (me_tup (ma_cons (mo_tm (g_call (ok_law_draw W) hr (by decide) rfl (ma_cons (mo_name (pv 0)) (ma_cons (mo_tm (me_int)) (ma_nil))))) (ma_cons (mo_tm (x_bin (mo_tm (me_int)) (mo_tm (g_call (ok_law_draw W) hr (by decide) rfl (ma_cons (mo_name (pv 0)) (ma_cons (mo_tm (me_int)) (ma_nil))))))) (ma_cons (mo_name (pv 2)) (ma_nil)))))) (ms_cons (ms_ret (x_bin (mo_name (pv 3)) (mo_tm (me_tup (ma_cons (mo_tm (x_ix (mo_tm (me_lst (ma_cons (mo_tm (me_int)) (ma_cons (mo_name (pv 2)) (ma_cons (mo_tm (g_call (ok_law_draw W) hr (by decide) rfl (ma_cons (mo_name (pv 0)) (ma_cons (mo_tm (x_bin (mo_name (pv 2)) (mo_tm (me_int)))) (ma_nil))))) (ma_nil)))))) (mo_tm (g_call (ok_law_draw W) hr (by decide) rfl (ma_cons (mo_name (pv 0)) (ma_cons (mo_tm (me_int)) (ma_nil))))))) (ma_nil)))))) (ms_nil)))
theorem ok_law_small (W : Wd K mg) : KnG P w K mg base 3 "_law_small" ["_law_pen", "_law_most"] (spOf (K, w) 2 g_law_small) := kng_mk W 25 25 rfl rfl rfl pl_law_small sc_law_small (bd_law_small W)
theorem sc_law_row_right : FnScope ["_law_purse_here", "_law_row", "_law_at", "_law_ahead", "_law_rest", "_law_behind"] ["_law_purse_here", "_law_row", "_law_at"] (defScope st_law_row_right) := ⟨rfl, rfl, rfl, by decide +kernel, rfl, by decide +kernel, by decide +kernel⟩
theorem pl_law_row_right : Plain d_law_row_right ["_law_purse_here", "_law_row", "_law_at"] := ⟨rfl, rfl, fun _ _ _ _ _ _ us hl => match us, hl with | [_, _, _], _ => rfl⟩
theorem bd_law_row_right (W : Wd K mg) (f : Addr) (cdv : Value) (A : Around) (outer : List Env) (s : Shared) (H : Hp) (E : XK) (hr : Rm 3 (cxN P w K mg base ["_law_purse_here", "_law_row", "_law_at", "_law_ahead", "_law_rest", "_law_behind"] d_law_row_right f cdv A outer s H E).A) : PSs (cxN P w K mg base ["_law_purse_here", "_law_row", "_law_at", "_law_ahead", "_law_rest", "_law_behind"] d_law_row_right f cdv A outer s H E) d_law_row_right.body (tS (K, w) W0 (ios [true, true, true]) m_law_row_right) :=
  have nd : (["_law_purse_here", "_law_row", "_law_at", "_law_ahead", "_law_rest", "_law_behind"] : List Str).Nodup := sc_law_row_right.nd
  ms_cons (z_par2 3 4 rfl nd (ma_cons (mo_tm (me_slice (mo_name (pv 1)) (mp_none) (mp_some (mo_name (pv 2))))) (ma_cons (mo_tm (me_slice (mo_name (pv 1)) (mp_some (mo_name (pv 2))) (mp_none))) (ma_nil)))) (ms_cons (z_set 5 nd (g_call (ok_later W) hr (by decide) rfl (ma_cons (mo_name (pv 0)) (ma_cons (mo_tm (g_call (ok_coins_behind W) hr (by decide) rfl (ma_cons (mo_name (pv 0)) (ma_cons (mo_name (pv 3)) (ma_nil))))) (ma_nil))))) (ms_cons (ms_if (y_cmp hr.toRoom (mo_tm (g_call (ok_paid_in W) hr (by decide) rfl (ma_cons (mo_name (pv 0)) (ma_cons (mo_name (pv 1)) (ma_nil))))) (mo_tm (x_bin (mo_tm (g_call (ok_paid_in W) hr (by decide) rfl (ma_cons (mo_name (pv 0)) (ma_cons (mo_name (pv 3)) (ma_nil))))) (mo_tm (g_call (ok_paid_in W) hr (by decide) rfl (ma_cons (mo_name (pv 5)) (ma_cons (mo_name (pv 4)) (ma_nil)))))))) (ms_cons (ms_ret (me_bl)) (ms_nil)) (ms_nil)) (ms_cons (ms_if (PW.pt (mt_or (y_cmp hr.toRoom (mo_tm (g_call (ok_coins_behind W) hr (by decide) rfl (ma_cons (mo_name (pv 0)) (ma_cons (mo_name (pv 1)) (ma_nil))))) (mo_tm (g_call (ok_coins_behind W) hr (by decide) rfl (ma_cons (mo_name (pv 5)) (ma_cons (mo_name (pv 4)) (ma_nil)))))) (mt_or1 (y_cmp hr.toRoom (mo_tm (g_call (ok_purse_good W) hr (by decide) rfl (ma_cons (mo_name (pv 5)) (ma_nil)))) (mo_tm (me_bl)))))) (ms_cons (ms_ret (me_bl)) (ms_nil)) (ms_nil)) (ms_cons (ms_if (y_cmp hr.toRoom (mo_tm (x_bin (mo_tm (g_call (ok_paid_in W) hr (by decide) rfl (ma_cons (mo_name (pv 0)) (ma_cons (mo_name (pv 1)) (ma_nil))))) (mo_tm (x_bf .len rfl (W.free 40) rfl rfl (ma_cons (mo_tm (g_call (ok_unpaid_at W) hr (by decide) rfl (ma_cons (mo_name (pv 0)) (ma_cons (mo_name (pv 1)) (ma_nil))))) (ma_nil)))))) (mo_tm (x_scount (mo_name (pv 1)) (ma_cons (mo_tm (me_str)) (ma_nil))))) (ms_cons (ms_ret (me_bl)) (ms_nil)) (ms_nil)) (ms_cons (ms_if (y_cmp hr.toRoom (mo_tm (g_call (ok_paid_in W) hr (by decide) rfl (ma_cons (mo_name (pv 0)) (ma_cons (mo_tm (x_bin (mo_tm (x_bin (mo_name (pv 3)) (mo_tm (me_str)))) (mo_name (pv 4)))) (ma_nil))))) (mo_tm (g_call (ok_paid_in W) hr (by decide) rfl (ma_cons (mo_name (pv 0)) (ma_cons (mo_name (pv 1)) (ma_nil)))))) (ms_cons (ms_ret (me_bl)) (ms_nil)) (ms_nil)) (ms_cons (ms_if (y_cmp hr.toRoom (mo_tm (g_call (ok_paid_in W) hr (by decide) rfl (ma_cons (mo_name (pv 0)) (ma_cons (mo_name (pv 1)) (ma_nil))))) (mo_tm (g_call (ok_most_paid W) hr (by decide) rfl (ma_cons (mo_name (pv 0)) (ma_cons (mo_tm (x_scount (mo_name (pv 1)) (ma_cons (mo_tm (me_str)) (ma_nil)))) (ma_nil)))))) (ms_cons (ms_ret (me_bl)) (ms_nil)) (ms_nil)) (ms_cons (ms_ret (x_cmp hr.toRoom (mo_tm (g_call (ok_paid_in W) hr (by decide) rfl (ma_cons (mo_name (pv 5)) (ma_cons (mo_name (pv 4)) (ma_nil))))) (mo_tm (g_call (ok_most_between W) hr (by decide) rfl (ma_cons (mo_name (pv 0)) (ma_cons (mo_tm (x_scount (mo_name (pv 4)) (ma_cons (mo_tm (me_str)) (ma_nil)))) (ma_nil))))))) (ms_nil))))))))
theorem ok_law_row_right (W : Wd K mg) : KnG P w K mg base 4 "_law_row_right" ["_law_purse_here", "_law_row", "_law_at"] (spOf (K, w) 3 g_law_row_right) := kng_mk W 26 26 rfl rfl rfl pl_law_row_right sc_law_row_right (bd_law_row_right W)
theorem sc_law_most_right : FnScope ["_law_purse_here", "_law_many", "_law_most", "_law_row", "_law_short", "_law_due", "_law_sign"] ["_law_purse_here", "_law_many"] (defScope st_law_most_right) := ⟨rfl, rfl, rfl, by decide +kernel, rfl, by decide +kernel, by decide +kernel⟩
theorem pl_law_most_right : Plain d_law_most_right ["_law_purse_here", "_law_many"] := ⟨rfl, rfl, fun _ _ _ _ _ _ us hl => match us, hl with | [_, _], _ => rfl⟩
theorem bd_law_most_right (W : Wd K mg) (f : Addr) (cdv : Value) (A : Around) (outer : List Env) (s : Shared) (H : Hp) (E : XK) (hr : Rm 4 (cxN P w K mg base ["_law_purse_here", "_law_many", "_law_most", "_law_row", "_law_short", "_law_due", "_law_sign"] d_law_most_right f cdv A outer s H E).A) : PSs (cxN P w K mg base ["_law_purse_here", "_law_many", "_law_most", "_law_row", "_law_short", "_law_due", "_law_sign"] d_law_most_right f cdv A outer s H E) d_law_most_right.body (tS (K, w) W0 (ios [true, true]) m_law_most_right) :=
  have nd : (["_law_purse_here", "_law_many", "_law_most", "_law_row", "_law_short", "_law_due", "_law_sign"] : List Str).Nodup := sc_law_most_right.nd
  ms_cons (z_set 2 nd (me_lst (ma_cons (mo_tm (g_call (ok_most_paid W) hr (by decide) rfl (ma_cons (mo_name (pv 0)) (ma_cons (mo_name (pv 1)) (ma_nil))))) (ma_cons (mo_tm (g_call (ok_most_paid W) hr (by decide) rfl (ma_cons (mo_name (pv 0)) (ma_cons (mo_tm (x_bin (mo_name (pv 1)) (mo_tm (me_int)))) (ma_nil))))) (ma_nil))))) (ms_cons (ms_if (mt_not (y_chain (mo_tm (me_int)) (ch_cons hr.toRoom (mo_tm (x_bin (mo_tm (x_ix (mo_name (pv 2)) (mo_tm (me_int)))) (mo_tm (x_ix (mo_name (pv 2)) (mo_tm (me_int)))))) (ch_one hr.toRoom (mo_tm (x_bin (mo_tm (x_bin (mo_tm (x_bin (mo_tm (x_ix (mo_name (pv 0)) (mo_tm (me_int)))) (mo_tm (x_ix (mo_name (pv 0)) (mo_tm (me_int)))))) (mo_tm (me_int)))) (mo_tm (x_ix (mo_name (pv 0)) (mo_tm (me_int)))))))))) (ms_cons (ms_ret (me_bl)) (ms_nil)) (ms_nil)) (ms_cons (ms_if (y_cmp hr.toRoom (mo_tm (x_bin (mo_name (pv 1)) (mo_tm (x_ix (mo_name (pv 2)) (mo_tm (me_int)))))) (mo_tm (me_int))) (ms_cons (ms_ret (me_bl)) (ms_nil)) (ms_nil)) (ms_cons (z_set 3 nd (g_call (ok_best_row W) hr (by decide) rfl (ma_cons (mo_name (pv 0)) (ma_cons (mo_name (pv 1)) (ma_nil))))) (ms_cons (ms_if (PW.pt (mt_or (y_cmp hr.toRoom (mo_tm (g_call (ok_unpaid_at W) hr (by decide) rfl (ma_cons (mo_name (pv 0)) (ma_cons (mo_name (pv 3)) (ma_nil))))) (mo_tm (me_lst (ma_nil)))) (mt_or (y_cmp hr.toRoom (mo_tm (g_call (ok_paid_in W) hr (by decide) rfl (ma_cons (mo_name (pv 0)) (ma_cons (mo_name (pv 3)) (ma_nil))))) (mo_tm (x_ix (mo_name (pv 2)) (mo_tm (me_int))))) (mt_or1 (y_cmp hr.toRoom (mo_tm (x_scount (mo_name (pv 3)) (ma_cons (mo_tm (me_str)) (ma_nil)))) (mo_name (pv 1))))))) (ms_cons (ms_ret (me_bl)) (ms_nil)) (ms_nil)) (ms_cons (z_set 4 nd (me_slice (mo_name (pv 3)) (mp_none) (mp_some (mo_tm (me_int))))) (ms_cons (z_set 5 nd (me_tup (ma_cons (mo_tm (g_call (ok_coins_behind W) hr (by decide) rfl (ma_cons (mo_name (pv 0)) (ma_cons (mo_name (pv 4)) (ma_nil))))) (ma_cons (mo_tm (g_call (ok_paid_in W) hr (by decide) rfl (ma_cons (mo_name (pv 0)) (ma_cons (mo_name (pv 4)) (ma_nil))))) (ma_nil))))) (ms_cons (ms_ret (x_cmp hr.toRoom (mo_tm (g_call (ok_far_behind W) hr (by decide) rfl (ma_cons (mo_name (pv 0)) (ma_cons (mo_tm (x_bf .tuple rfl (W.free 39) rfl rfl (ma_cons (mo_tm (x_lc [("_law_sign", 6)] rfl nd (blkOk_by (by first | rfl | kernel_rfl)) (mi_any (mo_tm (me_name (pv 4)))) (Gd.imp (gd_name) (by intro j h; simpa using h)) (fun _ _ _ _ _ => g_nm 6 nd) (fun _ _ _ _ _ => pts_no) (fun _ _ _ _ _ => me_tup (ma_cons (mo_name (pv 6)) (ma_cons (mo_tm (me_int)) (ma_nil)))))) (ma_nil)))) (ma_nil))))) (mo_name (pv 5)))) (ms_nil))))))))
theorem ok_law_most_right (W : Wd K mg) : KnG P w K mg base 5 "_law_most_right" ["_law_purse_here", "_law_many"] (spOf (K, w) 2 g_law_most_right) := kng_mk W 27 27 rfl rfl rfl pl_law_most_right sc_law_most_right (bd_law_most_right W)
theorem sc_law_two_right : FnScope ["_law_one", "_law_other", "_law_row", "_law_found"] ["_law_one", "_law_other", "_law_row"] (defScope st_law_two_right) := ⟨rfl, rfl, rfl, by decide +kernel, rfl, by decide +kernel, by decide +kernel⟩
theorem pl_law_two_right : Plain d_law_two_right ["_law_one", "_law_other", "_law_row"] := ⟨rfl, rfl, fun _ _ _ _ _ _ us hl => match us, hl with | [_, _, _], _ => rfl⟩
theorem bd_law_two_right (W : Wd K mg) (f : Addr) (cdv : Value) (A : Around) (outer : List Env) (s : Shared) (H : Hp) (E : XK) (hr : Rm 3 (cxN P w K mg base ["_law_one", "_law_other", "_law_row", "_law_found"] d_law_two_right f cdv A outer s H E).A) : PSs (cxN P w K mg base ["_law_one", "_law_other", "_law_row", "_law_found"] d_law_two_right f cdv A outer s H E) d_law_two_right.body (tS (K, w) W0 (ios [true, true, true]) m_law_two_right) :=
  have nd : (["_law_one", "_law_other", "_law_row", "_law_found"] : List Str).Nodup := sc_law_two_right.nd
  ms_cons (z_set 3 nd (g_call (ok_parted_by W) hr (by decide) rfl (ma_cons (mo_name (pv 0)) (ma_cons (mo_name (pv 1)) (ma_nil))))) (ms_cons (ms_if (y_cmp hr.toRoom (mo_name (pv 3)) (mo_tm (me_non))) (ms_cons (ms_ret (x_cmp hr.toRoom (mo_tm (g_call (ok_unpaid_at W) hr (by decide) rfl (ma_cons (mo_name (pv 0)) (ma_cons (mo_name (pv 2)) (ma_nil))))) (mo_tm (g_call (ok_unpaid_at W) hr (by decide) rfl (ma_cons (mo_name (pv 1)) (ma_cons (mo_name (pv 2)) (ma_nil))))))) (ms_nil)) (ms_nil)) (ms_cons (ms_if (PW.pt (mt_or (y_cmp hr.toRoom (mo_tm (g_call (ok_parts W) hr (by decide) rfl (ma_cons (mo_name (pv 0)) (ma_cons (mo_name (pv 1)) (ma_cons (mo_name (pv 3)) (ma_nil)))))) (mo_tm (me_bl))) (mt_or1 (y_cmp hr.toRoom (mo_tm (g_call (ok_parts W) hr (by decide) rfl (ma_cons (mo_name (pv 1)) (ma_cons (mo_name (pv 0)) (ma_cons (mo_name (pv 3)) (ma_nil)))))) (mo_tm (me_bl)))))) (ms_cons (ms_ret (me_bl)) (ms_nil)) (ms_nil)) (ms_cons (ms_if (y_cmp hr.toRoom (mo_tm (x_bf .len rfl (W.free 40) rfl rfl (ma_cons (mo_name (pv 3)) (ma_nil)))) (mo_tm (me_int))) (ms_cons (ms_ret (me_bl)) (ms_nil)) (ms_nil)) (ms_cons (ms_if (y_cmp hr.toRoom (mo_tm (g_call (ok_unpaid_at W) hr (by decide) rfl (ma_cons (mo_name (pv 0)) (ma_cons (mo_tm (me_slice (mo_name (pv 3)) (mp_none) (mp_some (mo_tm (x_neg (mo_tm (me_int))))))) (ma_nil))))) (mo_tm (g_call (ok_unpaid_at W) hr (by decide) rfl (ma_cons (mo_name (pv 1)) (ma_cons (mo_tm (me_slice (mo_name (pv 3)) (mp_none) (mp_some (mo_tm (x_neg (mo_tm (me_int))))))) (ma_nil)))))) (ms_cons (ms_ret (me_bl)) (ms_nil)) (ms_nil)) (ms_cons (ms_ret (x_cmp hr.toRoom (mo_tm (x_bf .abs rfl (W.free 47) rfl rfl (ma_cons (mo_tm (x_bin (mo_tm (g_call (ok_paid_in W) hr (by decide) rfl (ma_cons (mo_name (pv 0)) (ma_cons (mo_name (pv 3)) (ma_nil))))) (mo_tm (g_call (ok_paid_in W) hr (by decide) rfl (ma_cons (mo_name (pv 1)) (ma_cons (mo_name (pv 3)) (ma_nil))))))) (ma_nil)))) (mo_tm (me_int)))) (ms_nil))))))
theorem ok_law_two_right (W : Wd K mg) : KnG P w K mg base 4 "_law_two_right" ["_law_one", "_law_other", "_law_row"] (spOf (K, w) 3 g_law_two_right) := kng_mk W 28 28 rfl rfl rfl pl_law_two_right sc_law_two_right (bd_law_two_right W)
theorem sc_law : FnScope ["_law_script", "_law_cell", "_law_pen", "_law_purse_here", "_law_few", "_law_other", "_law_row", "_law_turn", "_law_at", "_law_many", "_law_one"] ["_law_script"] (defScope st_law) := ⟨rfl, rfl, rfl, by decide +kernel, rfl, by decide +kernel, by decide +kernel⟩
theorem pl_law : Plain d_law ["_law_script"] := ⟨rfl, rfl, fun _ _ _ _ _ _ us hl => match us, hl with | [_], _ => rfl⟩
theorem bd_law (W : Wd K mg) (f : Addr) (cdv : Value) (A : Around) (outer : List Env) (s : Shared) (H : Hp) (E : XK) (hr : Rm 5 (cxN P w K mg base ["_law_script", "_law_cell", "_law_pen", "_law_purse_here", "_law_few", "_law_other", "_law_row", "_law_turn", "_law_at", "_law_many", "_law_one"] d_law f cdv A outer s H E).A) : PSs (cxN P w K mg base ["_law_script", "_law_cell", "_law_pen", "_law_purse_here", "_law_few", "_law_other", "_law_row", "_law_turn", "_law_at", "_law_many", "_law_one"] d_law f cdv A outer s H E) d_law.body (tS (K, w) W0 (ios [false]) m_law) :=
  have nd : (["_law_script", "_law_cell", "_law_pen", "_law_purse_here", "_law_few", "_law_other", "_law_row", "_law_turn", "_law_at", "_law_many", "_law_one"] : List Str).Nodup := sc_law.nd
  ms_cons (z_for (ts := [1]) .never rfl (mi_any (mo_tm (x_bin (mo_tm (me_lst (ma_cons (mo_tm (g_call (ok_law_cell_at W) hr (by decide) rfl (ma_cons (mo_name (pv 0)) (ma_cons (mo_tm (me_int)) (ma_nil))))) (ma_nil)))) (mo_tm (me_slice (mo_name (pv 0)) (mp_some (mo_tm (me_int))) (mp_some (mo_tm (me_int)))))))) (Gd.imp (gd_name) (by intro j h; simpa using h)) (g_nm 1 nd) (ms_cons (z_set 2 nd (g_call (ok_law_pen_of W) hr (by decide) rfl (ma_cons (mo_name (pv 1)) (ma_nil)))) (ms_cons (z_par3 3 4 5 rfl nd (ma_cons (mo_tm (g_call (ok_law_purse W) hr (by decide) rfl (ma_cons (mo_name (pv 2)) (ma_nil)))) (ma_cons (mo_tm (g_call (ok_law_small W) hr (by decide) rfl (ma_cons (mo_name (pv 2)) (ma_cons (mo_tm (me_int)) (ma_nil))))) (ma_cons (mo_tm (g_call (ok_law_small W) hr (by decide) rfl (ma_cons (mo_name (pv 2)) (ma_cons (mo_tm (me_int)) (ma_nil))))) (ma_nil))))) (ms_cons (z_set 6 nd (x_join (mo_tm (me_str)) (ma_cons (mo_tm (x_lc [("_law_turn", 7)] rfl nd (blkOk_by (by first | rfl | kernel_rfl)) (z_rng1 (W.free 45) rfl (ma_cons (mo_tm (g_call (ok_law_draw W) hr (by decide) rfl (ma_cons (mo_name (pv 2)) (ma_cons (mo_tm (me_int)) (ma_nil))))) (ma_nil))) (Gd.imp (gd_name) (by intro j h; simpa using h)) (fun _ _ _ _ _ => g_nm 7 nd) (fun _ _ _ _ _ => pts_no) (fun _ _ _ _ _ => x_ix (mo_tm (me_str)) (mo_tm (g_call (ok_law_draw W) hr (by decide) rfl (ma_cons (mo_name (pv 2)) (ma_cons (mo_tm (me_int)) (ma_nil)))))))) (ma_nil)))) (ms_cons (z_par2 8 9 rfl nd (ma_cons (mo_tm (g_call (ok_law_draw W) hr (by decide) rfl (ma_cons (mo_name (pv 2)) (ma_cons (mo_tm (x_bin (mo_tm (x_bf .len rfl (W.free 40) rfl rfl (ma_cons (mo_name (pv 6)) (ma_nil)))) (mo_tm (me_int)))) (ma_nil))))) (ma_cons (mo_tm (g_call (ok_law_draw W) hr (by decide) rfl (ma_cons (mo_name (pv 2)) (ma_cons (mo_tm (me_int)) (ma_nil))))) (ma_nil)))) (ms_cons (z_for (ts := [10]) .never rfl (mi_any (mo_tm (me_tup (ma_cons (mo_name (pv 3)) (ma_cons (mo_name (pv 4)) (ma_cons (mo_name (pv 5)) (ma_nil))))))) (Gd.imp (gd_name) (by intro j h; simpa using h)) (g_nm 10 nd) (ms_cons (ms_if (PW.pt (mt_or (mt_not (y_val (g_call (ok_law_row_right W) hr (by decide) rfl (ma_cons (mo_name (pv 10)) (ma_cons (mo_name (pv 6)) (ma_cons (mo_name (pv 8)) (ma_nil))))))) (mt_or1 (mt_not (y_val (g_call (ok_law_most_right W) hr (by decide) rfl (ma_cons (mo_name (pv 10)) (ma_cons (mo_name (pv 9)) (ma_nil))))))))) (ms_cons (ms_ret (me_bl)) (ms_nil)) (ms_nil)) (ms_nil))) (ms_cons (ms_if (PW.pt (mt_or (mt_not (y_val (g_call (ok_law_two_right W) hr (by decide) rfl (ma_cons (mo_name (pv 4)) (ma_cons (mo_name (pv 5)) (ma_cons (mo_name (pv 6)) (ma_nil))))))) (mt_or1 (mt_not (y_val (g_call (ok_law_two_right W) hr (by decide) rfl (ma_cons (mo_name (pv 4)) (ma_cons (mo_tm (g_call (ok_later W) hr (by decide) rfl (ma_cons (mo_name (pv 4)) (ma_cons (mo_tm (me_int)) (ma_nil))))) (ma_cons (mo_name (pv 6)) (ma_nil)))))))))) (ms_cons (ms_ret (me_bl)) (ms_nil)) (ms_nil)) (ms_cons (ms_if (y_cmp hr.toRoom (mo_tm (g_call (ok_parted_by W) hr (by decide) rfl (ma_cons (mo_name (pv 4)) (ma_cons (mo_name (pv 4)) (ma_nil))))) (mo_tm (me_non))) (ms_cons (ms_ret (me_bl)) (ms_nil)) (ms_nil)) (ms_nil))))))))) (ms_cons (ms_ret (me_bl)) (ms_nil))
end
end KW
namespace KW
open PySem PySem.Spec PyProof.Rows L2 L2.M
local macro_rules | `(tactic| walk_at "ev") => `(tactic| simp [semF, shared, after, mSeq, mSkip, mIf, mRet, mRetN, mRetV, mSet, mSetIx, mExpr, mB, mU, mTm, mPl, mK, mVar, mOp, mCons, mNil, bor, bors, mTst, mAndT, mOrT, mNotT, mAndE, mOrE, mNotE, mIfE, mIsi, isiD, mChn, chnL, cmpD, binD, addD, subD, mulD, modD, fdivD, powD, eqD, neD, ltD, leD, gtD, geD, isD, isnD, L2.M.isNon, negD, ixD, Bf.f, Bg.f, lenD, L2.M.intD, maxD, minD, repD, strD, gmaxD, gminD, sumD, sortD, anyD, allD, mCall, frz, fzO, lend, wb, mTup, mLst, fzs, cD, mAsg, bTup, bTps, mApp, tupD, lstD, mRev, revD, ofs_inj, ee_ii, ee_ss, ee_bb, ee_nn, ee_is, ee_si, ee_in, ee_ni, ee_tt, ee_ll, ee_maps, ee_0, ee_1, ee_2, ee_3, at_lit, at_nat, at_m1, at_m2, scD, emD, sizeLine_eq, ixN, sm_lit, mSrc, itemsD, plOf, rng1D, bNm, mSl, mPt, mNoP, slD, mPar, keepT, tmsO, setA, mFlow, zipX, enumX, itemsX, intsOf, ints_all, boolsOf, shaped_lay, lay_int, lay_bool, lay_none, lay_dict, lay_tup, lay_list, lay_ints, sortX_ints, mPlF, mPlI, mRd, mPU, mPB, mFSet, mFNew, mNSet, mPApp, mPSetIx, mPPop, mMeth, mNew, isIns, cellO, mLstN, mAddN, mAppN, semX, mTold, mCallX, xRet, xExpr, xSet, mRaise, mM, isL, isS, mOrV, truD])
local macro_rules | `(tactic| walk_at "es") => `(tactic| simp [semF, shared, after, mSeq, mSkip, mIf, mRet, mRetN, mRetV, mSet, mSetIx, mExpr, mB, mU, mTm, mPl, mK, mVar, mOp, mCons, mNil, bor, bors, mTst, mAndT, mOrT, mNotT, mAndE, mOrE, mNotE, mIfE, mIsi, isiD, mChn, chnL, cmpD, binD, addD, subD, mulD, modD, fdivD, powD, eqD, neD, ltD, leD, gtD, geD, isD, isnD, L2.M.isNon, negD, ixD, Bf.f, Bg.f, lenD, L2.M.intD, maxD, minD, repD, strD, gmaxD, gminD, sumD, sortD, anyD, allD, mCall, frz, fzO, lend, wb, mTup, mLst, fzs, cD, mAsg, bTup, bTps, mApp, tupD, lstD, mRev, revD, ofs_inj, ee_ii, ee_ss, ee_bb, ee_nn, ee_is, ee_si, ee_in, ee_ni, ee_tt, ee_ll, ee_maps, ee_0, ee_1, ee_2, ee_3, at_lit, at_nat, at_m1, at_m2, scD, emD, sizeLine_eq, ixN, sm_lit, mSrc, itemsD, plOf, rng1D, bNm, mSl, mPt, mNoP, slD, mPar, keepT, tmsO, setA, mFlow, zipX, enumX, itemsX, intsOf, ints_all, boolsOf, shaped_lay, lay_int, lay_bool, lay_none, lay_dict, lay_tup, lay_list, lay_ints, sortX_ints, mPlF, mPlI, mRd, mPU, mPB, mFSet, mFNew, mNSet, mPApp, mPSetIx, mPPop, mMeth, mNew, isIns, cellO, mLstN, mAddN, mAppN, semX, mTold, mCallX, xRet, xExpr, xSet, mRaise, mM, isL, isS, mOrV, truD, *])
local macro_rules | `(tactic| walk_at "el") => `(tactic| simp [semF, shared, after, mSeq, mSkip, mIf, mRet, mRetN, mRetV, mSet, mSetIx, mExpr, mB, mU, mTm, mPl, mK, mVar, mOp, mCons, mNil, bor, bors, mTst, mAndT, mOrT, mNotT, mAndE, mOrE, mNotE, mIfE, mIsi, isiD, mChn, chnL, cmpD, binD, addD, subD, mulD, modD, fdivD, powD, eqD, neD, ltD, leD, gtD, geD, isD, isnD, L2.M.isNon, negD, ixD, Bf.f, Bg.f, lenD, L2.M.intD, maxD, minD, repD, strD, gmaxD, gminD, sumD, sortD, anyD, allD, mCall, frz, fzO, lend, wb, mTup, mLst, fzs, cD, mAsg, bTup, bTps, mApp, tupD, lstD, mRev, revD, ofs_inj, ee_ii, ee_ss, ee_bb, ee_nn, ee_is, ee_si, ee_in, ee_ni, ee_tt, ee_ll, ee_maps, ee_0, ee_1, ee_2, ee_3, at_lit, at_nat, at_m1, at_m2, scD, emD, sizeLine_eq, ixN, sm_lit, mSrc, itemsD, plOf, rng1D, bNm, mSl, mPt, mNoP, slD, mPar, keepT, tmsO, setA, mFlow, zipX, enumX, itemsX, intsOf, ints_all, boolsOf, shaped_lay, lay_int, lay_bool, lay_none, lay_dict, lay_tup, lay_list, lay_ints, sortX_ints, mPlF, mPlI, mRd, mPU, mPB, mFSet, mFNew, mNSet, mPApp, mPSetIx, mPPop, mMeth, mNew, isIns, cellO, mLstN, mAddN, mAppN, semX, mTold, mCallX, xRet, xExpr, xSet, mRaise, mM, isL, isS, mOrV, truD, mLc, lcL, sameC, wipeC, restC, mYes, *])
local macro_rules | `(tactic| walk_at "ef") => `(tactic| simp [semF, shared, after, mSeq, mSkip, mIf, mRet, mRetN, mRetV, mSet, mSetIx, mExpr, mB, mU, mTm, mPl, mK, mVar, mOp, mCons, mNil, bor, bors, mTst, mAndT, mOrT, mNotT, mAndE, mOrE, mNotE, mIfE, mIsi, isiD, mChn, chnL, cmpD, binD, addD, subD, mulD, modD, fdivD, powD, eqD, neD, ltD, leD, gtD, geD, isD, isnD, L2.M.isNon, negD, ixD, Bf.f, Bg.f, lenD, L2.M.intD, maxD, minD, repD, strD, gmaxD, gminD, sumD, sortD, anyD, allD, mCall, frz, fzO, lend, wb, mTup, mLst, fzs, cD, mAsg, bTup, bTps, mApp, tupD, lstD, mRev, revD, ofs_inj, ee_ii, ee_ss, ee_bb, ee_nn, ee_is, ee_si, ee_in, ee_ni, ee_tt, ee_ll, ee_maps, ee_0, ee_1, ee_2, ee_3, at_lit, at_nat, at_m1, at_m2, scD, emD, sizeLine_eq, ixN, sm_lit, mSrc, itemsD, plOf, rng1D, bNm, mSl, mPt, mNoP, slD, mPar, keepT, tmsO, setA, mFlow, zipX, enumX, itemsX, intsOf, ints_all, boolsOf, shaped_lay, lay_int, lay_bool, lay_none, lay_dict, lay_tup, lay_list, lay_ints, sortX_ints, mPlF, mPlI, mRd, mPU, mPB, mFSet, mFNew, mNSet, mPApp, mPSetIx, mPPop, mMeth, mNew, isIns, cellO, mLstN, mAddN, mAppN, semX, mTold, mCallX, xRet, xExpr, xSet, mRaise, mM, isL, isS, mOrV, truD, mFor, forL, mLc, lcL, sameC, wipeC, restC, mYes, *])
local macro_rules | `(tactic| walk_at "rg") => `(tactic| (and_intros <;> grind))
local macro_rules | `(tactic| walk_at "nx") => `(tactic| (apply wx_nx; focus (walk_at "ev"; try first | exact ⟨rfl, rfl⟩ | rfl)))
local macro_rules | `(tactic| walk_at "ns") => `(tactic| (apply wx_nx; focus (walk_at "es"; try first | exact ⟨rfl, rfl⟩ | rfl)))
local macro_rules | `(tactic| walk_at "rt") => `(tactic| (apply wx_rt; focus (walk_at "ev"; try first | exact ⟨rfl, rfl⟩ | rfl)))
local macro_rules | `(tactic| walk_at "rs") => `(tactic| (apply wx_rt; focus (walk_at "es"; try first | exact ⟨rfl, rfl⟩ | rfl)))
local macro_rules | `(tactic| walk_at "ed") => `(tactic| simp [semF, shared, after, mSeq, mSkip, mIf, mRet, mRetN, mRetV, mSet, mSetIx, mExpr, mB, mU, mTm, mPl, mK, mVar, mOp, mCons, mNil, bor, bors, mTst, mAndT, mOrT, mNotT, mAndE, mOrE, mNotE, mIfE, mIsi, isiD, mChn, chnL, cmpD, binD, addD, subD, mulD, modD, fdivD, powD, eqD, neD, ltD, leD, gtD, geD, isD, isnD, L2.M.isNon, negD, ixD, Bf.f, Bg.f, lenD, L2.M.intD, maxD, minD, repD, strD, gmaxD, gminD, sumD, sortD, anyD, allD, mCall, frz, fzO, lend, wb, mTup, mLst, fzs, cD, mAsg, bTup, bTps, mApp, tupD, lstD, mRev, revD, ofs_inj, ee_ii, ee_ss, ee_bb, ee_nn, ee_is, ee_si, ee_in, ee_ni, ee_tt, ee_ll, ee_maps, ee_0, ee_1, ee_2, ee_3, at_lit, at_nat, at_m1, at_m2, scD, emD, sizeLine_eq, ixN, sm_lit, mSrc, itemsD, plOf, rng1D, bNm, mSl, mPt, mNoP, slD, mPar, keepT, tmsO, setA, mFlow, zipX, enumX, itemsX, intsOf, ints_all, boolsOf, shaped_lay, lay_int, lay_bool, lay_none, lay_dict, lay_tup, lay_list, lay_ints, sortX_ints, mPlF, mPlI, mRd, mPU, mPB, mFSet, mFNew, mNSet, mPApp, mPSetIx, mPPop, mMeth, mNew, isIns, cellO, mLstN, mAddN, mAppN, semX, mTold, mCallX, xRet, xExpr, xSet, mRaise, mM, isL, isS, mOrV, truD, mDNew, mDIn, mDGet, mDLen, mDPut, kyD, mNNew, mN1, mTake, mFnV, mCallF, mNIn, mNGet, mNPut, mNVals, mNList, nKs, mDGetD, mDList, mNNe, *])
theorem put_in_eq (z : Pz) (c : Int) : g_put_in [.sh z.d, .sh (.int c)] = some (.sh (.int (pin z c)), [.sh z.d, .sh (.int c)]) := by
  unfold g_put_in m_put_in Pz.d pin
  walk_at "ev"
abbrev vl2 (x : Int × Int) : PyData := .tuple [.int x.1, .int x.2]
abbrev kC (E : List (Int × (Int × Int))) : C := .dc 0 (kdE vl2 E)
theorem pt_1 {z : Pz} (hr : 0 < z.r) (hs : sm z.r) {c : Int} {m : C} : (mPar [0, 2] [3, 1] (mCons (mTm (mB (binD .FloorDiv) (mPl 1) (mTm (mB ixD (mPl 0) (mTm (mK (.int 1))))))) (mCons (mTm (mB (binD .Mod) (mPl 1) (mTm (mB ixD (mPl 0) (mTm (mK (.int 1))))))) (mNil)))) [.sh z.d, .sh (.int c), m, .no, .no, .no, .no, .no, .no] = some (.nx, [.sh z.d, .sh (.int (c % z.r)), m, .sh (.int (c / z.r)), .no, .no, .no, .no, .no]) := by
  have h2 : ¬ z.r = 0 := by omega
  have h3 : 0 ≤ z.r := by omega
  unfold Pz.d
  generalize z.r = r at *
  walk_at "es"
theorem pt_t {Z : PyData} {c1 c3 c4 c6 c7 c8 : C} {t m : Int} : (mTst (mB (cmpD .Lt) (mPl 5) (mPl 2))) [.sh Z, c1, .sh (.int m), c3, c4, .sh (.int t), c6, c7, c8] = some (decide (t < m), [.sh Z, c1, .sh (.int m), c3, c4, .sh (.int t), c6, c7, c8]) := by
  walk_at "ev"
theorem pt_in {Z : PyData} {c2 c3 c5 c6 c7 c8 : C} {E : List (Int × (Int × Int))} {c : Int} : mTst (mDIn false 4 (mPl 1)) [.sh Z, .sh (.int c), c2, c3, kC E, c5, c6, c7, c8] = some ((lkE E c).isSome, [.sh Z, .sh (.int c), c2, c3, kC E, c5, c6, c7, c8]) := by
  have h := dLk_int vl2 E c
  unfold kC
  generalize kdE vl2 E = K at *
  simp [mTst, mDIn, mPl, bor, kyD, h]
theorem pt_g {Z : PyData} {c2 c3 c5 c6 c7 c8 : C} {E : List (Int × (Int × Int))} {c a b : Int} (hx : lkE E c = some (a, b)) : (mAsg [6, 7] [0, 2] (bTup [bNm 6, bNm 7]) (mDGet 4 (mPl 1))) [.sh Z, .sh (.int c), c2, c3, kC E, c5, c6, c7, c8] = some (.nx, [.sh Z, .sh (.int c), c2, c3, kC E, c5, .sh (.int a), .sh (.int b), c8]) := by
  have h := dLk_int vl2 E c
  rw [hx] at h
  have e : mDGet 4 (mPl 1) [.sh Z, .sh (.int c), c2, c3, kC E, c5, c6, c7, c8] = some (.sh (.tuple [.int a, .int b]), [.sh Z, .sh (.int c), c2, c3, kC E, c5, c6, c7, c8]) := by
    unfold kC
    generalize kdE vl2 E = K at *
    simp [mDGet, mPl, bor, kyD, h]
  generalize mDGet 4 (mPl 1) = G at *
  generalize kC E = K at *
  walk_at "es"
theorem pt_2 {Z : PyData} {c1 c3 c4 c7 c8 : C} {t m a : Int} (h : 0 < t - a) (hs : sm (t - a)) : (mSet [0, 2] 8 (mB (binD .FloorDiv) (mTm (mB (binD .Sub) (mPl 2) (mPl 5))) (mTm (mB (binD .Sub) (mPl 5) (mPl 6))))) [.sh Z, c1, .sh (.int m), c3, c4, .sh (.int t), .sh (.int a), c7, c8] = some (.nx, [.sh Z, c1, .sh (.int m), c3, c4, .sh (.int t), .sh (.int a), c7, .sh (.int ((m - t) / (t - a)))]) := by
  have h2 : ¬ t - a = 0 := by omega
  have h3 : 0 ≤ t - a := by omega
  have e : ∀ u v : Int, subD (.int u) (.int v) = some (.sh (.int (u - v))) := fun _ _ => rfl
  generalize hL : t - a = L at *
  walk_at "es"
theorem pt_3 {Z : PyData} {c1 c2 c4 c5 c6 : C} {p b q : Int} (h1 : sm q) (h2 : sm (p - b)) : (mSet [0, 2] 3 (mB (binD .Add) (mPl 3) (mTm (mB (binD .Mult) (mPl 8) (mTm (mB (binD .Sub) (mPl 3) (mPl 7))))))) [.sh Z, c1, c2, .sh (.int p), c4, c5, c6, .sh (.int b), .sh (.int q)] = some (.nx, [.sh Z, c1, c2, .sh (.int (p + q * (p - b))), c4, c5, c6, .sh (.int b), .sh (.int q)]) := by
  walk_at "es"
theorem pt_4 {Z : PyData} {c1 c2 c3 c4 c7 : C} {t a q : Int} (h1 : sm q) (h2 : sm (t - a)) : (mSet [0, 2] 5 (mB (binD .Add) (mPl 5) (mTm (mB (binD .Mult) (mPl 8) (mTm (mB (binD .Sub) (mPl 5) (mPl 6))))))) [.sh Z, c1, c2, c3, c4, .sh (.int t), .sh (.int a), c7, .sh (.int q)] = some (.nx, [.sh Z, c1, c2, c3, c4, .sh (.int (t + q * (t - a))), .sh (.int a), c7, .sh (.int q)]) := by
  walk_at "es"
theorem pt_p {Z : PyData} {c2 c6 c7 c8 : C} {E : List (Int × (Int × Int))} {c t p : Int} (hl : E.length < 16777216) : (mDPut 4 (mTup (mCons (mPl 5) (mCons (mPl 3) (mNil)))) (mPl 1)) [.sh Z, .sh (.int c), c2, .sh (.int p), kC E, .sh (.int t), c6, c7, c8] = some (.nx, [.sh Z, .sh (.int c), c2, .sh (.int p), kC (ptE E c (t, p)), .sh (.int t), c6, c7, c8]) := by
  have h := dPt_int vl2 E c (t, p)
  have hl2 : (kdE vl2 E).length < sizeLine := by
    rw [sizeLine_eq]
    unfold kdE
    simpa using hl
  have e : mTup (mCons (mPl 5) (mCons (mPl 3) (mNil))) [.sh Z, .sh (.int c), c2, .sh (.int p), kC E, .sh (.int t), c6, c7, c8] = some (.sh (vl2 (t, p)), [.sh Z, .sh (.int c), c2, .sh (.int p), kC E, .sh (.int t), c6, c7, c8]) := by
    generalize kC E = K
    clear h hl2 hl
    walk_at "ev"
  unfold kC at *
  rw [← h]
  generalize kdE vl2 E = K at *
  generalize vl2 (t, p) = V at *
  simp [mDPut, e, cD, mPl, bor, kyD, hl2]
theorem pt_5 {z : Pz} (hr : 0 < z.r) (hs : sm z.r) {c t m p : Int} {c4 c6 c7 c8 : C} (h : t < m) : (mIf (mTst (mB (cmpD .Lt) (mPl 5) (mPl 2))) (mSeq (mSet [0, 2] 1 (mCall [true, true] g_put_in (mCons (mPl 0) (mCons (mPl 1) (mNil))))) (mSeq (mPar [0, 2] [3, 1] (mCons (mTm (mB (binD .Add) (mPl 3) (mTm (mB (binD .FloorDiv) (mPl 1) (mTm (mB ixD (mPl 0) (mTm (mK (.int 1))))))))) (mCons (mTm (mB (binD .Mod) (mPl 1) (mTm (mB ixD (mPl 0) (mTm (mK (.int 1))))))) (mNil)))) (mSeq (mSet [0, 2] 5 (mB (binD .Add) (mPl 5) (mTm (mK (.int 1))))) (mSkip)))) (mSkip)) [.sh z.d, .sh (.int c), .sh (.int m), .sh (.int p), c4, .sh (.int t), c6, c7, c8] = some (.nx, [.sh z.d, .sh (.int (pin z c % z.r)), .sh (.int m), .sh (.int (p + pin z c / z.r)), c4, .sh (.int (t + 1)), c6, c7, c8]) := by
  have h2 : ¬ z.r = 0 := by omega
  have h3 : 0 ≤ z.r := by omega
  have f := put_in_eq z c
  have e : (mPar [0, 2] [3, 1] (mCons (mTm (mB (binD .Add) (mPl 3) (mTm (mB (binD .FloorDiv) (mPl 1) (mTm (mB ixD (mPl 0) (mTm (mK (.int 1))))))))) (mCons (mTm (mB (binD .Mod) (mPl 1) (mTm (mB ixD (mPl 0) (mTm (mK (.int 1))))))) (mNil)))) [.sh z.d, .sh (.int (pin z c)), .sh (.int m), .sh (.int p), c4, .sh (.int t), c6, c7, c8] = some (.nx, [.sh z.d, .sh (.int (pin z c % z.r)), .sh (.int m), .sh (.int (p + pin z c / z.r)), c4, .sh (.int t), c6, c7, c8]) := by
    unfold Pz.d
    clear f h
    generalize pin z c = x
    generalize z.r = r at *
    walk_at "es"
  generalize mPar _ _ _ = MP at *
  generalize g_put_in = G at *
  generalize pin z c = x at *
  generalize z.r = r at *
  generalize z.d = Z at *
  walk_at "es"
theorem pt_5n {Z : PyData} {c1 c3 c4 c6 c7 c8 : C} {t m : Int} (h : ¬ t < m) : (mIf (mTst (mB (cmpD .Lt) (mPl 5) (mPl 2))) (mSeq (mSet [0, 2] 1 (mCall [true, true] g_put_in (mCons (mPl 0) (mCons (mPl 1) (mNil))))) (mSeq (mPar [0, 2] [3, 1] (mCons (mTm (mB (binD .Add) (mPl 3) (mTm (mB (binD .FloorDiv) (mPl 1) (mTm (mB ixD (mPl 0) (mTm (mK (.int 1))))))))) (mCons (mTm (mB (binD .Mod) (mPl 1) (mTm (mB ixD (mPl 0) (mTm (mK (.int 1))))))) (mNil)))) (mSeq (mSet [0, 2] 5 (mB (binD .Add) (mPl 5) (mTm (mK (.int 1))))) (mSkip)))) (mSkip)) [.sh Z, c1, .sh (.int m), c3, c4, .sh (.int t), c6, c7, c8] = some (.nx, [.sh Z, c1, .sh (.int m), c3, c4, .sh (.int t), c6, c7, c8]) := by
  generalize mPar _ _ _ = MP
  generalize g_put_in = G
  walk_at "es"
structure InvP (z : Pz) (T : Int) (M t : Nat) (c p : Int) (E : List (Int × (Int × Int))) : Prop where
  tM : t ≤ M
  cb : 0 ≤ c ∧ c < z.r
  tot : p + sp z c (M - t) = T
  nd : (E.map (·.1)).Nodup
  en : ∀ e ∈ E, (0 ≤ e.1 ∧ e.1 < z.r) ∧ ∃ a : Nat, e.2.1 = a ∧ a < t ∧ cj z e.1 (t - a) = c ∧ e.2.2 + sp z e.1 (t - a) = p
theorem invP_s {z : Pz} (h : z.Ok) {T : Int} {M t : Nat} {c p : Int} {E : List (Int × (Int × Int))} (hI : InvP z T M t c p E) (ht : t < M) (hn : lkE E c = none ∨ E = []) : InvP z T M (t + 1) (pin z c % z.r) (p + pin z c / z.r) E := by
  refine ⟨ht, md_b h _, ?_, hI.nd, fun e he => ?_⟩
  · have := hI.tot
    rw [show M - t = (M - (t + 1)) + 1 by omega, sp] at this
    omega
  · obtain ⟨h1, a, h2, h3, h4, h5⟩ := hI.en e he
    refine ⟨h1, a, h2, by omega, ?_, ?_⟩
    · rw [show t + 1 - a = (t - a) + 1 by omega, cj_s, h4]
    · rw [show t + 1 - a = (t - a) + 1 by omega, sp_s, h4]
      omega
theorem invP_p {z : Pz} (h : z.Ok) {T : Int} {M t : Nat} {c p : Int} {E : List (Int × (Int × Int))} (hI : InvP z T M t c p E) (ht : t < M) : InvP z T M (t + 1) (pin z c % z.r) (p + pin z c / z.r) (ptE E c ((t : Int), p)) := by
  refine ⟨ht, md_b h _, ?_, ptE_nd hI.nd _ _, fun e he => ?_⟩
  · have := hI.tot
    rw [show M - t = (M - (t + 1)) + 1 by omega, sp] at this
    omega
  · rcases ptE_mem he with rfl | ⟨he, _⟩
    · refine ⟨hI.cb, t, rfl, by omega, ?_, ?_⟩
      · rw [show t + 1 - t = 0 + 1 by omega, cj_s]
        rfl
      · rw [show t + 1 - t = 0 + 1 by omega, sp_s]
        simp [sp, cj]
    · obtain ⟨h1, a, h2, h3, h4, h5⟩ := hI.en e he
      refine ⟨h1, a, h2, by omega, ?_, ?_⟩
      · rw [show t + 1 - a = (t - a) + 1 by omega, cj_s, h4]
      · rw [show t + 1 - a = (t - a) + 1 by omega, sp_s, h4]
        omega
/-- a round is found: so many are gone at once -/
theorem invP_r {z : Pz} {T : Int} {M t : Nat} {c p : Int} {E : List (Int × (Int × Int))} (hI : InvP z T M t c p E) {a b : Int} (hx : lkE E c = some (a, b)) : ∃ n : Nat, a = n ∧ n < t ∧ b + sp z c (t - n) = p ∧ InvP z T M (t + (M - t) / (t - n) * (t - n)) c (p + ((M - t) / (t - n) : Nat) * (p - b)) [] := by
  obtain ⟨h1, n, h2, h3, h4, h5⟩ := hI.en _ (lkE_some hx)
  dsimp only at h1 h2 h4 h5
  refine ⟨n, h2, h3, h5, ?_⟩
  have ht := hI.tM
  generalize hL : t - n = L at *
  generalize hq : (M - t) / L = q at *
  have hqL : q * L ≤ M - t := by
    rw [← hq]
    exact Nat.div_mul_le_self _ _
  refine ⟨by omega, hI.cb, ?_, by simp, fun e he => by cases he⟩
  have e1 := sp_rounds z h4 q (M - (t + q * L))
  rw [show q * L + (M - (t + q * L)) = M - t by omega] at e1
  have e2 := hI.tot
  rw [e1] at e2
  have e3 : p - b = sp z c L := by omega
  rw [e3]
  omega
theorem paid_turns_eq {z : Pz} (h : z.Ok) {c : Int} (h0 : 0 ≤ c) {M : Nat} (hM : M ≤ 10 ^ 12) : g_paid_turns [.sh z.d, .sh (.int c), .sh (.int (M : Int))] = some (.sh (.int (gr z c M)), [.sh z.d, .sh (.int c), .sh (.int (M : Int))]) := by
  have hr := h.r0
  have hr1 := h.r1
  apply rt_eq
  unfold g_paid_turns m_paid_turns
  apply rt_sem rfl
  have hsr : sm z.r := ⟨by omega, by omega⟩
  apply wx_nx (pt_1 (by omega) hsr)
  apply wx_nx (ε1 := [.sh z.d, .sh (.int (c % z.r)), .sh (.int (M : Int)), .sh (.int (c / z.r)), kC [], .no, .no, .no, .no])
  · rfl
  apply wx_nx (ε1 := [.sh z.d, .sh (.int (c % z.r)), .sh (.int (M : Int)), .sh (.int (c / z.r)), kC [], .sh (.int 0), .no, .no, .no])
  · rfl
  have hI0 : InvP z (gr z c M) M 0 (c % z.r) (c / z.r) [] := ⟨Nat.zero_le _, md_b h _, by rw [gr_sp]; rfl, by simp, fun e he => by cases he⟩
  generalize gr z c M = T at *
  apply wx_seq
  apply wx_while (fun n ε => ∃ (t : Nat) (c1 p : Int) (E : List (Int × (Int × Int))) (c6 c7 c8 : C), n = M - t ∧ InvP z T M t c1 p E ∧ ε = [.sh z.d, .sh (.int c1), .sh (.int (M : Int)), .sh (.int p), kC E, .sh (.int (t : Int)), c6, c7, c8]) M ⟨0, _, _, [], _, _, _, rfl, hI0, rfl⟩
  rintro n ε ⟨t, c1, p, E, c6, c7, c8, rfl, hI, rfl⟩
  refine ⟨_, _, pt_t, fun hf => ?_, fun ht => ?_⟩
  · have hf2 : ¬ (t : Int) < M := by simpa using hf
    have e : t = M := by have := hI.tM; omega
    have := hI.tot
    rw [e, Nat.sub_self] at this
    simp only [sp] at this
    have e2 : p = T := by omega
    rw [e2]
    apply wx_rt (c := .sh (.int T)) (ε1 := [.sh z.d, .sh (.int c1), .sh (.int (M : Int)), .sh (.int T), kC E, .sh (.int (t : Int)), c6, c7, c8])
    · unfold kC
      generalize kdE vl2 E = K
      generalize z.d = Z
      clear hI hI0 hf hf2 this e2 h
      walk_at "ev"
    exact ⟨rfl, rfl⟩
  · have ht : t < M := by
      have : (t : Int) < M := by simpa using ht
      omega
    apply wx_ifs pt_in
    · intro hs
      obtain ⟨⟨a, b⟩, hx⟩ := Option.isSome_iff_exists.mp hs
      obtain ⟨m, rfl, hm, hb, hI2⟩ := invP_r hI hx
      have hc1 := hI.cb
      have hsp := sp_b h hc1 (t - m)
      have hL : 0 < (t : Int) - (m : Int) := by omega
      have hLn : ((t - m : Nat) : Int) = (t : Int) - (m : Int) := by omega
      apply wx_in
      apply wx_nx (pt_g hx)
      apply wx_in
      apply wx_nx (pt_2 hL ⟨by omega, by omega⟩)
      have eq : ((M : Int) - (t : Int)) / ((t : Int) - (m : Int)) = (((M - t) / (t - m) : Nat) : Int) := by
        rw [Int.natCast_ediv, hLn]
        congr 1
        omega
      rw [eq]
      have hq : (M - t) / (t - m) ≤ M := Nat.le_trans (Nat.div_le_self _ _) (by omega)
      have hqL : (M - t) / (t - m) * (t - m) ≤ M - t := Nat.div_mul_le_self _ _
      have ec : (((M - t) / (t - m) : Nat) : Int) * ((t : Int) - (m : Int)) = (((M - t) / (t - m) * (t - m) : Nat) : Int) := by
        rw [Int.natCast_mul, hLn]
      generalize (M - t) / (t - m) = q at *
      apply wx_in
      apply wx_nx (pt_3 ⟨by omega, by omega⟩ ⟨by omega, by omega⟩)
      apply wx_in
      apply wx_nx (pt_4 ⟨by omega, by omega⟩ ⟨by omega, by omega⟩)
      rw [ec]
      generalize q * (t - m) = qL at *
      apply wx_in
      apply wx_nx (ε1 := [.sh z.d, .sh (.int c1), .sh (.int (M : Int)), .sh (.int (p + q * (p - b))), kC [], .sh (.int ((t : Int) + (qL : Nat))), .sh (.int (m : Int)), .sh (.int b), .sh (.int (q : Int))])
      · rfl
      apply wx_sk
      by_cases c : t + qL < M
      · have e2 : (t : Int) + (qL : Nat) < (M : Int) := by omega
        apply wx_nx (pt_5 (by omega) hsr e2)
        have hI3 := invP_s h hI2 c (.inr rfl)
        exact wx_skip ⟨M - (t + qL + 1), by omega, t + qL + 1, _, _, [], _, _, _, rfl, hI3, by congr 6⟩
      · have e2 : ¬ (t : Int) + (qL : Nat) < (M : Int) := by omega
        apply wx_nx (pt_5n e2)
        exact wx_skip ⟨M - (t + qL), by omega, t + qL, _, _, [], _, _, _, rfl, hI2, by congr 6⟩
    · intro hn
      have hx : lkE E c1 = none := by
        cases q : lkE E c1 with
        | none => rfl
        | some _ => rw [q] at hn; cases hn
      have hEl : E.length ≤ 1000 := keys_len hI.nd fun e he => by
        have := (hI.en e he).1
        omega
      apply wx_in
      apply wx_nx (pt_p (by omega))
      apply wx_sk
      have e2 : (t : Int) < (M : Int) := by omega
      apply wx_nx (pt_5 (by omega) hsr e2)
      have hI3 := invP_p h hI ht
      exact wx_skip ⟨M - (t + 1), by omega, t + 1, _, _, _, _, _, _, rfl, hI3, rfl⟩
end KW
namespace KW
open PySem PySem.Spec PyProof.Rows L2 L2.M
local macro_rules | `(tactic| walk_at "ev") => `(tactic| simp [semF, shared, after, mSeq, mSkip, mIf, mRet, mRetN, mRetV, mSet, mSetIx, mExpr, mB, mU, mTm, mPl, mK, mVar, mOp, mCons, mNil, bor, bors, mTst, mAndT, mOrT, mNotT, mAndE, mOrE, mNotE, mIfE, mIsi, isiD, mChn, chnL, cmpD, binD, addD, subD, mulD, modD, fdivD, powD, eqD, neD, ltD, leD, gtD, geD, isD, isnD, L2.M.isNon, negD, ixD, Bf.f, Bg.f, lenD, L2.M.intD, maxD, minD, repD, strD, gmaxD, gminD, sumD, sortD, anyD, allD, mCall, frz, fzO, lend, wb, mTup, mLst, fzs, cD, mAsg, bTup, bTps, mApp, tupD, lstD, mRev, revD, ofs_inj, ee_ii, ee_ss, ee_bb, ee_nn, ee_is, ee_si, ee_in, ee_ni, ee_tt, ee_ll, ee_maps, ee_0, ee_1, ee_2, ee_3, at_lit, at_nat, at_m1, at_m2, scD, emD, sizeLine_eq, ixN, sm_lit, mSrc, itemsD, plOf, rng1D, bNm, mSl, mPt, mNoP, slD, mPar, keepT, tmsO, setA, mFlow, zipX, enumX, itemsX, intsOf, ints_all, boolsOf, shaped_lay, lay_int, lay_bool, lay_none, lay_dict, lay_tup, lay_list, lay_ints, sortX_ints, mPlF, mPlI, mRd, mPU, mPB, mFSet, mFNew, mNSet, mPApp, mPSetIx, mPPop, mMeth, mNew, isIns, cellO, mLstN, mAddN, mAppN, semX, mTold, mCallX, xRet, xExpr, xSet, mRaise, mM, isL, isS, mOrV, truD])
local macro_rules | `(tactic| walk_at "es") => `(tactic| simp [semF, shared, after, mSeq, mSkip, mIf, mRet, mRetN, mRetV, mSet, mSetIx, mExpr, mB, mU, mTm, mPl, mK, mVar, mOp, mCons, mNil, bor, bors, mTst, mAndT, mOrT, mNotT, mAndE, mOrE, mNotE, mIfE, mIsi, isiD, mChn, chnL, cmpD, binD, addD, subD, mulD, modD, fdivD, powD, eqD, neD, ltD, leD, gtD, geD, isD, isnD, L2.M.isNon, negD, ixD, Bf.f, Bg.f, lenD, L2.M.intD, maxD, minD, repD, strD, gmaxD, gminD, sumD, sortD, anyD, allD, mCall, frz, fzO, lend, wb, mTup, mLst, fzs, cD, mAsg, bTup, bTps, mApp, tupD, lstD, mRev, revD, ofs_inj, ee_ii, ee_ss, ee_bb, ee_nn, ee_is, ee_si, ee_in, ee_ni, ee_tt, ee_ll, ee_maps, ee_0, ee_1, ee_2, ee_3, at_lit, at_nat, at_m1, at_m2, scD, emD, sizeLine_eq, ixN, sm_lit, mSrc, itemsD, plOf, rng1D, bNm, mSl, mPt, mNoP, slD, mPar, keepT, tmsO, setA, mFlow, zipX, enumX, itemsX, intsOf, ints_all, boolsOf, shaped_lay, lay_int, lay_bool, lay_none, lay_dict, lay_tup, lay_list, lay_ints, sortX_ints, mPlF, mPlI, mRd, mPU, mPB, mFSet, mFNew, mNSet, mPApp, mPSetIx, mPPop, mMeth, mNew, isIns, cellO, mLstN, mAddN, mAppN, semX, mTold, mCallX, xRet, xExpr, xSet, mRaise, mM, isL, isS, mOrV, truD, *])
local macro_rules | `(tactic| walk_at "el") => `(tactic| simp [semF, shared, after, mSeq, mSkip, mIf, mRet, mRetN, mRetV, mSet, mSetIx, mExpr, mB, mU, mTm, mPl, mK, mVar, mOp, mCons, mNil, bor, bors, mTst, mAndT, mOrT, mNotT, mAndE, mOrE, mNotE, mIfE, mIsi, isiD, mChn, chnL, cmpD, binD, addD, subD, mulD, modD, fdivD, powD, eqD, neD, ltD, leD, gtD, geD, isD, isnD, L2.M.isNon, negD, ixD, Bf.f, Bg.f, lenD, L2.M.intD, maxD, minD, repD, strD, gmaxD, gminD, sumD, sortD, anyD, allD, mCall, frz, fzO, lend, wb, mTup, mLst, fzs, cD, mAsg, bTup, bTps, mApp, tupD, lstD, mRev, revD, ofs_inj, ee_ii, ee_ss, ee_bb, ee_nn, ee_is, ee_si, ee_in, ee_ni, ee_tt, ee_ll, ee_maps, ee_0, ee_1, ee_2, ee_3, at_lit, at_nat, at_m1, at_m2, scD, emD, sizeLine_eq, ixN, sm_lit, mSrc, itemsD, plOf, rng1D, bNm, mSl, mPt, mNoP, slD, mPar, keepT, tmsO, setA, mFlow, zipX, enumX, itemsX, intsOf, ints_all, boolsOf, shaped_lay, lay_int, lay_bool, lay_none, lay_dict, lay_tup, lay_list, lay_ints, sortX_ints, mPlF, mPlI, mRd, mPU, mPB, mFSet, mFNew, mNSet, mPApp, mPSetIx, mPPop, mMeth, mNew, isIns, cellO, mLstN, mAddN, mAppN, semX, mTold, mCallX, xRet, xExpr, xSet, mRaise, mM, isL, isS, mOrV, truD, mLc, lcL, sameC, wipeC, restC, mYes, *])
local macro_rules | `(tactic| walk_at "ef") => `(tactic| simp [semF, shared, after, mSeq, mSkip, mIf, mRet, mRetN, mRetV, mSet, mSetIx, mExpr, mB, mU, mTm, mPl, mK, mVar, mOp, mCons, mNil, bor, bors, mTst, mAndT, mOrT, mNotT, mAndE, mOrE, mNotE, mIfE, mIsi, isiD, mChn, chnL, cmpD, binD, addD, subD, mulD, modD, fdivD, powD, eqD, neD, ltD, leD, gtD, geD, isD, isnD, L2.M.isNon, negD, ixD, Bf.f, Bg.f, lenD, L2.M.intD, maxD, minD, repD, strD, gmaxD, gminD, sumD, sortD, anyD, allD, mCall, frz, fzO, lend, wb, mTup, mLst, fzs, cD, mAsg, bTup, bTps, mApp, tupD, lstD, mRev, revD, ofs_inj, ee_ii, ee_ss, ee_bb, ee_nn, ee_is, ee_si, ee_in, ee_ni, ee_tt, ee_ll, ee_maps, ee_0, ee_1, ee_2, ee_3, at_lit, at_nat, at_m1, at_m2, scD, emD, sizeLine_eq, ixN, sm_lit, mSrc, itemsD, plOf, rng1D, bNm, mSl, mPt, mNoP, slD, mPar, keepT, tmsO, setA, mFlow, zipX, enumX, itemsX, intsOf, ints_all, boolsOf, shaped_lay, lay_int, lay_bool, lay_none, lay_dict, lay_tup, lay_list, lay_ints, sortX_ints, mPlF, mPlI, mRd, mPU, mPB, mFSet, mFNew, mNSet, mPApp, mPSetIx, mPPop, mMeth, mNew, isIns, cellO, mLstN, mAddN, mAppN, semX, mTold, mCallX, xRet, xExpr, xSet, mRaise, mM, isL, isS, mOrV, truD, mFor, forL, mLc, lcL, sameC, wipeC, restC, mYes, *])
local macro_rules | `(tactic| walk_at "rg") => `(tactic| (and_intros <;> grind))
local macro_rules | `(tactic| walk_at "nx") => `(tactic| (apply wx_nx; focus (walk_at "ev"; try first | exact ⟨rfl, rfl⟩ | rfl)))
local macro_rules | `(tactic| walk_at "ns") => `(tactic| (apply wx_nx; focus (walk_at "es"; try first | exact ⟨rfl, rfl⟩ | rfl)))
local macro_rules | `(tactic| walk_at "rt") => `(tactic| (apply wx_rt; focus (walk_at "ev"; try first | exact ⟨rfl, rfl⟩ | rfl)))
local macro_rules | `(tactic| walk_at "rs") => `(tactic| (apply wx_rt; focus (walk_at "es"; try first | exact ⟨rfl, rfl⟩ | rfl)))
local macro_rules | `(tactic| walk_at "ed") => `(tactic| simp [semF, shared, after, mSeq, mSkip, mIf, mRet, mRetN, mRetV, mSet, mSetIx, mExpr, mB, mU, mTm, mPl, mK, mVar, mOp, mCons, mNil, bor, bors, mTst, mAndT, mOrT, mNotT, mAndE, mOrE, mNotE, mIfE, mIsi, isiD, mChn, chnL, cmpD, binD, addD, subD, mulD, modD, fdivD, powD, eqD, neD, ltD, leD, gtD, geD, isD, isnD, L2.M.isNon, negD, ixD, Bf.f, Bg.f, lenD, L2.M.intD, maxD, minD, repD, strD, gmaxD, gminD, sumD, sortD, anyD, allD, mCall, frz, fzO, lend, wb, mTup, mLst, fzs, cD, mAsg, bTup, bTps, mApp, tupD, lstD, mRev, revD, ofs_inj, ee_ii, ee_ss, ee_bb, ee_nn, ee_is, ee_si, ee_in, ee_ni, ee_tt, ee_ll, ee_maps, ee_0, ee_1, ee_2, ee_3, at_lit, at_nat, at_m1, at_m2, scD, emD, sizeLine_eq, ixN, sm_lit, mSrc, itemsD, plOf, rng1D, bNm, mSl, mPt, mNoP, slD, mPar, keepT, tmsO, setA, mFlow, zipX, enumX, itemsX, intsOf, ints_all, boolsOf, shaped_lay, lay_int, lay_bool, lay_none, lay_dict, lay_tup, lay_list, lay_ints, sortX_ints, mPlF, mPlI, mRd, mPU, mPB, mFSet, mFNew, mNSet, mPApp, mPSetIx, mPPop, mMeth, mNew, isIns, cellO, mLstN, mAddN, mAppN, semX, mTold, mCallX, xRet, xExpr, xSet, mRaise, mM, isL, isS, mOrV, truD, mDNew, mDIn, mDGet, mDLen, mDPut, kyD, mNNew, mN1, mTake, mFnV, mCallF, mNIn, mNGet, mNPut, mNVals, mNList, nKs, mDGetD, mDList, mNNe, *])
@[simp] theorem next_eq (s : Int) : g_law_next [.sh (.int s)] = some (.sh (.int (nxt s)), [.sh (.int s)]) := by
  have h1 : sm ((s + 7919) % 2147483647) := ⟨by omega, by omega⟩
  unfold g_law_next m_law_next nxt
  walk_at "es"
theorem cell_eq (ns : List Int) (k : Nat) : g_law_cell_at [.sh (.list (ns.map PyData.int)), .sh (.int k)] = some (.sh (.int (ns.getD k 0)), [.sh (.list (ns.map PyData.int)), .sh (.int k)]) := by
  unfold g_law_cell_at m_law_cell_at
  by_cases h : k < ns.length
  · walk_at "es"
  · walk_at "es"
@[simp] theorem cell0_eq (ns : List Int) : g_law_cell_at [.sh (.list (ns.map PyData.int)), .sh (.int 0)] = some (.sh (.int (ns.getD 0 0)), [.sh (.list (ns.map PyData.int)), .sh (.int 0)]) := cell_eq ns 0
@[simp] theorem pen_eq (x : Int) : g_law_pen_of [.sh (.int x)] = some (.ls (penL (pnOf x)), [.sh (.int x)]) := by
  unfold g_law_pen_of m_law_pen_of pnOf penL
  walk_at "es"
@[simp] theorem draw_eq (p : Pn) (n : Int) (h0 : 0 < n) (h1 : sm n) : g_law_draw [.ls (penL p), .sh (.int n)] = some (.sh (.int (dr p n)), [.ls (penL (dn p n)), .sh (.int n)]) := by
  unfold g_law_draw m_law_draw dr dn penL
  by_cases hb : p.b = 1
  · by_cases hl : 0 < p.l
    · walk_at "es"
    · walk_at "es"
  · walk_at "es"
/-- the cells that a law goes through: the script's first ones -/
theorem cells_int (ns : List Int) (k : Int) (d : PyData) (h : d ∈ (PyData.int (ns.getD 0 0)) :: (L2.M.cutL ns (some 1) (some k)).map PyData.int) : ∃ x, d = .int x := by
  simp only [List.mem_cons, List.mem_map] at h
  rcases h with h | ⟨y, _, h⟩
  · exact ⟨_, h⟩
  · exact ⟨_, h.symm⟩
end KW
namespace KW
open PySem PySem.Spec PyProof.Rows L2 L2.M
local macro_rules | `(tactic| walk_at "ev") => `(tactic| simp [semF, shared, after, mSeq, mSkip, mIf, mRet, mRetN, mRetV, mSet, mSetIx, mExpr, mB, mU, mTm, mPl, mK, mVar, mOp, mCons, mNil, bor, bors, mTst, mAndT, mOrT, mNotT, mAndE, mOrE, mNotE, mIfE, mIsi, isiD, mChn, chnL, cmpD, binD, addD, subD, mulD, modD, fdivD, powD, eqD, neD, ltD, leD, gtD, geD, isD, isnD, L2.M.isNon, negD, ixD, Bf.f, Bg.f, lenD, L2.M.intD, maxD, minD, repD, strD, gmaxD, gminD, sumD, sortD, anyD, allD, mCall, frz, fzO, lend, wb, mTup, mLst, fzs, cD, mAsg, bTup, bTps, mApp, tupD, lstD, mRev, revD, ofs_inj, ee_ii, ee_ss, ee_bb, ee_nn, ee_is, ee_si, ee_in, ee_ni, ee_tt, ee_ll, ee_maps, ee_0, ee_1, ee_2, ee_3, at_lit, at_nat, at_m1, at_m2, scD, emD, sizeLine_eq, ixN, sm_lit, mSrc, itemsD, plOf, rng1D, bNm, mSl, mPt, mNoP, slD, mPar, keepT, tmsO, setA, mFlow, zipX, enumX, itemsX, intsOf, ints_all, boolsOf, shaped_lay, lay_int, lay_bool, lay_none, lay_dict, lay_tup, lay_list, lay_ints, sortX_ints, mPlF, mPlI, mRd, mPU, mPB, mFSet, mFNew, mNSet, mPApp, mPSetIx, mPPop, mMeth, mNew, isIns, cellO, mLstN, mAddN, mAppN, semX, mTold, mCallX, xRet, xExpr, xSet, mRaise, mM, isL, isS, mOrV, truD])
local macro_rules | `(tactic| walk_at "es") => `(tactic| simp [semF, shared, after, mSeq, mSkip, mIf, mRet, mRetN, mRetV, mSet, mSetIx, mExpr, mB, mU, mTm, mPl, mK, mVar, mOp, mCons, mNil, bor, bors, mTst, mAndT, mOrT, mNotT, mAndE, mOrE, mNotE, mIfE, mIsi, isiD, mChn, chnL, cmpD, binD, addD, subD, mulD, modD, fdivD, powD, eqD, neD, ltD, leD, gtD, geD, isD, isnD, L2.M.isNon, negD, ixD, Bf.f, Bg.f, lenD, L2.M.intD, maxD, minD, repD, strD, gmaxD, gminD, sumD, sortD, anyD, allD, mCall, frz, fzO, lend, wb, mTup, mLst, fzs, cD, mAsg, bTup, bTps, mApp, tupD, lstD, mRev, revD, ofs_inj, ee_ii, ee_ss, ee_bb, ee_nn, ee_is, ee_si, ee_in, ee_ni, ee_tt, ee_ll, ee_maps, ee_0, ee_1, ee_2, ee_3, at_lit, at_nat, at_m1, at_m2, scD, emD, sizeLine_eq, ixN, sm_lit, mSrc, itemsD, plOf, rng1D, bNm, mSl, mPt, mNoP, slD, mPar, keepT, tmsO, setA, mFlow, zipX, enumX, itemsX, intsOf, ints_all, boolsOf, shaped_lay, lay_int, lay_bool, lay_none, lay_dict, lay_tup, lay_list, lay_ints, sortX_ints, mPlF, mPlI, mRd, mPU, mPB, mFSet, mFNew, mNSet, mPApp, mPSetIx, mPPop, mMeth, mNew, isIns, cellO, mLstN, mAddN, mAppN, semX, mTold, mCallX, xRet, xExpr, xSet, mRaise, mM, isL, isS, mOrV, truD, *])
local macro_rules | `(tactic| walk_at "el") => `(tactic| simp [semF, shared, after, mSeq, mSkip, mIf, mRet, mRetN, mRetV, mSet, mSetIx, mExpr, mB, mU, mTm, mPl, mK, mVar, mOp, mCons, mNil, bor, bors, mTst, mAndT, mOrT, mNotT, mAndE, mOrE, mNotE, mIfE, mIsi, isiD, mChn, chnL, cmpD, binD, addD, subD, mulD, modD, fdivD, powD, eqD, neD, ltD, leD, gtD, geD, isD, isnD, L2.M.isNon, negD, ixD, Bf.f, Bg.f, lenD, L2.M.intD, maxD, minD, repD, strD, gmaxD, gminD, sumD, sortD, anyD, allD, mCall, frz, fzO, lend, wb, mTup, mLst, fzs, cD, mAsg, bTup, bTps, mApp, tupD, lstD, mRev, revD, ofs_inj, ee_ii, ee_ss, ee_bb, ee_nn, ee_is, ee_si, ee_in, ee_ni, ee_tt, ee_ll, ee_maps, ee_0, ee_1, ee_2, ee_3, at_lit, at_nat, at_m1, at_m2, scD, emD, sizeLine_eq, ixN, sm_lit, mSrc, itemsD, plOf, rng1D, bNm, mSl, mPt, mNoP, slD, mPar, keepT, tmsO, setA, mFlow, zipX, enumX, itemsX, intsOf, ints_all, boolsOf, shaped_lay, lay_int, lay_bool, lay_none, lay_dict, lay_tup, lay_list, lay_ints, sortX_ints, mPlF, mPlI, mRd, mPU, mPB, mFSet, mFNew, mNSet, mPApp, mPSetIx, mPPop, mMeth, mNew, isIns, cellO, mLstN, mAddN, mAppN, semX, mTold, mCallX, xRet, xExpr, xSet, mRaise, mM, isL, isS, mOrV, truD, mLc, lcL, sameC, wipeC, restC, mYes, *])
local macro_rules | `(tactic| walk_at "ef") => `(tactic| simp [semF, shared, after, mSeq, mSkip, mIf, mRet, mRetN, mRetV, mSet, mSetIx, mExpr, mB, mU, mTm, mPl, mK, mVar, mOp, mCons, mNil, bor, bors, mTst, mAndT, mOrT, mNotT, mAndE, mOrE, mNotE, mIfE, mIsi, isiD, mChn, chnL, cmpD, binD, addD, subD, mulD, modD, fdivD, powD, eqD, neD, ltD, leD, gtD, geD, isD, isnD, L2.M.isNon, negD, ixD, Bf.f, Bg.f, lenD, L2.M.intD, maxD, minD, repD, strD, gmaxD, gminD, sumD, sortD, anyD, allD, mCall, frz, fzO, lend, wb, mTup, mLst, fzs, cD, mAsg, bTup, bTps, mApp, tupD, lstD, mRev, revD, ofs_inj, ee_ii, ee_ss, ee_bb, ee_nn, ee_is, ee_si, ee_in, ee_ni, ee_tt, ee_ll, ee_maps, ee_0, ee_1, ee_2, ee_3, at_lit, at_nat, at_m1, at_m2, scD, emD, sizeLine_eq, ixN, sm_lit, mSrc, itemsD, plOf, rng1D, bNm, mSl, mPt, mNoP, slD, mPar, keepT, tmsO, setA, mFlow, zipX, enumX, itemsX, intsOf, ints_all, boolsOf, shaped_lay, lay_int, lay_bool, lay_none, lay_dict, lay_tup, lay_list, lay_ints, sortX_ints, mPlF, mPlI, mRd, mPU, mPB, mFSet, mFNew, mNSet, mPApp, mPSetIx, mPPop, mMeth, mNew, isIns, cellO, mLstN, mAddN, mAppN, semX, mTold, mCallX, xRet, xExpr, xSet, mRaise, mM, isL, isS, mOrV, truD, mFor, forL, mLc, lcL, sameC, wipeC, restC, mYes, *])
local macro_rules | `(tactic| walk_at "rg") => `(tactic| (and_intros <;> grind))
local macro_rules | `(tactic| walk_at "nx") => `(tactic| (apply wx_nx; focus (walk_at "ev"; try first | exact ⟨rfl, rfl⟩ | rfl)))
local macro_rules | `(tactic| walk_at "ns") => `(tactic| (apply wx_nx; focus (walk_at "es"; try first | exact ⟨rfl, rfl⟩ | rfl)))
local macro_rules | `(tactic| walk_at "rt") => `(tactic| (apply wx_rt; focus (walk_at "ev"; try first | exact ⟨rfl, rfl⟩ | rfl)))
local macro_rules | `(tactic| walk_at "rs") => `(tactic| (apply wx_rt; focus (walk_at "es"; try first | exact ⟨rfl, rfl⟩ | rfl)))
local macro_rules | `(tactic| walk_at "ed") => `(tactic| simp [semF, shared, after, mSeq, mSkip, mIf, mRet, mRetN, mRetV, mSet, mSetIx, mExpr, mB, mU, mTm, mPl, mK, mVar, mOp, mCons, mNil, bor, bors, mTst, mAndT, mOrT, mNotT, mAndE, mOrE, mNotE, mIfE, mIsi, isiD, mChn, chnL, cmpD, binD, addD, subD, mulD, modD, fdivD, powD, eqD, neD, ltD, leD, gtD, geD, isD, isnD, L2.M.isNon, negD, ixD, Bf.f, Bg.f, lenD, L2.M.intD, maxD, minD, repD, strD, gmaxD, gminD, sumD, sortD, anyD, allD, mCall, frz, fzO, lend, wb, mTup, mLst, fzs, cD, mAsg, bTup, bTps, mApp, tupD, lstD, mRev, revD, ofs_inj, ee_ii, ee_ss, ee_bb, ee_nn, ee_is, ee_si, ee_in, ee_ni, ee_tt, ee_ll, ee_maps, ee_0, ee_1, ee_2, ee_3, at_lit, at_nat, at_m1, at_m2, scD, emD, sizeLine_eq, ixN, sm_lit, mSrc, itemsD, plOf, rng1D, bNm, mSl, mPt, mNoP, slD, mPar, keepT, tmsO, setA, mFlow, zipX, enumX, itemsX, intsOf, ints_all, boolsOf, shaped_lay, lay_int, lay_bool, lay_none, lay_dict, lay_tup, lay_list, lay_ints, sortX_ints, mPlF, mPlI, mRd, mPU, mPB, mFSet, mFNew, mNSet, mPApp, mPSetIx, mPPop, mMeth, mNew, isIns, cellO, mLstN, mAddN, mAppN, semX, mTold, mCallX, xRet, xExpr, xSet, mRaise, mM, isL, isS, mOrV, truD, mDNew, mDIn, mDGet, mDLen, mDPut, kyD, mNNew, mN1, mTake, mFnV, mCallF, mNIn, mNGet, mNPut, mNVals, mNList, nKs, mDGetD, mDList, mNNe, *])
theorem sm_1 {P P2 : List PyData} {m v : Int} (f : g_law_draw [.ls P, .sh (.int (m + 1))] = some (.sh (.int v), [.ls P2, .sh (.int (m + 1))])) : (mSet [0, 1] 2 (mCall [true, true] g_law_draw (mCons (mPl 0) (mCons (mTm (mB (binD .Add) (mPl 1) (mTm (mK (.int 1))))) (mNil))))) [.ls P, .sh (.int m), .no, .no] = some (.nx, [.ls P2, .sh (.int m), .sh (.int v), .no]) := by
  generalize g_law_draw = G at *
  walk_at "es"
theorem sm_2 {P P2 P3 : List PyData} {m v a b : Int} (f1 : g_law_draw [.ls P, .sh (.int 9)] = some (.sh (.int a), [.ls P2, .sh (.int 9)])) (f2 : g_law_draw [.ls P2, .sh (.int 9)] = some (.sh (.int b), [.ls P3, .sh (.int 9)])) : (mSet [0, 1] 3 (mTup (mCons (mTm (mCall [true, true] g_law_draw (mCons (mPl 0) (mCons (mTm (mK (.int 9))) (mNil))))) (mCons (mTm (mB (binD .Add) (mTm (mK (.int 1))) (mTm (mCall [true, true] g_law_draw (mCons (mPl 0) (mCons (mTm (mK (.int 9))) (mNil))))))) (mCons (mPl 2) (mNil)))))) [.ls P, .sh (.int m), .sh (.int v), .no] = some (.nx, [.ls P3, .sh (.int m), .sh (.int v), .sh (.tuple [.int a, .int (1 + b), .int v])]) := by
  generalize g_law_draw = G at *
  walk_at "es"
theorem sm_3 {P P2 P3 : List PyData} {m v a b x w f : Int} (f1 : g_law_draw [.ls P, .sh (.int (v + 1))] = some (.sh (.int x), [.ls P2, .sh (.int (v + 1))])) (f2 : g_law_draw [.ls P2, .sh (.int 3)] = some (.sh (.int w), [.ls P3, .sh (.int 3)])) (h : atI ([.int 0, .int v, .int x] : List PyData) w = some (.int f)) : (mRet (mB (binD .Add) (mPl 3) (mTm (mTup (mCons (mTm (mB ixD (mTm (mLst (mCons (mTm (mK (.int 0))) (mCons (mPl 2) (mCons (mTm (mCall [true, true] g_law_draw (mCons (mPl 0) (mCons (mTm (mB (binD .Add) (mPl 2) (mTm (mK (.int 1))))) (mNil))))) (mNil)))))) (mTm (mCall [true, true] g_law_draw (mCons (mPl 0) (mCons (mTm (mK (.int 3))) (mNil))))))) (mNil)))))) [.ls P, .sh (.int m), .sh (.int v), .sh (.tuple [.int a, .int b, .int v])] = some (.rt (.sh (.tuple [.int a, .int b, .int v, .int f])), [.ls P3, .sh (.int m), .sh (.int v), .sh (.tuple [.int a, .int b, .int v])]) := by
  generalize g_law_draw = G at *
  walk_at "es"
theorem f_b {v x f : Int} {p : Pn} (h0 : 0 ≤ v) (h1 : 0 ≤ x ∧ x < v + 1) (e : gt [0, v, x] (dr p 3) = f) : 0 ≤ f ∧ f ≤ v := by
  rw [← e]
  exact gd3 (P := fun f => 0 ≤ f ∧ f ≤ v) ⟨by omega, by omega, by omega⟩
theorem law_small_eq (p : Pn) {m : Int} (hm : 0 ≤ m ∧ m ≤ 1000) : Rt (g_law_small [.ls (penL p), .sh (.int m)]) fun c cs => ∃ (z : Pz) (q : Pn), z.Ok ∧ z.c ≤ m ∧ z.p ≤ 8 ∧ z.r ≤ 9 ∧ c = .sh z.d ∧ cs = [.ls (penL q), .sh (.int m)] := by
  unfold g_law_small m_law_small
  apply rt_sem rfl
  have d1 := draw_eq p (m + 1) (by omega) ⟨by omega, by omega⟩
  have v1 := dr_ab p (m + 1) (by omega)
  apply wx_nx (sm_1 d1)
  generalize dr p (m + 1) = v at *
  generalize dn p (m + 1) = p1 at *
  have d2 := draw_eq p1 9 (by decide) ⟨by decide, by decide⟩
  have v2 := dr_ab p1 9 (by decide)
  have d3 := draw_eq (dn p1 9) 9 (by decide) ⟨by decide, by decide⟩
  have v3 := dr_ab (dn p1 9) 9 (by decide)
  apply wx_nx (sm_2 d2 d3)
  generalize dr (dn p1 9) 9 = b at *
  generalize dr p1 9 = a at *
  generalize dn (dn p1 9) 9 = p2 at *
  have d4 := draw_eq p2 (v + 1) (by omega) ⟨by omega, by omega⟩
  have v4 := dr_ab p2 (v + 1) (by omega)
  generalize dr p2 (v + 1) = x at *
  generalize dn p2 (v + 1) = p3 at *
  have d5 := draw_eq p3 3 (by decide) ⟨by decide, by decide⟩
  generalize hf : gt [0, v, x] (dr p3 3) = f
  have hfb := f_b (by omega) v4 hf
  refine wx_rt (sm_3 d4 d5 (by rw [← hf]; exact pkd3)) ⟨⟨a, 1 + b, v, f⟩, _, ⟨by dsimp only; omega, by dsimp only; omega, by dsimp only; omega, by dsimp only; omega, by dsimp only; omega, by dsimp only; omega, by dsimp only; omega⟩, by dsimp only; omega, by dsimp only; omega, by dsimp only; omega, rfl, rfl⟩
abbrev pur : List PyData := [.tuple [.int 4, .int 4, .int 20], .tuple [.int 12, .int 12, .int 60], .tuple [.int 60, .int 40, .int 200], .tuple [.int 1001, .int 1000, .int 10001]]
theorem pur_at {w : Int} (h0 : 0 ≤ w) (h1 : w < 4) : ∃ a b c : Int, atI pur w = some (.tuple [.int a, .int b, .int c]) ∧ (1 ≤ a ∧ a ≤ 1001) ∧ (1 ≤ b ∧ b ≤ 1000) ∧ (1 ≤ c ∧ c ≤ 10001) := by
  have : w = 0 ∨ w = 1 ∨ w = 2 ∨ w = 3 := by omega
  rcases this with rfl | rfl | rfl | rfl
  · exact ⟨4, 4, 20, rfl, by decide, by decide, by decide⟩
  · exact ⟨12, 12, 60, rfl, by decide, by decide, by decide⟩
  · exact ⟨60, 40, 200, rfl, by decide, by decide, by decide⟩
  · exact ⟨1001, 1000, 10001, rfl, by decide, by decide, by decide⟩
theorem pu_1 {P P2 : List PyData} {v : Int} (f : g_law_draw [.ls P, .sh (.int 4)] = some (.sh (.int v), [.ls P2, .sh (.int 4)])) : (mSet [0] 1 (mCall [true, true] g_law_draw (mCons (mPl 0) (mCons (mTm (mK (.int 4))) (mNil))))) [.ls P, .no, .no, .no, .no, .no] = some (.nx, [.ls P2, .sh (.int v), .no, .no, .no, .no]) := by
  generalize g_law_draw = G at *
  walk_at "es"
theorem pu_2 {P : List PyData} {v a b c : Int} (h : atI pur v = some (.tuple [.int a, .int b, .int c])) : (mAsg [2, 3, 4] [0] (bTup [bNm 2, bNm 3, bNm 4]) (mB ixD (mTm (mLst (mCons (mTm (mTup (mCons (mTm (mK (.int 4))) (mCons (mTm (mK (.int 4))) (mCons (mTm (mK (.int 20))) (mNil)))))) (mCons (mTm (mTup (mCons (mTm (mK (.int 12))) (mCons (mTm (mK (.int 12))) (mCons (mTm (mK (.int 60))) (mNil)))))) (mCons (mTm (mTup (mCons (mTm (mK (.int 60))) (mCons (mTm (mK (.int 40))) (mCons (mTm (mK (.int 200))) (mNil)))))) (mCons (mTm (mTup (mCons (mTm (mK (.int 1001))) (mCons (mTm (mK (.int 1000))) (mCons (mTm (mK (.int 10001))) (mNil)))))) (mNil))))))) (mPl 1))) [.ls P, .sh (.int v), .no, .no, .no, .no] = some (.nx, [.ls P, .sh (.int v), .sh (.int a), .sh (.int b), .sh (.int c), .no]) := by
  walk_at "es"
theorem pu_3 {P P2 P3 P4 : List PyData} {c1 : C} {a b c x y w : Int} (f1 : g_law_draw [.ls P, .sh (.int a)] = some (.sh (.int x), [.ls P2, .sh (.int a)])) (f2 : g_law_draw [.ls P2, .sh (.int b)] = some (.sh (.int y), [.ls P3, .sh (.int b)])) (f3 : g_law_draw [.ls P3, .sh (.int c)] = some (.sh (.int w), [.ls P4, .sh (.int c)])) : (mSet [0] 5 (mTup (mCons (mTm (mCall [true, true] g_law_draw (mCons (mPl 0) (mCons (mPl 2) (mNil))))) (mCons (mTm (mB (binD .Add) (mTm (mK (.int 1))) (mTm (mCall [true, true] g_law_draw (mCons (mPl 0) (mCons (mPl 3) (mNil))))))) (mCons (mTm (mCall [true, true] g_law_draw (mCons (mPl 0) (mCons (mPl 4) (mNil))))) (mNil)))))) [.ls P, c1, .sh (.int a), .sh (.int b), .sh (.int c), .no] = some (.nx, [.ls P4, c1, .sh (.int a), .sh (.int b), .sh (.int c), .sh (.tuple [.int x, .int (1 + y), .int w])]) := by
  generalize g_law_draw = G at *
  walk_at "es"
theorem pu_4 {P P2 P3 : List PyData} {c1 c2 c3 c4 : C} {v a b x w f : Int} (f1 : g_law_draw [.ls P, .sh (.int (v + 1))] = some (.sh (.int x), [.ls P2, .sh (.int (v + 1))])) (f2 : g_law_draw [.ls P2, .sh (.int 3)] = some (.sh (.int w), [.ls P3, .sh (.int 3)])) (h : atI ([.int 0, .int v, .int x] : List PyData) w = some (.int f)) : (mRet (mB (binD .Add) (mPl 5) (mTm (mTup (mCons (mTm (mB ixD (mTm (mLst (mCons (mTm (mK (.int 0))) (mCons (mTm (mB ixD (mPl 5) (mTm (mK (.int 2))))) (mCons (mTm (mCall [true, true] g_law_draw (mCons (mPl 0) (mCons (mTm (mB (binD .Add) (mTm (mB ixD (mPl 5) (mTm (mK (.int 2))))) (mTm (mK (.int 1))))) (mNil))))) (mNil)))))) (mTm (mCall [true, true] g_law_draw (mCons (mPl 0) (mCons (mTm (mK (.int 3))) (mNil))))))) (mNil)))))) [.ls P, c1, c2, c3, c4, .sh (.tuple [.int a, .int b, .int v])] = some (.rt (.sh (.tuple [.int a, .int b, .int v, .int f])), [.ls P3, c1, c2, c3, c4, .sh (.tuple [.int a, .int b, .int v])]) := by
  generalize g_law_draw = G at *
  walk_at "es"
theorem law_purse_eq (p : Pn) : Rt (g_law_purse [.ls (penL p)]) fun c cs => ∃ (z : Pz) (q : Pn), z.Ok ∧ c = .sh z.d ∧ cs = [.ls (penL q)] := by
  unfold g_law_purse m_law_purse
  apply rt_sem rfl
  have d1 := draw_eq p 4 (by decide) ⟨by decide, by decide⟩
  have v1 := dr_ab p 4 (by decide)
  obtain ⟨a, b, c, hat, ha, hb, hc⟩ := pur_at v1.1 v1.2
  apply wx_nx (pu_1 d1)
  apply wx_nx (pu_2 hat)
  clear hat d1
  generalize dr p 4 = v at *
  generalize dn p 4 = p1 at *
  have d2 := draw_eq p1 a (by omega) ⟨by omega, by omega⟩
  have v2 := dr_ab p1 a (by omega)
  generalize dr p1 a = x at *
  generalize dn p1 a = p2 at *
  have d3 := draw_eq p2 b (by omega) ⟨by omega, by omega⟩
  have v3 := dr_ab p2 b (by omega)
  generalize dr p2 b = y at *
  generalize dn p2 b = p3 at *
  have d4 := draw_eq p3 c (by omega) ⟨by omega, by omega⟩
  have v4 := dr_ab p3 c (by omega)
  generalize dr p3 c = w at *
  generalize dn p3 c = p4 at *
  apply wx_nx (pu_3 d2 d3 d4)
  have d5 := draw_eq p4 (w + 1) (by omega) ⟨by omega, by omega⟩
  have v5 := dr_ab p4 (w + 1) (by omega)
  generalize dr p4 (w + 1) = u at *
  generalize dn p4 (w + 1) = p5 at *
  have d6 := draw_eq p5 3 (by decide) ⟨by decide, by decide⟩
  generalize hf : gt [0, w, u] (dr p5 3) = f
  have hfb := f_b (by omega) v5 hf
  refine wx_rt (pu_4 d5 d6 (by rw [← hf]; exact pkd3)) ⟨⟨x, 1 + y, w, f⟩, _, ⟨by dsimp only; omega, by dsimp only; omega, by dsimp only; omega, by dsimp only; omega, by dsimp only; omega, by dsimp only; omega, by dsimp only; omega⟩, rfl, rfl⟩
theorem mp_1 {z : Pz} {M v : Int} (f : g_paid_turns [.sh z.d, .sh (.int z.f), .sh (.int M)] = some (.sh (.int v), [.sh z.d, .sh (.int z.f), .sh (.int M)])) : g_most_paid [.sh z.d, .sh (.int M)] = some (.sh (.int v), [.sh z.d, .sh (.int M)]) := by
  unfold g_most_paid m_most_paid
  unfold Pz.d at *
  generalize g_paid_turns = G at *
  walk_at "es"
theorem most_paid_eq {z : Pz} (h : z.Ok) {M : Nat} (hM : M ≤ 10 ^ 12) : g_most_paid [.sh z.d, .sh (.int (M : Int))] = some (.sh (.int (gr z z.f M)), [.sh z.d, .sh (.int (M : Int))]) := mp_1 (paid_turns_eq h h.f0 hM)
end KW
namespace KW
open PySem PySem.Spec PyProof.Rows L2 L2.M
local macro_rules | `(tactic| walk_at "ev") => `(tactic| simp [semF, shared, after, mSeq, mSkip, mIf, mRet, mRetN, mRetV, mSet, mSetIx, mExpr, mB, mU, mTm, mPl, mK, mVar, mOp, mCons, mNil, bor, bors, mTst, mAndT, mOrT, mNotT, mAndE, mOrE, mNotE, mIfE, mIsi, isiD, mChn, chnL, cmpD, binD, addD, subD, mulD, modD, fdivD, powD, eqD, neD, ltD, leD, gtD, geD, isD, isnD, L2.M.isNon, negD, ixD, Bf.f, Bg.f, lenD, L2.M.intD, maxD, minD, repD, strD, gmaxD, gminD, sumD, sortD, anyD, allD, mCall, frz, fzO, lend, wb, mTup, mLst, fzs, cD, mAsg, bTup, bTps, mApp, tupD, lstD, mRev, revD, ofs_inj, ee_ii, ee_ss, ee_bb, ee_nn, ee_is, ee_si, ee_in, ee_ni, ee_tt, ee_ll, ee_maps, ee_0, ee_1, ee_2, ee_3, at_lit, at_nat, at_m1, at_m2, scD, emD, sizeLine_eq, ixN, sm_lit, mSrc, itemsD, plOf, rng1D, bNm, mSl, mPt, mNoP, slD, mPar, keepT, tmsO, setA, mFlow, zipX, enumX, itemsX, intsOf, ints_all, boolsOf, shaped_lay, lay_int, lay_bool, lay_none, lay_dict, lay_tup, lay_list, lay_ints, sortX_ints, mPlF, mPlI, mRd, mPU, mPB, mFSet, mFNew, mNSet, mPApp, mPSetIx, mPPop, mMeth, mNew, isIns, cellO, mLstN, mAddN, mAppN, semX, mTold, mCallX, xRet, xExpr, xSet, mRaise, mM, isL, isS, mOrV, truD])
local macro_rules | `(tactic| walk_at "es") => `(tactic| simp [semF, shared, after, mSeq, mSkip, mIf, mRet, mRetN, mRetV, mSet, mSetIx, mExpr, mB, mU, mTm, mPl, mK, mVar, mOp, mCons, mNil, bor, bors, mTst, mAndT, mOrT, mNotT, mAndE, mOrE, mNotE, mIfE, mIsi, isiD, mChn, chnL, cmpD, binD, addD, subD, mulD, modD, fdivD, powD, eqD, neD, ltD, leD, gtD, geD, isD, isnD, L2.M.isNon, negD, ixD, Bf.f, Bg.f, lenD, L2.M.intD, maxD, minD, repD, strD, gmaxD, gminD, sumD, sortD, anyD, allD, mCall, frz, fzO, lend, wb, mTup, mLst, fzs, cD, mAsg, bTup, bTps, mApp, tupD, lstD, mRev, revD, ofs_inj, ee_ii, ee_ss, ee_bb, ee_nn, ee_is, ee_si, ee_in, ee_ni, ee_tt, ee_ll, ee_maps, ee_0, ee_1, ee_2, ee_3, at_lit, at_nat, at_m1, at_m2, scD, emD, sizeLine_eq, ixN, sm_lit, mSrc, itemsD, plOf, rng1D, bNm, mSl, mPt, mNoP, slD, mPar, keepT, tmsO, setA, mFlow, zipX, enumX, itemsX, intsOf, ints_all, boolsOf, shaped_lay, lay_int, lay_bool, lay_none, lay_dict, lay_tup, lay_list, lay_ints, sortX_ints, mPlF, mPlI, mRd, mPU, mPB, mFSet, mFNew, mNSet, mPApp, mPSetIx, mPPop, mMeth, mNew, isIns, cellO, mLstN, mAddN, mAppN, semX, mTold, mCallX, xRet, xExpr, xSet, mRaise, mM, isL, isS, mOrV, truD, *])
local macro_rules | `(tactic| walk_at "el") => `(tactic| simp [semF, shared, after, mSeq, mSkip, mIf, mRet, mRetN, mRetV, mSet, mSetIx, mExpr, mB, mU, mTm, mPl, mK, mVar, mOp, mCons, mNil, bor, bors, mTst, mAndT, mOrT, mNotT, mAndE, mOrE, mNotE, mIfE, mIsi, isiD, mChn, chnL, cmpD, binD, addD, subD, mulD, modD, fdivD, powD, eqD, neD, ltD, leD, gtD, geD, isD, isnD, L2.M.isNon, negD, ixD, Bf.f, Bg.f, lenD, L2.M.intD, maxD, minD, repD, strD, gmaxD, gminD, sumD, sortD, anyD, allD, mCall, frz, fzO, lend, wb, mTup, mLst, fzs, cD, mAsg, bTup, bTps, mApp, tupD, lstD, mRev, revD, ofs_inj, ee_ii, ee_ss, ee_bb, ee_nn, ee_is, ee_si, ee_in, ee_ni, ee_tt, ee_ll, ee_maps, ee_0, ee_1, ee_2, ee_3, at_lit, at_nat, at_m1, at_m2, scD, emD, sizeLine_eq, ixN, sm_lit, mSrc, itemsD, plOf, rng1D, bNm, mSl, mPt, mNoP, slD, mPar, keepT, tmsO, setA, mFlow, zipX, enumX, itemsX, intsOf, ints_all, boolsOf, shaped_lay, lay_int, lay_bool, lay_none, lay_dict, lay_tup, lay_list, lay_ints, sortX_ints, mPlF, mPlI, mRd, mPU, mPB, mFSet, mFNew, mNSet, mPApp, mPSetIx, mPPop, mMeth, mNew, isIns, cellO, mLstN, mAddN, mAppN, semX, mTold, mCallX, xRet, xExpr, xSet, mRaise, mM, isL, isS, mOrV, truD, mLc, lcL, sameC, wipeC, restC, mYes, *])
local macro_rules | `(tactic| walk_at "ef") => `(tactic| simp [semF, shared, after, mSeq, mSkip, mIf, mRet, mRetN, mRetV, mSet, mSetIx, mExpr, mB, mU, mTm, mPl, mK, mVar, mOp, mCons, mNil, bor, bors, mTst, mAndT, mOrT, mNotT, mAndE, mOrE, mNotE, mIfE, mIsi, isiD, mChn, chnL, cmpD, binD, addD, subD, mulD, modD, fdivD, powD, eqD, neD, ltD, leD, gtD, geD, isD, isnD, L2.M.isNon, negD, ixD, Bf.f, Bg.f, lenD, L2.M.intD, maxD, minD, repD, strD, gmaxD, gminD, sumD, sortD, anyD, allD, mCall, frz, fzO, lend, wb, mTup, mLst, fzs, cD, mAsg, bTup, bTps, mApp, tupD, lstD, mRev, revD, ofs_inj, ee_ii, ee_ss, ee_bb, ee_nn, ee_is, ee_si, ee_in, ee_ni, ee_tt, ee_ll, ee_maps, ee_0, ee_1, ee_2, ee_3, at_lit, at_nat, at_m1, at_m2, scD, emD, sizeLine_eq, ixN, sm_lit, mSrc, itemsD, plOf, rng1D, bNm, mSl, mPt, mNoP, slD, mPar, keepT, tmsO, setA, mFlow, zipX, enumX, itemsX, intsOf, ints_all, boolsOf, shaped_lay, lay_int, lay_bool, lay_none, lay_dict, lay_tup, lay_list, lay_ints, sortX_ints, mPlF, mPlI, mRd, mPU, mPB, mFSet, mFNew, mNSet, mPApp, mPSetIx, mPPop, mMeth, mNew, isIns, cellO, mLstN, mAddN, mAppN, semX, mTold, mCallX, xRet, xExpr, xSet, mRaise, mM, isL, isS, mOrV, truD, mFor, forL, mLc, lcL, sameC, wipeC, restC, mYes, *])
local macro_rules | `(tactic| walk_at "rg") => `(tactic| (and_intros <;> grind))
local macro_rules | `(tactic| walk_at "nx") => `(tactic| (apply wx_nx; focus (walk_at "ev"; try first | exact ⟨rfl, rfl⟩ | rfl)))
local macro_rules | `(tactic| walk_at "ns") => `(tactic| (apply wx_nx; focus (walk_at "es"; try first | exact ⟨rfl, rfl⟩ | rfl)))
local macro_rules | `(tactic| walk_at "rt") => `(tactic| (apply wx_rt; focus (walk_at "ev"; try first | exact ⟨rfl, rfl⟩ | rfl)))
local macro_rules | `(tactic| walk_at "rs") => `(tactic| (apply wx_rt; focus (walk_at "es"; try first | exact ⟨rfl, rfl⟩ | rfl)))
local macro_rules | `(tactic| walk_at "ed") => `(tactic| simp [semF, shared, after, mSeq, mSkip, mIf, mRet, mRetN, mRetV, mSet, mSetIx, mExpr, mB, mU, mTm, mPl, mK, mVar, mOp, mCons, mNil, bor, bors, mTst, mAndT, mOrT, mNotT, mAndE, mOrE, mNotE, mIfE, mIsi, isiD, mChn, chnL, cmpD, binD, addD, subD, mulD, modD, fdivD, powD, eqD, neD, ltD, leD, gtD, geD, isD, isnD, L2.M.isNon, negD, ixD, Bf.f, Bg.f, lenD, L2.M.intD, maxD, minD, repD, strD, gmaxD, gminD, sumD, sortD, anyD, allD, mCall, frz, fzO, lend, wb, mTup, mLst, fzs, cD, mAsg, bTup, bTps, mApp, tupD, lstD, mRev, revD, ofs_inj, ee_ii, ee_ss, ee_bb, ee_nn, ee_is, ee_si, ee_in, ee_ni, ee_tt, ee_ll, ee_maps, ee_0, ee_1, ee_2, ee_3, at_lit, at_nat, at_m1, at_m2, scD, emD, sizeLine_eq, ixN, sm_lit, mSrc, itemsD, plOf, rng1D, bNm, mSl, mPt, mNoP, slD, mPar, keepT, tmsO, setA, mFlow, zipX, enumX, itemsX, intsOf, ints_all, boolsOf, shaped_lay, lay_int, lay_bool, lay_none, lay_dict, lay_tup, lay_list, lay_ints, sortX_ints, mPlF, mPlI, mRd, mPU, mPB, mFSet, mFNew, mNSet, mPApp, mPSetIx, mPPop, mMeth, mNew, isIns, cellO, mLstN, mAddN, mAppN, semX, mTold, mCallX, xRet, xExpr, xSet, mRaise, mM, isL, isS, mOrV, truD, mDNew, mDIn, mDGet, mDLen, mDPut, kyD, mNNew, mN1, mTake, mFnV, mCallF, mNIn, mNGet, mNPut, mNVals, mNList, nKs, mDGetD, mDList, mNNe, *])
open PySem.StrLaws PySem.Builtin PySem.Builtin.Str
theorem occ_cnt (x : Str) (c : Nat) : ∀ (k j : Nat) (st : Array Nat × Nat), st.1.size ≤ j → st.2 ≤ j → j + k = x.length + 1 → (forIn (List.range' j k) st (occBody x ⟨#[c]⟩ x.length (x.length + 1))).run.fst.size = st.1.size + ((cpsL x).drop j).count c
  | 0, j, st, h1, h2, h3 => by
    have : (cpsL x).drop j = [] := List.drop_eq_nil_of_le (by rw [len_cps]; omega)
    rw [this]
    rfl
  | k + 1, j, st, h1, h2, h3 => by
    rw [List.range'_succ, List.forIn_cons]
    unfold occBody
    by_cases hc : (cpsL x)[j]? = some c
    · have h := (subAt_one x c j).mpr hc
      rw [if_pos ⟨⟨⟨by omega, h2⟩, h.1⟩, h.2⟩]
      have ih := occ_cnt x c k (j + 1) (st.1.push j, j + 1) (by simp; omega) (Nat.le_refl _) (by omega)
      obtain ⟨hj, e⟩ := List.getElem?_eq_some_iff.mp hc
      have e2 : ((cpsL x).drop j).count c = ((cpsL x).drop (j + 1)).count c + 1 := by
        rw [List.drop_eq_getElem_cons hj, e, List.count_cons_self]
      rw [e2]
      refine ih.trans ?_
      rw [Array.size_push]
      omega
    · have h : ¬ (j + (⟨#[c]⟩ : Str).length ≤ x.length ∧ subAt x ⟨#[c]⟩ j = true) := fun q => hc ((subAt_one x c j).mp q)
      rw [if_neg fun q => h ⟨q.1.2, q.2⟩]
      have ih := occ_cnt x c k (j + 1) (st.1, st.2) (by show st.1.size ≤ j + 1; omega) (by show st.2 ≤ j + 1; omega) (by omega)
      have e2 : ((cpsL x).drop j).count c = ((cpsL x).drop (j + 1)).count c := by
        by_cases hj : j < (cpsL x).length
        · rw [List.drop_eq_getElem_cons hj, List.count_cons_of_ne]
          intro q
          rw [List.getElem?_eq_getElem hj] at hc
          exact hc (congrArg some q)
        · rw [List.drop_eq_nil_of_le (by omega), List.drop_eq_nil_of_le (by omega)]
      rw [e2]
      exact ih
theorem count_one (x : Str) (c : Nat) : Txt.count x ⟨#[c]⟩ = (((cpsL x).count c : Nat) : Int) := by
  unfold Txt.count
  rw [occ_eq, Array.length_toList]
  have h := occ_cnt x c (x.length + 1 - 0) 0 (#[], 0) (Nat.le_refl _) (Nat.le_refl _) (by omega)
  rw [h]
  simp
end KW
namespace KW
open PySem PySem.Spec PyProof.Rows L2 L2.M
local macro_rules | `(tactic| walk_at "ev") => `(tactic| simp [semF, shared, after, mSeq, mSkip, mIf, mRet, mRetN, mRetV, mSet, mSetIx, mExpr, mB, mU, mTm, mPl, mK, mVar, mOp, mCons, mNil, bor, bors, mTst, mAndT, mOrT, mNotT, mAndE, mOrE, mNotE, mIfE, mIsi, isiD, mChn, chnL, cmpD, binD, addD, subD, mulD, modD, fdivD, powD, eqD, neD, ltD, leD, gtD, geD, isD, isnD, L2.M.isNon, negD, ixD, Bf.f, Bg.f, lenD, L2.M.intD, maxD, minD, repD, strD, gmaxD, gminD, sumD, sortD, anyD, allD, mCall, frz, fzO, lend, wb, mTup, mLst, fzs, cD, mAsg, bTup, bTps, mApp, tupD, lstD, mRev, revD, ofs_inj, ee_ii, ee_ss, ee_bb, ee_nn, ee_is, ee_si, ee_in, ee_ni, ee_tt, ee_ll, ee_maps, ee_0, ee_1, ee_2, ee_3, at_lit, at_nat, at_m1, at_m2, scD, emD, sizeLine_eq, ixN, sm_lit, mSrc, itemsD, plOf, rng1D, bNm, mSl, mPt, mNoP, slD, mPar, keepT, tmsO, setA, mFlow, zipX, enumX, itemsX, intsOf, ints_all, boolsOf, shaped_lay, lay_int, lay_bool, lay_none, lay_dict, lay_tup, lay_list, lay_ints, sortX_ints, mPlF, mPlI, mRd, mPU, mPB, mFSet, mFNew, mNSet, mPApp, mPSetIx, mPPop, mMeth, mNew, isIns, cellO, mLstN, mAddN, mAppN, semX, mTold, mCallX, xRet, xExpr, xSet, mRaise, mM, isL, isS, mOrV, truD])
local macro_rules | `(tactic| walk_at "es") => `(tactic| simp [semF, shared, after, mSeq, mSkip, mIf, mRet, mRetN, mRetV, mSet, mSetIx, mExpr, mB, mU, mTm, mPl, mK, mVar, mOp, mCons, mNil, bor, bors, mTst, mAndT, mOrT, mNotT, mAndE, mOrE, mNotE, mIfE, mIsi, isiD, mChn, chnL, cmpD, binD, addD, subD, mulD, modD, fdivD, powD, eqD, neD, ltD, leD, gtD, geD, isD, isnD, L2.M.isNon, negD, ixD, Bf.f, Bg.f, lenD, L2.M.intD, maxD, minD, repD, strD, gmaxD, gminD, sumD, sortD, anyD, allD, mCall, frz, fzO, lend, wb, mTup, mLst, fzs, cD, mAsg, bTup, bTps, mApp, tupD, lstD, mRev, revD, ofs_inj, ee_ii, ee_ss, ee_bb, ee_nn, ee_is, ee_si, ee_in, ee_ni, ee_tt, ee_ll, ee_maps, ee_0, ee_1, ee_2, ee_3, at_lit, at_nat, at_m1, at_m2, scD, emD, sizeLine_eq, ixN, sm_lit, mSrc, itemsD, plOf, rng1D, bNm, mSl, mPt, mNoP, slD, mPar, keepT, tmsO, setA, mFlow, zipX, enumX, itemsX, intsOf, ints_all, boolsOf, shaped_lay, lay_int, lay_bool, lay_none, lay_dict, lay_tup, lay_list, lay_ints, sortX_ints, mPlF, mPlI, mRd, mPU, mPB, mFSet, mFNew, mNSet, mPApp, mPSetIx, mPPop, mMeth, mNew, isIns, cellO, mLstN, mAddN, mAppN, semX, mTold, mCallX, xRet, xExpr, xSet, mRaise, mM, isL, isS, mOrV, truD, *])
local macro_rules | `(tactic| walk_at "el") => `(tactic| simp [semF, shared, after, mSeq, mSkip, mIf, mRet, mRetN, mRetV, mSet, mSetIx, mExpr, mB, mU, mTm, mPl, mK, mVar, mOp, mCons, mNil, bor, bors, mTst, mAndT, mOrT, mNotT, mAndE, mOrE, mNotE, mIfE, mIsi, isiD, mChn, chnL, cmpD, binD, addD, subD, mulD, modD, fdivD, powD, eqD, neD, ltD, leD, gtD, geD, isD, isnD, L2.M.isNon, negD, ixD, Bf.f, Bg.f, lenD, L2.M.intD, maxD, minD, repD, strD, gmaxD, gminD, sumD, sortD, anyD, allD, mCall, frz, fzO, lend, wb, mTup, mLst, fzs, cD, mAsg, bTup, bTps, mApp, tupD, lstD, mRev, revD, ofs_inj, ee_ii, ee_ss, ee_bb, ee_nn, ee_is, ee_si, ee_in, ee_ni, ee_tt, ee_ll, ee_maps, ee_0, ee_1, ee_2, ee_3, at_lit, at_nat, at_m1, at_m2, scD, emD, sizeLine_eq, ixN, sm_lit, mSrc, itemsD, plOf, rng1D, bNm, mSl, mPt, mNoP, slD, mPar, keepT, tmsO, setA, mFlow, zipX, enumX, itemsX, intsOf, ints_all, boolsOf, shaped_lay, lay_int, lay_bool, lay_none, lay_dict, lay_tup, lay_list, lay_ints, sortX_ints, mPlF, mPlI, mRd, mPU, mPB, mFSet, mFNew, mNSet, mPApp, mPSetIx, mPPop, mMeth, mNew, isIns, cellO, mLstN, mAddN, mAppN, semX, mTold, mCallX, xRet, xExpr, xSet, mRaise, mM, isL, isS, mOrV, truD, mLc, lcL, sameC, wipeC, restC, mYes, *])
local macro_rules | `(tactic| walk_at "ef") => `(tactic| simp [semF, shared, after, mSeq, mSkip, mIf, mRet, mRetN, mRetV, mSet, mSetIx, mExpr, mB, mU, mTm, mPl, mK, mVar, mOp, mCons, mNil, bor, bors, mTst, mAndT, mOrT, mNotT, mAndE, mOrE, mNotE, mIfE, mIsi, isiD, mChn, chnL, cmpD, binD, addD, subD, mulD, modD, fdivD, powD, eqD, neD, ltD, leD, gtD, geD, isD, isnD, L2.M.isNon, negD, ixD, Bf.f, Bg.f, lenD, L2.M.intD, maxD, minD, repD, strD, gmaxD, gminD, sumD, sortD, anyD, allD, mCall, frz, fzO, lend, wb, mTup, mLst, fzs, cD, mAsg, bTup, bTps, mApp, tupD, lstD, mRev, revD, ofs_inj, ee_ii, ee_ss, ee_bb, ee_nn, ee_is, ee_si, ee_in, ee_ni, ee_tt, ee_ll, ee_maps, ee_0, ee_1, ee_2, ee_3, at_lit, at_nat, at_m1, at_m2, scD, emD, sizeLine_eq, ixN, sm_lit, mSrc, itemsD, plOf, rng1D, bNm, mSl, mPt, mNoP, slD, mPar, keepT, tmsO, setA, mFlow, zipX, enumX, itemsX, intsOf, ints_all, boolsOf, shaped_lay, lay_int, lay_bool, lay_none, lay_dict, lay_tup, lay_list, lay_ints, sortX_ints, mPlF, mPlI, mRd, mPU, mPB, mFSet, mFNew, mNSet, mPApp, mPSetIx, mPPop, mMeth, mNew, isIns, cellO, mLstN, mAddN, mAppN, semX, mTold, mCallX, xRet, xExpr, xSet, mRaise, mM, isL, isS, mOrV, truD, mFor, forL, mLc, lcL, sameC, wipeC, restC, mYes, *])
local macro_rules | `(tactic| walk_at "rg") => `(tactic| (and_intros <;> grind))
local macro_rules | `(tactic| walk_at "nx") => `(tactic| (apply wx_nx; focus (walk_at "ev"; try first | exact ⟨rfl, rfl⟩ | rfl)))
local macro_rules | `(tactic| walk_at "ns") => `(tactic| (apply wx_nx; focus (walk_at "es"; try first | exact ⟨rfl, rfl⟩ | rfl)))
local macro_rules | `(tactic| walk_at "rt") => `(tactic| (apply wx_rt; focus (walk_at "ev"; try first | exact ⟨rfl, rfl⟩ | rfl)))
local macro_rules | `(tactic| walk_at "rs") => `(tactic| (apply wx_rt; focus (walk_at "es"; try first | exact ⟨rfl, rfl⟩ | rfl)))
local macro_rules | `(tactic| walk_at "ed") => `(tactic| simp [semF, shared, after, mSeq, mSkip, mIf, mRet, mRetN, mRetV, mSet, mSetIx, mExpr, mB, mU, mTm, mPl, mK, mVar, mOp, mCons, mNil, bor, bors, mTst, mAndT, mOrT, mNotT, mAndE, mOrE, mNotE, mIfE, mIsi, isiD, mChn, chnL, cmpD, binD, addD, subD, mulD, modD, fdivD, powD, eqD, neD, ltD, leD, gtD, geD, isD, isnD, L2.M.isNon, negD, ixD, Bf.f, Bg.f, lenD, L2.M.intD, maxD, minD, repD, strD, gmaxD, gminD, sumD, sortD, anyD, allD, mCall, frz, fzO, lend, wb, mTup, mLst, fzs, cD, mAsg, bTup, bTps, mApp, tupD, lstD, mRev, revD, ofs_inj, ee_ii, ee_ss, ee_bb, ee_nn, ee_is, ee_si, ee_in, ee_ni, ee_tt, ee_ll, ee_maps, ee_0, ee_1, ee_2, ee_3, at_lit, at_nat, at_m1, at_m2, scD, emD, sizeLine_eq, ixN, sm_lit, mSrc, itemsD, plOf, rng1D, bNm, mSl, mPt, mNoP, slD, mPar, keepT, tmsO, setA, mFlow, zipX, enumX, itemsX, intsOf, ints_all, boolsOf, shaped_lay, lay_int, lay_bool, lay_none, lay_dict, lay_tup, lay_list, lay_ints, sortX_ints, mPlF, mPlI, mRd, mPU, mPB, mFSet, mFNew, mNSet, mPApp, mPSetIx, mPPop, mMeth, mNew, isIns, cellO, mLstN, mAddN, mAppN, semX, mTold, mCallX, xRet, xExpr, xSet, mRaise, mM, isL, isS, mOrV, truD, mDNew, mDIn, mDGet, mDLen, mDPut, kyD, mNNew, mN1, mTake, mFnV, mCallF, mNIn, mNGet, mNPut, mNVals, mNList, nKs, mDGetD, mDList, mNNe, *])
def sgn (g : Bool) : Nat := if g then 97 else 107
def rwS (z : Pz) (c : Int) : Nat → List Bool
  | 0 => []
  | j + 1 => rwS z c j ++ true :: List.replicate (pin z (cj z c j) / z.r).toNat false
def rwA (z : Pz) (m : Nat) : List Bool := List.replicate (z.f / z.r).toNat false ++ rwS z (z.f % z.r) m
def stp (z : Pz) (u : Int) (g : Bool) : Int := if g then pin z u else u - z.r
def posR (z : Pz) : Int → List Bool → Prop
  | _, [] => True
  | u, g :: bs => 0 ≤ stp z u g ∧ posR z (stp z u g) bs
theorem posR_app (z : Pz) : ∀ (a b : List Bool) (u : Int), posR z u a → posR z (a.foldl (stp z) u) b → posR z u (a ++ b)
  | [], _, _, _, h => h
  | g :: a, b, u, h1, h2 => ⟨h1.1, posR_app z a b _ h1.2 h2⟩
theorem len_ct : ∀ bs : List Bool, bs.length = bs.count true + bs.count false
  | [] => rfl
  | g :: bs => by
    have := len_ct bs
    rw [List.count_cons, List.count_cons, List.length_cons]
    cases g <;> simp <;> omega
section
variable {z : Pz} (h : z.Ok)
include h
theorem rep_fold : ∀ (n : Nat) (u : Int), (List.replicate n false).foldl (stp z) u = u - n * z.r
  | 0, u => by simp
  | n + 1, u => by
    rw [List.replicate_succ, List.foldl_cons, rep_fold n]
    have e : ((n + 1 : Nat) : Int) * z.r = n * z.r + z.r := by
      rw [Int.natCast_add, Int.add_mul]
      simp
    show u - z.r - n * z.r = _
    omega
theorem rep_pos : ∀ (n : Nat) (u : Int), n * z.r ≤ u → posR z u (List.replicate n false)
  | 0, u, _ => trivial
  | n + 1, u, hu => by
    have e : ((n + 1 : Nat) : Int) * z.r = n * z.r + z.r := by
      rw [Int.natCast_add, Int.add_mul]
      simp
    have hr := h.r0
    have hn : 0 ≤ (n : Int) * z.r := Int.mul_nonneg (by omega) (by omega)
    refine ⟨?_, rep_pos n _ ?_⟩
    · show 0 ≤ u - z.r
      omega
    · show _ ≤ u - z.r
      omega
theorem div_tn {u : Int} (hu : 0 ≤ u) : ((u / z.r).toNat : Int) = u / z.r := Int.toNat_of_nonneg (Int.ediv_nonneg hu (by have := h.r0; omega))
theorem rwS_ok {c : Int} (h0 : 0 ≤ c ∧ c < z.r) : ∀ j : Nat, (rwS z c j).count true = j ∧ ((rwS z c j).count false : Int) = sp z c j ∧ (rwS z c j).foldl (stp z) c = cj z c j ∧ posR z c (rwS z c j)
  | 0 => ⟨rfl, rfl, rfl, trivial⟩
  | j + 1 => by
    obtain ⟨i1, i2, i3, i4⟩ := rwS_ok h0 j
    have b := cj_b h h0 j
    have p := pin_b h b.1
    have d := div_tn h p.1
    have e1 := Int.emod_add_mul_ediv (pin z (cj z c j)) z.r
    have m1 := md_b h (pin z (cj z c j))
    rw [Int.mul_comm] at e1
    refine ⟨?_, ?_, ?_, ?_⟩
    · rw [rwS, List.count_append, i1, List.count_cons, List.count_replicate]
      simp
    · rw [rwS, List.count_append, List.count_cons, List.count_replicate, sp_s, ← i2]
      simp
      omega
    · rw [rwS, List.foldl_append, i3, List.foldl_cons, rep_fold h, cj_s]
      show pin z (cj z c j) - _ = _
      rw [d]
      omega
    · refine posR_app z _ _ _ i4 ?_
      rw [i3]
      refine ⟨p.1, rep_pos h _ _ ?_⟩
      show _ ≤ pin z (cj z c j)
      rw [d]
      omega
theorem rwA_ok (m : Nat) : (rwA z m).count true = m ∧ ((rwA z m).count false : Int) = gr z z.f m ∧ posR z z.f (rwA z m) := by
  have h0 := h.f0
  have d := div_tn h h0
  have e1 := Int.emod_add_mul_ediv z.f z.r
  have m1 := md_b h z.f
  rw [Int.mul_comm] at e1
  obtain ⟨i1, i2, i3, i4⟩ := rwS_ok h m1 m
  refine ⟨?_, ?_, ?_⟩
  · rw [rwA, List.count_append, i1, List.count_replicate]
    simp
  · rw [rwA, List.count_append, List.count_replicate, gr_sp, ← i2]
    simp
    omega
  · refine posR_app z _ _ _ (rep_pos h _ _ (by rw [d]; omega)) ?_
    rw [rep_fold h, d]
    have : z.f - z.f / z.r * z.r = z.f % z.r := by omega
    rw [this]
    exact i4
end
theorem rwS_mono (z : Pz) (c : Int) (i : Nat) : ∀ j, (rwS z c i).length ≤ (rwS z c (i + j)).length
  | 0 => Nat.le_refl _
  | j + 1 => by
    have := rwS_mono z c i j
    show _ ≤ (rwS z c (i + j + 1)).length
    rw [rwS, List.length_append]
    omega
theorem rwS_le (z : Pz) (c : Int) {i j : Nat} (h : i ≤ j) : (rwS z c i).length ≤ (rwS z c j).length := by
  have := rwS_mono z c i (j - i)
  rwa [show i + (j - i) = j by omega] at this
theorem k_rep (n : Nat) : cpsL (repS "k" n) = (List.replicate n false).map sgn := by
  have e : cpsL (repS "k" n) = (List.replicate n ("k" : Str).cps.toList).flatten := repS_cps _ _
  rw [e]
  have e2 : ("k" : Str).cps.toList = [107] := rfl
  rw [e2]
  clear e e2
  induction n with
  | zero => rfl
  | succ n ih => rw [List.replicate_succ, List.flatten_cons, ih, List.replicate_succ, List.map_cons]; rfl
theorem smul_k {v : Int} (h : 0 ≤ v ∧ v ≤ 10000) : smulD (.str "k") (.int v) = some (.sh (.str (repS "k" v.toNat))) := by
  simp only [smulD, if_pos (show 0 ≤ v ∧ v ≤ 10000 ∧ ("k" : Str).length ≤ 1000 from ⟨h.1, h.2, by decide⟩)]
theorem len_map {T : Str} {bs : List Bool} (h : cpsL T = bs.map sgn) : T.length = bs.length := by rw [← len_cps, h, List.length_map]
theorem add_str {a b : Str} (h : a.length + b.length ≤ 16777216) : addD (.str a) (.str b) = some (.sh (.str (a ++ b))) := by
  show (if a.length + b.length ≤ sizeLine then some (C.sh (.str (a ++ b))) else none) = _
  rw [if_pos (by rw [sizeLine_eq]; exact h)]
theorem br_1 {z : Pz} {M v : Int} {c2 c3 c4 c5 : C} (f : g_most_paid [.sh z.d, .sh (.int M)] = some (.sh (.int v), [.sh z.d, .sh (.int M)])) : (mSet [0, 1] 2 (mB (binD .Add) (mPl 1) (mTm (mCall [true, true] g_most_paid (mCons (mPl 0) (mCons (mPl 1) (mNil))))))) [.sh z.d, .sh (.int M), c2, c3, c4, c5] = some (.nx, [.sh z.d, .sh (.int M), .sh (.int (M + v)), c3, c4, c5]) := by
  unfold Pz.d at *
  generalize g_most_paid = G at *
  walk_at "es"
theorem br_n {Z : PyData} {c1 c3 c4 c5 : C} {m : Int} (hm : ¬ 200 < m) : (mIf (mTst (mB (cmpD .Gt) (mPl 2) (mTm (mK (.int 200))))) (mSeq (mStuck) (mSkip)) (mSkip)) [.sh Z, c1, .sh (.int m), c3, c4, c5] = some (.nx, [.sh Z, c1, .sh (.int m), c3, c4, c5]) := by
  try generalize mRaiseX _ _ _ = RX at *
  walk_at "es"
theorem br_2 {p r q f : Int} {c1 c2 c3 c4 c5 : C} (hr : 0 < r) (hs : sm r) : (mSet [0, 1] 3 (mB (binD .Mod) (mTm (mB ixD (mPl 0) (mTm (mK (.int 3))))) (mTm (mB ixD (mPl 0) (mTm (mK (.int 1))))))) [.sh (.tuple [.int p, .int r, .int q, .int f]), c1, c2, c3, c4, c5] = some (.nx, [.sh (.tuple [.int p, .int r, .int q, .int f]), c1, c2, .sh (.int (f % r)), c4, c5]) := by
  have h2 : ¬ r = 0 := by omega
  walk_at "es"
theorem br_3 {p r q f : Int} {T : Str} {c1 c2 c3 c4 c5 : C} (hr : 0 < r) (hs : sm r) (e : smulD (.str "k") (.int (f / r)) = some (.sh (.str T))) : (mSet [0, 1] 4 (mB smulD (mTm (mK (.str "k"))) (mTm (mB (binD .FloorDiv) (mTm (mB ixD (mPl 0) (mTm (mK (.int 3))))) (mTm (mB ixD (mPl 0) (mTm (mK (.int 1))))))))) [.sh (.tuple [.int p, .int r, .int q, .int f]), c1, c2, c3, c4, c5] = some (.nx, [.sh (.tuple [.int p, .int r, .int q, .int f]), c1, c2, c3, .sh (.str T), c5]) := by
  have h2 : ¬ r = 0 := by omega
  generalize smulD = S at *
  walk_at "es"
theorem br_4 {z : Pz} {c1 c2 c4 c5 : C} {c : Int} : (mSet [0, 1] 3 (mCall [true, true] g_put_in (mCons (mPl 0) (mCons (mPl 3) (mNil))))) [.sh z.d, c1, c2, .sh (.int c), c4, c5] = some (.nx, [.sh z.d, c1, c2, .sh (.int (pin z c)), c4, c5]) := by
  have f := put_in_eq z c
  generalize pin z c = v at *
  generalize z.d = Z at *
  generalize g_put_in = G at *
  walk_at "es"
theorem br_5 {p r q f c : Int} {T R : Str} {c1 c2 c5 : C} (hr : 0 < r) (hs : sm r) (e : smulD (.str "k") (.int (c / r)) = some (.sh (.str T))) (e1 : addD (.str R) (.str "a") = some (.sh (.str (R ++ "a")))) (e2 : addD (.str (R ++ "a")) (.str T) = some (.sh (.str (R ++ "a" ++ T)))) : (mSet [0, 1] 4 (mB (binD .Add) (mTm (mB (binD .Add) (mPl 4) (mTm (mK (.str "a"))))) (mTm (mB smulD (mTm (mK (.str "k"))) (mTm (mB (binD .FloorDiv) (mPl 3) (mTm (mB ixD (mPl 0) (mTm (mK (.int 1))))))))))) [.sh (.tuple [.int p, .int r, .int q, .int f]), c1, c2, .sh (.int c), .sh (.str R), c5] = some (.nx, [.sh (.tuple [.int p, .int r, .int q, .int f]), c1, c2, .sh (.int c), .sh (.str (R ++ "a" ++ T)), c5]) := by
  have h2 : ¬ r = 0 := by omega
  generalize R ++ "a" ++ T = W at *
  generalize R ++ "a" = V at *
  generalize smulD = S at *
  have e0 : binD .Add = addD := rfl
  rw [e0]
  generalize addD = A at *
  walk_at "es"
theorem br_6 {p r q f c : Int} {c1 c2 c4 c5 : C} (hr : 0 < r) (hs : sm r) : (mSet [0, 1] 3 (mB (binD .Mod) (mPl 3) (mTm (mB ixD (mPl 0) (mTm (mK (.int 1))))))) [.sh (.tuple [.int p, .int r, .int q, .int f]), c1, c2, .sh (.int c), c4, c5] = some (.nx, [.sh (.tuple [.int p, .int r, .int q, .int f]), c1, c2, .sh (.int (c % r)), c4, c5]) := by
  have h2 : ¬ r = 0 := by omega
  walk_at "es"
theorem best_wx {z : Pz} (h : z.Ok) {M : Nat} (hM : M ≤ 10 ^ 12) (hg : ¬ 200 < (M : Int) + gr z z.f M) : ∃ T : Str, cpsL T = (rwA z M).map sgn ∧ ∀ Q : Fl → Cs → Prop, (∀ c2 c3 c5, Q (.rt (.sh (.str T))) [.sh z.d, .sh (.int (M : Int)), c2, c3, .sh (.str T), c5]) → Wx (m_best_row [.sh z.d, .sh (.int (M : Int)), .no, .no, .no, .no]) Q := by
  have e := most_paid_eq h hM
  have hr := h.r0
  have hr1 := h.r1
  have hsr : sm z.r := ⟨by omega, by omega⟩
  have h0 := h.f0
  have hA := rwA_ok h M
  have hn := gr_nn h M h0
  have hL : (rwA z M).length ≤ 200 := by
    rw [len_ct]
    omega
  have d := div_tn h h0
  have hq : (z.f / z.r).toNat ≤ 200 := by
    have : (rwA z M).length = (z.f / z.r).toNat + (rwS z (z.f % z.r) M).length := by rw [rwA, List.length_append, List.length_replicate]
    omega
  have m1 := md_b h z.f
  obtain ⟨T, hT⟩ : ∃ T : Str, cpsL T = (rwA z M).map sgn := ⟨⟨((rwA z M).map sgn).toArray⟩, rfl⟩
  refine ⟨T, hT, fun Q hQ => ?_⟩
  unfold m_best_row
  apply wx_nx (br_1 e)
  apply wx_nx (br_n hg)
  have f2 := br_2 (p := z.p) (q := z.c) (f := z.f) (c1 := .sh (.int (M : Int))) (c2 := .sh (.int ((M : Int) + gr z z.f M))) (c3 := .no) (c4 := .no) (c5 := .no) (by omega) hsr
  apply wx_nx f2
  have f3 := br_3 (p := z.p) (q := z.c) (f := z.f) (T := repS "k" (z.f / z.r).toNat) (c1 := .sh (.int (M : Int))) (c2 := .sh (.int ((M : Int) + gr z z.f M))) (c3 := .sh (.int (z.f % z.r))) (c4 := .no) (c5 := .no) (by omega) hsr (smul_k ⟨by omega, by omega⟩)
  apply wx_nx f3
  have hk := k_rep (z.f / z.r).toNat
  generalize repS "k" (z.f / z.r).toNat = K at *
  clear f2 f3 e
  generalize C.sh (.int ((M : Int) + gr z z.f M)) = c2
  apply wx_seq
  apply wx_rngn (n := M) (ε1 := [.sh z.d, .sh (.int (M : Int)), c2, .sh (.int (z.f % z.r)), .sh (.str K), .no]) fun t ε => ∃ (R : Str) (c5 : C), cpsL R = (List.replicate (z.f / z.r).toNat false ++ rwS z (z.f % z.r) t).map sgn ∧ ε = [.sh z.d, .sh (.int (M : Int)), c2, .sh (.int (cj z (z.f % z.r) t)), .sh (.str R), c5]
  · refine src_f (d := .int (M : Int)) ?_ (rng_nat (by omega))
    unfold Pz.d
    generalize (M : Int) = m
    generalize z.f % z.r = u
    clear hT hA hn hL d hq m1 hk hM hg hQ
    walk_at "ev"
  · refine ⟨K, .no, ?_, rfl⟩
    rw [rwS, List.append_nil]
    exact hk
  · rintro t ht ε ⟨R, c5, hR, rfl⟩
    refine ⟨[.sh z.d, .sh (.int (M : Int)), c2, .sh (.int (cj z (z.f % z.r) t)), .sh (.str R), .sh (.int (t : Int))], rfl, ?_⟩
    apply wx_nx br_4
    have b := cj_b h m1 t
    have p := pin_b h b.1
    have dt := div_tn h p.1
    have hc1 := h.c1
    have hl : (List.replicate (z.f / z.r).toNat false ++ rwS z (z.f % z.r) (t + 1)).length ≤ 200 := by
      refine Nat.le_trans ?_ hL
      rw [rwA, List.length_append, List.length_append]
      have := rwS_le z (z.f % z.r) (show t + 1 ≤ M by omega)
      omega
    have hRl := len_map hR
    have e3 : (List.replicate (z.f / z.r).toNat false ++ rwS z (z.f % z.r) (t + 1)) = (List.replicate (z.f / z.r).toNat false ++ rwS z (z.f % z.r) t) ++ (true :: List.replicate (pin z (cj z (z.f % z.r) t) / z.r).toNat false) := by
      rw [rwS, List.append_assoc]
    have hcs := cj_s z t (z.f % z.r)
    rw [e3] at hl
    generalize hX : (List.replicate (z.f / z.r).toNat false ++ rwS z (z.f % z.r) t) = X at *
    generalize hv : pin z (cj z (z.f % z.r) t) = v at *
    have hvr : 0 ≤ v / z.r ∧ v / z.r ≤ 200 := by
      rw [List.length_append, List.length_cons, List.length_replicate] at hl
      omega
    have f5 := br_5 (p := z.p) (q := z.c) (f := z.f) (R := R) (c := v) (T := repS "k" (v / z.r).toNat) (c1 := .sh (.int (M : Int))) (c2 := c2) (c5 := .sh (.int (t : Int))) (by omega) hsr (smul_k ⟨by omega, by omega⟩) (add_str (by
      have e9 : ("a" : Str).length = 1 := rfl
      rw [List.length_append] at hl
      omega)) (add_str (by
      have e8 := len_map (k_rep (v / z.r).toNat)
      have e9 : ("a" : Str).length = 1 := rfl
      rw [strLen_append]
      rw [List.length_append, List.length_cons] at hl
      omega))
    apply wx_nx f5
    have f6 := br_6 (p := z.p) (q := z.c) (f := z.f) (c := v) (c1 := .sh (.int (M : Int))) (c2 := c2) (c4 := .sh (.str (R ++ "a" ++ repS "k" (v / z.r).toNat))) (c5 := .sh (.int (t : Int))) (by omega) hsr
    apply wx_nx f6
    refine wx_skip ⟨R ++ "a" ++ repS "k" (v / z.r).toNat, .sh (.int (t : Int)), ?_, ?_⟩
    · rw [e3, cps_app, cps_app, hR, k_rep, List.map_append, List.map_cons, List.append_assoc]
      rfl
    · rw [hcs]
      rfl
  · rintro ε ⟨R, c5, hR, rfl⟩
    have : R = T := str_ext (by rw [hR, hT]; rfl)
    rw [this]
    refine wx_rt (c := .sh (.str T)) (ε1 := [.sh z.d, .sh (.int (M : Int)), c2, .sh (.int (cj z (z.f % z.r) M)), .sh (.str T), c5]) ?_ (hQ _ _ _)
    generalize cj z (z.f % z.r) M = u
    generalize z.d = Z
    generalize (M : Int) = m
    clear hT hA hn hL d hq m1 hk hM hg hR hQ
    walk_at "ev"
end KW
namespace KW
open PySem PySem.Spec PyProof.Rows L2 L2.M
local macro_rules | `(tactic| walk_at "ev") => `(tactic| simp [semF, shared, after, mSeq, mSkip, mIf, mRet, mRetN, mRetV, mSet, mSetIx, mExpr, mB, mU, mTm, mPl, mK, mVar, mOp, mCons, mNil, bor, bors, mTst, mAndT, mOrT, mNotT, mAndE, mOrE, mNotE, mIfE, mIsi, isiD, mChn, chnL, cmpD, binD, addD, subD, mulD, modD, fdivD, powD, eqD, neD, ltD, leD, gtD, geD, isD, isnD, L2.M.isNon, negD, ixD, Bf.f, Bg.f, lenD, L2.M.intD, maxD, minD, repD, strD, gmaxD, gminD, sumD, sortD, anyD, allD, mCall, frz, fzO, lend, wb, mTup, mLst, fzs, cD, mAsg, bTup, bTps, mApp, tupD, lstD, mRev, revD, ofs_inj, ee_ii, ee_ss, ee_bb, ee_nn, ee_is, ee_si, ee_in, ee_ni, ee_tt, ee_ll, ee_maps, ee_0, ee_1, ee_2, ee_3, at_lit, at_nat, at_m1, at_m2, scD, emD, sizeLine_eq, ixN, sm_lit, mSrc, itemsD, plOf, rng1D, bNm, mSl, mPt, mNoP, slD, mPar, keepT, tmsO, setA, mFlow, zipX, enumX, itemsX, intsOf, ints_all, boolsOf, shaped_lay, lay_int, lay_bool, lay_none, lay_dict, lay_tup, lay_list, lay_ints, sortX_ints, mPlF, mPlI, mRd, mPU, mPB, mFSet, mFNew, mNSet, mPApp, mPSetIx, mPPop, mMeth, mNew, isIns, cellO, mLstN, mAddN, mAppN, semX, mTold, mCallX, xRet, xExpr, xSet, mRaise, mM, isL, isS, mOrV, truD])
local macro_rules | `(tactic| walk_at "es") => `(tactic| simp [semF, shared, after, mSeq, mSkip, mIf, mRet, mRetN, mRetV, mSet, mSetIx, mExpr, mB, mU, mTm, mPl, mK, mVar, mOp, mCons, mNil, bor, bors, mTst, mAndT, mOrT, mNotT, mAndE, mOrE, mNotE, mIfE, mIsi, isiD, mChn, chnL, cmpD, binD, addD, subD, mulD, modD, fdivD, powD, eqD, neD, ltD, leD, gtD, geD, isD, isnD, L2.M.isNon, negD, ixD, Bf.f, Bg.f, lenD, L2.M.intD, maxD, minD, repD, strD, gmaxD, gminD, sumD, sortD, anyD, allD, mCall, frz, fzO, lend, wb, mTup, mLst, fzs, cD, mAsg, bTup, bTps, mApp, tupD, lstD, mRev, revD, ofs_inj, ee_ii, ee_ss, ee_bb, ee_nn, ee_is, ee_si, ee_in, ee_ni, ee_tt, ee_ll, ee_maps, ee_0, ee_1, ee_2, ee_3, at_lit, at_nat, at_m1, at_m2, scD, emD, sizeLine_eq, ixN, sm_lit, mSrc, itemsD, plOf, rng1D, bNm, mSl, mPt, mNoP, slD, mPar, keepT, tmsO, setA, mFlow, zipX, enumX, itemsX, intsOf, ints_all, boolsOf, shaped_lay, lay_int, lay_bool, lay_none, lay_dict, lay_tup, lay_list, lay_ints, sortX_ints, mPlF, mPlI, mRd, mPU, mPB, mFSet, mFNew, mNSet, mPApp, mPSetIx, mPPop, mMeth, mNew, isIns, cellO, mLstN, mAddN, mAppN, semX, mTold, mCallX, xRet, xExpr, xSet, mRaise, mM, isL, isS, mOrV, truD, *])
local macro_rules | `(tactic| walk_at "el") => `(tactic| simp [semF, shared, after, mSeq, mSkip, mIf, mRet, mRetN, mRetV, mSet, mSetIx, mExpr, mB, mU, mTm, mPl, mK, mVar, mOp, mCons, mNil, bor, bors, mTst, mAndT, mOrT, mNotT, mAndE, mOrE, mNotE, mIfE, mIsi, isiD, mChn, chnL, cmpD, binD, addD, subD, mulD, modD, fdivD, powD, eqD, neD, ltD, leD, gtD, geD, isD, isnD, L2.M.isNon, negD, ixD, Bf.f, Bg.f, lenD, L2.M.intD, maxD, minD, repD, strD, gmaxD, gminD, sumD, sortD, anyD, allD, mCall, frz, fzO, lend, wb, mTup, mLst, fzs, cD, mAsg, bTup, bTps, mApp, tupD, lstD, mRev, revD, ofs_inj, ee_ii, ee_ss, ee_bb, ee_nn, ee_is, ee_si, ee_in, ee_ni, ee_tt, ee_ll, ee_maps, ee_0, ee_1, ee_2, ee_3, at_lit, at_nat, at_m1, at_m2, scD, emD, sizeLine_eq, ixN, sm_lit, mSrc, itemsD, plOf, rng1D, bNm, mSl, mPt, mNoP, slD, mPar, keepT, tmsO, setA, mFlow, zipX, enumX, itemsX, intsOf, ints_all, boolsOf, shaped_lay, lay_int, lay_bool, lay_none, lay_dict, lay_tup, lay_list, lay_ints, sortX_ints, mPlF, mPlI, mRd, mPU, mPB, mFSet, mFNew, mNSet, mPApp, mPSetIx, mPPop, mMeth, mNew, isIns, cellO, mLstN, mAddN, mAppN, semX, mTold, mCallX, xRet, xExpr, xSet, mRaise, mM, isL, isS, mOrV, truD, mLc, lcL, sameC, wipeC, restC, mYes, *])
local macro_rules | `(tactic| walk_at "ef") => `(tactic| simp [semF, shared, after, mSeq, mSkip, mIf, mRet, mRetN, mRetV, mSet, mSetIx, mExpr, mB, mU, mTm, mPl, mK, mVar, mOp, mCons, mNil, bor, bors, mTst, mAndT, mOrT, mNotT, mAndE, mOrE, mNotE, mIfE, mIsi, isiD, mChn, chnL, cmpD, binD, addD, subD, mulD, modD, fdivD, powD, eqD, neD, ltD, leD, gtD, geD, isD, isnD, L2.M.isNon, negD, ixD, Bf.f, Bg.f, lenD, L2.M.intD, maxD, minD, repD, strD, gmaxD, gminD, sumD, sortD, anyD, allD, mCall, frz, fzO, lend, wb, mTup, mLst, fzs, cD, mAsg, bTup, bTps, mApp, tupD, lstD, mRev, revD, ofs_inj, ee_ii, ee_ss, ee_bb, ee_nn, ee_is, ee_si, ee_in, ee_ni, ee_tt, ee_ll, ee_maps, ee_0, ee_1, ee_2, ee_3, at_lit, at_nat, at_m1, at_m2, scD, emD, sizeLine_eq, ixN, sm_lit, mSrc, itemsD, plOf, rng1D, bNm, mSl, mPt, mNoP, slD, mPar, keepT, tmsO, setA, mFlow, zipX, enumX, itemsX, intsOf, ints_all, boolsOf, shaped_lay, lay_int, lay_bool, lay_none, lay_dict, lay_tup, lay_list, lay_ints, sortX_ints, mPlF, mPlI, mRd, mPU, mPB, mFSet, mFNew, mNSet, mPApp, mPSetIx, mPPop, mMeth, mNew, isIns, cellO, mLstN, mAddN, mAppN, semX, mTold, mCallX, xRet, xExpr, xSet, mRaise, mM, isL, isS, mOrV, truD, mFor, forL, mLc, lcL, sameC, wipeC, restC, mYes, *])
local macro_rules | `(tactic| walk_at "rg") => `(tactic| (and_intros <;> grind))
local macro_rules | `(tactic| walk_at "nx") => `(tactic| (apply wx_nx; focus (walk_at "ev"; try first | exact ⟨rfl, rfl⟩ | rfl)))
local macro_rules | `(tactic| walk_at "ns") => `(tactic| (apply wx_nx; focus (walk_at "es"; try first | exact ⟨rfl, rfl⟩ | rfl)))
local macro_rules | `(tactic| walk_at "rt") => `(tactic| (apply wx_rt; focus (walk_at "ev"; try first | exact ⟨rfl, rfl⟩ | rfl)))
local macro_rules | `(tactic| walk_at "rs") => `(tactic| (apply wx_rt; focus (walk_at "es"; try first | exact ⟨rfl, rfl⟩ | rfl)))
local macro_rules | `(tactic| walk_at "ed") => `(tactic| simp [semF, shared, after, mSeq, mSkip, mIf, mRet, mRetN, mRetV, mSet, mSetIx, mExpr, mB, mU, mTm, mPl, mK, mVar, mOp, mCons, mNil, bor, bors, mTst, mAndT, mOrT, mNotT, mAndE, mOrE, mNotE, mIfE, mIsi, isiD, mChn, chnL, cmpD, binD, addD, subD, mulD, modD, fdivD, powD, eqD, neD, ltD, leD, gtD, geD, isD, isnD, L2.M.isNon, negD, ixD, Bf.f, Bg.f, lenD, L2.M.intD, maxD, minD, repD, strD, gmaxD, gminD, sumD, sortD, anyD, allD, mCall, frz, fzO, lend, wb, mTup, mLst, fzs, cD, mAsg, bTup, bTps, mApp, tupD, lstD, mRev, revD, ofs_inj, ee_ii, ee_ss, ee_bb, ee_nn, ee_is, ee_si, ee_in, ee_ni, ee_tt, ee_ll, ee_maps, ee_0, ee_1, ee_2, ee_3, at_lit, at_nat, at_m1, at_m2, scD, emD, sizeLine_eq, ixN, sm_lit, mSrc, itemsD, plOf, rng1D, bNm, mSl, mPt, mNoP, slD, mPar, keepT, tmsO, setA, mFlow, zipX, enumX, itemsX, intsOf, ints_all, boolsOf, shaped_lay, lay_int, lay_bool, lay_none, lay_dict, lay_tup, lay_list, lay_ints, sortX_ints, mPlF, mPlI, mRd, mPU, mPB, mFSet, mFNew, mNSet, mPApp, mPSetIx, mPPop, mMeth, mNew, isIns, cellO, mLstN, mAddN, mAppN, semX, mTold, mCallX, xRet, xExpr, xSet, mRaise, mM, isL, isS, mOrV, truD, mDNew, mDIn, mDGet, mDLen, mDPut, kyD, mNNew, mN1, mTake, mFnV, mCallF, mNIn, mNGet, mNPut, mNVals, mNList, nKs, mDGetD, mDList, mNNe, *])
abbrev chD (c : Nat) : PyData := .str ⟨#[c]⟩
theorem ninSD_ch (c : Nat) (z : Str) : ninSD (chD c) (.str z) = some (.sh (.bool (!decide (c ∈ cpsL z)))) := rfl
theorem src_str {m : EM} {ε ε1 : Cs} {z : Str} (h : m ε = some (.sh (.str z), ε1)) : mSrc itemsD (mCons (mTm m) mNil) ε = some (((cpsL z).map chD, []), ε1) := src_f h rfl
end KW
namespace KW
open PySem PySem.Spec PyProof.Rows L2 L2.M
local macro_rules | `(tactic| walk_at "ev") => `(tactic| simp [semF, shared, after, mSeq, mSkip, mIf, mRet, mRetN, mRetV, mSet, mSetIx, mExpr, mB, mU, mTm, mPl, mK, mVar, mOp, mCons, mNil, bor, bors, mTst, mAndT, mOrT, mNotT, mAndE, mOrE, mNotE, mIfE, mIsi, isiD, mChn, chnL, cmpD, binD, addD, subD, mulD, modD, fdivD, powD, eqD, neD, ltD, leD, gtD, geD, isD, isnD, L2.M.isNon, negD, ixD, Bf.f, Bg.f, lenD, L2.M.intD, maxD, minD, repD, strD, gmaxD, gminD, sumD, sortD, anyD, allD, mCall, frz, fzO, lend, wb, mTup, mLst, fzs, cD, mAsg, bTup, bTps, mApp, tupD, lstD, mRev, revD, ofs_inj, ee_ii, ee_ss, ee_bb, ee_nn, ee_is, ee_si, ee_in, ee_ni, ee_tt, ee_ll, ee_maps, ee_0, ee_1, ee_2, ee_3, at_lit, at_nat, at_m1, at_m2, scD, emD, sizeLine_eq, ixN, sm_lit, mSrc, itemsD, plOf, rng1D, bNm, mSl, mPt, mNoP, slD, mPar, keepT, tmsO, setA, mFlow, zipX, enumX, itemsX, intsOf, ints_all, boolsOf, shaped_lay, lay_int, lay_bool, lay_none, lay_dict, lay_tup, lay_list, lay_ints, sortX_ints, mPlF, mPlI, mRd, mPU, mPB, mFSet, mFNew, mNSet, mPApp, mPSetIx, mPPop, mMeth, mNew, isIns, cellO, mLstN, mAddN, mAppN, semX, mTold, mCallX, xRet, xExpr, xSet, mRaise, mM, isL, isS, mOrV, truD])
local macro_rules | `(tactic| walk_at "es") => `(tactic| simp [semF, shared, after, mSeq, mSkip, mIf, mRet, mRetN, mRetV, mSet, mSetIx, mExpr, mB, mU, mTm, mPl, mK, mVar, mOp, mCons, mNil, bor, bors, mTst, mAndT, mOrT, mNotT, mAndE, mOrE, mNotE, mIfE, mIsi, isiD, mChn, chnL, cmpD, binD, addD, subD, mulD, modD, fdivD, powD, eqD, neD, ltD, leD, gtD, geD, isD, isnD, L2.M.isNon, negD, ixD, Bf.f, Bg.f, lenD, L2.M.intD, maxD, minD, repD, strD, gmaxD, gminD, sumD, sortD, anyD, allD, mCall, frz, fzO, lend, wb, mTup, mLst, fzs, cD, mAsg, bTup, bTps, mApp, tupD, lstD, mRev, revD, ofs_inj, ee_ii, ee_ss, ee_bb, ee_nn, ee_is, ee_si, ee_in, ee_ni, ee_tt, ee_ll, ee_maps, ee_0, ee_1, ee_2, ee_3, at_lit, at_nat, at_m1, at_m2, scD, emD, sizeLine_eq, ixN, sm_lit, mSrc, itemsD, plOf, rng1D, bNm, mSl, mPt, mNoP, slD, mPar, keepT, tmsO, setA, mFlow, zipX, enumX, itemsX, intsOf, ints_all, boolsOf, shaped_lay, lay_int, lay_bool, lay_none, lay_dict, lay_tup, lay_list, lay_ints, sortX_ints, mPlF, mPlI, mRd, mPU, mPB, mFSet, mFNew, mNSet, mPApp, mPSetIx, mPPop, mMeth, mNew, isIns, cellO, mLstN, mAddN, mAppN, semX, mTold, mCallX, xRet, xExpr, xSet, mRaise, mM, isL, isS, mOrV, truD, *])
local macro_rules | `(tactic| walk_at "el") => `(tactic| simp [semF, shared, after, mSeq, mSkip, mIf, mRet, mRetN, mRetV, mSet, mSetIx, mExpr, mB, mU, mTm, mPl, mK, mVar, mOp, mCons, mNil, bor, bors, mTst, mAndT, mOrT, mNotT, mAndE, mOrE, mNotE, mIfE, mIsi, isiD, mChn, chnL, cmpD, binD, addD, subD, mulD, modD, fdivD, powD, eqD, neD, ltD, leD, gtD, geD, isD, isnD, L2.M.isNon, negD, ixD, Bf.f, Bg.f, lenD, L2.M.intD, maxD, minD, repD, strD, gmaxD, gminD, sumD, sortD, anyD, allD, mCall, frz, fzO, lend, wb, mTup, mLst, fzs, cD, mAsg, bTup, bTps, mApp, tupD, lstD, mRev, revD, ofs_inj, ee_ii, ee_ss, ee_bb, ee_nn, ee_is, ee_si, ee_in, ee_ni, ee_tt, ee_ll, ee_maps, ee_0, ee_1, ee_2, ee_3, at_lit, at_nat, at_m1, at_m2, scD, emD, sizeLine_eq, ixN, sm_lit, mSrc, itemsD, plOf, rng1D, bNm, mSl, mPt, mNoP, slD, mPar, keepT, tmsO, setA, mFlow, zipX, enumX, itemsX, intsOf, ints_all, boolsOf, shaped_lay, lay_int, lay_bool, lay_none, lay_dict, lay_tup, lay_list, lay_ints, sortX_ints, mPlF, mPlI, mRd, mPU, mPB, mFSet, mFNew, mNSet, mPApp, mPSetIx, mPPop, mMeth, mNew, isIns, cellO, mLstN, mAddN, mAppN, semX, mTold, mCallX, xRet, xExpr, xSet, mRaise, mM, isL, isS, mOrV, truD, mLc, lcL, sameC, wipeC, restC, mYes, *])
local macro_rules | `(tactic| walk_at "ef") => `(tactic| simp [semF, shared, after, mSeq, mSkip, mIf, mRet, mRetN, mRetV, mSet, mSetIx, mExpr, mB, mU, mTm, mPl, mK, mVar, mOp, mCons, mNil, bor, bors, mTst, mAndT, mOrT, mNotT, mAndE, mOrE, mNotE, mIfE, mIsi, isiD, mChn, chnL, cmpD, binD, addD, subD, mulD, modD, fdivD, powD, eqD, neD, ltD, leD, gtD, geD, isD, isnD, L2.M.isNon, negD, ixD, Bf.f, Bg.f, lenD, L2.M.intD, maxD, minD, repD, strD, gmaxD, gminD, sumD, sortD, anyD, allD, mCall, frz, fzO, lend, wb, mTup, mLst, fzs, cD, mAsg, bTup, bTps, mApp, tupD, lstD, mRev, revD, ofs_inj, ee_ii, ee_ss, ee_bb, ee_nn, ee_is, ee_si, ee_in, ee_ni, ee_tt, ee_ll, ee_maps, ee_0, ee_1, ee_2, ee_3, at_lit, at_nat, at_m1, at_m2, scD, emD, sizeLine_eq, ixN, sm_lit, mSrc, itemsD, plOf, rng1D, bNm, mSl, mPt, mNoP, slD, mPar, keepT, tmsO, setA, mFlow, zipX, enumX, itemsX, intsOf, ints_all, boolsOf, shaped_lay, lay_int, lay_bool, lay_none, lay_dict, lay_tup, lay_list, lay_ints, sortX_ints, mPlF, mPlI, mRd, mPU, mPB, mFSet, mFNew, mNSet, mPApp, mPSetIx, mPPop, mMeth, mNew, isIns, cellO, mLstN, mAddN, mAppN, semX, mTold, mCallX, xRet, xExpr, xSet, mRaise, mM, isL, isS, mOrV, truD, mFor, forL, mLc, lcL, sameC, wipeC, restC, mYes, *])
local macro_rules | `(tactic| walk_at "rg") => `(tactic| (and_intros <;> grind))
local macro_rules | `(tactic| walk_at "nx") => `(tactic| (apply wx_nx; focus (walk_at "ev"; try first | exact ⟨rfl, rfl⟩ | rfl)))
local macro_rules | `(tactic| walk_at "ns") => `(tactic| (apply wx_nx; focus (walk_at "es"; try first | exact ⟨rfl, rfl⟩ | rfl)))
local macro_rules | `(tactic| walk_at "rt") => `(tactic| (apply wx_rt; focus (walk_at "ev"; try first | exact ⟨rfl, rfl⟩ | rfl)))
local macro_rules | `(tactic| walk_at "rs") => `(tactic| (apply wx_rt; focus (walk_at "es"; try first | exact ⟨rfl, rfl⟩ | rfl)))
local macro_rules | `(tactic| walk_at "ed") => `(tactic| simp [semF, shared, after, mSeq, mSkip, mIf, mRet, mRetN, mRetV, mSet, mSetIx, mExpr, mB, mU, mTm, mPl, mK, mVar, mOp, mCons, mNil, bor, bors, mTst, mAndT, mOrT, mNotT, mAndE, mOrE, mNotE, mIfE, mIsi, isiD, mChn, chnL, cmpD, binD, addD, subD, mulD, modD, fdivD, powD, eqD, neD, ltD, leD, gtD, geD, isD, isnD, L2.M.isNon, negD, ixD, Bf.f, Bg.f, lenD, L2.M.intD, maxD, minD, repD, strD, gmaxD, gminD, sumD, sortD, anyD, allD, mCall, frz, fzO, lend, wb, mTup, mLst, fzs, cD, mAsg, bTup, bTps, mApp, tupD, lstD, mRev, revD, ofs_inj, ee_ii, ee_ss, ee_bb, ee_nn, ee_is, ee_si, ee_in, ee_ni, ee_tt, ee_ll, ee_maps, ee_0, ee_1, ee_2, ee_3, at_lit, at_nat, at_m1, at_m2, scD, emD, sizeLine_eq, ixN, sm_lit, mSrc, itemsD, plOf, rng1D, bNm, mSl, mPt, mNoP, slD, mPar, keepT, tmsO, setA, mFlow, zipX, enumX, itemsX, intsOf, ints_all, boolsOf, shaped_lay, lay_int, lay_bool, lay_none, lay_dict, lay_tup, lay_list, lay_ints, sortX_ints, mPlF, mPlI, mRd, mPU, mPB, mFSet, mFNew, mNSet, mPApp, mPSetIx, mPPop, mMeth, mNew, isIns, cellO, mLstN, mAddN, mAppN, semX, mTold, mCallX, xRet, xExpr, xSet, mRaise, mM, isL, isS, mOrV, truD, mDNew, mDIn, mDGet, mDLen, mDPut, kyD, mNNew, mN1, mTake, mFnV, mCallF, mNIn, mNGet, mNPut, mNVals, mNList, nKs, mDGetD, mDList, mNNe, *])
theorem sgT_c (g : Bool) : (PyData.str ⟨#[sgn g]⟩) = .str (sgT g) := by cases g <;> rfl
theorem wd_a {z : Pz} {T fs c4 : C} {u : Int} : (mIf (mTst (mB (cmpD .Eq) (mPl 5) (mTm (mK (.str "a"))))) (mSeq (mSet [0, 1] 2 (mCall [true, true] g_put_in (mCons (mPl 0) (mCons (mPl 2) (mNil))))) (mSkip)) (mSeq (mIf (mTst (mB (cmpD .GtE) (mPl 2) (mTm (mB ixD (mPl 0) (mTm (mK (.int 1))))))) (mSeq (mSet [0, 1] 2 (mB (binD .Sub) (mPl 2) (mTm (mB ixD (mPl 0) (mTm (mK (.int 1))))))) (mSkip)) (mSeq (mApp 3 (mVar 4)) (mSkip))) (mSkip))) [.sh z.d, T, .sh (.int u), fs, c4, .sh (.str "a")] = some (.nx, [.sh z.d, T, .sh (.int (pin z u)), fs, c4, .sh (.str "a")]) := by
  have e := put_in_eq z u
  generalize pin z u = v at *
  generalize z.d = Z at *
  generalize g_put_in = G at *
  walk_at "es"
theorem wd_k {p r q f u : Int} (h : r ≤ u) {T fs c4 : C} : (mIf (mTst (mB (cmpD .Eq) (mPl 5) (mTm (mK (.str "a"))))) (mSeq (mSet [0, 1] 2 (mCall [true, true] g_put_in (mCons (mPl 0) (mCons (mPl 2) (mNil))))) (mSkip)) (mSeq (mIf (mTst (mB (cmpD .GtE) (mPl 2) (mTm (mB ixD (mPl 0) (mTm (mK (.int 1))))))) (mSeq (mSet [0, 1] 2 (mB (binD .Sub) (mPl 2) (mTm (mB ixD (mPl 0) (mTm (mK (.int 1))))))) (mSkip)) (mSeq (mApp 3 (mVar 4)) (mSkip))) (mSkip))) [.sh (.tuple [.int p, .int r, .int q, .int f]), T, .sh (.int u), fs, c4, .sh (.str "k")] = some (.nx, [.sh (.tuple [.int p, .int r, .int q, .int f]), T, .sh (.int (u - r)), fs, c4, .sh (.str "k")]) := by
  generalize g_put_in = G at *
  walk_at "es"
theorem wd_n {p r q f u i : Int} (h : ¬ r ≤ u) {T : C} {L : List PyData} (hl : L.length < 16777216) : (mIf (mTst (mB (cmpD .Eq) (mPl 5) (mTm (mK (.str "a"))))) (mSeq (mSet [0, 1] 2 (mCall [true, true] g_put_in (mCons (mPl 0) (mCons (mPl 2) (mNil))))) (mSkip)) (mSeq (mIf (mTst (mB (cmpD .GtE) (mPl 2) (mTm (mB ixD (mPl 0) (mTm (mK (.int 1))))))) (mSeq (mSet [0, 1] 2 (mB (binD .Sub) (mPl 2) (mTm (mB ixD (mPl 0) (mTm (mK (.int 1))))))) (mSkip)) (mSeq (mApp 3 (mVar 4)) (mSkip))) (mSkip))) [.sh (.tuple [.int p, .int r, .int q, .int f]), T, .sh (.int u), .ls L, .sh (.int i), .sh (.str "k")] = some (.nx, [.sh (.tuple [.int p, .int r, .int q, .int f]), T, .sh (.int u), .ls (L ++ [.int i]), .sh (.int i), .sh (.str "k")]) := by
  generalize g_put_in = G at *
  walk_at "es"
theorem wd_step {z : Pz} {T : C} {u i : Int} {L : List Int} (hl : L.length < 16777216) (g : Bool) : (mIf (mTst (mB (cmpD .Eq) (mPl 5) (mTm (mK (.str "a"))))) (mSeq (mSet [0, 1] 2 (mCall [true, true] g_put_in (mCons (mPl 0) (mCons (mPl 2) (mNil))))) (mSkip)) (mSeq (mIf (mTst (mB (cmpD .GtE) (mPl 2) (mTm (mB ixD (mPl 0) (mTm (mK (.int 1))))))) (mSeq (mSet [0, 1] 2 (mB (binD .Sub) (mPl 2) (mTm (mB ixD (mPl 0) (mTm (mK (.int 1))))))) (mSkip)) (mSeq (mApp 3 (mVar 4)) (mSkip))) (mSkip))) [.sh z.d, T, .sh (.int u), .ls (L.map .int), .sh (.int i), .sh (.str (sgT g))] = some (.nx, [.sh z.d, T, .sh (.int (on z u g)), .ls ((L ++ if g = false ∧ u < z.r then [i] else []).map .int), .sh (.int i), .sh (.str (sgT g))]) := by
  cases g with
  | true =>
    rw [if_neg (by simp), List.append_nil]
    exact wd_a
  | false =>
    by_cases q : z.r ≤ u
    · rw [if_neg (by omega), List.append_nil]
      have : on z u false = u - z.r := by unfold on; simp [q]
      rw [this]
      exact wd_k q
    · rw [if_pos ⟨rfl, by omega⟩, List.map_append]
      have : on z u false = u := by unfold on; simp [q]
      rw [this]
      exact wd_n q (by simpa using hl)
theorem walked_eq {z : Pz} {T : Str} {bs : List Bool} (h : cpsL T = bs.map sgn) (hl : bs.length ≤ 10000) : g_walked [.sh z.d, .sh (.str T)] = some (.sh (.tuple [.int (en z z.f bs), .list ((unp z 0 z.f bs).map .int)]), [.sh z.d, .sh (.str T)]) := by
  apply rt_eq
  unfold g_walked m_walked
  apply rt_sem rfl
  apply wx_nx (ε1 := [.sh z.d, .sh (.str T), .sh (.int z.f), .no, .no, .no])
  · rfl
  apply wx_nx (ε1 := [.sh z.d, .sh (.str T), .sh (.int z.f), .ls [], .no, .no])
  · rfl
  apply wx_seq
  apply wx_for (ds := enumFrom 0 (T.cps.toList.map chD0)) (ws := []) (ε1 := [.sh z.d, .sh (.str T), .sh (.int z.f), .ls [], .no, .no]) fun i ε => ∃ c4 c5 : C, ε = [.sh z.d, .sh (.str T), .sh (.int (en z z.f (bs.take i))), .ls ((unp z 0 z.f (bs.take i)).map .int), c4, c5]
  · rfl
  · rfl
  · exact ⟨_, _, rfl⟩
  · intro i ε _ j hj
    cases hj
  · rintro i d ε hd ⟨c4, c5, rfl⟩
    have hc : T.cps.toList = bs.map sgn := h
    rw [enum_get, hc, List.map_map, List.getElem?_map] at hd
    obtain ⟨x, hx, rfl⟩ := Option.map_eq_some_iff.mp hd
    obtain ⟨g, hg, rfl⟩ := Option.map_eq_some_iff.mp hx
    obtain ⟨hi, rfl⟩ := List.getElem?_eq_some_iff.mp hg
    have hul := unp_len z (bs.take i) 0 z.f
    rw [List.length_take] at hul
    have e1 : en z z.f (bs.take (i + 1)) = on z (en z z.f (bs.take i)) bs[i] := by
      rw [List.take_succ_eq_append_getElem hi]
      show List.foldl _ _ _ = _
      rw [List.foldl_append]
      rfl
    have e2 : unp z 0 z.f (bs.take (i + 1)) = unp z 0 z.f (bs.take i) ++ if bs[i] = false ∧ en z z.f (bs.take i) < z.r then [((0 + i : Nat) : Int)] else [] := by
      rw [List.take_succ_eq_append_getElem hi, unp_app, unp, unp, List.append_nil, List.length_take]
      have : (0 : Int) + ((min i bs.length : Nat) : Int) = ((0 + i : Nat) : Int) := by omega
      rw [this]
    rw [e1, e2]
    have ec : (chD0 ∘ sgn) bs[i] = .str (sgT bs[i]) := sgT_c bs[i]
    rw [ec]
    clear e1 e2 ec hd hx hg hc h
    generalize en z z.f (bs.take i) = u at *
    generalize bs[i] = g at *
    generalize unp z 0 z.f (bs.take i) = L at *
    refine ⟨[.sh z.d, .sh (.str T), .sh (.int u), .ls (L.map .int), .sh (.int ((0 + i : Nat) : Int)), .sh (.str (sgT g))], rfl, ?_⟩
    apply wx_nx (wd_step (by omega) g)
    exact wx_skip ⟨_, _, rfl⟩
  · rintro ε ⟨c4, c5, rfl⟩
    have hle : bs.take (enumFrom 0 (T.cps.toList.map chD0)).length = bs := by
      apply List.take_of_length_le
      rw [enum_len, List.length_map]
      have : T.cps.toList = bs.map sgn := h
      rw [this, List.length_map]
      exact Nat.le_refl _
    rw [hle]
    exact wx_rt (c := .sh (.tuple [.int (en z z.f bs), .list ((unp z 0 z.f bs).map .int)])) (ε1 := [.sh z.d, .sh (.str T), .sh (.int (en z z.f bs)), .sh (.list ((unp z 0 z.f bs).map .int)), c4, c5]) rfl ⟨rfl, rfl⟩
theorem check_row_eq {T : Str} {bs : List Bool} (h : cpsL T = bs.map sgn) (hl : bs.length ≤ 200) : g_check_row [.sh (.str T)] = some (.sh .none, [.sh (.str T)]) := by
  have hlen : T.length = bs.length := len_map h
  have key : mLc (mSrc itemsD (mCons (mTm (mVar 0)) mNil)) (bNm 1) (mTst (mB ninSD (mPl 1) (mTm (mK (.str "ak"))))) (mVar 1) [1] [.sh (.str T), .no] = some (.ls (((cpsL T).filter fun c => !decide (c ∈ cpsL "ak")).map chD), [.sh (.str T), .no]) := by
    refine mLc_encF chD chD (fun c => !decide (c ∈ cpsL "ak")) (ws := []) (c0 := .no) (src_str rfl) rfl (fun c hc => ?_) (fun c hc _ => ⟨.sh (chD c), rfl, rfl⟩) ?_
    · have e := ninSD_ch c "ak"
      generalize ninSD = N at *
      generalize chD c = d at *
      generalize (!decide (c ∈ cpsL "ak")) = v at *
      clear h
      walk_at "es"
    · rw [len_cps, sizeLine_eq]
      omega
  have hf : ((cpsL T).filter fun c => !decide (c ∈ cpsL "ak")) = [] := by
    rw [List.filter_eq_nil_iff]
    intro c hc
    rw [h] at hc
    obtain ⟨g, _, rfl⟩ := List.mem_map.mp hc
    cases g <;> decide +kernel
  rw [hf, List.map_nil] at key
  have h1 : ¬ 200 < (T.length : Int) := by omega
  have h2 : T.length ≤ 16777216 := by omega
  unfold g_check_row m_check_row
  generalize mStuck = RX at *
  generalize mLc _ _ _ _ _ = ML at *
  clear hf h hlen
  walk_at "es"
theorem ct_sgn (g : Bool) : ∀ bs : List Bool, (bs.map sgn).count (sgn g) = bs.count g
  | [] => rfl
  | b :: bs => by
    rw [List.map_cons, List.count_cons, List.count_cons, ct_sgn g bs]
    cases g <;> cases b <;> rfl
theorem sct (g : Bool) {T : Str} {bs : List Bool} (h : cpsL T = bs.map sgn) : scountD [.str T, .str ⟨#[sgn g]⟩] = some (.sh (.int ((bs.count g : Nat) : Int))) := by
  have h1 : Txt.count T ⟨#[sgn g]⟩ = (((cpsL T).count (sgn g) : Nat) : Int) := count_one T (sgn g)
  show some (C.sh (PyData.int (Txt.count T ⟨#[sgn g]⟩))) = _
  rw [h1, h, ct_sgn]
theorem coins_1 {Z T : PyData} {u : Int} {L : List PyData} (e : g_walked [.sh Z, .sh T] = some (.sh (.tuple [.int u, .list L]), [.sh Z, .sh T])) (e2 : g_check_row [.sh T] = some (.sh .none, [.sh T])) : g_coins_behind [.sh Z, .sh T] = some (.sh (.int u), [.sh Z, .sh T]) := by
  unfold g_coins_behind m_coins_behind
  walk_at "es"
theorem unpaid_1 {Z T : PyData} {u : Int} {L : List PyData} (e : g_walked [.sh Z, .sh T] = some (.sh (.tuple [.int u, .list L]), [.sh Z, .sh T])) (e2 : g_check_row [.sh T] = some (.sh .none, [.sh T])) : g_unpaid_at [.sh Z, .sh T] = some (.sh (.list L), [.sh Z, .sh T]) := by
  unfold g_unpaid_at m_unpaid_at
  walk_at "es"
theorem paid_1 {Z : PyData} {T : Str} {u n : Int} {L : List PyData} (hl : L.length ≤ 16777216) (e : g_walked [.sh Z, .sh (.str T)] = some (.sh (.tuple [.int u, .list L]), [.sh Z, .sh (.str T)])) (e2 : g_check_row [.sh (.str T)] = some (.sh .none, [.sh (.str T)])) (hc : scountD [.str T, .str "k"] = some (.sh (.int n))) : g_paid_in [.sh Z, .sh (.str T)] = some (.sh (.int (n - (L.length : Int))), [.sh Z, .sh (.str T)]) := by
  unfold g_paid_in m_paid_in
  generalize scountD = S at *
  walk_at "es"
section
variable {z : Pz} {T : Str} {bs : List Bool} (h : cpsL T = bs.map sgn) (hl : bs.length ≤ 200)
include h hl
theorem coins_eq : g_coins_behind [.sh z.d, .sh (.str T)] = some (.sh (.int (en z z.f bs)), [.sh z.d, .sh (.str T)]) := coins_1 (walked_eq h (by omega)) (check_row_eq h hl)
theorem unpaid_eq : g_unpaid_at [.sh z.d, .sh (.str T)] = some (.sh (.list ((unp z 0 z.f bs).map .int)), [.sh z.d, .sh (.str T)]) := unpaid_1 (walked_eq h (by omega)) (check_row_eq h hl)
theorem paid_eq : g_paid_in [.sh z.d, .sh (.str T)] = some (.sh (.int (pd z z.f bs)), [.sh z.d, .sh (.str T)]) := by
  have hu := unp_len z bs 0 z.f
  have e := paid_1 (by rw [List.length_map]; omega) (walked_eq (z := z) h (by omega)) (check_row_eq h hl) (sct false h)
  have := pd_unp z bs 0 z.f
  rw [List.length_map] at e
  rw [e]
  congr 5
  omega
end
theorem is_whole_int (i : Int) : g_is_whole [.sh (.int i)] = some (.sh (.bool true), [.sh (.int i)]) := by
  unfold g_is_whole m_is_whole
  walk_at "ev"
def Pz.at (z : Pz) (u : Int) : Pz := ⟨z.p, z.r, z.c, u⟩
theorem later_1 {p r c f u : Int} (h : 0 ≤ u ∧ u ≤ c) : g_later [.sh (.tuple [.int p, .int r, .int c, .int f]), .sh (.int u)] = some (.sh (.tuple [.int p, .int r, .int c, .int u]), [.sh (.tuple [.int p, .int r, .int c, .int f]), .sh (.int u)]) := by
  have e := is_whole_int u
  obtain ⟨h1, h2⟩ := h
  unfold g_later m_later
  generalize mStuck = RX at *
  generalize g_is_whole = G at *
  walk_at "es"
theorem later_eq {z : Pz} {u : Int} (h : 0 ≤ u ∧ u ≤ z.c) : g_later [.sh z.d, .sh (.int u)] = some (.sh (z.at u).d, [.sh z.d, .sh (.int u)]) := later_1 h
theorem at_ok {z : Pz} (h : z.Ok) {u : Int} (b : 0 ≤ u ∧ u ≤ z.c) : (z.at u).Ok := ⟨h.p0, h.p1, h.r0, h.r1, b.1, b.2, h.c1⟩
end KW
namespace KW
open PySem PySem.Spec PyProof.Rows L2 L2.M
local macro_rules | `(tactic| walk_at "ev") => `(tactic| simp [semF, shared, after, mSeq, mSkip, mIf, mRet, mRetN, mRetV, mSet, mSetIx, mExpr, mB, mU, mTm, mPl, mK, mVar, mOp, mCons, mNil, bor, bors, mTst, mAndT, mOrT, mNotT, mAndE, mOrE, mNotE, mIfE, mIsi, isiD, mChn, chnL, cmpD, binD, addD, subD, mulD, modD, fdivD, powD, eqD, neD, ltD, leD, gtD, geD, isD, isnD, L2.M.isNon, negD, ixD, Bf.f, Bg.f, lenD, L2.M.intD, maxD, minD, repD, strD, gmaxD, gminD, sumD, sortD, anyD, allD, mCall, frz, fzO, lend, wb, mTup, mLst, fzs, cD, mAsg, bTup, bTps, mApp, tupD, lstD, mRev, revD, ofs_inj, ee_ii, ee_ss, ee_bb, ee_nn, ee_is, ee_si, ee_in, ee_ni, ee_tt, ee_ll, ee_maps, ee_0, ee_1, ee_2, ee_3, at_lit, at_nat, at_m1, at_m2, scD, emD, sizeLine_eq, ixN, sm_lit, mSrc, itemsD, plOf, rng1D, bNm, mSl, mPt, mNoP, slD, mPar, keepT, tmsO, setA, mFlow, zipX, enumX, itemsX, intsOf, ints_all, boolsOf, shaped_lay, lay_int, lay_bool, lay_none, lay_dict, lay_tup, lay_list, lay_ints, sortX_ints, mPlF, mPlI, mRd, mPU, mPB, mFSet, mFNew, mNSet, mPApp, mPSetIx, mPPop, mMeth, mNew, isIns, cellO, mLstN, mAddN, mAppN, semX, mTold, mCallX, xRet, xExpr, xSet, mRaise, mM, isL, isS, mOrV, truD])
local macro_rules | `(tactic| walk_at "es") => `(tactic| simp [semF, shared, after, mSeq, mSkip, mIf, mRet, mRetN, mRetV, mSet, mSetIx, mExpr, mB, mU, mTm, mPl, mK, mVar, mOp, mCons, mNil, bor, bors, mTst, mAndT, mOrT, mNotT, mAndE, mOrE, mNotE, mIfE, mIsi, isiD, mChn, chnL, cmpD, binD, addD, subD, mulD, modD, fdivD, powD, eqD, neD, ltD, leD, gtD, geD, isD, isnD, L2.M.isNon, negD, ixD, Bf.f, Bg.f, lenD, L2.M.intD, maxD, minD, repD, strD, gmaxD, gminD, sumD, sortD, anyD, allD, mCall, frz, fzO, lend, wb, mTup, mLst, fzs, cD, mAsg, bTup, bTps, mApp, tupD, lstD, mRev, revD, ofs_inj, ee_ii, ee_ss, ee_bb, ee_nn, ee_is, ee_si, ee_in, ee_ni, ee_tt, ee_ll, ee_maps, ee_0, ee_1, ee_2, ee_3, at_lit, at_nat, at_m1, at_m2, scD, emD, sizeLine_eq, ixN, sm_lit, mSrc, itemsD, plOf, rng1D, bNm, mSl, mPt, mNoP, slD, mPar, keepT, tmsO, setA, mFlow, zipX, enumX, itemsX, intsOf, ints_all, boolsOf, shaped_lay, lay_int, lay_bool, lay_none, lay_dict, lay_tup, lay_list, lay_ints, sortX_ints, mPlF, mPlI, mRd, mPU, mPB, mFSet, mFNew, mNSet, mPApp, mPSetIx, mPPop, mMeth, mNew, isIns, cellO, mLstN, mAddN, mAppN, semX, mTold, mCallX, xRet, xExpr, xSet, mRaise, mM, isL, isS, mOrV, truD, *])
local macro_rules | `(tactic| walk_at "el") => `(tactic| simp [semF, shared, after, mSeq, mSkip, mIf, mRet, mRetN, mRetV, mSet, mSetIx, mExpr, mB, mU, mTm, mPl, mK, mVar, mOp, mCons, mNil, bor, bors, mTst, mAndT, mOrT, mNotT, mAndE, mOrE, mNotE, mIfE, mIsi, isiD, mChn, chnL, cmpD, binD, addD, subD, mulD, modD, fdivD, powD, eqD, neD, ltD, leD, gtD, geD, isD, isnD, L2.M.isNon, negD, ixD, Bf.f, Bg.f, lenD, L2.M.intD, maxD, minD, repD, strD, gmaxD, gminD, sumD, sortD, anyD, allD, mCall, frz, fzO, lend, wb, mTup, mLst, fzs, cD, mAsg, bTup, bTps, mApp, tupD, lstD, mRev, revD, ofs_inj, ee_ii, ee_ss, ee_bb, ee_nn, ee_is, ee_si, ee_in, ee_ni, ee_tt, ee_ll, ee_maps, ee_0, ee_1, ee_2, ee_3, at_lit, at_nat, at_m1, at_m2, scD, emD, sizeLine_eq, ixN, sm_lit, mSrc, itemsD, plOf, rng1D, bNm, mSl, mPt, mNoP, slD, mPar, keepT, tmsO, setA, mFlow, zipX, enumX, itemsX, intsOf, ints_all, boolsOf, shaped_lay, lay_int, lay_bool, lay_none, lay_dict, lay_tup, lay_list, lay_ints, sortX_ints, mPlF, mPlI, mRd, mPU, mPB, mFSet, mFNew, mNSet, mPApp, mPSetIx, mPPop, mMeth, mNew, isIns, cellO, mLstN, mAddN, mAppN, semX, mTold, mCallX, xRet, xExpr, xSet, mRaise, mM, isL, isS, mOrV, truD, mLc, lcL, sameC, wipeC, restC, mYes, *])
local macro_rules | `(tactic| walk_at "ef") => `(tactic| simp [semF, shared, after, mSeq, mSkip, mIf, mRet, mRetN, mRetV, mSet, mSetIx, mExpr, mB, mU, mTm, mPl, mK, mVar, mOp, mCons, mNil, bor, bors, mTst, mAndT, mOrT, mNotT, mAndE, mOrE, mNotE, mIfE, mIsi, isiD, mChn, chnL, cmpD, binD, addD, subD, mulD, modD, fdivD, powD, eqD, neD, ltD, leD, gtD, geD, isD, isnD, L2.M.isNon, negD, ixD, Bf.f, Bg.f, lenD, L2.M.intD, maxD, minD, repD, strD, gmaxD, gminD, sumD, sortD, anyD, allD, mCall, frz, fzO, lend, wb, mTup, mLst, fzs, cD, mAsg, bTup, bTps, mApp, tupD, lstD, mRev, revD, ofs_inj, ee_ii, ee_ss, ee_bb, ee_nn, ee_is, ee_si, ee_in, ee_ni, ee_tt, ee_ll, ee_maps, ee_0, ee_1, ee_2, ee_3, at_lit, at_nat, at_m1, at_m2, scD, emD, sizeLine_eq, ixN, sm_lit, mSrc, itemsD, plOf, rng1D, bNm, mSl, mPt, mNoP, slD, mPar, keepT, tmsO, setA, mFlow, zipX, enumX, itemsX, intsOf, ints_all, boolsOf, shaped_lay, lay_int, lay_bool, lay_none, lay_dict, lay_tup, lay_list, lay_ints, sortX_ints, mPlF, mPlI, mRd, mPU, mPB, mFSet, mFNew, mNSet, mPApp, mPSetIx, mPPop, mMeth, mNew, isIns, cellO, mLstN, mAddN, mAppN, semX, mTold, mCallX, xRet, xExpr, xSet, mRaise, mM, isL, isS, mOrV, truD, mFor, forL, mLc, lcL, sameC, wipeC, restC, mYes, *])
local macro_rules | `(tactic| walk_at "rg") => `(tactic| (and_intros <;> grind))
local macro_rules | `(tactic| walk_at "nx") => `(tactic| (apply wx_nx; focus (walk_at "ev"; try first | exact ⟨rfl, rfl⟩ | rfl)))
local macro_rules | `(tactic| walk_at "ns") => `(tactic| (apply wx_nx; focus (walk_at "es"; try first | exact ⟨rfl, rfl⟩ | rfl)))
local macro_rules | `(tactic| walk_at "rt") => `(tactic| (apply wx_rt; focus (walk_at "ev"; try first | exact ⟨rfl, rfl⟩ | rfl)))
local macro_rules | `(tactic| walk_at "rs") => `(tactic| (apply wx_rt; focus (walk_at "es"; try first | exact ⟨rfl, rfl⟩ | rfl)))
local macro_rules | `(tactic| walk_at "ed") => `(tactic| simp [semF, shared, after, mSeq, mSkip, mIf, mRet, mRetN, mRetV, mSet, mSetIx, mExpr, mB, mU, mTm, mPl, mK, mVar, mOp, mCons, mNil, bor, bors, mTst, mAndT, mOrT, mNotT, mAndE, mOrE, mNotE, mIfE, mIsi, isiD, mChn, chnL, cmpD, binD, addD, subD, mulD, modD, fdivD, powD, eqD, neD, ltD, leD, gtD, geD, isD, isnD, L2.M.isNon, negD, ixD, Bf.f, Bg.f, lenD, L2.M.intD, maxD, minD, repD, strD, gmaxD, gminD, sumD, sortD, anyD, allD, mCall, frz, fzO, lend, wb, mTup, mLst, fzs, cD, mAsg, bTup, bTps, mApp, tupD, lstD, mRev, revD, ofs_inj, ee_ii, ee_ss, ee_bb, ee_nn, ee_is, ee_si, ee_in, ee_ni, ee_tt, ee_ll, ee_maps, ee_0, ee_1, ee_2, ee_3, at_lit, at_nat, at_m1, at_m2, scD, emD, sizeLine_eq, ixN, sm_lit, mSrc, itemsD, plOf, rng1D, bNm, mSl, mPt, mNoP, slD, mPar, keepT, tmsO, setA, mFlow, zipX, enumX, itemsX, intsOf, ints_all, boolsOf, shaped_lay, lay_int, lay_bool, lay_none, lay_dict, lay_tup, lay_list, lay_ints, sortX_ints, mPlF, mPlI, mRd, mPU, mPB, mFSet, mFNew, mNSet, mPApp, mPSetIx, mPPop, mMeth, mNew, isIns, cellO, mLstN, mAddN, mAppN, semX, mTold, mCallX, xRet, xExpr, xSet, mRaise, mM, isL, isS, mOrV, truD, mDNew, mDIn, mDGet, mDLen, mDPut, kyD, mNNew, mN1, mTake, mFnV, mCallF, mNIn, mNGet, mNPut, mNVals, mNList, nKs, mDGetD, mDList, mNNe, *])
theorem pd_at (z : Pz) (w : Int) : ∀ (bs : List Bool) (v : Int), pd (z.at w) v bs = pd z v bs
  | [], _ => rfl
  | g :: bs, v => by
    rw [pd, pd, pd_at z w bs]
    rfl
theorem en_at (z : Pz) (w : Int) : ∀ (bs : List Bool) (v : Int), en (z.at w) v bs = en z v bs
  | [], _ => rfl
  | g :: bs, v => en_at z w bs (on z v g)
theorem cut_cps (T : Str) (lo hi : Option Int) : cpsL (cutS T lo hi) = L2.M.cutL (cpsL T) lo hi := by
  have e : cpsL (cutS T lo hi) = ((cpsL T).drop (HT.sIx T.length 0 lo)).take (HT.sIx T.length T.length hi - HT.sIx T.length 0 lo) := rfl
  rw [e]
  unfold L2.M.cutL
  rw [len_cps]
theorem good_1 {p r c f : Int} (h1 : 0 ≤ p) (h2 : p ≤ 1000) (h3 : 1 ≤ r) (h4 : r ≤ 1000) (h5 : 0 ≤ f) (h6 : f ≤ c) (h7 : c ≤ 10000) : g_purse_good [.sh (.tuple [.int p, .int r, .int c, .int f])] = some (.sh (.bool true), [.sh (.tuple [.int p, .int r, .int c, .int f])]) := by
  have key : (mLc (mSrc itemsD (mCons (mTm (mVar 0)) mNil)) (bNm 1) (mYes) (mCall [true] g_is_whole (mCons (mPl 1) (mNil))) [1]) [.sh (.tuple [.int p, .int r, .int c, .int f]), .no, .no, .no, .no, .no] = some (.ls [.bool true, .bool true, .bool true, .bool true], [.sh (.tuple [.int p, .int r, .int c, .int f]), .no, .no, .no, .no, .no]) := by
    have e := is_whole_int
    generalize g_is_whole = G at *
    clear h1 h2 h3 h4 h5 h6 h7
    walk_at "el"
  unfold g_purse_good m_purse_good
  generalize mLc _ _ _ _ _ = ML at *
  walk_at "es"
theorem good_eq {z : Pz} (h : z.Ok) : g_purse_good [.sh z.d] = some (.sh (.bool true), [.sh z.d]) := good_1 h.p0 h.p1 h.r0 h.r1 h.f0 h.f1 h.c1
theorem r_1 {Z : PyData} {T : Str} {a : Int} (hl : T.length ≤ 16777216) : (mPar [0, 1, 2] [3, 4] (mCons (mTm (mSl (mPl 1) (mNoP) (mPt (mPl 2)))) (mCons (mTm (mSl (mPl 1) (mPt (mPl 2)) (mNoP))) (mNil)))) [.sh Z, .sh (.str T), .sh (.int a), .no, .no, .no] = some (.nx, [.sh Z, .sh (.str T), .sh (.int a), .sh (.str (cutS T none (some a))), .sh (.str (cutS T (some a) none)), .no]) := by
  have hl2 : T.length ≤ sizeLine := by rw [sizeLine_eq]; exact hl
  walk_at "es"
theorem r_2 {Z T A R B : PyData} {a u : Int} (e1 : g_coins_behind [.sh Z, .sh A] = some (.sh (.int u), [.sh Z, .sh A])) (e2 : g_later [.sh Z, .sh (.int u)] = some (.sh B, [.sh Z, .sh (.int u)])) : (mSet [0, 1, 2] 5 (mCall [true, true] g_later (mCons (mPl 0) (mCons (mTm (mCall [true, true] g_coins_behind (mCons (mPl 0) (mCons (mPl 3) (mNil))))) (mNil))))) [.sh Z, .sh T, .sh (.int a), .sh A, .sh R, .no] = some (.nx, [.sh Z, .sh T, .sh (.int a), .sh A, .sh R, .sh B]) := by
  generalize g_coins_behind = G at *
  generalize g_later = G2 at *
  walk_at "es"
theorem r_3 {Z T A R B : PyData} {a x y w : Int} (e1 : g_paid_in [.sh Z, .sh T] = some (.sh (.int x), [.sh Z, .sh T])) (e2 : g_paid_in [.sh Z, .sh A] = some (.sh (.int y), [.sh Z, .sh A])) (e3 : g_paid_in [.sh B, .sh R] = some (.sh (.int w), [.sh B, .sh R])) (h : x = y + w) : (mIf (mTst (mB (cmpD .NotEq) (mTm (mCall [true, true] g_paid_in (mCons (mPl 0) (mCons (mPl 1) (mNil))))) (mTm (mB (binD .Add) (mTm (mCall [true, true] g_paid_in (mCons (mPl 0) (mCons (mPl 3) (mNil))))) (mTm (mCall [true, true] g_paid_in (mCons (mPl 5) (mCons (mPl 4) (mNil))))))))) (mSeq (mRet (mK (.bool false))) (mSkip)) (mSkip)) [.sh Z, .sh T, .sh (.int a), .sh A, .sh R, .sh B] = some (.nx, [.sh Z, .sh T, .sh (.int a), .sh A, .sh R, .sh B]) := by
  subst h
  generalize g_paid_in = G at *
  walk_at "es"
theorem r_4 {Z T A R B : PyData} {a x : Int} (e1 : g_coins_behind [.sh Z, .sh T] = some (.sh (.int x), [.sh Z, .sh T])) (e2 : g_coins_behind [.sh B, .sh R] = some (.sh (.int x), [.sh B, .sh R])) (e3 : g_purse_good [.sh B] = some (.sh (.bool true), [.sh B])) : (mIf (mOrT (mTst (mB (cmpD .NotEq) (mTm (mCall [true, true] g_coins_behind (mCons (mPl 0) (mCons (mPl 1) (mNil))))) (mTm (mCall [true, true] g_coins_behind (mCons (mPl 5) (mCons (mPl 4) (mNil))))))) (mTst (mB (cmpD .IsNot) (mTm (mCall [true] g_purse_good (mCons (mPl 5) (mNil)))) (mTm (mK (.bool true)))))) (mSeq (mRet (mK (.bool false))) (mSkip)) (mSkip)) [.sh Z, .sh T, .sh (.int a), .sh A, .sh R, .sh B] = some (.nx, [.sh Z, .sh T, .sh (.int a), .sh A, .sh R, .sh B]) := by
  generalize g_coins_behind = G at *
  generalize g_purse_good = G2 at *
  walk_at "es"
theorem r_5 {Z A R B : PyData} {T : Str} {a x n : Int} {L : List PyData} (hl : L.length ≤ 16777216) (e1 : g_paid_in [.sh Z, .sh (.str T)] = some (.sh (.int x), [.sh Z, .sh (.str T)])) (e2 : g_unpaid_at [.sh Z, .sh (.str T)] = some (.sh (.list L), [.sh Z, .sh (.str T)])) (e3 : scountD [.str T, .str "k"] = some (.sh (.int n))) (h : x + (L.length : Int) = n) : (mIf (mTst (mB (cmpD .NotEq) (mTm (mB (binD .Add) (mTm (mCall [true, true] g_paid_in (mCons (mPl 0) (mCons (mPl 1) (mNil))))) (mTm (mOp (Bf.f .len) (mCons (mTm (mCall [true, true] g_unpaid_at (mCons (mPl 0) (mCons (mPl 1) (mNil))))) (mNil)))))) (mTm (mM scountD isS (mPl 1) (mCons (mTm (mK (.str "k"))) (mNil)))))) (mSeq (mRet (mK (.bool false))) (mSkip)) (mSkip)) [.sh Z, .sh (.str T), .sh (.int a), .sh A, .sh R, .sh B] = some (.nx, [.sh Z, .sh (.str T), .sh (.int a), .sh A, .sh R, .sh B]) := by
  subst h
  generalize g_paid_in = G at *
  generalize g_unpaid_at = G2 at *
  generalize scountD = S at *
  walk_at "es"
theorem r_6 {Z T B : PyData} {A R : Str} {a x y : Int} (k1 : addD (.str A) (.str "a") = some (.sh (.str (A ++ "a")))) (k2 : addD (.str (A ++ "a")) (.str R) = some (.sh (.str (A ++ "a" ++ R)))) (e1 : g_paid_in [.sh Z, .sh (.str (A ++ "a" ++ R))] = some (.sh (.int x), [.sh Z, .sh (.str (A ++ "a" ++ R))])) (e2 : g_paid_in [.sh Z, .sh T] = some (.sh (.int y), [.sh Z, .sh T])) (h : ¬ x < y) : (mIf (mTst (mB (cmpD .Lt) (mTm (mCall [true, true] g_paid_in (mCons (mPl 0) (mCons (mTm (mB (binD .Add) (mTm (mB (binD .Add) (mPl 3) (mTm (mK (.str "a"))))) (mPl 4))) (mNil))))) (mTm (mCall [true, true] g_paid_in (mCons (mPl 0) (mCons (mPl 1) (mNil))))))) (mSeq (mRet (mK (.bool false))) (mSkip)) (mSkip)) [.sh Z, .sh T, .sh (.int a), .sh (.str A), .sh (.str R), .sh B] = some (.nx, [.sh Z, .sh T, .sh (.int a), .sh (.str A), .sh (.str R), .sh B]) := by
  generalize g_paid_in = G at *
  generalize A ++ "a" ++ R = W at *
  generalize A ++ "a" = V at *
  have e0 : binD .Add = addD := rfl
  rw [e0]
  generalize addD = A at *
  walk_at "es"
theorem r_7 {Z A R B : PyData} {T : Str} {a x n y : Int} (e1 : g_paid_in [.sh Z, .sh (.str T)] = some (.sh (.int x), [.sh Z, .sh (.str T)])) (e2 : g_most_paid [.sh Z, .sh (.int n)] = some (.sh (.int y), [.sh Z, .sh (.int n)])) (e3 : scountD [.str T, .str "a"] = some (.sh (.int n))) (h : ¬ y < x) : (mIf (mTst (mB (cmpD .Gt) (mTm (mCall [true, true] g_paid_in (mCons (mPl 0) (mCons (mPl 1) (mNil))))) (mTm (mCall [true, true] g_most_paid (mCons (mPl 0) (mCons (mTm (mM scountD isS (mPl 1) (mCons (mTm (mK (.str "a"))) (mNil)))) (mNil))))))) (mSeq (mRet (mK (.bool false))) (mSkip)) (mSkip)) [.sh Z, .sh (.str T), .sh (.int a), .sh A, .sh R, .sh B] = some (.nx, [.sh Z, .sh (.str T), .sh (.int a), .sh A, .sh R, .sh B]) := by
  generalize g_paid_in = G at *
  generalize g_most_paid = G2 at *
  generalize scountD = S at *
  walk_at "es"
theorem r_8 {Z A T B : PyData} {R : Str} {a x n y : Int} (e1 : g_paid_in [.sh B, .sh (.str R)] = some (.sh (.int x), [.sh B, .sh (.str R)])) (e2 : g_most_between [.sh Z, .sh (.int n)] = some (.sh (.int y), [.sh Z, .sh (.int n)])) (e3 : scountD [.str R, .str "a"] = some (.sh (.int n))) (h : x ≤ y) : (mRet (mB (cmpD .LtE) (mTm (mCall [true, true] g_paid_in (mCons (mPl 5) (mCons (mPl 4) (mNil))))) (mTm (mCall [true, true] g_most_between (mCons (mPl 0) (mCons (mTm (mM scountD isS (mPl 4) (mCons (mTm (mK (.str "a"))) (mNil)))) (mNil))))))) [.sh Z, .sh T, .sh (.int a), .sh A, .sh (.str R), .sh B] = some (.rt (.sh (.bool true)), [.sh Z, .sh T, .sh (.int a), .sh A, .sh (.str R), .sh B]) := by
  generalize g_paid_in = G at *
  generalize g_most_between = G2 at *
  generalize scountD = S at *
  walk_at "es"
end KW
namespace KW
open PySem PySem.Spec PyProof.Rows L2 L2.M
local macro_rules | `(tactic| walk_at "ev") => `(tactic| simp [semF, shared, after, mSeq, mSkip, mIf, mRet, mRetN, mRetV, mSet, mSetIx, mExpr, mB, mU, mTm, mPl, mK, mVar, mOp, mCons, mNil, bor, bors, mTst, mAndT, mOrT, mNotT, mAndE, mOrE, mNotE, mIfE, mIsi, isiD, mChn, chnL, cmpD, binD, addD, subD, mulD, modD, fdivD, powD, eqD, neD, ltD, leD, gtD, geD, isD, isnD, L2.M.isNon, negD, ixD, Bf.f, Bg.f, lenD, L2.M.intD, maxD, minD, repD, strD, gmaxD, gminD, sumD, sortD, anyD, allD, mCall, frz, fzO, lend, wb, mTup, mLst, fzs, cD, mAsg, bTup, bTps, mApp, tupD, lstD, mRev, revD, ofs_inj, ee_ii, ee_ss, ee_bb, ee_nn, ee_is, ee_si, ee_in, ee_ni, ee_tt, ee_ll, ee_maps, ee_0, ee_1, ee_2, ee_3, at_lit, at_nat, at_m1, at_m2, scD, emD, sizeLine_eq, ixN, sm_lit, mSrc, itemsD, plOf, rng1D, bNm, mSl, mPt, mNoP, slD, mPar, keepT, tmsO, setA, mFlow, zipX, enumX, itemsX, intsOf, ints_all, boolsOf, shaped_lay, lay_int, lay_bool, lay_none, lay_dict, lay_tup, lay_list, lay_ints, sortX_ints, mPlF, mPlI, mRd, mPU, mPB, mFSet, mFNew, mNSet, mPApp, mPSetIx, mPPop, mMeth, mNew, isIns, cellO, mLstN, mAddN, mAppN, semX, mTold, mCallX, xRet, xExpr, xSet, mRaise, mM, isL, isS, mOrV, truD])
local macro_rules | `(tactic| walk_at "es") => `(tactic| simp [semF, shared, after, mSeq, mSkip, mIf, mRet, mRetN, mRetV, mSet, mSetIx, mExpr, mB, mU, mTm, mPl, mK, mVar, mOp, mCons, mNil, bor, bors, mTst, mAndT, mOrT, mNotT, mAndE, mOrE, mNotE, mIfE, mIsi, isiD, mChn, chnL, cmpD, binD, addD, subD, mulD, modD, fdivD, powD, eqD, neD, ltD, leD, gtD, geD, isD, isnD, L2.M.isNon, negD, ixD, Bf.f, Bg.f, lenD, L2.M.intD, maxD, minD, repD, strD, gmaxD, gminD, sumD, sortD, anyD, allD, mCall, frz, fzO, lend, wb, mTup, mLst, fzs, cD, mAsg, bTup, bTps, mApp, tupD, lstD, mRev, revD, ofs_inj, ee_ii, ee_ss, ee_bb, ee_nn, ee_is, ee_si, ee_in, ee_ni, ee_tt, ee_ll, ee_maps, ee_0, ee_1, ee_2, ee_3, at_lit, at_nat, at_m1, at_m2, scD, emD, sizeLine_eq, ixN, sm_lit, mSrc, itemsD, plOf, rng1D, bNm, mSl, mPt, mNoP, slD, mPar, keepT, tmsO, setA, mFlow, zipX, enumX, itemsX, intsOf, ints_all, boolsOf, shaped_lay, lay_int, lay_bool, lay_none, lay_dict, lay_tup, lay_list, lay_ints, sortX_ints, mPlF, mPlI, mRd, mPU, mPB, mFSet, mFNew, mNSet, mPApp, mPSetIx, mPPop, mMeth, mNew, isIns, cellO, mLstN, mAddN, mAppN, semX, mTold, mCallX, xRet, xExpr, xSet, mRaise, mM, isL, isS, mOrV, truD, *])
local macro_rules | `(tactic| walk_at "el") => `(tactic| simp [semF, shared, after, mSeq, mSkip, mIf, mRet, mRetN, mRetV, mSet, mSetIx, mExpr, mB, mU, mTm, mPl, mK, mVar, mOp, mCons, mNil, bor, bors, mTst, mAndT, mOrT, mNotT, mAndE, mOrE, mNotE, mIfE, mIsi, isiD, mChn, chnL, cmpD, binD, addD, subD, mulD, modD, fdivD, powD, eqD, neD, ltD, leD, gtD, geD, isD, isnD, L2.M.isNon, negD, ixD, Bf.f, Bg.f, lenD, L2.M.intD, maxD, minD, repD, strD, gmaxD, gminD, sumD, sortD, anyD, allD, mCall, frz, fzO, lend, wb, mTup, mLst, fzs, cD, mAsg, bTup, bTps, mApp, tupD, lstD, mRev, revD, ofs_inj, ee_ii, ee_ss, ee_bb, ee_nn, ee_is, ee_si, ee_in, ee_ni, ee_tt, ee_ll, ee_maps, ee_0, ee_1, ee_2, ee_3, at_lit, at_nat, at_m1, at_m2, scD, emD, sizeLine_eq, ixN, sm_lit, mSrc, itemsD, plOf, rng1D, bNm, mSl, mPt, mNoP, slD, mPar, keepT, tmsO, setA, mFlow, zipX, enumX, itemsX, intsOf, ints_all, boolsOf, shaped_lay, lay_int, lay_bool, lay_none, lay_dict, lay_tup, lay_list, lay_ints, sortX_ints, mPlF, mPlI, mRd, mPU, mPB, mFSet, mFNew, mNSet, mPApp, mPSetIx, mPPop, mMeth, mNew, isIns, cellO, mLstN, mAddN, mAppN, semX, mTold, mCallX, xRet, xExpr, xSet, mRaise, mM, isL, isS, mOrV, truD, mLc, lcL, sameC, wipeC, restC, mYes, *])
local macro_rules | `(tactic| walk_at "ef") => `(tactic| simp [semF, shared, after, mSeq, mSkip, mIf, mRet, mRetN, mRetV, mSet, mSetIx, mExpr, mB, mU, mTm, mPl, mK, mVar, mOp, mCons, mNil, bor, bors, mTst, mAndT, mOrT, mNotT, mAndE, mOrE, mNotE, mIfE, mIsi, isiD, mChn, chnL, cmpD, binD, addD, subD, mulD, modD, fdivD, powD, eqD, neD, ltD, leD, gtD, geD, isD, isnD, L2.M.isNon, negD, ixD, Bf.f, Bg.f, lenD, L2.M.intD, maxD, minD, repD, strD, gmaxD, gminD, sumD, sortD, anyD, allD, mCall, frz, fzO, lend, wb, mTup, mLst, fzs, cD, mAsg, bTup, bTps, mApp, tupD, lstD, mRev, revD, ofs_inj, ee_ii, ee_ss, ee_bb, ee_nn, ee_is, ee_si, ee_in, ee_ni, ee_tt, ee_ll, ee_maps, ee_0, ee_1, ee_2, ee_3, at_lit, at_nat, at_m1, at_m2, scD, emD, sizeLine_eq, ixN, sm_lit, mSrc, itemsD, plOf, rng1D, bNm, mSl, mPt, mNoP, slD, mPar, keepT, tmsO, setA, mFlow, zipX, enumX, itemsX, intsOf, ints_all, boolsOf, shaped_lay, lay_int, lay_bool, lay_none, lay_dict, lay_tup, lay_list, lay_ints, sortX_ints, mPlF, mPlI, mRd, mPU, mPB, mFSet, mFNew, mNSet, mPApp, mPSetIx, mPPop, mMeth, mNew, isIns, cellO, mLstN, mAddN, mAppN, semX, mTold, mCallX, xRet, xExpr, xSet, mRaise, mM, isL, isS, mOrV, truD, mFor, forL, mLc, lcL, sameC, wipeC, restC, mYes, *])
local macro_rules | `(tactic| walk_at "rg") => `(tactic| (and_intros <;> grind))
local macro_rules | `(tactic| walk_at "nx") => `(tactic| (apply wx_nx; focus (walk_at "ev"; try first | exact ⟨rfl, rfl⟩ | rfl)))
local macro_rules | `(tactic| walk_at "ns") => `(tactic| (apply wx_nx; focus (walk_at "es"; try first | exact ⟨rfl, rfl⟩ | rfl)))
local macro_rules | `(tactic| walk_at "rt") => `(tactic| (apply wx_rt; focus (walk_at "ev"; try first | exact ⟨rfl, rfl⟩ | rfl)))
local macro_rules | `(tactic| walk_at "rs") => `(tactic| (apply wx_rt; focus (walk_at "es"; try first | exact ⟨rfl, rfl⟩ | rfl)))
local macro_rules | `(tactic| walk_at "ed") => `(tactic| simp [semF, shared, after, mSeq, mSkip, mIf, mRet, mRetN, mRetV, mSet, mSetIx, mExpr, mB, mU, mTm, mPl, mK, mVar, mOp, mCons, mNil, bor, bors, mTst, mAndT, mOrT, mNotT, mAndE, mOrE, mNotE, mIfE, mIsi, isiD, mChn, chnL, cmpD, binD, addD, subD, mulD, modD, fdivD, powD, eqD, neD, ltD, leD, gtD, geD, isD, isnD, L2.M.isNon, negD, ixD, Bf.f, Bg.f, lenD, L2.M.intD, maxD, minD, repD, strD, gmaxD, gminD, sumD, sortD, anyD, allD, mCall, frz, fzO, lend, wb, mTup, mLst, fzs, cD, mAsg, bTup, bTps, mApp, tupD, lstD, mRev, revD, ofs_inj, ee_ii, ee_ss, ee_bb, ee_nn, ee_is, ee_si, ee_in, ee_ni, ee_tt, ee_ll, ee_maps, ee_0, ee_1, ee_2, ee_3, at_lit, at_nat, at_m1, at_m2, scD, emD, sizeLine_eq, ixN, sm_lit, mSrc, itemsD, plOf, rng1D, bNm, mSl, mPt, mNoP, slD, mPar, keepT, tmsO, setA, mFlow, zipX, enumX, itemsX, intsOf, ints_all, boolsOf, shaped_lay, lay_int, lay_bool, lay_none, lay_dict, lay_tup, lay_list, lay_ints, sortX_ints, mPlF, mPlI, mRd, mPU, mPB, mFSet, mFNew, mNSet, mPApp, mPSetIx, mPPop, mMeth, mNew, isIns, cellO, mLstN, mAddN, mAppN, semX, mTold, mCallX, xRet, xExpr, xSet, mRaise, mM, isL, isS, mOrV, truD, mDNew, mDIn, mDGet, mDLen, mDPut, kyD, mNNew, mN1, mTake, mFnV, mCallF, mNIn, mNGet, mNPut, mNVals, mNList, nKs, mDGetD, mDList, mNNe, *])
/-- from which the most is paid -/
def st35 (z : Pz) : Int := if 0 < z.p then z.c else z.f
theorem mb_1 {z : Pz} {M v : Int} (hp : z.p = 0) (f : g_paid_turns [.sh z.d, .sh (.int z.f), .sh (.int M)] = some (.sh (.int v), [.sh z.d, .sh (.int z.f), .sh (.int M)])) : g_most_between [.sh z.d, .sh (.int M)] = some (.sh (.int v), [.sh z.d, .sh (.int M)]) := by
  unfold g_most_between m_most_between
  unfold Pz.d at *
  rw [hp] at *
  generalize g_paid_turns = G at *
  walk_at "es"
theorem mb_2 {z : Pz} {M v : Int} (hp : ¬ z.p = 0) (f : g_paid_turns [.sh z.d, .sh (.int z.c), .sh (.int M)] = some (.sh (.int v), [.sh z.d, .sh (.int z.c), .sh (.int M)])) : g_most_between [.sh z.d, .sh (.int M)] = some (.sh (.int v), [.sh z.d, .sh (.int M)]) := by
  unfold g_most_between m_most_between
  unfold Pz.d at *
  generalize g_paid_turns = G at *
  walk_at "es"
theorem between_eq {z : Pz} (h : z.Ok) {M : Nat} (hM : M ≤ 10 ^ 12) : g_most_between [.sh z.d, .sh (.int (M : Int))] = some (.sh (.int (gr z (st35 z) M)), [.sh z.d, .sh (.int (M : Int))]) := by
  have p0 := h.p0
  have f0 := h.f0
  have f1 := h.f1
  unfold st35
  by_cases q : z.p = 0
  · rw [if_neg (by omega)]
    exact mb_1 q (paid_turns_eq h h.f0 hM)
  · rw [if_pos (by omega)]
    exact mb_2 q (paid_turns_eq h (by omega) hM)
end KW
namespace KW
open PySem PySem.Spec PyProof.Rows L2 L2.M
local macro_rules | `(tactic| walk_at "ev") => `(tactic| simp [semF, shared, after, mSeq, mSkip, mIf, mRet, mRetN, mRetV, mSet, mSetIx, mExpr, mB, mU, mTm, mPl, mK, mVar, mOp, mCons, mNil, bor, bors, mTst, mAndT, mOrT, mNotT, mAndE, mOrE, mNotE, mIfE, mIsi, isiD, mChn, chnL, cmpD, binD, addD, subD, mulD, modD, fdivD, powD, eqD, neD, ltD, leD, gtD, geD, isD, isnD, L2.M.isNon, negD, ixD, Bf.f, Bg.f, lenD, L2.M.intD, maxD, minD, repD, strD, gmaxD, gminD, sumD, sortD, anyD, allD, mCall, frz, fzO, lend, wb, mTup, mLst, fzs, cD, mAsg, bTup, bTps, mApp, tupD, lstD, mRev, revD, ofs_inj, ee_ii, ee_ss, ee_bb, ee_nn, ee_is, ee_si, ee_in, ee_ni, ee_tt, ee_ll, ee_maps, ee_0, ee_1, ee_2, ee_3, at_lit, at_nat, at_m1, at_m2, scD, emD, sizeLine_eq, ixN, sm_lit, mSrc, itemsD, plOf, rng1D, bNm, mSl, mPt, mNoP, slD, mPar, keepT, tmsO, setA, mFlow, zipX, enumX, itemsX, intsOf, ints_all, boolsOf, shaped_lay, lay_int, lay_bool, lay_none, lay_dict, lay_tup, lay_list, lay_ints, sortX_ints, mPlF, mPlI, mRd, mPU, mPB, mFSet, mFNew, mNSet, mPApp, mPSetIx, mPPop, mMeth, mNew, isIns, cellO, mLstN, mAddN, mAppN, semX, mTold, mCallX, xRet, xExpr, xSet, mRaise, mM, isL, isS, mOrV, truD])
local macro_rules | `(tactic| walk_at "es") => `(tactic| simp [semF, shared, after, mSeq, mSkip, mIf, mRet, mRetN, mRetV, mSet, mSetIx, mExpr, mB, mU, mTm, mPl, mK, mVar, mOp, mCons, mNil, bor, bors, mTst, mAndT, mOrT, mNotT, mAndE, mOrE, mNotE, mIfE, mIsi, isiD, mChn, chnL, cmpD, binD, addD, subD, mulD, modD, fdivD, powD, eqD, neD, ltD, leD, gtD, geD, isD, isnD, L2.M.isNon, negD, ixD, Bf.f, Bg.f, lenD, L2.M.intD, maxD, minD, repD, strD, gmaxD, gminD, sumD, sortD, anyD, allD, mCall, frz, fzO, lend, wb, mTup, mLst, fzs, cD, mAsg, bTup, bTps, mApp, tupD, lstD, mRev, revD, ofs_inj, ee_ii, ee_ss, ee_bb, ee_nn, ee_is, ee_si, ee_in, ee_ni, ee_tt, ee_ll, ee_maps, ee_0, ee_1, ee_2, ee_3, at_lit, at_nat, at_m1, at_m2, scD, emD, sizeLine_eq, ixN, sm_lit, mSrc, itemsD, plOf, rng1D, bNm, mSl, mPt, mNoP, slD, mPar, keepT, tmsO, setA, mFlow, zipX, enumX, itemsX, intsOf, ints_all, boolsOf, shaped_lay, lay_int, lay_bool, lay_none, lay_dict, lay_tup, lay_list, lay_ints, sortX_ints, mPlF, mPlI, mRd, mPU, mPB, mFSet, mFNew, mNSet, mPApp, mPSetIx, mPPop, mMeth, mNew, isIns, cellO, mLstN, mAddN, mAppN, semX, mTold, mCallX, xRet, xExpr, xSet, mRaise, mM, isL, isS, mOrV, truD, *])
local macro_rules | `(tactic| walk_at "el") => `(tactic| simp [semF, shared, after, mSeq, mSkip, mIf, mRet, mRetN, mRetV, mSet, mSetIx, mExpr, mB, mU, mTm, mPl, mK, mVar, mOp, mCons, mNil, bor, bors, mTst, mAndT, mOrT, mNotT, mAndE, mOrE, mNotE, mIfE, mIsi, isiD, mChn, chnL, cmpD, binD, addD, subD, mulD, modD, fdivD, powD, eqD, neD, ltD, leD, gtD, geD, isD, isnD, L2.M.isNon, negD, ixD, Bf.f, Bg.f, lenD, L2.M.intD, maxD, minD, repD, strD, gmaxD, gminD, sumD, sortD, anyD, allD, mCall, frz, fzO, lend, wb, mTup, mLst, fzs, cD, mAsg, bTup, bTps, mApp, tupD, lstD, mRev, revD, ofs_inj, ee_ii, ee_ss, ee_bb, ee_nn, ee_is, ee_si, ee_in, ee_ni, ee_tt, ee_ll, ee_maps, ee_0, ee_1, ee_2, ee_3, at_lit, at_nat, at_m1, at_m2, scD, emD, sizeLine_eq, ixN, sm_lit, mSrc, itemsD, plOf, rng1D, bNm, mSl, mPt, mNoP, slD, mPar, keepT, tmsO, setA, mFlow, zipX, enumX, itemsX, intsOf, ints_all, boolsOf, shaped_lay, lay_int, lay_bool, lay_none, lay_dict, lay_tup, lay_list, lay_ints, sortX_ints, mPlF, mPlI, mRd, mPU, mPB, mFSet, mFNew, mNSet, mPApp, mPSetIx, mPPop, mMeth, mNew, isIns, cellO, mLstN, mAddN, mAppN, semX, mTold, mCallX, xRet, xExpr, xSet, mRaise, mM, isL, isS, mOrV, truD, mLc, lcL, sameC, wipeC, restC, mYes, *])
local macro_rules | `(tactic| walk_at "ef") => `(tactic| simp [semF, shared, after, mSeq, mSkip, mIf, mRet, mRetN, mRetV, mSet, mSetIx, mExpr, mB, mU, mTm, mPl, mK, mVar, mOp, mCons, mNil, bor, bors, mTst, mAndT, mOrT, mNotT, mAndE, mOrE, mNotE, mIfE, mIsi, isiD, mChn, chnL, cmpD, binD, addD, subD, mulD, modD, fdivD, powD, eqD, neD, ltD, leD, gtD, geD, isD, isnD, L2.M.isNon, negD, ixD, Bf.f, Bg.f, lenD, L2.M.intD, maxD, minD, repD, strD, gmaxD, gminD, sumD, sortD, anyD, allD, mCall, frz, fzO, lend, wb, mTup, mLst, fzs, cD, mAsg, bTup, bTps, mApp, tupD, lstD, mRev, revD, ofs_inj, ee_ii, ee_ss, ee_bb, ee_nn, ee_is, ee_si, ee_in, ee_ni, ee_tt, ee_ll, ee_maps, ee_0, ee_1, ee_2, ee_3, at_lit, at_nat, at_m1, at_m2, scD, emD, sizeLine_eq, ixN, sm_lit, mSrc, itemsD, plOf, rng1D, bNm, mSl, mPt, mNoP, slD, mPar, keepT, tmsO, setA, mFlow, zipX, enumX, itemsX, intsOf, ints_all, boolsOf, shaped_lay, lay_int, lay_bool, lay_none, lay_dict, lay_tup, lay_list, lay_ints, sortX_ints, mPlF, mPlI, mRd, mPU, mPB, mFSet, mFNew, mNSet, mPApp, mPSetIx, mPPop, mMeth, mNew, isIns, cellO, mLstN, mAddN, mAppN, semX, mTold, mCallX, xRet, xExpr, xSet, mRaise, mM, isL, isS, mOrV, truD, mFor, forL, mLc, lcL, sameC, wipeC, restC, mYes, *])
local macro_rules | `(tactic| walk_at "rg") => `(tactic| (and_intros <;> grind))
local macro_rules | `(tactic| walk_at "nx") => `(tactic| (apply wx_nx; focus (walk_at "ev"; try first | exact ⟨rfl, rfl⟩ | rfl)))
local macro_rules | `(tactic| walk_at "ns") => `(tactic| (apply wx_nx; focus (walk_at "es"; try first | exact ⟨rfl, rfl⟩ | rfl)))
local macro_rules | `(tactic| walk_at "rt") => `(tactic| (apply wx_rt; focus (walk_at "ev"; try first | exact ⟨rfl, rfl⟩ | rfl)))
local macro_rules | `(tactic| walk_at "rs") => `(tactic| (apply wx_rt; focus (walk_at "es"; try first | exact ⟨rfl, rfl⟩ | rfl)))
local macro_rules | `(tactic| walk_at "ed") => `(tactic| simp [semF, shared, after, mSeq, mSkip, mIf, mRet, mRetN, mRetV, mSet, mSetIx, mExpr, mB, mU, mTm, mPl, mK, mVar, mOp, mCons, mNil, bor, bors, mTst, mAndT, mOrT, mNotT, mAndE, mOrE, mNotE, mIfE, mIsi, isiD, mChn, chnL, cmpD, binD, addD, subD, mulD, modD, fdivD, powD, eqD, neD, ltD, leD, gtD, geD, isD, isnD, L2.M.isNon, negD, ixD, Bf.f, Bg.f, lenD, L2.M.intD, maxD, minD, repD, strD, gmaxD, gminD, sumD, sortD, anyD, allD, mCall, frz, fzO, lend, wb, mTup, mLst, fzs, cD, mAsg, bTup, bTps, mApp, tupD, lstD, mRev, revD, ofs_inj, ee_ii, ee_ss, ee_bb, ee_nn, ee_is, ee_si, ee_in, ee_ni, ee_tt, ee_ll, ee_maps, ee_0, ee_1, ee_2, ee_3, at_lit, at_nat, at_m1, at_m2, scD, emD, sizeLine_eq, ixN, sm_lit, mSrc, itemsD, plOf, rng1D, bNm, mSl, mPt, mNoP, slD, mPar, keepT, tmsO, setA, mFlow, zipX, enumX, itemsX, intsOf, ints_all, boolsOf, shaped_lay, lay_int, lay_bool, lay_none, lay_dict, lay_tup, lay_list, lay_ints, sortX_ints, mPlF, mPlI, mRd, mPU, mPB, mFSet, mFNew, mNSet, mPApp, mPSetIx, mPPop, mMeth, mNew, isIns, cellO, mLstN, mAddN, mAppN, semX, mTold, mCallX, xRet, xExpr, xSet, mRaise, mM, isL, isS, mOrV, truD, mDNew, mDIn, mDGet, mDLen, mDPut, kyD, mNNew, mN1, mTake, mFnV, mCallF, mNIn, mNGet, mNPut, mNVals, mNList, nKs, mDGetD, mDList, mNNe, *])
theorem row_right_eq {z : Pz} (h : z.Ok) {T : Str} {bs : List Bool} (hT : cpsL T = bs.map sgn) (hl : bs.length ≤ 100) {a : Nat} (ha : a ≤ bs.length) : g_law_row_right [.sh z.d, .sh (.str T), .sh (.int (a : Int))] = some (.sh (.bool true), [.sh z.d, .sh (.str T), .sh (.int (a : Int))]) := by
  have hTl := len_map hT
  have hA : cpsL (cutS T none (some (a : Int))) = (bs.take a).map sgn := by
    rw [cut_cps, hT, cut_to _ (by omega), List.map_take]
    rfl
  have hR : cpsL (cutS T (some (a : Int)) none) = (bs.drop a).map sgn := by
    rw [cut_cps, hT, cut_from _ (by omega), List.map_drop]
    rfl
  have e : bs = bs.take a ++ bs.drop a := (List.take_append_drop a bs).symm
  apply rt_eq
  unfold g_law_row_right m_law_row_right
  apply rt_sem rfl
  apply wx_nx (r_1 (by omega))
  generalize cutS T none (some (a : Int)) = A at *
  generalize cutS T (some (a : Int)) none = R at *
  have la : (bs.take a).length ≤ 100 := by rw [List.length_take]; omega
  have lb : (bs.drop a).length ≤ 100 := by rw [List.length_drop]; omega
  have lab : (bs.take a).length + (bs.drop a).length ≤ 100 := by rw [← List.length_append, ← e]; exact hl
  generalize bs.take a = b1 at *
  generalize bs.drop a = b2 at *
  subst e
  have f0 := h.f0
  have f1 := h.f1
  have b := en_b h b1 ⟨f0, f1⟩
  have hB := at_ok h b
  have cA := coins_eq (z := z) hA (by omega)
  have cT := coins_eq (z := z) hT (by omega)
  have pT := paid_eq (z := z) hT (by omega)
  have pA := paid_eq (z := z) hA (by omega)
  have pR := paid_eq (z := z.at (en z z.f b1)) hR (by omega)
  have cR := coins_eq (z := z.at (en z z.f b1)) hR (by omega)
  have uT := unpaid_eq (z := z) hT (by omega)
  have sk := sct false hT
  have sa := sct true hT
  have sr := sct true hR
  rw [pd_at] at pR
  rw [en_at] at cR
  have ef : (z.at (en z z.f b1)).f = en z z.f b1 := rfl
  rw [ef] at pR cR
  have ee : en z z.f (b1 ++ b2) = en z (en z z.f b1) b2 := List.foldl_append
  rw [ee] at cT
  apply wx_nx (r_2 cA (later_eq b))
  apply wx_nx (r_3 pT pA pR (pd_app z b1 b2 z.f))
  apply wx_nx (r_4 cT cR (good_eq hB))
  have hu := unp_len z (b1 ++ b2) 0 z.f
  have hpu := pd_unp z (b1 ++ b2) 0 z.f
  apply wx_nx (r_5 (by rw [List.length_map]; omega) pT uT sk (by rw [List.length_map]; exact hpu))
  have lA := len_map hA
  have lR := len_map hR
  have e1 : ("a" : Str).length = 1 := rfl
  have hW : cpsL (A ++ "a" ++ R) = (b1 ++ [true] ++ b2).map sgn := by
    rw [cps_app, cps_app, hA, hR, List.map_append, List.map_append]
    rfl
  have pW := paid_eq (z := z) hW (by simp; omega)
  have hm : ¬ pd z z.f (b1 ++ [true] ++ b2) < pd z z.f (b1 ++ b2) := by
    have q1 := pd_app z b1 b2 z.f
    have q2 := pd_app z (b1 ++ [true]) b2 z.f
    have q3 := pd_app z b1 [true] z.f
    have q4 : pd z (en z z.f b1) [true] = 0 := by simp [pd]
    have q5 : en z z.f (b1 ++ [true]) = pin z (en z z.f b1) := by
      show List.foldl _ _ _ = _
      rw [List.foldl_append]
      rfl
    rw [q5] at q2
    have q6 : en z z.f b1 ≤ pin z (en z z.f b1) := by
      have := h.p0
      unfold pin
      split <;> omega
    have := pd_mono h q6 b2
    omega
  apply wx_nx (r_6 (add_str (by omega)) (add_str (by rw [strLen_append]; omega)) pW pT hm)
  have l1 : (b1 ++ b2).count true ≤ (b1 ++ b2).length := List.count_le_length
  have l2 : b2.count true ≤ b2.length := List.count_le_length
  have g1 := pd_gr h (b1 ++ b2) f0
  apply wx_nx (r_7 pT (most_paid_eq h (M := (b1 ++ b2).count true) (by omega)) sa (by omega))
  have g2 := pd_gr h b2 b.1
  have g3 : gr z (en z z.f b1) (b2.count true) ≤ gr z (st35 z) (b2.count true) := by
    refine gr_mono h _ ?_
    have p0 := h.p0
    unfold st35
    split
    · exact b.2
    · exact en_free h (by omega) b1
  exact wx_rt (r_8 pR (between_eq h (M := b2.count true) (by omega)) sr (by omega)) ⟨rfl, rfl⟩
end KW
namespace KW
open PySem PySem.Spec PyProof.Rows L2 L2.M
local macro_rules | `(tactic| walk_at "ev") => `(tactic| simp [semF, shared, after, mSeq, mSkip, mIf, mRet, mRetN, mRetV, mSet, mSetIx, mExpr, mB, mU, mTm, mPl, mK, mVar, mOp, mCons, mNil, bor, bors, mTst, mAndT, mOrT, mNotT, mAndE, mOrE, mNotE, mIfE, mIsi, isiD, mChn, chnL, cmpD, binD, addD, subD, mulD, modD, fdivD, powD, eqD, neD, ltD, leD, gtD, geD, isD, isnD, L2.M.isNon, negD, ixD, Bf.f, Bg.f, lenD, L2.M.intD, maxD, minD, repD, strD, gmaxD, gminD, sumD, sortD, anyD, allD, mCall, frz, fzO, lend, wb, mTup, mLst, fzs, cD, mAsg, bTup, bTps, mApp, tupD, lstD, mRev, revD, ofs_inj, ee_ii, ee_ss, ee_bb, ee_nn, ee_is, ee_si, ee_in, ee_ni, ee_tt, ee_ll, ee_maps, ee_0, ee_1, ee_2, ee_3, at_lit, at_nat, at_m1, at_m2, scD, emD, sizeLine_eq, ixN, sm_lit, mSrc, itemsD, plOf, rng1D, bNm, mSl, mPt, mNoP, slD, mPar, keepT, tmsO, setA, mFlow, zipX, enumX, itemsX, intsOf, ints_all, boolsOf, shaped_lay, lay_int, lay_bool, lay_none, lay_dict, lay_tup, lay_list, lay_ints, sortX_ints, mPlF, mPlI, mRd, mPU, mPB, mFSet, mFNew, mNSet, mPApp, mPSetIx, mPPop, mMeth, mNew, isIns, cellO, mLstN, mAddN, mAppN, semX, mTold, mCallX, xRet, xExpr, xSet, mRaise, mM, isL, isS, mOrV, truD])
local macro_rules | `(tactic| walk_at "es") => `(tactic| simp [semF, shared, after, mSeq, mSkip, mIf, mRet, mRetN, mRetV, mSet, mSetIx, mExpr, mB, mU, mTm, mPl, mK, mVar, mOp, mCons, mNil, bor, bors, mTst, mAndT, mOrT, mNotT, mAndE, mOrE, mNotE, mIfE, mIsi, isiD, mChn, chnL, cmpD, binD, addD, subD, mulD, modD, fdivD, powD, eqD, neD, ltD, leD, gtD, geD, isD, isnD, L2.M.isNon, negD, ixD, Bf.f, Bg.f, lenD, L2.M.intD, maxD, minD, repD, strD, gmaxD, gminD, sumD, sortD, anyD, allD, mCall, frz, fzO, lend, wb, mTup, mLst, fzs, cD, mAsg, bTup, bTps, mApp, tupD, lstD, mRev, revD, ofs_inj, ee_ii, ee_ss, ee_bb, ee_nn, ee_is, ee_si, ee_in, ee_ni, ee_tt, ee_ll, ee_maps, ee_0, ee_1, ee_2, ee_3, at_lit, at_nat, at_m1, at_m2, scD, emD, sizeLine_eq, ixN, sm_lit, mSrc, itemsD, plOf, rng1D, bNm, mSl, mPt, mNoP, slD, mPar, keepT, tmsO, setA, mFlow, zipX, enumX, itemsX, intsOf, ints_all, boolsOf, shaped_lay, lay_int, lay_bool, lay_none, lay_dict, lay_tup, lay_list, lay_ints, sortX_ints, mPlF, mPlI, mRd, mPU, mPB, mFSet, mFNew, mNSet, mPApp, mPSetIx, mPPop, mMeth, mNew, isIns, cellO, mLstN, mAddN, mAppN, semX, mTold, mCallX, xRet, xExpr, xSet, mRaise, mM, isL, isS, mOrV, truD, *])
local macro_rules | `(tactic| walk_at "el") => `(tactic| simp [semF, shared, after, mSeq, mSkip, mIf, mRet, mRetN, mRetV, mSet, mSetIx, mExpr, mB, mU, mTm, mPl, mK, mVar, mOp, mCons, mNil, bor, bors, mTst, mAndT, mOrT, mNotT, mAndE, mOrE, mNotE, mIfE, mIsi, isiD, mChn, chnL, cmpD, binD, addD, subD, mulD, modD, fdivD, powD, eqD, neD, ltD, leD, gtD, geD, isD, isnD, L2.M.isNon, negD, ixD, Bf.f, Bg.f, lenD, L2.M.intD, maxD, minD, repD, strD, gmaxD, gminD, sumD, sortD, anyD, allD, mCall, frz, fzO, lend, wb, mTup, mLst, fzs, cD, mAsg, bTup, bTps, mApp, tupD, lstD, mRev, revD, ofs_inj, ee_ii, ee_ss, ee_bb, ee_nn, ee_is, ee_si, ee_in, ee_ni, ee_tt, ee_ll, ee_maps, ee_0, ee_1, ee_2, ee_3, at_lit, at_nat, at_m1, at_m2, scD, emD, sizeLine_eq, ixN, sm_lit, mSrc, itemsD, plOf, rng1D, bNm, mSl, mPt, mNoP, slD, mPar, keepT, tmsO, setA, mFlow, zipX, enumX, itemsX, intsOf, ints_all, boolsOf, shaped_lay, lay_int, lay_bool, lay_none, lay_dict, lay_tup, lay_list, lay_ints, sortX_ints, mPlF, mPlI, mRd, mPU, mPB, mFSet, mFNew, mNSet, mPApp, mPSetIx, mPPop, mMeth, mNew, isIns, cellO, mLstN, mAddN, mAppN, semX, mTold, mCallX, xRet, xExpr, xSet, mRaise, mM, isL, isS, mOrV, truD, mLc, lcL, sameC, wipeC, restC, mYes, *])
local macro_rules | `(tactic| walk_at "ef") => `(tactic| simp [semF, shared, after, mSeq, mSkip, mIf, mRet, mRetN, mRetV, mSet, mSetIx, mExpr, mB, mU, mTm, mPl, mK, mVar, mOp, mCons, mNil, bor, bors, mTst, mAndT, mOrT, mNotT, mAndE, mOrE, mNotE, mIfE, mIsi, isiD, mChn, chnL, cmpD, binD, addD, subD, mulD, modD, fdivD, powD, eqD, neD, ltD, leD, gtD, geD, isD, isnD, L2.M.isNon, negD, ixD, Bf.f, Bg.f, lenD, L2.M.intD, maxD, minD, repD, strD, gmaxD, gminD, sumD, sortD, anyD, allD, mCall, frz, fzO, lend, wb, mTup, mLst, fzs, cD, mAsg, bTup, bTps, mApp, tupD, lstD, mRev, revD, ofs_inj, ee_ii, ee_ss, ee_bb, ee_nn, ee_is, ee_si, ee_in, ee_ni, ee_tt, ee_ll, ee_maps, ee_0, ee_1, ee_2, ee_3, at_lit, at_nat, at_m1, at_m2, scD, emD, sizeLine_eq, ixN, sm_lit, mSrc, itemsD, plOf, rng1D, bNm, mSl, mPt, mNoP, slD, mPar, keepT, tmsO, setA, mFlow, zipX, enumX, itemsX, intsOf, ints_all, boolsOf, shaped_lay, lay_int, lay_bool, lay_none, lay_dict, lay_tup, lay_list, lay_ints, sortX_ints, mPlF, mPlI, mRd, mPU, mPB, mFSet, mFNew, mNSet, mPApp, mPSetIx, mPPop, mMeth, mNew, isIns, cellO, mLstN, mAddN, mAppN, semX, mTold, mCallX, xRet, xExpr, xSet, mRaise, mM, isL, isS, mOrV, truD, mFor, forL, mLc, lcL, sameC, wipeC, restC, mYes, *])
local macro_rules | `(tactic| walk_at "rg") => `(tactic| (and_intros <;> grind))
local macro_rules | `(tactic| walk_at "nx") => `(tactic| (apply wx_nx; focus (walk_at "ev"; try first | exact ⟨rfl, rfl⟩ | rfl)))
local macro_rules | `(tactic| walk_at "ns") => `(tactic| (apply wx_nx; focus (walk_at "es"; try first | exact ⟨rfl, rfl⟩ | rfl)))
local macro_rules | `(tactic| walk_at "rt") => `(tactic| (apply wx_rt; focus (walk_at "ev"; try first | exact ⟨rfl, rfl⟩ | rfl)))
local macro_rules | `(tactic| walk_at "rs") => `(tactic| (apply wx_rt; focus (walk_at "es"; try first | exact ⟨rfl, rfl⟩ | rfl)))
local macro_rules | `(tactic| walk_at "ed") => `(tactic| simp [semF, shared, after, mSeq, mSkip, mIf, mRet, mRetN, mRetV, mSet, mSetIx, mExpr, mB, mU, mTm, mPl, mK, mVar, mOp, mCons, mNil, bor, bors, mTst, mAndT, mOrT, mNotT, mAndE, mOrE, mNotE, mIfE, mIsi, isiD, mChn, chnL, cmpD, binD, addD, subD, mulD, modD, fdivD, powD, eqD, neD, ltD, leD, gtD, geD, isD, isnD, L2.M.isNon, negD, ixD, Bf.f, Bg.f, lenD, L2.M.intD, maxD, minD, repD, strD, gmaxD, gminD, sumD, sortD, anyD, allD, mCall, frz, fzO, lend, wb, mTup, mLst, fzs, cD, mAsg, bTup, bTps, mApp, tupD, lstD, mRev, revD, ofs_inj, ee_ii, ee_ss, ee_bb, ee_nn, ee_is, ee_si, ee_in, ee_ni, ee_tt, ee_ll, ee_maps, ee_0, ee_1, ee_2, ee_3, at_lit, at_nat, at_m1, at_m2, scD, emD, sizeLine_eq, ixN, sm_lit, mSrc, itemsD, plOf, rng1D, bNm, mSl, mPt, mNoP, slD, mPar, keepT, tmsO, setA, mFlow, zipX, enumX, itemsX, intsOf, ints_all, boolsOf, shaped_lay, lay_int, lay_bool, lay_none, lay_dict, lay_tup, lay_list, lay_ints, sortX_ints, mPlF, mPlI, mRd, mPU, mPB, mFSet, mFNew, mNSet, mPApp, mPSetIx, mPPop, mMeth, mNew, isIns, cellO, mLstN, mAddN, mAppN, semX, mTold, mCallX, xRet, xExpr, xSet, mRaise, mM, isL, isS, mOrV, truD, mDNew, mDIn, mDGet, mDLen, mDPut, kyD, mNNew, mN1, mTake, mFnV, mCallF, mNIn, mNGet, mNPut, mNVals, mNList, nKs, mDGetD, mDList, mNNe, *])
def rD (g : Bool) : PyData := .tuple [.str (sgT g), .int 1]
theorem nin_ak {s : Str} (h : PyData.strOk s = true) : cmpD .NotIn (.str s) (.tuple [.str "a", .str "k"]) = some (.sh (.bool (!(decide (("a" : Str) = s) || decide (("k" : Str) = s))))) := by
  have h1 : SeqAt.shaped (.str s) = true := by
    rw [shaped_lay, lay_str]
    exact h
  have h2 : SeqAt.shaped (.tuple [.str "a", .str "k"]) = true := by decide +kernel
  show (if (SeqAt.shaped (.str s) && SeqAt.shaped (.tuple [.str "a", .str "k"])) = true then some (C.sh (.bool (!([.str "a", .str "k"] : List PyData).any fun z => PyData.eqv z (.str s)))) else none) = _
  rw [h1, h2]
  simp [ee_ss]
theorem is_long_1 {i : Int} (h0 : 0 ≤ i) (h1 : i ≤ 1000000000000) {s : Str} (hs : cmpD .NotIn (.str s) (.tuple [.str "a", .str "k"]) = some (.sh (.bool false))) : g_is_long [.sh (.tuple [.str s, .int i])] = some (.sh (.bool true), [.sh (.tuple [.str s, .int i])]) := by
  have e := is_whole_int i
  unfold g_is_long m_is_long
  generalize g_is_whole = G at *
  generalize cmpD .NotIn = NI at *
  walk_at "es"
theorem nin_sgT (g : Bool) : cmpD .NotIn (.str (sgT g)) (.tuple [.str "a", .str "k"]) = some (.sh (.bool false)) := by
  rw [nin_ak (by cases g <;> decide +kernel)]
  cases g <;> rfl
theorem is_long_eq (g : Bool) : g_is_long [.sh (rD g)] = some (.sh (.bool true), [.sh (rD g)]) := is_long_1 (by decide) (by decide) (nin_sgT g)
theorem fb_0 {Z : PyData} {L : List PyData} (hl : (L.length : Int) ≤ 20) (f : (mOp (Bg.f .all) (mCons (mTm (mLc (mSrc itemsD (mCons (mTm (mVar 1)) mNil)) (bNm 2) (mYes) (mCall [true] g_is_long (mCons (mPl 2) (mNil))) [2])) (mNil))) [.sh Z, .sh (.tuple L), .no, .no, .no, .no, .no, .no] = some (.sh (.bool true), [.sh Z, .sh (.tuple L), .no, .no, .no, .no, .no, .no])) : (mIf (mOrT (mNotT (mTst (mIsi .tuple (mPl 1)))) (mOrT (mTst (mB (cmpD .Gt) (mTm (mOp (Bf.f .len) (mCons (mPl 1) (mNil)))) (mTm (mK (.int 20))))) (mNotT (mTst (mOp (Bg.f .all) (mCons (mTm (mLc (mSrc itemsD (mCons (mTm (mVar 1)) mNil)) (bNm 2) (mYes) (mCall [true] g_is_long (mCons (mPl 2) (mNil))) [2])) (mNil))))))) (mSeq (mStuck) (mSkip)) (mSkip)) [.sh Z, .sh (.tuple L), .no, .no, .no, .no, .no, .no] = some (.nx, [.sh Z, .sh (.tuple L), .no, .no, .no, .no, .no, .no]) := by
  have h2 : L.length ≤ 16777216 := by omega
  have h3 : ¬ 20 < (L.length : Int) := by omega
  generalize mStuck = RX at *
  generalize mOp (Bg.f .all) _ = A at *
  walk_at "es"
theorem fb_1 {z : Pz} {L c2 c5 c6 c7 : C} : (mPar [0, 1] [3, 4] (mCons (mTm (mB ixD (mPl 0) (mTm (mK (.int 3))))) (mCons (mTm (mK (.int 0))) (mNil)))) [.sh z.d, L, c2, .no, .no, c5, c6, c7] = some (.nx, [.sh z.d, L, c2, .sh (.int z.f), .sh (.int 0), c5, c6, c7]) := by
  unfold Pz.d
  walk_at "es"
theorem fb_a {p r c f u w : Int} (sp : sm p) {L c2 c7 : C} : (mIf (mTst (mB (cmpD .Eq) (mPl 5) (mTm (mK (.str "a"))))) (mSeq (mSet [0, 1] 3 (mOp (Bf.f .min) (mCons (mTm (mB ixD (mPl 0) (mTm (mK (.int 2))))) (mCons (mTm (mB (binD .Add) (mPl 3) (mTm (mB (binD .Mult) (mPl 6) (mTm (mB ixD (mPl 0) (mTm (mK (.int 0))))))))) (mNil))))) (mSkip)) (mSeq (mSet [0, 1] 7 (mOp (Bf.f .min) (mCons (mPl 6) (mCons (mTm (mB (binD .FloorDiv) (mPl 3) (mTm (mB ixD (mPl 0) (mTm (mK (.int 1))))))) (mNil))))) (mSeq (mSet [0, 1] 3 (mB (binD .Sub) (mPl 3) (mTm (mB (binD .Mult) (mPl 7) (mTm (mB ixD (mPl 0) (mTm (mK (.int 1))))))))) (mSeq (mSet [0, 1] 4 (mB (binD .Add) (mPl 4) (mPl 7))) (mSkip))))) [.sh (.tuple [.int p, .int r, .int c, .int f]), L, c2, .sh (.int u), .sh (.int w), .sh (.str "a"), .sh (.int 1), c7] = some (.nx, [.sh (.tuple [.int p, .int r, .int c, .int f]), L, c2, .sh (.int (if u + p < c then u + p else c)), .sh (.int w), .sh (.str "a"), .sh (.int 1), c7]) := by
  have s1 : sm 1 := by decide
  walk_at "es"
theorem fb_k {p r c f u w q m : Int} (hr : 0 < r) (sr : sm r) (hq : u / r = q) (hm : (if q < 1 then q else 1) = m) (smm : sm m) {L c2 c7 : C} : (mIf (mTst (mB (cmpD .Eq) (mPl 5) (mTm (mK (.str "a"))))) (mSeq (mSet [0, 1] 3 (mOp (Bf.f .min) (mCons (mTm (mB ixD (mPl 0) (mTm (mK (.int 2))))) (mCons (mTm (mB (binD .Add) (mPl 3) (mTm (mB (binD .Mult) (mPl 6) (mTm (mB ixD (mPl 0) (mTm (mK (.int 0))))))))) (mNil))))) (mSkip)) (mSeq (mSet [0, 1] 7 (mOp (Bf.f .min) (mCons (mPl 6) (mCons (mTm (mB (binD .FloorDiv) (mPl 3) (mTm (mB ixD (mPl 0) (mTm (mK (.int 1))))))) (mNil))))) (mSeq (mSet [0, 1] 3 (mB (binD .Sub) (mPl 3) (mTm (mB (binD .Mult) (mPl 7) (mTm (mB ixD (mPl 0) (mTm (mK (.int 1))))))))) (mSeq (mSet [0, 1] 4 (mB (binD .Add) (mPl 4) (mPl 7))) (mSkip))))) [.sh (.tuple [.int p, .int r, .int c, .int f]), L, c2, .sh (.int u), .sh (.int w), .sh (.str "k"), .sh (.int 1), c7] = some (.nx, [.sh (.tuple [.int p, .int r, .int c, .int f]), L, c2, .sh (.int (u - m * r)), .sh (.int (w + m)), .sh (.str "k"), .sh (.int 1), .sh (.int m)]) := by
  have h2 : ¬ r = 0 := by omega
  walk_at "es"
theorem fb_step {z : Pz} (h : z.Ok) {u w : Int} (hu : 0 ≤ u) (g : Bool) {L c2 c7 : C} : ∃ c7', (mIf (mTst (mB (cmpD .Eq) (mPl 5) (mTm (mK (.str "a"))))) (mSeq (mSet [0, 1] 3 (mOp (Bf.f .min) (mCons (mTm (mB ixD (mPl 0) (mTm (mK (.int 2))))) (mCons (mTm (mB (binD .Add) (mPl 3) (mTm (mB (binD .Mult) (mPl 6) (mTm (mB ixD (mPl 0) (mTm (mK (.int 0))))))))) (mNil))))) (mSkip)) (mSeq (mSet [0, 1] 7 (mOp (Bf.f .min) (mCons (mPl 6) (mCons (mTm (mB (binD .FloorDiv) (mPl 3) (mTm (mB ixD (mPl 0) (mTm (mK (.int 1))))))) (mNil))))) (mSeq (mSet [0, 1] 3 (mB (binD .Sub) (mPl 3) (mTm (mB (binD .Mult) (mPl 7) (mTm (mB ixD (mPl 0) (mTm (mK (.int 1))))))))) (mSeq (mSet [0, 1] 4 (mB (binD .Add) (mPl 4) (mPl 7))) (mSkip))))) [.sh z.d, L, c2, .sh (.int u), .sh (.int w), .sh (.str (sgT g)), .sh (.int 1), c7] = some (.nx, [.sh z.d, L, c2, .sh (.int (on z u g)), .sh (.int (w + if g = false ∧ z.r ≤ u then 1 else 0)), .sh (.str (sgT g)), .sh (.int 1), c7']) := by
  have p0 := h.p0
  have p1 := h.p1
  have r0 := h.r0
  have r1 := h.r1
  have sp : sm z.p := ⟨by omega, by omega⟩
  have sr : sm z.r := ⟨by omega, by omega⟩
  cases g with
  | true =>
    rw [if_neg (by simp), Int.add_zero]
    exact ⟨c7, fb_a sp⟩
  | false =>
    by_cases q : z.r ≤ u
    · have e : 1 ≤ u / z.r := by
        rw [Int.le_ediv_iff_mul_le (by omega)]
        omega
      have o : on z u false = u - 1 * z.r := by unfold on; simp [q]
      rw [if_pos ⟨rfl, q⟩, o]
      exact ⟨_, fb_k (by omega) sr rfl (by rw [if_neg (by omega)]) (by decide)⟩
    · have e : u / z.r = 0 := Int.ediv_eq_zero_of_lt hu (by omega)
      have o : on z u false = u - 0 * z.r := by unfold on; simp [q]
      rw [if_neg (by omega), o]
      exact ⟨_, fb_k (by omega) sr e (by rw [if_pos (by omega)]) (by decide)⟩
theorem far_eq {z : Pz} (h : z.Ok) {bs : List Bool} (hl : bs.length ≤ 20) : g_far_behind [.sh z.d, .sh (.tuple (bs.map rD))] = some (.sh (.tuple [.int (en z z.f bs), .int (pd z z.f bs)]), [.sh z.d, .sh (.tuple (bs.map rD))]) := by
  have hL : ((bs.map rD).length : Int) ≤ 20 := by rw [List.length_map]; omega
  have all := mLc_yes (i := 2) (m := mCall [true] g_is_long (mCons (mPl 2) (mNil))) (src := (mSrc itemsD (mCons (mTm (mVar 1)) mNil))) (ε := [.sh z.d, .sh (.tuple (bs.map rD)), .no, .no, .no, .no, .no, .no]) (ε1 := [.sh z.d, .sh (.tuple (bs.map rD)), .no, .no, .no, .no, .no, .no]) (ds := bs.map rD) (c0 := .no) (ws := []) rfl rfl (by
    intro d hd
    obtain ⟨g, _, rfl⟩ := List.mem_map.mp hd
    have e := is_long_eq g
    generalize rD g = d at *
    generalize PyData.tuple (bs.map rD) = L
    generalize g_is_long = G at *
    generalize z.d = Z
    clear hd hL h hl
    walk_at "es") (by rw [List.length_map, sizeLine_eq]; omega)
  apply rt_eq
  unfold g_far_behind m_far_behind
  apply rt_sem rfl
  apply wx_nx (fb_0 hL all)
  apply wx_nx fb_1
  clear all
  apply wx_seq
  apply wx_for (ds := bs.map rD) (ws := []) (ε1 := [.sh z.d, .sh (.tuple (bs.map rD)), .no, .sh (.int z.f), .sh (.int 0), .no, .no, .no]) fun i ε => ∃ c5 c6 c7 : C, ε = [.sh z.d, .sh (.tuple (bs.map rD)), .no, .sh (.int (en z z.f (bs.take i))), .sh (.int (pd z z.f (bs.take i))), c5, c6, c7]
  · rfl
  · rfl
  · exact ⟨_, _, _, rfl⟩
  · intro i ε _ j hj
    cases hj
  · rintro i d ε hd ⟨c5, c6, c7, rfl⟩
    rw [List.getElem?_map] at hd
    obtain ⟨g, hg, rfl⟩ := Option.map_eq_some_iff.mp hd
    obtain ⟨hi, rfl⟩ := List.getElem?_eq_some_iff.mp hg
    have b := en_b h (bs.take i) ⟨h.f0, h.f1⟩
    have e1 : en z z.f (bs.take (i + 1)) = on z (en z z.f (bs.take i)) bs[i] := by
      rw [List.take_succ_eq_append_getElem hi]
      show List.foldl _ _ _ = _
      rw [List.foldl_append]
      rfl
    have e2 : pd z z.f (bs.take (i + 1)) = pd z z.f (bs.take i) + if bs[i] = false ∧ z.r ≤ en z z.f (bs.take i) then 1 else 0 := by
      rw [List.take_succ_eq_append_getElem hi, pd_app, pd, pd, Int.add_zero]
    rw [e1, e2]
    generalize en z z.f (bs.take i) = u at *
    generalize pd z z.f (bs.take i) = w at *
    generalize bs[i] = g at *
    clear e1 e2 hd hg hL
    refine ⟨[.sh z.d, .sh (.tuple (bs.map rD)), .no, .sh (.int u), .sh (.int w), .sh (.str (sgT g)), .sh (.int 1), c7], rfl, ?_⟩
    obtain ⟨c7', e⟩ := fb_step h b.1 g (L := .sh (.tuple (bs.map rD))) (c2 := .no) (c7 := c7) (w := w)
    apply wx_nx e
    exact wx_skip ⟨_, _, _, rfl⟩
  · rintro ε ⟨c5, c6, c7, rfl⟩
    rw [List.length_map, List.take_length]
    exact wx_rt (c := .sh (.tuple [.int (en z z.f bs), .int (pd z z.f bs)])) (ε1 := [.sh z.d, .sh (.tuple (bs.map rD)), .no, .sh (.int (en z z.f bs)), .sh (.int (pd z z.f bs)), c5, c6, c7]) rfl ⟨rfl, rfl⟩
theorem unp_pos {z : Pz} : ∀ (bs : List Bool) (i u : Int), posR z u bs → unp z i u bs = [] ∧ en z u bs = bs.foldl (stp z) u
  | [], _, _, _ => ⟨rfl, rfl⟩
  | g :: bs, i, u, q => by
    have hs : on z u g = stp z u g ∧ ¬ (g = false ∧ u < z.r) := by
      have h1 := q.1
      cases g with
      | true => exact ⟨rfl, by simp⟩
      | false =>
        have h2 : 0 ≤ u - z.r := h1
        refine ⟨?_, by simp; omega⟩
        unfold on stp
        simp
        omega
    have ih := unp_pos bs (i + 1) (stp z u g) q.2
    rw [unp, if_neg hs.2, hs.1]
    refine ⟨ih.1, ?_⟩
    show en z (on z u g) bs = _
    rw [hs.1]
    exact ih.2
theorem m_1 {Z : PyData} {m a b : Int} (e1 : g_most_paid [.sh Z, .sh (.int m)] = some (.sh (.int a), [.sh Z, .sh (.int m)])) (e2 : g_most_paid [.sh Z, .sh (.int (m + 1))] = some (.sh (.int b), [.sh Z, .sh (.int (m + 1))])) : (mSet [0, 1] 2 (mLst (mCons (mTm (mCall [true, true] g_most_paid (mCons (mPl 0) (mCons (mPl 1) (mNil))))) (mCons (mTm (mCall [true, true] g_most_paid (mCons (mPl 0) (mCons (mTm (mB (binD .Add) (mPl 1) (mTm (mK (.int 1))))) (mNil))))) (mNil))))) [.sh Z, .sh (.int m), .no, .no, .no, .no, .no] = some (.nx, [.sh Z, .sh (.int m), .ls [.int a, .int b], .no, .no, .no, .no]) := by
  generalize g_most_paid = G at *
  walk_at "es"
theorem m_2 {p r c f m a b : Int} (hr : 0 < r) (sr : sm r) (h0 : 0 ≤ b - a) (h1 : b - a ≤ (p + r - 1) / r) : (mIf (mNotT (mTst (mChn (mTm (mK (.int 0))) [(cmpD .LtE, mTm (mB (binD .Sub) (mTm (mB ixD (mPl 2) (mTm (mK (.int 1))))) (mTm (mB ixD (mPl 2) (mTm (mK (.int 0))))))), (cmpD .LtE, mTm (mB (binD .FloorDiv) (mTm (mB (binD .Sub) (mTm (mB (binD .Add) (mTm (mB ixD (mPl 0) (mTm (mK (.int 0))))) (mTm (mB ixD (mPl 0) (mTm (mK (.int 1))))))) (mTm (mK (.int 1))))) (mTm (mB ixD (mPl 0) (mTm (mK (.int 1)))))))]))) (mSeq (mRet (mK (.bool false))) (mSkip)) (mSkip)) [.sh (.tuple [.int p, .int r, .int c, .int f]), .sh (.int m), .ls [.int a, .int b], .no, .no, .no, .no] = some (.nx, [.sh (.tuple [.int p, .int r, .int c, .int f]), .sh (.int m), .ls [.int a, .int b], .no, .no, .no, .no]) := by
  have h2 : ¬ r = 0 := by omega
  generalize hq : (p + r - 1) / r = q at *
  have e : ∀ u v : Int, subD (.int u) (.int v) = some (.sh (.int (u - v))) := fun _ _ => rfl
  generalize hd : b - a = d at *
  generalize hw : p + r - 1 = w at *
  walk_at "es"
theorem m_3y {Z : PyData} {m a b : Int} (h : 200 < m + a) : (mIf (mTst (mB (cmpD .Gt) (mTm (mB (binD .Add) (mPl 1) (mTm (mB ixD (mPl 2) (mTm (mK (.int 0))))))) (mTm (mK (.int 200))))) (mSeq (mRet (mK (.bool true))) (mSkip)) (mSkip)) [.sh Z, .sh (.int m), .ls [.int a, .int b], .no, .no, .no, .no] = some (.rt (.sh (.bool true)), [.sh Z, .sh (.int m), .ls [.int a, .int b], .no, .no, .no, .no]) := by
  walk_at "es"
theorem m_3n {Z : PyData} {m a b : Int} (h : ¬ 200 < m + a) : (mIf (mTst (mB (cmpD .Gt) (mTm (mB (binD .Add) (mPl 1) (mTm (mB ixD (mPl 2) (mTm (mK (.int 0))))))) (mTm (mK (.int 200))))) (mSeq (mRet (mK (.bool true))) (mSkip)) (mSkip)) [.sh Z, .sh (.int m), .ls [.int a, .int b], .no, .no, .no, .no] = some (.nx, [.sh Z, .sh (.int m), .ls [.int a, .int b], .no, .no, .no, .no]) := by
  walk_at "es"
theorem m_4 {Z R : PyData} {m : Int} {c2 : C} (e : g_best_row [.sh Z, .sh (.int m)] = some (.sh R, [.sh Z, .sh (.int m)])) : (mSet [0, 1] 3 (mCall [true, true] g_best_row (mCons (mPl 0) (mCons (mPl 1) (mNil))))) [.sh Z, .sh (.int m), c2, .no, .no, .no, .no] = some (.nx, [.sh Z, .sh (.int m), c2, .sh R, .no, .no, .no]) := by
  generalize g_best_row = G at *
  walk_at "es"
theorem m_5 {Z : PyData} {R : Str} {m a b : Int} (e1 : g_unpaid_at [.sh Z, .sh (.str R)] = some (.sh (.list []), [.sh Z, .sh (.str R)])) (e2 : g_paid_in [.sh Z, .sh (.str R)] = some (.sh (.int a), [.sh Z, .sh (.str R)])) (e3 : scountD [.str R, .str "a"] = some (.sh (.int m))) : (mIf (mOrT (mTst (mB (cmpD .NotEq) (mTm (mCall [true, true] g_unpaid_at (mCons (mPl 0) (mCons (mPl 3) (mNil))))) (mTm (mLst (mNil))))) (mOrT (mTst (mB (cmpD .NotEq) (mTm (mCall [true, true] g_paid_in (mCons (mPl 0) (mCons (mPl 3) (mNil))))) (mTm (mB ixD (mPl 2) (mTm (mK (.int 0))))))) (mTst (mB (cmpD .NotEq) (mTm (mM scountD isS (mPl 3) (mCons (mTm (mK (.str "a"))) (mNil)))) (mPl 1))))) (mSeq (mRet (mK (.bool false))) (mSkip)) (mSkip)) [.sh Z, .sh (.int m), .ls [.int a, .int b], .sh (.str R), .no, .no, .no] = some (.nx, [.sh Z, .sh (.int m), .ls [.int a, .int b], .sh (.str R), .no, .no, .no]) := by
  generalize g_unpaid_at = G1 at *
  generalize g_paid_in = G2 at *
  generalize scountD = S at *
  walk_at "es"
theorem m_6 {Z : PyData} {R : Str} {c1 c2 : C} (hl : R.length ≤ 16777216) : (mSet [0, 1] 4 (mSl (mPl 3) (mNoP) (mPt (mTm (mK (.int 20)))))) [.sh Z, c1, c2, .sh (.str R), .no, .no, .no] = some (.nx, [.sh Z, c1, c2, .sh (.str R), .sh (.str (cutS R none (some 20))), .no, .no]) := by
  have hl2 : R.length ≤ sizeLine := by rw [sizeLine_eq]; exact hl
  walk_at "es"
theorem m_7 {Z S : PyData} {c1 c2 c3 : C} {u w : Int} (e1 : g_coins_behind [.sh Z, .sh S] = some (.sh (.int u), [.sh Z, .sh S])) (e2 : g_paid_in [.sh Z, .sh S] = some (.sh (.int w), [.sh Z, .sh S])) : (mSet [0, 1] 5 (mTup (mCons (mTm (mCall [true, true] g_coins_behind (mCons (mPl 0) (mCons (mPl 4) (mNil))))) (mCons (mTm (mCall [true, true] g_paid_in (mCons (mPl 0) (mCons (mPl 4) (mNil))))) (mNil))))) [.sh Z, c1, c2, c3, .sh S, .no, .no] = some (.nx, [.sh Z, c1, c2, c3, .sh S, .sh (.tuple [.int u, .int w]), .no]) := by
  generalize g_coins_behind = G1 at *
  generalize g_paid_in = G2 at *
  walk_at "es"
theorem m_8l {Z : PyData} {S : Str} {bs : List Bool} (h : cpsL S = bs.map sgn) (hl : bs.length ≤ 20) {c1 c2 c3 c5 : C} : (mLc (mSrc itemsD (mCons (mTm (mVar 4)) mNil)) (bNm 6) (mYes) (mTup (mCons (mPl 6) (mCons (mTm (mK (.int 1))) (mNil)))) [6]) [.sh Z, c1, c2, c3, .sh (.str S), c5, .no] = some (.ls (bs.map rD), [.sh Z, c1, c2, c3, .sh (.str S), c5, .no]) := by
  refine mLc_enc (fun g : Bool => PyData.str (sgT g)) rD (ws := []) (c0 := .no) (ε1 := [.sh Z, c1, c2, c3, .sh (.str S), c5, .no]) (xs := bs) ?_ rfl (fun g hg => ⟨.sh (rD g), ?_, rfl⟩) (by rw [sizeLine_eq]; omega)
  · refine src_f (d := .str S) rfl ?_
    rw [chars_items, h, List.map_map]
    congr 1
    refine List.map_congr_left fun g _ => ?_
    exact sgT_c g
  · unfold rD
    generalize sgT g = s
    clear h hl hg
    walk_at "ev"
theorem m_8 {Z S : PyData} {c1 c2 c3 : C} {u w : Int} {L : List PyData} (hl : L.length ≤ 16777216) (k : (mLc (mSrc itemsD (mCons (mTm (mVar 4)) mNil)) (bNm 6) (mYes) (mTup (mCons (mPl 6) (mCons (mTm (mK (.int 1))) (mNil)))) [6]) [.sh Z, c1, c2, c3, .sh S, .sh (.tuple [.int u, .int w]), .no] = some (.ls L, [.sh Z, c1, c2, c3, .sh S, .sh (.tuple [.int u, .int w]), .no])) (e : g_far_behind [.sh Z, .sh (.tuple L)] = some (.sh (.tuple [.int u, .int w]), [.sh Z, .sh (.tuple L)])) : (mRet (mB (cmpD .Eq) (mTm (mCall [true, true] g_far_behind (mCons (mPl 0) (mCons (mTm (mOp (Bf.f .tuple) (mCons (mTm (mLc (mSrc itemsD (mCons (mTm (mVar 4)) mNil)) (bNm 6) (mYes) (mTup (mCons (mPl 6) (mCons (mTm (mK (.int 1))) (mNil)))) [6])) (mNil)))) (mNil))))) (mPl 5))) [.sh Z, c1, c2, c3, .sh S, .sh (.tuple [.int u, .int w]), .no] = some (.rt (.sh (.bool true)), [.sh Z, c1, c2, c3, .sh S, .sh (.tuple [.int u, .int w]), .no]) := by
  generalize mLc _ _ _ _ _ = ML at *
  generalize g_far_behind = G at *
  walk_at "es"
theorem best_eq {z : Pz} (h : z.Ok) {M : Nat} (hM : M ≤ 10 ^ 12) (hg : ¬ 200 < (M : Int) + gr z z.f M) : ∃ T : Str, cpsL T = (rwA z M).map sgn ∧ g_best_row [.sh z.d, .sh (.int (M : Int))] = some (.sh (.str T), [.sh z.d, .sh (.int (M : Int))]) := by
  obtain ⟨T, hT, hw⟩ := best_wx h hM hg
  refine ⟨T, hT, rt_eq ?_⟩
  unfold g_best_row
  exact rt_sem rfl (hw _ fun _ _ _ => ⟨rfl, rfl⟩)
theorem most_right_eq {z : Pz} (h : z.Ok) {M : Nat} (hM : M ≤ 1000) : g_law_most_right [.sh z.d, .sh (.int (M : Int))] = some (.sh (.bool true), [.sh z.d, .sh (.int (M : Int))]) := by
  have f0 := h.f0
  have f1 := h.f1
  have r0 := h.r0
  have r1 := h.r1
  have sr : sm z.r := ⟨by omega, by omega⟩
  have e1 := most_paid_eq h (M := M) (by omega)
  have e2 := most_paid_eq h (M := M + 1) (by omega)
  have hs : ((M + 1 : Nat) : Int) = (M : Int) + 1 := by omega
  rw [hs] at e2
  have hu := gr_up h f0 M
  apply rt_eq
  unfold g_law_most_right m_law_most_right
  apply rt_sem rfl
  apply wx_nx (m_1 e1 e2)
  have k2 := m_2 (p := z.p) (c := z.c) (f := z.f) (m := (M : Int)) (by omega) sr hu.1 hu.2
  apply wx_nx k2
  clear k2
  by_cases hg : 200 < (M : Int) + gr z z.f M
  · exact wx_rt (m_3y hg) ⟨rfl, rfl⟩
  · obtain ⟨T, hT, e⟩ := best_eq h (M := M) (by omega) hg
    obtain ⟨hA, hK, hP⟩ := rwA_ok h M
    have hl2 := len_ct (rwA z M)
    have hl : (rwA z M).length ≤ 200 := by omega
    have hTl := len_map hT
    have hpu := pd_unp z (rwA z M) 0 z.f
    have hup := (unp_pos (rwA z M) 0 z.f hP).1
    have eu := unpaid_eq (z := z) hT hl
    have ep := paid_eq (z := z) hT hl
    have es := sct true hT
    rw [hup, List.map_nil] at eu
    rw [hup] at hpu
    have hpd : pd z z.f (rwA z M) = gr z z.f M := by
      rw [← hK]
      simpa using hpu
    rw [hpd] at ep
    rw [hA] at es
    apply wx_nx (m_3n hg)
    apply wx_nx (m_4 e)
    apply wx_nx (m_5 eu ep es)
    apply wx_nx (m_6 (by omega))
    have hS : cpsL (cutS T none (some 20)) = ((rwA z M).take 20).map sgn := by
      rw [cut_cps, hT, cut_to _ (by decide), List.map_take]
      rfl
    generalize cutS T none (some 20) = S at *
    have hSl : ((rwA z M).take 20).length ≤ 20 := List.length_take_le _ _
    generalize (rwA z M).take 20 = s at *
    apply wx_nx (m_7 (coins_eq (z := z) hS (by omega)) (paid_eq (z := z) hS (by omega)))
    exact wx_rt (m_8 (by rw [List.length_map]; omega) (m_8l hS hSl) (far_eq h hSl)) ⟨rfl, rfl⟩
end KW
namespace KW
open PySem PySem.Spec PyProof.Rows L2 L2.M
local macro_rules | `(tactic| walk_at "ev") => `(tactic| simp [semF, shared, after, mSeq, mSkip, mIf, mRet, mRetN, mRetV, mSet, mSetIx, mExpr, mB, mU, mTm, mPl, mK, mVar, mOp, mCons, mNil, bor, bors, mTst, mAndT, mOrT, mNotT, mAndE, mOrE, mNotE, mIfE, mIsi, isiD, mChn, chnL, cmpD, binD, addD, subD, mulD, modD, fdivD, powD, eqD, neD, ltD, leD, gtD, geD, isD, isnD, L2.M.isNon, negD, ixD, Bf.f, Bg.f, lenD, L2.M.intD, maxD, minD, repD, strD, gmaxD, gminD, sumD, sortD, anyD, allD, mCall, frz, fzO, lend, wb, mTup, mLst, fzs, cD, mAsg, bTup, bTps, mApp, tupD, lstD, mRev, revD, ofs_inj, ee_ii, ee_ss, ee_bb, ee_nn, ee_is, ee_si, ee_in, ee_ni, ee_tt, ee_ll, ee_maps, ee_0, ee_1, ee_2, ee_3, at_lit, at_nat, at_m1, at_m2, scD, emD, sizeLine_eq, ixN, sm_lit, mSrc, itemsD, plOf, rng1D, bNm, mSl, mPt, mNoP, slD, mPar, keepT, tmsO, setA, mFlow, zipX, enumX, itemsX, intsOf, ints_all, boolsOf, shaped_lay, lay_int, lay_bool, lay_none, lay_dict, lay_tup, lay_list, lay_ints, sortX_ints, mPlF, mPlI, mRd, mPU, mPB, mFSet, mFNew, mNSet, mPApp, mPSetIx, mPPop, mMeth, mNew, isIns, cellO, mLstN, mAddN, mAppN, semX, mTold, mCallX, xRet, xExpr, xSet, mRaise, mM, isL, isS, mOrV, truD])
local macro_rules | `(tactic| walk_at "es") => `(tactic| simp [semF, shared, after, mSeq, mSkip, mIf, mRet, mRetN, mRetV, mSet, mSetIx, mExpr, mB, mU, mTm, mPl, mK, mVar, mOp, mCons, mNil, bor, bors, mTst, mAndT, mOrT, mNotT, mAndE, mOrE, mNotE, mIfE, mIsi, isiD, mChn, chnL, cmpD, binD, addD, subD, mulD, modD, fdivD, powD, eqD, neD, ltD, leD, gtD, geD, isD, isnD, L2.M.isNon, negD, ixD, Bf.f, Bg.f, lenD, L2.M.intD, maxD, minD, repD, strD, gmaxD, gminD, sumD, sortD, anyD, allD, mCall, frz, fzO, lend, wb, mTup, mLst, fzs, cD, mAsg, bTup, bTps, mApp, tupD, lstD, mRev, revD, ofs_inj, ee_ii, ee_ss, ee_bb, ee_nn, ee_is, ee_si, ee_in, ee_ni, ee_tt, ee_ll, ee_maps, ee_0, ee_1, ee_2, ee_3, at_lit, at_nat, at_m1, at_m2, scD, emD, sizeLine_eq, ixN, sm_lit, mSrc, itemsD, plOf, rng1D, bNm, mSl, mPt, mNoP, slD, mPar, keepT, tmsO, setA, mFlow, zipX, enumX, itemsX, intsOf, ints_all, boolsOf, shaped_lay, lay_int, lay_bool, lay_none, lay_dict, lay_tup, lay_list, lay_ints, sortX_ints, mPlF, mPlI, mRd, mPU, mPB, mFSet, mFNew, mNSet, mPApp, mPSetIx, mPPop, mMeth, mNew, isIns, cellO, mLstN, mAddN, mAppN, semX, mTold, mCallX, xRet, xExpr, xSet, mRaise, mM, isL, isS, mOrV, truD, *])
local macro_rules | `(tactic| walk_at "el") => `(tactic| simp [semF, shared, after, mSeq, mSkip, mIf, mRet, mRetN, mRetV, mSet, mSetIx, mExpr, mB, mU, mTm, mPl, mK, mVar, mOp, mCons, mNil, bor, bors, mTst, mAndT, mOrT, mNotT, mAndE, mOrE, mNotE, mIfE, mIsi, isiD, mChn, chnL, cmpD, binD, addD, subD, mulD, modD, fdivD, powD, eqD, neD, ltD, leD, gtD, geD, isD, isnD, L2.M.isNon, negD, ixD, Bf.f, Bg.f, lenD, L2.M.intD, maxD, minD, repD, strD, gmaxD, gminD, sumD, sortD, anyD, allD, mCall, frz, fzO, lend, wb, mTup, mLst, fzs, cD, mAsg, bTup, bTps, mApp, tupD, lstD, mRev, revD, ofs_inj, ee_ii, ee_ss, ee_bb, ee_nn, ee_is, ee_si, ee_in, ee_ni, ee_tt, ee_ll, ee_maps, ee_0, ee_1, ee_2, ee_3, at_lit, at_nat, at_m1, at_m2, scD, emD, sizeLine_eq, ixN, sm_lit, mSrc, itemsD, plOf, rng1D, bNm, mSl, mPt, mNoP, slD, mPar, keepT, tmsO, setA, mFlow, zipX, enumX, itemsX, intsOf, ints_all, boolsOf, shaped_lay, lay_int, lay_bool, lay_none, lay_dict, lay_tup, lay_list, lay_ints, sortX_ints, mPlF, mPlI, mRd, mPU, mPB, mFSet, mFNew, mNSet, mPApp, mPSetIx, mPPop, mMeth, mNew, isIns, cellO, mLstN, mAddN, mAppN, semX, mTold, mCallX, xRet, xExpr, xSet, mRaise, mM, isL, isS, mOrV, truD, mLc, lcL, sameC, wipeC, restC, mYes, *])
local macro_rules | `(tactic| walk_at "ef") => `(tactic| simp [semF, shared, after, mSeq, mSkip, mIf, mRet, mRetN, mRetV, mSet, mSetIx, mExpr, mB, mU, mTm, mPl, mK, mVar, mOp, mCons, mNil, bor, bors, mTst, mAndT, mOrT, mNotT, mAndE, mOrE, mNotE, mIfE, mIsi, isiD, mChn, chnL, cmpD, binD, addD, subD, mulD, modD, fdivD, powD, eqD, neD, ltD, leD, gtD, geD, isD, isnD, L2.M.isNon, negD, ixD, Bf.f, Bg.f, lenD, L2.M.intD, maxD, minD, repD, strD, gmaxD, gminD, sumD, sortD, anyD, allD, mCall, frz, fzO, lend, wb, mTup, mLst, fzs, cD, mAsg, bTup, bTps, mApp, tupD, lstD, mRev, revD, ofs_inj, ee_ii, ee_ss, ee_bb, ee_nn, ee_is, ee_si, ee_in, ee_ni, ee_tt, ee_ll, ee_maps, ee_0, ee_1, ee_2, ee_3, at_lit, at_nat, at_m1, at_m2, scD, emD, sizeLine_eq, ixN, sm_lit, mSrc, itemsD, plOf, rng1D, bNm, mSl, mPt, mNoP, slD, mPar, keepT, tmsO, setA, mFlow, zipX, enumX, itemsX, intsOf, ints_all, boolsOf, shaped_lay, lay_int, lay_bool, lay_none, lay_dict, lay_tup, lay_list, lay_ints, sortX_ints, mPlF, mPlI, mRd, mPU, mPB, mFSet, mFNew, mNSet, mPApp, mPSetIx, mPPop, mMeth, mNew, isIns, cellO, mLstN, mAddN, mAppN, semX, mTold, mCallX, xRet, xExpr, xSet, mRaise, mM, isL, isS, mOrV, truD, mFor, forL, mLc, lcL, sameC, wipeC, restC, mYes, *])
local macro_rules | `(tactic| walk_at "rg") => `(tactic| (and_intros <;> grind))
local macro_rules | `(tactic| walk_at "nx") => `(tactic| (apply wx_nx; focus (walk_at "ev"; try first | exact ⟨rfl, rfl⟩ | rfl)))
local macro_rules | `(tactic| walk_at "ns") => `(tactic| (apply wx_nx; focus (walk_at "es"; try first | exact ⟨rfl, rfl⟩ | rfl)))
local macro_rules | `(tactic| walk_at "rt") => `(tactic| (apply wx_rt; focus (walk_at "ev"; try first | exact ⟨rfl, rfl⟩ | rfl)))
local macro_rules | `(tactic| walk_at "rs") => `(tactic| (apply wx_rt; focus (walk_at "es"; try first | exact ⟨rfl, rfl⟩ | rfl)))
local macro_rules | `(tactic| walk_at "ed") => `(tactic| simp [semF, shared, after, mSeq, mSkip, mIf, mRet, mRetN, mRetV, mSet, mSetIx, mExpr, mB, mU, mTm, mPl, mK, mVar, mOp, mCons, mNil, bor, bors, mTst, mAndT, mOrT, mNotT, mAndE, mOrE, mNotE, mIfE, mIsi, isiD, mChn, chnL, cmpD, binD, addD, subD, mulD, modD, fdivD, powD, eqD, neD, ltD, leD, gtD, geD, isD, isnD, L2.M.isNon, negD, ixD, Bf.f, Bg.f, lenD, L2.M.intD, maxD, minD, repD, strD, gmaxD, gminD, sumD, sortD, anyD, allD, mCall, frz, fzO, lend, wb, mTup, mLst, fzs, cD, mAsg, bTup, bTps, mApp, tupD, lstD, mRev, revD, ofs_inj, ee_ii, ee_ss, ee_bb, ee_nn, ee_is, ee_si, ee_in, ee_ni, ee_tt, ee_ll, ee_maps, ee_0, ee_1, ee_2, ee_3, at_lit, at_nat, at_m1, at_m2, scD, emD, sizeLine_eq, ixN, sm_lit, mSrc, itemsD, plOf, rng1D, bNm, mSl, mPt, mNoP, slD, mPar, keepT, tmsO, setA, mFlow, zipX, enumX, itemsX, intsOf, ints_all, boolsOf, shaped_lay, lay_int, lay_bool, lay_none, lay_dict, lay_tup, lay_list, lay_ints, sortX_ints, mPlF, mPlI, mRd, mPU, mPB, mFSet, mFNew, mNSet, mPApp, mPSetIx, mPPop, mMeth, mNew, isIns, cellO, mLstN, mAddN, mAppN, semX, mTold, mCallX, xRet, xExpr, xSet, mRaise, mM, isL, isS, mOrV, truD, mDNew, mDIn, mDGet, mDLen, mDPut, kyD, mNNew, mN1, mTake, mFnV, mCallF, mNIn, mNGet, mNPut, mNVals, mNList, nKs, mDGetD, mDList, mNNe, *])
theorem knocked_eq {z : Pz} (u : Int) : g_knocked [.sh z.d, .sh (.int u)] = some (.sh (.tuple [.bool (decide (z.r ≤ u)), .int (on z u false)]), [.sh z.d, .sh (.int u)]) := by
  unfold g_knocked m_knocked Pz.d on
  by_cases h : z.r ≤ u
  · rw [decide_eq_true h]
    walk_at "es"
  · rw [decide_eq_false h]
    walk_at "es"
theorem sgT_l (g : Bool) : (sgT g).length = 1 := by cases g <;> rfl
theorem sgT_cps (g : Bool) : cpsL (sgT g) = [sgn g] := by cases g <;> rfl
theorem rb_g {F : List Bn} (hn : (F.map bK).Nodup) {j : Nat} {e : Bn} (h : F[j]? = some e) {c2 c3 : C} : mNGet 0 (mPl 1) [bC F, .sh (kP e.q1 e.q2), c2, c3] = some (.sh e.v, [bC F, .sh (kP e.q1 e.q2), c2, c3]) := by
  have hx : idxN (bKs F) (kQ e.q1 e.q2) = some j := (idx_b F _ _).trans (bIx_at hn h)
  have hk := okKey_p e.q1 e.q2
  have hv : nVl (.ob (.dn (bKs F)) (bCs F)) j = some e.v := by
    have : (bCs F)[j]? = some (.sh e.v) := by unfold bCs; rw [List.getElem?_map, h]; rfl
    show (match (bCs F)[j]? with
      | some (.sh d) => some d
      | _ => none) = _
    rw [this]
  show mNGet 0 (mPl 1) [.ob (.dn (bKs F)) (bCs F), .sh (kP e.q1 e.q2), c2, c3] = some (.sh e.v, [.ob (.dn (bKs F)) (bCs F), .sh (kP e.q1 e.q2), c2, c3])
  generalize bKs F = KS at *
  generalize bCs F = CS at *
  generalize kP e.q1 e.q2 = Z at *
  simp [mNGet, nKs, mPl, bor, hk, hx, hv]
theorem rb_t {K : C} {Z V : PyData} {c2 c3 : C} (f : mNGet 0 (mPl 1) [K, .sh Z, c2, c3] = some (.sh V, [K, .sh Z, c2, c3])) : (mTst (mB (cmpD .IsNot) (mTm (mNGet 0 (mPl 1))) (mTm (mK .none)))) [K, .sh Z, c2, c3] = some (!isNon V, [K, .sh Z, c2, c3]) := by
  generalize mNGet 0 (mPl 1) = G at *
  have e : cmpD .IsNot V .none = some (.sh (.bool (!isNon V))) := by cases V <;> rfl
  generalize cmpD .IsNot = N at *
  generalize isNon V = b at *
  walk_at "es"
theorem rb_a {K : C} {Z A : PyData} {s : Str} {c2 c3 : C} (f : mNGet 0 (mPl 1) [K, .sh Z, c2, c3] = some (.sh (.tuple [A, .str s]), [K, .sh Z, c2, c3])) : (mAsg [1, 3] [0] (bTup [bNm 1, bNm 3]) (mNGet 0 (mPl 1))) [K, .sh Z, c2, c3] = some (.nx, [K, .sh A, c2, .sh (.str s)]) := by
  generalize mNGet 0 (mPl 1) = G at *
  walk_at "es"
theorem rb_s {K c1 : C} {s T : Str} (h : addD (.str s) (.str T) = some (.sh (.str (s ++ T)))) : (mSet [0] 2 (mB (binD .Add) (mPl 3) (mPl 2))) [K, c1, .sh (.str T), .sh (.str s)] = some (.nx, [K, c1, .sh (.str (s ++ T)), .sh (.str s)]) := by
  have e0 : binD .Add = addD := rfl
  rw [e0]
  generalize addD = A at *
  generalize s ++ T = W at *
  walk_at "es"
theorem row_back_eq {z y : Pz} {F : List Bn} (k : BInv z y F) (hF : F.length ≤ 3721) {t : Nat} {e : Bn} (he : F[t]? = some e) : ∃ T : Str, cpsL T = (e.w ++ [false]).map sgn ∧ g_row_back [bC F, .sh (kP e.q1 e.q2), .sh (.str "k")] = some (.sh (.str T), [bC F, .sh (kP e.q1 e.q2), .sh (.str "k")]) := by
  have main : Rt (g_row_back [bC F, .sh (kP e.q1 e.q2), .sh (.str "k")]) fun c cs => ∃ T : Str, cpsL T = (e.w ++ [false]).map sgn ∧ c = .sh (.str T) ∧ cs = [bC F, .sh (kP e.q1 e.q2), .sh (.str "k")] := by
    unfold g_row_back m_row_back
    apply rt_sem rfl
    apply wx_seq
    have hel := bw_len k t e he
    have htl := (List.getElem?_eq_some_iff.mp he).1
    apply wx_while (fun n ε => ∃ (e' : Bn) (s : List Bool) (T : Str) (c3 : C), F[n]? = some e' ∧ e.w = e'.w ++ s ∧ cpsL T = (s ++ [false]).map sgn ∧ ε = [bC F, .sh (kP e'.q1 e'.q2), .sh (.str T), c3]) t ⟨e, [], "k", _, he, by simp, rfl, rfl⟩
    rintro n ε ⟨e', s, T, c3, hn, hw, hT, rfl⟩
    have g := rb_g k.nd hn (c2 := .sh (.str T)) (c3 := c3)
    refine ⟨_, _, rb_t g, fun hf => ?_, fun ht => ?_⟩
    · have h0 : n = 0 := by
        cases n with
        | zero => rfl
        | succ n =>
          obtain ⟨j, e2, b, _, _, _, hv⟩ := k.par n e' hn
          rw [hv] at hf
          cases hf
      subst h0
      rw [k.st] at hn
      cases hn
      simp only [List.nil_append] at hw
      exact wx_rt (c := .sh (.str T)) (ε1 := [bC F, .sh (kP z.f y.f), .sh (.str T), c3]) rfl ⟨T, by rw [hw]; exact hT, rfl, rfl⟩
    · cases n with
      | zero =>
        rw [k.st] at hn
        cases hn
        cases ht
      | succ n =>
        obtain ⟨j, e2, b, hj, hj2, hw2, hv⟩ := k.par n e' hn
        rw [hv] at g
        apply wx_nx (rb_a g)
        have hTl := len_map hT
        have hsl : s.length ≤ 3721 := by
          have : e.w.length = e'.w.length + s.length := by rw [hw, List.length_append]
          omega
        have e1 := sgT_l b
        apply wx_nx (rb_s (add_str (by
          rw [List.length_append] at hTl
          simp at hTl
          omega)))
        refine wx_skip ⟨j, by omega, e2, b :: s, sgT b ++ T, _, hj2, by rw [hw, hw2]; simp, ?_, rfl⟩
        rw [cps_app, sgT_cps, hT]
        rfl
  obtain ⟨_, _, e2, T, hT, rfl, rfl⟩ := main
  exact ⟨T, hT, e2⟩
theorem pb_1 {z y : Pz} : (mSet [0, 1] 2 (mOp (Bf.f .max) (mCons (mTm (mB ixD (mPl 0) (mTm (mK (.int 2))))) (mCons (mTm (mB ixD (mPl 1) (mTm (mK (.int 2))))) (mNil))))) [.sh z.d, .sh y.d, .no, .no, .no, .no, .no, .no, .no, .no, .no] = some (.nx, [.sh z.d, .sh y.d, .sh (.int (if z.c < y.c then y.c else z.c)), .no, .no, .no, .no, .no, .no, .no, .no]) := by
  unfold Pz.d
  walk_at "es"
theorem pb_2 {Z Y : PyData} {m : Int} (h : ¬ 60 < m) : (mIf (mTst (mB (cmpD .Gt) (mPl 2) (mTm (mK (.int 60))))) (mSeq (mStuck) (mSkip)) (mSkip)) [.sh Z, .sh Y, .sh (.int m), .no, .no, .no, .no, .no, .no, .no, .no] = some (.nx, [.sh Z, .sh Y, .sh (.int m), .no, .no, .no, .no, .no, .no, .no, .no]) := by
  try generalize mRaiseX _ _ _ = RX at *
  try generalize mStuck = RX at *
  walk_at "es"
theorem pb_3 {z y : Pz} {c2 : C} : (mSet [0, 1] 3 (mN1 (mTup (mCons (mTm (mB ixD (mPl 0) (mTm (mK (.int 3))))) (mCons (mTm (mB ixD (mPl 1) (mTm (mK (.int 3))))) (mNil)))) (mK .none))) [.sh z.d, .sh y.d, c2, .no, .no, .no, .no, .no, .no, .no, .no] = some (.nx, [.sh z.d, .sh y.d, c2, bC [bSt z y], .no, .no, .no, .no, .no, .no, .no]) := by
  have e0 : (mTup (mCons (mTm (mB ixD (mPl 0) (mTm (mK (.int 3))))) (mCons (mTm (mB ixD (mPl 1) (mTm (mK (.int 3))))) (mNil)))) [.sh z.d, .sh y.d, c2, .no, .no, .no, .no, .no, .no, .no, .no] = some (.sh (kP z.f y.f), [.sh z.d, .sh y.d, c2, .no, .no, .no, .no, .no, .no, .no, .no]) := by
    unfold Pz.d
    walk_at "es"
  have e : (mN1 (mTup (mCons (mTm (mB ixD (mPl 0) (mTm (mK (.int 3))))) (mCons (mTm (mB ixD (mPl 1) (mTm (mK (.int 3))))) (mNil)))) (mK .none)) [.sh z.d, .sh y.d, c2, .no, .no, .no, .no, .no, .no, .no, .no] = some (bC [bSt z y], [.sh z.d, .sh y.d, c2, .no, .no, .no, .no, .no, .no, .no, .no]) := by
    have hk := okKey_p z.f y.f
    have hb : bC [bSt z y] = .ob (.dn [kP z.f y.f]) [.sh .none] := rfl
    rw [hb]
    generalize kP z.f y.f = Z at *
    simp [mN1, e0, cD, hk, mK]
  generalize mN1 _ _ = N at *
  generalize bC [bSt z y] = B at *
  generalize z.d = Z at *
  generalize y.d = Y at *
  clear e0
  walk_at "es"
theorem pb_4 {z y : Pz} {c2 c3 : C} : (mSet [0, 1] 4 (mLst (mCons (mTm (mTup (mCons (mTm (mB ixD (mPl 0) (mTm (mK (.int 3))))) (mCons (mTm (mB ixD (mPl 1) (mTm (mK (.int 3))))) (mNil))))) (mNil)))) [.sh z.d, .sh y.d, c2, c3, .no, .no, .no, .no, .no, .no, .no] = some (.nx, [.sh z.d, .sh y.d, c2, c3, .ls [kP z.f y.f], .no, .no, .no, .no, .no, .no]) := by
  unfold Pz.d
  walk_at "es"
theorem pb_t {c0 c1 c2 c3 c6 c7 c8 c9 c10 : C} {L : List PyData} {t : Int} (hl : L.length ≤ 16777216) : (mTst (mB (cmpD .Lt) (mPl 5) (mTm (mOp (Bf.f .len) (mCons (mPl 4) (mNil)))))) [c0, c1, c2, c3, .ls L, .sh (.int t), c6, c7, c8, c9, c10] = some (decide (t < (L.length : Int)), [c0, c1, c2, c3, .ls L, .sh (.int t), c6, c7, c8, c9, c10]) := by
  walk_at "es"
theorem pb_6 {c0 c1 c2 c3 c6 c7 c8 c9 c10 : C} {L : List PyData} {t : Int} {Z : PyData} (h : atI L t = some Z) : (mSet [0, 1] 6 (mB ixD (mPl 4) (mPl 5))) [c0, c1, c2, c3, .ls L, .sh (.int t), c6, c7, c8, c9, c10] = some (.nx, [c0, c1, c2, c3, .ls L, .sh (.int t), .sh Z, c7, c8, c9, c10]) := by
  walk_at "es"
theorem pb_7 {c0 c1 c2 c3 c4 c6 c7 c8 c9 c10 : C} {t : Int} : (mSet [0, 1] 5 (mB (binD .Add) (mPl 5) (mTm (mK (.int 1))))) [c0, c1, c2, c3, c4, .sh (.int t), c6, c7, c8, c9, c10] = some (.nx, [c0, c1, c2, c3, c4, .sh (.int (t + 1)), c6, c7, c8, c9, c10]) := by
  walk_at "es"
theorem pb_8 {z y : Pz} {c2 c3 c4 c5 c7 c8 c9 c10 : C} {a b : Int} (h7 : c7 = .no ∨ ∃ d, c7 = .sh d) (h8 : c8 = .no ∨ ∃ d, c8 = .sh d) : (mPar [0, 1] [7, 8] (mCons (mTm (mCall [true, true] g_knocked (mCons (mPl 0) (mCons (mTm (mB ixD (mPl 6) (mTm (mK (.int 0))))) (mNil))))) (mCons (mTm (mCall [true, true] g_knocked (mCons (mPl 1) (mCons (mTm (mB ixD (mPl 6) (mTm (mK (.int 1))))) (mNil))))) (mNil)))) [.sh z.d, .sh y.d, c2, c3, c4, c5, .sh (kP a b), c7, c8, c9, c10] = some (.nx, [.sh z.d, .sh y.d, c2, c3, c4, c5, .sh (kP a b), .sh (.tuple [.bool (decide (z.r ≤ a)), .int (on z a false)]), .sh (.tuple [.bool (decide (y.r ≤ b)), .int (on y b false)]), c9, c10]) := by
  have e1 := knocked_eq (z := z) a
  have e2 := knocked_eq (z := y) b
  generalize decide (z.r ≤ a) = A at *
  generalize decide (y.r ≤ b) = B at *
  generalize on z a false = A2 at *
  generalize on y b false = B2 at *
  generalize z.d = Z at *
  generalize y.d = Y at *
  generalize g_knocked = G at *
  rcases h7 with rfl | ⟨d7, rfl⟩ <;> rcases h8 with rfl | ⟨d8, rfl⟩ <;> walk_at "es"
theorem pb_9n {c0 c1 c2 c3 c4 c5 c6 c9 c10 : C} {a b : Bool} {u v : Int} (h : a = b) : (mIf (mTst (mB (cmpD .NotEq) (mTm (mB ixD (mPl 7) (mTm (mK (.int 0))))) (mTm (mB ixD (mPl 8) (mTm (mK (.int 0))))))) (mSeq (mRet (mCall [true, false, false] g_row_back (mCons (mPl 3) (mCons (mPl 6) (mCons (mTm (mK (.str "k"))) (mNil)))))) (mSkip)) (mSkip)) [c0, c1, c2, c3, c4, c5, c6, .sh (.tuple [.bool a, .int u]), .sh (.tuple [.bool b, .int v]), c9, c10] = some (.nx, [c0, c1, c2, c3, c4, c5, c6, .sh (.tuple [.bool a, .int u]), .sh (.tuple [.bool b, .int v]), c9, c10]) := by
  subst h
  cases a <;> walk_at "es"
theorem pb_9y {c0 c1 c2 c4 c5 c9 c10 : C} {a b : Bool} {u v : Int} {Z : PyData} {R : PyData} {ks : List PyData} {cs : List C} (h : a ≠ b) (e : g_row_back [.ob (.dn ks) cs, .sh Z, .sh (.str "k")] = some (.sh R, [.ob (.dn ks) cs, .sh Z, .sh (.str "k")])) : (mIf (mTst (mB (cmpD .NotEq) (mTm (mB ixD (mPl 7) (mTm (mK (.int 0))))) (mTm (mB ixD (mPl 8) (mTm (mK (.int 0))))))) (mSeq (mRet (mCall [true, false, false] g_row_back (mCons (mPl 3) (mCons (mPl 6) (mCons (mTm (mK (.str "k"))) (mNil)))))) (mSkip)) (mSkip)) [c0, c1, c2, .ob (.dn ks) cs, c4, c5, .sh Z, .sh (.tuple [.bool a, .int u]), .sh (.tuple [.bool b, .int v]), c9, c10] = some (.rt (.sh R), [c0, c1, c2, .ob (.dn ks) cs, c4, c5, .sh Z, .sh (.tuple [.bool a, .int u]), .sh (.tuple [.bool b, .int v]), c9, c10]) := by
  generalize g_row_back = G at *
  cases a <;> cases b <;> first | exact absurd rfl h | walk_at "es"
theorem pb_s {z y : Pz} {c2 c3 c4 c5 c9 c10 : C} {a b u v : Int} {p q : Bool} : (mSrc itemsD (mCons (mTm (mTup (mCons (mTm (mTup (mCons (mTm (mK (.str "a"))) (mCons (mTm (mTup (mCons (mTm (mCall [true, true] g_put_in (mCons (mPl 0) (mCons (mTm (mB ixD (mPl 6) (mTm (mK (.int 0))))) (mNil))))) (mCons (mTm (mCall [true, true] g_put_in (mCons (mPl 1) (mCons (mTm (mB ixD (mPl 6) (mTm (mK (.int 1))))) (mNil))))) (mNil))))) (mNil))))) (mCons (mTm (mTup (mCons (mTm (mK (.str "k"))) (mCons (mTm (mTup (mCons (mTm (mB ixD (mPl 7) (mTm (mK (.int 1))))) (mCons (mTm (mB ixD (mPl 8) (mTm (mK (.int 1))))) (mNil))))) (mNil))))) (mNil))))) mNil)) [.sh z.d, .sh y.d, c2, c3, c4, c5, .sh (kP a b), .sh (.tuple [.bool p, .int u]), .sh (.tuple [.bool q, .int v]), c9, c10] = some (([.tuple [.str "a", kP (pin z a) (pin y b)], .tuple [.str "k", kP u v]], []), [.sh z.d, .sh y.d, c2, c3, c4, c5, .sh (kP a b), .sh (.tuple [.bool p, .int u]), .sh (.tuple [.bool q, .int v]), c9, c10]) := by
  have e1 := put_in_eq z a
  have e2 := put_in_eq y b
  generalize pin z a = A at *
  generalize pin y b = B at *
  generalize z.d = Z at *
  generalize y.d = Y at *
  generalize g_put_in = G at *
  walk_at "es"
theorem pb_bn {Z H : PyData} {K : NestedKey} {KS L : List PyData} {CS : List C} {s : Str} (hk : okKey Z = some K) (hx : idxN KS K = none) (hl : CS.length < 16777216) (hl2 : L.length < 16777216) {c0 c1 c2 c5 c7 c8 : C} : (mIf (mTst (mNIn true 3 (mPl 10))) (mSeq (mNPut 3 (mTup (mCons (mPl 6) (mCons (mPl 9) (mNil)))) (mPl 10)) (mSeq (mApp 4 (mVar 10)) (mSkip))) (mSkip)) [c0, c1, c2, .ob (.dn KS) CS, .ls L, c5, .sh H, c7, c8, .sh (.str s), .sh Z] = some (.nx, [c0, c1, c2, .ob (.dn (KS ++ [Z])) (CS ++ [.sh (.tuple [H, .str s])]), .ls (L ++ [Z]), c5, .sh H, c7, c8, .sh (.str s), .sh Z]) := by
  walk_at "ed"
theorem pb_by {Z H : PyData} {K : NestedKey} {KS L : List PyData} {CS : List C} {s : Str} {j : Nat} (hk : okKey Z = some K) (hx : idxN KS K = some j) {c0 c1 c2 c5 c7 c8 : C} : (mIf (mTst (mNIn true 3 (mPl 10))) (mSeq (mNPut 3 (mTup (mCons (mPl 6) (mCons (mPl 9) (mNil)))) (mPl 10)) (mSeq (mApp 4 (mVar 10)) (mSkip))) (mSkip)) [c0, c1, c2, .ob (.dn KS) CS, .ls L, c5, .sh H, c7, c8, .sh (.str s), .sh Z] = some (.nx, [c0, c1, c2, .ob (.dn KS) CS, .ls L, c5, .sh H, c7, c8, .sh (.str s), .sh Z]) := by
  walk_at "ed"
theorem pb_b {F : List Bn} (hF : F.length < 16777216) {e : Bn} {z y : Pz} {g : Bool} {c0 c1 c2 c5 c7 c8 : C} : (mIf (mTst (mNIn true 3 (mPl 10))) (mSeq (mNPut 3 (mTup (mCons (mPl 6) (mCons (mPl 9) (mNil)))) (mPl 10)) (mSeq (mApp 4 (mVar 10)) (mSkip))) (mSkip)) [c0, c1, c2, bC F, .ls (bKs F), c5, .sh (kP e.q1 e.q2), c7, c8, .sh (.str (sgT g)), .sh (kP (on z e.q1 g) (on y e.q2 g))] = some (.nx, [c0, c1, c2, bC (addB F (kid z y e g)), .ls (bKs (addB F (kid z y e g))), c5, .sh (kP e.q1 e.q2), c7, c8, .sh (.str (sgT g)), .sh (kP (on z e.q1 g) (on y e.q2 g))]) := by
  have hk := okKey_p (on z e.q1 g) (on y e.q2 g)
  have hx := idx_b F (on z e.q1 g) (on y e.q2 g)
  cases hi : bIx F (on z e.q1 g) (on y e.q2 g) with
  | none =>
    have : addB F (kid z y e g) = F ++ [kid z y e g] := by
      unfold addB
      have : bIx F (kid z y e g).q1 (kid z y e g).q2 = none := hi
      rw [this]
    rw [this]
    have e1 : bKs (F ++ [kid z y e g]) = bKs F ++ [kP (on z e.q1 g) (on y e.q2 g)] := by
      unfold bKs
      rw [List.map_append]
      rfl
    have e2 : bCs (F ++ [kid z y e g]) = bCs F ++ [.sh (.tuple [kP e.q1 e.q2, .str (sgT g)])] := by
      unfold bCs
      rw [List.map_append]
      rfl
    show _ = some (Fl.nx, ([c0, c1, c2, .ob (.dn (bKs (F ++ [kid z y e g]))) (bCs (F ++ [kid z y e g])), .ls (bKs (F ++ [kid z y e g])), c5, .sh (kP e.q1 e.q2), c7, c8, .sh (.str (sgT g)), .sh (kP (on z e.q1 g) (on y e.q2 g))] : Cs))
    rw [e1, e2]
    exact pb_bn hk (hx.trans hi) (by unfold bCs; rw [List.length_map]; exact hF) (by unfold bKs; rw [List.length_map]; exact hF)
  | some j =>
    have : addB F (kid z y e g) = F := by
      unfold addB
      have : bIx F (kid z y e g).q1 (kid z y e g).q2 = some j := hi
      rw [this]
    rw [this]
    exact pb_by hk (hx.trans hi)
/-- what the pairs are gone through for -/
theorem parted_wx {z y : Pz} (hz : z.Ok) (hy : y.Ok) (cz : z.c ≤ 60) (cy : y.c ≤ 60) (J : Nat → List Bn → Prop) (hJ : ∀ t F, J t F → BInv z y F) (h0 : J 0 [bSt z y]) (hs : ∀ t F e, J t F → F[t]? = some e → misB z y e = false → J (t + 1) (stepB z y F e)) :
    ∃ R : PyData, ((R = .none ∧ ∃ F, J F.length F) ∨ ∃ (t : Nat) (F : List Bn) (e : Bn) (T : Str), J t F ∧ F[t]? = some e ∧ misB z y e = true ∧ cpsL T = (e.w ++ [false]).map sgn ∧ R = .str T) ∧ ∃ ε, m_parted_by [.sh z.d, .sh y.d, .no, .no, .no, .no, .no, .no, .no, .no, .no] = some (.rt (.sh R), ε) ∧ after [true, true] [.sh z.d, .sh y.d] ε = [.sh z.d, .sh y.d] := by
  have main : Wx (m_parted_by [.sh z.d, .sh y.d, .no, .no, .no, .no, .no, .no, .no, .no, .no]) fun f ε => ∃ R : PyData, f = .rt (.sh R) ∧ ((R = .none ∧ ∃ F, J F.length F) ∨ ∃ (t : Nat) (F : List Bn) (e : Bn) (T : Str), J t F ∧ F[t]? = some e ∧ misB z y e = true ∧ cpsL T = (e.w ++ [false]).map sgn ∧ R = .str T) ∧ after [true, true] [.sh z.d, .sh y.d] ε = [.sh z.d, .sh y.d] := by
    unfold m_parted_by
    apply wx_nx pb_1
    apply wx_nx (pb_2 (by split <;> omega))
    apply wx_nx pb_3
    apply wx_nx pb_4
    generalize C.sh (.int (if z.c < y.c then y.c else z.c)) = c2
    apply wx_nx (ε1 := [.sh z.d, .sh y.d, c2, bC [bSt z y], .ls (bKs [bSt z y]), .sh (.int 0), .no, .no, .no, .no, .no])
    · rfl
    apply wx_seq
    apply wx_while (fun n ε => ∃ (t : Nat) (F : List Bn) (c6 c7 c8 c9 c10 : C), n = 3721 - t ∧ t ≤ F.length ∧ J t F ∧ (c7 = .no ∨ ∃ d, c7 = .sh d) ∧ (c8 = .no ∨ ∃ d, c8 = .sh d) ∧ ε = [.sh z.d, .sh y.d, c2, bC F, .ls (bKs F), .sh (.int (t : Int)), c6, c7, c8, c9, c10]) 3721 ⟨0, [bSt z y], _, _, _, _, _, rfl, by simp, h0, .inl rfl, .inl rfl, rfl⟩
    rintro n ε ⟨t, F, c6, c7, c8, c9, c10, rfl, ht, hj, h7, h8, rfl⟩
    have k := hJ t F hj
    have hl := b_len hz hy cz cy k
    have hkl : (bKs F).length = F.length := by unfold bKs; rw [List.length_map]
    refine ⟨_, _, pb_t (by omega), fun hf => ?_, fun htr => ?_⟩
    · have hf2 : ¬ (t : Int) < ((bKs F).length : Int) := by simpa using hf
      have hte : t = F.length := by omega
      subst hte
      refine wx_rt (c := .sh .none) (ε1 := [.sh z.d, .sh y.d, c2, bC F, .ls (bKs F), .sh (.int (F.length : Int)), c6, c7, c8, c9, c10]) rfl ⟨.none, rfl, .inl ⟨rfl, F, hj⟩, rfl⟩
    · have hlt : (t : Int) < ((bKs F).length : Int) := by simpa using htr
      have hi : t < F.length := by omega
      obtain ⟨e, he⟩ : ∃ e, F[t]? = some e := ⟨_, List.getElem?_eq_getElem hi⟩
      have hat : atI (bKs F) (t : Int) = some (kP e.q1 e.q2) := by
        rw [atI_nat]
        unfold bKs
        rw [List.getElem?_map, he]
        rfl
      apply wx_nx (pb_6 hat)
      apply wx_nx pb_7
      apply wx_nx (pb_8 h7 h8)
      clear hat h7 h8
      cases hm : misB z y e with
      | true =>
        obtain ⟨T, hT, e2⟩ := row_back_eq k hl he
        have hne : decide (z.r ≤ e.q1) ≠ decide (y.r ≤ e.q2) := by
          unfold misB at hm
          simpa using hm
        exact wx_rt (pb_9y hne e2) ⟨.str T, rfl, .inr ⟨t, F, e, T, hj, he, hm, hT, rfl⟩, rfl⟩
      | false =>
        have heq : decide (z.r ≤ e.q1) = decide (y.r ≤ e.q2) := by
          unfold misB at hm
          simpa using hm
        apply wx_nx (pb_9n heq)
        apply wx_seq
        have hj2 := hs t F e hj he hm
        have k1 := addB_inv k he true
        have k2 := stepB_inv k he
        have l1 := b_len hz hy cz cy k1
        have l2 := b_len hz hy cz cy k2
        obtain ⟨c7, e7⟩ : ∃ c, C.sh (.tuple [.bool (decide (z.r ≤ e.q1)), .int (on z e.q1 false)]) = c := ⟨_, rfl⟩
        obtain ⟨c8, e8⟩ : ∃ c, C.sh (.tuple [.bool (decide (y.r ≤ e.q2)), .int (on y e.q2 false)]) = c := ⟨_, rfl⟩
        have hsrc := pb_s (z := z) (y := y) (c2 := c2) (c3 := bC F) (c4 := .ls (bKs F)) (c5 := .sh (.int ((t : Int) + 1))) (c9 := c9) (c10 := c10) (a := e.q1) (b := e.q2) (u := on z e.q1 false) (v := on y e.q2 false) (p := decide (z.r ≤ e.q1)) (q := decide (y.r ≤ e.q2))
        rw [e7, e8] at hsrc ⊢
        apply wx_for (ds := [.tuple [.str (sgT true), kP (on z e.q1 true) (on y e.q2 true)], .tuple [.str (sgT false), kP (on z e.q1 false) (on y e.q2 false)]]) (ws := []) (ε1 := [.sh z.d, .sh y.d, c2, bC F, .ls (bKs F), .sh (.int ((t : Int) + 1)), .sh (kP e.q1 e.q2), c7, c8, c9, c10]) fun i ε => ∃ c9 c10 : C, ε = [.sh z.d, .sh y.d, c2, bC (if i = 0 then F else if i = 1 then addB F (kid z y e true) else stepB z y F e), .ls (bKs (if i = 0 then F else if i = 1 then addB F (kid z y e true) else stepB z y F e)), .sh (.int ((t : Int) + 1)), .sh (kP e.q1 e.q2), c7, c8, c9, c10]
        · exact hsrc
        · rfl
        · exact ⟨_, _, rfl⟩
        · intro i ε _ j hj
          cases hj
        · rintro i d ε hd ⟨c9, c10, rfl⟩
          match i, hd with
          | 0, hd =>
            cases hd
            refine ⟨[.sh z.d, .sh y.d, c2, bC F, .ls (bKs F), .sh (.int ((t : Int) + 1)), .sh (kP e.q1 e.q2), c7, c8, .sh (.str (sgT true)), .sh (kP (on z e.q1 true) (on y e.q2 true))], rfl, ?_⟩
            apply wx_nx (pb_b (F := F) (e := e) (g := true) (by omega))
            exact wx_skip ⟨_, _, rfl⟩
          | 1, hd =>
            cases hd
            refine ⟨[.sh z.d, .sh y.d, c2, bC (addB F (kid z y e true)), .ls (bKs (addB F (kid z y e true))), .sh (.int ((t : Int) + 1)), .sh (kP e.q1 e.q2), c7, c8, .sh (.str (sgT false)), .sh (kP (on z e.q1 false) (on y e.q2 false))], rfl, ?_⟩
            apply wx_nx (pb_b (F := addB F (kid z y e true)) (e := e) (g := false) (by omega))
            exact wx_skip ⟨_, _, rfl⟩
        · rintro ε ⟨c9, c10, rfl⟩
          refine wx_skip ⟨3721 - (t + 1), by omega, t + 1, stepB z y F e, _, _, _, _, _, rfl, ?_, hj2, .inr ⟨_, e7.symm⟩, .inr ⟨_, e8.symm⟩, rfl⟩
          have : ∀ (A : List Bn) (x : Bn), A.length ≤ (addB A x).length := by
            intro A x
            unfold addB
            split
            · rw [List.length_append]; omega
            · exact Nat.le_refl _
          have h1 := this F (kid z y e true)
          have h2 := this (addB F (kid z y e true)) (kid z y e false)
          show t + 1 ≤ (addB (addB F (kid z y e true)) (kid z y e false)).length
          omega
  obtain ⟨f, ε, e, R, rfl, h1, h2⟩ := main
  exact ⟨R, h1, ε, e, h2⟩
end KW
namespace KW
open PySem PySem.Spec PyProof.Rows L2 L2.M
local macro_rules | `(tactic| walk_at "ev") => `(tactic| simp [semF, shared, after, mSeq, mSkip, mIf, mRet, mRetN, mRetV, mSet, mSetIx, mExpr, mB, mU, mTm, mPl, mK, mVar, mOp, mCons, mNil, bor, bors, mTst, mAndT, mOrT, mNotT, mAndE, mOrE, mNotE, mIfE, mIsi, isiD, mChn, chnL, cmpD, binD, addD, subD, mulD, modD, fdivD, powD, eqD, neD, ltD, leD, gtD, geD, isD, isnD, L2.M.isNon, negD, ixD, Bf.f, Bg.f, lenD, L2.M.intD, maxD, minD, repD, strD, gmaxD, gminD, sumD, sortD, anyD, allD, mCall, frz, fzO, lend, wb, mTup, mLst, fzs, cD, mAsg, bTup, bTps, mApp, tupD, lstD, mRev, revD, ofs_inj, ee_ii, ee_ss, ee_bb, ee_nn, ee_is, ee_si, ee_in, ee_ni, ee_tt, ee_ll, ee_maps, ee_0, ee_1, ee_2, ee_3, at_lit, at_nat, at_m1, at_m2, scD, emD, sizeLine_eq, ixN, sm_lit, mSrc, itemsD, plOf, rng1D, bNm, mSl, mPt, mNoP, slD, mPar, keepT, tmsO, setA, mFlow, zipX, enumX, itemsX, intsOf, ints_all, boolsOf, shaped_lay, lay_int, lay_bool, lay_none, lay_dict, lay_tup, lay_list, lay_ints, sortX_ints, mPlF, mPlI, mRd, mPU, mPB, mFSet, mFNew, mNSet, mPApp, mPSetIx, mPPop, mMeth, mNew, isIns, cellO, mLstN, mAddN, mAppN, semX, mTold, mCallX, xRet, xExpr, xSet, mRaise, mM, isL, isS, mOrV, truD])
local macro_rules | `(tactic| walk_at "es") => `(tactic| simp [semF, shared, after, mSeq, mSkip, mIf, mRet, mRetN, mRetV, mSet, mSetIx, mExpr, mB, mU, mTm, mPl, mK, mVar, mOp, mCons, mNil, bor, bors, mTst, mAndT, mOrT, mNotT, mAndE, mOrE, mNotE, mIfE, mIsi, isiD, mChn, chnL, cmpD, binD, addD, subD, mulD, modD, fdivD, powD, eqD, neD, ltD, leD, gtD, geD, isD, isnD, L2.M.isNon, negD, ixD, Bf.f, Bg.f, lenD, L2.M.intD, maxD, minD, repD, strD, gmaxD, gminD, sumD, sortD, anyD, allD, mCall, frz, fzO, lend, wb, mTup, mLst, fzs, cD, mAsg, bTup, bTps, mApp, tupD, lstD, mRev, revD, ofs_inj, ee_ii, ee_ss, ee_bb, ee_nn, ee_is, ee_si, ee_in, ee_ni, ee_tt, ee_ll, ee_maps, ee_0, ee_1, ee_2, ee_3, at_lit, at_nat, at_m1, at_m2, scD, emD, sizeLine_eq, ixN, sm_lit, mSrc, itemsD, plOf, rng1D, bNm, mSl, mPt, mNoP, slD, mPar, keepT, tmsO, setA, mFlow, zipX, enumX, itemsX, intsOf, ints_all, boolsOf, shaped_lay, lay_int, lay_bool, lay_none, lay_dict, lay_tup, lay_list, lay_ints, sortX_ints, mPlF, mPlI, mRd, mPU, mPB, mFSet, mFNew, mNSet, mPApp, mPSetIx, mPPop, mMeth, mNew, isIns, cellO, mLstN, mAddN, mAppN, semX, mTold, mCallX, xRet, xExpr, xSet, mRaise, mM, isL, isS, mOrV, truD, *])
local macro_rules | `(tactic| walk_at "el") => `(tactic| simp [semF, shared, after, mSeq, mSkip, mIf, mRet, mRetN, mRetV, mSet, mSetIx, mExpr, mB, mU, mTm, mPl, mK, mVar, mOp, mCons, mNil, bor, bors, mTst, mAndT, mOrT, mNotT, mAndE, mOrE, mNotE, mIfE, mIsi, isiD, mChn, chnL, cmpD, binD, addD, subD, mulD, modD, fdivD, powD, eqD, neD, ltD, leD, gtD, geD, isD, isnD, L2.M.isNon, negD, ixD, Bf.f, Bg.f, lenD, L2.M.intD, maxD, minD, repD, strD, gmaxD, gminD, sumD, sortD, anyD, allD, mCall, frz, fzO, lend, wb, mTup, mLst, fzs, cD, mAsg, bTup, bTps, mApp, tupD, lstD, mRev, revD, ofs_inj, ee_ii, ee_ss, ee_bb, ee_nn, ee_is, ee_si, ee_in, ee_ni, ee_tt, ee_ll, ee_maps, ee_0, ee_1, ee_2, ee_3, at_lit, at_nat, at_m1, at_m2, scD, emD, sizeLine_eq, ixN, sm_lit, mSrc, itemsD, plOf, rng1D, bNm, mSl, mPt, mNoP, slD, mPar, keepT, tmsO, setA, mFlow, zipX, enumX, itemsX, intsOf, ints_all, boolsOf, shaped_lay, lay_int, lay_bool, lay_none, lay_dict, lay_tup, lay_list, lay_ints, sortX_ints, mPlF, mPlI, mRd, mPU, mPB, mFSet, mFNew, mNSet, mPApp, mPSetIx, mPPop, mMeth, mNew, isIns, cellO, mLstN, mAddN, mAppN, semX, mTold, mCallX, xRet, xExpr, xSet, mRaise, mM, isL, isS, mOrV, truD, mLc, lcL, sameC, wipeC, restC, mYes, *])
local macro_rules | `(tactic| walk_at "ef") => `(tactic| simp [semF, shared, after, mSeq, mSkip, mIf, mRet, mRetN, mRetV, mSet, mSetIx, mExpr, mB, mU, mTm, mPl, mK, mVar, mOp, mCons, mNil, bor, bors, mTst, mAndT, mOrT, mNotT, mAndE, mOrE, mNotE, mIfE, mIsi, isiD, mChn, chnL, cmpD, binD, addD, subD, mulD, modD, fdivD, powD, eqD, neD, ltD, leD, gtD, geD, isD, isnD, L2.M.isNon, negD, ixD, Bf.f, Bg.f, lenD, L2.M.intD, maxD, minD, repD, strD, gmaxD, gminD, sumD, sortD, anyD, allD, mCall, frz, fzO, lend, wb, mTup, mLst, fzs, cD, mAsg, bTup, bTps, mApp, tupD, lstD, mRev, revD, ofs_inj, ee_ii, ee_ss, ee_bb, ee_nn, ee_is, ee_si, ee_in, ee_ni, ee_tt, ee_ll, ee_maps, ee_0, ee_1, ee_2, ee_3, at_lit, at_nat, at_m1, at_m2, scD, emD, sizeLine_eq, ixN, sm_lit, mSrc, itemsD, plOf, rng1D, bNm, mSl, mPt, mNoP, slD, mPar, keepT, tmsO, setA, mFlow, zipX, enumX, itemsX, intsOf, ints_all, boolsOf, shaped_lay, lay_int, lay_bool, lay_none, lay_dict, lay_tup, lay_list, lay_ints, sortX_ints, mPlF, mPlI, mRd, mPU, mPB, mFSet, mFNew, mNSet, mPApp, mPSetIx, mPPop, mMeth, mNew, isIns, cellO, mLstN, mAddN, mAppN, semX, mTold, mCallX, xRet, xExpr, xSet, mRaise, mM, isL, isS, mOrV, truD, mFor, forL, mLc, lcL, sameC, wipeC, restC, mYes, *])
local macro_rules | `(tactic| walk_at "rg") => `(tactic| (and_intros <;> grind))
local macro_rules | `(tactic| walk_at "nx") => `(tactic| (apply wx_nx; focus (walk_at "ev"; try first | exact ⟨rfl, rfl⟩ | rfl)))
local macro_rules | `(tactic| walk_at "ns") => `(tactic| (apply wx_nx; focus (walk_at "es"; try first | exact ⟨rfl, rfl⟩ | rfl)))
local macro_rules | `(tactic| walk_at "rt") => `(tactic| (apply wx_rt; focus (walk_at "ev"; try first | exact ⟨rfl, rfl⟩ | rfl)))
local macro_rules | `(tactic| walk_at "rs") => `(tactic| (apply wx_rt; focus (walk_at "es"; try first | exact ⟨rfl, rfl⟩ | rfl)))
local macro_rules | `(tactic| walk_at "ed") => `(tactic| simp [semF, shared, after, mSeq, mSkip, mIf, mRet, mRetN, mRetV, mSet, mSetIx, mExpr, mB, mU, mTm, mPl, mK, mVar, mOp, mCons, mNil, bor, bors, mTst, mAndT, mOrT, mNotT, mAndE, mOrE, mNotE, mIfE, mIsi, isiD, mChn, chnL, cmpD, binD, addD, subD, mulD, modD, fdivD, powD, eqD, neD, ltD, leD, gtD, geD, isD, isnD, L2.M.isNon, negD, ixD, Bf.f, Bg.f, lenD, L2.M.intD, maxD, minD, repD, strD, gmaxD, gminD, sumD, sortD, anyD, allD, mCall, frz, fzO, lend, wb, mTup, mLst, fzs, cD, mAsg, bTup, bTps, mApp, tupD, lstD, mRev, revD, ofs_inj, ee_ii, ee_ss, ee_bb, ee_nn, ee_is, ee_si, ee_in, ee_ni, ee_tt, ee_ll, ee_maps, ee_0, ee_1, ee_2, ee_3, at_lit, at_nat, at_m1, at_m2, scD, emD, sizeLine_eq, ixN, sm_lit, mSrc, itemsD, plOf, rng1D, bNm, mSl, mPt, mNoP, slD, mPar, keepT, tmsO, setA, mFlow, zipX, enumX, itemsX, intsOf, ints_all, boolsOf, shaped_lay, lay_int, lay_bool, lay_none, lay_dict, lay_tup, lay_list, lay_ints, sortX_ints, mPlF, mPlI, mRd, mPU, mPB, mFSet, mFNew, mNSet, mPApp, mPSetIx, mPPop, mMeth, mNew, isIns, cellO, mLstN, mAddN, mAppN, semX, mTold, mCallX, xRet, xExpr, xSet, mRaise, mM, isL, isS, mOrV, truD, mDNew, mDIn, mDGet, mDLen, mDPut, kyD, mNNew, mN1, mTake, mFnV, mCallF, mNIn, mNGet, mNPut, mNVals, mNList, nKs, mDGetD, mDList, mNNe, *])
theorem is_row_eq {T : Str} {bs : List Bool} (h : cpsL T = bs.map sgn) (hl : bs.length ≤ 10000) : g_is_row [.sh (.str T)] = some (.sh (.bool true), [.sh (.str T)]) := by
  have hlen : T.length = bs.length := len_map h
  have key : mLc (mSrc itemsD (mCons (mTm (mVar 0)) mNil)) (bNm 1) (mTst (mB ninSD (mPl 1) (mTm (mK (.str "ak"))))) (mVar 1) [1] [.sh (.str T), .no] = some (.ls (((cpsL T).filter fun c => !decide (c ∈ cpsL "ak")).map chD), [.sh (.str T), .no]) := by
    refine mLc_encF chD chD (fun c => !decide (c ∈ cpsL "ak")) (ws := []) (c0 := .no) (src_str rfl) rfl (fun c hc => ?_) (fun c hc _ => ⟨.sh (chD c), rfl, rfl⟩) ?_
    · have e := ninSD_ch c "ak"
      generalize ninSD = N at *
      generalize chD c = d at *
      generalize (!decide (c ∈ cpsL "ak")) = v at *
      clear h
      walk_at "es"
    · rw [len_cps, sizeLine_eq]
      omega
  have hf : ((cpsL T).filter fun c => !decide (c ∈ cpsL "ak")) = [] := by
    rw [List.filter_eq_nil_iff]
    intro c hc
    rw [h] at hc
    obtain ⟨g, _, rfl⟩ := List.mem_map.mp hc
    cases g <;> decide +kernel
  rw [hf, List.map_nil] at key
  unfold g_is_row m_is_row
  generalize mLc _ _ _ _ _ = ML at *
  clear hf h hlen
  walk_at "es"
theorem pa_1 {Z Y : PyData} {T : Str} (hl : T.length ≤ 16777216) (e : g_is_row [.sh (.str T)] = some (.sh (.bool true), [.sh (.str T)])) (h : cutS T (some (-1)) none = "k") : (mIf (mOrT (mNotT (mTst (mCall [true] g_is_row (mCons (mPl 2) (mNil))))) (mTst (mB (cmpD .NotEq) (mTm (mSl (mPl 2) (mPt (mTm (mU negD (mTm (mK (.int 1)))))) (mNoP))) (mTm (mK (.str "k")))))) (mSeq (mRet (mK (.bool false))) (mSkip)) (mSkip)) [.sh Z, .sh Y, .sh (.str T), .no] = some (.nx, [.sh Z, .sh Y, .sh (.str T), .no]) := by
  have hl2 : T.length ≤ sizeLine := by rw [sizeLine_eq]; exact hl
  generalize g_is_row = G at *
  walk_at "es"
theorem pa_2 {Z Y : PyData} {T : Str} {n : Int} (hl : T.length ≤ 16777216) (h : (T.length : Int) = n + 1) : (mSet [0, 1, 2] 3 (mB (binD .Sub) (mTm (mOp (Bf.f .len) (mCons (mPl 2) (mNil)))) (mTm (mK (.int 1))))) [.sh Z, .sh Y, .sh (.str T), .no] = some (.nx, [.sh Z, .sh Y, .sh (.str T), .sh (.int n)]) := by
  have : n = (T.length : Int) - 1 := by omega
  subst this
  clear h
  walk_at "es"
theorem pa_3 {Z Y T : PyData} {n u v : Int} {L M : List PyData} {a b : Bool} (e1 : g_walked [.sh Z, .sh T] = some (.sh (.tuple [.int u, .list L]), [.sh Z, .sh T])) (e2 : g_walked [.sh Y, .sh T] = some (.sh (.tuple [.int v, .list M]), [.sh Y, .sh T])) (h1 : cmpD .In (.int n) (.list L) = some (.sh (.bool a))) (h2 : cmpD .In (.int n) (.list M) = some (.sh (.bool b))) : (mRet (mB (cmpD .NotEq) (mTm (mB (cmpD .In) (mPl 3) (mTm (mB ixD (mTm (mCall [true, true] g_walked (mCons (mPl 0) (mCons (mPl 2) (mNil))))) (mTm (mK (.int 1))))))) (mTm (mB (cmpD .In) (mPl 3) (mTm (mB ixD (mTm (mCall [true, true] g_walked (mCons (mPl 1) (mCons (mPl 2) (mNil))))) (mTm (mK (.int 1))))))))) [.sh Z, .sh Y, .sh T, .sh (.int n)] = some (.rt (.sh (.bool (a != b))), [.sh Z, .sh Y, .sh T, .sh (.int n)]) := by
  generalize g_walked = G at *
  generalize cmpD .In = I at *
  cases a <;> cases b <;> walk_at "es"
theorem last_in {z : Pz} {w : List Bool} : decide ((w.length : Int) ∈ unp z 0 z.f (w ++ [false])) = decide (en z z.f w < z.r) := by
  rw [unp_sn, decide_eq_decide, List.mem_append]
  constructor
  · rintro (h | h)
    · have := unp_lt z w 0 z.f _ h
      omega
    · split at h
      · rename_i q
        exact q.2
      · cases h
  · intro h
    right
    rw [if_pos ⟨rfl, h⟩]
    simp
theorem parts_eq {z y : Pz} {T : Str} {w : List Bool} (hT : cpsL T = (w ++ [false]).map sgn) (hl : w.length ≤ 9999) : g_parts [.sh z.d, .sh y.d, .sh (.str T)] = some (.sh (.bool (decide (en z z.f w < z.r) != decide (en y y.f w < y.r))), [.sh z.d, .sh y.d, .sh (.str T)]) := by
  have hTl := len_map hT
  rw [List.length_append, List.length_singleton] at hTl
  have hc : cutS T (some (-1)) none = "k" := by
    apply str_ext
    rw [cut_cps, hT, List.map_append]
    exact cut_last _ _
  apply rt_eq
  unfold g_parts m_parts
  apply rt_sem rfl
  apply wx_nx (pa_1 (by omega) (is_row_eq hT (by simp; omega)) hc)
  apply wx_nx (pa_2 (n := (w.length : Int)) (by omega) (by omega))
  have i1 := in_ints (unp z 0 z.f (w ++ [false])) (w.length : Int)
  have i2 := in_ints (unp y 0 y.f (w ++ [false])) (w.length : Int)
  rw [last_in] at i1 i2
  exact wx_rt (pa_3 (walked_eq (z := z) hT (by simp; omega)) (walked_eq (z := y) hT (by simp; omega)) i1 i2) ⟨rfl, rfl⟩
theorem parted_eq {z y : Pz} (hz : z.Ok) (hy : y.Ok) (cz : z.c ≤ 60) (cy : y.c ≤ 60) : ∃ R : PyData, ((R = .none ∧ ∀ bs, unp z 0 z.f bs = unp y 0 y.f bs) ∨ ∃ (w : List Bool) (T : Str), w.length ≤ 3721 ∧ unp z 0 z.f w = unp y 0 y.f w ∧ (decide (z.r ≤ en z z.f w) != decide (y.r ≤ en y y.f w)) = true ∧ cpsL T = (w ++ [false]).map sgn ∧ R = .str T) ∧ g_parted_by [.sh z.d, .sh y.d] = some (.sh R, [.sh z.d, .sh y.d]) := by
  obtain ⟨R, h, ε, e, ha⟩ := parted_wx hz hy cz cy (CInv z y) (fun t F k => k.b) (cinv0 z y) (fun t F e k he hm => cinv_step k he hm)
  refine ⟨R, ?_, ?_⟩
  · rcases h with ⟨rfl, F, k⟩ | ⟨t, F, x, T, k, hx, hm, hT, rfl⟩
    · exact .inl ⟨rfl, closed_none k⟩
    · have hmem := List.mem_of_getElem? hx
      have hen := k.b.en x hmem
      have hl := bw_len k.b t x hx
      have hFl := b_len hz hy cz cy k.b
      have htl := (List.getElem?_eq_some_iff.mp hx).1
      unfold misB at hm
      rw [hen.1, hen.2] at hm
      exact .inr ⟨x.w, T, by omega, k.ag x hmem, hm, hT, rfl⟩
  · apply rt_eq
    unfold g_parted_by
    apply rt_sem rfl
    exact wx_val e ⟨rfl, ha⟩
theorem t_1 {Z Y T R : PyData} (e : g_parted_by [.sh Z, .sh Y] = some (.sh R, [.sh Z, .sh Y])) : (mSet [0, 1, 2] 3 (mCall [true, true] g_parted_by (mCons (mPl 0) (mCons (mPl 1) (mNil))))) [.sh Z, .sh Y, .sh T, .no] = some (.nx, [.sh Z, .sh Y, .sh T, .sh R]) := by
  generalize g_parted_by = G at *
  walk_at "es"
theorem t_2n {Z Y T : PyData} {L : List PyData} (e1 : g_unpaid_at [.sh Z, .sh T] = some (.sh (.list L), [.sh Z, .sh T])) (e2 : g_unpaid_at [.sh Y, .sh T] = some (.sh (.list L), [.sh Y, .sh T])) (h : cmpD .Eq (.list L) (.list L) = some (.sh (.bool true))) : (mIf (mTst (mB (cmpD .Is) (mPl 3) (mTm (mK .none)))) (mSeq (mRet (mB (cmpD .Eq) (mTm (mCall [true, true] g_unpaid_at (mCons (mPl 0) (mCons (mPl 2) (mNil))))) (mTm (mCall [true, true] g_unpaid_at (mCons (mPl 1) (mCons (mPl 2) (mNil))))))) (mSkip)) (mSkip)) [.sh Z, .sh Y, .sh T, .sh .none] = some (.rt (.sh (.bool true)), [.sh Z, .sh Y, .sh T, .sh .none]) := by
  generalize g_unpaid_at = G at *
  generalize cmpD .Eq = Q at *
  walk_at "es"
theorem t_2y {Z Y T : PyData} {R : Str} : (mIf (mTst (mB (cmpD .Is) (mPl 3) (mTm (mK .none)))) (mSeq (mRet (mB (cmpD .Eq) (mTm (mCall [true, true] g_unpaid_at (mCons (mPl 0) (mCons (mPl 2) (mNil))))) (mTm (mCall [true, true] g_unpaid_at (mCons (mPl 1) (mCons (mPl 2) (mNil))))))) (mSkip)) (mSkip)) [.sh Z, .sh Y, .sh T, .sh (.str R)] = some (.nx, [.sh Z, .sh Y, .sh T, .sh (.str R)]) := by
  walk_at "es"
theorem t_3 {Z Y T R : PyData} (e1 : g_parts [.sh Z, .sh Y, .sh R] = some (.sh (.bool true), [.sh Z, .sh Y, .sh R])) (e2 : g_parts [.sh Y, .sh Z, .sh R] = some (.sh (.bool true), [.sh Y, .sh Z, .sh R])) : (mIf (mOrT (mTst (mB (cmpD .IsNot) (mTm (mCall [true, true, true] g_parts (mCons (mPl 0) (mCons (mPl 1) (mCons (mPl 3) (mNil)))))) (mTm (mK (.bool true))))) (mTst (mB (cmpD .IsNot) (mTm (mCall [true, true, true] g_parts (mCons (mPl 1) (mCons (mPl 0) (mCons (mPl 3) (mNil)))))) (mTm (mK (.bool true)))))) (mSeq (mRet (mK (.bool false))) (mSkip)) (mSkip)) [.sh Z, .sh Y, .sh T, .sh R] = some (.nx, [.sh Z, .sh Y, .sh T, .sh R]) := by
  generalize g_parts = G at *
  walk_at "es"
theorem t_4y {Z Y T : PyData} {R : Str} (hl : R.length ≤ 16777216) (h : 200 < (R.length : Int)) : (mIf (mTst (mB (cmpD .Gt) (mTm (mOp (Bf.f .len) (mCons (mPl 3) (mNil)))) (mTm (mK (.int 200))))) (mSeq (mRet (mK (.bool true))) (mSkip)) (mSkip)) [.sh Z, .sh Y, .sh T, .sh (.str R)] = some (.rt (.sh (.bool true)), [.sh Z, .sh Y, .sh T, .sh (.str R)]) := by
  walk_at "es"
theorem t_4n {Z Y T : PyData} {R : Str} (hl : R.length ≤ 16777216) (h : ¬ 200 < (R.length : Int)) : (mIf (mTst (mB (cmpD .Gt) (mTm (mOp (Bf.f .len) (mCons (mPl 3) (mNil)))) (mTm (mK (.int 200))))) (mSeq (mRet (mK (.bool true))) (mSkip)) (mSkip)) [.sh Z, .sh Y, .sh T, .sh (.str R)] = some (.nx, [.sh Z, .sh Y, .sh T, .sh (.str R)]) := by
  walk_at "es"
theorem t_5 {Z Y T : PyData} {R : Str} {L : List PyData} (hl : R.length ≤ 16777216) (e1 : g_unpaid_at [.sh Z, .sh (.str (cutS R none (some (-1))))] = some (.sh (.list L), [.sh Z, .sh (.str (cutS R none (some (-1))))])) (e2 : g_unpaid_at [.sh Y, .sh (.str (cutS R none (some (-1))))] = some (.sh (.list L), [.sh Y, .sh (.str (cutS R none (some (-1))))])) (h : cmpD .NotEq (.list L) (.list L) = some (.sh (.bool false))) : (mIf (mTst (mB (cmpD .NotEq) (mTm (mCall [true, true] g_unpaid_at (mCons (mPl 0) (mCons (mTm (mSl (mPl 3) (mNoP) (mPt (mTm (mU negD (mTm (mK (.int 1)))))))) (mNil))))) (mTm (mCall [true, true] g_unpaid_at (mCons (mPl 1) (mCons (mTm (mSl (mPl 3) (mNoP) (mPt (mTm (mU negD (mTm (mK (.int 1)))))))) (mNil))))))) (mSeq (mRet (mK (.bool false))) (mSkip)) (mSkip)) [.sh Z, .sh Y, .sh T, .sh (.str R)] = some (.nx, [.sh Z, .sh Y, .sh T, .sh (.str R)]) := by
  have hl2 : R.length ≤ sizeLine := by rw [sizeLine_eq]; exact hl
  generalize g_unpaid_at = G at *
  generalize cmpD .NotEq = Q at *
  generalize hS : cutS R none (some (-1)) = S at *
  walk_at "es"
theorem t_6 {Z Y T R : PyData} {a b : Int} (e1 : g_paid_in [.sh Z, .sh R] = some (.sh (.int a), [.sh Z, .sh R])) (e2 : g_paid_in [.sh Y, .sh R] = some (.sh (.int b), [.sh Y, .sh R])) (h : a - b = 1 ∨ a - b = -1) : (mRet (mB (cmpD .Eq) (mTm (mOp (Bf.f .abs) (mCons (mTm (mB (binD .Sub) (mTm (mCall [true, true] g_paid_in (mCons (mPl 0) (mCons (mPl 3) (mNil))))) (mTm (mCall [true, true] g_paid_in (mCons (mPl 1) (mCons (mPl 3) (mNil))))))) (mNil)))) (mTm (mK (.int 1))))) [.sh Z, .sh Y, .sh T, .sh R] = some (.rt (.sh (.bool true)), [.sh Z, .sh Y, .sh T, .sh R]) := by
  have e : ∀ u v : Int, subD (.int u) (.int v) = some (.sh (.int (u - v))) := fun _ _ => rfl
  generalize g_paid_in = G at *
  have a1 : absD [.int 1] = some (.sh (.int 1)) := rfl
  have a2 : absD [.int (-1)] = some (.sh (.int 1)) := rfl
  generalize hd : a - b = d at *
  rcases h with rfl | rfl <;> walk_at "es"
theorem two_right_eq {z y : Pz} (hz : z.Ok) (hy : y.Ok) (cz : z.c ≤ 60) (cy : y.c ≤ 60) {T : Str} {bs : List Bool} (hT : cpsL T = bs.map sgn) (hl : bs.length ≤ 200) : g_law_two_right [.sh z.d, .sh y.d, .sh (.str T)] = some (.sh (.bool true), [.sh z.d, .sh y.d, .sh (.str T)]) := by
  obtain ⟨R, h, e⟩ := parted_eq hz hy cz cy
  apply rt_eq
  unfold g_law_two_right m_law_two_right
  apply rt_sem rfl
  apply wx_nx (t_1 e)
  rcases h with ⟨rfl, hn⟩ | ⟨w, R, hw, hag, hm, hR, rfl⟩
  · have u1 := unpaid_eq (z := z) hT hl
    have u2 := unpaid_eq (z := y) hT hl
    rw [← hn bs] at u2
    exact wx_rt (t_2n u1 u2 (by rw [eq_lss]; simp)) ⟨rfl, rfl⟩
  · have hRl := len_map hR
    rw [List.length_append, List.length_singleton] at hRl
    have p1 := parts_eq (z := z) (y := y) hR (by omega)
    have p2 := parts_eq (z := y) (y := z) hR (by omega)
    have hv : (decide (en z z.f w < z.r) != decide (en y y.f w < y.r)) = true ∧ (decide (en y y.f w < y.r) != decide (en z z.f w < z.r)) = true := by
      by_cases q1 : z.r ≤ en z z.f w <;> by_cases q2 : y.r ≤ en y y.f w
      · simp [q1, q2] at hm
      · have h1 : ¬ en z z.f w < z.r := by omega
        have h2 : en y y.f w < y.r := by omega
        simp [h1, h2]
      · have h1 : en z z.f w < z.r := by omega
        have h2 : ¬ en y y.f w < y.r := by omega
        simp [h1, h2]
      · simp [q1, q2] at hm
    rw [hv.1] at p1
    rw [hv.2] at p2
    apply wx_nx t_2y
    apply wx_nx (t_3 p1 p2)
    by_cases hlong : 200 < (R.length : Int)
    · exact wx_rt (t_4y (by omega) hlong) ⟨rfl, rfl⟩
    · apply wx_nx (t_4n (by omega) hlong)
      have hS : cpsL (cutS R none (some (-1))) = w.map sgn := by
        rw [cut_cps, hR, cut_to1, List.map_append, List.map_singleton, List.dropLast_concat]
      have u1 := unpaid_eq (z := z) hS (by omega)
      have u2 := unpaid_eq (z := y) hS (by omega)
      rw [← hag] at u2
      apply wx_nx (t_5 (by omega) u1 u2 (by rw [ne_lss]; simp))
      have hl1 : (w ++ [false]).length ≤ 200 := by
        rw [List.length_append, List.length_singleton]
        omega
      have q1 := pd_unp z (w ++ [false]) 0 z.f
      have q2 := pd_unp y (w ++ [false]) 0 y.f
      rw [unp_sn, List.length_append] at q1 q2
      rw [hag] at q1
      refine wx_rt (t_6 (paid_eq (z := z) hR hl1) (paid_eq (z := y) hR hl1) ?_) ⟨rfl, rfl⟩
      by_cases c1 : en z z.f w < z.r <;> by_cases c2 : en y y.f w < y.r
      · simp [c1, c2] at hv
      · rw [if_pos ⟨rfl, c1⟩] at q1
        rw [if_neg (fun q => c2 q.2)] at q2
        simp at q1 q2
        omega
      · rw [if_neg (fun q => c1 q.2)] at q1
        rw [if_pos ⟨rfl, c2⟩] at q2
        simp at q1 q2
        omega
      · simp [c1, c2] at hv
end KW
namespace KW
open PySem PySem.Spec PyProof.Rows L2 L2.M
local macro_rules | `(tactic| walk_at "ev") => `(tactic| simp [semF, shared, after, mSeq, mSkip, mIf, mRet, mRetN, mRetV, mSet, mSetIx, mExpr, mB, mU, mTm, mPl, mK, mVar, mOp, mCons, mNil, bor, bors, mTst, mAndT, mOrT, mNotT, mAndE, mOrE, mNotE, mIfE, mIsi, isiD, mChn, chnL, cmpD, binD, addD, subD, mulD, modD, fdivD, powD, eqD, neD, ltD, leD, gtD, geD, isD, isnD, L2.M.isNon, negD, ixD, Bf.f, Bg.f, lenD, L2.M.intD, maxD, minD, repD, strD, gmaxD, gminD, sumD, sortD, anyD, allD, mCall, frz, fzO, lend, wb, mTup, mLst, fzs, cD, mAsg, bTup, bTps, mApp, tupD, lstD, mRev, revD, ofs_inj, ee_ii, ee_ss, ee_bb, ee_nn, ee_is, ee_si, ee_in, ee_ni, ee_tt, ee_ll, ee_maps, ee_0, ee_1, ee_2, ee_3, at_lit, at_nat, at_m1, at_m2, scD, emD, sizeLine_eq, ixN, sm_lit, mSrc, itemsD, plOf, rng1D, bNm, mSl, mPt, mNoP, slD, mPar, keepT, tmsO, setA, mFlow, zipX, enumX, itemsX, intsOf, ints_all, boolsOf, shaped_lay, lay_int, lay_bool, lay_none, lay_dict, lay_tup, lay_list, lay_ints, sortX_ints, mPlF, mPlI, mRd, mPU, mPB, mFSet, mFNew, mNSet, mPApp, mPSetIx, mPPop, mMeth, mNew, isIns, cellO, mLstN, mAddN, mAppN, semX, mTold, mCallX, xRet, xExpr, xSet, mRaise, mM, isL, isS, mOrV, truD])
local macro_rules | `(tactic| walk_at "es") => `(tactic| simp [semF, shared, after, mSeq, mSkip, mIf, mRet, mRetN, mRetV, mSet, mSetIx, mExpr, mB, mU, mTm, mPl, mK, mVar, mOp, mCons, mNil, bor, bors, mTst, mAndT, mOrT, mNotT, mAndE, mOrE, mNotE, mIfE, mIsi, isiD, mChn, chnL, cmpD, binD, addD, subD, mulD, modD, fdivD, powD, eqD, neD, ltD, leD, gtD, geD, isD, isnD, L2.M.isNon, negD, ixD, Bf.f, Bg.f, lenD, L2.M.intD, maxD, minD, repD, strD, gmaxD, gminD, sumD, sortD, anyD, allD, mCall, frz, fzO, lend, wb, mTup, mLst, fzs, cD, mAsg, bTup, bTps, mApp, tupD, lstD, mRev, revD, ofs_inj, ee_ii, ee_ss, ee_bb, ee_nn, ee_is, ee_si, ee_in, ee_ni, ee_tt, ee_ll, ee_maps, ee_0, ee_1, ee_2, ee_3, at_lit, at_nat, at_m1, at_m2, scD, emD, sizeLine_eq, ixN, sm_lit, mSrc, itemsD, plOf, rng1D, bNm, mSl, mPt, mNoP, slD, mPar, keepT, tmsO, setA, mFlow, zipX, enumX, itemsX, intsOf, ints_all, boolsOf, shaped_lay, lay_int, lay_bool, lay_none, lay_dict, lay_tup, lay_list, lay_ints, sortX_ints, mPlF, mPlI, mRd, mPU, mPB, mFSet, mFNew, mNSet, mPApp, mPSetIx, mPPop, mMeth, mNew, isIns, cellO, mLstN, mAddN, mAppN, semX, mTold, mCallX, xRet, xExpr, xSet, mRaise, mM, isL, isS, mOrV, truD, *])
local macro_rules | `(tactic| walk_at "el") => `(tactic| simp [semF, shared, after, mSeq, mSkip, mIf, mRet, mRetN, mRetV, mSet, mSetIx, mExpr, mB, mU, mTm, mPl, mK, mVar, mOp, mCons, mNil, bor, bors, mTst, mAndT, mOrT, mNotT, mAndE, mOrE, mNotE, mIfE, mIsi, isiD, mChn, chnL, cmpD, binD, addD, subD, mulD, modD, fdivD, powD, eqD, neD, ltD, leD, gtD, geD, isD, isnD, L2.M.isNon, negD, ixD, Bf.f, Bg.f, lenD, L2.M.intD, maxD, minD, repD, strD, gmaxD, gminD, sumD, sortD, anyD, allD, mCall, frz, fzO, lend, wb, mTup, mLst, fzs, cD, mAsg, bTup, bTps, mApp, tupD, lstD, mRev, revD, ofs_inj, ee_ii, ee_ss, ee_bb, ee_nn, ee_is, ee_si, ee_in, ee_ni, ee_tt, ee_ll, ee_maps, ee_0, ee_1, ee_2, ee_3, at_lit, at_nat, at_m1, at_m2, scD, emD, sizeLine_eq, ixN, sm_lit, mSrc, itemsD, plOf, rng1D, bNm, mSl, mPt, mNoP, slD, mPar, keepT, tmsO, setA, mFlow, zipX, enumX, itemsX, intsOf, ints_all, boolsOf, shaped_lay, lay_int, lay_bool, lay_none, lay_dict, lay_tup, lay_list, lay_ints, sortX_ints, mPlF, mPlI, mRd, mPU, mPB, mFSet, mFNew, mNSet, mPApp, mPSetIx, mPPop, mMeth, mNew, isIns, cellO, mLstN, mAddN, mAppN, semX, mTold, mCallX, xRet, xExpr, xSet, mRaise, mM, isL, isS, mOrV, truD, mLc, lcL, sameC, wipeC, restC, mYes, *])
local macro_rules | `(tactic| walk_at "ef") => `(tactic| simp [semF, shared, after, mSeq, mSkip, mIf, mRet, mRetN, mRetV, mSet, mSetIx, mExpr, mB, mU, mTm, mPl, mK, mVar, mOp, mCons, mNil, bor, bors, mTst, mAndT, mOrT, mNotT, mAndE, mOrE, mNotE, mIfE, mIsi, isiD, mChn, chnL, cmpD, binD, addD, subD, mulD, modD, fdivD, powD, eqD, neD, ltD, leD, gtD, geD, isD, isnD, L2.M.isNon, negD, ixD, Bf.f, Bg.f, lenD, L2.M.intD, maxD, minD, repD, strD, gmaxD, gminD, sumD, sortD, anyD, allD, mCall, frz, fzO, lend, wb, mTup, mLst, fzs, cD, mAsg, bTup, bTps, mApp, tupD, lstD, mRev, revD, ofs_inj, ee_ii, ee_ss, ee_bb, ee_nn, ee_is, ee_si, ee_in, ee_ni, ee_tt, ee_ll, ee_maps, ee_0, ee_1, ee_2, ee_3, at_lit, at_nat, at_m1, at_m2, scD, emD, sizeLine_eq, ixN, sm_lit, mSrc, itemsD, plOf, rng1D, bNm, mSl, mPt, mNoP, slD, mPar, keepT, tmsO, setA, mFlow, zipX, enumX, itemsX, intsOf, ints_all, boolsOf, shaped_lay, lay_int, lay_bool, lay_none, lay_dict, lay_tup, lay_list, lay_ints, sortX_ints, mPlF, mPlI, mRd, mPU, mPB, mFSet, mFNew, mNSet, mPApp, mPSetIx, mPPop, mMeth, mNew, isIns, cellO, mLstN, mAddN, mAppN, semX, mTold, mCallX, xRet, xExpr, xSet, mRaise, mM, isL, isS, mOrV, truD, mFor, forL, mLc, lcL, sameC, wipeC, restC, mYes, *])
local macro_rules | `(tactic| walk_at "rg") => `(tactic| (and_intros <;> grind))
local macro_rules | `(tactic| walk_at "nx") => `(tactic| (apply wx_nx; focus (walk_at "ev"; try first | exact ⟨rfl, rfl⟩ | rfl)))
local macro_rules | `(tactic| walk_at "ns") => `(tactic| (apply wx_nx; focus (walk_at "es"; try first | exact ⟨rfl, rfl⟩ | rfl)))
local macro_rules | `(tactic| walk_at "rt") => `(tactic| (apply wx_rt; focus (walk_at "ev"; try first | exact ⟨rfl, rfl⟩ | rfl)))
local macro_rules | `(tactic| walk_at "rs") => `(tactic| (apply wx_rt; focus (walk_at "es"; try first | exact ⟨rfl, rfl⟩ | rfl)))
local macro_rules | `(tactic| walk_at "ed") => `(tactic| simp [semF, shared, after, mSeq, mSkip, mIf, mRet, mRetN, mRetV, mSet, mSetIx, mExpr, mB, mU, mTm, mPl, mK, mVar, mOp, mCons, mNil, bor, bors, mTst, mAndT, mOrT, mNotT, mAndE, mOrE, mNotE, mIfE, mIsi, isiD, mChn, chnL, cmpD, binD, addD, subD, mulD, modD, fdivD, powD, eqD, neD, ltD, leD, gtD, geD, isD, isnD, L2.M.isNon, negD, ixD, Bf.f, Bg.f, lenD, L2.M.intD, maxD, minD, repD, strD, gmaxD, gminD, sumD, sortD, anyD, allD, mCall, frz, fzO, lend, wb, mTup, mLst, fzs, cD, mAsg, bTup, bTps, mApp, tupD, lstD, mRev, revD, ofs_inj, ee_ii, ee_ss, ee_bb, ee_nn, ee_is, ee_si, ee_in, ee_ni, ee_tt, ee_ll, ee_maps, ee_0, ee_1, ee_2, ee_3, at_lit, at_nat, at_m1, at_m2, scD, emD, sizeLine_eq, ixN, sm_lit, mSrc, itemsD, plOf, rng1D, bNm, mSl, mPt, mNoP, slD, mPar, keepT, tmsO, setA, mFlow, zipX, enumX, itemsX, intsOf, ints_all, boolsOf, shaped_lay, lay_int, lay_bool, lay_none, lay_dict, lay_tup, lay_list, lay_ints, sortX_ints, mPlF, mPlI, mRd, mPU, mPB, mFSet, mFNew, mNSet, mPApp, mPSetIx, mPPop, mMeth, mNew, isIns, cellO, mLstN, mAddN, mAppN, semX, mTold, mCallX, xRet, xExpr, xSet, mRaise, mM, isL, isS, mOrV, truD, mDNew, mDIn, mDGet, mDLen, mDPut, kyD, mNNew, mN1, mTake, mFnV, mCallF, mNIn, mNGet, mNPut, mNVals, mNList, nKs, mDGetD, mDList, mNNe, *])
def tl (ps : List Str) : Nat := (ps.map (·.length)).sum
theorem joinD_eq {a : Str} {ps : List Str} (h : tl ps + ps.length * a.length ≤ 16777216) : joinD [.str a, .list (ps.map .str)] = some (.sh (.str (Str.join a ps))) := by
  have e : joinOf a (ps.map .str) = some (.sh (.str (Str.join a ps))) := by
    unfold joinOf
    rw [strs_all]
    have h' : (ps.map (·.length)).sum + ps.length * a.length ≤ 16777216 := h
    simp only [if_pos h', join_eq]
  exact e
theorem cps_join0 : ∀ zs : List Str, cpsL (Str.join "" zs) = (zs.map cpsL).flatten
  | [] => rfl
  | [x] => by simp [Str.join]
  | x :: y :: r => by
    have ih := cps_join0 (y :: r)
    have e : Str.join "" (x :: y :: r) = x ++ "" ++ Str.join "" (y :: r) := rfl
    have e2 : cpsL ("" : Str) = [] := rfl
    rw [e, cps_app, cps_app, ih, e2, List.append_nil]
    rfl
end KW
namespace KW
open PySem PySem.Spec PyProof.Rows L2 L2.M
local macro_rules | `(tactic| walk_at "ev") => `(tactic| simp [semF, shared, after, mSeq, mSkip, mIf, mRet, mRetN, mRetV, mSet, mSetIx, mExpr, mB, mU, mTm, mPl, mK, mVar, mOp, mCons, mNil, bor, bors, mTst, mAndT, mOrT, mNotT, mAndE, mOrE, mNotE, mIfE, mIsi, isiD, mChn, chnL, cmpD, binD, addD, subD, mulD, modD, fdivD, powD, eqD, neD, ltD, leD, gtD, geD, isD, isnD, L2.M.isNon, negD, ixD, Bf.f, Bg.f, lenD, L2.M.intD, maxD, minD, repD, strD, gmaxD, gminD, sumD, sortD, anyD, allD, mCall, frz, fzO, lend, wb, mTup, mLst, fzs, cD, mAsg, bTup, bTps, mApp, tupD, lstD, mRev, revD, ofs_inj, ee_ii, ee_ss, ee_bb, ee_nn, ee_is, ee_si, ee_in, ee_ni, ee_tt, ee_ll, ee_maps, ee_0, ee_1, ee_2, ee_3, at_lit, at_nat, at_m1, at_m2, scD, emD, sizeLine_eq, ixN, sm_lit, mSrc, itemsD, plOf, rng1D, bNm, mSl, mPt, mNoP, slD, mPar, keepT, tmsO, setA, mFlow, zipX, enumX, itemsX, intsOf, ints_all, boolsOf, shaped_lay, lay_int, lay_bool, lay_none, lay_dict, lay_tup, lay_list, lay_ints, sortX_ints, mPlF, mPlI, mRd, mPU, mPB, mFSet, mFNew, mNSet, mPApp, mPSetIx, mPPop, mMeth, mNew, isIns, cellO, mLstN, mAddN, mAppN, semX, mTold, mCallX, xRet, xExpr, xSet, mRaise, mM, isL, isS, mOrV, truD])
local macro_rules | `(tactic| walk_at "es") => `(tactic| simp [semF, shared, after, mSeq, mSkip, mIf, mRet, mRetN, mRetV, mSet, mSetIx, mExpr, mB, mU, mTm, mPl, mK, mVar, mOp, mCons, mNil, bor, bors, mTst, mAndT, mOrT, mNotT, mAndE, mOrE, mNotE, mIfE, mIsi, isiD, mChn, chnL, cmpD, binD, addD, subD, mulD, modD, fdivD, powD, eqD, neD, ltD, leD, gtD, geD, isD, isnD, L2.M.isNon, negD, ixD, Bf.f, Bg.f, lenD, L2.M.intD, maxD, minD, repD, strD, gmaxD, gminD, sumD, sortD, anyD, allD, mCall, frz, fzO, lend, wb, mTup, mLst, fzs, cD, mAsg, bTup, bTps, mApp, tupD, lstD, mRev, revD, ofs_inj, ee_ii, ee_ss, ee_bb, ee_nn, ee_is, ee_si, ee_in, ee_ni, ee_tt, ee_ll, ee_maps, ee_0, ee_1, ee_2, ee_3, at_lit, at_nat, at_m1, at_m2, scD, emD, sizeLine_eq, ixN, sm_lit, mSrc, itemsD, plOf, rng1D, bNm, mSl, mPt, mNoP, slD, mPar, keepT, tmsO, setA, mFlow, zipX, enumX, itemsX, intsOf, ints_all, boolsOf, shaped_lay, lay_int, lay_bool, lay_none, lay_dict, lay_tup, lay_list, lay_ints, sortX_ints, mPlF, mPlI, mRd, mPU, mPB, mFSet, mFNew, mNSet, mPApp, mPSetIx, mPPop, mMeth, mNew, isIns, cellO, mLstN, mAddN, mAppN, semX, mTold, mCallX, xRet, xExpr, xSet, mRaise, mM, isL, isS, mOrV, truD, *])
local macro_rules | `(tactic| walk_at "el") => `(tactic| simp [semF, shared, after, mSeq, mSkip, mIf, mRet, mRetN, mRetV, mSet, mSetIx, mExpr, mB, mU, mTm, mPl, mK, mVar, mOp, mCons, mNil, bor, bors, mTst, mAndT, mOrT, mNotT, mAndE, mOrE, mNotE, mIfE, mIsi, isiD, mChn, chnL, cmpD, binD, addD, subD, mulD, modD, fdivD, powD, eqD, neD, ltD, leD, gtD, geD, isD, isnD, L2.M.isNon, negD, ixD, Bf.f, Bg.f, lenD, L2.M.intD, maxD, minD, repD, strD, gmaxD, gminD, sumD, sortD, anyD, allD, mCall, frz, fzO, lend, wb, mTup, mLst, fzs, cD, mAsg, bTup, bTps, mApp, tupD, lstD, mRev, revD, ofs_inj, ee_ii, ee_ss, ee_bb, ee_nn, ee_is, ee_si, ee_in, ee_ni, ee_tt, ee_ll, ee_maps, ee_0, ee_1, ee_2, ee_3, at_lit, at_nat, at_m1, at_m2, scD, emD, sizeLine_eq, ixN, sm_lit, mSrc, itemsD, plOf, rng1D, bNm, mSl, mPt, mNoP, slD, mPar, keepT, tmsO, setA, mFlow, zipX, enumX, itemsX, intsOf, ints_all, boolsOf, shaped_lay, lay_int, lay_bool, lay_none, lay_dict, lay_tup, lay_list, lay_ints, sortX_ints, mPlF, mPlI, mRd, mPU, mPB, mFSet, mFNew, mNSet, mPApp, mPSetIx, mPPop, mMeth, mNew, isIns, cellO, mLstN, mAddN, mAppN, semX, mTold, mCallX, xRet, xExpr, xSet, mRaise, mM, isL, isS, mOrV, truD, mLc, lcL, sameC, wipeC, restC, mYes, *])
local macro_rules | `(tactic| walk_at "ef") => `(tactic| simp [semF, shared, after, mSeq, mSkip, mIf, mRet, mRetN, mRetV, mSet, mSetIx, mExpr, mB, mU, mTm, mPl, mK, mVar, mOp, mCons, mNil, bor, bors, mTst, mAndT, mOrT, mNotT, mAndE, mOrE, mNotE, mIfE, mIsi, isiD, mChn, chnL, cmpD, binD, addD, subD, mulD, modD, fdivD, powD, eqD, neD, ltD, leD, gtD, geD, isD, isnD, L2.M.isNon, negD, ixD, Bf.f, Bg.f, lenD, L2.M.intD, maxD, minD, repD, strD, gmaxD, gminD, sumD, sortD, anyD, allD, mCall, frz, fzO, lend, wb, mTup, mLst, fzs, cD, mAsg, bTup, bTps, mApp, tupD, lstD, mRev, revD, ofs_inj, ee_ii, ee_ss, ee_bb, ee_nn, ee_is, ee_si, ee_in, ee_ni, ee_tt, ee_ll, ee_maps, ee_0, ee_1, ee_2, ee_3, at_lit, at_nat, at_m1, at_m2, scD, emD, sizeLine_eq, ixN, sm_lit, mSrc, itemsD, plOf, rng1D, bNm, mSl, mPt, mNoP, slD, mPar, keepT, tmsO, setA, mFlow, zipX, enumX, itemsX, intsOf, ints_all, boolsOf, shaped_lay, lay_int, lay_bool, lay_none, lay_dict, lay_tup, lay_list, lay_ints, sortX_ints, mPlF, mPlI, mRd, mPU, mPB, mFSet, mFNew, mNSet, mPApp, mPSetIx, mPPop, mMeth, mNew, isIns, cellO, mLstN, mAddN, mAppN, semX, mTold, mCallX, xRet, xExpr, xSet, mRaise, mM, isL, isS, mOrV, truD, mFor, forL, mLc, lcL, sameC, wipeC, restC, mYes, *])
local macro_rules | `(tactic| walk_at "rg") => `(tactic| (and_intros <;> grind))
local macro_rules | `(tactic| walk_at "nx") => `(tactic| (apply wx_nx; focus (walk_at "ev"; try first | exact ⟨rfl, rfl⟩ | rfl)))
local macro_rules | `(tactic| walk_at "ns") => `(tactic| (apply wx_nx; focus (walk_at "es"; try first | exact ⟨rfl, rfl⟩ | rfl)))
local macro_rules | `(tactic| walk_at "rt") => `(tactic| (apply wx_rt; focus (walk_at "ev"; try first | exact ⟨rfl, rfl⟩ | rfl)))
local macro_rules | `(tactic| walk_at "rs") => `(tactic| (apply wx_rt; focus (walk_at "es"; try first | exact ⟨rfl, rfl⟩ | rfl)))
local macro_rules | `(tactic| walk_at "ed") => `(tactic| simp [semF, shared, after, mSeq, mSkip, mIf, mRet, mRetN, mRetV, mSet, mSetIx, mExpr, mB, mU, mTm, mPl, mK, mVar, mOp, mCons, mNil, bor, bors, mTst, mAndT, mOrT, mNotT, mAndE, mOrE, mNotE, mIfE, mIsi, isiD, mChn, chnL, cmpD, binD, addD, subD, mulD, modD, fdivD, powD, eqD, neD, ltD, leD, gtD, geD, isD, isnD, L2.M.isNon, negD, ixD, Bf.f, Bg.f, lenD, L2.M.intD, maxD, minD, repD, strD, gmaxD, gminD, sumD, sortD, anyD, allD, mCall, frz, fzO, lend, wb, mTup, mLst, fzs, cD, mAsg, bTup, bTps, mApp, tupD, lstD, mRev, revD, ofs_inj, ee_ii, ee_ss, ee_bb, ee_nn, ee_is, ee_si, ee_in, ee_ni, ee_tt, ee_ll, ee_maps, ee_0, ee_1, ee_2, ee_3, at_lit, at_nat, at_m1, at_m2, scD, emD, sizeLine_eq, ixN, sm_lit, mSrc, itemsD, plOf, rng1D, bNm, mSl, mPt, mNoP, slD, mPar, keepT, tmsO, setA, mFlow, zipX, enumX, itemsX, intsOf, ints_all, boolsOf, shaped_lay, lay_int, lay_bool, lay_none, lay_dict, lay_tup, lay_list, lay_ints, sortX_ints, mPlF, mPlI, mRd, mPU, mPB, mFSet, mFNew, mNSet, mPApp, mPSetIx, mPPop, mMeth, mNew, isIns, cellO, mLstN, mAddN, mAppN, semX, mTold, mCallX, xRet, xExpr, xSet, mRaise, mM, isL, isS, mOrV, truD, mDNew, mDIn, mDGet, mDLen, mDPut, kyD, mNNew, mN1, mTake, mFnV, mCallF, mNIn, mNGet, mNPut, mNVals, mNList, nKs, mDGetD, mDList, mNNe, *])
theorem lw_2 {sc c1 c6 c7 c8 c9 c10 : C} {P P2 P3 P4 : List PyData} {Z W V : PyData} (f1 : g_law_purse [.ls P] = some (.sh Z, [.ls P2])) (f2 : g_law_small [.ls P2, .sh (.int 40)] = some (.sh W, [.ls P3, .sh (.int 40)])) (f3 : g_law_small [.ls P3, .sh (.int 40)] = some (.sh V, [.ls P4, .sh (.int 40)])) (c3 c4 c5 : C) (h3 : ∃ d, c3 = .sh d ∨ c3 = .no) (h4 : ∃ d, c4 = .sh d ∨ c4 = .no) (h5 : ∃ d, c5 = .sh d ∨ c5 = .no) : (mPar [] [3, 4, 5] (mCons (mTm (mCall [true] g_law_purse (mCons (mPl 2) (mNil)))) (mCons (mTm (mCall [true, true] g_law_small (mCons (mPl 2) (mCons (mTm (mK (.int 40))) (mNil))))) (mCons (mTm (mCall [true, true] g_law_small (mCons (mPl 2) (mCons (mTm (mK (.int 40))) (mNil))))) (mNil))))) [sc, c1, .ls P, c3, c4, c5, c6, c7, c8, c9, c10] = some (.nx, [sc, c1, .ls P4, .sh Z, .sh W, .sh V, c6, c7, c8, c9, c10]) := by
  generalize g_law_small = G1 at *
  generalize g_law_purse = G2 at *
  obtain ⟨d3, rfl | rfl⟩ := h3 <;> obtain ⟨d4, rfl | rfl⟩ := h4 <;> obtain ⟨d5, rfl | rfl⟩ := h5 <;> walk_at "es"
theorem lw_4 {sc c1 c3 c4 c5 c7 c10 : C} {P P2 P3 : List PyData} {T : Str} {n a m : Int} (hl : T.length ≤ 16777216) (hn : (T.length : Int) + 1 = n) (f1 : g_law_draw [.ls P, .sh (.int n)] = some (.sh (.int a), [.ls P2, .sh (.int n)])) (f2 : g_law_draw [.ls P2, .sh (.int 40)] = some (.sh (.int m), [.ls P3, .sh (.int 40)])) (c8 c9 : C) {d8 d9 : PyData} (h8 : c8 = .sh d8 ∨ c8 = .no) (h9 : c9 = .sh d9 ∨ c9 = .no) : (mPar [] [8, 9] (mCons (mTm (mCall [true, true] g_law_draw (mCons (mPl 2) (mCons (mTm (mB (binD .Add) (mTm (mOp (Bf.f .len) (mCons (mPl 6) (mNil)))) (mTm (mK (.int 1))))) (mNil))))) (mCons (mTm (mCall [true, true] g_law_draw (mCons (mPl 2) (mCons (mTm (mK (.int 40))) (mNil))))) (mNil)))) [sc, c1, .ls P, c3, c4, c5, .sh (.str T), c7, c8, c9, c10] = some (.nx, [sc, c1, .ls P3, c3, c4, c5, .sh (.str T), c7, .sh (.int a), .sh (.int m), c10]) := by
  subst hn
  generalize g_law_draw = G at *
  rcases h8 with rfl | rfl <;> rcases h9 with rfl | rfl <;> walk_at "es"
theorem lw_5 {sc c1 c2 c3 c4 c5 c7 : C} {Z T : PyData} {a m : Int} (e1 : g_law_row_right [.sh Z, .sh T, .sh (.int a)] = some (.sh (.bool true), [.sh Z, .sh T, .sh (.int a)])) (e2 : g_law_most_right [.sh Z, .sh (.int m)] = some (.sh (.bool true), [.sh Z, .sh (.int m)])) : (mIf (mOrT (mNotT (mTst (mCall [true, true, true] g_law_row_right (mCons (mPl 10) (mCons (mPl 6) (mCons (mPl 8) (mNil))))))) (mNotT (mTst (mCall [true, true] g_law_most_right (mCons (mPl 10) (mCons (mPl 9) (mNil))))))) (mSeq (mRet (mK (.bool false))) (mSkip)) (mSkip)) [sc, c1, c2, c3, c4, c5, .sh T, c7, .sh (.int a), .sh (.int m), .sh Z] = some (.nx, [sc, c1, c2, c3, c4, c5, .sh T, c7, .sh (.int a), .sh (.int m), .sh Z]) := by
  generalize g_law_row_right = G1 at *
  generalize g_law_most_right = G2 at *
  walk_at "es"
theorem lw_6 {sc c1 c2 c3 c7 c8 c9 c10 : C} {W W0 V T : PyData} (e1 : g_law_two_right [.sh W, .sh V, .sh T] = some (.sh (.bool true), [.sh W, .sh V, .sh T])) (e0 : g_later [.sh W, .sh (.int 0)] = some (.sh W0, [.sh W, .sh (.int 0)])) (e2 : g_law_two_right [.sh W, .sh W0, .sh T] = some (.sh (.bool true), [.sh W, .sh W0, .sh T])) : (mIf (mOrT (mNotT (mTst (mCall [true, true, true] g_law_two_right (mCons (mPl 4) (mCons (mPl 5) (mCons (mPl 6) (mNil))))))) (mNotT (mTst (mCall [true, true, true] g_law_two_right (mCons (mPl 4) (mCons (mTm (mCall [true, true] g_later (mCons (mPl 4) (mCons (mTm (mK (.int 0))) (mNil))))) (mCons (mPl 6) (mNil)))))))) (mSeq (mRet (mK (.bool false))) (mSkip)) (mSkip)) [sc, c1, c2, c3, .sh W, .sh V, .sh T, c7, c8, c9, c10] = some (.nx, [sc, c1, c2, c3, .sh W, .sh V, .sh T, c7, c8, c9, c10]) := by
  generalize g_law_two_right = G1 at *
  generalize g_later = G2 at *
  walk_at "es"
theorem lw_7 {sc c1 c2 c3 c5 c6 c7 c8 c9 c10 : C} {W : PyData} (e : g_parted_by [.sh W, .sh W] = some (.sh .none, [.sh W, .sh W])) : (mIf (mTst (mB (cmpD .IsNot) (mTm (mCall [true, true] g_parted_by (mCons (mPl 4) (mCons (mPl 4) (mNil))))) (mTm (mK .none)))) (mSeq (mRet (mK (.bool false))) (mSkip)) (mSkip)) [sc, c1, c2, c3, .sh W, c5, c6, c7, c8, c9, c10] = some (.nx, [sc, c1, c2, c3, .sh W, c5, c6, c7, c8, c9, c10]) := by
  generalize g_parted_by = G1 at *
  walk_at "es"
theorem ix_ak (g : Bool) : ixD (.str "ak") (.int (if g then 0 else 1)) = some (.sh (.str (sgT g))) := by cases g <;> rfl
theorem lw_e {sc c1 c3 c4 c5 c6 c7 c8 c9 c10 : C} {P P2 : List PyData} {v : Int} {d : PyData} (f : g_law_draw [.ls P, .sh (.int 2)] = some (.sh (.int v), [.ls P2, .sh (.int 2)])) (h : ixD (.str "ak") (.int v) = some (.sh d)) : (mB ixD (mTm (mK (.str "ak"))) (mTm (mCall [true, true] g_law_draw (mCons (mPl 2) (mCons (mTm (mK (.int 2))) (mNil)))))) [sc, c1, .ls P, c3, c4, c5, c6, c7, c8, c9, c10] = some (.sh d, [sc, c1, .ls P2, c3, c4, c5, c6, c7, c8, c9, c10]) := by
  generalize g_law_draw = G at *
  generalize ixD = I at *
  walk_at "es"
theorem lw_s {sc c1 c3 c4 c5 c6 c7 c8 c9 c10 : C} {P P2 : List PyData} {n : Int} (f : g_law_draw [.ls P, .sh (.int 101)] = some (.sh (.int n), [.ls P2, .sh (.int 101)])) (h0 : 0 ≤ n) (h1 : n ≤ 1000) : (mSrc rng1D (mCons (mTm (mCall [true, true] g_law_draw (mCons (mPl 2) (mCons (mTm (mK (.int 101))) (mNil))))) (mNil))) [sc, c1, .ls P, c3, c4, c5, c6, c7, c8, c9, c10] = some ((rangeD 0 1 n.toNat, []), [sc, c1, .ls P2, c3, c4, c5, c6, c7, c8, c9, c10]) := by
  have h4 : rng1D [.int n] = some (rangeD 0 1 n.toNat) := rng_nat0 n (by omega) ⟨by omega, by omega⟩
  refine src_f (d := .int n) ?_ h4
  clear h4 h0 h1
  generalize g_law_draw = G at *
  walk_at "es"
theorem row_lc (p : Pn) (sc c1 c3 c4 c5 c6 c8 c9 c10 : C) : ∃ (bs : List Bool) (q : Pn), bs.length ≤ 100 ∧ (mLc (mSrc rng1D (mCons (mTm (mCall [true, true] g_law_draw (mCons (mPl 2) (mCons (mTm (mK (.int 101))) (mNil))))) (mNil))) (bNm 7) (mYes) (mB ixD (mTm (mK (.str "ak"))) (mTm (mCall [true, true] g_law_draw (mCons (mPl 2) (mCons (mTm (mK (.int 2))) (mNil)))))) [7]) [sc, c1, .ls (penL p), c3, c4, c5, c6, .no, c8, c9, c10] = some (.ls (bs.map fun g => .str (sgT g)), [sc, c1, .ls (penL q), c3, c4, c5, c6, .no, c8, c9, c10]) := by
  have d1 := draw_eq p 101 (by decide) ⟨by decide, by decide⟩
  have v1 := dr_ab p 101 (by decide)
  have hs := lw_s (sc := sc) (c1 := c1) (c3 := c3) (c4 := c4) (c5 := c5) (c6 := c6) (c7 := .no) (c8 := c8) (c9 := c9) (c10 := c10) d1 v1.1 (by omega)
  generalize dr p 101 = n at *
  generalize dn p 101 = p1 at *
  have hl : (rangeD 0 1 n.toNat).length = n.toNat := by simp [rangeD]
  obtain ⟨out, ε2, e, bs, q, rfl, hlen, rfl⟩ := lc_rule (elt := (mB ixD (mTm (mK (.str "ak"))) (mTm (mCall [true, true] g_law_draw (mCons (mPl 2) (mCons (mTm (mK (.int 2))) (mNil))))))) (bind := bNm 7) (tests := mYes) (own := [7]) (fun i out ε2 => ∃ (bs : List Bool) (q : Pn), out = bs.map (fun g => PyData.str (sgT g)) ∧ bs.length = i ∧ ε2 = [sc, c1, .ls (penL q), c3, c4, c5, c6, .no, c8, c9, c10]) hs rfl ⟨[], p1, rfl, rfl, rfl⟩ (fun _ _ _ _ j hj => by cases hj) (by rw [hl, sizeLine_eq]; omega) (by
    rintro i d out ε2 hd ⟨bs, q, rfl, hlen, rfl⟩
    have d2 := draw_eq q 2 (by decide) ⟨by decide, by decide⟩
    have v2 := dr_ab q 2 (by decide)
    obtain ⟨g, hg⟩ : ∃ g : Bool, dr q 2 = if g then 0 else 1 := by
      by_cases z : dr q 2 = 0
      · exact ⟨true, z⟩
      · exact ⟨false, by show _ = (1 : Int); omega⟩
    have ix := ix_ak g
    rw [← hg] at ix
    refine ⟨[sc, c1, .ls (penL q), c3, c4, c5, c6, .sh d, c8, c9, c10], true, _, rfl, rfl, fun h => (by cases h), fun _ => ⟨.sh (.str (sgT g)), .str (sgT g), [sc, c1, .ls (penL (dn q 2)), c3, c4, c5, c6, .sh d, c8, c9, c10], lw_e d2 ix, rfl, bs ++ [g], dn q 2, by simp, by simp [hlen], rfl⟩⟩)
  exact ⟨bs, q, by omega, e⟩
theorem lw_3 {sc c1 c3 c4 c5 c6 c8 c9 c10 : C} {P P2 L : List PyData} {T : Str} (k : (mLc (mSrc rng1D (mCons (mTm (mCall [true, true] g_law_draw (mCons (mPl 2) (mCons (mTm (mK (.int 101))) (mNil))))) (mNil))) (bNm 7) (mYes) (mB ixD (mTm (mK (.str "ak"))) (mTm (mCall [true, true] g_law_draw (mCons (mPl 2) (mCons (mTm (mK (.int 2))) (mNil)))))) [7]) [sc, c1, .ls P, c3, c4, c5, c6, .no, c8, c9, c10] = some (.ls L, [sc, c1, .ls P2, c3, c4, c5, c6, .no, c8, c9, c10])) (e : joinD [.str "", .list L] = some (.sh (.str T))) (h6 : c6 = .no ∨ ∃ d, c6 = .sh d) : (mSet [] 6 (mM joinD isS (mTm (mK (.str ""))) (mCons (mTm (mLc (mSrc rng1D (mCons (mTm (mCall [true, true] g_law_draw (mCons (mPl 2) (mCons (mTm (mK (.int 101))) (mNil))))) (mNil))) (bNm 7) (mYes) (mB ixD (mTm (mK (.str "ak"))) (mTm (mCall [true, true] g_law_draw (mCons (mPl 2) (mCons (mTm (mK (.int 2))) (mNil)))))) [7])) (mNil)))) [sc, c1, .ls P, c3, c4, c5, c6, .no, c8, c9, c10] = some (.nx, [sc, c1, .ls P2, c3, c4, c5, .sh (.str T), .no, c8, c9, c10]) := by
  generalize mLc _ _ _ _ _ = ML at *
  generalize joinD = J at *
  rcases h6 with rfl | ⟨d, rfl⟩ <;> walk_at "es"
theorem row_join (bs : List Bool) (hl : bs.length ≤ 100) : ∃ T : Str, cpsL T = bs.map sgn ∧ joinD [.str "", .list (bs.map fun g => .str (sgT g))] = some (.sh (.str T)) := by
  have h0 : ∀ bs : List Bool, tl (bs.map sgT) = bs.length := by
    intro bs
    induction bs with
    | nil => rfl
    | cons g bs ih =>
      have := sgT_l g
      simp only [tl, List.map_cons, List.sum_cons, List.length_cons] at ih ⊢
      omega
  have e := joinD_eq (a := "") (ps := bs.map sgT) (by
    rw [h0, List.length_map]
    have : ("" : Str).length = 0 := rfl
    rw [this]
    omega)
  rw [List.map_map] at e
  refine ⟨Str.join "" (bs.map sgT), ?_, e⟩
  rw [cps_join0, List.map_map]
  clear e hl
  induction bs with
  | nil => rfl
  | cons g bs ih =>
    rw [List.map_cons, List.flatten_cons, ih, List.map_cons]
    show cpsL (sgT g) ++ _ = _
    rw [sgT_cps]
    rfl
theorem same_none {z : Pz} (h : z.Ok) (c : z.c ≤ 60) : g_parted_by [.sh z.d, .sh z.d] = some (.sh .none, [.sh z.d, .sh z.d]) := by
  obtain ⟨R, h, e⟩ := parted_eq h h c c
  rcases h with ⟨rfl, _⟩ | ⟨w, T, _, _, hm, _, rfl⟩
  · exact e
  · simp at hm
theorem law_true (ns : List Int) (hl : ns.length ≤ 63) : ∃ cs', semF [false] 11 m_law [.sh (.list (ns.map PyData.int))] = some (.sh (.bool true), cs') := by
  have main : Rt (semF [false] 11 m_law [.sh (.list (ns.map PyData.int))]) fun c _ => c = .sh (.bool true) := by
    unfold m_law
    apply rt_sem rfl
    apply wx_seq
    apply wx_each (ds := (PyData.int (ns.getD 0 0)) :: (L2.M.cutL ns (some 1) (some 4)).map PyData.int) (ε1 := [.sh (.list (ns.map PyData.int)), .no, .no, .no, .no, .no, .no, .no, .no, .no, .no]) fun ε => ∃ c1 c2 c3 c4 c5 c6 c8 c9 c10, (∃ d, c3 = .sh d ∨ c3 = .no) ∧ (∃ d, c4 = .sh d ∨ c4 = .no) ∧ (∃ d, c5 = .sh d ∨ c5 = .no) ∧ (c6 = .no ∨ ∃ d, c6 = .sh d) ∧ (∃ d, c8 = .sh d ∨ c8 = .no) ∧ (∃ d, c9 = .sh d ∨ c9 = .no) ∧ ε = [.sh (.list (ns.map PyData.int)), c1, c2, c3, c4, c5, c6, .no, c8, c9, c10]
    · have hz := cut_len ns (some 1) (some 4)
      have h6 : 1 + (L2.M.cutL ns (some 1) (some 4)).length ≤ 16777216 := by omega
      have h7 : (L2.M.cutL ns (some 1) (some 4)).length + 1 ≤ 16777216 := by omega
      have h8 : (L2.M.cutL ns (some 1) (some 4)).length ≤ 16777215 := by omega
      have h9 := @cut_map
      walk_at "es"
    · exact ⟨_, _, _, _, _, _, _, _, _, ⟨.none, .inr rfl⟩, ⟨.none, .inr rfl⟩, ⟨.none, .inr rfl⟩, .inl rfl, ⟨.none, .inr rfl⟩, ⟨.none, .inr rfl⟩, rfl⟩
    · rintro d ε hd ⟨c1, c2, c3, c4, c5, c6, c8, c9, c10, h3, h4, h5, h6, h8, h9, rfl⟩
      obtain ⟨x, rfl⟩ := cells_int ns 4 d hd
      clear hd hl
      generalize hsc : C.sh (PyData.list (ns.map PyData.int)) = sc
      clear hsc
      refine ⟨_, rfl, ?_⟩
      walk_at "nx"
      obtain ⟨_, _, e1, z, q1, hz, rfl, rfl⟩ := law_purse_eq (pnOf x)
      obtain ⟨_, _, e2, w, q2, hw, hw1, _, _, rfl, rfl⟩ := law_small_eq q1 (m := 40) (by decide)
      obtain ⟨_, _, e3, v, q3, hv, hv1, _, _, rfl, rfl⟩ := law_small_eq q2 (m := 40) (by decide)
      apply wx_nx (lw_2 e1 e2 e3 c3 c4 c5 h3 h4 h5)
      clear e1 e2 e3 h3 h4 h5
      obtain ⟨bs, q4, hbl, k⟩ := row_lc q3 sc (.sh (.int x)) (.sh z.d) (.sh w.d) (.sh v.d) c6 c8 c9 c10
      obtain ⟨T, hT, ej⟩ := row_join bs hbl
      apply wx_nx (lw_3 k ej h6)
      clear k ej
      have hTl := len_map hT
      have d1 := draw_eq q4 ((T.length : Int) + 1) (by omega) ⟨by omega, by omega⟩
      have v1 := dr_ab q4 ((T.length : Int) + 1) (by omega)
      have d2 := draw_eq (dn q4 ((T.length : Int) + 1)) 40 (by decide) ⟨by decide, by decide⟩
      have v2 := dr_ab (dn q4 ((T.length : Int) + 1)) 40 (by decide)
      obtain ⟨dd8, hd8⟩ := h8
      obtain ⟨dd9, hd9⟩ := h9
      apply wx_nx (lw_4 (by omega) rfl d1 d2 c8 c9 hd8 hd9)
      generalize dn (dn q4 ((T.length : Int) + 1)) 40 = q5 at *
      generalize dr (dn q4 ((T.length : Int) + 1)) 40 = m at *
      generalize dr q4 ((T.length : Int) + 1) = a at *
      obtain ⟨A, rfl⟩ : ∃ A : Nat, a = (A : Int) := ⟨a.toNat, by omega⟩
      obtain ⟨M, rfl⟩ : ∃ M : Nat, m = (M : Int) := ⟨m.toNat, by omega⟩
      clear d1 d2 hd8 hd9
      apply wx_seq
      apply wx_each (ds := [z.d, w.d, v.d]) (ε1 := [sc, .sh (.int x), .ls (penL q5), .sh z.d, .sh w.d, .sh v.d, .sh (.str T), .no, .sh (.int (A : Int)), .sh (.int (M : Int)), c10]) fun ε => ∃ c10, ε = [sc, .sh (.int x), .ls (penL q5), .sh z.d, .sh w.d, .sh v.d, .sh (.str T), .no, .sh (.int (A : Int)), .sh (.int (M : Int)), c10]
      · generalize z.d = Z
        generalize w.d = W
        generalize v.d = V
        generalize (A : Int) = n
        generalize (M : Int) = m
        clear hT
        walk_at "ev"
      · exact ⟨_, rfl⟩
      · rintro d ε hd ⟨c10, rfl⟩
        refine ⟨[sc, .sh (.int x), .ls (penL q5), .sh z.d, .sh w.d, .sh v.d, .sh (.str T), .no, .sh (.int (A : Int)), .sh (.int (M : Int)), .sh d], rfl, ?_⟩
        simp only [List.mem_cons, List.not_mem_nil, or_false] at hd
        rcases hd with rfl | rfl | rfl
        · apply wx_nx (lw_5 (row_right_eq hz hT hbl (a := A) (by omega)) (most_right_eq hz (M := M) (by omega)))
          exact wx_skip ⟨_, rfl⟩
        · apply wx_nx (lw_5 (row_right_eq hw hT hbl (a := A) (by omega)) (most_right_eq hw (M := M) (by omega)))
          exact wx_skip ⟨_, rfl⟩
        · apply wx_nx (lw_5 (row_right_eq hv hT hbl (a := A) (by omega)) (most_right_eq hv (M := M) (by omega)))
          exact wx_skip ⟨_, rfl⟩
      · rintro ε ⟨c10, rfl⟩
        have wb : 0 ≤ (0 : Int) ∧ (0 : Int) ≤ w.c := ⟨by decide, by have := hw.f0; have := hw.f1; omega⟩
        apply wx_nx (lw_6 (two_right_eq hw hv (by omega) (by omega) hT (by omega)) (later_eq wb) (two_right_eq hw (at_ok hw wb) (by omega) (by show w.c ≤ 60; omega) hT (by omega)))
        apply wx_nx (lw_7 (same_none hw (by omega)))
        exact wx_skip ⟨_, _, _, _, _, _, _, _, _, ⟨_, .inl rfl⟩, ⟨_, .inl rfl⟩, ⟨_, .inl rfl⟩, .inr ⟨_, rfl⟩, ⟨_, .inl rfl⟩, ⟨_, .inl rfl⟩, rfl⟩
    rintro ε ⟨c1, c2, c3, c4, c5, c6, c8, c9, c10, _, _, _, _, _, _, rfl⟩
    apply wx_rt
    · walk_at "ev"
      exact ⟨rfl, rfl⟩
    exact rfl
  obtain ⟨c, cs, e, rfl⟩ := main
  exact ⟨cs, e⟩
end KW
namespace KW
open PySem PySem.Spec PyProof.Rows L2 L2.M
abbrev R : PySem.W.OpenRow := PySem.W.OpenLaw.row PySem.Challenge.rw_knockpurse_k38_whole_purses
abbrev hk : PySem.W.Hook := He.hookD 4 fa fn
def ob (s : PySem.W.SharedT) : He.AlD := He.obsDG 4 fa fn (HandSHeadRun.getT s)
theorem ob_eq (s : PySem.W.SharedT) : ob s = hk.obs s.abs := He.obsDG_eq (HandSHeadRun.getT_eq s)
theorem run (w : World) : HandSHeadRun.RunEq R (PySem.W.view R.prog [43]) hk ob 3040 ((["is_whole", "purse_good", "put_in", "walked", "check_row", "coins_behind", "paid_in", "unpaid_at", "is_long", "far_behind", "paid_turns", "most_paid", "best_row", "most_between", "knocked", "is_row", "parts", "row_back", "parted_by", "later", "_law_cell_at", "_law_next", "_law_pen_of", "_law_draw", "_law_purse"] : List PySem.Str) ++ (["_law_small", "_law_row_right", "_law_most_right", "_law_two_right", "MOST_PART", "MOST_CAP", "MOST_DEEDS", "MOST_TUPLES", "FAR", "MOST_PARTED", "KnockError", "NoStep", "NoNumber", "TooGreat"] : List PySem.Str)) w := by
  intro os
  kernel_rfl
end KW
open PySem PySem.W PySem.Calls PyProof.Rows
theorem PySem.Challenge.cw_knockpurse_k38_whole_purses_holds : PySem.Challenge.rw_knockpurse_k38_whole_purses.Holds := by
  w_on; o_law
  refine HandSHeadRun.head_any (r := OpenLaw.row PySem.Challenge.rw_knockpurse_k38_whole_purses) (q := view (OpenLaw.row PySem.Challenge.rw_knockpurse_k38_whole_purses).prog [43]) (H := KW.hk) (ob := KW.ob) (M := 3040) (loose := ((["is_whole", "purse_good", "put_in", "walked", "check_row", "coins_behind", "paid_in", "unpaid_at", "is_long", "far_behind", "paid_turns", "most_paid", "best_row", "most_between", "knocked", "is_row", "parts", "row_back", "parted_by", "later", "_law_cell_at", "_law_next", "_law_pen_of", "_law_draw", "_law_purse"] : List PySem.Str) ++ (["_law_small", "_law_row_right", "_law_most_right", "_law_two_right", "MOST_PART", "MOST_CAP", "MOST_DEEDS", "MOST_TUPLES", "FAR", "MOST_PARTED", "KnockError", "NoStep", "NoNumber", "TooGreat"] : List PySem.Str))) (d := HandSHeadRun.topDef (OpenLaw.row PySem.Challenge.rw_knockpurse_k38_whole_purses).prog 43) (kwd := []) KW.ob_eq
    (by kernel_rfl) (fun s => by kernel_rfl) KW.run (by kernel_rfl) (by kernel_rfl) (by kernel_rfl) (by rfl) (by first | assumption | decide +kernel) (by decide +kernel) ⟨rfl, rfl, rfl, rfl, rfl, by decide +kernel⟩ ?hw ?hc
  case hw => w_witness2
  case hc =>
    refine L2.M.walkG (l := PySem.Challenge.rw_knockpurse_k38_whole_purses) (n := 63) (k := 6) (x := "_law_script") rfl (by decide) (by kernel_rfl) ⟨⟨rfl, by decide, by decide⟩, rfl⟩ ?F
    intro w mg fa h Y G hmg0
    obtain ⟨K, KX, c⟩ := Y
    have hmg : mg ("law" : PySem.Str) = some (.ref fa) := by
      have e : (HandSHeadRun.topDef (OpenLaw.row PySem.Challenge.rw_knockpurse_k38_whole_purses).prog 43).name = ("law" : PySem.Str) := by kernel_rfl
      rw [← e]
      exact hmg0
    obtain ⟨fd, hb, hF⟩ := L2.M.topG (P := (PySem.Challenge.rw_knockpurse_k38_whole_purses).prog) (w := w) ⟨h, KX, G, c⟩ 29 29 (k := 5) (m := KW.m_law) rfl rfl rfl KW.pl_law KW.sc_law hmg (fun base => KW.bd_law ⟨h, KX, G, c⟩)
    exact ⟨K, fd, _, KX, hb, fun H a ns hl O hS => L2.M.sp_law O hS (KW.law_true ns hl), hF⟩
