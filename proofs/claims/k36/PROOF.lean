import PyProof.Rows.All
import Wide.All
import OpenK.AllK
import Wide.FinOn
import KE.KStateDown
import HandS.Base
import HandS.Call
import HandS.Ends
import HandS.More
import HandS.Words
import HandS.WordsExc
import HandS.Defaults
import HandS.Head0
import HandS.Head1
import HandS.Head2
import HandS.HeadEnd
import HandS.HeadHook1
import HandS.HeadHook2
import HandS.ForMost
import HandS.IsInst
import KE.KDictKeyed
import HandS.TupAny
import HandS.TupMul
import HandS.Style
import HandS.Wide
import HandS.Deep
import HandS.SortInts
import HandS.RaiseMore
import HandS.WideBits
import KE.KEqNest
import HandS.Walk
import HandS.ExcCtx
import HandS.Dict
import HandS.Zip
import KE.GoesEnum
import KE.KSortTupG
import HandS.TupSets
import HandS.Conv
import HandS.TryOnly
import HandS.Small
import HandS.ExcIs
import HandS.ExcField
import HandS.HotCalls
import HandS.ExcInit
import HandS.Flow
import HandS.SetFor
import HandS.Rev
import HandS.WordsDict
import HandS.Iter
import KE.KDictLaw
import KE.KDictCopyH
import KE.KDictDisplayH
import KE.DataCmp
import KE.DataMinMax
import KE.SortData
import KE.KDictPairs
import HandS.Text
import HandS.Steps
import HandS.Replace
import HandS.ReplaceLit
import HandS.ReplaceDef
import KE.KEqDict
import PyProof.SeqIndex
import HandS.DeepEq
import PyProof.NeKinds
import KE.KDictList
import Flt.Ops
import PyProof.ListStr
import KE.KIntText
import PySem.Challenge.RW_knockpurse_k36_rows_that_part_purses
set_option Elab.async false
set_option linter.all false
set_option maxRecDepth 100000
set_option maxHeartbeats 0
namespace L2.M
open PySem PySem.Spec PyProof.Rows
abbrev D := PyData
def keyD : Key → D
  | .inl i => .int i
  | .inr x => .str x
/-- a tuple, known to have no dict of its own -/
def HdT (F : Hp) (a : Addr) (xs : List V) : Prop := ∃ o : Obj, o.dict = none ∧ F a = some (.frz o (.tup xs))
theorem HdT.sq {K : PySem.W.Frag} {F : Hp} {a : Addr} {xs : List V} (h : HdT F a xs) : SqT K F a xs := by
  obtain ⟨o, _, h⟩ := h
  exact .inl (.inr ⟨o, h⟩)
theorem HdT.mono {F F' : Hp} {a : Addr} {xs : List V} (e : Same F F') (h : HdT F a xs) : HdT F' a xs := by
  obtain ⟨o, h1, h⟩ := h
  exact ⟨o, h1, e _ _ h⟩
mutual
def Rep (K : PySem.W.Frag) (F : Hp) : V → D → Prop
  | v, .none => v = .non
  | v, .bool b => v = .bl b
  | v, .int i => v = .int i
  | v, .str x => v = .str x
  | v, .list ds => ∃ a vs, v = .ref a ∧ SqL K F a vs ∧ Reps K F vs ds
  | v, .tuple ds => ∃ a vs, v = .ref a ∧ HdT F a vs ∧ Reps K F vs ds
  | v, .dict kds => ∃ a kvs, v = .ref a ∧ F a = some (.dK kvs) ∧ RepKs K F kvs kds
def Reps (K : PySem.W.Frag) (F : Hp) : List V → List D → Prop
  | vs, [] => vs = []
  | vs, d :: ds => ∃ v r, vs = v :: r ∧ Rep K F v d ∧ Reps K F r ds
def RepKs (K : PySem.W.Frag) (F : Hp) : List (Key × V) → List (D × D) → Prop
  | kvs, [] => kvs = []
  | kvs, (k, d) :: kds => ∃ key v r, kvs = (key, v) :: r ∧ k = keyD key ∧ Rep K F v d ∧ RepKs K F r kds
end
theorem sameL {K : PySem.W.Frag} {H H' : Hp} {a : Addr} {xs : List V} (e : Same H H') (h : SqL K H a xs) : SqL K H' a xs := e.seq h
theorem sameT {K : PySem.W.Frag} {H H' : Hp} {a : Addr} {xs : List V} (e : Same H H') (h : SqT K H a xs) : SqT K H' a xs := by
  rcases h with (h | ⟨o, h⟩) | h
  · exact .inl (.inl (e _ _ h))
  · exact .inl (.inr ⟨o, e _ _ h⟩)
  · exact .inr h
section
variable {K : PySem.W.Frag} {F F' : Hp}
mutual
theorem Rep.mono (e : Same F F') : ∀ (d : D) (v : V), Rep K F v d → Rep K F' v d
  | .none, v, h => h
  | .bool b, v, h => h
  | .int b, v, h => h
  | .str b, v, h => h
  | .list ds, v, ⟨a, vs, h1, h2, h3⟩ => ⟨a, vs, h1, sameL e h2, Reps.mono e ds vs h3⟩
  | .tuple ds, v, ⟨a, vs, h1, h2, h3⟩ => ⟨a, vs, h1, h2.mono e, Reps.mono e ds vs h3⟩
  | .dict kds, v, ⟨a, vs, h1, h2, h3⟩ => ⟨a, vs, h1, e _ _ h2, RepKs.mono e kds vs h3⟩
theorem Reps.mono (e : Same F F') : ∀ (ds : List D) (vs : List V), Reps K F vs ds → Reps K F' vs ds
  | [], vs, h => h
  | d :: ds, vs, ⟨v, r, h1, h2, h3⟩ => ⟨v, r, h1, Rep.mono e d v h2, Reps.mono e ds r h3⟩
theorem RepKs.mono (e : Same F F') : ∀ (ds : List (D × D)) (vs : List (Key × V)), RepKs K F vs ds → RepKs K F' vs ds
  | [], vs, h => h
  | (k, d) :: ds, vs, ⟨key, v, r, h1, h0, h2, h3⟩ => ⟨key, v, r, h1, h0, Rep.mono e d v h2, RepKs.mono e ds r h3⟩
end
theorem Reps.length : ∀ {ds : List D} {vs : List V}, Reps K F vs ds → vs.length = ds.length
  | [], vs, h => by cases (show vs = [] from h); rfl
  | d :: ds, vs, ⟨v, r, h1, h2, h3⟩ => by subst h1; simp [Reps.length h3]
theorem Reps.get : ∀ {ds : List D} {vs : List V} {i : Nat} {d : D}, Reps K F vs ds → ds[i]? = some d → ∃ v, vs[i]? = some v ∧ Rep K F v d
  | [], vs, i, d, h, e => by simp at e
  | d :: ds, vs, 0, d', ⟨v, r, h1, h2, h3⟩, e => by
    simp at e; subst e; subst h1; exact ⟨v, rfl, h2⟩
  | d :: ds, vs, i + 1, d', ⟨v, r, h1, h2, h3⟩, e => by
    subst h1
    obtain ⟨v', e1, e2⟩ := Reps.get (i := i) h3 (by simpa using e)
    exact ⟨v', by simpa using e1, e2⟩
theorem Reps.append : ∀ {ds es : List D} {vs ws : List V}, Reps K F vs ds → Reps K F ws es → Reps K F (vs ++ ws) (ds ++ es)
  | [], es, vs, ws, h, g => by cases (show vs = [] from h); exact g
  | d :: ds, es, vs, ws, ⟨v, r, h1, h2, h3⟩, g => by subst h1; exact ⟨v, r ++ ws, rfl, h2, Reps.append h3 g⟩
theorem Reps.one {v : V} {d : D} (h : Rep K F v d) : Reps K F [v] [d] := ⟨v, [], rfl, h, rfl⟩
theorem Reps.take : ∀ {ds : List D} {vs : List V} (n : Nat), Reps K F vs ds → Reps K F (vs.take n) (ds.take n)
  | _, _, 0, _ => by simp [Reps]
  | [], vs, n + 1, h => by cases (show vs = [] from h); simp [Reps]
  | d :: ds, vs, n + 1, ⟨v, r, h1, h2, h3⟩ => by subst h1; exact ⟨v, _, rfl, h2, Reps.take n h3⟩
theorem Reps.drop : ∀ {ds : List D} {vs : List V} (n : Nat), Reps K F vs ds → Reps K F (vs.drop n) (ds.drop n)
  | _, _, 0, h => h
  | [], vs, n + 1, h => by cases (show vs = [] from h); simp [Reps]
  | d :: ds, vs, n + 1, ⟨v, r, h1, h2, h3⟩ => by subst h1; exact Reps.drop n h3
theorem Reps.set {v : V} {d : D} (g : Rep K F v d) : ∀ {ds : List D} {vs : List V} (n : Nat), Reps K F vs ds → Reps K F (vs.set n v) (ds.set n d)
  | [], vs, n, h => by cases (show vs = [] from h); simp [Reps]
  | d' :: ds, vs, 0, ⟨v', r, h1, h2, h3⟩ => by subst h1; exact ⟨v, r, rfl, g, h3⟩
  | d' :: ds, vs, n + 1, ⟨v', r, h1, h2, h3⟩ => by subst h1; exact ⟨v', _, rfl, h2, Reps.set g n h3⟩
theorem Reps.erase : ∀ {ds : List D} {vs : List V} (n : Nat), Reps K F vs ds → Reps K F (vs.eraseIdx n) (ds.eraseIdx n)
  | [], vs, n, h => by cases (show vs = [] from h); simp [Reps]
  | d' :: ds, vs, 0, ⟨v', r, h1, h2, h3⟩ => by subst h1; exact h3
  | d' :: ds, vs, n + 1, ⟨v', r, h1, h2, h3⟩ => by subst h1; exact ⟨v', _, rfl, h2, Reps.erase n h3⟩
theorem Reps.reverse : ∀ {ds : List D} {vs : List V}, Reps K F vs ds → Reps K F vs.reverse ds.reverse
  | [], vs, h => by cases (show vs = [] from h); simp [Reps]
  | d :: ds, vs, ⟨v, r, h1, h2, h3⟩ => by
    subst h1
    rw [List.reverse_cons, List.reverse_cons]
    exact Reps.append (Reps.reverse h3) (Reps.one h2)
theorem Reps.replicate {ds : List D} {vs : List V} (h : Reps K F vs ds) : ∀ n : Nat, Reps K F (List.replicate n vs).flatten (List.replicate n ds).flatten
  | 0 => by simp [Reps]
  | n + 1 => by
    rw [List.replicate_succ, List.replicate_succ, List.flatten_cons, List.flatten_cons]
    exact Reps.append h (Reps.replicate h n)
end
inductive Kd where
  | ls | ins (cls : Str) (fs : List Str) | dn (ks : List D)
/-- an error on its way: its class by its name, its fields -/
structure Xn where
  cls : Str
  as : List (Str × D)
inductive C where
  | no | sh (d : D) | ls (ds : List D) | dc (k : Nat) (kvs : List (D × D)) | ob (k : Kd) (cs : List C)
  | px (a : Addr) (cls : Value) (d : Option Addr) (x : Xn)
  | fn (x : Str) | fd (kds : List (D × D)) | fk (kds : List (D × D))
abbrev Cs := List C
/-- what is written once and for all: the program's fragment, the world -/
abbrev Ek := PySem.W.Frag × World
abbrev _root_.L2.Cx.E (X : Cx) : Ek := (X.K, X.w)
mutual
def nKey : D → Option NestedKey
  | .none => some .none
  | .bool b => some (.num (if b = true then 1 else 0))
  | .int i => some (.num i)
  | .str x => some (.text x)
  | .tuple ds => (nKeys ds).map .tup
  | _ => none
def nKeys : List D → Option (List NestedKey)
  | [] => some []
  | d :: ds => match nKey d, nKeys ds with
    | some k, some ks => some (k :: ks)
    | _, _ => none
end
abbrev NEnt := NestedKey × Addr
def nkE (w : World) (x : NEnt × Value) : DictEntry := ⟨x.1.1.hash w, .ref x.1.2, x.2⟩
/-- a dict whose keys are tuples, nested, told by its object -/
def nkO (w : World) (a : Addr) (xs : List (NEnt × V)) : HO := .ext fun h => xs.length ≤ sizeLine ∧ (a == sysModules) = false ∧ ∃ vs : List (NEnt × Value), Paired (fun (p : NEnt × V) (q : NEnt × Value) => p.1 = q.1 ∧ RelV p.2 q.2) xs vs ∧ ∃ o es ep, h.get? a = some o ∧ o.ExactDict ∧ o.data = .dict es ep ∧ es.toList = vs.map (nkE w) ∧ (xs.map (·.1.1)).Nodup
def KeysN (K : PySem.W.Frag) (F : Hp) : List NEnt → List D → Prop
  | bs, [] => bs = []
  | bs, k :: ks => ∃ b r, bs = b :: r ∧ nKey k = some b.1 ∧ b.1.depth ≤ 8 ∧ Rep K F (.ref b.2) k ∧ KeysN K F r ks
def RepX (K : Ek) (F : Hp) (cls : Value) (d : Option Addr) (x : Xn) : Prop := cls = .ref (He.ga K.1 x.cls) ∧ ((x.as = [] ∧ d = none) ∨ ∃ dx fs, d = some dx ∧ F dx = some (.xd fs) ∧ fs.map (·.1) = x.as.map (·.1) ∧ Reps K.1 F (fs.map (·.2)) (x.as.map (·.2)))
def RepTs (K : PySem.W.Frag) (F : Hp) : List (List Key × V) → List (D × D) → Prop
  | kvs, [] => kvs = []
  | kvs, (k, d) :: kds => ∃ key v r, kvs = (key, v) :: r ∧ k = .tuple (key.map keyD) ∧ Rep K F v d ∧ RepTs K F r kds
/-- a dict of one's own -/
def DcAt (K : PySem.W.Frag) (F H : Hp) (a : Addr) : Nat → List (D × D) → Prop
  | 0, kds => ∃ kvs, H a = some (.dK kvs) ∧ RepKs K F kvs kds
  | 1, kds => ∃ kvs, H a = some (.dT kvs) ∧ RepTs K F kvs kds
  | _, _ => False
def ObAt (K : Ek) (F H : Hp) (a : Addr) (vs : List V) : Kd → Prop
  | .ls => H a = some (.lst vs)
  | .ins x fs => ∃ dx, H a = some (.ins (He.ga K.1 x) dx (fs.zip vs)) ∧ fs.length = vs.length ∧ fs.Nodup
  | .dn ks => ∃ bs : List NEnt, H a = some (nkO K.2 a (bs.zip vs)) ∧ bs.length = vs.length ∧ KeysN K.1 F bs ks ∧ (bs.map (·.1)).Nodup
def Kd.pl : Kd → Prop
  | .dn _ => False
  | _ => True
/-- .. of a thing with places -/
def ObP (K : Ek) (H : Hp) (a : Addr) (vs : List V) : Kd → Prop
  | .ls => H a = some (.lst vs)
  | .ins x fs => ∃ dx, H a = some (.ins (He.ga K.1 x) dx (fs.zip vs)) ∧ fs.length = vs.length ∧ fs.Nodup
  | .dn _ => False
theorem ObP.at {K : Ek} {F H : Hp} {a : Addr} {vs : List V} : ∀ {k : Kd}, ObP K H a vs k → ObAt K F H a vs k
  | .ls, h => h
  | .ins _ _, h => h
  | .dn _, h => h.elim
theorem ObP.pl {K : Ek} {H : Hp} {a : Addr} {vs : List V} : ∀ {k : Kd}, ObP K H a vs k → k.pl
  | .ls, h => trivial
  | .ins _ _, h => trivial
  | .dn _, h => h.elim
theorem ObAt.p {K : Ek} {F H : Hp} {a : Addr} {vs : List V} : ∀ {k : Kd}, k.pl → ObAt K F H a vs k → ObP K H a vs k
  | .ls, _, h => h
  | .ins _ _, _, h => h
  | .dn _, h, _ => h.elim
theorem ObP.frame {K : Ek} {H H' : Hp} {a : Addr} {vs : List V} (h' : H' a = H a) : ∀ {k : Kd}, ObP K H a vs k → ObP K H' a vs k
  | .ls, h => h'.trans h
  | .ins _ _, ⟨dx, h2, h3⟩ => ⟨dx, h'.trans h2, h3⟩
  | .dn _, h => h.elim
/-- a dict with nested keys that is changed no more -/
def FdAt (K : Ek) (F : Hp) (a : Addr) (kds : List (D × D)) : Prop := ∃ od bs vs, F a = some (.frz od (nkO K.2 a (bs.zip vs))) ∧ bs.length = vs.length ∧ KeysN K.1 F bs (kds.map (·.1)) ∧ Reps K.1 F vs (kds.map (·.2))
/-- a dict whose keys are numbers and texts that is changed no more -/
def FkAt (K : Ek) (F : Hp) (a : Addr) (kds : List (D × D)) : Prop := ∃ od kvs, F a = some (.frz od (.dK kvs)) ∧ RepKs K.1 F kvs kds
mutual
/-- a cell is held: the addresses that are its own -/
def RpC (K : Ek) (F H : Hp) : Option V → C → List Addr → Prop
  | o, .no, A => A = []
  | o, .sh d, A => A = [] ∧ ∃ v, o = some v ∧ Rep K.1 F v d
  | o, .ls ds, A => ∃ a vs, o = some (.ref a) ∧ A = [a] ∧ H a = some (.lst vs) ∧ Reps K.1 F vs ds
  | o, .dc k kds, A => ∃ a, o = some (.ref a) ∧ A = [a] ∧ DcAt K.1 F H a k kds
  | o, .px a cls d x, A => A = [] ∧ o = some (.ref a) ∧ RepX K F cls d x
  | o, .fn x, A => A = [] ∧ o = some (.ref (He.ga K.1 x))
  | o, .fd kds, A => A = [] ∧ ∃ a, o = some (.ref a) ∧ FdAt K F a kds
  | o, .fk kds, A => A = [] ∧ ∃ a, o = some (.ref a) ∧ FkAt K F a kds
  | o, .ob k cs, A => ∃ a vs fs, o = some (.ref a) ∧ A = a :: fs.flatten ∧ ObAt K F H a vs k ∧ RpCs K F H (vs.map some) cs fs
def RpCs (K : Ek) (F H : Hp) : List (Option V) → List C → List (List Addr) → Prop
  | os, [], fs => os = [] ∧ fs = []
  | os, c :: cs, fs => ∃ o r f fr, os = o :: r ∧ fs = f :: fr ∧ RpC K F H o c f ∧ RpCs K F H r cs fr
end
section
variable {K : Ek} {F F' H H' : Hp}
theorem RepTs.mono (e : Same F F') : ∀ (ds : List (D × D)) (vs : List (List Key × V)), RepTs K.1 F vs ds → RepTs K.1 F' vs ds
  | [], vs, h => h
  | (k, d) :: ds, vs, ⟨key, v, r, h1, h0, h2, h3⟩ => ⟨key, v, r, h1, h0, Rep.mono e d v h2, RepTs.mono e ds r h3⟩
theorem RepX.mono {cls : Value} {d : Option Addr} {x : Xn} (e : Same F F') (h : RepX K F cls d x) : RepX K F' cls d x := by
  obtain ⟨h1, h2 | ⟨dx, fs, h2, h3, h4, h5⟩⟩ := h
  · exact ⟨h1, .inl h2⟩
  · exact ⟨h1, .inr ⟨dx, fs, h2, e _ _ h3, h4, Reps.mono e _ _ h5⟩⟩
theorem DcAt.frame (e : Same F F') {a : Addr} (h' : H' a = H a) : ∀ {k : Nat} {kds : List (D × D)}, DcAt K.1 F H a k kds → DcAt K.1 F' H' a k kds
  | 0, kds, ⟨kvs, h1, h2⟩ => ⟨kvs, h'.trans h1, RepKs.mono e _ _ h2⟩
  | 1, kds, ⟨kvs, h1, h2⟩ => ⟨kvs, h'.trans h1, RepTs.mono e _ _ h2⟩
  | _ + 2, kds, h => h
theorem DcAt.live {a : Addr} : ∀ {k : Nat} {kds : List (D × D)}, DcAt K.1 F H a k kds → H a ≠ none
  | 0, kds, ⟨kvs, h1, h2⟩ => by rw [h1]; exact fun z => nomatch z
  | 1, kds, ⟨kvs, h1, h2⟩ => by rw [h1]; exact fun z => nomatch z
  | _ + 2, kds, h => h.elim
theorem KeysN.mono (e : Same F F') : ∀ {ks : List D} {bs : List NEnt}, KeysN K.1 F bs ks → KeysN K.1 F' bs ks
  | [], bs, h => h
  | k :: ks, bs, ⟨b, r, h1, h2, h3, h4, h5⟩ => ⟨b, r, h1, h2, h3, Rep.mono e _ _ h4, KeysN.mono e h5⟩
theorem ObAt.frame (e : Same F F') {a : Addr} {vs : List V} (h' : H' a = H a) : ∀ {k : Kd}, ObAt K F H a vs k → ObAt K F' H' a vs k
  | .ls, h => h'.trans h
  | .ins _ _, ⟨dx, h2, h3⟩ => ⟨dx, h'.trans h2, h3⟩
  | .dn _, ⟨bs, h2, h3, h4, h5⟩ => ⟨bs, h'.trans h2, h3, h4.mono (K := K) e, h5⟩
theorem ObAt.live {a : Addr} {vs : List V} : ∀ {k : Kd}, ObAt K F H a vs k → H a ≠ none
  | .ls, h => by rw [show H a = _ from h]; exact fun z => nomatch z
  | .ins _ _, ⟨dx, h2, h3⟩ => by rw [h2]; exact fun z => nomatch z
  | .dn _, ⟨bs, h2, _⟩ => by rw [h2]; exact fun z => nomatch z
theorem FkAt.mono (e : Same F F') {a : Addr} {kds : List (D × D)} (h : FkAt K F a kds) : FkAt K F' a kds := by
  obtain ⟨od, kvs, h1, h2⟩ := h
  exact ⟨od, kvs, e _ _ h1, RepKs.mono e _ _ h2⟩
theorem FdAt.mono (e : Same F F') {a : Addr} {kds : List (D × D)} (h : FdAt K F a kds) : FdAt K F' a kds := by
  obtain ⟨od, bs, vs, h1, h2, h3, h4⟩ := h
  exact ⟨od, bs, vs, e _ _ h1, h2, h3.mono (K := K) e, Reps.mono e _ _ h4⟩
mutual
theorem RpC.frame (e : Same F F') : ∀ {c : C} {o : Option V} {A : List Addr}, (∀ b ∈ A, H' b = H b) → RpC K F H o c A → RpC K F' H' o c A
  | .no, o, A, k, h => h
  | .sh d, o, A, k, ⟨h1, v, h2, h3⟩ => ⟨h1, v, h2, Rep.mono e _ _ h3⟩
  | .ls ds, o, A, k, ⟨a, vs, h1, h2, h3, h4⟩ => ⟨a, vs, h1, h2, (k a (by rw [h2]; exact List.mem_cons_self)).trans h3, Reps.mono e _ _ h4⟩
  | .dc n kds, o, A, k, ⟨a, h1, h2, h3⟩ => ⟨a, h1, h2, DcAt.frame e (k a (by rw [h2]; exact List.mem_cons_self)) h3⟩
  | .px a cls d x, o, A, k, ⟨h1, h2, h3⟩ => ⟨h1, h2, h3.mono e⟩
  | .fn x, o, A, k, h => h
  | .fd kds, o, A, k, ⟨h1, a, h2, h3⟩ => ⟨h1, a, h2, h3.mono e⟩
  | .fk kds, o, A, k, ⟨h1, a, h2, h3⟩ => ⟨h1, a, h2, h3.mono e⟩
  | .ob n cs, o, A, k, ⟨a, vs, fs, h1, h2, h3, h4⟩ => ⟨a, vs, fs, h1, h2, ObAt.frame e (k a (by rw [h2]; exact List.mem_cons_self)) h3, RpCs.frame e (fun b hb => k b (by rw [h2]; exact List.mem_cons_of_mem _ hb)) h4⟩
theorem RpCs.frame (e : Same F F') : ∀ {cs : List C} {os : List (Option V)} {fs : List (List Addr)}, (∀ b ∈ fs.flatten, H' b = H b) → RpCs K F H os cs fs → RpCs K F' H' os cs fs
  | [], os, fs, k, h => h
  | c :: cs, os, fs, k, ⟨o, r, f, fr, h1, h2, h3, h4⟩ => ⟨o, r, f, fr, h1, h2, RpC.frame e (fun b hb => k b (by rw [h2]; simp [hb])) h3, RpCs.frame e (fun b hb => k b (by rw [h2, List.flatten_cons]; exact List.mem_append_right _ hb)) h4⟩
end
mutual
theorem RpC.live : ∀ {c : C} {o : Option V} {A : List Addr}, RpC K F H o c A → ∀ b ∈ A, H b ≠ none
  | .no, o, A, h, b, hb => by rw [show A = [] from h] at hb; cases hb
  | .sh d, o, A, ⟨h1, _⟩, b, hb => by rw [h1] at hb; cases hb
  | .ls ds, o, A, ⟨a, vs, h1, h2, h3, h4⟩, b, hb => by
    rw [h2] at hb
    obtain rfl := List.mem_singleton.mp hb
    rw [h3]; exact fun z => nomatch z
  | .dc n kds, o, A, ⟨a, h1, h2, h3⟩, b, hb => by
    rw [h2] at hb
    obtain rfl := List.mem_singleton.mp hb
    exact h3.live (K := K)
  | .px a cls d x, o, A, ⟨h1, _⟩, b, hb => by rw [h1] at hb; cases hb
  | .fn x, o, A, ⟨h1, _⟩, b, hb => by rw [h1] at hb; cases hb
  | .fd kds, o, A, ⟨h1, _⟩, b, hb => by rw [h1] at hb; cases hb
  | .fk kds, o, A, ⟨h1, _⟩, b, hb => by rw [h1] at hb; cases hb
  | .ob n cs, o, A, ⟨a, vs, fs, h1, h2, h3, h4⟩, b, hb => by
    rw [h2] at hb
    rcases List.mem_cons.mp hb with rfl | hb
    · exact h3.live
    · exact RpCs.live h4 b hb
theorem RpCs.live : ∀ {cs : List C} {os : List (Option V)} {fs : List (List Addr)}, RpCs K F H os cs fs → ∀ b ∈ fs.flatten, H b ≠ none
  | [], os, fs, ⟨_, h⟩, b, hb => by rw [h] at hb; cases hb
  | c :: cs, os, fs, ⟨o, r, f, fr, h1, h2, h3, h4⟩, b, hb => by
    rw [h2, List.flatten_cons] at hb
    rcases List.mem_append.mp hb with hb | hb
    · exact RpC.live h3 b hb
    · exact RpCs.live h4 b hb
end
theorem RpCs.len : ∀ {cs : List C} {os : List (Option V)} {fs : List (List Addr)}, RpCs K F H os cs fs → os.length = cs.length ∧ fs.length = cs.length
  | [], os, fs, ⟨h1, h2⟩ => by rw [h1, h2]; exact ⟨rfl, rfl⟩
  | c :: cs, os, fs, ⟨o, r, f, fr, h1, h2, h3, h4⟩ => by
    obtain ⟨e1, e2⟩ := h4.len
    rw [h1, h2]
    simp [e1, e2]
theorem RpCs.get : ∀ {cs : List C} {os : List (Option V)} {fs : List (List Addr)} {i : Nat} {c : C}, RpCs K F H os cs fs → cs[i]? = some c → ∃ o f, os[i]? = some o ∧ fs[i]? = some f ∧ RpC K F H o c f
  | [], os, fs, i, c, h, e => by simp at e
  | c :: cs, os, fs, 0, c', ⟨o, r, f, fr, h1, h2, h3, h4⟩, e => by
    simp at e; subst e h1 h2
    exact ⟨o, f, rfl, rfl, h3⟩
  | c :: cs, os, fs, i + 1, c', ⟨o, r, f, fr, h1, h2, h3, h4⟩, e => by
    subst h1 h2
    obtain ⟨o', f', e1, e2, e3⟩ := h4.get (by simpa using e)
    exact ⟨o', f', by simpa using e1, by simpa using e2, e3⟩
/-- a place rewritten -/
theorem RpCs.set {o : Option V} {c : C} {f : List Addr} (h0 : RpC K F H o c f) : ∀ {cs : List C} {os : List (Option V)} {fs : List (List Addr)} (i : Nat), RpCs K F H os cs fs → RpCs K F H (os.set i o) (cs.set i c) (fs.set i f)
  | [], os, fs, i, ⟨h1, h2⟩ => by rw [h1, h2]; exact ⟨rfl, rfl⟩
  | c' :: cs, os, fs, 0, ⟨o', r, f', fr, h1, h2, h3, h4⟩ => by rw [h1, h2]; exact ⟨o, r, f, fr, rfl, rfl, h0, h4⟩
  | c' :: cs, os, fs, i + 1, ⟨o', r, f', fr, h1, h2, h3, h4⟩ => by rw [h1, h2]; exact ⟨o', _, f', _, rfl, rfl, h3, RpCs.set h0 i h4⟩
theorem RpCs.append : ∀ {cs cs' : List C} {os os' : List (Option V)} {fs fs' : List (List Addr)}, RpCs K F H os cs fs → RpCs K F H os' cs' fs' → RpCs K F H (os ++ os') (cs ++ cs') (fs ++ fs')
  | [], cs', os, os', fs, fs', ⟨h1, h2⟩, g => by rw [h1, h2]; exact g
  | c :: cs, cs', os, os', fs, fs', ⟨o, r, f, fr, h1, h2, h3, h4⟩, g => by rw [h1, h2]; exact ⟨o, _, f, _, rfl, rfl, h3, h4.append g⟩
theorem RpCs.nos (n : Nat) (os : List (Option V)) (h : os.length = n) : RpCs K F H os (List.replicate n .no) (List.replicate n []) := by
  induction n generalizing os with
  | zero => exact ⟨List.length_eq_zero_iff.mp h, rfl⟩
  | succ n ih =>
    cases os with
    | nil => cases h
    | cons o r => exact ⟨o, r, [], _, rfl, rfl, rfl, ih r (by simpa using h)⟩
end
theorem flat_set {fs : List (List Addr)} {i : Nat} {f : List Addr} {b : Addr} (h : b ∈ (fs.set i f).flatten) : b ∈ f ∨ ∃ (j : Nat) (g : List Addr), j ≠ i ∧ fs[j]? = some g ∧ b ∈ g := by
  obtain ⟨g, hg, hb⟩ := List.mem_flatten.mp h
  obtain ⟨j, hj⟩ := List.mem_iff_getElem?.mp hg
  by_cases e : j = i
  · subst e
    by_cases hl : j < fs.length
    · rw [List.getElem?_set_self hl] at hj; cases hj; exact .inl hb
    · rw [List.getElem?_eq_none (by simpa using hl)] at hj; cases hj
  · rw [List.getElem?_set_ne (Ne.symm e)] at hj
    exact .inr ⟨j, g, e, hj, hb⟩
theorem flat_get {fs : List (List Addr)} {i : Nat} {f : List Addr} {b : Addr} (h : fs[i]? = some f) (hb : b ∈ f) : b ∈ fs.flatten := List.mem_flatten.mpr ⟨f, List.mem_of_getElem? h, hb⟩
theorem nodup_apart : ∀ {fs : List (List Addr)}, fs.flatten.Nodup → ∀ {i j : Nat} {f g : List Addr} {b : Addr}, fs[i]? = some f → fs[j]? = some g → b ∈ f → b ∈ g → i = j
  | [], _, i, j, f, g, b, h, _, _, _ => by simp at h
  | e :: fs, n, i, j, f, g, b, h1, h2, h3, h4 => by
    rw [List.flatten_cons, List.nodup_append] at n
    obtain ⟨n1, n2, n3⟩ := n
    cases i with
    | zero =>
      simp at h1; subst h1
      cases j with
      | zero => rfl
      | succ j => exact absurd rfl (n3 b h3 b (flat_get (by simpa using h2) h4))
    | succ i =>
      cases j with
      | zero =>
        simp at h2; subst h2
        exact absurd rfl (n3 b h4 b (flat_get (by simpa using h1) h3))
      | succ j => exact congrArg (· + 1) (nodup_apart n2 (by simpa using h1) (by simpa using h2) h3 h4)
theorem nodup_get : ∀ {fs : List (List Addr)} {i : Nat} {f : List Addr}, fs.flatten.Nodup → fs[i]? = some f → f.Nodup
  | [], i, f, _, h => by simp at h
  | e :: fs, 0, f, n, h => by
    simp at h; subst h
    rw [List.flatten_cons, List.nodup_append] at n
    exact n.1
  | e :: fs, i + 1, f, n, h => by
    rw [List.flatten_cons, List.nodup_append] at n
    exact nodup_get n.2.1 (by simpa using h)
theorem nodup_set {f : List Addr} (nf : f.Nodup) : ∀ {fs : List (List Addr)} {i : Nat}, fs.flatten.Nodup → (∀ (j : Nat) (g : List Addr), j ≠ i → fs[j]? = some g → ∀ b ∈ f, b ∉ g) → (fs.set i f).flatten.Nodup
  | [], i, n, h => by simp
  | e :: fs, 0, n, h => by
    rw [List.flatten_cons, List.nodup_append] at n
    show (f :: fs).flatten.Nodup
    rw [List.flatten_cons, List.nodup_append]
    refine ⟨nf, n.2.1, fun a ha b hb z => ?_⟩
    subst z
    obtain ⟨g, hg, hb⟩ := List.mem_flatten.mp hb
    obtain ⟨j, hj⟩ := List.mem_iff_getElem?.mp hg
    exact h (j + 1) g (by simp) (by simpa using hj) a ha hb
  | e :: fs, i + 1, n, h => by
    rw [List.flatten_cons, List.nodup_append] at n
    obtain ⟨n1, n2, n3⟩ := n
    show (e :: fs.set i f).flatten.Nodup
    rw [List.flatten_cons, List.nodup_append]
    refine ⟨n1, nodup_set nf n2 fun j g hj hg b hb => h (j + 1) g (by simpa using hj) (by simpa using hg) b hb, fun a ha b hb z => ?_⟩
    subst z
    rcases flat_set hb with hb | ⟨j, g, hj, hg, hb⟩
    · exact h 0 e (by simp) rfl a hb ha
    · exact n3 a ha a (flat_get hg hb) rfl
abbrev Tms := List (V × C)
structure Sep (K : Ek) (F R H : Hp) (σ : St) (ε : Cs) (T : Tms) : Prop where
  sub : Same F H
  rs : Same R H
  dis : ∀ b, F b ≠ none → R b = none
  ex : ∃ fs gs, RpCs K F H σ ε fs ∧ RpCs K F H (T.map fun p => some p.1) (T.map (·.2)) gs ∧ (fs.flatten ++ gs.flatten).Nodup ∧ ∀ b ∈ fs.flatten ++ gs.flatten, F b = none ∧ R b = none
section
variable {K : Ek} {F R H F' R' H' : Hp} {σ σ' : St} {ε ε' : Cs} {T T' : Tms} {v w : V} {c c' : C} {i : Nat} {d : D}
theorem Sep.len (s : Sep K F R H σ ε T) : σ.length = ε.length := by
  obtain ⟨_, _, _, ⟨fs, gs, h1, _⟩⟩ := s
  exact h1.len.1
/-- a temporary is dropped -/
theorem Sep.drop (s : Sep K F R H σ ε ((v, c) :: T)) : Sep K F R H σ ε T := by
  obtain ⟨a1, a2, a3, ⟨fs, gs, h1, ⟨o, r, f, fr, e1, e2, h2, h3⟩, n, m⟩⟩ := s
  subst e2
  obtain ⟨-, rfl⟩ := List.cons.inj e1
  have sl : ∀ b, b ∈ fs.flatten ++ fr.flatten → b ∈ fs.flatten ++ (f :: fr).flatten := fun b hb => by
    simp only [List.flatten_cons, List.mem_append] at hb ⊢
    rcases hb with hb | hb
    · exact .inl hb
    · exact .inr (.inr hb)
  refine ⟨a1, a2, a3, fs, fr, h1, h3, ?_, fun b hb => m b (sl b hb)⟩
  rw [List.flatten_cons, List.nodup_append] at n
  obtain ⟨n1, n2, n3⟩ := n
  rw [List.nodup_append] at n2
  rw [List.nodup_append]
  exact ⟨n1, n2.2.1, fun a ha b hb => n3 a ha b (List.mem_append_right _ hb)⟩
theorem Sep.drops : ∀ (T0 : Tms), Sep K F R H σ ε (T0 ++ T) → Sep K F R H σ ε T
  | [], s => s
  | (_, _) :: T0, s => Sep.drops T0 s.drop
/-- a temporary of no own addresses -/
theorem Sep.addSh (s : Sep K F R H σ ε T) (r : Rep K.1 F v d) : Sep K F R H σ ε ((v, .sh d) :: T) := by
  obtain ⟨a1, a2, a3, ⟨fs, gs, h1, h2, n, m⟩⟩ := s
  exact ⟨a1, a2, a3, fs, [] :: gs, h1, ⟨_, _, _, _, rfl, rfl, ⟨rfl, v, rfl, r⟩, h2⟩, by simpa using n, by simpa using m⟩
/-- the cell of a slot, read -/
theorem Sep.cell (s : Sep K F R H σ ε T) (h : ε[i]? = some c) : ∃ o f, σ[i]? = some o ∧ RpC K F H o c f := by
  obtain ⟨a1, a2, a3, ⟨fs, gs, h1, h2, n, m⟩⟩ := s
  obtain ⟨o, f, e1, e2, e3⟩ := h1.get h
  exact ⟨o, f, e1, e3⟩
theorem Sep.sh (s : Sep K F R H σ ε T) (h : ε[i]? = some (.sh d)) : ∃ v, σ[i]? = some (some v) ∧ Rep K.1 F v d := by
  obtain ⟨o, f, e1, _, v, rfl, r⟩ := s.cell h
  exact ⟨v, e1, r⟩
theorem Sep.lst {ds : List D} (s : Sep K F R H σ ε T) (h : ε[i]? = some (.ls ds)) : ∃ a vs, σ[i]? = some (some (.ref a)) ∧ H a = some (.lst vs) ∧ Reps K.1 F vs ds := by
  obtain ⟨o, f, e1, a, vs, rfl, _, h1, h2⟩ := s.cell h
  exact ⟨a, vs, e1, h1, h2⟩
theorem Sep.val (s : Sep K F R H σ ε T) (h : ε[i]? = some c) (hn : c ≠ .no) : ∃ v, σ[i]? = some (some v) := by
  obtain ⟨o, f, e1, h1⟩ := s.cell h
  cases c with
  | no => exact absurd rfl hn
  | sh d => obtain ⟨_, v, rfl, _⟩ := h1; exact ⟨v, e1⟩
  | ls d => obtain ⟨a, vs, rfl, _⟩ := h1; exact ⟨_, e1⟩
  | dc k d => obtain ⟨a, rfl, _⟩ := h1; exact ⟨_, e1⟩
  | ob k d => obtain ⟨a, vs, fs, rfl, _⟩ := h1; exact ⟨_, e1⟩
  | px _ _ _ _ => obtain ⟨_, rfl, _⟩ := h1; exact ⟨_, e1⟩
  | fn _ => obtain ⟨_, rfl⟩ := h1; exact ⟨_, e1⟩
  | fd _ => obtain ⟨_, _, rfl, _⟩ := h1; exact ⟨_, e1⟩
  | fk _ => obtain ⟨_, _, rfl, _⟩ := h1; exact ⟨_, e1⟩
/-- a slot's cell is dropped -/
theorem Sep.dropAt (s : Sep K F R H σ ε T) (i : Nat) : Sep K F R H σ (ε.set i .no) T := by
  obtain ⟨a1, a2, a3, ⟨fs, gs, h1, h2, n, m⟩⟩ := s
  by_cases hi : i < ε.length
  · obtain ⟨o, f, e1, e2, e3⟩ := h1.get (List.getElem?_eq_getElem hi)
    have h1' := RpCs.set (o := o) (c := .no) (f := []) (K := K) (F := F) (H := H) rfl i h1
    have eo : σ.set i o = σ := by
      apply List.ext_getElem?
      intro j
      by_cases e : j = i
      · subst e
        rw [List.getElem?_set_self (by rw [h1.len.1]; exact hi), e1]
      · rw [List.getElem?_set_ne (Ne.symm e)]
    rw [eo] at h1'
    have sl : ∀ b, b ∈ (fs.set i []).flatten → b ∈ fs.flatten := fun b hb => by
      rcases flat_set hb with hb | ⟨j, g, _, hg, hb⟩
      · cases hb
      · exact flat_get hg hb
    rw [List.nodup_append] at n
    obtain ⟨n1, n2, n3⟩ := n
    refine ⟨a1, a2, a3, fs.set i [], gs, h1', h2, ?_, fun b hb => m b ?_⟩
    · rw [List.nodup_append]
      exact ⟨nodup_set (by simp) n1 (fun _ _ _ _ b hb => by cases hb), n2, fun a ha b hb => n3 a (sl a ha) b hb⟩
    · rcases List.mem_append.mp hb with hb | hb
      · exact List.mem_append_left _ (sl b hb)
      · exact List.mem_append_right _ hb
  · rw [List.set_eq_of_length_le (by omega)]
    exact ⟨a1, a2, a3, fs, gs, h1, h2, n, m⟩
/-- a slot's cell is taken out -/
theorem Sep.take (s : Sep K F R H σ ε T) (h : ε[i]? = some c) (hv : σ[i]? = some (some v)) : Sep K F R H σ (ε.set i .no) ((v, c) :: T) := by
  obtain ⟨a1, a2, a3, ⟨fs, gs, h1, h2, n, m⟩⟩ := s
  obtain ⟨o, f, e1, e2, e3⟩ := h1.get h
  rw [hv] at e1
  cases e1
  have hi : i < ε.length := (List.getElem?_eq_some_iff.mp h).1
  have h1' := RpCs.set (o := some v) (c := .no) (f := []) (K := K) (F := F) (H := H) rfl i h1
  have eo : σ.set i (some v) = σ := by
    apply List.ext_getElem?
    intro j
    by_cases e : j = i
    · subst e
      rw [List.getElem?_set_self (by rw [h1.len.1]; exact hi), hv]
    · rw [List.getElem?_set_ne (Ne.symm e)]
  rw [eo] at h1'
  have sl : ∀ b, b ∈ (fs.set i []).flatten → b ∈ fs.flatten ∧ b ∉ f := fun b hb => by
    rcases flat_set hb with hb | ⟨j, g, hj, hg, hb⟩
    · cases hb
    · refine ⟨flat_get hg hb, fun z => hj ?_⟩
      exact nodup_apart (List.nodup_append.mp n).1 hg e2 hb z
  rw [List.nodup_append] at n
  obtain ⟨n1, n2, n3⟩ := n
  refine ⟨a1, a2, a3, fs.set i [], f :: gs, h1', ⟨_, _, _, _, rfl, rfl, e3, h2⟩, ?_, fun b hb => m b ?_⟩
  · rw [List.flatten_cons, List.nodup_append, List.nodup_append]
    refine ⟨nodup_set (by simp) n1 (fun _ _ _ _ b hb => by cases hb), ⟨nodup_get n1 e2, n2, fun a ha b hb => n3 a (flat_get e2 ha) b hb⟩, fun a ha b hb z => ?_⟩
    subst z
    obtain ⟨k1, k2⟩ := sl a ha
    rcases List.mem_append.mp hb with hb | hb
    · exact k2 hb
    · exact n3 a k1 a hb rfl
  · simp only [List.flatten_cons, List.mem_append] at hb ⊢
    rcases hb with hb | hb | hb
    · exact .inl (sl b hb).1
    · exact .inl (flat_get e2 hb)
    · exact .inr hb
/-- a temporary is stored to a slot (the slot's value is v from then on) -/
theorem Sep.store (s : Sep K F R H σ ε ((v, c) :: T)) (i : Nat) : Sep K F R H (σ.set i (some v)) (ε.set i c) T := by
  obtain ⟨a1, a2, a3, ⟨fs, gs, h1, ⟨o, r, f, fr, e1, e2, h2, h3⟩, n, m⟩⟩ := s
  subst e2
  obtain ⟨rfl, rfl⟩ := List.cons.inj e1
  have h1' := RpCs.set h2 i h1
  rw [List.flatten_cons, List.nodup_append, List.nodup_append] at n
  obtain ⟨n1, ⟨n2, n4, n5⟩, n3⟩ := n
  refine ⟨a1, a2, a3, fs.set i f, fr, h1', h3, ?_, fun b hb => m b ?_⟩
  · rw [List.nodup_append]
    refine ⟨nodup_set n2 n1 fun j g hj hg b hb hg2 => n3 b (flat_get hg hg2) b (List.mem_append_left _ hb) rfl, n4, fun a ha b hb z => ?_⟩
    subst z
    rcases flat_set ha with ha | ⟨j, g, hj, hg, ha⟩
    · exact n5 a ha a hb rfl
    · exact n3 a (flat_get hg ha) a (List.mem_append_right _ hb) rfl
  · simp only [List.flatten_cons, List.mem_append] at hb ⊢
    rcases hb with hb | hb
    · rcases flat_set hb with hb | ⟨j, g, hj, hg, hb⟩
      · exact .inr (.inl hb)
      · exact .inl (flat_get hg hb)
    · exact .inr (.inr hb)
theorem set_same {α : Type} {xs : List α} {i : Nat} {x : α} (h : xs[i]? = some x) : xs.set i x = xs := by
  apply List.ext_getElem?
  intro j
  by_cases e : j = i
  · subst e
    rw [List.getElem?_set_self (List.getElem?_eq_some_iff.mp h).1, h]
  · rw [List.getElem?_set_ne (Ne.symm e)]
/-- .. where the slot's value is v already -/
theorem Sep.put (s : Sep K F R H σ ε ((v, c) :: T)) (hv : σ[i]? = some (some v)) : Sep K F R H σ (ε.set i c) T := by
  have := s.store i
  rwa [set_same hv] at this
theorem Sep.copy (s : Sep K F R H σ ε T) (h : ε[i]? = some (.sh d)) (hv : σ[i]? = some (some v)) : Sep K F R H σ ε ((v, .sh d) :: T) := by
  obtain ⟨w, e, r⟩ := s.sh h
  rw [hv] at e
  cases e
  exact s.addSh r
theorem Sep.repT (s : Sep K F R H σ ε ((v, .sh d) :: T)) : Rep K.1 F v d := by
  obtain ⟨a1, a2, a3, ⟨fs, gs, h1, ⟨o, r, f, fr, e1, e2, ⟨_, w, e3, h2⟩, h3⟩, n, m⟩⟩ := s
  obtain ⟨rfl, rfl⟩ := List.cons.inj e1
  cases e3
  exact h2
theorem Sep.headT (s : Sep K F R H σ ε ((v, c) :: T)) : ∃ f, RpC K F H (some v) c f ∧ ∀ b ∈ f, F b = none ∧ R b = none := by
  obtain ⟨a1, a2, a3, ⟨fs, gs, h1, ⟨o, r, f, fr, e1, e2, h2, h3⟩, n, m⟩⟩ := s
  obtain ⟨rfl, rfl⟩ := List.cons.inj e1
  exact ⟨f, h2, fun b hb => m b (by rw [e2]; simp [hb])⟩
/-- a temporary waits aside while all else goes on -/
theorem Sep.hide (s : Sep K F R H σ ε ((v, c) :: T)) : ∃ R1, Same R R1 ∧ Sep K F R1 H σ ε T ∧ ∀ F' H' σ' ε' T', Same F F' → Sep K F' R1 H' σ' ε' T' → Sep K F' R H' σ' ε' ((v, c) :: T') := by
  obtain ⟨a1, a2, a3, ⟨fs, gs, h1, ⟨o, r, f, fr, e1, e2, h2, h3⟩, n, m⟩⟩ := s
  subst e2
  obtain ⟨rfl, rfl⟩ := List.cons.inj e1
  let R1 : Hp := fun b => if b ∈ f then H b else R b
  have i1 : ∀ {b}, b ∈ f → R1 b = H b := fun {b} hb => if_pos hb
  have i2 : ∀ {b}, b ∉ f → R1 b = R b := fun {b} hb => if_neg hb
  have fin : ∀ b, b ∈ f → F b = none ∧ R b = none := fun b hb => m b (by simp [hb])
  have lv := RpC.live h2
  have sR : Same R R1 := fun b u e => by
    rw [i2 fun z => by rw [(fin b z).2] at e; cases e]; exact e
  rw [List.flatten_cons, List.nodup_append, List.nodup_append] at n
  obtain ⟨n1, ⟨n2, n4, n5⟩, n3⟩ := n
  refine ⟨R1, sR, ⟨a1, fun b u e => ?_, fun b hb => ?_, fs, fr, h1, h3, ?_, fun b hb => ?_⟩, fun F' H' σ' ε' T' fm s' => ?_⟩
  · by_cases q : b ∈ f
    · rw [i1 q] at e; exact e
    · rw [i2 q] at e; exact a2 b u e
  · rw [i2 fun z => hb (fin b z).1]; exact a3 b hb
  · rw [List.nodup_append]
    exact ⟨n1, n4, fun a ha b hb => n3 a ha b (List.mem_append_right _ hb)⟩
  · have q : b ∉ f := fun z => by
      rcases List.mem_append.mp hb with hb | hb
      · exact n3 b hb b (List.mem_append_left _ z) rfl
      · exact n5 b z b hb rfl
    rw [i2 q]
    refine m b ?_
    simp only [List.flatten_cons, List.mem_append] at hb ⊢
    rcases hb with hb | hb
    · exact .inl hb
    · exact .inr (.inr hb)
  · obtain ⟨b1, b2, b3, ⟨fs', gs', k1, k2, n', m'⟩⟩ := s'
    have live' : ∀ b, b ∈ f → R1 b ≠ none := fun b hb => by rw [i1 hb]; exact lv b hb
    have heq : ∀ b ∈ f, H' b = H b := fun b hb => by
      cases q : H b with
      | none => exact absurd q (lv b hb)
      | some u => exact b2 b u ((i1 hb).trans q)
    have fF : ∀ b ∈ f, F' b = none := fun b hb => by
      by_cases q : F' b = none
      · exact q
      · exact absurd (b3 b q) (live' b hb)
    have nf : ∀ b, b ∈ fs'.flatten ++ gs'.flatten → b ∉ f := fun b hb z => live' b z (m' b hb).2
    refine ⟨b1, fun b u e => b2 b u (sR b u e), fun b hb => ?_, fs', f :: gs', k1, ⟨_, _, _, _, rfl, rfl, RpC.frame fm heq h2, k2⟩, ?_, fun b hb => ?_⟩
    · have z := b3 b hb
      cases q : R b with
      | none => rfl
      | some u => rw [sR b u q] at z; cases z
    · rw [List.flatten_cons]
      rw [List.nodup_append] at n' ⊢
      rw [List.nodup_append]
      refine ⟨n'.1, ⟨n2, n'.2.1, fun a ha b hb z => nf b (List.mem_append_right _ hb) (z ▸ ha)⟩, fun a ha b hb z => ?_⟩
      rcases List.mem_append.mp hb with hb | hb
      · exact nf a (List.mem_append_left _ ha) (z ▸ hb)
      · exact n'.2.2 a ha b hb z
    · simp only [List.flatten_cons, List.mem_append] at hb
      rcases hb with hb | hb | hb
      · obtain ⟨z1, z2⟩ := m' b (List.mem_append_left _ hb)
        rw [i2 (nf b (List.mem_append_left _ hb))] at z2
        exact ⟨z1, z2⟩
      · exact ⟨fF b hb, (fin b hb).2⟩
      · obtain ⟨z1, z2⟩ := m' b (List.mem_append_right _ hb)
        rw [i2 (nf b (List.mem_append_right _ hb))] at z2
        exact ⟨z1, z2⟩
/-- the slots wait aside: the temporaries are a frame of their own -/
theorem Sep.enter (s : Sep K F R H σ ε T) : ∃ R1, Sep K F R1 H (T.map fun p => some p.1) (T.map (·.2)) [] ∧ ∀ F' H' cs' T', Same F F' → Sep K F' R1 H' (T.map fun p => some p.1) cs' T' → Sep K F' R H' σ ε ((T.map (·.1)).zip cs' ++ T') := by
  obtain ⟨a1, a2, a3, ⟨fs, gs, h1, h2, n, m⟩⟩ := s
  let f := fs.flatten
  let R1 : Hp := fun b => if b ∈ f then H b else R b
  have i1 : ∀ {b}, b ∈ f → R1 b = H b := fun {b} hb => if_pos hb
  have i2 : ∀ {b}, b ∉ f → R1 b = R b := fun {b} hb => if_neg hb
  have fin : ∀ b, b ∈ f → F b = none ∧ R b = none := fun b hb => m b (List.mem_append_left _ hb)
  have lv := RpCs.live h1
  have sR : Same R R1 := fun b u e => by
    rw [i2 fun z => by rw [(fin b z).2] at e; cases e]; exact e
  rw [List.nodup_append] at n
  obtain ⟨n1, n2, n3⟩ := n
  refine ⟨R1, ⟨a1, fun b u e => ?_, fun b hb => ?_, gs, [], h2, ⟨rfl, rfl⟩, by simpa using n2, fun b hb => ?_⟩, fun F' H' cs' T' fm s' => ?_⟩
  · by_cases q : b ∈ f
    · rw [i1 q] at e; exact e
    · rw [i2 q] at e; exact a2 b u e
  · rw [i2 fun z => hb (fin b z).1]; exact a3 b hb
  · have hb : b ∈ gs.flatten := by simpa using hb
    rw [i2 fun z => n3 b z b hb rfl]
    exact m b (List.mem_append_right _ hb)
  · obtain ⟨b1, b2, b3, ⟨fs', gs', k1, k2, n', m'⟩⟩ := s'
    have live' : ∀ b, b ∈ f → R1 b ≠ none := fun b hb => by rw [i1 hb]; exact lv b hb
    have heq : ∀ b ∈ fs.flatten, H' b = H b := fun b hb => by
      cases q : H b with
      | none => exact absurd q (lv b hb)
      | some u => exact b2 b u ((i1 hb).trans q)
    have fF : ∀ b ∈ f, F' b = none := fun b hb => by
      by_cases q : F' b = none
      · exact q
      · exact absurd (b3 b q) (live' b hb)
    have nf : ∀ b, b ∈ fs'.flatten ++ gs'.flatten → b ∉ f := fun b hb z => live' b z (m' b hb).2
    have lc : (T.map (·.1)).length = cs'.length := by
      have := k1.len.1
      simpa using this
    have ez1 : ((T.map (·.1)).zip cs').map (fun p => some p.1) = T.map fun p => some p.1 := by
      rw [show (fun p : V × C => some p.1) = (fun x => some x) ∘ (fun p : V × C => p.1) from rfl, ← List.map_map, List.map_fst_zip (by omega), List.map_map]
    have ez2 : ((T.map (·.1)).zip cs').map (·.2) = cs' := List.map_snd_zip (by omega)
    refine ⟨b1, fun b u e => b2 b u (sR b u e), fun b hb => ?_, fs, fs' ++ gs', RpCs.frame fm heq h1, ?_, ?_, fun b hb => ?_⟩
    · have z := b3 b hb
      cases q : R b with
      | none => rfl
      | some u => rw [sR b u q] at z; cases z
    · rw [List.map_append, List.map_append, ez1, ez2]
      exact k1.append k2
    · rw [List.flatten_append, List.nodup_append]
      exact ⟨n1, n', fun a ha b hb z => nf b hb (z ▸ ha)⟩
    · rw [List.flatten_append] at hb
      rcases List.mem_append.mp hb with hb | hb
      · exact ⟨fF b hb, (fin b hb).2⟩
      · obtain ⟨z1, z2⟩ := m' b hb
        rw [i2 (nf b hb)] at z2
        exact ⟨z1, z2⟩
end
end L2.M
namespace L2.M
open PySem PySem.Spec PyProof.Rows
def cD : C → Option D
  | .sh d => some d
  | .ls ds => some (.list ds)
  | _ => none
/-- a result of an operation, read where it came to -/
def RepC (K : PySem.W.Frag) (F H : Hp) (v : V) : C → Prop
  | .sh d => Rep K F v d
  | .ls ds => ∃ a vs, v = .ref a ∧ H a = some (.lst vs) ∧ F a = none ∧ Reps K F vs ds
  | _ => False
/-- what a pure operation leaves -/
structure Grow (K : PySem.W.Frag) (F H F' H' : Hp) (v : V) (c : C) : Prop where
  fm : Same F F'
  hm : Same H H'
  sub : Same F' H'
  ff : ∀ b, F b = none → F' b ≠ none → H b = none
  rep : RepC K F' H' v c
  new : ∀ (ds : List D) (a : Addr), c = .ls ds → v = .ref a → H a = none
/-- a heap that grew -/
structure Grw (F H F' H' : Hp) : Prop where
  fm : Same F F'
  hm : Same H H'
  sub : Same F' H'
  ff : ∀ b, F b = none → F' b ≠ none → H b = none
theorem Grow.grw {K : PySem.W.Frag} {F H F' H' : Hp} {v : V} {c : C} (g : Grow K F H F' H' v c) : Grw F H F' H' := ⟨g.fm, g.hm, g.sub, g.ff⟩
theorem Grw.refl {F H : Hp} (s : Same F H) : Grw F H F H := ⟨Same.refl F, Same.refl H, s, fun b h h' => absurd h h'⟩
theorem Grw.laid {F H : Hp} (s : Same F H) {p : Addr} {u : HO} (hp : H p = none) : Grw F H (upd F p u) (upd H p u) := by
  have fp : F p = none := s.free hp
  refine ⟨fun b x e => by rw [upd_ne (ne_of_none e fp)]; exact e, fun b x e => by rw [upd_ne (ne_of_none e hp)]; exact e, fun b x e => ?_, fun b h h' => ?_⟩
  · by_cases hb : b = p
    · subst hb; rw [upd_same] at e ⊢; exact e
    · rw [upd_ne hb] at e ⊢; exact s b x e
  · by_cases hb : b = p
    · subst hb; exact hp
    · rw [upd_ne hb] at h'; exact absurd h h'
section
variable {K : Ek} {F R H F' R' H' : Hp} {σ σ' : St} {ε ε' : Cs} {T T' T1 : Tms} {v w : V} {c c' : C} {i : Nat} {d : D}
theorem Sep.grow (s : Sep K F R H σ ε T) (g : Grw F H F' H') : Sep K F' R H' σ ε T := by
  obtain ⟨a1, a2, a3, ⟨fs, gs, h1, h2, n, m⟩⟩ := s
  have l1 := RpCs.live h1
  have l2 := RpCs.live h2
  have eq : ∀ b, H b ≠ none → H' b = H b := fun b hb => by
    cases q : H b with
    | none => exact absurd q hb
    | some u => exact g.hm b u q
  refine ⟨g.sub, a2.trans g.hm, fun b hb => ?_, fs, gs, RpCs.frame g.fm (fun b hb => eq b (l1 b hb)) h1, RpCs.frame g.fm (fun b hb => eq b (l2 b hb)) h2, n, fun b hb => ⟨?_, (m b hb).2⟩⟩
  · by_cases q : F b = none
    · exact a2.free (g.ff b q hb)
    · exact a3 b q
  · by_cases q : F' b = none
    · exact q
    · have z := g.ff b (m b hb).1 q
      rcases List.mem_append.mp hb with hb | hb
      · exact absurd z (l1 b hb)
      · exact absurd z (l2 b hb)
/-- what some temporaries hold, and what they may become -/
theorem Sep.opens (s : Sep K F R H σ ε (T1 ++ T)) : ∃ gs, RpCs K F H (T1.map fun p => some p.1) (T1.map (·.2)) gs ∧ gs.flatten.Nodup ∧ (∀ b ∈ gs.flatten, F b = none) ∧
    ∀ v c H' f, RpC K F H' (some v) c f → f.Nodup → (∀ b ∈ f, b ∈ gs.flatten ∨ H b = none) → (∀ b u, b ∉ gs.flatten → H b = some u → H' b = some u) → Sep K F R H' σ ε ((v, c) :: T) := by
  obtain ⟨a1, a2, a3, ⟨fs, gs, h1, h2, n, m⟩⟩ := s
  have split : ∀ (T1 : Tms) {gs : List (List Addr)}, RpCs K F H ((T1 ++ T).map fun p => some p.1) ((T1 ++ T).map (·.2)) gs → ∃ g1 g2, gs = g1 ++ g2 ∧ RpCs K F H (T1.map fun p => some p.1) (T1.map (·.2)) g1 ∧ RpCs K F H (T.map fun p => some p.1) (T.map (·.2)) g2 := by
    intro T1
    induction T1 with
    | nil => intro gs h; exact ⟨[], gs, rfl, ⟨rfl, rfl⟩, h⟩
    | cons x T1 ih =>
      intro gs h
      obtain ⟨o, r, f, fr, e1, e2, h3, h4⟩ := h
      obtain ⟨rfl, rfl⟩ := List.cons.inj e1
      obtain ⟨g1, g2, e3, h5, h6⟩ := ih h4
      exact ⟨f :: g1, g2, by rw [e2, e3]; rfl, ⟨_, _, _, _, rfl, rfl, h3, h5⟩, h6⟩
  obtain ⟨g1, g2, rfl, h3, h4⟩ := split T1 h2
  rw [List.flatten_append] at n m
  rw [List.nodup_append, List.nodup_append] at n
  obtain ⟨n1, ⟨n2, n4, n5⟩, n3⟩ := n
  refine ⟨g1, h3, n2, fun b hb => (m b (by simp [List.mem_append, hb])).1, fun v c H' f k1 k2 k3 k4 => ?_⟩
  have l1 := RpCs.live h1
  have l4 := RpCs.live h4
  have eq1 : ∀ b ∈ fs.flatten, H' b = H b := fun b hb => by
    cases q : H b with
    | none => exact absurd q (l1 b hb)
    | some u => exact k4 b u (fun z => n3 b hb b (List.mem_append_left _ z) rfl) q
  have eq2 : ∀ b ∈ g2.flatten, H' b = H b := fun b hb => by
    cases q : H b with
    | none => exact absurd q (l4 b hb)
    | some u => exact k4 b u (fun z => n5 b z b hb rfl) q
  have fin : ∀ b ∈ g1.flatten, F b = none ∧ R b = none := fun b hb => m b (by simp [List.mem_append, hb])
  refine ⟨fun b u e => k4 b u (fun z => by rw [(fin b z).1] at e; cases e) (a1 b u e), fun b u e => k4 b u (fun z => by rw [(fin b z).2] at e; cases e) (a2 b u e), a3, fs, f :: g2, RpCs.frame (Same.refl F) eq1 h1,
    ⟨_, _, _, _, rfl, rfl, k1, RpCs.frame (Same.refl F) eq2 h4⟩, ?_, fun b hb => ?_⟩
  · rw [List.flatten_cons, List.nodup_append, List.nodup_append]
    refine ⟨n1, ⟨k2, n4, fun a ha b hb z => ?_⟩, fun a ha b hb z => ?_⟩
    · subst z
      rcases k3 a ha with q | q
      · exact n5 a q a hb rfl
      · exact l4 a hb q
    · subst z
      rcases List.mem_append.mp hb with hb | hb
      · rcases k3 a hb with q | q
        · exact n3 a ha a (List.mem_append_left _ q) rfl
        · exact l1 a ha q
      · exact n3 a ha a (List.mem_append_right _ hb) rfl
  · simp only [List.flatten_cons, List.mem_append] at hb
    rcases hb with hb | hb | hb
    · exact m b (List.mem_append_left _ hb)
    · rcases k3 b hb with q | q
      · exact fin b q
      · exact ⟨a1.free q, a2.free q⟩
    · exact m b (List.mem_append_right _ (List.mem_append_right _ hb))
/-- some temporaries become one thing -/
theorem Sep.change (s : Sep K F R H σ ε (T1 ++ T)) (k : ∀ gs, RpCs K F H (T1.map fun p => some p.1) (T1.map (·.2)) gs → gs.flatten.Nodup → (∀ b ∈ gs.flatten, F b = none) → ∃ f, RpC K F H' (some v) c f ∧ f.Nodup ∧ (∀ b ∈ f, b ∈ gs.flatten ∨ H b = none) ∧ ∀ b u, b ∉ gs.flatten → H b = some u → H' b = some u) :
    Sep K F R H' σ ε ((v, c) :: T) := by
  obtain ⟨gs, g1, g2, g3, g4⟩ := s.opens
  obtain ⟨f, k1, k2, k3, k4⟩ := k gs g1 g2 g3
  exact g4 _ _ _ f k1 k2 k3 k4
/-- a new list -/
theorem Sep.newL (s : Sep K F R H σ ε T) {p : Addr} {vs : List V} {ds : List D} (hp : H p = none) (r : Reps K.1 F vs ds) : Sep K F R (upd H p (.lst vs)) σ ε ((.ref p, .ls ds) :: T) :=
  Sep.change (T1 := []) s fun gs h n _ => ⟨[p], ⟨p, vs, rfl, rfl, upd_same, r⟩, by simp, fun b hb => .inr (by rw [List.mem_singleton.mp hb]; exact hp), fun b u _ e => by rw [upd_ne (ne_of_none e hp)]; exact e⟩
theorem Sep.newF (s : Sep K F R H σ ε T) {p : Addr} {u : HO} (hp : H p = none) : Sep K (upd F p u) R (upd H p u) σ ε T := s.grow (Grw.laid s.sub hp)
theorem Sep.hd {a : Addr} {ds : List D} (s : Sep K F R H σ ε ((.ref a, .ls ds) :: T)) : ∃ vs, H a = some (.lst vs) ∧ Reps K.1 F vs ds ∧ F a = none := by
  obtain ⟨f, ⟨b, vs, e1, e2, e3, e4⟩, m⟩ := s.headT
  cases e1
  exact ⟨vs, e3, e4, (m a (by rw [e2]; exact List.mem_cons_self)).1⟩
theorem Sep.hdL {ds : List D} (s : Sep K F R H σ ε ((v, .ls ds) :: T)) : ∃ a vs, v = .ref a ∧ H a = some (.lst vs) ∧ F a = none ∧ Reps K.1 F vs ds := by
  obtain ⟨f, ⟨b, vs, e1, e2, e3, e4⟩, m⟩ := s.headT
  cases e1
  exact ⟨b, vs, rfl, e3, (m b (by rw [e2]; exact List.mem_cons_self)).1, e4⟩
/-- an own list rewritten -/
theorem Sep.wr {a : Addr} {ds es : List D} {ws : List V} (s : Sep K F R H σ ε ((.ref a, .ls ds) :: T)) (r : Reps K.1 F ws es) : Sep K F R (upd H a (.lst ws)) σ ε ((.ref a, .ls es) :: T) :=
  Sep.change (T1 := [(.ref a, .ls ds)]) s fun gs h n _ => by
    obtain ⟨o, r0, f, fr, e1, e2, ⟨b, vs, e3, e4, e5, e6⟩, h4⟩ := h
    obtain ⟨rfl, rfl⟩ := List.cons.inj e1
    cases e3
    have ha : a ∈ gs.flatten := by rw [e2, e4]; simp
    exact ⟨[a], ⟨a, ws, rfl, rfl, upd_same, r⟩, by simp, fun b hb => .inl (by rw [List.mem_singleton.mp hb]; exact ha), fun b u hb e => by rw [upd_ne (by rintro rfl; exact hb ha)]; exact e⟩
/-- what is held becomes frozen -/
theorem Sep.freeze (s : Sep K F R H σ ε ((v, c) :: T)) (h : cD c = some d) : ∃ F', Same F F' ∧ Rep K.1 F' v d ∧ Sep K F' R H σ ε T := by
  obtain ⟨a1, a2, a3, ⟨fs, gs, h1, ⟨o, r, f, fr, e1, e2, h2, h3⟩, n, m⟩⟩ := s
  subst e2
  obtain ⟨rfl, rfl⟩ := List.cons.inj e1
  let F' : Hp := fun b => if b ∈ f then H b else F b
  have i1 : ∀ {b}, b ∈ f → F' b = H b := fun {b} hb => if_pos hb
  have i2 : ∀ {b}, b ∉ f → F' b = F b := fun {b} hb => if_neg hb
  have fin : ∀ b, b ∈ f → F b = none ∧ R b = none := fun b hb => m b (by simp [hb])
  have fm : Same F F' := fun b u e => by
    rw [i2 fun z => by rw [(fin b z).1] at e; cases e]; exact e
  rw [List.flatten_cons, List.nodup_append, List.nodup_append] at n
  obtain ⟨n1, ⟨n2, n4, n5⟩, n3⟩ := n
  refine ⟨F', fm, ?_, ⟨fun b u e => ?_, a2, fun b hb => ?_, fs, fr, RpCs.frame fm (fun _ _ => rfl) h1, RpCs.frame fm (fun _ _ => rfl) h3, ?_, fun b hb => ?_⟩⟩
  · cases c with
    | no => cases h
    | sh d' =>
      cases h
      obtain ⟨_, w, e, q⟩ := h2
      cases e
      exact Rep.mono fm _ _ q
    | ls ds =>
      cases h
      obtain ⟨a, vs, e, e3, e4, e5⟩ := h2
      cases e
      exact ⟨a, vs, rfl, .inl (.inl ((i1 (by rw [e3]; exact List.mem_cons_self)).trans e4)), Reps.mono fm _ _ e5⟩
    | dc k kds => cases h
    | ob k cs => cases h
    | px _ _ _ _ => cases h
    | fn _ => cases h
    | fd _ => cases h
    | fk _ => cases h
  · by_cases q : b ∈ f
    · rw [i1 q] at e; exact e
    · rw [i2 q] at e; exact a1 b u e
  · by_cases q : b ∈ f
    · exact (fin b q).2
    · rw [i2 q] at hb; exact a3 b hb
  · rw [List.nodup_append]
    exact ⟨n1, n4, fun a ha b hb => n3 a ha b (List.mem_append_right _ hb)⟩
  · have q : b ∉ f := fun z => by
      rcases List.mem_append.mp hb with hb | hb
      · exact n3 b hb b (List.mem_append_left _ z) rfl
      · exact n5 b z b hb rfl
    rw [i2 q]
    refine m b ?_
    simp only [List.flatten_cons, List.mem_append] at hb ⊢
    rcases hb with hb | hb
    · exact .inl hb
    · exact .inr (.inr hb)
/-- a slot's cell frozen -/
theorem Sep.freezeAt (s : Sep K F R H σ ε T) (h : ε[i]? = some c) (hd : cD c = some d) : ∃ F' v, Same F F' ∧ σ[i]? = some (some v) ∧ Rep K.1 F' v d ∧ Sep K F' R H σ (ε.set i (.sh d)) T := by
  obtain ⟨v, hv⟩ := s.val h (by rintro rfl; cases hd)
  obtain ⟨F', fm, r, s'⟩ := (s.take h hv).freeze hd
  have := (s'.addSh r).put hv
  rw [List.set_set] at this
  exact ⟨F', v, fm, hv, r, this⟩
/-- a pure operation's result is held -/
theorem Sep.res (s : Sep K F R H σ ε T) (g : Grow K.1 F H F' H' v c) : Sep K F' R H' σ ε ((v, c) :: T) := by
  have s' := s.grow g.grw
  cases c with
  | no => exact g.rep.elim
  | sh d => exact s'.addSh g.rep
  | ls ds =>
    obtain ⟨a, vs, rfl, h1, h2, h3⟩ := g.rep
    have hn := g.new ds a rfl rfl
    -- the rest does not hold a
    obtain ⟨a1, a2, a3, ⟨fs, gs, k1, k2, n, m⟩⟩ := s
    obtain ⟨b1, b2, b3, ⟨fs', gs', k1', k2', n', m'⟩⟩ := s'
    have eq : ∀ b, H b ≠ none → H' b = H b := fun b hb => by
      cases q : H b with
      | none => exact absurd q hb
      | some u => exact g.hm b u q
    have q1 := RpCs.frame g.fm (fun b hb => eq b (RpCs.live k1 b hb)) k1
    have q2 := RpCs.frame g.fm (fun b hb => eq b (RpCs.live k2 b hb)) k2
    have na1 : a ∉ fs.flatten := fun z => RpCs.live k1 a z hn
    have na2 : a ∉ gs.flatten := fun z => RpCs.live k2 a z hn
    have fF : ∀ b, b ∈ fs.flatten ++ gs.flatten → F' b = none := fun b hb => by
      by_cases q : F' b = none
      · exact q
      · have z := g.ff b (m b hb).1 q
        rcases List.mem_append.mp hb with hb | hb
        · exact absurd z (RpCs.live k1 b hb)
        · exact absurd z (RpCs.live k2 b hb)
    refine ⟨b1, b2, b3, fs, [a] :: gs, q1, ⟨_, _, _, _, rfl, rfl, ⟨a, vs, rfl, rfl, h1, h3⟩, q2⟩, ?_, fun b hb => ?_⟩
    · rw [List.nodup_append] at n
      rw [List.flatten_cons, List.nodup_append, List.nodup_append]
      refine ⟨n.1, ⟨by simp, n.2.1, fun x hx y hy z => na2 (by rw [← List.mem_singleton.mp hx, z]; exact hy)⟩, fun x hx y hy z => ?_⟩
      subst z
      rcases List.mem_append.mp hy with hy | hy
      · exact na1 (by rw [← List.mem_singleton.mp hy]; exact hx)
      · exact n.2.2 x hx x hy rfl
    · simp only [List.flatten_cons, List.mem_append, List.mem_singleton] at hb
      rcases hb with hb | rfl | hb
      · exact ⟨fF b (List.mem_append_left _ hb), (m b (List.mem_append_left _ hb)).2⟩
      · exact ⟨h2, a2.free hn⟩
      · exact ⟨fF b (List.mem_append_right _ hb), (m b (List.mem_append_right _ hb)).2⟩
  | dc k kds => exact g.rep.elim
  | ob k cs => exact g.rep.elim
  | px _ _ _ _ => exact g.rep.elim
  | fn _ => exact g.rep.elim
  | fd _ => exact g.rep.elim
  | fk _ => exact g.rep.elim
end
abbrev EM := Cs → Option (C × Cs)
def tE (K : Ek) (m : EM) : TE := fun σ H Q => ∃ F R ε c ε', Sep K F R H σ ε [] ∧ m ε = some (c, ε') ∧ ∀ v F' H', Same F F' → Sep K F' R H' σ ε' [(v, c)] → Q v H'
/-- an operand: the object that a slot names (read when the operation is done), or a value of its own -/
inductive Opd where
  | pl (i : Nat) | tm (c : C)
inductive OpV (σ : St) : List V → List Opd → Prop where
  | nil : OpV σ [] []
  | pl {i : Nat} {v : V} {vs : List V} {os : List Opd} : σ[i]? = some (some v) → OpV σ vs os → OpV σ (v :: vs) (.pl i :: os)
  | tm {c : C} {v : V} {vs : List V} {os : List Opd} : OpV σ vs os → OpV σ (v :: vs) (.tm c :: os)
theorem OpV.len {σ : St} {vs : List V} {os : List Opd} (h : OpV σ vs os) : vs.length = os.length := by
  induction h with
  | nil => rfl
  | pl _ _ ih => simp [ih]
  | tm _ ih => simp [ih]
def tmO : List Opd → List V → Tms
  | .tm c :: os, v :: vs => (v, c) :: tmO os vs
  | .pl _ :: os, _ :: vs => tmO os vs
  | _, _ => []
abbrev OM := Cs → Option (Opd × Cs)
abbrev AM := Cs → Option (List Opd × Cs)
def tO (K : Ek) (m : OM) : TE := fun σ H Q => ∃ F R ε o ε', Sep K F R H σ ε [] ∧ m ε = some (o, ε') ∧ ∀ v F' H', Same F F' → OpV σ [v] [o] → Sep K F' R H' σ ε' (tmO [o] [v]) → Q v H'
def tA (K : Ek) (m : AM) : TA := fun σ H Q => ∃ F R ε os ε', Sep K F R H σ ε [] ∧ m ε = some (os, ε') ∧ ∀ vs F' H', Same F F' → OpV σ vs os → Sep K F' R H' σ ε' (tmO os vs) → Q vs H'
def mNil : AM := fun ε => some ([], ε)
def mCons (m : OM) (r : AM) : AM := fun ε => do
  let (o, ε1) ← m ε
  let (os, ε2) ← r ε1
  some (o :: os, ε2)
theorem tA_nil {K : Ek} {σ : St} {H : Hp} {Q : List V → Hp → Prop} (h : tA K mNil σ H Q) : tNil σ H Q := by
  obtain ⟨F, R, ε, os, ε', o, e, q⟩ := h
  cases e
  exact q [] F H (Same.refl F) .nil o
theorem tA_cons {K : Ek} {m : OM} {r : AM} {σ : St} {H : Hp} {Q : List V → Hp → Prop} (h : tA K (mCons m r) σ H Q) : tCons (tO K m) (tA K r) σ H Q := by
  obtain ⟨F, R, ε, os, ε', o, e, q⟩ := h
  unfold mCons at e
  cases e1 : m ε with
  | none => rw [e1] at e; cases e
  | some p =>
    obtain ⟨o1, ε1⟩ := p
    rw [e1] at e
    cases e2 : r ε1 with
    | none => simp [e2] at e
    | some p2 =>
      obtain ⟨os2, ε2⟩ := p2
      simp [e2] at e
      obtain ⟨rfl, rfl⟩ := e
      refine ⟨F, R, ε, o1, ε1, o, e1, fun v F1 H1 fm1 v1 s1 => ?_⟩
      cases v1 with
      | pl hv _ => exact ⟨F1, R, ε1, os2, ε2, s1, e2, fun vs F2 H2 fm2 v2 s2 => q (v :: vs) F2 H2 (fm1.trans fm2) (.pl hv v2) s2⟩
      | tm _ =>
        obtain ⟨R1, _, s1', back⟩ := s1.hide
        exact ⟨F1, R1, ε1, os2, ε2, s1', e2, fun vs F2 H2 fm2 v2 s2 => q (v :: vs) F2 H2 (fm1.trans fm2) (.tm v2) (back F2 H2 σ ε2 _ fm2 s2)⟩
def bor (ε : Cs) : Opd → Option D
  | .pl i => match ε[i]? with
    | some (.sh d) => some d
    | some (.ls ds) => some (.list ds)
    | _ => none
  | .tm (.sh d) => some d
  | .tm (.ls ds) => some (.list ds)
  | .tm _ => none
def bors (ε : Cs) : List Opd → Option (List D)
  | [] => some []
  | o :: os => do
    let d ← bor ε o
    let ds ← bors ε os
    some (d :: ds)
def RepB (K : PySem.W.Frag) (F H : Hp) (v : V) (d : D) : Prop := Rep K F v d ∨ ∃ a ws ds, v = .ref a ∧ d = .list ds ∧ H a = some (.lst ws) ∧ Reps K F ws ds
inductive RepBs (K : PySem.W.Frag) (F H : Hp) : List V → List D → Prop where
  | nil : RepBs K F H [] []
  | cons {v : V} {d : D} {vs : List V} {ds : List D} : RepB K F H v d → RepBs K F H vs ds → RepBs K F H (v :: vs) (d :: ds)
section
variable {K : Ek} {F R H : Hp} {σ : St} {ε : Cs} {T : Tms}
theorem Sep.repB_pl {i : Nat} {d : D} {v : V} (s : Sep K F R H σ ε T) (hv : σ[i]? = some (some v)) (e1 : bor ε (.pl i) = some d) : RepB K.1 F H v d := by
  unfold bor at e1
  cases e3 : ε[i]? with
  | none => simp [e3] at e1
  | some c =>
    cases c with
    | no => simp [e3] at e1
    | sh d' =>
      simp [e3] at e1
      subst e1
      obtain ⟨w, h1, h2⟩ := s.sh e3
      rw [hv] at h1
      cases h1
      exact .inl h2
    | ls es =>
      simp [e3] at e1
      subst e1
      obtain ⟨a, ws, h1, h2, h4⟩ := s.lst e3
      rw [hv] at h1
      cases h1
      exact .inr ⟨a, ws, es, rfl, rfl, h2, h4⟩
    | dc _ _ => simp [e3] at e1
    | ob _ _ => simp [e3] at e1
    | px _ _ _ _ => simp [e3] at e1
    | fn _ => simp [e3] at e1
    | fd _ => simp [e3] at e1
    | fk _ => simp [e3] at e1
theorem Sep.repB_tm {c : C} {d : D} {v : V} (s : Sep K F R H σ ε ((v, c) :: T)) (e1 : bor ε (.tm c) = some d) : RepB K.1 F H v d := by
  cases c with
  | no => cases e1
  | sh d' => cases e1; exact .inl s.repT
  | ls es =>
    cases e1
    obtain ⟨a, vs, rfl, h1, h2, h3⟩ := s.hdL
    exact .inr ⟨a, vs, es, rfl, rfl, h1, h3⟩
  | dc _ _ => cases e1
  | ob _ _ => cases e1
  | px _ _ _ _ => cases e1
  | fn _ => cases e1
  | fd _ => cases e1
  | fk _ => cases e1
theorem bors_ok : ∀ {os : List Opd} {vs : List V} {T : Tms} {ds : List D}, Sep K F R H σ ε (tmO os vs ++ T) → OpV σ vs os → bors ε os = some ds → RepBs K.1 F H vs ds
  | [], vs, T, ds, s, h, e => by
    cases h
    cases e
    exact .nil
  | o :: os, vs, T, ds, s, h, e => by
    unfold bors at e
    cases e1 : bor ε o with
    | none => simp [e1] at e
    | some d =>
      cases e2 : bors ε os with
      | none => simp [e1, e2] at e
      | some ds2 =>
        simp [e1, e2] at e
        subst e
        cases h with
        | pl hv h2 => exact .cons (s.repB_pl hv e1) (bors_ok s h2 e2)
        | tm h2 => exact .cons (s.repB_tm e1) (bors_ok s.drop h2 e2)
end
/-- an operation by its table: f tells its answer, r is what the hand layer asks -/
def FnB (K : PySem.W.Frag) (f : List D → Option C) (r : List V → Hp → VK → Prop) : Prop :=
  ∀ F H vs ds c Q, Same F H → RepBs K F H vs ds → f ds = some c → (∀ v F' H', Grow K F H F' H' v c → Q v H') → r vs H Q
def mOp (f : List D → Option C) (ma : AM) : EM := fun ε => do
  let (os, ε1) ← ma ε
  let ds ← bors ε1 os
  let c ← f ds
  some (c, ε1)
theorem op_sem {K : Ek} {f : List D → Option C} {r : List V → Hp → VK → Prop} (hf : FnB K.1 f r) {ma : AM} {σ : St} {H : Hp} {Q : VK} (h : tE K (mOp f ma) σ H Q) : tA K ma σ H (fun vs H' => r vs H' Q) := by
  obtain ⟨F, R, ε, c, ε', o, e, q⟩ := h
  unfold mOp at e
  cases e1 : ma ε with
  | none => simp [e1] at e
  | some p =>
    obtain ⟨os, ε1⟩ := p
    cases e2 : bors ε1 os with
    | none => simp [e1, e2] at e
    | some ds =>
      cases e3 : f ds with
      | none => simp [e1, e2, e3] at e
      | some c' =>
        simp [e1, e2, e3] at e
        obtain ⟨rfl, rfl⟩ := e
        refine ⟨F, R, ε, os, ε1, o, e1, fun vs F1 H1 fm1 v1 s1 => ?_⟩
        rw [← List.append_nil (tmO os vs)] at s1
        refine hf F1 H1 vs ds c' Q s1.sub (bors_ok s1 v1 e2) e3 fun v F2 H2 g => ?_
        exact q v F2 H2 (fm1.trans g.fm) ((s1.drops _).res g)
end L2.M
namespace L2.M
open PySem PySem.Spec PyProof.Rows
section
variable {X : Cx} {e : Expr} {t t' : TE}
theorem _root_.L2.PE.weak (h : PE X e t) (w : ∀ σ H Q, t' σ H Q → t σ H Q) : PE X e t' := ⟨fun pins s σ H Q I q => h.run pins s σ H Q I (w σ H Q q)⟩
theorem _root_.L2.PT.weak {t t' : TT} (h : PT X e t) (w : ∀ σ H Q, t' σ H Q → t σ H Q) : PT X e t' := ⟨fun pins s σ H Q I q => h.run pins s σ H Q I (w σ H Q q)⟩
theorem _root_.L2.PW.weak {t t' : TT} (h : PW X e t) (w : ∀ σ H Q, t' σ H Q → t σ H Q) : PW X e t' := ⟨fun wh pins s σ H Q I q => h.run wh pins s σ H Q I (w σ H Q q)⟩
theorem _root_.L2.PA.weak {es : List Expr} {t t' : TA} (h : PA X es t) (w : ∀ σ H Q, t' σ H Q → t σ H Q) : PA X es t' := ⟨fun pos pins s σ H Q I q => h.run pos pins s σ H Q I (w σ H Q q)⟩
end
theorem tO_mono {K : Ek} {m : OM} {σ : St} {H : Hp} {Q Q' : VK} (h : tO K m σ H Q) (w : ∀ v H', Q v H' → Q' v H') : tO K m σ H Q' := by
  obtain ⟨F, R, ε, o, ε', a, b, c⟩ := h
  exact ⟨F, R, ε, o, ε', a, b, fun v F' H' fm s r => w _ _ (c v F' H' fm s r)⟩
theorem tA_mono {K : Ek} {m : AM} {σ : St} {H : Hp} {Q Q' : List V → Hp → Prop} (h : tA K m σ H Q) (w : ∀ v H', Q v H' → Q' v H') : tA K m σ H Q' := by
  obtain ⟨F, R, ε, o, ε', a, b, c⟩ := h
  exact ⟨F, R, ε, o, ε', a, b, fun v F' H' fm s r => w _ _ (c v F' H' fm s r)⟩
def mK (d : D) : EM := fun ε => some (.sh d, ε)
theorem tE_k {K : Ek} {d : D} {v : V} (r : ∀ F, Rep K.1 F v d) {σ : St} {H : Hp} {Q : VK} (h : tE K (mK d) σ H Q) : tC v σ H Q := by
  obtain ⟨F, R, ε, c, ε', o, e, q⟩ := h
  cases e
  exact q v F H (Same.refl F) (o.addSh (r F))
section
variable {X : Cx} {pos : Pos} {j : Nat}
theorem me_int {i : Int} : PE X (.Constant (.int i) j pos) (tE X.E (mK (.int i))) := pe_int.weak fun _ _ _ => tE_k (d := .int i) (v := .int i) fun _ => by simp [Rep]
theorem me_str {i : Str} : PE X (.Constant (.str i) j pos) (tE X.E (mK (.str i))) := pe_str.weak fun _ _ _ => tE_k (d := .str i) (v := .str i) fun _ => by simp [Rep]
theorem me_bl {i : Bool} : PE X (.Constant (.bool i) j pos) (tE X.E (mK (.bool i))) := pe_bl.weak fun _ _ _ => tE_k (d := .bool i) (v := .bl i) fun _ => by simp [Rep]
theorem me_non : PE X (.Constant .none j pos) (tE X.E (mK .none)) := pe_non.weak fun _ _ _ => tE_k (d := .none) (v := .non) fun _ => by simp [Rep]
end
def mPl (i : Nat) : OM := fun ε => match ε[i]? with
  | some (.sh _) => some (.pl i, ε)
  | some (.ls _) => some (.pl i, ε)
  | some (.dc _ _) => some (.pl i, ε)
  | some (.ob _ _) => some (.pl i, ε)
  | some (.px _ _ _ _) => some (.pl i, ε)
  | some (.fn _) => some (.pl i, ε)
  | some (.fd _) => some (.pl i, ε)
  | some (.fk _) => some (.pl i, ε)
  | _ => none
theorem mPl_eq {i : Nat} {ε ε' : Cs} {o : Opd} (h : mPl i ε = some (o, ε')) : o = .pl i ∧ ε' = ε ∧ ∃ c, ε[i]? = some c ∧ c ≠ .no := by
  unfold mPl at h
  split at h
  · rename_i hh; cases h; exact ⟨rfl, rfl, _, hh, fun z => nomatch z⟩
  · rename_i hh; cases h; exact ⟨rfl, rfl, _, hh, fun z => nomatch z⟩
  · rename_i hh; cases h; exact ⟨rfl, rfl, _, hh, fun z => nomatch z⟩
  · rename_i hh; cases h; exact ⟨rfl, rfl, _, hh, fun z => nomatch z⟩
  · rename_i hh; cases h; exact ⟨rfl, rfl, _, hh, fun z => nomatch z⟩
  · rename_i hh; cases h; exact ⟨rfl, rfl, _, hh, fun z => nomatch z⟩
  · rename_i hh; cases h; exact ⟨rfl, rfl, _, hh, fun z => nomatch z⟩
  · rename_i hh; cases h; exact ⟨rfl, rfl, _, hh, fun z => nomatch z⟩
  · cases h
theorem mo_name {X : Cx} {i : Nat} {x : Str} {pos : Pos} (h : PE X (.Name x pos) (tVar i)) : PE X (.Name x pos) (tO X.E (mPl i)) := h.weak fun σ H Q q => by
  obtain ⟨F, R, ε, o, ε', s, e, q⟩ := q
  obtain ⟨rfl, rfl, c, hc, hn⟩ := mPl_eq e
  obtain ⟨v, hv⟩ := s.val hc hn
  exact ⟨v, hv, q v F H (Same.refl F) (.pl hv .nil) s⟩
/-- a name as a value: an owned list is frozen -/
def mVar (i : Nat) : EM := fun ε => match ε[i]? with
  | some (.sh d) => some (.sh d, ε)
  | some (.ls ds) => some (.sh (.list ds), ε.set i (.sh (.list ds)))
  | _ => none
theorem Sep.frzVal {K : Ek} {F R H : Hp} {σ : St} {ε : Cs} {i : Nat} {c : C} {d : D} (s : Sep K F R H σ ε []) (h : ε[i]? = some c) (hd : cD c = some d) {Q : VK} (q : ∀ v F' H', Same F F' → Sep K F' R H' σ (ε.set i (.sh d)) [(v, .sh d)] → Q v H') : ∃ v, σ[i]? = some (some v) ∧ Q v H := by
  obtain ⟨F', v, fm, hv, r, s'⟩ := s.freezeAt h hd
  exact ⟨v, hv, q v F' H fm (s'.addSh r)⟩
theorem me_name {X : Cx} {i : Nat} {x : Str} {pos : Pos} (h : PE X (.Name x pos) (tVar i)) : PE X (.Name x pos) (tE X.E (mVar i)) := h.weak fun σ H Q q => by
  obtain ⟨F, R, ε, c, ε', s, e, q⟩ := q
  unfold mVar at e
  split at e
  · rename_i d hd
    cases e
    obtain ⟨v, h1, h2⟩ := s.sh hd
    exact ⟨v, h1, q v F H (Same.refl F) (s.addSh h2)⟩
  · rename_i ds hd
    cases e
    exact s.frzVal hd rfl q
  · cases e
def mTm (m : EM) : OM := fun ε => do
  let (c, ε1) ← m ε
  some (.tm c, ε1)
theorem tO_tm {K : Ek} {m : EM} {σ : St} {H : Hp} {Q : VK} (h : tO K (mTm m) σ H Q) : tE K m σ H Q := by
  obtain ⟨F, R, ε, o, ε', s, e, q⟩ := h
  unfold mTm at e
  cases e1 : m ε with
  | none => simp [e1] at e
  | some p =>
    obtain ⟨c, ε1⟩ := p
    simp [e1] at e
    obtain ⟨rfl, rfl⟩ := e
    exact ⟨F, R, ε, c, ε1, s, e1, fun v F' H' fm p => q v F' H' fm (.tm .nil) p⟩
theorem mo_tm {X : Cx} {e : Expr} {m : EM} (h : PE X e (tE X.E m)) : PE X e (tO X.E (mTm m)) := h.weak fun _ _ _ => tO_tm
def fzO : Opd → Cs → Option (D × Cs)
  | .pl i, ε => match ε[i]? with
    | some (.sh d) => some (d, ε)
    | some (.ls ds) => some (.list ds, ε.set i (.sh (.list ds)))
    | _ => none
  | .tm (.sh d), ε => some (d, ε)
  | .tm (.ls ds), ε => some (.list ds, ε)
  | .tm _, _ => none
def fzs : List Opd → Cs → Option (List D × Cs)
  | [], ε => some ([], ε)
  | o :: os, ε => do
    let (d, ε1) ← fzO o ε
    let (ds, ε2) ← fzs os ε1
    some (d :: ds, ε2)
section
variable {K : Ek} {F R H : Hp} {σ : St} {ε ε' : Cs} {T : Tms}
theorem fzO_pl {i : Nat} {v : V} {d : D} (s : Sep K F R H σ ε T) (hv : σ[i]? = some (some v)) (e : fzO (.pl i) ε = some (d, ε')) : ∃ F', Same F F' ∧ Rep K.1 F' v d ∧ Sep K F' R H σ ε' T := by
  have own : ∀ {c : C}, ε[i]? = some c → cD c = some d → ε' = ε.set i (.sh d) → ∃ F', Same F F' ∧ Rep K.1 F' v d ∧ Sep K F' R H σ ε' T := fun {c} h1 h2 h3 => by
    obtain ⟨F', w, fm, hw, r, s'⟩ := s.freezeAt h1 h2
    rw [hv] at hw
    cases hw
    exact ⟨F', fm, r, h3 ▸ s'⟩
  unfold fzO at e
  simp only at e
  split at e
  · rename_i d' hd
    cases e
    obtain ⟨w, h1, h2⟩ := s.sh hd
    rw [hv] at h1
    cases h1
    exact ⟨F, Same.refl F, h2, s⟩
  · rename_i ds hd
    cases e
    exact own hd rfl rfl
  · cases e
theorem fzO_tm {c : C} {v : V} {d : D} (s : Sep K F R H σ ε ((v, c) :: T)) (e : fzO (.tm c) ε = some (d, ε')) : ε' = ε ∧ ∃ F', Same F F' ∧ Rep K.1 F' v d ∧ Sep K F' R H σ ε T := by
  have h : cD c = some d ∧ ε' = ε := by
    unfold fzO at e
    split at e
    · rename_i h; cases h
    · rename_i h; cases h; cases e; exact ⟨rfl, rfl⟩
    · rename_i h; cases h; cases e; exact ⟨rfl, rfl⟩
    · cases e
  exact ⟨h.2, s.freeze h.1⟩
end
theorem fzs_ok {K : Ek} {R H : Hp} {σ : St} {T : Tms} : ∀ {os : List Opd} {vs : List V} {F : Hp} {ε ε' : Cs} {ds : List D}, Sep K F R H σ ε (tmO os vs ++ T) → OpV σ vs os → fzs os ε = some (ds, ε') → ∃ F', Same F F' ∧ Reps K.1 F' vs ds ∧ Sep K F' R H σ ε' T
  | [], vs, F, ε, ε', ds, s, h, e => by
    cases h
    cases e
    exact ⟨F, Same.refl F, rfl, s⟩
  | o :: os, vs, F, ε, ε', ds, s, h, e => by
    unfold fzs at e
    cases e1 : fzO o ε with
    | none => simp [e1] at e
    | some p =>
      obtain ⟨d, ε1⟩ := p
      cases e2 : fzs os ε1 with
      | none => simp [e1, e2] at e
      | some p2 =>
        obtain ⟨ds2, ε2⟩ := p2
        simp [e1, e2] at e
        obtain ⟨rfl, rfl⟩ := e
        cases h with
        | @pl _ v vs' _ hv h2 =>
          obtain ⟨F1, fm1, r1, s1⟩ := fzO_pl s hv e1
          obtain ⟨F2, fm2, r2, s2⟩ := fzs_ok (os := os) (vs := vs') s1 h2 e2
          exact ⟨F2, fm1.trans fm2, ⟨_, _, rfl, Rep.mono fm2 _ _ r1, r2⟩, s2⟩
        | tm h2 =>
          obtain ⟨rfl, F1, fm1, r1, s1⟩ := fzO_tm s e1
          obtain ⟨F2, fm2, r2, s2⟩ := fzs_ok s1 h2 e2
          exact ⟨F2, fm1.trans fm2, ⟨_, _, rfl, Rep.mono fm2 _ _ r1, r2⟩, s2⟩
def lend : List Opd → Cs → Option (List C × Cs)
  | [], ε => some ([], ε)
  | .pl i :: os, ε => match ε[i]? with
    | some (.sh d) => do
      let (cs, ε1) ← lend os ε
      some (.sh d :: cs, ε1)
    | some .no => none
    | none => none
    | some c => do
      let (cs, ε1) ← lend os (ε.set i .no)
      some (c :: cs, ε1)
  | .tm c :: os, ε => do
    let (cs, ε1) ← lend os ε
    some (c :: cs, ε1)
theorem lend_ok {K : Ek} {F H : Hp} {σ : St} {T : Tms} : ∀ {os : List Opd} {vs : List V} {R : Hp} {ε ε' : Cs} {cs : List C}, Sep K F R H σ ε (tmO os vs ++ T) → OpV σ vs os → lend os ε = some (cs, ε') → Sep K F R H σ ε' (vs.zip cs ++ T) ∧ cs.length = os.length
  | [], vs, R, ε, ε', cs, s, h, e => by
    cases h
    cases e
    exact ⟨s, rfl⟩
  | .tm c :: os, vs, R, ε, ε', cs, s, h, e => by
    unfold lend at e
    cases e2 : lend os ε with
    | none => simp [e2] at e
    | some p =>
      obtain ⟨cs2, ε2⟩ := p
      simp [e2] at e
      obtain ⟨rfl, rfl⟩ := e
      cases h with
      | tm h2 =>
        obtain ⟨R1, _, s1, back⟩ := s.hide
        obtain ⟨s2, l2⟩ := lend_ok s1 h2 e2
        exact ⟨back F H σ ε2 _ (Same.refl F) s2, by simp [l2]⟩
  | .pl i :: os, vs, R, ε, ε', cs, s, h, e => by
    cases h with
    | @pl _ v vs' _ hv h2 =>
      have fin : ∀ {c : C} {ε1 : Cs}, Sep K F R H σ ε1 ((v, c) :: (tmO os vs' ++ T)) → (do let (cs, ε2) ← lend os ε1; some (c :: cs, ε2)) = some (cs, ε') → Sep K F R H σ ε' ((v :: vs').zip cs ++ T) ∧ cs.length = (Opd.pl i :: os).length := fun {c ε1} s1 e => by
        cases e2 : lend os ε1 with
        | none => simp [e2] at e
        | some p =>
          obtain ⟨cs2, ε2⟩ := p
          simp [e2] at e
          obtain ⟨rfl, rfl⟩ := e
          obtain ⟨R1, _, s2, back⟩ := s1.hide
          obtain ⟨s3, l3⟩ := lend_ok s2 h2 e2
          exact ⟨back F H σ ε2 _ (Same.refl F) s3, by simp [l3]⟩
      unfold lend at e
      cases hc : ε[i]? with
      | none => simp [hc] at e
      | some c =>
        cases c with
        | no => simp [hc] at e
        | sh d => exact fin (s.copy hc hv) (by simpa [hc] using e)
        | ls ds => exact fin (s.take hc hv) (by simpa [hc] using e)
        | dc k ds => exact fin (s.take hc hv) (by simpa [hc] using e)
        | ob k ds => exact fin (s.take hc hv) (by simpa [hc] using e)
        | px _ _ _ _ => exact fin (s.take hc hv) (by simpa [hc] using e)
        | fn _ => exact fin (s.take hc hv) (by simpa [hc] using e)
        | fd _ => exact fin (s.take hc hv) (by simpa [hc] using e)
        | fk _ => exact fin (s.take hc hv) (by simpa [hc] using e)
def tTupH (t : TA) : TE := fun σ H Q => t σ H fun xs H1 => xs.length ≤ sizeLine ∧ ∀ (p : Addr) (o : Obj), o.dict = none → H1 p = none → Q (.ref p) (upd H1 p (.frz o (.tup xs)))
/-- a tuple is laid, known to have no dict -/
theorem pe_tupH {X : Cx} {es : List Expr} {t : TA} {x1 : Nat} {pos : Pos} (h : PA X es t) : PE X (.Tuple es x1 pos) (tTupH t) := by
  refine ⟨fun pins s σ H Q I hq => ?_⟩
  refine wpAny_Tuple_spliced (thn (h.run pos pins s σ H _ I hq) fun us s1 ⟨xs, H1, I1, r, z, q⟩ => ⟨by rw [← r.length]; exact z, ?_⟩)
  have hf : H1 s1.heap.objs.size = none := I1.hok.fresh (Nat.le_refl _)
  refine ⟨.ref s1.heap.objs.size, upd H1 s1.heap.objs.size (.frz { cls := .type "tuple", data := .seq us.toArray } (.tup xs)), I1.laid (t' := s1.toks) (fun b u e => Heap.get?_push_of_some _ e) (Nat.le_refl _) ?_, rfl, q _ _ rfl hf⟩
  exact ⟨Heap.get?_push_size _ rfl, z, us, r, IsTup.new _ _⟩
def mTup (ma : AM) : EM := fun ε => do
  let (os, ε1) ← ma ε
  let (ds, ε2) ← fzs os ε1
  if ds.length ≤ sizeLine then some (.sh (.tuple ds), ε2) else none
def mLst (ma : AM) : EM := fun ε => do
  let (os, ε1) ← ma ε
  let (ds, ε2) ← fzs os ε1
  if ds.length ≤ sizeLine then some (.ls ds, ε2) else none
/-- a list of own things -/
def mLstN (ma : AM) : EM := fun ε => do
  let (os, ε1) ← ma ε
  let (cs, ε2) ← lend os ε1
  if cs.length ≤ sizeLine then some (.ob .ls cs, ε2) else none
theorem tE_tup {K : Ek} {ma : AM} {σ : St} {H : Hp} {Q : VK} (h : tE K (mTup ma) σ H Q) : tTupH (tA K ma) σ H Q := by
  obtain ⟨F, R, ε, c, ε', s, e, q⟩ := h
  unfold mTup at e
  cases e1 : ma ε with
  | none => simp [e1] at e
  | some p =>
    obtain ⟨os, ε1⟩ := p
    cases e2 : fzs os ε1 with
    | none => simp [e1, e2] at e
    | some p2 =>
      obtain ⟨ds, ε2⟩ := p2
      simp [e1, e2] at e
      obtain ⟨hl, rfl, rfl⟩ := e
      refine ⟨F, R, ε, os, ε1, s, e1, fun vs F1 H1 fm1 v1 s1 => ?_⟩
      rw [← List.append_nil (tmO os vs)] at s1
      obtain ⟨F2, fm2, r2, s2⟩ := fzs_ok s1 v1 e2
      refine ⟨by rw [r2.length]; exact hl, fun p o ho hp => ?_⟩
      have g := Grw.laid (u := .frz o (.tup vs)) s2.sub hp
      exact q _ _ _ ((fm1.trans fm2).trans g.fm) ((s2.grow g).addSh ⟨p, vs, rfl, ⟨o, ho, upd_same⟩, Reps.mono g.fm _ _ r2⟩)
theorem tE_lst {K : Ek} {ma : AM} {σ : St} {H : Hp} {Q : VK} (h : tE K (mLst ma) σ H Q) : tLst (tA K ma) σ H Q := by
  obtain ⟨F, R, ε, c, ε', s, e, q⟩ := h
  unfold mLst at e
  cases e1 : ma ε with
  | none => simp [e1] at e
  | some p =>
    obtain ⟨os, ε1⟩ := p
    cases e2 : fzs os ε1 with
    | none => simp [e1, e2] at e
    | some p2 =>
      obtain ⟨ds, ε2⟩ := p2
      simp [e1, e2] at e
      obtain ⟨hl, rfl, rfl⟩ := e
      refine ⟨F, R, ε, os, ε1, s, e1, fun vs F1 H1 fm1 v1 s1 => ?_⟩
      rw [← List.append_nil (tmO os vs)] at s1
      obtain ⟨F2, fm2, r2, s2⟩ := fzs_ok s1 v1 e2
      refine ⟨by rw [r2.length]; exact hl, fun p hp => ?_⟩
      exact q _ _ _ (fm1.trans fm2) (s2.newL hp r2)
section
variable {X : Cx} {es : List Expr} {m : AM} {pos : Pos} {k : Nat}
theorem me_tup (h : PA X es (tA X.E m)) : PE X (.Tuple es k pos) (tE X.E (mTup m)) := (pe_tupH h).weak fun _ _ _ => tE_tup
theorem me_lst (h : PA X es (tA X.E m)) : PE X (.List es pos) (tE X.E (mLst m)) := (pe_lst h).weak fun _ _ _ => tE_lst
theorem ma_nil : PA X [] (tA X.E mNil) := pa_nil.weak fun _ _ _ => tA_nil
end
def mU (f : D → Option C) (a : OM) : EM := fun ε => do
  let (o1, ε1) ← a ε
  let d1 ← bor ε1 o1
  let c ← f d1
  some (c, ε1)
def mB (f : D → D → Option C) (a b : OM) : EM := fun ε => do
  let (o1, ε1) ← a ε
  let (o2, ε2) ← b ε1
  let d1 ← bor ε2 o1
  let d2 ← bor ε2 o2
  let c ← f d1 d2
  some (c, ε2)
def Fn1 (K : PySem.W.Frag) (f : D → Option C) (r : V → Hp → VK → Prop) : Prop :=
  ∀ F H x d c Q, Same F H → RepB K F H x d → f d = some c → (∀ v F' H', Grow K F H F' H' v c → Q v H') → r x H Q
def Fn2 (K : PySem.W.Frag) (f : D → D → Option C) (r : V → V → Hp → VK → Prop) : Prop :=
  ∀ F H x y d e c Q, Same F H → RepB K F H x d → RepB K F H y e → f d e = some c → (∀ v F' H', Grow K F H F' H' v c → Q v H') → r x y H Q
def lf1 (f : D → Option C) : List D → Option C | [a] => f a | _ => none
def lf2 (f : D → D → Option C) : List D → Option C | [a, b] => f a b | _ => none
theorem mU_eq (f : D → Option C) (a : OM) : mU f a = mOp (lf1 f) (mCons a mNil) := by
  funext ε
  unfold mU mOp mCons mNil
  cases a ε with
  | none => rfl
  | some p =>
    obtain ⟨o, ε1⟩ := p
    simp [bors]
    cases bor ε1 o <;> rfl
theorem mB_eq (f : D → D → Option C) (a b : OM) : mB f a b = mOp (lf2 f) (mCons a (mCons b mNil)) := by
  funext ε
  unfold mB mOp mCons mNil
  cases a ε with
  | none => rfl
  | some p =>
    obtain ⟨o, ε1⟩ := p
    cases hb : b ε1 with
    | none => simp [hb]
    | some p2 =>
      obtain ⟨o2, ε2⟩ := p2
      simp [hb, bors]
      cases bor ε2 o <;> simp
      cases bor ε2 o2 <;> rfl
theorem RepBs.one {K : PySem.W.Frag} {F H : Hp} {vs : List V} {d : D} (h : RepBs K F H vs [d]) : ∃ x, vs = [x] ∧ RepB K F H x d := by
  cases h with
  | cons h t => cases t; exact ⟨_, rfl, h⟩
theorem RepBs.two {K : PySem.W.Frag} {F H : Hp} {vs : List V} {d e : D} (h : RepBs K F H vs [d, e]) : ∃ x y, vs = [x, y] ∧ RepB K F H x d ∧ RepB K F H y e := by
  cases h with
  | cons h t =>
    obtain ⟨y, rfl, h2⟩ := t.one
    exact ⟨_, y, rfl, h, h2⟩
theorem tE_u {K : Ek} {f : D → Option C} {r : V → Hp → VK → Prop} (hf : Fn1 K.1 f r) {a : OM} {σ : St} {H : Hp} {Q : VK} (h : tE K (mU f a) σ H Q) : tO K a σ H fun x H1 => r x H1 Q := by
  rw [mU_eq] at h
  have hB : FnB K.1 (lf1 f) (fun vs H Q => ∃ x, vs = [x] ∧ r x H Q) := by
    intro F H vs ds c Q s hr e q
    match ds, e with
    | [d], e =>
      obtain ⟨x, rfl, h1⟩ := hr.one
      exact ⟨x, rfl, hf F H x d c Q s h1 e q⟩
  have := tA_cons (op_sem hB h)
  refine tO_mono this fun v H' h2 => ?_
  have h3 := tA_nil h2
  obtain ⟨x, e, h4⟩ := h3
  cases e
  exact h4
theorem tE_b {K : Ek} {f : D → D → Option C} {r : R2} (hf : Fn2 K.1 f r) {a b : OM} {σ : St} {H : Hp} {Q : VK} (h : tE K (mB f a b) σ H Q) : tOp r (tO K a) (tO K b) σ H Q := by
  rw [mB_eq] at h
  have hB : FnB K.1 (lf2 f) (fun vs H Q => ∃ x y, vs = [x, y] ∧ r x y H Q) := by
    intro F H vs ds c Q s hr e q
    match ds, e with
    | [d, d2], e =>
      obtain ⟨x, y, rfl, h1, h2⟩ := hr.two
      exact ⟨x, y, rfl, hf F H x y d d2 c Q s h1 h2 e q⟩
  have := tA_cons (op_sem hB h)
  refine tO_mono this fun v H' h2 => ?_
  refine tO_mono (tA_cons h2) fun w H'' h3 => ?_
  have h4 := tA_nil h3
  obtain ⟨x, y, e, h5⟩ := h4
  cases e
  exact h5
section
variable {X : Cx} {a b : Expr} {ma mb : OM} {pos : Pos}
theorem me_bin {op : Operator} {f : D → D → Option C} {r : R2} (ho : OpR X (binaryOp op) r) (hf : Fn2 X.K f r) (ha : PE X a (tO X.E ma)) (hb : PE X b (tO X.E mb)) : PE X (.BinOp a op b pos) (tE X.E (mB f ma mb)) :=
  (pe_op ho ha hb).weak fun _ _ _ => tE_b hf
theorem me_un {op : UnaryOp} {f : D → Option C} {r : V → Hp → VK → Prop} (ho : UnR X (unaryOp op) r) (hf : Fn1 X.K f r) (ha : PE X a (tO X.E ma)) : PE X (.UnaryOp op a pos) (tE X.E (mU f ma)) :=
  (pe_un ho ha).weak fun _ _ _ => tE_u hf
theorem me_cmp {op : CmpOp} {f : D → D → Option C} {r : R2} (ho : OpR X (compareOp op) r) (hf : Fn2 X.K f r) (ha : PE X a (tO X.E ma)) (hb : PE X b (tO X.E mb)) (hm : behindInMarks op b = false) : PE X (.Compare a [op] [b] pos) (tE X.E (mB f ma mb)) :=
  (pe_cmpR ho ha hb hm).weak fun _ _ _ => tE_b hf
theorem me_ix {f : D → D → Option C} {r : R2} (ho : IxR X r) (hf : Fn2 X.K f r) (ha : PE X a (tO X.E ma)) (hb : PE X b (tO X.E mb)) (hs : PlainIx b) : PE X (.Subscript a b pos) (tE X.E (mB f ma mb)) :=
  (pe_ix ho ha hb hs).weak fun _ _ _ => tE_b hf
end
section
variable {X : Cx} {e : Expr} {es : List Expr} {m : AM} {x : Str} {p pos : Pos} {id T : String} {r : List V → Hp → VK → Prop} {f : List D → Option C}
theorem me_callB (hc : CallR X (.builtin id) r) (hf : FnB X.K f r) (hg : Gl X x) (hm : X.mg x = none) (hv : bootBuiltins x = some (.builtin id)) (ha : PA X (e :: es) (tA X.E m)) (hn : x ≠ "__name__") (hdb : (x == ("__debug__" : Str)) = false)
    (he : starEach (e :: es) X.env = (false, eval e X.env) :: starEach es X.env) (hpl : (backTo pos (starEach es X.env)).any (·.1) = false) : PE X (.Call (.Name x p) (e :: es) [] pos) (tE X.E (mOp f m)) :=
  (pe_callB hc hg hm hv ha hn hdb he hpl).weak fun _ _ _ h => op_sem hf h
theorem me_callTy (hc : CallR X (.type T) r) (hf : FnB X.K f r) (hg : Gl X x) (hm : X.mg x = none) (hv : bootBuiltins x = some (.type T)) (ha : PA X (e :: es) (tA X.E m)) (hn : x ≠ "__name__") (hdb : (x == ("__debug__" : Str)) = false)
    (he : starEach (e :: es) X.env = (false, eval e X.env) :: starEach es X.env) (hpl : (backTo pos (starEach es X.env)).any (·.1) = false) : PE X (.Call (.Name x p) (e :: es) [] pos) (tE X.E (mOp f m)) :=
  (pe_callTy hc hg hm hv ha hn hdb he hpl).weak fun _ _ _ h => op_sem hf h
end
end L2.M
namespace L2.M
open PySem PySem.Spec PyProof.Rows
abbrev TM := Cs → Option (Bool × Cs)
def tT (K : Ek) (m : TM) : TT := fun σ H Q => ∃ F R ε b ε', Sep K F R H σ ε [] ∧ m ε = some (b, ε') ∧ ∀ F' H', Same F F' → Sep K F' R H' σ ε' [] → Q b H'
def mTst (m : EM) : TM := fun ε => match m ε with
  | some (.sh (.bool b), ε') => some (b, ε')
  | _ => none
theorem Sep.boolT {K : Ek} {F R H : Hp} {σ : St} {ε : Cs} {T : Tms} {v : V} {b : Bool} (s : Sep K F R H σ ε ((v, .sh (.bool b)) :: T)) : v = .bl b := by
  have r := s.repT
  simpa only [Rep] using r
theorem Sep.addB {K : Ek} {F R H : Hp} {σ : St} {ε : Cs} {T : Tms} (s : Sep K F R H σ ε T) (b : Bool) : Sep K F R H σ ε ((.bl b, .sh (.bool b)) :: T) := s.addSh (by simp only [Rep])
section
variable {K : Ek} {σ : St} {H : Hp}
theorem tE_tst {m : EM} {Q : Bool → Hp → Prop} (h : tT K (mTst m) σ H Q) : tE K m σ H (fun x H' => ∃ k, x = .bl k ∧ Q k H') := by
  obtain ⟨F, R, ε, b, ε', o, e, q⟩ := h
  unfold mTst at e
  split at e
  · rename_i b' ε1 hm
    cases e
    exact ⟨F, R, ε, _, ε', o, hm, fun v F' H' fm p => ⟨b, p.boolT, q F' H' fm p.drop⟩⟩
  · cases e
end
section
variable {X : Cx} {a b e : Expr} {ma mb : OM} {m : EM} {pos : Pos} {rest : List Expr}
theorem mt_val (h : PE X e (tE X.E m)) (he : ∀ whole, isTrue e X.env whole = (do let v ← whole; standAt e.pos; holding [v] (truthy v))) : PT X e (tT X.E (mTst m)) :=
  (pt_val h he).weak fun _ _ _ => tE_tst
theorem mt_cmp {op : CmpOp} {f : D → D → Option C} {r : R2} (ho : OpR X (compareOp op) r) (hf : Fn2 X.K f r) (ha : PE X a (tO X.E ma)) (hb : PE X b (tO X.E mb)) (hm : behindInMarks op b = false) : PT X (.Compare a [op] [b] pos) (tT X.E (mTst (mB f ma mb))) :=
  (pt_cmpR ho ha hb hm).weak fun _ _ _ h => tE_b hf (tE_tst h)
def mNotT (m : TM) : TM := fun ε => do
  let (b, ε1) ← m ε
  some (!b, ε1)
def mAndT (m n : TM) : TM := fun ε => do
  let (b, ε1) ← m ε
  if b then n ε1 else some (false, ε1)
def mOrT (m n : TM) : TM := fun ε => do
  let (b, ε1) ← m ε
  if b then some (true, ε1) else n ε1
theorem tT_bind {K : Ek} {m : TM} {n : Bool → TM} {σ : St} {H : Hp} {Q : Bool → Hp → Prop} (h : tT K (fun ε => do let (b, ε1) ← m ε; n b ε1) σ H Q) : tT K m σ H fun b H1 => tT K (n b) σ H1 Q := by
  obtain ⟨F, R, ε, c, ε', o, e, q⟩ := h
  cases e1 : m ε with
  | none => simp [e1] at e
  | some p =>
    obtain ⟨b, ε1⟩ := p
    simp [e1] at e
    exact ⟨F, R, ε, b, ε1, o, e1, fun F1 H1 fm1 s1 => ⟨F1, R, ε1, c, ε', s1, e, fun F2 H2 fm2 s2 => q F2 H2 (fm1.trans fm2) s2⟩⟩
theorem tT_pure {K : Ek} {b : Bool} {σ : St} {H : Hp} {Q : Bool → Hp → Prop} (h : tT K (fun ε => some (b, ε)) σ H Q) : Q b H := by
  obtain ⟨F, R, ε, c, ε', o, e, q⟩ := h
  cases e
  exact q F H (Same.refl F) o
theorem tT_mono {K : Ek} {m : TM} {σ : St} {H : Hp} {Q Q' : Bool → Hp → Prop} (h : tT K m σ H Q) (w : ∀ v H', Q v H' → Q' v H') : tT K m σ H Q' := by
  obtain ⟨F, R, ε, o, ε', a, b, c⟩ := h
  exact ⟨F, R, ε, o, ε', a, b, fun F' H' fm s => w _ _ (c F' H' fm s)⟩
theorem mt_not {m : TM} (h : PT X e (tT X.E m)) : PT X (.UnaryOp .Not e pos) (tT X.E (mNotT m)) := (pt_not h).weak fun σ H Q q =>
  tT_mono (tT_bind (n := fun b ε => some (!b, ε)) q) fun _ _ z => tT_pure z
theorem mt_and {m n : TM} (h : PT X a (tT X.E m)) (g : PW X (.BoolOp .And (b :: rest) pos) (tT X.E n)) : PW X (.BoolOp .And (a :: b :: rest) pos) (tT X.E (mAndT m n)) := (pw_and h g).weak fun σ H Q q =>
  tT_mono (tT_bind (n := fun b ε => if b then n ε else some (false, ε)) q) fun b _ z => by
    cases b with
    | true => rw [if_pos rfl]; exact z
    | false => rw [if_neg Bool.false_ne_true]; exact tT_pure z
theorem mt_or {m n : TM} (h : PT X a (tT X.E m)) (g : PW X (.BoolOp .Or (b :: rest) pos) (tT X.E n)) : PW X (.BoolOp .Or (a :: b :: rest) pos) (tT X.E (mOrT m n)) := (pw_or h g).weak fun σ H Q q =>
  tT_mono (tT_bind (n := fun b ε => if b then some (true, ε) else n ε) q) fun b _ z => by
    cases b with
    | true => rw [if_pos rfl]; exact tT_pure z
    | false => rw [if_neg Bool.false_ne_true]; exact z
theorem mt_and1 {m : TM} (h : PT X a (tT X.E m)) : PW X (.BoolOp .And [a] pos) (tT X.E m) := pw_and1 h
theorem mt_or1 {m : TM} (h : PT X a (tT X.E m)) : PW X (.BoolOp .Or [a] pos) (tT X.E m) := pw_or1 h
def mNotE (m : EM) : EM := fun ε => match m ε with
  | some (.sh (.bool b), ε1) => some (.sh (.bool (!b)), ε1)
  | _ => none
def mAndE (m n : EM) : EM := fun ε => match m ε with
  | some (.sh (.bool true), ε1) => n ε1
  | some (.sh (.bool false), ε1) => some (.sh (.bool false), ε1)
  | _ => none
def mOrE (m n : EM) : EM := fun ε => match m ε with
  | some (.sh (.bool true), ε1) => some (.sh (.bool true), ε1)
  | some (.sh (.bool false), ε1) => n ε1
  | _ => none
def mIfE (t : TM) (m n : EM) : EM := fun ε => do
  let (b, ε1) ← t ε
  if b then m ε1 else n ε1
theorem me_and {n : EM} (h : PE X a (tE X.E m)) (g : PE X (.BoolOp .And (b :: rest) pos) (tE X.E n)) : PE X (.BoolOp .And (a :: b :: rest) pos) (tE X.E (mAndE m n)) := (pe_and h g).weak fun σ H Q q => by
  obtain ⟨F, R, ε, c, ε', o, e, q⟩ := q
  unfold mAndE at e
  split at e
  · rename_i ε1 hm
    refine ⟨F, R, ε, _, ε1, o, hm, fun v F' H' fm p => ⟨true, p.boolT, ?_⟩⟩
    rw [if_pos rfl]
    exact ⟨F', R, ε1, c, ε', p.drop, e, fun w F2 H2 fm2 p2 => q w F2 H2 (fm.trans fm2) p2⟩
  · rename_i ε1 hm
    cases e
    refine ⟨F, R, ε, _, ε', o, hm, fun v F' H' fm p => ⟨false, p.boolT, ?_⟩⟩
    rw [if_neg Bool.false_ne_true]
    exact q _ F' H' fm (p.drop.addB _)
  · cases e
theorem me_one {op : BoolOp} (h : PE X a (tE X.E m)) : PE X (.BoolOp op [a] pos) (tE X.E m) := pe_one h
theorem me_ife {c : Expr} {t : TM} {n : EM} (hc : PT X c (tT X.E t)) (h : PE X a (tE X.E m)) (g : PE X b (tE X.E n)) : PE X (.IfExp c a b pos) (tE X.E (mIfE t m n)) := (pe_ifExp hc h g).weak fun σ H Q q => by
  obtain ⟨F, R, ε, c, ε', o, e, q⟩ := q
  unfold mIfE at e
  cases e1 : t ε with
  | none => simp [e1] at e
  | some p =>
    obtain ⟨k, ε1⟩ := p
    simp [e1] at e
    refine ⟨F, R, ε, k, ε1, o, e1, fun F1 H1 fm1 s1 => ?_⟩
    cases k with
    | true =>
      rw [if_pos rfl]
      simp at e
      exact ⟨F1, R, ε1, c, ε', s1, e, fun w F2 H2 fm2 p2 => q w F2 H2 (fm1.trans fm2) p2⟩
    | false =>
      rw [if_neg Bool.false_ne_true]
      simp at e
      exact ⟨F1, R, ε1, c, ε', s1, e, fun w F2 H2 fm2 p2 => q w F2 H2 (fm1.trans fm2) p2⟩
end
abbrev GM := List C → Option (C × List C)
def spOf (K : Ek) (np : Nat) (g : GM) : Sp := fun vs H Q _ => vs.length = np ∧ ∃ F R cs c cs', Sep K F R H (vs.map some) cs [] ∧ g cs = some (c, cs') ∧ ∀ v F' H', Same F F' → Sep K F' R H' (vs.map some) cs' [(v, c)] → Q v H'
def frz : List Bool → List Opd → Cs → Option (List Opd × Cs)
  | [], [], ε => some ([], ε)
  | true :: bs, o :: os, ε => do
    let (os', ε1) ← frz bs os ε
    some (o :: os', ε1)
  | false :: bs, o :: os, ε => do
    let (d, ε1) ← fzO o ε
    let (os', ε2) ← frz bs os ε1
    some (.tm (.sh d) :: os', ε2)
  | _, _, _ => none
def wb : List Opd → List C → Cs → Cs
  | .pl i :: os, c :: cs, ε => wb os cs (ε.set i c)
  | .tm _ :: os, _ :: cs, ε => wb os cs ε
  | _, _, ε => ε
def mCall (io : List Bool) (g : GM) (ma : AM) : EM := fun ε => do
  let (os, ε1) ← ma ε
  let (os2, ε2) ← frz io os ε1
  let (cs, ε3) ← lend os2 ε2
  let (c, cs') ← g cs
  some (c, wb os2 cs' ε3)
theorem frz_ok {K : Ek} {H : Hp} {σ : St} {T : Tms} : ∀ {bs : List Bool} {os os2 : List Opd} {vs : List V} {F R : Hp} {ε ε' : Cs}, Sep K F R H σ ε (tmO os vs ++ T) → OpV σ vs os → frz bs os ε = some (os2, ε') →
    ∃ F', Same F F' ∧ Sep K F' R H σ ε' (tmO os2 vs ++ T) ∧ OpV σ vs os2 ∧ os2.length = bs.length
  | [], [], os2, vs, F, R, ε, ε', s, h, e => by
    cases h
    cases e
    exact ⟨F, Same.refl F, s, .nil, rfl⟩
  | true :: bs, o :: os, os2, vs, F, R, ε, ε', s, h, e => by
    unfold frz at e
    cases e1 : frz bs os ε with
    | none => simp [e1] at e
    | some p =>
      obtain ⟨os', ε1⟩ := p
      simp [e1] at e
      obtain ⟨rfl, rfl⟩ := e
      cases h with
      | @pl _ v vs' _ hv h2 =>
        obtain ⟨F', fm, s', v', l'⟩ := frz_ok (os := os) (vs := vs') s h2 e1
        exact ⟨F', fm, s', .pl hv v', by simp [l']⟩
      | @tm c v vs' _ h2 =>
        obtain ⟨R1, _, s1, back⟩ := Sep.hide (T := tmO os vs' ++ T) s
        obtain ⟨F', fm, s', v', l'⟩ := frz_ok s1 h2 e1
        exact ⟨F', fm, back F' H σ ε1 _ fm s', .tm v', by simp [l']⟩
  | false :: bs, o :: os, os2, vs, F, R, ε, ε', s, h, e => by
    unfold frz at e
    cases e1 : fzO o ε with
    | none => simp [e1] at e
    | some p =>
      obtain ⟨d, ε1⟩ := p
      cases e2 : frz bs os ε1 with
      | none => simp [e1, e2] at e
      | some p2 =>
        obtain ⟨os', ε2⟩ := p2
        simp [e1, e2] at e
        obtain ⟨rfl, rfl⟩ := e
        cases h with
        | @pl _ v vs' _ hv h2 =>
          obtain ⟨F1, fm1, r1, s1⟩ := fzO_pl s hv e1
          obtain ⟨F2, fm2, s2, v2, l2⟩ := frz_ok (os := os) (vs := vs') s1 h2 e2
          exact ⟨F2, fm1.trans fm2, s2.addSh (Rep.mono fm2 _ _ r1), .tm v2, by simp [l2]⟩
        | @tm c v vs' _ h2 =>
          obtain ⟨rfl, F1, fm1, r1, s1⟩ := fzO_tm (T := tmO os vs' ++ T) s e1
          obtain ⟨F2, fm2, s2, v2, l2⟩ := frz_ok s1 h2 e2
          exact ⟨F2, fm1.trans fm2, s2.addSh (Rep.mono fm2 _ _ r1), .tm v2, by simp [l2]⟩
  | [], _ :: _, _, _, _, _, _, _, _, _, e => by simp [frz] at e
  | true :: _, [], _, _, _, _, _, _, _, _, e => by simp [frz] at e
  | false :: _, [], _, _, _, _, _, _, _, _, e => by simp [frz] at e
theorem wb_ok {K : Ek} {F R H : Hp} {σ : St} {T : Tms} : ∀ {os : List Opd} {vs : List V} {cs : List C} {ε : Cs}, Sep K F R H σ ε (vs.zip cs ++ T) → OpV σ vs os → cs.length = os.length → Sep K F R H σ (wb os cs ε) T
  | [], vs, cs, ε, s, h, l => by
    cases h
    cases cs with
    | nil => exact s
    | cons _ _ => cases l
  | o :: os, vs, [], ε, s, h, l => by cases l
  | o :: os, vs, c :: cs, ε, s, h, l => by
    cases h with
    | pl hv h2 =>
      unfold wb
      exact wb_ok (Sep.put s hv) h2 (by simpa using l)
    | tm h2 =>
      unfold wb
      exact wb_ok (Sep.drop s) h2 (by simpa using l)
theorem zip_snd {α β : Type} {xs : List α} {ys : List β} (h : ys.length = xs.length) : (xs.zip ys).map (·.2) = ys := List.map_snd_zip (by omega)
theorem zip_fst {α β : Type} {xs : List α} {ys : List β} (h : ys.length = xs.length) : (xs.zip ys).map (·.1) = xs := List.map_fst_zip (by omega)
theorem zip_fsts {β : Type} {xs : List V} {ys : List β} (h : ys.length = xs.length) : (xs.zip ys).map (fun p => some p.1) = xs.map some := by
  rw [show (fun p : V × β => some p.1) = (fun x => some x) ∘ (fun p : V × β => p.1) from rfl, ← List.map_map, zip_fst h]
/-- the callee's frame, and the way back -/
theorem call_sep {K : Ek} {F R H : Hp} {σ : St} {ε3 : Cs} {os : List Opd} {vs : List V} {cs : List C} (s : Sep K F R H σ ε3 (vs.zip cs)) (ho : OpV σ vs os) (hl : cs.length = os.length) :
    ∃ R1, Sep K F R1 H (vs.map some) cs [] ∧ ∀ F' H' cs' T', Same F F' → Sep K F' R1 H' (vs.map some) cs' T' → Sep K F' R H' σ (wb os cs' ε3) T' := by
  have lv := ho.len
  obtain ⟨R1, s1, back⟩ := s.enter
  rw [zip_fsts (by omega), zip_snd (by omega)] at s1
  refine ⟨R1, s1, fun F' H' cs' T' fm s' => ?_⟩
  have lc : cs'.length = vs.length := by have := s'.len; simp at this; omega
  have := back F' H' cs' T' fm (by rw [zip_fsts (by omega)]; exact s')
  rw [zip_fst (by omega)] at this
  exact wb_ok this ho (by omega)
theorem tE_call {K : Ek} {np : Nat} {g : GM} {io : List Bool} {ma : AM} {σ : St} {H : Hp} {Q : VK} (hio : io.length = np) (h : tE K (mCall io g ma) σ H Q) : tCall (spOf K np g) [] E0 (tA K ma) σ H Q := by
  obtain ⟨F, R, ε, c, ε', ok, e, q⟩ := h
  unfold mCall at e
  cases e1 : ma ε with
  | none => simp [e1] at e
  | some p =>
    obtain ⟨os, ε1⟩ := p
    cases e2 : frz io os ε1 with
    | none => simp [e1, e2] at e
    | some p2 =>
      obtain ⟨os2, ε2⟩ := p2
      cases e3 : lend os2 ε2 with
      | none => simp [e1, e2, e3] at e
      | some p3 =>
        obtain ⟨cs, ε3⟩ := p3
        cases e4 : g cs with
        | none => simp [e1, e2, e3, e4] at e
        | some p4 =>
          obtain ⟨c', cs'⟩ := p4
          simp [e1, e2, e3, e4] at e
          obtain ⟨rfl, rfl⟩ := e
          refine ⟨F, R, ε, os, ε1, ok, e1, fun vs F1 H1 fm1 v1 s1 => ?_⟩
          rw [← List.append_nil (tmO os vs)] at s1
          obtain ⟨F2, fm2, s2, v2, l2⟩ := frz_ok s1 v1 e2
          obtain ⟨s3, l3⟩ := lend_ok s2 v2 e3
          rw [List.append_nil] at s3
          obtain ⟨R1, s4, back⟩ := call_sep s3 v2 l3
          refine ⟨by rw [List.append_nil, v2.len, l2]; exact hio, F2, R1, cs, c', cs', by rw [List.append_nil]; exact s4, e4, fun v F' H' fm p => ?_⟩
          rw [List.append_nil] at p
          exact q v F' H' ((fm1.trans fm2).trans fm) (back F' H' cs' _ fm p)
end L2.M
namespace L2.M
open PySem PySem.Spec PyProof.Rows
section
variable {K : PySem.W.Frag} {F H : Hp} {x : V}
theorem rb_non (h : RepB K F H x .none) : x = .non := by
  rcases h with h | ⟨_, _, _, _, h, _⟩
  · simpa only [Rep] using h
  · cases h
theorem rb_bool {b : Bool} (h : RepB K F H x (.bool b)) : x = .bl b := by
  rcases h with h | ⟨_, _, _, _, h, _⟩
  · simpa only [Rep] using h
  · cases h
theorem rb_int {i : Int} (h : RepB K F H x (.int i)) : x = .int i := by
  rcases h with h | ⟨_, _, _, _, h, _⟩
  · simpa only [Rep] using h
  · cases h
theorem rb_str {i : Str} (h : RepB K F H x (.str i)) : x = .str i := by
  rcases h with h | ⟨_, _, _, _, h, _⟩
  · simpa only [Rep] using h
  · cases h
theorem rb_tup {ds : List D} (s : Same F H) (h : RepB K F H x (.tuple ds)) : ∃ a vs, x = .ref a ∧ HdT F a vs ∧ SqT K H a vs ∧ Reps K F vs ds := by
  rcases h with ⟨a, vs, h1, h2, h3⟩ | ⟨_, _, _, _, h, _⟩
  · exact ⟨a, vs, h1, h2, (h2.mono s).sq, h3⟩
  · cases h
theorem rb_lst {ds : List D} (s : Same F H) (h : RepB K F H x (.list ds)) : ∃ a vs, x = .ref a ∧ SqL K H a vs ∧ Reps K F vs ds := by
  rcases h with ⟨a, vs, h1, h2, h3⟩ | ⟨a, ws, es, h1, h2, h3, h4⟩
  · exact ⟨a, vs, h1, sameL s h2, h3⟩
  · cases h2
    exact ⟨a, ws, h1, .inl (.inl h3), h4⟩
theorem rb_dct {kds : List (D × D)} (s : Same F H) (h : RepB K F H x (.dict kds)) : ∃ a kvs, x = .ref a ∧ H a = some (.dK kvs) ∧ RepKs K F kvs kds := by
  rcases h with ⟨a, vs, h1, h2, h3⟩ | ⟨_, _, _, _, h, _⟩
  · exact ⟨a, vs, h1, s _ _ h2, h3⟩
  · cases h
mutual
theorem Rep.dp (s : Same F H) : ∀ (d : D) (v : V), Rep K F v d → PyData.canLay0 d = true → Dp K H v d
  | .none, v, h, _ => by simp only [Rep] at h; subst h; exact .non
  | .bool b, v, h, _ => by simp only [Rep] at h; subst h; exact .bl b
  | .int b, v, h, _ => by simp only [Rep] at h; subst h; exact .int b
  | .str b, v, h, _ => by simp only [Rep] at h; subst h; exact .str b
  | .list ds, v, ⟨a, vs, h1, h2, h3⟩, hc => by subst h1; exact .lst (sameL s h2) (Reps.dp s ds vs h3 (by simpa [PyData.canLay0] using hc))
  | .tuple ds, v, ⟨a, vs, h1, h2, h3⟩, hc => by subst h1; exact .tup (h2.mono s).sq (Reps.dp s ds vs h3 (by simpa [PyData.canLay0] using hc))
  | .dict kds, v, _, hc => by simp [PyData.canLay0] at hc
theorem Reps.dp (s : Same F H) : ∀ (ds : List D) (vs : List V), Reps K F vs ds → PyData.canLayAll0 ds = true → DpAll K H vs ds
  | [], vs, h, _ => by cases (show vs = [] from h); exact .nil
  | d :: ds, vs, ⟨v, r, h1, h2, h3⟩, hc => by
    subst h1
    simp only [PyData.canLayAll0, Bool.and_eq_true] at hc
    exact .cons (Rep.dp s d v h2 hc.1) (Reps.dp s ds r h3 hc.2)
end
theorem rb_dp {d : D} (s : Same F H) (h : RepB K F H x d) (hc : PyData.canLay0 d = true) : Dp K H x d := by
  rcases h with h | ⟨a, ws, ds, h1, h2, h3, h4⟩
  · exact Rep.dp s d x h hc
  · subst h1 h2
    exact .lst (.inl (.inl h3)) (Reps.dp s ds ws h4 (by simpa [PyData.canLay0] using hc))
end
theorem list_mulW (l : Addr) (items : Array Value) (n : Nat) (x : Int) (u : Tok) (dd : Option Addr) (sl : Array (Option Value)) (hc0 : ¬(!Builtin.List.listFitsIndex x) = true) (hc1 : ¬items.size * x.toNat > (2 ^ 63 - 1) / 8) (hc2 : ¬Builtin.List.listTooLong (items.size * x.toNat) = true) :
    Meets (Builtin.«list.__mul__» ⟨[.ref l, .int x u], []⟩) (fun _ R s => s.heap.get? l = some { cls := .type "list", dict := dd, data := .seq items n, slots := sl } ∧ R (.ok (.ret (Value.ref s.heap.objs.size))) { s with heap := s.heap.push { cls := Value.type "list", data := Data.seq (List.foldl (fun x1 x2 => x1 ++ x2) #[] (List.replicate (if items.isEmpty = true then 0 else x.toNat) items)) }, toks := s.toks }) :=
  .of_wp fun prog w A R s h => by
    obtain ⟨hp, g, d, tk, os⟩ := s; obtain ⟨hl, h⟩ := h
    have hsz := AutoListH.joined_fits hc2
    wp_walk using wpAny_loadPart' hl; refine wpAny_ite_false (decide_eq_false (Nat.not_lt.mpr hsz)) ?_; wp_walk using wpAny_loadPart' hl; exact ⟨_, rfl, h⟩
theorem int_rmulW (a : Int) (t : Tok) (l : Addr) (items : Array Value) (n : Nat) (dd : Option Addr) (sl : Array (Option Value)) :
    Meets (Builtin.«int.__rmul__» ⟨[.int a t, .ref l], []⟩) (fun _ R s => s.heap.get? l = some { cls := .type "list", dict := dd, data := .seq items n, slots := sl } ∧ R (.ok (.ret Value.notImplemented)) s) :=
  .of_wp fun prog w A R s h => by obtain ⟨hp, g, d, tk, os⟩ := s; obtain ⟨hl, h⟩ := h; wp_walk using wpAny_loadPart' hl; exact ⟨_, rfl, h⟩
section
variable {K : PySem.W.Frag} {F H : Hp} {Q : VK}
theorem gv {v : V} {d : D} (s : Same F H) (r : Rep K F v d) (q : ∀ v F' H', Grow K F H F' H' v (.sh d) → Q v H') : Q v H :=
  q v F H ⟨Same.refl F, Same.refl H, s, fun b h h' => absurd h h', r, fun _ _ z => nomatch z⟩
theorem g_int {i : Int} (s : Same F H) (q : ∀ v F' H', Grow K F H F' H' v (.sh (.int i)) → Q v H') : Q (.int i) H := gv s (by simp only [Rep]) q
theorem g_bool {i : Bool} (s : Same F H) (q : ∀ v F' H', Grow K F H F' H' v (.sh (.bool i)) → Q v H') : Q (.bl i) H := gv s (by simp only [Rep]) q
theorem g_str {i : Str} (s : Same F H) (q : ∀ v F' H', Grow K F H F' H' v (.sh (.str i)) → Q v H') : Q (.str i) H := gv s (by simp only [Rep]) q
theorem g_tup {vs : List V} {ds : List D} (s : Same F H) (r : Reps K F vs ds) (q : ∀ v F' H', Grow K F H F' H' v (.sh (.tuple ds)) → Q v H') : ∀ (p : Addr) (o : Obj), o.dict = none → H p = none → Q (.ref p) (upd H p (.frz o (.tup vs))) := fun p o ho hp => by
  have g := Grw.laid (u := .frz o (.tup vs)) s hp
  exact q (.ref p) _ _ ⟨g.fm, g.hm, g.sub, g.ff, ⟨p, vs, rfl, ⟨o, ho, upd_same⟩, Reps.mono g.fm _ _ r⟩, fun _ _ z => nomatch z⟩
theorem g_lst {vs : List V} {ds : List D} (s : Same F H) (r : Reps K F vs ds) (q : ∀ v F' H', Grow K F H F' H' v (.ls ds) → Q v H') : ∀ p, H p = none → Q (.ref p) (upd H p (.lst vs)) := fun p hp => by
  have hm : Same H (upd H p (.lst vs)) := fun b x e => by rw [upd_ne (ne_of_none e hp)]; exact e
  exact q (.ref p) F _ ⟨Same.refl F, hm, s.trans hm, fun b h h' => absurd h h', ⟨p, vs, rfl, upd_same, s.free hp, r⟩, fun ds a _ z => by cases z; exact hp⟩
end
section
variable {X : Cx}
/-- a tuple laid behind an operation, known to have no dict -/
theorem laidH {pins : List (Addr × Obj)} {σ : St} {H : Hp} {s : Shared} {Q : VK} {ys : List V} {us : List Value} (I : Inv X pins σ H s) (r : Vals ys us) (hz : ys.length ≤ sizeLine) (q : ∀ (p : Addr) (o : Obj), o.dict = none → H p = none → Q (.ref p) (upd H p (.frz o (.tup ys)))) : EP X pins σ Q (.ref s.heap.objs.size) { s with heap := s.heap.push { cls := .type "tuple", data := .seq us.toArray } } := by
  refine ⟨.ref s.heap.objs.size, _, I.laid (t' := s.toks) (o := .frz { cls := .type "tuple", data := .seq us.toArray } (.tup ys)) (fun b ob q => Heap.get?_push_of_some _ q) (Nat.le_refl _) ?_, rfl, q _ _ rfl (I.hok.fresh (Nat.le_refl _))⟩
  exact ⟨Heap.get?_push_size _ rfl, hz, us, r, IsTup.new _ _⟩
def rCatH (K : PySem.W.Frag) : R2 := fun x y H Q => ∃ a b xs ys, x = .ref a ∧ y = .ref b ∧ SqT K H a xs ∧ SqT K H b ys ∧ xs.length + ys.length ≤ sizeLine ∧
  (xs = [] → Q (.ref b) H) ∧ (xs ≠ [] → ys = [] → Q (.ref a) H) ∧ (xs ≠ [] → ys ≠ [] → ∀ (p : Addr) (o : Obj), o.dict = none → H p = none → Q (.ref p) (upd H p (.frz o (.tup (xs ++ ys)))))
theorem op_catH : OpR X (binaryOp .Add) (rCatH X.K) := by
  rintro pins s σ H x y v u Q I rx ry ⟨a, b, xs, ys, rfl, rfl, ha, hb, hz, q0, q1, q2⟩
  cases rx
  cases ry
  obtain ⟨its, r1, p1, _⟩ := I.tuple ha
  obtain ⟨its2, r2, p2, _⟩ := I.tuple hb
  by_cases hx : xs = []
  · subst hx
    cases r1
    exact cat_tup0 p1 p2 ⟨.ref b, H, I, rfl, q0 rfl⟩
  · refine HT.cat_tup p1 p2 (fun z => hx (r1.nil_iff.mp z)) (fun z => ⟨.ref a, H, I, rfl, q1 hx (r2.nil_iff.mp z)⟩) (fun z => ?_) (by rw [← r1.length, ← r2.length]; exact hz)
    exact laidH I (r1.append r2) (by rw [List.length_append]; exact hz) (q2 hx fun w => z (r2.nil_iff.mpr w))
def rRepH (K : PySem.W.Frag) : R2 := fun x y H Q => ∃ l k xs, x = .ref l ∧ y = .int k ∧ SqT K H l xs ∧ xs ≠ [] ∧ 2 ≤ k ∧ k ≤ 1000 ∧ xs.length ≤ 1000 ∧ ∀ (p : Addr) (o : Obj), o.dict = none → H p = none → Q (.ref p) (upd H p (.frz o (.tup (List.replicate k.toNat xs).flatten)))
theorem op_repH : OpR X (binaryOp .Mult) (rRepH X.K) := by
  rintro pins s σ H x y v u Q I rx ry ⟨l, k, xs, rfl, rfl, hT, hne, h1, h2, hz, q⟩
  cases rx
  obtain ⟨t, rfl⟩ := ry
  obtain ⟨its, r, ⟨⟨cls, dd, data, sl⟩, ho, hc, n, hd⟩, hs⟩ := I.tuple hT
  cases (show cls = .type "tuple" from hc)
  cases (show data = .seq its.toArray n from hd)
  have le : its.length = xs.length := r.length.symm
  have hn : its ≠ [] := fun e => hne (r.nil_iff.mp e)
  have e0 : its.toArray.isEmpty = false := by cases its <;> simp_all
  have e1 : ((its.toArray.size : Nat) : Int) * k ≤ 1000000 := by
    rw [List.size_toArray, le]
    have : ((xs.length : Nat) : Int) * k ≤ 1000 * k := Int.mul_le_mul_of_nonneg_right (by omega) (by omega)
    omega
  have e2 : k.toNat * xs.length ≤ 1000 * 1000 := Nat.mul_le_mul (by omega) hz
  have b0 : (decide (k < -(2 ^ 63)) || decide (k ≥ 2 ^ 63)) = false := by simp; omega
  have b1 : (its.toArray.isEmpty || k == 1) = false := by rw [e0]; simp; omega
  have b2 : (decide (k ≤ 0) || its.toArray.isEmpty) = false := by rw [e0]; simp; omega
  have b3 : Builtin.Tuple.tupleTooMany (((its.toArray.size : Nat) : Int) * k) = false := by
    unfold Builtin.Tuple.tupleTooMany
    rw [sizeLine_eq]
    exact decide_eq_false (by omega)
  have z1 : (List.replicate k.toNat its).flatten.length ≤ sizeLine := by
    rw [PyProof.Rows.lm_len_rep_flat, le, sizeLine_eq]
    omega
  have z2 : (List.replicate k.toNat xs).flatten.length ≤ sizeLine := by
    rw [PyProof.Rows.lm_len_rep_flat, sizeLine_eq]
    omega
  have tis : s.TypeIs (.ref l) "tuple" := ⟨_, ho, rfl⟩
  refine wpAny_binaryOp_repeat_ref (T := "tuple") (U := "int") (by decide) tis (fun s' => typeIs_int s' k t) noFill_tuple_mul F.fills_int_mul F.slot_int_rmul repeat_tuple F.slot_int_index.lookup
    (call_meets F.slot_int_rmul (typeIs_int s k t) F.entry_int_rmul (F.args_int_rmul_2 _ _) (int_rmul_tuple k t l its.toArray n dd sl)
      ⟨ho, rfl, tis, call_meets F.slot_tuple_mul tis F.entry_tuple_mul (F.args_tuple_mul_2 _ _) (tuple_mulW l its.toArray n dd sl k t b0 b1 b2 (by omega) b3 (by rw [size_rep, List.size_toArray]; exact z1)) ⟨ho, ?_⟩⟩)
  rw [size_rep]
  exact laidH I (r.rep k.toNat) z2 q
def rCatL (K : PySem.W.Frag) : R2 := fun x y H Q => ∃ l b xs zs, x = .ref l ∧ y = .ref b ∧ SqL K H l xs ∧ SqL K H b zs ∧ xs.length + zs.length ≤ sizeLine ∧ ∀ p, H p = none → Q (.ref p) (upd H p (.lst (xs ++ zs)))
theorem op_catL : OpR X (binaryOp .Add) (rCatL X.K) := by
  intro pins s σ H x y v u Q I rx ry h
  obtain ⟨l, b, xs, zs, rfl, rfl, hH, hB, hz, q⟩ := h
  cases rx
  cases ry
  obtain ⟨its, r, ⟨o, n, e, hc, hd, hq⟩, _⟩ := I.list hH
  obtain ⟨its2, r2, ⟨o2, n2, e2, hc2, hd2, hq2⟩, _⟩ := I.list hB
  have hl := r.length
  have hl2 := r2.length
  obtain ⟨cls, dd, data, sl⟩ := o
  obtain ⟨cls2, dd2, data2, sl2⟩ := o2
  simp only at hc hd hq hc2 hd2 hq2
  subst hc hd hq hc2 hd2 hq2
  refine concat_meets ⟨_, e, rfl⟩ ⟨_, e2, rfl⟩ noFill_list_add seq_list_add F.slot_list_add F.entry_list_add (F.args_list_add_2 _ _) (list_addW l b its.toArray its2.toArray n n2 none none sl sl2 (by rw [List.size_toArray, List.size_toArray]; omega)) ⟨e, e2, ?_⟩
  have ea : its.toArray ++ its2.toArray = (its ++ its2).toArray := by simp
  rw [ea]
  exact ⟨.ref _, _, I.lnew (t' := s.toks) (r.append r2) (by rw [List.length_append]; omega), rfl, q _ I.fresh⟩
end
theorem OpR.no {X : Cx} {f : Value → Value → Sem Value} : OpR X f (fun _ _ _ _ => False) := fun _ _ _ _ _ _ _ _ _ _ _ _ h => h.elim
theorem CallR.no {X : Cx} {f : Value} : CallR X f (fun _ _ _ => False) := fun _ _ _ _ _ _ _ _ _ h => h.elim
def sm (i : Int) : Prop := -(2 ^ 200) < i ∧ i < 2 ^ 200
instance (i : Int) : Decidable (sm i) := inferInstanceAs (Decidable (_ ∧ _))
theorem sm_lit {i : Int} (h1 : -(2 ^ 200) < i) (h2 : i < 2 ^ 200) : sm i := ⟨h1, h2⟩
theorem log2_le {i : Int} (h1 : -(2 ^ 200) < i) (h2 : i < 2 ^ 200) : i.natAbs.log2 < 200 := by
  by_cases hz : i.natAbs = 0
  · rw [hz]; decide
  · exact (Nat.log2_lt hz).mpr (by omega)
def addD : D → D → Option C
  | .int i, .int j => some (.sh (.int (i + j)))
  | .str a, .str b => if a.length + b.length ≤ sizeLine then some (.sh (.str (a ++ b))) else none
  | .list a, .list b => if a.length + b.length ≤ sizeLine then some (.ls (a ++ b)) else none
  | .tuple a, .tuple b => if a.length + b.length ≤ sizeLine then some (.sh (.tuple (a ++ b))) else none
  | _, _ => none
def subD : D → D → Option C
  | .int i, .int j => some (.sh (.int (i - j)))
  | _, _ => none
def mulD : D → D → Option C
  | .int i, .int j => if sm i ∧ sm j then some (.sh (.int (i * j))) else none
  | .list a, .int k => if -(2 ^ 63) ≤ k ∧ k < 2 ^ 63 ∧ a.length * k.toNat ≤ sizeLine then some (.ls (List.replicate k.toNat a).flatten) else none
  | .tuple a, .int k => if (0 < a.length ∧ 2 ≤ k ∧ k ≤ 1000 ∧ a.length ≤ 1000) ∨ (-(2 ^ 63) ≤ k ∧ k < 2 ^ 63 ∧ (a.length = 0 ∨ k ≤ 1)) then some (.sh (.tuple (List.replicate k.toNat a).flatten)) else none
  | _, _ => none
def fdivD : D → D → Option C
  | .int i, .int j => if 0 < j ∧ sm j then some (.sh (.int (i / j))) else none
  | _, _ => none
def modD : D → D → Option C
  | .int i, .int j => if 0 < j then some (.sh (.int (i % j))) else none
  | _, _ => none
def powD : D → D → Option C
  | .int i, .int j => if 0 ≤ j ∧ j ≤ 1000000 ∧ i.natAbs < 2 ^ 64 then some (.sh (.int (i ^ j.toNat))) else none
  | _, _ => none
def shlD : D → D → Option C
  | .int i, .int j => if 0 ≤ j ∧ j ≤ 1000000 ∧ i.natAbs < 2 ^ 64 then some (.sh (.int (i * 2 ^ j.toNat))) else none
  | _, _ => none
def shrD : D → D → Option C
  | .int i, .int j => if 0 ≤ j then some (.sh (.int (i / 2 ^ j.toNat))) else none
  | _, _ => none
def andD : D → D → Option C
  | .int i, .int j => some (.sh (.int (Builtin.bitAnd i j)))
  | _, _ => none
def orD : D → D → Option C
  | .int i, .int j => some (.sh (.int (Builtin.bitOr i j)))
  | _, _ => none
def binD : Operator → D → D → Option C
  | .Add => addD
  | .Sub => subD
  | .Mult => mulD
  | .FloorDiv => fdivD
  | .Mod => modD
  | .Pow => powD
  | .LShift => shlD
  | .RShift => shrD
  | .BitAnd => andD
  | .BitOr => orD
  | _ => fun _ _ => none
section
variable {X : Cx}
/-- an operator on whole numbers -/
theorem ints_ok {f : Value → Value → Sem Value} {C0 : Int → Int → Prop} {g : Int → Int → Int} (h : OpR X f (rI C0 fun i j => .int (g i j))) {t : D → D → Option C}
    (ht : ∀ d e c, t d e = some c → ∃ i j, d = .int i ∧ e = .int j ∧ C0 i j ∧ c = .sh (.int (g i j))) : ∃ r, OpR X f r ∧ Fn2 X.K t r := by
  refine ⟨_, h, fun F H x y d e c Q s h1 h2 he q => ?_⟩
  obtain ⟨i, j, rfl, rfl, hc, rfl⟩ := ht d e c he
  exact ⟨i, j, rb_int h1, rb_int h2, hc, g_int s q⟩
theorem ints_ok0 {f : Value → Value → Sem Value} {g : Int → Int → Int} (h : OpR X f (rI0 fun i j => .int (g i j))) {t : D → D → Option C}
    (ht : ∀ d e c, t d e = some c → ∃ i j, d = .int i ∧ e = .int j ∧ c = .sh (.int (g i j))) : ∃ r, OpR X f r ∧ Fn2 X.K t r := by
  refine ⟨_, h, fun F H x y d e c Q s h1 h2 he q => ?_⟩
  obtain ⟨i, j, rfl, rfl, rfl⟩ := ht d e c he
  exact ⟨i, j, rb_int h1, rb_int h2, g_int s q⟩
theorem add_ok : ∃ r, OpR X (binaryOp .Add) r ∧ Fn2 X.K addD r := by
  refine ⟨_, op_add.or (op_add_str.or (op_catL.or op_catH)), fun F H x y d e c Q s h1 h2 he q => ?_⟩
  unfold addD at he
  split at he
  · cases he
    exact .inl ⟨_, _, rb_int h1, rb_int h2, g_int s q⟩
  · split at he
    · cases he
      exact .inr (.inl ⟨_, _, rb_str h1, rb_str h2, by assumption, g_str s q⟩)
    · cases he
  · split at he
    · rename_i hl
      cases he
      obtain ⟨a, vs, rfl, g1, g2⟩ := rb_lst s h1
      obtain ⟨b, ws, rfl, k1, k2⟩ := rb_lst s h2
      refine .inr (.inr (.inl ⟨a, b, vs, ws, rfl, rfl, g1, k1, by rw [g2.length, k2.length]; exact hl, g_lst s (g2.append k2) q⟩))
    · cases he
  · split at he
    · rename_i hl
      cases he
      obtain ⟨a, vs, rfl, g0, g1, g2⟩ := rb_tup s h1
      obtain ⟨b, ws, rfl, k0, k1, k2⟩ := rb_tup s h2
      refine .inr (.inr (.inr ⟨a, b, vs, ws, rfl, rfl, g1, k1, by rw [g2.length, k2.length]; exact hl, fun e => ?_, fun _ e => ?_, fun _ _ => g_tup s (g2.append k2) q⟩))
      · subst e
        have hz := g2.length
        have e2 : _ = [] := List.eq_nil_of_length_eq_zero hz.symm
        rw [e2] at q
        exact gv s (d := .tuple _) ⟨b, ws, rfl, k0, k2⟩ q
      · subst e
        have hz := k2.length
        have e2 : _ = [] := List.eq_nil_of_length_eq_zero hz.symm
        rw [e2, List.append_nil] at q
        exact gv s (d := .tuple _) ⟨a, vs, rfl, g0, g2⟩ q
    · cases he
  · cases he
def rRepL (K : PySem.W.Frag) : R2 := fun x y H Q => ∃ l k xs, x = .ref l ∧ y = .int k ∧ SqL K H l xs ∧ -(2 ^ 63) ≤ k ∧ k < 2 ^ 63 ∧ xs.length * k.toNat ≤ sizeLine ∧ ∀ p, H p = none → Q (.ref p) (upd H p (.lst (List.replicate k.toNat xs).flatten))
theorem op_repL : OpR X (binaryOp .Mult) (rRepL X.K) := by
  intro pins s σ H x y v u Q I rx ry h
  obtain ⟨l, k, xs, rfl, rfl, hH, h1, h2, hz, q⟩ := h
  cases rx
  obtain ⟨t, rfl⟩ := ry
  obtain ⟨its, r, ⟨o, n, e, hc, hd, hq⟩, _⟩ := I.list hH
  have hl := r.length
  obtain ⟨cls, dd, data, sl⟩ := o
  simp only at hc hd hq
  subst hc hd hq
  have hlen : its.toArray.size * k.toNat ≤ sizeLine := by rw [List.size_toArray, ← hl]; exact hz
  have hcap : ¬ its.toArray.size * k.toNat > (2 ^ 63 - 1) / 8 := by
    have : (sizeLine : Nat) ≤ (2 ^ 63 - 1) / 8 := by decide
    omega
  have hfit : ¬ (!Builtin.List.listFitsIndex k) = true := by
    rw [fitsIndex_both h1 h2]
    exact Bool.false_ne_true
  have hlong : ¬ Builtin.List.listTooLong (its.toArray.size * k.toNat) = true := by
    rw [notLongL hlen]
    exact Bool.false_ne_true
  have hnew : List.foldl (fun x1 x2 => x1 ++ x2) #[] (List.replicate (if its.toArray.isEmpty = true then 0 else k.toNat) its.toArray) = (List.replicate k.toNat its).flatten.toArray := by
    have f0 : ∀ m : Nat, List.foldl (fun x1 x2 => x1 ++ x2) #[] (List.replicate m its.toArray) = (List.replicate m its).flatten.toArray := fun m => by
      have := foldl_rep its m []
      rw [List.nil_append] at this
      exact this
    rw [f0]
    cases its with
    | nil => simp
    | cons a r' => rw [if_neg (by simp)]
  refine wpAny_binaryOp_repeat_ref (T := "list") (U := "int") (by decide) ⟨_, e, rfl⟩ (fun s' => typeIs_int s' k t) noFill_list_mul F.fills_int_mul F.slot_int_rmul repeat_list F.slot_int_index.lookup
    (call_meets F.slot_int_rmul (typeIs_int s k t) F.entry_int_rmul (F.args_int_rmul_2 _ _) (int_rmulW k t l its.toArray n none sl)
      ⟨e, rfl, ⟨_, e, rfl⟩, call_meets F.slot_list_mul ⟨_, e, rfl⟩ F.entry_list_mul (F.args_list_mul_2 _ _) (list_mulW l its.toArray n k t none sl hfit hcap hlong) ⟨e, ?_⟩⟩)
  rw [hnew]
  exact ⟨.ref _, _, I.lnew (t' := s.toks) (r.rep k.toNat) (by rw [PyProof.Rows.lm_len_rep_flat, Nat.mul_comm]; exact hz), rfl, q _ I.fresh⟩
theorem int2 {t : D → D → Option C} (hno : ∀ d e, (∀ i j, d = .int i → e = .int j → False) → t d e = none) {P : Int → Int → C → Prop} (hi : ∀ i j c, t (.int i) (.int j) = some c → P i j c) : ∀ d e c, t d e = some c → ∃ i j, d = .int i ∧ e = .int j ∧ P i j c := by
  intro d e c h
  by_cases hd : ∃ i, d = .int i
  · obtain ⟨i, rfl⟩ := hd
    by_cases he : ∃ j, e = .int j
    · obtain ⟨j, rfl⟩ := he
      exact ⟨i, j, rfl, rfl, hi i j c h⟩
    · rw [hno _ _ fun i' j _ z => he ⟨j, z⟩] at h
      cases h
  · rw [hno _ _ fun i j z _ => hd ⟨i, z⟩] at h
    cases h
theorem tuple_mul1 (l : Addr) (items : Array Value) (n : Nat) (dd : Option Addr) (sl : Array (Option Value)) (x : Int) (u : Tok) (c0 : (decide (x < -(2 ^ 63)) || decide (x ≥ 2 ^ 63)) = false) (c1 : (items.isEmpty || x == 1) = true) :
    Meets (Builtin.«tuple.__mul__» ⟨[.ref l, .int x u], []⟩) (fun _ R s => s.heap.get? l = some { cls := .type "tuple", dict := dd, data := .seq items n, slots := sl } ∧ R (.ok (.ret (Value.ref l))) s) := .of_wp fun prog w A R ⟨hp, g, d, tk, os⟩ ⟨hl, h⟩ => by
  have f1 := AutoSeq1.idx_int; wp_walk using wpAny_loadPart' hl
  repeat (first | (refine wpAny_ite_false (decide_eq_false (by rw [c0]; decide)) ?_; wp_walk using wpAny_loadPart' hl) | (refine wpAny_ite_true (decide_eq_true c1) ?_; wp_walk using wpAny_loadPart' hl))
  exact ⟨_, rfl, h⟩
theorem tuple_mul0 (l : Addr) (items : Array Value) (n : Nat) (dd : Option Addr) (sl : Array (Option Value)) (x : Int) (u : Tok) (c0 : (decide (x < -(2 ^ 63)) || decide (x ≥ 2 ^ 63)) = false) (c1 : (items.isEmpty || x == 1) = false) (c2 : (decide (x ≤ 0) || items.isEmpty) = true) :
    Meets (Builtin.«tuple.__mul__» ⟨[.ref l, .int x u], []⟩) (fun _ R s => s.heap.get? l = some { cls := .type "tuple", dict := dd, data := .seq items n, slots := sl } ∧ R (.ok (.ret (Value.ref s.heap.objs.size))) { s with heap := s.heap.push { cls := Value.type "tuple", data := Data.seq #[] } }) := .of_wp fun prog w A R ⟨hp, g, d, tk, os⟩ ⟨hl, h⟩ => by
  have f1 := AutoSeq1.idx_int; wp_walk using wpAny_loadPart' hl
  repeat (first | (refine wpAny_ite_false (decide_eq_false (by rw [c0]; decide)) ?_; wp_walk using wpAny_loadPart' hl) | (refine wpAny_ite_false (decide_eq_false (by rw [c1]; decide)) ?_; wp_walk using wpAny_loadPart' hl) | (refine wpAny_ite_true (decide_eq_true c2) ?_; wp_walk using wpAny_loadPart' hl))
  exact ⟨_, rfl, h⟩
def rRepT1 (K : PySem.W.Frag) : R2 := fun x y H Q => ∃ l k xs, x = .ref l ∧ y = .int k ∧ SqT K H l xs ∧ -(2 ^ 63) ≤ k ∧ k < 2 ^ 63 ∧ ((xs = [] ∨ k = 1) ∧ Q (.ref l) H ∨ xs ≠ [] ∧ k ≤ 0 ∧ ∀ (p : Addr) (o : Obj), o.dict = none → H p = none → Q (.ref p) (upd H p (.frz o (.tup []))))
theorem op_repT1 {X : Cx} : OpR X (binaryOp .Mult) (rRepT1 X.K) := by
  rintro pins s σ H x y v u Q I rx ry ⟨l, k, xs, rfl, rfl, hT, k0, k1, q⟩
  cases rx
  obtain ⟨t, rfl⟩ := ry
  obtain ⟨its, r, ⟨⟨cls, dd, data, sl⟩, ho, hc, n, hd⟩, hs⟩ := I.tuple hT
  cases (show cls = .type "tuple" from hc)
  cases (show data = .seq its.toArray n from hd)
  have le : its.length = xs.length := r.length.symm
  have b0 : (decide (k < -(2 ^ 63)) || decide (k ≥ 2 ^ 63)) = false := by simp; omega
  have tis : s.TypeIs (.ref l) "tuple" := ⟨_, ho, rfl⟩
  have road := fun (Q0 : Value → Shared → Prop) (E : Value → Shared → Prop) (m : wpAny (model X.prog X.w) X.A (call (.builtin "tuple.__mul__") [.ref l, .int k t]) Q0 E s) => wpAny_binaryOp_repeat_ref (T := "tuple") (U := "int") (by decide) tis (fun s' => typeIs_int s' k t) noFill_tuple_mul F.fills_int_mul F.slot_int_rmul repeat_tuple F.slot_int_index.lookup
    (call_meets F.slot_int_rmul (typeIs_int s k t) F.entry_int_rmul (F.args_int_rmul_2 _ _) (int_rmul_tuple k t l its.toArray n dd sl) ⟨ho, rfl, tis, m⟩)
  rcases q with ⟨hx, q⟩ | ⟨hx, hk, q⟩
  · have c1 : (its.toArray.isEmpty || k == 1) = true := by
      rcases hx with rfl | rfl
      · have : its = [] := List.eq_nil_of_length_eq_zero (by simpa using le)
        subst this
        rfl
      · simp
    exact road _ _ (call_meets F.slot_tuple_mul tis F.entry_tuple_mul (F.args_tuple_mul_2 _ _) (tuple_mul1 l its.toArray n dd sl k t b0 c1) ⟨ho, .ref l, H, I, rfl, q⟩)
  · have ne : its ≠ [] := by
      rintro rfl
      exact hx (List.eq_nil_of_length_eq_zero (by simpa using le.symm))
    have c1 : (its.toArray.isEmpty || k == 1) = false := by
      cases its with
      | nil => exact absurd rfl ne
      | cons a as => simp; omega
    have c2 : (decide (k ≤ 0) || its.toArray.isEmpty) = true := by simp [hk]
    refine road _ _ (call_meets F.slot_tuple_mul tis F.entry_tuple_mul (F.args_tuple_mul_2 _ _) (tuple_mul0 l its.toArray n dd sl k t b0 c1 c2) ⟨ho, laidH (us := []) I .nil (by simp) q⟩)
theorem mul_ok : ∃ r, OpR X (binaryOp .Mult) r ∧ Fn2 X.K mulD r := by
  refine ⟨_, op_mulW.or (op_repL.or (op_repH.or op_repT1)), fun F H x y d e c Q s h1 h2 he q => ?_⟩
  unfold mulD at he
  split at he
  · split at he
    · cases he
      rename_i hb
      exact .inl ⟨_, _, rb_int h1, rb_int h2, by have a := log2_le hb.1.1 hb.1.2; have b := log2_le hb.2.1 hb.2.2; show _ < _; omega, g_int s q⟩
    · cases he
  · split at he
    · rename_i hk
      cases he
      obtain ⟨a, vs, rfl, g1, g2⟩ := rb_lst s h1
      exact .inr (.inl ⟨a, _, vs, rfl, rb_int h2, g1, hk.1, hk.2.1, by rw [g2.length]; exact hk.2.2, g_lst s (Reps.replicate g2 _) q⟩)
    · cases he
  · split at he
    · rename_i hk
      cases he
      obtain ⟨a, vs, rfl, gF, g1, g2⟩ := rb_tup s h1
      have le := g2.length
      rcases hk with hk | ⟨k0, k1, hk⟩
      · refine .inr (.inr (.inl ⟨a, _, vs, rfl, rb_int h2, g1, ?_, hk.2.1, hk.2.2.1, by rw [le]; exact hk.2.2.2, g_tup s (Reps.replicate g2 _) q⟩))
        rintro rfl
        have := hk.1
        simp at le
        omega
      · refine .inr (.inr (.inr ⟨a, _, vs, rfl, rb_int h2, g1, k0, k1, ?_⟩))
        rename_i as z
        by_cases e : vs = [] ∨ z = 1
        · refine .inl ⟨e, ?_⟩
          have e2 : (List.replicate z.toNat as).flatten = as := by
            rcases e with rfl | rfl
            · have : as = [] := List.eq_nil_of_length_eq_zero (by simpa using le.symm)
              subst this
              simp
            · simp
          rw [e2] at q
          exact gv (d := .tuple as) s (show Rep X.K F (.ref a) (.tuple as) from ⟨a, vs, rfl, gF, g2⟩) q
        · simp only [not_or] at e
          have hz : z ≤ 0 := by
            rcases hk with hk | hk
            · exact absurd (List.eq_nil_of_length_eq_zero (by omega)) e.1
            · have := e.2
              omega
          have e2 : (List.replicate z.toNat as).flatten = [] := by
            have : z.toNat = 0 := by omega
            rw [this]
            simp
          rw [e2] at q
          exact .inr ⟨e.1, hz, g_tup (vs := []) (ds := []) s (by simp [Reps]) q⟩
    · cases he
  · cases he
theorem bin_ok (op : Operator) : ∃ r, OpR X (binaryOp op) r ∧ Fn2 X.K (binD op) r := by
  have no : ∀ op', binD op' = (fun _ _ => none) → ∃ r, OpR X (binaryOp op') r ∧ Fn2 X.K (binD op') r := fun op' h => ⟨_, OpR.no, fun F H x y d e c Q s _ _ he _ => by rw [h] at he; cases he⟩
  cases op with
  | Add => exact add_ok
  | Sub => exact ints_ok0 op_sub (int2 (fun d e h => by cases d <;> cases e <;> first | rfl | exact (h _ _ rfl rfl).elim) fun i j c h => by cases h; rfl)
  | Mult => exact mul_ok
  | FloorDiv => exact ints_ok op_fdivW (int2 (fun d e h => by cases d <;> cases e <;> first | rfl | exact (h _ _ rfl rfl).elim) fun i j c h => by
      simp only [binD, fdivD] at h
      split at h
      · rename_i hb
        cases h
        exact ⟨⟨hb.1, by have := log2_le hb.2.1 hb.2.2; omega⟩, rfl⟩
      · cases h)
  | Mod => exact ints_ok op_mod (int2 (fun d e h => by cases d <;> cases e <;> first | rfl | exact (h _ _ rfl rfl).elim) fun i j c h => by
      simp only [binD, modD] at h
      split at h
      · cases h; exact ⟨by assumption, rfl⟩
      · cases h)
  | Pow => exact ints_ok op_pow (int2 (fun d e h => by cases d <;> cases e <;> first | rfl | exact (h _ _ rfl rfl).elim) fun i j c h => by
      simp only [binD, powD] at h
      split at h
      · cases h; exact ⟨by assumption, rfl⟩
      · cases h)
  | LShift => exact ints_ok op_shl (int2 (fun d e h => by cases d <;> cases e <;> first | rfl | exact (h _ _ rfl rfl).elim) fun i j c h => by
      simp only [binD, shlD] at h
      split at h
      · cases h; exact ⟨by assumption, rfl⟩
      · cases h)
  | RShift => exact ints_ok op_shr (int2 (fun d e h => by cases d <;> cases e <;> first | rfl | exact (h _ _ rfl rfl).elim) fun i j c h => by
      simp only [binD, shrD] at h
      split at h
      · cases h; exact ⟨by assumption, rfl⟩
      · cases h)
  | BitAnd => exact ints_ok0 op_and (int2 (fun d e h => by cases d <;> cases e <;> first | rfl | exact (h _ _ rfl rfl).elim) fun i j c h => by cases h; rfl)
  | BitOr => exact ints_ok0 op_or (int2 (fun d e h => by cases d <;> cases e <;> first | rfl | exact (h _ _ rfl rfl).elim) fun i j c h => by cases h; rfl)
  | BitXor => exact no _ rfl
  | Div => exact no _ rfl
  | MatMult => exact no _ rfl
end
end L2.M
namespace L2.M
open PySem PySem.Spec PyProof.Rows
def scD : D → D → Bool
  | .none, .none => true
  | .none, .int _ => true
  | .none, .bool _ => true
  | .none, .str _ => true
  | .int _, .none => true
  | .int _, .int _ => true
  | .int _, .str _ => true
  | .bool _, .none => true
  | .bool _, .bool _ => true
  | .bool _, .str _ => true
  | .str _, .none => true
  | .str _, .int _ => true
  | .str _, .bool _ => true
  | .str _, .str _ => true
  | _, _ => false
/-- two tuples, one of them empty -/
def emD : D → D → Bool
  | .tuple ds, .tuple es => ds.isEmpty || es.isEmpty
  | _, _ => false
def eqD : D → D → Option C := fun d e => if scD d e || emD d e || (SeqAt.shaped d && SeqAt.shaped e) then some (.sh (.bool (PyData.eqv d e))) else none
def neD : D → D → Option C := fun d e => if scD d e || (SeqAt.shaped d && SeqAt.shaped e) then some (.sh (.bool (!PyData.eqv d e))) else none
def ltD : D → D → Option C
  | .int i, .int j => some (.sh (.bool (decide (i < j))))
  | .str i, .str j => some (.sh (.bool (decide (i.cps.toList < j.cps.toList))))
  | _, _ => none
def leD : D → D → Option C
  | .int i, .int j => some (.sh (.bool (decide (i ≤ j))))
  | _, _ => none
def gtD : D → D → Option C
  | .int i, .int j => some (.sh (.bool (decide (j < i))))
  | _, _ => none
def geD : D → D → Option C
  | .int i, .int j => some (.sh (.bool (decide (j ≤ i))))
  | _, _ => none
def isNon : D → Bool
  | .none => true
  | _ => false
def isD : D → D → Option C
  | d, .none => some (.sh (.bool (isNon d)))
  | .bool a, .bool b => some (.sh (.bool (decide (a = b))))
  | _, _ => none
def isnD : D → D → Option C
  | d, .none => some (.sh (.bool (!isNon d)))
  | .bool a, .bool b => some (.sh (.bool (!decide (a = b))))
  | _, _ => none
def inD : D → D → Option C := fun d e => match e with
  | .list ds => if SeqAt.shaped d && SeqAt.shaped (.list ds) then some (.sh (.bool (ds.any fun z => PyData.eqv z d))) else none
  | .tuple ds => if SeqAt.shaped d && SeqAt.shaped (.tuple ds) then some (.sh (.bool (ds.any fun z => PyData.eqv z d))) else none
  | _ => none
def ninD : D → D → Option C := fun d e => match e with
  | .list ds => if SeqAt.shaped d && SeqAt.shaped (.list ds) then some (.sh (.bool (!ds.any fun z => PyData.eqv z d))) else none
  | .tuple ds => if SeqAt.shaped d && SeqAt.shaped (.tuple ds) then some (.sh (.bool (!ds.any fun z => PyData.eqv z d))) else none
  | _ => none
def cmpD : CmpOp → D → D → Option C
  | .Eq => eqD
  | .NotEq => neD
  | .Lt => ltD
  | .LtE => leD
  | .Gt => gtD
  | .GtE => geD
  | .Is => isD
  | .IsNot => isnD
  | .In => inD
  | .NotIn => ninD
section
variable {X : Cx}
theorem isNon_ok {K : PySem.W.Frag} {F H : Hp} {x : V} {d : D} (h : RepB K F H x d) : decide (x = .non) = isNon d := by
  cases d with
  | none => rw [rb_non h]; rfl
  | bool b => rw [rb_bool h]; rfl
  | int b => rw [rb_int h]; rfl
  | str b => rw [rb_str h]; rfl
  | list b =>
    rcases h with ⟨a, vs, rfl, _⟩ | ⟨a, ws, es, rfl, _⟩ <;> rfl
  | tuple b =>
    rcases h with ⟨a, vs, rfl, _⟩ | ⟨a, ws, es, rfl, _⟩ <;> rfl
  | dict b =>
    rcases h with ⟨a, vs, rfl, _⟩ | ⟨a, ws, es, rfl, _⟩ <;> rfl
theorem sc_ok {K : PySem.W.Frag} {F H : Hp} {x y : V} {d e : D} (h1 : RepB K F H x d) (h2 : RepB K F H y e) (h : scD d e = true) : scal x y = true ∧ decide (x = y) = PyData.eqv d e := by
  have sb : ∀ {x : V} {d : D}, RepB K F H x d → (d = .none → x = .non) ∧ (∀ i, d = .int i → x = .int i) ∧ (∀ i, d = .bool i → x = .bl i) ∧ ∀ i, d = .str i → x = .str i := fun {x d} h =>
    ⟨fun e => rb_non (e ▸ h), fun i e => rb_int (e ▸ h), fun i e => rb_bool (e ▸ h), fun i e => rb_str (e ▸ h)⟩
  obtain ⟨a1, a2, a3, a4⟩ := sb h1
  obtain ⟨b1, b2, b3, b4⟩ := sb h2
  cases d <;> cases e <;> (try cases h) <;> first
    | (rw [a1 rfl, b1 rfl]; exact ⟨rfl, rfl⟩)
    | (rw [a1 rfl, b2 _ rfl]; exact ⟨rfl, rfl⟩)
    | (rw [a1 rfl, b3 _ rfl]; exact ⟨rfl, rfl⟩)
    | (rw [a1 rfl, b4 _ rfl]; exact ⟨rfl, rfl⟩)
    | (rw [a2 _ rfl, b1 rfl]; exact ⟨rfl, rfl⟩)
    | (rw [a2 _ rfl, b2 _ rfl]; exact ⟨rfl, by simp only [PyData.eqv]; exact dec_int⟩)
    | (rw [a2 _ rfl, b4 _ rfl]; exact ⟨rfl, rfl⟩)
    | (rw [a3 _ rfl, b1 rfl]; exact ⟨rfl, rfl⟩)
    | (rw [a3 _ rfl, b3 _ rfl]; exact ⟨rfl, by simp only [PyData.eqv]; exact dec_bl⟩)
    | (rw [a3 _ rfl, b4 _ rfl]; exact ⟨rfl, rfl⟩)
    | (rw [a4 _ rfl, b1 rfl]; exact ⟨rfl, rfl⟩)
    | (rw [a4 _ rfl, b2 _ rfl]; exact ⟨rfl, rfl⟩)
    | (rw [a4 _ rfl, b3 _ rfl]; exact ⟨rfl, rfl⟩)
    | (rw [a4 _ rfl, b4 _ rfl]; exact ⟨rfl, by simp only [PyData.eqv]; exact dec_str⟩)
def rEqE (K : PySem.W.Frag) : R2 := fun x y H Q => ∃ l b xs ys, x = .ref l ∧ y = .ref b ∧ SqT K H l xs ∧ SqT K H b ys ∧ (xs = [] ∨ ys = []) ∧ Q (.bl (xs.isEmpty && ys.isEmpty)) H
theorem op_eqE (hu : X.A.units + 64 < cLine) : OpR X (compareOp .Eq) (rEqE X.K) := by
  rintro pins s σ H x y v u Q I rx ry ⟨l, b, xs, ys, rfl, rfl, h1, h2, he, q⟩
  cases rx
  cases ry
  obtain ⟨is, r1, p1, _⟩ := I.tuple h1
  obtain ⟨js, r2, p2, _⟩ := I.tuple h2
  have l1 := r1.length
  have l2 := r2.length
  refine PySem.W.eq_tuplesT (n := 0) (e := fun _ => true) p1 p2 (fun j a c => ?_) (by omega) ⟨.bl (xs.isEmpty && ys.isEmpty), H, I, ?_, q⟩
  · exfalso
    simp at a c
    rcases he with rfl | rfl
    · simp at l1; omega
    · simp at l2; omega
  · have : ((List.range (min is.toArray.size js.toArray.size)).all (fun _ => true) && is.toArray.size == js.toArray.size) = (xs.isEmpty && ys.isEmpty) := by
      rcases he with rfl | rfl
      · have : is = [] := List.eq_nil_of_length_eq_zero (by simpa using l1.symm)
        subst this
        cases ys with
        | nil =>
          have : js = [] := List.eq_nil_of_length_eq_zero (by simpa using l2.symm)
          subst this
          rfl
        | cons y ys =>
          cases js with
          | nil => simp at l2
          | cons z zs => simp
      · have : js = [] := List.eq_nil_of_length_eq_zero (by simpa using l2.symm)
        subst this
        cases xs with
        | nil =>
          have : is = [] := List.eq_nil_of_length_eq_zero (by simpa using l1.symm)
          subst this
          rfl
        | cons y ys =>
          cases is with
          | nil => simp at l1
          | cons z zs => simp
    rw [this]
    exact rfl
theorem em_ok {K : PySem.W.Frag} {F H : Hp} {x y : V} {d e : D} (s : Same F H) (h1 : RepB K F H x d) (h2 : RepB K F H y e) (h : emD d e = true) : ∃ l b xs ys, x = .ref l ∧ y = .ref b ∧ SqT K H l xs ∧ SqT K H b ys ∧ (xs = [] ∨ ys = []) ∧ (xs.isEmpty && ys.isEmpty) = PyData.eqv d e := by
  have main : ∀ ds es : List D, d = .tuple ds → e = .tuple es → (ds = [] ∨ es = []) → ∃ l b xs ys, x = .ref l ∧ y = .ref b ∧ SqT K H l xs ∧ SqT K H b ys ∧ (xs = [] ∨ ys = []) ∧ (xs.isEmpty && ys.isEmpty) = PyData.eqv d e := by
    rintro ds es rfl rfl hh
    obtain ⟨a, vs, rfl, _, g1, r1⟩ := rb_tup s h1
    obtain ⟨b, ws, rfl, _, g2, r2⟩ := rb_tup s h2
    have l1 := r1.length
    have l2 := r2.length
    refine ⟨a, b, vs, ws, rfl, rfl, g1, g2, ?_, ?_⟩
    · rcases hh with rfl | rfl
      · exact .inl (List.eq_nil_of_length_eq_zero (by simpa using l1))
      · exact .inr (List.eq_nil_of_length_eq_zero (by simpa using l2))
    · have e1 : vs.isEmpty = ds.isEmpty := by cases vs <;> cases ds <;> simp_all
      have e2 : ws.isEmpty = es.isEmpty := by cases ws <;> cases es <;> simp_all
      rw [e1, e2]
      simp only [PyData.eqv]
      rcases hh with rfl | rfl
      · cases es <;> simp [PyData.eqvAll]
      · cases ds <;> simp [PyData.eqvAll]
  match d, e, h with
  | .tuple ds, .tuple es, h => exact main _ _ rfl rfl (by simpa [emD] using h)
theorem eq_ok (hu : X.A.units + 64 < cLine) : ∃ r, OpR X (compareOp .Eq) r ∧ Fn2 X.K eqD r := by
  refine ⟨_, (op_eqD hu).or ((op_eqE hu).or op_eq), fun F H x y d e c Q s h1 h2 he q => ?_⟩
  unfold eqD at he
  split at he
  · rename_i h
    simp only [Bool.or_eq_true, Bool.and_eq_true] at h
    cases he
    rcases h with (h | h) | h
    · obtain ⟨k1, k2⟩ := sc_ok h1 h2 h
      refine .inr (.inr ⟨k1, ?_⟩)
      rw [k2]
      exact g_bool s q
    · obtain ⟨l, b, xs, ys, rfl, rfl, g1, g2, g3, g4⟩ := em_ok s h1 h2 h
      refine .inr (.inl ⟨l, b, xs, ys, rfl, rfl, g1, g2, g3, ?_⟩)
      rw [g4]
      exact g_bool s q
    · exact .inl ⟨d, e, rb_dp s h1 (SeqAt.canLay_of_shaped h.1), rb_dp s h2 (SeqAt.canLay_of_shaped h.2), h.1, h.2, g_bool s q⟩
  · cases he
theorem ne_ok (hu : X.A.units + 64 < cLine) : ∃ r, OpR X (compareOp .NotEq) r ∧ Fn2 X.K neD r := by
  refine ⟨_, (op_neD hu).or op_ne, fun F H x y d e c Q s h1 h2 he q => ?_⟩
  unfold neD at he
  split at he
  · rename_i h
    simp only [Bool.or_eq_true, Bool.and_eq_true] at h
    cases he
    rcases h with h | h
    · obtain ⟨k1, k2⟩ := sc_ok h1 h2 h
      refine .inr ⟨k1, ?_⟩
      rw [k2]
      exact g_bool s q
    · exact .inl ⟨d, e, rb_dp s h1 (SeqAt.canLay_of_shaped h.1), rb_dp s h2 (SeqAt.canLay_of_shaped h.2), h.1, h.2, g_bool s q⟩
  · cases he
theorem lt_ok : ∃ r, OpR X (compareOp .Lt) r ∧ Fn2 X.K ltD r := by
  refine ⟨_, op_lt.or op_lt_str, fun F H x y d e c Q s h1 h2 he q => ?_⟩
  unfold ltD at he
  split at he
  · cases he; exact .inl ⟨_, _, rb_int h1, rb_int h2, g_bool s q⟩
  · cases he; exact .inr ⟨_, _, rb_str h1, rb_str h2, g_bool s q⟩
  · cases he
theorem is_ok : ∃ r, OpR X (compareOp .Is) r ∧ Fn2 X.K isD r := by
  refine ⟨_, op_isN.or op_isBl, fun F H x y d e c Q s h1 h2 he q => ?_⟩
  unfold isD at he
  split at he
  · cases he
    refine .inl ⟨rb_non h2, ?_⟩
    rw [isNon_ok h1]
    exact g_bool s q
  · cases he
    exact .inr ⟨_, _, rb_bool h1, rb_bool h2, g_bool s q⟩
  · cases he
theorem isn_ok : ∃ r, OpR X (compareOp .IsNot) r ∧ Fn2 X.K isnD r := by
  refine ⟨_, op_notN.or op_notBl, fun F H x y d e c Q s h1 h2 he q => ?_⟩
  unfold isnD at he
  split at he
  · cases he
    refine .inl ⟨rb_non h2, ?_⟩
    rw [isNon_ok h1]
    exact g_bool s q
  · cases he
    exact .inr ⟨_, _, rb_bool h1, rb_bool h2, g_bool s q⟩
  · cases he
def rAnyIn (K : PySem.W.Frag) : R2 := fun x y H Q => ∃ d ds, Dp K H x d ∧ (Dp K H y (.list ds) ∨ Dp K H y (.tuple ds)) ∧ SeqAt.shaped d = true ∧ (SeqAt.shaped (.list ds) = true ∨ SeqAt.shaped (.tuple ds) = true) ∧ Q (.bl (ds.any fun z => PyData.eqv z d)) H
theorem op_anyIn (hu : X.A.units + 65 < cLine) : OpR X (compareOp .In) (rAnyIn X.K) := by
  intro pins s σ H x y v u Q I rx ry h
  obtain ⟨d, ds, hd, he, sd, se, q⟩ := h
  obtain ⟨as, r1⟩ := Dp.reads I d x v hd rx
  have sa : PyData.canLayAll0 ds = true := se.elim (fun h => SeqAt.canLay_of_shaped h) (fun h => SeqAt.canLay_of_shaped h)
  rcases he with he | he
  · obtain ⟨bs, r2⟩ := Dp.reads I (.list ds) y u he ry
    exact SeqAt.in_list_reads r2 r1 sa (SeqAt.canLay_of_shaped sd) (room_in_shaped sd hu) ⟨.bl _, H, I, rfl, q⟩
  · obtain ⟨bs, r2⟩ := Dp.reads I (.tuple ds) y u he ry
    exact SeqAt.in_tuple_reads r2 r1 sa (SeqAt.canLay_of_shaped sd) (room_in_shaped sd hu) ⟨.bl _, H, I, rfl, q⟩
theorem in_ok (hu : X.A.units + 65 < cLine) : ∃ r, OpR X (compareOp .In) r ∧ Fn2 X.K inD r := by
  refine ⟨_, op_anyIn hu, fun F H x y d e c Q s h1 h2 he q => ?_⟩
  unfold inD at he
  split at he
  · split at he
    · rename_i h
      simp only [Bool.and_eq_true] at h
      cases he
      exact ⟨d, _, rb_dp s h1 (SeqAt.canLay_of_shaped h.1), .inl (rb_dp s h2 (SeqAt.canLay_of_shaped h.2)), h.1, .inl h.2, g_bool s q⟩
    · cases he
  · split at he
    · rename_i h
      simp only [Bool.and_eq_true] at h
      cases he
      exact ⟨d, _, rb_dp s h1 (SeqAt.canLay_of_shaped h.1), .inr (rb_dp s h2 (SeqAt.canLay_of_shaped h.2)), h.1, .inr h.2, g_bool s q⟩
    · cases he
  · cases he
def rAnyNotIn (K : PySem.W.Frag) : R2 := fun x y H Q => ∃ d ds, Dp K H x d ∧ (Dp K H y (.list ds) ∨ Dp K H y (.tuple ds)) ∧ SeqAt.shaped d = true ∧ (SeqAt.shaped (.list ds) = true ∨ SeqAt.shaped (.tuple ds) = true) ∧ Q (.bl (!ds.any fun z => PyData.eqv z d)) H
theorem op_anyNotIn (hu : X.A.units + 65 < cLine) : OpR X (compareOp .NotIn) (rAnyNotIn X.K) := by
  intro pins s σ H x y v u Q I rx ry h
  obtain ⟨d, ds, hd, he, sd, se, q⟩ := h
  obtain ⟨as, r1⟩ := Dp.reads I d x v hd rx
  have sa : PyData.canLayAll0 ds = true := se.elim (fun h => SeqAt.canLay_of_shaped h) (fun h => SeqAt.canLay_of_shaped h)
  rcases he with he | he
  · obtain ⟨bs, r2⟩ := Dp.reads I (.list ds) y u he ry
    exact SeqAt.notIn_list_reads r2 r1 sa (SeqAt.canLay_of_shaped sd) (room_in_shaped sd hu) ⟨.bl _, H, I, rfl, q⟩
  · obtain ⟨bs, r2⟩ := Dp.reads I (.tuple ds) y u he ry
    exact SeqAt.notIn_tuple_reads r2 r1 sa (SeqAt.canLay_of_shaped sd) (room_in_shaped sd hu) ⟨.bl _, H, I, rfl, q⟩
theorem nin_ok (hu : X.A.units + 65 < cLine) : ∃ r, OpR X (compareOp .NotIn) r ∧ Fn2 X.K ninD r := by
  refine ⟨_, op_anyNotIn hu, fun F H x y d e c Q s h1 h2 he q => ?_⟩
  unfold ninD at he
  split at he
  · split at he
    · rename_i h
      simp only [Bool.and_eq_true] at h
      cases he
      exact ⟨d, _, rb_dp s h1 (SeqAt.canLay_of_shaped h.1), .inl (rb_dp s h2 (SeqAt.canLay_of_shaped h.2)), h.1, .inl h.2, g_bool s q⟩
    · cases he
  · split at he
    · rename_i h
      simp only [Bool.and_eq_true] at h
      cases he
      exact ⟨d, _, rb_dp s h1 (SeqAt.canLay_of_shaped h.1), .inr (rb_dp s h2 (SeqAt.canLay_of_shaped h.2)), h.1, .inr h.2, g_bool s q⟩
    · cases he
  · cases he
theorem bools_ok {f : Value → Value → Sem Value} {g : Int → Int → Bool} (h : OpR X f (rI0 fun i j => .bl (g i j))) {t : D → D → Option C}
    (ht : ∀ d e c, t d e = some c → ∃ i j, d = .int i ∧ e = .int j ∧ c = .sh (.bool (g i j))) : ∃ r, OpR X f r ∧ Fn2 X.K t r := by
  refine ⟨_, h, fun F H x y d e c Q s h1 h2 he q => ?_⟩
  obtain ⟨i, j, rfl, rfl, rfl⟩ := ht d e c he
  exact ⟨i, j, rb_int h1, rb_int h2, g_bool s q⟩
theorem cmp_ok (hu : X.A.units + 65 < cLine) (op : CmpOp) : ∃ r, OpR X (compareOp op) r ∧ Fn2 X.K (cmpD op) r := by
  have hu' : X.A.units + 64 < cLine := by omega
  cases op with
  | Eq => exact eq_ok hu'
  | NotEq => exact ne_ok hu'
  | Lt => exact lt_ok
  | LtE => exact bools_ok op_le (int2 (fun d e h => by cases d <;> cases e <;> first | rfl | exact (h _ _ rfl rfl).elim) fun i j c h => by cases h; rfl)
  | Gt => exact bools_ok op_gt (int2 (fun d e h => by cases d <;> cases e <;> first | rfl | exact (h _ _ rfl rfl).elim) fun i j c h => by cases h; rfl)
  | GtE => exact bools_ok op_ge (int2 (fun d e h => by cases d <;> cases e <;> first | rfl | exact (h _ _ rfl rfl).elim) fun i j c h => by cases h; rfl)
  | Is => exact is_ok
  | IsNot => exact isn_ok
  | In => exact in_ok hu
  | NotIn => exact nin_ok hu
def negD : D → Option C
  | .int i => some (.sh (.int (-i)))
  | _ => none
theorem neg_ok : ∃ r, UnR X (unaryOp .USub) r ∧ Fn1 X.K negD r := by
  refine ⟨_, un_neg, fun F H x d c Q s h1 he q => ?_⟩
  unfold negD at he
  split at he
  · cases he; exact ⟨_, rb_int h1, g_int s q⟩
  · cases he
def ixD : D → D → Option C
  | .list ds, .int i => (atI ds i).map .sh
  | .tuple ds, .int i => (atI ds i).map .sh
  | .str z, .int i => if z.length ≤ sizeLine then (atI z.cps.toList i).map fun c => .sh (.str ⟨#[c]⟩) else none
  | _, _ => none
theorem Reps.atI {K : PySem.W.Frag} {F : Hp} {vs : List V} {ds : List D} {i : Int} {d : D} (h : Reps K F vs ds) (e : L2.atI ds i = some d) : ∃ v, L2.atI vs i = some v ∧ Rep K F v d := by
  unfold L2.atI at e ⊢
  rw [h.length]
  cases e1 : ixN ds.length i with
  | none => rw [e1] at e; cases e
  | some j =>
    rw [e1] at e
    exact h.get e
theorem ix_ok : ∃ r, IxR X r ∧ Fn2 X.K ixD r := by
  refine ⟨_, ix_seq, fun F H x y d e c Q s h1 h2 he q => ?_⟩
  unfold ixD at he
  split at he
  · simp only [Option.map_eq_some_iff] at he
    obtain ⟨d, hd, rfl⟩ := he
    obtain ⟨a, vs, rfl, g1, g2⟩ := rb_lst s h1
    rename_i ds i
    have hg : ∃ v, L2.atI vs i = some v ∧ Q v H := by
      obtain ⟨v, e1, e2⟩ := g2.atI hd
      exact ⟨v, e1, gv s e2 q⟩
    obtain ⟨v, e1, e2⟩ := hg
    exact .inl ⟨a, vs, _, v, rfl, rb_int h2, g1, e1, e2⟩
  · simp only [Option.map_eq_some_iff] at he
    obtain ⟨d, hd, rfl⟩ := he
    obtain ⟨a, vs, rfl, g0, g1, g2⟩ := rb_tup s h1
    obtain ⟨v, e1, e2⟩ := g2.atI hd
    exact .inr (.inl ⟨a, vs, _, v, rfl, rb_int h2, g1, e1, gv s e2 q⟩)
  · split at he
    · simp only [Option.map_eq_some_iff] at he
      obtain ⟨d, hd, rfl⟩ := he
      exact .inr (.inr ⟨_, _, _, rb_str h1, rb_int h2, by assumption, hd, g_str s q⟩)
    · cases he
  · cases he
def cutL {α : Type} (xs : List α) (lo hi : Option Int) : List α := (xs.drop (HT.sIx xs.length 0 lo)).take (HT.sIx xs.length xs.length hi - HT.sIx xs.length 0 lo)
def slD : D → Option Int → Option Int → Option C
  | .list ds, lo, hi => some (.ls (cutL ds lo hi))
  | .tuple ds, lo, hi => some (.sh (.tuple (cutL ds lo hi)))
  | .str z, lo, hi => if z.length ≤ sizeLine then some (.sh (.str (cutS z lo hi))) else none
  | _, _, _ => none
abbrev PM := Cs → Option (Option Int × Cs)
def mNoP : PM := fun ε => some (none, ε)
def mPt (m : OM) : PM := fun ε => do
  let (o, ε1) ← m ε
  let d ← bor ε1 o
  match d with
    | .int i => some (some i, ε1)
    | _ => none
def tP (K : Ek) (m : PM) : TO := fun σ H Q => ∃ F R ε o ε', Sep K F R H σ ε [] ∧ m ε = some (o, ε') ∧ ∀ F' H', Same F F' → Sep K F' R H' σ ε' [] → Q o H'
theorem _root_.L2.PO.weak {e : Option Expr} {t t' : TO} (h : PO X e t) (w : ∀ σ H Q, t' σ H Q → t σ H Q) : PO X e t' := ⟨fun pins s σ H Q I q => h.run pins s σ H Q I (w σ H Q q)⟩
theorem mp_none : PO X none (tP X.E mNoP) := po_none.weak fun σ H Q h => by
  obtain ⟨F, R, ε, o, ε', ok, e, q⟩ := h
  cases e
  exact q F H (Same.refl F) ok
theorem mp_some {e : Expr} {m : OM} (h : PE X e (tO X.E m)) : PO X (some e) (tP X.E (mPt m)) := (po_some h).weak fun σ H Q h => by
  obtain ⟨F, R, ε, o, ε', ok, e, q⟩ := h
  unfold mPt at e
  cases e1 : m ε with
  | none => simp [e1] at e
  | some p =>
    obtain ⟨o1, ε1⟩ := p
    cases e2 : bor ε1 o1 with
    | none => simp [e1, e2] at e
    | some d =>
      simp only [e1, e2, Option.bind_eq_bind, Option.bind_some] at e
      split at e
      · rename_i i
        cases e
        refine ⟨F, R, ε, o1, _, ok, e1, fun v F1 H1 fm1 v1 s1 => ?_⟩
        have hb : bors ε' [o1] = some [.int i] := by simp [bors, e2]
        rw [← List.append_nil (tmO [o1] [v])] at s1
        obtain ⟨x, ex, rx⟩ := (bors_ok s1 v1 hb).one
        cases ex
        exact ⟨i, rb_int rx, q F1 H1 fm1 (s1.drops _)⟩
      · cases e
/-- the value is looked at behind the parts: it must be frozen, or a list of its own -/
def mSl (m : OM) (lo hi : PM) : EM := fun ε => do
  let (o, ε1) ← m ε
  let (l, ε2) ← lo ε1
  let (h, ε3) ← hi ε2
  let d ← bor ε3 o
  let c ← slD d l h
  some (c, ε3)
theorem Reps.cut {K : PySem.W.Frag} {F : Hp} {vs : List V} {ds : List D} (h : Reps K F vs ds) (lo hi : Option Int) : Reps K F (cutV vs lo hi) (cutL ds lo hi) := by
  unfold cutV cutL
  rw [h.length]
  exact Reps.take _ (Reps.drop _ h)
theorem cut_whole {α : Type} {xs : List α} {lo hi : Option Int} (h : HT.sIx xs.length 0 lo = 0 ∧ HT.sIx xs.length xs.length hi = xs.length) : cutL xs lo hi = xs := by
  unfold cutL
  rw [h.1, h.2]
  simp
def rSlH (K : PySem.W.Frag) : V → Option Int → Option Int → Hp → VK → Prop := fun x lo hi H Q => ∃ a xs, x = .ref a ∧ SqT K H a xs ∧
  (HT.sIx xs.length 0 lo = 0 ∧ HT.sIx xs.length xs.length hi = xs.length → Q (.ref a) H) ∧ (¬ (HT.sIx xs.length 0 lo = 0 ∧ HT.sIx xs.length xs.length hi = xs.length) → ∀ (p : Addr) (o : Obj), o.dict = none → H p = none → Q (.ref p) (upd H p (.frz o (.tup (cutV xs lo hi)))))
theorem sl_tupH : SlR X (rSlH X.K) := by
  rintro pins s σ H x v vl vu lo hi sl Q I rx hs pl pu ⟨a, xs, rfl, hx, q1, q2⟩
  cases rx
  obtain ⟨its, r, ht, hz⟩ := I.tuple hx
  have le : its.toArray.size = xs.length := by rw [List.size_toArray]; exact r.length.symm
  refine ⟨"tuple", _, PyProof.Rows.slot_tuple_getitem.lookup, ht.typeIs, ?_⟩
  by_cases hw : HT.sIx xs.length 0 lo = 0 ∧ HT.sIx xs.length xs.length hi = xs.length
  · exact getItem_tuple_whole ht hs pl pu (by rw [le]; exact hw) ⟨.ref a, H, I, rfl, q1 hw⟩
  · refine HT.getItem_tuple_cut ht hs pl pu (by rw [le]; exact hw) ?_ (by rw [le]; exact hz)
    rw [le]
    exact laidH I ((r.drop (HT.sIx xs.length 0 lo)).take (HT.sIx xs.length xs.length hi - HT.sIx xs.length 0 lo)) (Nat.le_trans (cutV_length xs lo hi) hz) (q2 hw)
def slR (K : PySem.W.Frag) : V → Option Int → Option Int → Hp → VK → Prop := fun x lo hi H Q => rSlL K x lo hi H Q ∨ rSlH K x lo hi H Q ∨ rSlS x lo hi H Q
theorem sl_fn {K : PySem.W.Frag} {F H : Hp} {x : V} {d : D} {c : C} {lo hi : Option Int} {Q : VK} (s : Same F H) (h1 : RepB K F H x d) (he : slD d lo hi = some c) (q : ∀ v F' H', Grow K F H F' H' v c → Q v H') : slR K x lo hi H Q := by
  unfold slD at he
  split at he
  · cases he
    obtain ⟨a, vs, rfl, g1, g2⟩ := rb_lst s h1
    exact .inl ⟨a, vs, rfl, g1, g_lst s (g2.cut _ _) q⟩
  · cases he
    obtain ⟨a, vs, rfl, g0, g1, g2⟩ := rb_tup s h1
    refine .inr (.inl ⟨a, vs, rfl, g1, fun hw => ?_, fun _ => g_tup s (g2.cut _ _) q⟩)
    rw [g2.length] at hw
    rw [cut_whole hw] at q
    exact gv s (d := .tuple _) ⟨a, vs, rfl, g0, g2⟩ q
  · split at he
    · cases he
      exact .inr (.inr ⟨_, rb_str h1, by assumption, g_str s q⟩)
    · cases he
  · cases he
/-- the operands wait aside -/
theorem Sep.hides {K : Ek} {H : Hp} {σ : St} {ε : Cs} : ∀ {T0 : Tms} {F R : Hp}, Sep K F R H σ ε T0 → ∃ R1, Sep K F R1 H σ ε [] ∧ ∀ F' H' σ' ε' T', Same F F' → Sep K F' R1 H' σ' ε' T' → Sep K F' R H' σ' ε' (T0 ++ T')
  | [], F, R, s => ⟨R, s, fun F' H' σ' ε' T' _ s' => s'⟩
  | (v, c) :: T0, F, R, s => by
    obtain ⟨R1, _, s1, b1⟩ := s.hide
    obtain ⟨R2, s2, b2⟩ := Sep.hides s1
    exact ⟨R2, s2, fun F' H' σ' ε' T' fm s' => b1 F' H' σ' ε' _ fm (b2 F' H' σ' ε' T' fm s')⟩
theorem me_slice {e : Expr} {lo hi : Option Expr} {m : OM} {ml mh : PM} {p2 pos : Pos} (he : PE X e (tO X.E m)) (hl : PO X lo (tP X.E ml)) (hh : PO X hi (tP X.E mh)) : PE X (.Subscript e (.Slice lo hi none p2) pos) (tE X.E (mSl m ml mh)) :=
  (pe_slice (sl_list.or (sl_tupH.or sl_str)) he hl hh).weak fun σ H Q h => by
    obtain ⟨F, R, ε, c, ε', ok, e, q⟩ := h
    unfold mSl at e
    cases e1 : m ε with
    | none => simp [e1] at e
    | some p =>
      obtain ⟨o, ε1⟩ := p
      cases e2 : ml ε1 with
      | none => simp [e1, e2] at e
      | some p2 =>
        obtain ⟨l, ε2⟩ := p2
        cases e3 : mh ε2 with
        | none => simp [e1, e2, e3] at e
        | some p3 =>
          obtain ⟨u, ε3⟩ := p3
          cases e4 : bor ε3 o with
          | none => simp [e1, e2, e3, e4] at e
          | some d =>
            cases e5 : slD d l u with
            | none => simp [e1, e2, e3, e4, e5] at e
            | some c' =>
              simp [e1, e2, e3, e4, e5] at e
              obtain ⟨rfl, rfl⟩ := e
              refine ⟨F, R, ε, o, ε1, ok, e1, fun v F1 H1 fm1 v1 s1 => ?_⟩
              obtain ⟨R1, s1', back⟩ := s1.hides
              refine ⟨F1, R1, ε1, l, ε2, s1', e2, fun F2 H2 fm2 s2 => ⟨F2, R1, ε2, u, ε3, s2, e3, fun F3 H3 fm3 s3 => ?_⟩⟩
              have s3' := back F3 H3 σ ε3 [] (fm2.trans fm3) s3
              have hb : bors ε3 [o] = some [d] := by simp [bors, e4]
              obtain ⟨x, ex, rx⟩ := (bors_ok s3' v1 hb).one
              cases ex
              refine sl_fn s3'.sub rx e5 fun w F4 H4 g => ?_
              exact q w F4 H4 (((fm1.trans fm2).trans fm3).trans g.fm) ((s3'.drops _).res g)
def lenD : List D → Option C
  | [.list ds] => some (.sh (.int ds.length))
  | [.tuple ds] => some (.sh (.int ds.length))
  | [.str z] => if z.length ≤ sizeLine then some (.sh (.int z.length)) else none
  | _ => none
theorem len_ok : ∃ r, CallR X (.builtin "len") r ∧ FnB X.K lenD r := by
  refine ⟨_, call_len, fun F H vs ds c Q s hr he q => ?_⟩
  match ds, he, hr with
  | [.list ds], he, hr =>
    cases he
    obtain ⟨x, rfl, h1⟩ := hr.one
    obtain ⟨a, vs, rfl, g1, g2⟩ := rb_lst s h1
    refine ⟨_, ds.length, rfl, .inl ⟨vs, g1, g2.length.symm⟩, g_int s q⟩
  | [.tuple ds], he, hr =>
    cases he
    obtain ⟨x, rfl, h1⟩ := hr.one
    obtain ⟨a, vs, rfl, g0, g1, g2⟩ := rb_tup s h1
    refine ⟨_, ds.length, rfl, .inr ⟨vs, g1, g2.length.symm⟩, g_int s q⟩
  | [.str z], he, hr =>
    simp only [lenD] at he
    split at he
    · rename_i hz
      cases he
      obtain ⟨x, rfl, h1⟩ := hr.one
      rw [rb_str h1]
      exact ⟨_, z.length, rfl, ⟨hz, rfl⟩, g_int s q⟩
    · cases he
def intD : List D → Option C
  | [.int i] => some (.sh (.int i))
  | [.bool k] => some (.sh (.int (if k then 1 else 0)))
  | _ => none
theorem int_ok : ∃ r, CallR X (.type "int") r ∧ FnB X.K intD r := by
  refine ⟨_, call_int1, fun F H vs ds c Q s hr he q => ?_⟩
  match ds, he, hr with
  | [.int i], he, hr =>
    cases he
    obtain ⟨x, rfl, h1⟩ := hr.one
    rw [rb_int h1]
    exact .inl ⟨i, rfl, g_int s q⟩
  | [.bool k], he, hr =>
    cases he
    obtain ⟨x, rfl, h1⟩ := hr.one
    rw [rb_bool h1]
    exact .inr ⟨k, rfl, g_int s q⟩
def maxD : List D → Option C
  | [.int i, .int j] => some (.sh (.int (if j > i then j else i)))
  | _ => none
theorem max_ok (hc : X.calm = true) : ∃ r, CallR X (.builtin "max") r ∧ FnB X.K maxD r := by
  refine ⟨_, call_max2 hc, fun F H vs ds c Q s hr he q => ?_⟩
  match ds, he, hr with
  | [.int i, .int j], he, hr =>
    cases he
    obtain ⟨x, y, rfl, h1, h2⟩ := hr.two
    rw [rb_int h1, rb_int h2]
    exact ⟨i, j, rfl, g_int s q⟩
def minD : List D → Option C
  | [.int i, .int j] => some (.sh (.int (if j < i then j else i)))
  | _ => none
theorem min_ok (hc : X.calm = true) : ∃ r, CallR X (.builtin "min") r ∧ FnB X.K minD r := by
  refine ⟨_, call_min2 hc, fun F H vs ds c Q s hr he q => ?_⟩
  match ds, he, hr with
  | [.int i, .int j], he, hr =>
    cases he
    obtain ⟨x, y, rfl, h1, h2⟩ := hr.two
    rw [rb_int h1, rb_int h2]
    exact ⟨i, j, rfl, g_int s q⟩
def absD : List D → Option C
  | [.int i] => some (.sh (.int (if i < 0 then -i else i)))
  | _ => none
theorem abs_ok : ∃ r, CallR X (.builtin "abs") r ∧ FnB X.K absD r := by
  refine ⟨_, call_abs, fun F H vs ds c Q s hr he q => ?_⟩
  match ds, he, hr with
  | [.int i], he, hr =>
    cases he
    obtain ⟨x, rfl, h1⟩ := hr.one
    rw [rb_int h1]
    exact ⟨i, rfl, g_int s q⟩
def tupD : List D → Option C
  | [.list ds] => some (.sh (.tuple ds))
  | [.tuple ds] => some (.sh (.tuple ds))
  | _ => none
theorem call_tupleH : CallR X (.type "tuple") (fun xs H Q => ∃ p ys, xs = [.ref p] ∧ ((SqL X.K H p ys ∧ ∀ (l : Addr) (o : Obj), o.dict = none → H l = none → Q (.ref l) (upd H l (.frz o (.tup ys)))) ∨ (SqT X.K H p ys ∧ Q (.ref p) H))) := by
  rintro pins s σ H xs us Q I r ⟨p, ys, rfl, h⟩
  obtain ⟨u, rfl, rx⟩ := vals1 r
  cases rx
  rcases h with ⟨hq, q⟩ | ⟨hq, q⟩
  · obtain ⟨its, r', pl, hz⟩ := I.list hq
    have le := r'.length
    refine call_tuple_list pl.isList (fun h' kp => ?_) (by simp only [List.size_toArray] <;> omega)
    have I1 : Inv X pins σ H { s with heap := h' } := I.kept (t' := s.toks) kp
    exact laidH I1 r' hz q
  · obtain ⟨its, r', pl, hz⟩ := I.tuple hq
    exact call_tuple_same pl ⟨.ref p, H, I, rfl, q⟩
theorem tup_ok : ∃ r, CallR X (.type "tuple") r ∧ FnB X.K tupD r := by
  refine ⟨_, call_tupleH, fun F H vs ds c Q s hr he q => ?_⟩
  match ds, he, hr with
  | [.list ds], he, hr =>
    cases he
    obtain ⟨x, rfl, h1⟩ := hr.one
    obtain ⟨a, vs, rfl, g1, g2⟩ := rb_lst s h1
    exact ⟨a, vs, rfl, .inl ⟨g1, g_tup s g2 q⟩⟩
  | [.tuple ds], he, hr =>
    cases he
    obtain ⟨x, rfl, h1⟩ := hr.one
    obtain ⟨a, vs, rfl, g0, g1, g2⟩ := rb_tup s h1
    exact ⟨a, vs, rfl, .inr ⟨g1, gv s (d := .tuple _) ⟨a, vs, rfl, g0, g2⟩ q⟩⟩
def lstD : List D → Option C
  | [.list ds] => some (.ls ds)
  | [.tuple ds] => some (.ls ds)
  | _ => none
theorem lst_ok : ∃ r, CallR X (.type "list") r ∧ FnB X.K lstD r := by
  refine ⟨_, call_list_of, fun F H vs ds c Q s hr he q => ?_⟩
  match ds, he, hr with
  | [.list ds], he, hr =>
    cases he
    obtain ⟨x, rfl, h1⟩ := hr.one
    obtain ⟨a, vs, rfl, g1, g2⟩ := rb_lst s h1
    exact ⟨a, vs, rfl, .inl g1, g_lst s g2 q⟩
  | [.tuple ds], he, hr =>
    cases he
    obtain ⟨x, rfl, h1⟩ := hr.one
    obtain ⟨a, vs, rfl, g0, g1, g2⟩ := rb_tup s h1
    exact ⟨a, vs, rfl, .inr g1, g_lst s g2 q⟩
def repD : List D → Option C
  | [.none] => some (.sh (.str "None"))
  | [.bool b] => some (.sh (.str (if b then "True" else "False")))
  | [.int i] => if sm i then some (.sh (.str (toString i))) else none
  | _ => none
theorem rep_ok : ∃ r, CallR X (.builtin "repr") r ∧ FnB X.K repD r := by
  refine ⟨fun xs H Q => (xs = [.non] ∧ Q (.str "None") H) ∨ (∃ b, xs = [.bl b] ∧ Q (.str (if b then "True" else "False")) H) ∨ (∃ i, xs = [.int i] ∧ i.natAbs.log2 < 1920 ∧ Q (.str (toString i)) H), ?_, fun F H vs ds c Q s hr he q => ?_⟩
  · intro pins s σ H xs us Q I r h
    rcases h with ⟨rfl, q⟩ | ⟨b, rfl, q⟩ | ⟨i, rfl, hz, q⟩
    · obtain ⟨u, rfl, h⟩ := vals1 r
      cases h
      exact PySem.P.repr_of_none ⟨.str _, H, I.tok _, ⟨_, rfl⟩, q⟩
    · obtain ⟨u, rfl, h⟩ := vals1 r
      cases h
      exact PySem.P.repr_of_bool ⟨.str _, H, I.tok _, ⟨_, rfl⟩, q⟩
    · obtain ⟨u, rfl, t, rfl⟩ := vals1 r
      exact PySem.P.repr_of_int hz ⟨.str _, H, I.tok _, ⟨_, rfl⟩, q⟩
  match ds, he, hr with
  | [.none], he, hr =>
    cases he
    obtain ⟨x, rfl, h1⟩ := hr.one
    rw [rb_non h1]
    exact .inl ⟨rfl, g_str s q⟩
  | [.bool b], he, hr =>
    cases he
    obtain ⟨x, rfl, h1⟩ := hr.one
    rw [rb_bool h1]
    exact .inr (.inl ⟨b, rfl, g_str s q⟩)
  | [.int i], he, hr =>
    simp only [repD] at he
    split at he
    · rename_i hz
      cases he
      obtain ⟨x, rfl, h1⟩ := hr.one
      rw [rb_int h1]
      exact .inr (.inr ⟨i, rfl, by have := log2_le hz.1 hz.2; omega, g_str s q⟩)
    · cases he
end
end L2.M
namespace L2.M
open PySem PySem.Spec PyProof.Rows
abbrev BM := D → Cs → Option Cs
def bNm (i : Nat) : BM := fun d ε => if i < ε.length then some (ε.set i (.sh d)) else none
def bTps : List BM → List D → Cs → Option Cs
  | [], [], ε => some ε
  | b :: bs, d :: ds, ε => do
    let ε1 ← b d ε
    bTps bs ds ε1
  | _, _, _ => none
def bTup (bs : List BM) : BM := fun d ε => match d with
  | .tuple ds => if ds.length = bs.length then bTps bs ds ε else none
  | _ => none
/-- what a target leaves: the slots but S stay -/
structure Bnd (K : Ek) (F R H : Hp) (S : Nat → Prop) (σ : St) (ε : Cs) (H' : Hp) (σ' : St) (ε' : Cs) : Prop where
  sep : Sep K F R H' σ' ε' []
  st : ∀ i : Nat, ¬ S i → σ'[i]? = σ[i]?
  ln : σ'.length = σ.length
def Gd (K : Ek) (g : TG) (b : BM) (S : Nat → Prop) : Prop :=
  ∀ F R H σ ε x d ε' (Q : St → Hp → Prop), Sep K F R H σ ε [] → Rep K.1 F x d → b d ε = some ε' → (∀ H' σ', Bnd K F R H S σ ε H' σ' ε' → Q σ' H') → g x σ H Q
def Gds (K : Ek) (g : TGs) (b : List D → Cs → Option Cs) (S : Nat → Prop) : Prop :=
  ∀ F R H σ ε xs ds ε' (Q : St → Hp → Prop), Sep K F R H σ ε [] → Reps K.1 F xs ds → b ds ε = some ε' → (∀ H' σ', Bnd K F R H S σ ε H' σ' ε' → Q σ' H') → g xs σ H Q
section
variable {K : Ek} {F R H H1 H2 : Hp} {σ σ1 σ2 : St} {ε ε1 ε2 : Cs} {S S' : Nat → Prop}
theorem Bnd.trans (a : Bnd K F R H S σ ε H1 σ1 ε1) (b : Bnd K F R H1 S σ1 ε1 H2 σ2 ε2) : Bnd K F R H S σ ε H2 σ2 ε2 :=
  ⟨b.sep, fun i h => (b.st i h).trans (a.st i h), b.ln.trans a.ln⟩
theorem Bnd.imp (a : Bnd K F R H S σ ε H1 σ1 ε1) (h : ∀ i, S i → S' i) : Bnd K F R H S' σ ε H1 σ1 ε1 := ⟨a.sep, fun i n => a.st i fun z => n (h i z), a.ln⟩
theorem gd_name {i : Nat} : Gd K (gName i) (bNm i) (· = i) := by
  intro F R H σ ε x d ε' Q o r e q
  unfold bNm at e
  split at e
  · cases e
    exact q H _ ⟨(o.addSh r).store i, fun j h => List.getElem?_set_ne (Ne.symm h), by simp⟩
  · cases e
theorem gds_nil : Gds K gNil (bTps []) (fun _ => False) := by
  intro F R H σ ε xs ds ε' Q o r e q
  cases ds with
  | nil =>
    cases e
    exact ⟨r, q H σ ⟨o, fun _ _ => rfl, rfl⟩⟩
  | cons _ _ => simp [bTps] at e
theorem gds_cons {t : TG} {u : TGs} {b : BM} {bs : List BM} (h1 : Gd K t b S) (h2 : Gds K u (bTps bs) S') : Gds K (gCons t u) (bTps (b :: bs)) (fun i => S i ∨ S' i) := by
  intro F R H σ ε xs ds ε' Q o r e q
  cases ds with
  | nil => simp [bTps] at e
  | cons d ds =>
    obtain ⟨v, vr, rfl, r1, r2⟩ := r
    unfold bTps at e
    cases e1 : b d ε with
    | none => simp [e1] at e
    | some ε1 =>
      simp [e1] at e
      refine ⟨v, vr, rfl, h1 F R H σ ε v d ε1 _ o r1 e1 fun H1 σ1 b1 => ?_⟩
      exact h2 F R H1 σ1 ε1 vr ds ε' Q b1.sep r2 e fun H2 σ2 b2 => q H2 σ2 ((b1.imp fun _ z => .inl z).trans (b2.imp fun _ z => .inr z))
theorem gd_tup {t : TGs} {bs : List BM} {n : Nat} (hn : n = bs.length) (h : Gds K t (bTps bs) S) : Gd K (gTup K.1 n t) (bTup bs) S := by
  intro F R H σ ε x d ε' Q o r e q
  unfold bTup at e
  split at e
  · rename_i ds
    split at e
    · rename_i hl
      obtain ⟨a, vs, rfl, h1, h2⟩ := r
      exact ⟨a, vs, rfl, sameT o.sub h1.sq, by rw [h2.length, hl, hn], h F R H σ ε vs ds ε' Q o h2 e q⟩
    · cases e
  · cases e
end
def Src (K : Ek) (F R H : Hp) (σ : St) (ε : Cs) (J : It) (ds : List D) (ws : List Nat) : Prop :=
  ∃ G Y, Walk J ds.length G Y ∧ ∀ F2 H2 σ2 ε2, Same F F2 → Sep K F2 R H2 σ2 ε2 [] → (∀ i ∈ ws, σ2[i]? = σ[i]? ∧ ε2[i]? = ε[i]?) →
    G H2 ∧ ∀ i x H3, i < ds.length → Y i H2 x H3 → ∃ F3 d, ds[i]? = some d ∧ Rep K.1 F3 x d ∧ Grw F2 H2 F3 H3
/-- what waits aside comes back -/
def Back (K : Ek) (F R1 R : Hp) : Prop := ∀ F' H' σ' ε' T', Same F F' → Sep K F' R1 H' σ' ε' T' → Sep K F' R H' σ' ε' T'
abbrev SM := Cs → Option ((List D × List Nat) × Cs)
def tI (K : Ek) (m : SM) : TI := fun σ H Q => ∃ F R ε ds ws ε', Sep K F R H σ ε [] ∧ m ε = some ((ds, ws), ε') ∧ ∀ F' R' H' J, Same F F' → Sep K F' R' H' σ ε' [] → Back K F' R' R → Src K F' R' H' σ ε' J ds ws → Q J H'
def plOf : List Opd → List Nat
  | [] => []
  | .pl i :: os => i :: plOf os
  | .tm _ :: os => plOf os
def mSrc (kind : List D → Option (List D)) (ma : AM) : SM := fun ε => do
  let (os, ε1) ← ma ε
  let ds ← bors ε1 os
  let out ← kind ds
  some ((out, plOf os), ε1)
/-- the operands, looked at later -/
def Later (K : Ek) (F R : Hp) (σ : St) (ε : Cs) (ws : List Nat) (vs : List V) (ds : List D) : Prop := ∀ F2 H2 σ2 ε2, Same F F2 → Sep K F2 R H2 σ2 ε2 [] → (∀ i ∈ ws, σ2[i]? = σ[i]? ∧ ε2[i]? = ε[i]?) → RepBs K.1 F2 H2 vs ds
theorem opv_to {σ σ2 : St} : ∀ {os : List Opd} {vs : List V}, OpV σ vs os → (∀ i ∈ plOf os, σ2[i]? = σ[i]?) → OpV σ2 vs os
  | [], vs, h, k => by cases h; exact .nil
  | _ :: os, vs, h, k => by
    cases h with
    | pl hv h2 => exact .pl ((k _ (by simp [plOf])).trans hv) (opv_to h2 fun i hi => k i (by simp [plOf, hi]))
    | tm h2 => exact .tm (opv_to h2 k)
theorem bors_to {ε ε2 : Cs} : ∀ {os : List Opd} {ds : List D}, bors ε os = some ds → (∀ i ∈ plOf os, ε2[i]? = ε[i]?) → bors ε2 os = some ds
  | [], ds, h, k => h
  | o :: os, ds, h, k => by
    unfold bors at h ⊢
    have e1 : bor ε2 o = bor ε o := by
      cases o with
      | pl i => simp only [bor, k i (by simp [plOf])]
      | tm c => cases c <;> rfl
    have hk : ∀ i ∈ plOf os, ε2[i]? = ε[i]? := fun i hi => k i (by
      cases o with
      | pl j => simp [plOf, hi]
      | tm c => exact hi)
    rw [e1]
    cases e2 : bor ε o with
    | none => simp [e2] at h
    | some d =>
      cases e3 : bors ε os with
      | none => simp [e2, e3] at h
      | some ds2 =>
        rw [bors_to e3 hk]
        simpa [e2, e3] using h
theorem later_ok {K : Ek} {F R H : Hp} {σ : St} {ε : Cs} {os : List Opd} {vs : List V} {ds : List D} (s : Sep K F R H σ ε (tmO os vs)) (h : OpV σ vs os) (e : bors ε os = some ds) :
    ∃ R1, Sep K F R1 H σ ε [] ∧ Back K F R1 R ∧ Later K F R1 σ ε (plOf os) vs ds := by
  obtain ⟨R1, s1, back⟩ := s.hides
  refine ⟨R1, s1, fun F' H' σ' ε' T' fm s' => (back F' H' σ' ε' T' fm s').drops _, fun F2 H2 σ2 ε2 fm s2 k => ?_⟩
  exact bors_ok (back F2 H2 σ2 ε2 [] fm s2) (opv_to h fun i hi => (k i hi).1) (bors_to e fun i hi => (k i hi).2)
def itemsD : List D → Option (List D)
  | [.list ds] => some ds
  | [.tuple ds] => some ds
  | [.str z] => some (z.cps.toList.map fun c => .str ⟨#[c]⟩)
  | _ => none
def rangeD (lo c : Int) (n : Nat) : List D := (List.range n).map fun i => PyData.int (lo + (i : Nat) * c)
def rng1D : List D → Option (List D)
  | [.int j] => if -(2 ^ 62) ≤ j ∧ j < 2 ^ 62 then some (rangeD 0 1 j.toNat) else none
  | _ => none
theorem _root_.L2.PI.or {X : Cx} {tg e : Expr} {w1 w2 : TI} (a : PI X tg e w1) (b : PI X tg e w2) : PI X tg e (fun σ H R => w1 σ H R ∨ w2 σ H R) :=
  ⟨fun pins s σ H R I h => h.elim (a.run pins s σ H R I) (b.run pins s σ H R I)⟩
theorem _root_.L2.PI.weak {X : Cx} {tg e : Expr} {w1 w2 : TI} (a : PI X tg e w1) (h : ∀ σ H R, w2 σ H R → w1 σ H R) : PI X tg e w2 := ⟨fun pins s σ H R I q => a.run pins s σ H R I (h σ H R q)⟩
theorem src_parts {K : Ek} {kind : List D → Option (List D)} {ma : AM} {σ : St} {H : Hp} {Q : It → Hp → Prop} (h : tI K (mSrc kind ma) σ H Q) : tA K ma σ H fun vs H1 => ∃ F R ε ws ds out, Sep K F R H1 σ ε [] ∧ Later K F R σ ε ws vs ds ∧ kind ds = some out ∧
    ∀ F' H' J, Same F F' → Sep K F' R H' σ ε [] → Src K F' R H' σ ε J out ws → Q J H' := by
  obtain ⟨F, R, ε, ds, ws, ε', o, e, q⟩ := h
  unfold mSrc at e
  cases e1 : ma ε with
  | none => simp [e1] at e
  | some p =>
    obtain ⟨os, ε1⟩ := p
    cases e2 : bors ε1 os with
    | none => simp [e1, e2] at e
    | some ds' =>
      cases e3 : kind ds' with
      | none => simp [e1, e2, e3] at e
      | some out =>
        simp [e1, e2, e3] at e
        obtain ⟨⟨rfl, rfl⟩, rfl⟩ := e
        refine ⟨F, R, ε, os, ε1, o, e1, fun vs F1 H1 fm1 v1 s1 => ?_⟩
        obtain ⟨R1, s2, bk, lt⟩ := later_ok s1 v1 e2
        exact ⟨F1, R1, ε1, plOf os, ds', out, s2, lt, e3, fun F' H' J fm s' sr => q F' R1 H' J (fm1.trans fm) s' (fun F2 H2 σ2 ε2 T2 fm2 => bk F2 H2 σ2 ε2 T2 (fm.trans fm2)) sr⟩
theorem Later.now {K : Ek} {F R H : Hp} {σ : St} {ε : Cs} {ws : List Nat} {vs : List V} {ds : List D} (l : Later K F R σ ε ws vs ds) (s : Sep K F R H σ ε []) : RepBs K.1 F H vs ds := l F H σ ε (Same.refl F) s fun _ _ => ⟨rfl, rfl⟩
theorem walkL {K : PySem.W.Frag} {a : Addr} {n : Nat} : Walk (Itl K a) n (fun H => ∃ vs, SqL K H a vs ∧ vs.length = n) (fun i H x H' => H' = H ∧ ∀ vs, SqL K H a vs → vs[i]? = some x) :=
  ⟨fun i _ hi ⟨vs, q, e⟩ => ⟨vs, vs[i]'(by omega), q, by simp [show i < vs.length by omega]⟩, fun _ ⟨vs, q, e⟩ => ⟨vs, q, by omega⟩, fun _ _ _ _ _ _ y => y⟩
theorem RepBs.inj1 {K : PySem.W.Frag} {F H : Hp} {x : V} {d : D} (h : RepBs K F H [x] [d]) : RepB K F H x d := by
  cases h with
  | cons h _ => exact h
section
variable {X : Cx} {tg e : Expr} {m : OM} {ma : AM}
/-- for x in e, e a list, a tuple or a text -/
theorem mi_any (h : PE X e (tO X.E m)) : PI X tg e (tI X.E (mSrc itemsD (mCons m mNil))) := by
  refine ((pi_list h).or ((pi_tup h).or (pi_str h))).weak fun σ H Q q => ?_
  -- the data of the operand is told ahead
  obtain ⟨F0, R0, ε0, ds0, ws0, ε0', s0, e0, q0⟩ := q
  unfold mSrc mCons mNil at e0
  cases em : m ε0 with
  | none => simp [em] at e0
  | some p =>
    obtain ⟨o0, εm⟩ := p
    cases eb : bor εm o0 with
    | none => simp [em, bors, eb] at e0
    | some d =>
      cases ek : itemsD [d] with
      | none => simp [em, bors, eb, ek] at e0
      | some out =>
        simp [em, bors, eb, ek] at e0
        obtain ⟨⟨rfl, rfl⟩, rfl⟩ := e0
        have hb : bors εm [o0] = some [d] := by simp [bors, eb]
        have go : ∀ v F' H', Same F0 F' → OpV σ [v] [o0] → Sep X.E F' R0 H' σ εm (tmO [o0] [v]) → ∃ R1, Sep X.E F' R1 H' σ εm [] ∧ Later X.E F' R1 σ εm (plOf [o0]) [v] [d] ∧ ∀ J, Src X.E F' R1 H' σ εm J out (plOf [o0]) → Q J H' := fun v F' H' fm v1 s1 => by
          obtain ⟨R1, s2, bk, lt⟩ := later_ok s1 v1 hb
          exact ⟨R1, s2, lt, fun J sr => q0 F' R1 H' J fm s2 bk sr⟩
        match d, ek with
        | .list ds, ek =>
          cases ek
          refine .inl ⟨F0, R0, ε0, o0, εm, s0, em, fun v F1 H1 fm1 v1 s1 => ?_⟩
          obtain ⟨R1, s2, lt, q3⟩ := go v F1 H1 fm1 v1 s1
          obtain ⟨a, vs, rfl, g1, g2⟩ := rb_lst s2.sub (lt.now s2).inj1
          refine ⟨a, rfl, ⟨vs, g1⟩, q3 _ ⟨_, _, walkL, fun F2 H2 σ2 ε2 fm2 s3 hw => ?_⟩⟩
          obtain ⟨a', us, ea, k1, k2⟩ := rb_lst s3.sub (lt F2 H2 σ2 ε2 fm2 s3 hw).inj1
          cases ea
          refine ⟨⟨us, k1, k2.length⟩, fun i x H3 hi y => ?_⟩
          obtain ⟨rfl, y⟩ := y
          obtain ⟨w, j1, j2⟩ := k2.get (List.getElem?_eq_getElem hi)
          rw [y us k1] at j1
          cases j1
          exact ⟨F2, _, List.getElem?_eq_getElem hi, j2, Grw.refl s3.sub⟩
        | .tuple ds, ek =>
          cases ek
          refine .inr (.inl ⟨F0, R0, ε0, o0, εm, s0, em, fun v F1 H1 fm1 v1 s1 => ?_⟩)
          obtain ⟨R1, s2, lt, q3⟩ := go v F1 H1 fm1 v1 s1
          obtain ⟨a, vs, rfl, h2, _, h3⟩ := rb_tup s2.sub (lt.now s2).inj1
          refine ⟨a, rfl, ⟨vs, sameT s2.sub h2.sq⟩, q3 _ ⟨_, _, (show Walk (Itt X.K a) out.length (fun H => SqT X.K H a vs) (YAt vs) by rw [← h3.length]; exact walk_tup), fun F2 H2 σ2 ε2 fm2 s3 hw => ?_⟩⟩
          refine ⟨sameT s3.sub (sameT fm2 h2.sq), fun i x H3 hi y => ?_⟩
          obtain ⟨rfl, y⟩ := y
          obtain ⟨w, k1, k2⟩ := h3.get (List.getElem?_eq_getElem hi)
          rw [y] at k1
          cases k1
          exact ⟨F2, _, List.getElem?_eq_getElem hi, Rep.mono fm2 _ _ k2, Grw.refl s3.sub⟩
        | .str z, ek =>
          cases ek
          refine .inr (.inr ⟨F0, R0, ε0, o0, εm, s0, em, fun v F1 H1 fm1 v1 s1 => ?_⟩)
          obtain ⟨R1, s2, lt, q3⟩ := go v F1 H1 fm1 v1 s1
          refine ⟨z, rb_str (lt.now s2).inj1, q3 _ ⟨_, _, (show Walk (Its z) (z.cps.toList.map fun c => PyData.str ⟨#[c]⟩).length _ _ by rw [List.length_map, Array.length_toList]; exact walk_str), fun F2 H2 σ2 ε2 fm2 s3 hw => ?_⟩⟩
          refine ⟨trivial, fun i x H3 hi y => ?_⟩
          obtain ⟨rfl, c, y1, rfl⟩ := y
          refine ⟨F2, .str ⟨#[c]⟩, ?_, by simp [Rep], Grw.refl s3.sub⟩
          rw [List.getElem?_map, Array.getElem?_toList, y1]
          rfl
theorem src_range {K : Ek} {F R H : Hp} {σ : St} {ε : Cs} {lo : Int} {n : Nat} {ws : List Nat} : Src K F R H σ ε (Itr lo n) (rangeD lo 1 n) ws := by
  refine ⟨_, _, (show Walk (Itr lo n) (rangeD lo 1 n).length (fun _ => True) (YFn fun i => .int (lo + i)) by simp only [rangeD, List.length_map, List.length_range]; exact walk_range), fun F2 H2 σ2 ε2 fm2 s2 _ => ⟨trivial, fun i x H3 hi y => ?_⟩⟩
  obtain ⟨rfl, rfl⟩ := y
  refine ⟨F2, .int (lo + i), ?_, by simp [Rep], Grw.refl s2.sub⟩
  simp only [rangeD, List.length_map, List.length_range] at hi
  simp [rangeD, hi]
theorem mi_range1 {a : Expr} {p pos : Pos} (hg : Gl X "range") (hm : X.mg "range" = none) (ha : PA X [a] (tA X.E ma)) (hs : starEach [a] X.env = [(false, eval a X.env)]) : PI X tg (.Call (.Name "range" p) [a] [] pos) (tI X.E (mSrc rng1D ma)) := by
  refine (pi_range1 hg hm ha hs).weak fun σ H Q q => tA_mono (src_parts q) fun vs H1 h => ?_
  obtain ⟨F, R, ε, ws, ds, out, s, lt, ek, q⟩ := h
  have rb := lt.now s
  match ds, ek, rb with
  | [.int j], ek, rb =>
    simp only [rng1D] at ek
    split at ek
    · rename_i hj
      cases ek
      obtain ⟨x, rfl, h1⟩ := rb.one
      exact ⟨j, by rw [rb_int h1], hj.1, hj.2, q F H1 _ (Same.refl F) s src_range⟩
    · cases ek
end
end L2.M
namespace L2.M
open PySem PySem.Spec PyProof.Rows
def wipeC (ε : Cs) : List Nat → Cs
  | [] => ε
  | v :: vs => (wipeC ε vs).set v .no
def restC (ε ε1 : Cs) : List Nat → Cs
  | [] => ε
  | v :: vs => match ε1[v]? with
    | some c => (restC ε ε1 vs).set v c
    | none => restC ε ε1 vs
def sameC (ws : List Nat) (ε0 ε : Cs) : Prop := ∀ i ∈ ws, ε[i]? = ε0[i]?
open Classical in
noncomputable def lcL (ws : List Nat) (ε0 : Cs) (bind : BM) (tests : TM) (elt : EM) (own : List Nat) : List D → Nat → Cs → Option (List D × Cs)
  | [], _, ε => if sameC ws ε0 ε then some ([], ε) else none
  | d :: ds, n, ε => if sameC ws ε0 ε then do
      let ε1 ← bind d ε
      let (b, ε2) ← tests ε1
      if b then do
        let (c, ε3) ← elt ε2
        let e ← cD c
        if n < sizeLine then do
          let (r, ε4) ← lcL ws ε0 bind tests elt own ds (n + 1) (wipeC ε3 own)
          some (e :: r, ε4)
        else none
      else lcL ws ε0 bind tests elt own ds n (wipeC ε2 own)
    else none
noncomputable def mLc (src : SM) (bind : BM) (tests : TM) (elt : EM) (own : List Nat) : EM := fun ε => do
  let ((ds, ws), ε1) ← src ε
  if ws.all (fun i => !own.contains i) then do
    let (out, ε2) ← lcL ws ε1 bind tests elt own ds 0 (wipeC ε1 own)
    some (.ls out, restC ε2 ε1 own)
  else none
def mYes : TM := fun ε => some (true, ε)
section
variable {K : Ek} {F R H H' : Hp} {σ : St} {ε : Cs} {T : Tms} {v : V} {c : C} {a : Addr}
theorem rpcs_sh : ∀ {ds : List D} {vs : List V}, Reps K.1 F vs ds → RpCs K F H (vs.map some) (ds.map .sh) (List.replicate ds.length [])
  | [], vs, h => by cases (show vs = [] from h); exact ⟨rfl, rfl⟩
  | d :: ds, vs, ⟨v, r, h1, h2, h3⟩ => by
    subst h1
    exact ⟨some v, r.map some, [], _, rfl, rfl, ⟨rfl, v, rfl, h2⟩, rpcs_sh h3⟩
theorem flat_rep (n : Nat) : (List.replicate n ([] : List Addr)).flatten = [] := by
  induction n with
  | zero => rfl
  | succ n ih => rw [List.replicate_succ, List.flatten_cons, ih]; rfl
theorem rpcs_sh' : ∀ {ds : List D} {vs : List V} {fs : List (List Addr)}, RpCs K F H (vs.map some) (ds.map .sh) fs → Reps K.1 F vs ds ∧ fs.flatten = []
  | [], vs, fs, ⟨h1, h2⟩ => by
    rw [h2]
    exact ⟨show vs = [] by simpa using h1, rfl⟩
  | d :: ds, vs, fs, ⟨o, r, f, fr, h1, h2, ⟨h3, w, h4, h5⟩, h6⟩ => by
    cases vs with
    | nil => cases h1
    | cons v vs =>
      obtain ⟨rfl, rfl⟩ := List.cons.inj h1
      cases h4
      obtain ⟨k1, k2⟩ := rpcs_sh' h6
      exact ⟨⟨_, vs, rfl, h5, k1⟩, by rw [h2, List.flatten_cons, h3, k2]; rfl⟩
theorem rpc_toN {ds : List D} {o : Option V} {A : List Addr} (h : RpC K F H o (.ls ds) A) : RpC K F H o (.ob .ls (ds.map .sh)) A := by
  obtain ⟨a, vs, h1, h2, h3, h4⟩ := h
  exact ⟨a, vs, _, h1, by rw [flat_rep]; exact h2, h3, rpcs_sh h4⟩
theorem rpc_ofN {ds : List D} {o : Option V} {A : List Addr} (h : RpC K F H o (.ob .ls (ds.map .sh)) A) : RpC K F H o (.ls ds) A := by
  obtain ⟨a, vs, fs, h1, h2, h3, h4⟩ := h
  obtain ⟨k1, k2⟩ := rpcs_sh' h4
  exact ⟨a, vs, h1, by rw [h2, k2], h3, k1⟩
/-- a temporary's cell told otherwise -/
theorem Sep.recell {c' : C} (s : Sep K F R H σ ε ((v, c) :: T)) (h : ∀ A, RpC K F H (some v) c A → RpC K F H (some v) c' A) : Sep K F R H σ ε ((v, c') :: T) :=
  Sep.change (T1 := [(v, c)]) s fun gs k n _ => by
    obtain ⟨o, r, f, fr, e1, e2, k1, k2, k3⟩ := k
    obtain ⟨rfl, rfl⟩ := List.cons.inj e1
    subst e2 k3
    have e : ([f] : List (List Addr)).flatten = f := by simp
    rw [e] at n ⊢
    exact ⟨f, h f k1, n, fun b hb => .inl hb, fun b u _ e => e⟩
/-- one thing more in a list of own things -/
theorem Sep.appN {acc : List C} (s : Sep K F R H σ ε ((v, c) :: (.ref a, .ob .ls acc) :: T)) : ∃ ws, H a = some (.lst ws) ∧ ws.length = acc.length ∧ Sep K F R (upd H a (.lst (ws ++ [v]))) σ ε ((.ref a, .ob .ls (acc ++ [c])) :: T) := by
  obtain ⟨f0, ⟨a0, ws, fs0, e0, _, h0, r0⟩, _⟩ := s.drop.headT
  cases e0
  have h0 : H a = some (.lst ws) := h0
  refine ⟨ws, h0, by simpa using r0.len.1, ?_⟩
  refine Sep.change (T1 := [(v, c), (.ref a, .ob .ls acc)]) s fun gs k n _ => ?_
  obtain ⟨o, r, f, fr, e1, e2, k1, o', r', f', fr', e1', e2', k2, k3, k4⟩ := k
  obtain ⟨rfl, rfl⟩ := List.cons.inj e1
  obtain ⟨rfl, rfl⟩ := List.cons.inj e1'
  subst e2' e2 k4
  obtain ⟨b, us, fs, g1, g2, g3, g4⟩ := k2
  cases g1
  have g3 : H a = some (.lst us) := g3
  rw [h0] at g3
  cases g3
  have e : ([f, f'] : List (List Addr)).flatten = f ++ a :: fs.flatten := by simp [g2]
  rw [e] at n ⊢
  rw [List.nodup_append] at n
  obtain ⟨n1, n2, n3⟩ := n
  rw [List.nodup_cons] at n2
  have m1 : ∀ b ∈ f, b ≠ a := fun b hb => n3 b hb a List.mem_cons_self
  have m2 : ∀ b ∈ fs.flatten, b ≠ a := fun b hb z => n2.1 (z ▸ hb)
  refine ⟨a :: (fs ++ [f]).flatten, ⟨a, ws ++ [v], fs ++ [f], rfl, rfl, upd_same, ?_⟩, ?_, fun b hb => ?_, fun b u hb e => ?_⟩
  · rw [List.map_append]
    refine RpCs.append (RpCs.frame (Same.refl F) (fun b hb => upd_ne (m2 b hb)) g4) ⟨some v, [], f, [], rfl, rfl, RpC.frame (Same.refl F) (fun b hb => upd_ne (m1 b hb)) k1, rfl, rfl⟩
  · rw [List.flatten_append, List.nodup_cons, List.nodup_append]
    refine ⟨fun z => ?_, n2.2, by simpa using n1, fun x hx y hy z => ?_⟩
    · rcases List.mem_append.mp z with z | z
      · exact n2.1 z
      · exact m1 a (by simpa using z) rfl
    · have hy : y ∈ f := by simpa using hy
      exact n3 y hy x (List.mem_cons_of_mem _ hx) z.symm
  · left
    simp only [List.mem_cons, List.flatten_append, List.mem_append, List.flatten_cons, List.flatten_nil, List.append_nil] at hb ⊢
    rcases hb with hb | hb | hb
    · exact .inr (.inl hb)
    · exact .inr (.inr hb)
    · exact .inl hb
  · rw [upd_ne]
    · exact e
    · rintro rfl
      exact hb (by simp)
end
section
variable {K : Ek} {F R H : Hp} {σ : St} {ε : Cs} {T : Tms}
/-- a slot of which nothing is told may hold anything -/
theorem Sep.free (s : Sep K F R H σ ε T) {i : Nat} (h : ε[i]? = some .no) (o : Option V) : Sep K F R H (σ.set i o) ε T := by
  obtain ⟨a1, a2, a3, ⟨fs, gs, h1, h2, n, m⟩⟩ := s
  obtain ⟨o', f, e1, e2, e3⟩ := h1.get h
  have h1' := RpCs.set (o := o) (c := .no) (f := f) (K := K) (F := F) (H := H) e3 i h1
  rw [set_same h, set_same e2] at h1'
  exact ⟨a1, a2, a3, fs, gs, h1', h2, n, m⟩
theorem Sep.wipe1 (s : Sep K F R H σ ε T) (i : Nat) : Sep K F R H (σ.set i none) (ε.set i .no) T := by
  by_cases hi : i < ε.length
  · exact (s.dropAt i).free (by rw [List.getElem?_set_self hi]) none
  · have l := s.len
    rw [List.set_eq_of_length_le (by omega), List.set_eq_of_length_le (by omega)]
    exact s
theorem Sep.wipe (s : Sep K F R H σ ε T) : ∀ own : List Nat, Sep K F R H (L2.wipe σ own) (wipeC ε own) T
  | [] => s
  | i :: own => by
    unfold L2.wipe wipeC
    exact (Sep.wipe s own).wipe1 i
theorem Sep.hideAt (s : Sep K F R H σ ε []) (i : Nat) : ∃ R1, Sep K F R1 H (σ.set i none) (ε.set i .no) [] ∧ ∀ F' H' ε2 T', ε2.length = ε.length → Same F F' → Sep K F' R1 H' (σ.set i none) ε2 T' → Sep K F' R H' σ (match ε[i]? with | some c => ε2.set i c | none => ε2) T' := by
  have l := s.len
  cases hc : ε[i]? with
  | none =>
    have hi : ε.length ≤ i := List.getElem?_eq_none_iff.mp hc
    refine ⟨R, s.wipe1 i, fun F' H' ε2 T' _ fm s' => ?_⟩
    rw [List.set_eq_of_length_le (by omega)] at s'
    exact s'
  | some c =>
    have hi : i < ε.length := (List.getElem?_eq_some_iff.mp hc).1
    by_cases hn : c = .no
    · subst hn
      refine ⟨R, s.wipe1 i, fun F' H' ε2 T' l2 fm s' => ?_⟩
      have := (s'.dropAt i).free (i := i) (by rw [List.getElem?_set_self (by omega)]) σ[i]
      rw [List.set_set, set_same (List.getElem?_eq_getElem (by omega))] at this
      exact this
    · obtain ⟨v, hv⟩ := s.val hc hn
      obtain ⟨R1, _, s1, back⟩ := (s.take hc hv).hide
      refine ⟨R1, s1.free (by rw [List.getElem?_set_self hi]) none, fun F' H' ε2 T' l2 fm s' => ?_⟩
      have h1 := (s'.dropAt i).free (i := i) (by rw [List.getElem?_set_self (by omega)]) (some v)
      rw [List.set_set, set_same hv] at h1
      have h2 := (back F' H' _ _ _ fm h1).put hv
      rw [List.set_set] at h2
      exact h2
end
theorem wipe_get (σ : St) (i : Nat) : ∀ vs : List Nat, (wipe σ vs)[i]? = if i ∈ vs ∧ i < σ.length then some none else σ[i]?
  | [] => by simp [wipe]
  | v :: vs => by
    unfold wipe
    by_cases e : v = i
    · subst e
      by_cases h : v < σ.length
      · rw [List.getElem?_set_self (by rw [wipe_length]; exact h)]
        simp [h]
      · rw [List.getElem?_eq_none (by rw [List.length_set, wipe_length]; omega), if_neg (by simp [h]), List.getElem?_eq_none (by omega)]
    · rw [List.getElem?_set_ne e, wipe_get σ i vs]
      have : (i ∈ v :: vs) = (i ∈ vs) := by simp [Ne.symm e]
      simp only [this]
theorem wipeC_length (ε : Cs) : ∀ vs : List Nat, (wipeC ε vs).length = ε.length
  | [] => rfl
  | v :: vs => by unfold wipeC; rw [List.length_set, wipeC_length ε vs]
theorem wipeC_get (ε : Cs) (i : Nat) : ∀ vs : List Nat, (wipeC ε vs)[i]? = if i ∈ vs ∧ i < ε.length then some .no else ε[i]?
  | [] => by simp [wipeC]
  | v :: vs => by
    unfold wipeC
    by_cases e : v = i
    · subst e
      by_cases h : v < ε.length
      · rw [List.getElem?_set_self (by rw [wipeC_length]; exact h)]
        simp [h]
      · rw [List.getElem?_eq_none (by rw [List.length_set, wipeC_length]; omega), if_neg (by simp [h]), List.getElem?_eq_none (by omega)]
    · rw [List.getElem?_set_ne e, wipeC_get ε i vs]
      have : (i ∈ v :: vs) = (i ∈ vs) := by simp [Ne.symm e]
      simp only [this]
theorem restC_length (ε ε1 : Cs) : ∀ vs : List Nat, (restC ε ε1 vs).length = ε.length
  | [] => rfl
  | v :: vs => by
    unfold restC
    split
    · rw [List.length_set, restC_length ε ε1 vs]
    · exact restC_length ε ε1 vs
theorem restC_get (ε ε1 : Cs) (hl : ε.length = ε1.length) (i : Nat) : ∀ vs : List Nat, (restC ε ε1 vs)[i]? = if i ∈ vs then ε1[i]? else ε[i]?
  | [] => by simp [restC]
  | v :: vs => by
    unfold restC
    by_cases e : v = i
    · subst e
      split
      · rename_i c hc
        have hv : v < ε1.length := (List.getElem?_eq_some_iff.mp hc).1
        rw [List.getElem?_set_self (by rw [restC_length, hl]; exact hv)]
        simp [hc]
      · rename_i hc
        have hv : ¬ v < ε1.length := fun z => by rw [List.getElem?_eq_getElem z] at hc; cases hc
        rw [List.getElem?_eq_none (by rw [restC_length]; omega)]
        simp [hc]
    · have : (i ∈ v :: vs) = (i ∈ vs) := by simp [Ne.symm e]
      split
      · rw [List.getElem?_set_ne e, restC_get ε ε1 hl i vs]
        simp only [this]
      · rw [restC_get ε ε1 hl i vs]
        simp only [this]
section
variable {K : Ek} {F R H : Hp} {σ σ' : St} {ε ε1 : Cs} {T : Tms} {own : List Nat}
theorem Sep.hideOwn (s : Sep K F R H σ ε1 []) : ∀ own : List Nat, ∃ R1, Sep K F R1 H (L2.wipe σ own) (wipeC ε1 own) [] ∧ ∀ F' H' ε2 T', ε2.length = ε1.length → Same F F' → Sep K F' R1 H' (L2.wipe σ own) ε2 T' → Sep K F' R H' σ (restC ε2 ε1 own) T'
  | [] => ⟨R, s, fun F' H' ε2 T' _ _ s' => s'⟩
  | v :: vs => by
    obtain ⟨R1, s1, b1⟩ := Sep.hideOwn s vs
    obtain ⟨R2, s2, b2⟩ := s1.hideAt v
    refine ⟨R2, s2, fun F' H' ε2 T' l2 fm s' => ?_⟩
    have h1 := b2 F' H' ε2 T' (by rw [wipeC_length]; exact l2) fm s'
    have h2 := b1 F' H' _ T' (by split <;> simp [l2]) fm h1
    have e : restC (match (wipeC ε1 vs)[v]? with | some c => ε2.set v c | none => ε2) ε1 vs = restC ε2 ε1 (v :: vs) := by
      apply List.ext_getElem?
      intro j
      rw [restC_get _ _ (by split <;> simp [l2]), restC_get _ _ l2]
      by_cases hj : j ∈ vs
      · rw [if_pos hj, if_pos (by simp [hj])]
      · rw [if_neg hj]
        by_cases e : j = v
        · subst e
          rw [if_pos List.mem_cons_self, wipeC_get, if_neg fun z => hj z.1]
          cases q : ε1[j]? with
          | none =>
            have : ε1.length ≤ j := List.getElem?_eq_none_iff.mp q
            simp only
            exact List.getElem?_eq_none (by omega)
          | some c =>
            have : j < ε1.length := (List.getElem?_eq_some_iff.mp q).1
            simp only
            rw [List.getElem?_set_self (by omega)]
        · rw [if_neg (by simp [e, hj])]
          split
          · rw [List.getElem?_set_ne (Ne.symm e)]
          · rfl
    rw [e] at h2
    exact h2
theorem wipe_of_bnd {S : Nat → Prop} (hS : ∀ i, S i → i ∈ own) (h : ∀ i : Nat, ¬ S i → σ'[i]? = σ[i]?) (hl : σ'.length = σ.length) : L2.wipe σ' own = L2.wipe σ own := by
  apply List.ext_getElem?
  intro i
  rw [wipe_get, wipe_get, hl]
  by_cases hi : i ∈ own ∧ i < σ.length
  · rw [if_pos hi, if_pos hi]
  · rw [if_neg hi, if_neg hi]
    by_cases hs : S i
    · have := hS i hs
      have hn : ¬ i < σ.length := fun z => hi ⟨this, z⟩
      rw [List.getElem?_eq_none (by omega), List.getElem?_eq_none (by omega)]
    · exact h i hs
theorem wipe_wipe (σ : St) (own : List Nat) : L2.wipe (L2.wipe σ own) own = L2.wipe σ own := by
  apply List.ext_getElem?
  intro i
  rw [wipe_get, wipe_length, wipe_get]
  split <;> rfl
end
open Classical in
/-- .. by what becomes of an element -/
noncomputable def lcG (k : C → Option C) (ws : List Nat) (ε0 : Cs) (bind : BM) (tests : TM) (elt : EM) (own : List Nat) : List D → Nat → Cs → Option (List C × Cs)
  | [], _, ε => if sameC ws ε0 ε then some ([], ε) else none
  | d :: ds, n, ε => if sameC ws ε0 ε then do
      let ε1 ← bind d ε
      let (b, ε2) ← tests ε1
      if b then do
        let (c, ε3) ← elt ε2
        let e ← k c
        if n < sizeLine then do
          let (r, ε4) ← lcG k ws ε0 bind tests elt own ds (n + 1) (wipeC ε3 own)
          some (e :: r, ε4)
        else none
      else lcG k ws ε0 bind tests elt own ds n (wipeC ε2 own)
    else none
def frzC (c : C) : Option C := (cD c).map C.sh
theorem lcL_G {ws : List Nat} {ε0 : Cs} {bind : BM} {tests : TM} {elt : EM} {own : List Nat} : ∀ {ds : List D} {n : Nat} {ε : Cs} {out : List D} {ε' : Cs}, lcL ws ε0 bind tests elt own ds n ε = some (out, ε') → lcG frzC ws ε0 bind tests elt own ds n ε = some (out.map .sh, ε')
  | [], n, ε, out, ε', h => by
    unfold lcL at h
    unfold lcG
    split at h
    · rename_i hs
      cases h
      rw [if_pos hs]
      rfl
    · cases h
  | d :: ds, n, ε, out, ε', h => by
    unfold lcL at h
    unfold lcG
    split at h
    · rename_i hs
      rw [if_pos hs]
      cases e1 : bind d ε with
      | none => simp [e1] at h
      | some ε1 =>
        simp only [e1, Option.bind_eq_bind, Option.bind_some] at h ⊢
        cases e2 : tests ε1 with
        | none => simp [e2] at h
        | some p =>
          obtain ⟨b, ε2⟩ := p
          simp only [e2, Option.bind_some] at h ⊢
          cases b with
          | false =>
            simp only [Bool.false_eq_true, if_false] at h ⊢
            exact lcL_G h
          | true =>
            simp only [if_true] at h ⊢
            cases e3 : elt ε2 with
            | none => simp [e3] at h
            | some p3 =>
              obtain ⟨c, ε3⟩ := p3
              simp only [e3, Option.bind_some] at h ⊢
              cases e4 : cD c with
              | none => simp [e4] at h
              | some e =>
                simp only [e4, Option.bind_some] at h
                simp only [frzC, e4, Option.map_some, Option.bind_some]
                split at h
                · rename_i hn
                  rw [if_pos hn]
                  cases e5 : lcL ws ε0 bind tests elt own ds (n + 1) (wipeC ε3 own) with
                  | none => simp [e5] at h
                  | some p5 =>
                    obtain ⟨r, ε4⟩ := p5
                    simp [e5] at h
                    obtain ⟨rfl, rfl⟩ := h
                    rw [lcL_G e5]
                    rfl
                · cases h
    · cases h
/-- what may become of an element -/
def KpC (K : Ek) (k : C → Option C) : Prop := ∀ F R H σ ε T v c c', Sep K F R H σ ε ((v, c) :: T) → k c = some c' → ∃ F', Same F F' ∧ Sep K F' R H σ ε ((v, c') :: T)
theorem kp_frz {K : Ek} : KpC K frzC := fun F R H σ ε T v c c' s h => by
  unfold frzC at h
  cases e : cD c with
  | none => simp [e] at h
  | some d =>
    simp [e] at h
    subst h
    obtain ⟨F', fm, r, s'⟩ := s.freeze e
    exact ⟨F', fm, s'.addSh r⟩
section
variable {K : Ek}
theorem tE_lcG {k : C → Option C} (hk : KpC K k) {src : SM} {bind : BM} {tests : TM} {elt : EM} {own : List Nat} {g : TG} {S : Nat → Prop} (hg : Gd K g bind S) (hS : ∀ i, S i → i ∈ own) {σ : St} {H : Hp} {Q : VK}
    (h : ∃ F R ε ds ws ε1 out ε2, Sep K F R H σ ε [] ∧ src ε = some ((ds, ws), ε1) ∧ (∀ i ∈ ws, i ∉ own) ∧ lcG k ws ε1 bind tests elt own ds 0 (wipeC ε1 own) = some (out, ε2) ∧ ∀ v F' H', Same F F' → Sep K F' R H' σ (restC ε2 ε1 own) [(v, .ob .ls out)] → Q v H') :
    tLc (tI K src) g (tT K tests) (tE K elt) own σ H Q := by
  obtain ⟨F, R, ε, ds, ws, ε1, out, ε2, o, e1, hws, e2, q⟩ := h
  refine ⟨F, R, ε, ds, ws, ε1, o, e1, fun F1 R1 H1 J fm1 s1 bk sr Da hDa => ?_⟩
  obtain ⟨G, Y, w, hw⟩ := sr
  obtain ⟨R2, s2, bk2⟩ := s1.hideOwn own
  -- the walked thing is looked at from within: all of R1 stands in what R2 holds
  have look : ∀ {F2 H2 ε2' T'}, ε2'.length = ε1.length → Same F1 F2 → Sep K F2 R2 H2 (L2.wipe σ own) ε2' T' → (∀ i ∈ ws, ε2'[i]? = ε1[i]?) → G H2 ∧ ∀ i x H3, i < ds.length → Y i H2 x H3 → ∃ F3 d, ds[i]? = some d ∧ Rep K.1 F3 x d ∧ Grw F2 H2 F3 H3 := by
    intro F2 H2 ε2' T' l2 fm s' hq
    have s3 := (bk2 F2 H2 ε2' T' l2 fm s')
    have s4 : Sep K F2 R1 H2 σ (restC ε2' ε1 own) [] := by
      have := Sep.drops (T := []) T' (by simpa using s3)
      exact this
    refine hw F2 H2 σ _ fm s4 fun i hi => ⟨rfl, ?_⟩
    rw [restC_get _ _ l2, if_neg (hws i hi)]
    exact hq i hi
  refine lc_it w (fun i H2 => ∃ F2 ε2' acc rest, Same F1 F2 ∧ ε2'.length = ε1.length ∧ Sep K F2 R2 H2 (L2.wipe σ own) ε2' [(.ref Da, .ob .ls acc)] ∧ lcG k ws ε1 bind tests elt own (ds.drop i) acc.length ε2' = some (rest, ε2) ∧ acc ++ rest = out) ?_ ?_ ?_ ?_
  · -- the start
    refine ⟨F1, wipeC ε1 own, [], out, Same.refl F1, wipeC_length _ _, ?_, e2, rfl⟩
    exact (s2.newL (vs := []) (ds := []) hDa rfl).recell fun A h => rpc_toN h
  · -- what is walked stands
    rintro i H2 _ ⟨F2, ε2', acc, rest, fm, l2, s3, C1, C2⟩
    have hsame : sameC ws ε1 ε2' := by
      cases hd : ds.drop i with
      | nil =>
        rw [hd] at C1
        unfold lcG at C1
        split at C1
        · assumption
        · cases C1
      | cons d r =>
        rw [hd] at C1
        unfold lcG at C1
        split at C1
        · assumption
        · cases C1
    exact (look l2 fm s3 hsame).1
  · -- one turn
    rintro i x H2 H3 hi ⟨F2, ε2', acc, rest, fm, l2, s3, C1, C2⟩ y
    have hd : ds.drop i = ds[i] :: ds.drop (i + 1) := by rw [List.drop_eq_getElem_cons hi]
    rw [hd] at C1
    unfold lcG at C1
    split at C1
    · rename_i hsame
      obtain ⟨_, hy⟩ := look l2 fm s3 hsame
      obtain ⟨F3, d, hdi, rd, gr⟩ := hy i x H3 hi y
      rw [List.getElem?_eq_getElem hi] at hdi
      cases hdi
      have s4 := s3.grow gr
      obtain ⟨R3, _, s5, b5⟩ := s4.hide
      have fm3 := fm.trans gr.fm
      cases eb : bind ds[i] ε2' with
      | none => simp [eb] at C1
      | some εb =>
        refine hg F3 R3 H3 _ ε2' x _ εb _ s5 rd eb fun H4 σ2 bd => ?_
        have hwp : L2.wipe σ2 own = L2.wipe σ own := by rw [wipe_of_bnd hS bd.st bd.ln, wipe_wipe]
        refine ⟨hwp, ?_⟩
        have lb : εb.length = ε1.length := by rw [← bd.sep.len, bd.ln, s5.len]; exact l2
        cases et : tests εb with
        | none => simp [eb, et] at C1
        | some pt =>
          obtain ⟨b, εt⟩ := pt
          refine ⟨F3, R3, εb, b, εt, bd.sep, et, fun F5 H5 fm5 s6 => ?_⟩
          have lt : εt.length = ε1.length := by rw [← s6.len, bd.sep.len]; exact lb
          simp only [eb, et, Option.bind_eq_bind, Option.bind_some] at C1
          cases b with
          | false =>
            simp only [Bool.false_eq_true, if_false] at C1 ⊢
            have s7 := s6.wipe own
            rw [hwp] at s7
            exact ⟨F5, wipeC εt own, acc, rest, fm3.trans fm5, by rw [wipeC_length]; exact lt, b5 F5 H5 _ _ _ fm5 s7, C1, C2⟩
          | true =>
            simp only [if_true] at C1 ⊢
            cases ee : elt εt with
            | none => simp [ee] at C1
            | some pe =>
              obtain ⟨ce, εe⟩ := pe
              refine ⟨F5, R3, εt, ce, εe, s6, ee, fun v F6 H6 fm6 s7 => ?_⟩
              have le : εe.length = ε1.length := by rw [← s7.len, s6.len]; exact lt
              simp only [ee, Option.bind_some] at C1
              cases ec : k ce with
              | none => simp [ec] at C1
              | some c' =>
                simp only [ec, Option.bind_some] at C1
                split at C1
                · rename_i hsz
                  cases er : lcG k ws ε1 bind tests elt own (ds.drop (i + 1)) (acc.length + 1) (wipeC εe own) with
                  | none => simp [er] at C1
                  | some pr =>
                    obtain ⟨rr, εr⟩ := pr
                    simp [er] at C1
                    obtain ⟨rfl, rfl⟩ := C1
                    obtain ⟨F7, fm7, s8⟩ := hk _ _ _ _ _ _ _ _ _ s7 ec
                    have s9 := s8.wipe own
                    rw [hwp] at s9
                    -- the element waits aside while the list is fetched
                    have s10 : Sep K F7 R2 H6 (L2.wipe σ own) (wipeC εe own) ((v, c') :: (.ref Da, .ob .ls acc) :: []) := by
                      have := b5 F7 H6 _ _ [(v, c')] (fm5.trans (fm6.trans fm7)) s9
                      obtain ⟨a1, a2, a3, ⟨fs, gs, h1, ⟨o1, r1, f1, fr1, e1, e2, k1, ⟨o2, r2, f2, fr2, e3, e4, k2, k3, k4⟩⟩, n, m⟩⟩ := this
                      obtain ⟨rfl, rfl⟩ := List.cons.inj e1
                      obtain ⟨rfl, rfl⟩ := List.cons.inj e3
                      subst e2 e4 k4
                      have ef : ([f1, f2] : List (List Addr)).flatten = f1 ++ f2 := by simp
                      have ef2 : ([f2, f1] : List (List Addr)).flatten = f2 ++ f1 := by simp
                      rw [ef] at n m
                      refine ⟨a1, a2, a3, fs, [f2, f1], h1, ⟨_, _, _, _, rfl, rfl, k2, ⟨_, _, _, _, rfl, rfl, k1, rfl, rfl⟩⟩, ?_, fun b hb => m b ?_⟩
                      · rw [ef2]
                        rw [List.nodup_append, List.nodup_append] at n ⊢
                        refine ⟨n.1, ⟨n.2.1.2.1, n.2.1.1, fun a ha b hb => Ne.symm (n.2.1.2.2 b hb a ha)⟩, fun a ha b hb => n.2.2 a ha b ?_⟩
                        simp only [List.mem_append] at hb ⊢
                        exact hb.symm
                      · rw [ef2] at hb
                        simp only [List.mem_append] at hb ⊢
                        rcases hb with hb | hb | hb
                        · exact .inl hb
                        · exact .inr (.inr hb)
                        · exact .inr (.inl hb)
                    obtain ⟨ws', g1, g2, s11⟩ := s10.appN
                    refine ⟨ws', g1, by omega, F7, wipeC εe own, acc ++ [c'], rr, (fm3.trans fm5).trans (fm6.trans fm7), by rw [wipeC_length]; exact le, s11, by rw [List.length_append]; exact er, by simpa using C2⟩
                · cases C1
    · cases C1
  · -- the end
    rintro H2 ⟨F2, ε2', acc, rest, fm, l2, s3, C1, C2⟩
    rw [List.drop_length] at C1
    unfold lcG at C1
    split at C1
    · cases C1
      rw [List.append_nil] at C2
      subst C2
      exact q _ F2 H2 (fm1.trans fm) (bk F2 H2 σ _ _ fm (bk2 F2 H2 ε2 _ l2 fm s3))
    · cases C1
theorem tE_lc {src : SM} {bind : BM} {tests : TM} {elt : EM} {own : List Nat} {g : TG} {S : Nat → Prop} (hg : Gd K g bind S) (hS : ∀ i, S i → i ∈ own) {σ : St} {H : Hp} {Q : VK} (h : tE K (mLc src bind tests elt own) σ H Q) :
    tLc (tI K src) g (tT K tests) (tE K elt) own σ H Q := by
  obtain ⟨F, R, ε, c, ε', o, e, q⟩ := h
  unfold mLc at e
  cases e1 : src ε with
  | none => simp [e1] at e
  | some p =>
    obtain ⟨⟨ds, ws⟩, ε1⟩ := p
    simp only [e1, Option.bind_eq_bind, Option.bind_some] at e
    split at e
    · rename_i hws
      cases e2 : lcL ws ε1 bind tests elt own ds 0 (wipeC ε1 own) with
      | none => simp [e2] at e
      | some p2 =>
        obtain ⟨out, ε2⟩ := p2
        simp [e2] at e
        obtain ⟨rfl, rfl⟩ := e
        exact tE_lcG kp_frz hg hS ⟨F, R, ε, ds, ws, ε1, _, ε2, o, e1, by simpa using hws, lcL_G e2, fun v F' H' fm s => q v F' H' fm (s.recell fun A h => rpc_ofN h)⟩
    · cases e
end
end L2.M
namespace L2.M
open PySem PySem.Spec PyProof.Rows
abbrev Xw := Value → Option Addr → St → Hp → Prop
inductive Fl where
  | nx | bk | ct | rt (c : C) | xc (x : Xn)
abbrev XM := Cs → Option (Fl × Cs)
/-- the slots in io stay -/
structure StS (io : List Nat) (σ σ' : St) : Prop where
  st : ∀ i ∈ io, σ'[i]? = σ[i]?
  ln : σ'.length = σ.length
theorem StS.refl {io : List Nat} (σ : St) : StS io σ σ := ⟨fun _ _ => rfl, rfl⟩
theorem StS.trans {io : List Nat} {σ σ1 σ2 : St} (a : StS io σ σ1) (b : StS io σ1 σ2) : StS io σ σ2 := ⟨fun i h => (b.st i h).trans (a.st i h), b.ln.trans a.ln⟩
theorem StS.imp {io io' : List Nat} {σ σ1 : St} (a : StS io' σ σ1) (h : ∀ i ∈ io, i ∈ io') : StS io σ σ1 := ⟨fun i hi => a.st i (h i hi), a.ln⟩
theorem StS.set {io : List Nat} {σ : St} {i : Nat} {o : Option V} (h : i ∉ io) : StS io σ (σ.set i o) := ⟨fun j hj => List.getElem?_set_ne (by rintro rfl; exact h hj), by simp⟩
theorem Bnd.sts {K : Ek} {F R H H1 : Hp} {S : Nat → Prop} {σ σ1 : St} {ε ε1 : Cs} {io : List Nat} (b : Bnd K F R H S σ ε H1 σ1 ε1) (h : ∀ i, S i → i ∉ io) : StS io σ σ1 := ⟨fun i hi => b.st i fun z => h i z hi, b.ln⟩
def Fin (K : Ek) (R : Hp) (De : Ends) (W : Xw) (F' H' : Hp) (σ' : St) (ε' : Cs) : Fl → Prop
  | .nx => Sep K F' R H' σ' ε' [] → De.nx σ' H'
  | .bk => Sep K F' R H' σ' ε' [] → De.bk σ' H'
  | .ct => Sep K F' R H' σ' ε' [] → De.ct σ' H'
  | .rt c => ∀ v, Sep K F' R H' σ' ε' [(v, c)] → De.rt v H'
  | .xc x => ∀ cls d, Sep K F' R H' σ' ε' [] → RepX K F' cls d x → W cls d σ' H'
def tS (K : Ek) (W : Xw) (io : List Nat) (m : XM) : TS := fun De σ H => ∃ F R ε f ε', Sep K F R H σ ε [] ∧ m ε = some (f, ε') ∧ ∀ F' H' σ', Same F F' → StS io σ σ' → Fin K R De W F' H' σ' ε' f
theorem Fin.back {K : Ek} {F1 R R1 : Hp} {De : Ends} {W : Xw} {F' H' : Hp} {σ' : St} {ε' : Cs} {f : Fl} (bk : Back K F1 R1 R) (fm : Same F1 F') (h : Fin K R De W F' H' σ' ε' f) : Fin K R1 De W F' H' σ' ε' f := by
  cases f with
  | nx => exact fun s => h (bk F' H' σ' ε' [] fm s)
  | bk => exact fun s => h (bk F' H' σ' ε' [] fm s)
  | ct => exact fun s => h (bk F' H' σ' ε' [] fm s)
  | rt c => exact fun v s => h v (bk F' H' σ' ε' _ fm s)
  | xc x => exact fun cls d s => h cls d (bk F' H' σ' ε' _ fm s)
def mSkip : XM := fun ε => some (.nx, ε)
def mSeq (m n : XM) : XM := fun ε => match m ε with
  | some (.nx, ε1) => n ε1
  | r => r
section
variable {X : Cx} {W : Xw} {io : List Nat} {st : Stmt} {rest : List Stmt} {m n : XM} {e : Expr} {pos : Pos}
theorem ms_nil : PSs X [] (tS X.E W io mSkip) := ⟨fun pins s σ H De I h => by
  obtain ⟨F, R, ε, f, ε', o, e, q⟩ := h
  cases e
  exact pss_nil.run pins s σ H De I (q F H σ (Same.refl F) (StS.refl σ) o)⟩
theorem ms_cons (h1 : PS X st (tS X.E W io m)) (h2 : PSs X rest (tS X.E W io n)) : PSs X (st :: rest) (tS X.E W io (mSeq m n)) := ⟨fun pins s σ H De I h => by
  obtain ⟨F, R, ε, f, ε', o, e, q⟩ := h
  refine (pss_cons h1 h2).run pins s σ H De I ?_
  unfold mSeq at e
  split at e
  · rename_i ε1 e1
    exact ⟨F, R, ε, .nx, ε1, o, e1, fun F1 H1 σ1 fm1 t1 s1 => ⟨F1, R, ε1, f, ε', s1, e, fun F2 H2 σ2 fm2 t2 => q F2 H2 σ2 (fm1.trans fm2) (t1.trans t2)⟩⟩
  · rename_i r hr
    refine ⟨F, R, ε, f, ε', o, e, fun F1 H1 σ1 fm1 t1 => ?_⟩
    have := q F1 H1 σ1 fm1 t1
    cases f with
    | nx => exact (hr ε' e).elim
    | _ => exact this⟩
def mFlow (f : Fl) : XM := fun ε => some (f, ε)
/-- a statement that is not come to -/
def mStuck : XM := fun _ => none
theorem _root_.L2.PS.weak {t t' : TS} (h : PS X st t) (w : ∀ De σ H, t' De σ H → t De σ H) : PS X st t' := ⟨fun pins s σ H De I q => h.run pins s σ H De I (w De σ H q)⟩
def mExpr (m : EM) : XM := fun ε => do
  let (_, ε1) ← m ε
  some (.nx, ε1)
def mRet (m : EM) : XM := fun ε => do
  let (c, ε1) ← m ε
  some (.rt c, ε1)
theorem ms_ret {m : EM} (he : PE X e (tE X.E m)) : PS X (.Return (some e) pos) (tS X.E W io (mRet m)) := (ps_ret he).weak fun De σ H h => by
  obtain ⟨F, R, ε, f, ε', o, e, q⟩ := h
  unfold mRet at e
  cases e1 : m ε with
  | none => simp [e1] at e
  | some p =>
    obtain ⟨c, ε1⟩ := p
    simp [e1] at e
    obtain ⟨rfl, rfl⟩ := e
    exact ⟨F, R, ε, c, ε1, o, e1, fun v F1 H1 fm p => q F1 H1 σ fm (StS.refl σ) v p⟩
def mRetN : XM := fun ε => some (.rt (.sh .none), ε)
/-- return name: an own thing is handed out -/
def mRetV (io : List Nat) (i : Nat) : XM := fun ε => match ε[i]? with
  | some (.sh d) => some (.rt (.sh d), ε)
  | some (.ls ds) => if io.contains i then some (.rt (.sh (.list ds)), ε.set i (.sh (.list ds))) else some (.rt (.ls ds), ε.set i .no)
  | some (.dc k ds) => some (.rt (.dc k ds), ε.set i .no)
  | some (.ob k cs) => some (.rt (.ob k cs), ε.set i .no)
  | _ => none
theorem ms_retV {i : Nat} {x : Str} {p : Pos} (h : PE X (.Name x p) (tVar i)) : PS X (.Return (some (.Name x p)) pos) (tS X.E W io (mRetV io i)) := (ps_ret h).weak fun De σ H h => by
  obtain ⟨F, R, ε, f, ε', o, e, q⟩ := h
  have mv : ∀ {c : C}, ε[i]? = some c → c ≠ .no → f = .rt c → ε' = ε.set i .no → ∃ v, σ[i]? = some (some v) ∧ De.rt v H := fun {c} h1 h2 h3 h4 => by
    obtain ⟨v, hv⟩ := o.val h1 h2
    subst h3 h4
    exact ⟨v, hv, q F H σ (Same.refl F) (StS.refl σ) v (o.take h1 hv)⟩
  unfold mRetV at e
  split at e
  · rename_i d hd
    cases e
    obtain ⟨v, h1, h2⟩ := o.sh hd
    exact ⟨v, h1, q F H σ (Same.refl F) (StS.refl σ) v (o.addSh h2)⟩
  · rename_i ds hd
    split at e
    · cases e
      exact o.frzVal hd rfl fun v F' H' fm s => q F' H' σ fm (StS.refl σ) v s
    · cases e
      exact mv hd (fun z => nomatch z) rfl rfl
  · rename_i hd
    cases e
    exact mv hd (fun z => nomatch z) rfl rfl
  · rename_i hd
    cases e
    exact mv hd (fun z => nomatch z) rfl rfl
  · cases e
def mIf (t : TM) (m n : XM) : XM := fun ε => do
  let (b, ε1) ← t ε
  if b then m ε1 else n ε1
theorem ms_if {c : Expr} {a b : List Stmt} {t : TM} (hc : PT X c (tT X.E t)) (ha : PSs X a (tS X.E W io m)) (hb : PSs X b (tS X.E W io n)) : PS X (.If c a b pos) (tS X.E W io (mIf t m n)) := (ps_if hc ha hb).weak fun De σ H h => by
  obtain ⟨F, R, ε, f, ε', o, e, q⟩ := h
  unfold mIf at e
  cases e1 : t ε with
  | none => simp [e1] at e
  | some p =>
    obtain ⟨k, ε1⟩ := p
    simp [e1] at e
    refine ⟨F, R, ε, k, ε1, o, e1, fun F1 H1 fm1 s1 => ?_⟩
    cases k with
    | true =>
      simp at e
      exact iteT ⟨F1, R, ε1, f, ε', s1, e, fun F2 H2 σ2 fm2 t2 => q F2 H2 σ2 (fm1.trans fm2) t2⟩
    | false =>
      simp at e
      exact iteF ⟨F1, R, ε1, f, ε', s1, e, fun F2 H2 σ2 fm2 t2 => q F2 H2 σ2 (fm1.trans fm2) t2⟩
def mSet (io : List Nat) (i : Nat) (m : EM) : XM := fun ε => do
  let (c, ε1) ← m ε
  if i < ε1.length ∧ i ∉ io then some (.nx, ε1.set i c) else none
theorem tS_set {K : Ek} {i : Nat} {m : EM} {De : Ends} {σ : St} {H : Hp} (h : tS K W io (mSet io i m) De σ H) : tAsg (tE K m) (gName i) De σ H := by
  obtain ⟨F, R, ε, f, ε', o, e, q⟩ := h
  unfold mSet at e
  cases e1 : m ε with
  | none => simp [e1] at e
  | some p =>
    obtain ⟨c, ε1⟩ := p
    simp [e1] at e
    obtain ⟨⟨hi, hio⟩, rfl, rfl⟩ := e
    exact ⟨F, R, ε, c, ε1, o, e1, fun v F1 H1 fm p => q F1 H1 _ fm (StS.set hio) (p.store i)⟩
theorem ms_set {i : Nat} {x : Str} {m : EM} {p : Pos} (hN : X.N.Nodup) (hi : X.N[i]? = some x) (hx : Loc X.env.scope x) (he : PE X e (tE X.E m)) (hs : swapsWith e (some (.Name x p)) pos.line X.env = pure false) (hf : X.fn x = true ∨ X.env.scope.names.lookup x = some .local) :
    PS X (.Assign [.Name x p] e pos) (tS X.E W io (mSet io i m)) := (ps_set hN hi hx he hs hf).weak fun De σ H h => tS_set h
/-- a target of several names: the value is frozen data -/
def mAsg (ts io : List Nat) (b : BM) (m : EM) : XM := fun ε => do
  let (c, ε1) ← m ε
  let d ← (match c with | .sh d => some d | _ => none)
  let ε2 ← b d ε1
  if ts.all (fun i => !io.contains i) then some (.nx, ε2) else none
theorem tS_asg {K : Ek} {ts : List Nat} {b : BM} {g : TG} {m : EM} (hg : Gd K g b (· ∈ ts)) {De : Ends} {σ : St} {H : Hp} (h : tS K W io (mAsg ts io b m) De σ H) : tAsg (tE K m) g De σ H := by
  obtain ⟨F, R, ε, f, ε', o, e, q⟩ := h
  unfold mAsg at e
  cases e1 : m ε with
  | none => simp [e1] at e
  | some p =>
    obtain ⟨c, ε1⟩ := p
    cases c with
    | sh d =>
      cases e2 : b d ε1 with
      | none => simp [e1, e2] at e
      | some ε2 =>
        simp only [e1, e2, Option.bind_eq_bind, Option.bind_some] at e
        split at e
        · rename_i hts
          cases e
          have hts : ∀ i ∈ ts, i ∉ io := by simpa using hts
          refine ⟨F, R, ε, .sh d, ε1, o, e1, fun v F1 H1 fm p => ?_⟩
          refine hg F1 R H1 σ ε1 v d ε' _ p.drop p.repT e2 fun H2 σ2 bd => ?_
          exact q F1 H2 σ2 fm (bd.sts hts) bd.sep
        · cases e
    | no => simp [e1] at e
    | ls ds => simp [e1] at e
    | dc k ds => simp [e1] at e
    | ob k ds => simp [e1] at e
    | px _ _ _ _ => simp [e1] at e
    | fn _ => simp [e1] at e
    | fd _ => simp [e1] at e
    | fk _ => simp [e1] at e
theorem ms_asg {tg : Expr} {ts : List Nat} {b : BM} {g : TG} {m : EM} (hg : Gd X.E g b (· ∈ ts)) (he : PE X e (tE X.E m)) (hp : PG X tg g) (hs : swapsWithSole [tg] e pos.line X.env = pure false) (hw : swappedStores [tg] e X.env = pure none)
    (h1 : (assignEach [tg] X.env).map (·.2) = [assign tg X.env]) : PS X (.Assign [tg] e pos) (tS X.E W io (mAsg ts io b m)) := (ps_asg he hp hs hw h1).weak fun De σ H h => tS_asg hg h
end
section
variable {K : Ek} {F R H : Hp} {σ : St} {ε : Cs} {T : Tms}
/-- an own list in a slot: what stands there, and how it is rewritten -/
theorem Sep.atL {i : Nat} {ds : List D} (s : Sep K F R H σ ε T) (h : ε[i]? = some (.ls ds)) : ∃ a vs, σ[i]? = some (some (.ref a)) ∧ H a = some (.lst vs) ∧ Reps K.1 F vs ds ∧ ∀ ws es, Reps K.1 F ws es → Sep K F R (upd H a (.lst ws)) σ (ε.set i (.ls es)) T := by
  obtain ⟨a, vs, h1, h2, h3⟩ := s.lst h
  refine ⟨a, vs, h1, h2, h3, fun ws es r => ?_⟩
  have := ((s.take h h1).wr r).put h1
  rw [List.set_set] at this
  exact this
end
/-- xs.append(e) -/
def mApp (i : Nat) (m : EM) : XM := fun ε => match ε[i]? with
  | some (.ls _) => do
    let (c, ε1) ← m ε
    let d ← cD c
    match ε1[i]? with
      | some (.ls xs) => if xs.length < sizeLine then some (.nx, ε1.set i (.ls (xs ++ [d]))) else none
      | _ => none
  | _ => none
/-- .. to a list of own things -/
def mAppN (i : Nat) (m : EM) : XM := fun ε => match ε[i]? with
  | some (.ob .ls _) => do
    let (c, ε1) ← m ε
    match ε1[i]? with
      | some (.ob .ls cs) => if cs.length < sizeLine then some (.nx, ε1.set i (.ob .ls (cs ++ [c]))) else none
      | _ => none
  | _ => none
section
variable {X : Cx} {W : Xw} {io : List Nat} {pos : Pos}
theorem ms_app {i : Nat} {m : EM} {e : Expr} {x : Str} {p p2 p3 : Pos} (hv : PE X (.Name x p) (tVar i)) (he : PE X e (tE X.E m))
    (hbm : ∀ {to : TE} {t : TA}, PE X (.Name x p) to → PA X [e] t → PE X (.Call (.Attribute (.Name x p) "append" p2) [e] [] p3) (tBM X.K "list" rAppend to t)) (hst : starEach [e] X.env = [(false, eval e X.env)])
    (hs : swapsWith (.Call (.Attribute (.Name x p) "append" p2) [e] [] p3) none pos.line X.env = pure false) : PS X (.Expr (.Call (.Attribute (.Name x p) "append" p2) [e] [] p3) pos) (tS X.E W io (mApp i m)) :=
  (ps_expr (hbm hv (pa_cons he pa_nil hst)) hs).weak fun De σ H h => by
    obtain ⟨F, R, ε, f, ε', o, e, q⟩ := h
    unfold mApp at e
    split at e
    · rename_i xs0 hx0
      cases e1 : m ε with
      | none => simp [e1] at e
      | some p =>
        obtain ⟨c, ε1⟩ := p
        cases ec : cD c with
        | none => simp [e1, ec] at e
        | some d =>
          simp only [e1, ec, Option.bind_eq_bind, Option.bind_some] at e
          split at e
          · rename_i xs hx
            split at e
            · rename_i hl
              cases e
              obtain ⟨a, vs, h1, h2, h3⟩ := o.lst hx0
              refine ⟨_, h1, .inl ⟨rfl, vs, .inl (.inl h2)⟩, F, R, ε, c, ε1, o, e1, fun v F1 H1 fm p => ?_⟩
              obtain ⟨F2, fm2, r2, s2⟩ := p.freeze ec
              obtain ⟨a', vs', g1, g2, g4, wr⟩ := s2.atL hx
              rw [h1] at g1
              cases g1
              refine ⟨a, vs', v, rfl, rfl, g2, by rw [g4.length]; exact hl, ?_⟩
              exact q F2 _ σ (fm.trans fm2) (StS.refl σ) (wr _ _ (g4.append (Reps.one r2)))
            · cases e
          · cases e
    · cases e
/-- xs[k] = e -/
def mSetIx (i : Nat) (m : EM) (ix : OM) : XM := fun ε => do
  let (c, ε1) ← m ε
  let d ← cD c
  match ε1[i]? with
  | some (.ls _) => do
    let (p, ε2) ← ix ε1
    let k ← bor ε2 p
    match k, ε2[i]? with
      | .int k, some (.ls xs) => do
        let j ← ixN xs.length k
        some (.nx, ε2.set i (.ls (xs.set j d)))
      | _, _ => none
  | _ => none
theorem ms_setIx {i : Nat} {m : EM} {ix : OM} {e k : Expr} {x : Str} {p p2 : Pos} (hv : PE X (.Name x p) (tVar i)) (he : PE X e (tE X.E m)) (hk : PE X k (tO X.E ix))
    (ha : ∀ v, assign (.Subscript (.Name x p) k p2) X.env v = (do
      let ov ← holding [v] (eval (.Name x p) X.env)
      let iv ← holding [v, ov] (eval k X.env)
      standAt p2
      holding [v, ov, iv] (setItem ov iv v)
      release [v, ov, iv] []))
    (hs : swapsWithSole [.Subscript (.Name x p) k p2] e pos.line X.env = pure false) (hw : swappedStores [.Subscript (.Name x p) k p2] e X.env = pure none)
    (h1 : (assignEach [.Subscript (.Name x p) k p2] X.env).map (·.2) = [assign (.Subscript (.Name x p) k p2) X.env]) : PS X (.Assign [.Subscript (.Name x p) k p2] e pos) (tS X.E W io (mSetIx i m ix)) :=
  (ps_asg he (pg_sub hv hk set_list ha) hs hw h1).weak fun De σ H h => by
    obtain ⟨F, R, ε, f, ε', o, e, q⟩ := h
    unfold mSetIx at e
    cases e1 : m ε with
    | none => simp [e1] at e
    | some p =>
      obtain ⟨c, ε1⟩ := p
      cases ec : cD c with
      | none => simp [e1, ec] at e
      | some d =>
        simp only [e1, ec, Option.bind_eq_bind, Option.bind_some] at e
        split at e
        · rename_i xs0 hx0
          cases e2 : ix ε1 with
          | none => simp [e2] at e
          | some p2 =>
            obtain ⟨p, ε2⟩ := p2
            cases e3 : bor ε2 p with
            | none => simp [e2, e3] at e
            | some kd =>
              simp only [e2, e3, Option.bind_some] at e
              split at e
              · rename_i k xs hx
                cases e4 : ixN xs.length k with
                | none => simp [e4] at e
                | some j =>
                  simp [e4] at e
                  obtain ⟨rfl, rfl⟩ := e
                  refine ⟨F, R, ε, c, ε1, o, e1, fun v F1 H1 fm1 p1 => ?_⟩
                  obtain ⟨F2, fm2, r2, s2⟩ := p1.freeze ec
                  obtain ⟨w, hw⟩ := s2.val hx0 fun z => nomatch z
                  refine ⟨w, hw, F2, R, ε1, p, ε2, s2, e2, fun kv F3 H3 fm3 v3 s3 => ?_⟩
                  rw [← List.append_nil (tmO [p] [kv])] at s3
                  have rb := bors_ok (ds := [.int k]) s3 v3 (by simp [bors, e3])
                  obtain ⟨x', ex, hx'⟩ := rb.one
                  cases ex
                  rw [rb_int hx']
                  obtain ⟨a, vs, g1, g2, g4, wr⟩ := (s3.drops _).atL hx
                  rw [hw] at g1
                  cases g1
                  refine ⟨a, vs, k, j, rfl, rfl, g2, by rw [g4.length]; exact e4, ?_⟩
                  exact q F3 _ σ ((fm1.trans fm2).trans fm3) (StS.refl σ) (wr _ _ (Reps.set (Rep.mono fm3 _ _ r2) j g4))
              · cases e
        · cases e
def whileN (t : TM) (b : XM) : Nat → XM
  | 0, _ => none
  | n + 1, ε => do
    let (k, ε1) ← t ε
    if k then do
      let (f, ε2) ← b ε1
      match f with
        | .nx => whileN t b n ε2
        | .ct => whileN t b n ε2
        | .bk => some (.nx, ε2)
        | .rt c => some (.rt c, ε2)
        | .xc x => some (.xc x, ε2)
    else some (.nx, ε1)
theorem whileN_succ {t : TM} {b : XM} : ∀ {n : Nat} {ε : Cs} {r : Fl × Cs}, whileN t b n ε = some r → whileN t b (n + 1) ε = some r
  | 0, ε, r, h => by cases h
  | n + 1, ε, r, h => by
    unfold whileN at h ⊢
    cases e1 : t ε with
    | none => simp [e1] at h
    | some p =>
      obtain ⟨k, ε1⟩ := p
      simp only [e1, Option.bind_eq_bind, Option.bind_some] at h ⊢
      cases k with
      | false => exact h
      | true =>
        simp only [if_true] at h ⊢
        cases e2 : b ε1 with
        | none => simp [e2] at h
        | some p2 =>
          obtain ⟨f, ε2⟩ := p2
          simp only [e2, Option.bind_some] at h ⊢
          cases f with
          | nx => exact whileN_succ h
          | ct => exact whileN_succ h
          | bk => exact h
          | rt c => exact h
          | xc x => exact h
theorem whileN_le {t : TM} {b : XM} {n m : Nat} {ε : Cs} {r : Fl × Cs} (h : whileN t b n ε = some r) (hm : n ≤ m) : whileN t b m ε = some r := by
  induction hm with
  | refl => exact h
  | step _ ih => exact whileN_succ ih
open Classical in
noncomputable def mWhile (t : TM) (b : XM) : XM := fun ε => if h : ∃ n, (whileN t b n ε).isSome then whileN t b h.choose ε else none
theorem mWhile_of {t : TM} {b : XM} {n : Nat} {ε : Cs} {r : Fl × Cs} (h : whileN t b n ε = some r) : mWhile t b ε = some r := by
  have hx : ∃ n, (whileN t b n ε).isSome := ⟨n, by rw [h]; rfl⟩
  unfold mWhile
  rw [dif_pos hx]
  obtain ⟨r', hr⟩ := Option.isSome_iff_exists.mp hx.choose_spec
  have h1 := whileN_le h (Nat.le_max_left n hx.choose)
  have h2 := whileN_le hr (Nat.le_max_right n hx.choose)
  rw [hr, ← h1, h2]
theorem mWhile_to {t : TM} {b : XM} {ε : Cs} {r : Fl × Cs} (h : mWhile t b ε = some r) : ∃ n, whileN t b n ε = some r := by
  unfold mWhile at h
  split at h
  · exact ⟨_, h⟩
  · cases h
theorem ms_while {c : Expr} {body : List Stmt} {t : TM} {b : XM} (hp : PassesOwn (model X.prog X.w) X.A X.env X.xe) (hc : PT X c (tT X.E t)) (hb : PSs X body (tS X.E W io b)) : PS X (.While c body [] pos) (tS X.E W io (mWhile t b)) :=
  (ps_while hp hc hb).weak fun De σ H h => by
    obtain ⟨F, R, ε, f, ε', o, e, q⟩ := h
    obtain ⟨n, e⟩ := mWhile_to e
    refine ⟨fun n σ2 H2 => ∃ F2 ε2, Same F F2 ∧ StS io σ σ2 ∧ Sep X.E F2 R H2 σ2 ε2 [] ∧ whileN t b n ε2 = some (f, ε'), ⟨n, F, ε, Same.refl F, StS.refl σ, o, e⟩, ?_⟩
    rintro n σ2 H2 ⟨F2, ε2, fm2, t2, s2, e2⟩
    cases n with
    | zero => cases e2
    | succ n =>
      unfold whileN at e2
      cases e3 : t ε2 with
      | none => simp [e3] at e2
      | some p =>
        obtain ⟨k, ε3⟩ := p
        simp only [e3, Option.bind_eq_bind, Option.bind_some] at e2
        refine ⟨F2, R, ε2, k, ε3, s2, e3, fun F3 H3 fm3 s3 => ?_⟩
        cases k with
        | false =>
          simp only [Bool.false_eq_true, if_false] at e2
          cases e2
          exact iteF (q F3 H3 σ2 (fm2.trans fm3) t2 s3)
        | true =>
          simp only [if_true] at e2
          refine iteT ⟨fun σ' H' => ∃ F4 ε4, Same F F4 ∧ StS io σ σ' ∧ Sep X.E F4 R H' σ' ε4 [] ∧ whileN t b n ε4 = some (f, ε'), fun σ' H' hN => ⟨n, Nat.lt_succ_self n, hN⟩, ?_⟩
          cases e4 : b ε3 with
          | none => simp [e4] at e2
          | some p4 =>
            obtain ⟨g, ε4⟩ := p4
            simp only [e4, Option.bind_some] at e2
            refine ⟨F3, R, ε3, g, ε4, s3, e4, fun F4 H4 σ4 fm4 t4 => ?_⟩
            have fm := (fm2.trans fm3).trans fm4
            have tt := t2.trans t4
            cases g with
            | nx => exact fun s4 => ⟨F4, ε4, fm, tt, s4, e2⟩
            | ct => exact fun s4 => ⟨F4, ε4, fm, tt, s4, e2⟩
            | bk => cases e2; exact fun s4 => q F4 H4 σ4 fm tt s4
            | rt c => cases e2; exact q F4 H4 σ4 fm tt
            | xc x => cases e2; exact q F4 H4 σ4 fm tt
open Classical in
noncomputable def forL (ws : List Nat) (ε0 : Cs) (bind : BM) (body : XM) : List M.D → XM
  | [], ε => if sameC ws ε0 ε then some (.nx, ε) else none
  | d :: ds, ε => if sameC ws ε0 ε then do
      let ε1 ← bind d ε
      let (f, ε2) ← body ε1
      match f with
        | .nx => forL ws ε0 bind body ds ε2
        | .ct => forL ws ε0 bind body ds ε2
        | .bk => some (.nx, ε2)
        | .rt c => some (.rt c, ε2)
        | .xc x => some (.xc x, ε2)
    else none
noncomputable def mFor (io' : List Nat) (src : SM) (bind : BM) (body : XM) : XM := fun ε => do
  let ((ds, ws), ε1) ← src ε
  if ws.all (fun i => io'.contains i) then forL ws ε1 bind body ds ε1 else none
theorem ms_for {iter tg : Expr} {body : List Stmt} {io' ts : List Nat} {src : SM} {g : TG} {bind : BM} {b : XM} (hp : PassesOwn (model X.prog X.w) X.A X.env X.xe) (hc : X.calm = true) (hi : PI X tg iter (tI X.E src)) (hg : PG X tg g) (hgd : Gd X.E g bind (· ∈ ts))
    (hb : PSs X body (tS X.E W io' b)) (hio : ∀ i ∈ io, i ∈ io') (hts : ∀ i ∈ ts, i ∉ io') (hs : ∀ x, foldedSetIterable iter X.env x = pure x) : PS X (.For tg iter body [] pos) (tS X.E W io (mFor io' src bind b)) :=
  (ps_for hp hc hi hg hb hs).weak fun De σ H h => by
    obtain ⟨F, R, ε, f, ε', o, e, q⟩ := h
    unfold mFor at e
    cases e1 : src ε with
    | none => simp [e1] at e
    | some p =>
      obtain ⟨⟨ds, ws⟩, ε1⟩ := p
      simp only [e1, Option.bind_eq_bind, Option.bind_some] at e
      split at e
      · rename_i hws
        have hws : ∀ i ∈ ws, i ∈ io' := by simpa using hws
        refine ⟨F, R, ε, ds, ws, ε1, o, e1, fun F1 R1 H1 J fm1 s1 bk sr => ?_⟩
        obtain ⟨G, Y, w, hw⟩ := sr
        have same : ∀ {l : List M.D} {ε2 : Cs} {r : Fl × Cs}, forL ws ε1 bind b l ε2 = some r → sameC ws ε1 ε2 := fun {l ε2 r} h => by
          cases l with
          | nil =>
            unfold forL at h
            split at h
            · assumption
            · cases h
          | cons d l =>
            unfold forL at h
            split at h
            · assumption
            · cases h
        have q1 : ∀ F' H' σ', Same F1 F' → StS io' σ σ' → Fin X.E R1 De W F' H' σ' ε' f := fun F' H' σ' fm t => (q F' H' σ' (fm1.trans fm) (t.imp hio)).back bk fm
        refine for_it w (fun i σ2 H2 => ∃ F2 ε2, Same F1 F2 ∧ StS io' σ σ2 ∧ Sep X.E F2 R1 H2 σ2 ε2 [] ∧ forL ws ε1 bind b (ds.drop i) ε2 = some (f, ε')) ⟨F1, ε1, Same.refl F1, StS.refl σ, s1, e⟩ ?_ ?_ ?_
        · rintro i σ2 H2 _ ⟨F2, ε2, fm2, t2, s2, C1⟩
          exact (hw F2 H2 σ2 ε2 fm2 s2 fun j hj => ⟨t2.st j (hws j hj), same C1 j hj⟩).1
        · rintro i x σ2 H2 H3 hi ⟨F2, ε2, fm2, t2, s2, C1⟩ y
          obtain ⟨_, hy⟩ := hw F2 H2 σ2 ε2 fm2 s2 fun j hj => ⟨t2.st j (hws j hj), same C1 j hj⟩
          obtain ⟨F3, d, hdi, rd, gr⟩ := hy i x H3 hi y
          rw [List.getElem?_eq_getElem hi] at hdi
          cases hdi
          have s3 := s2.grow gr
          have hd : ds.drop i = ds[i] :: ds.drop (i + 1) := by rw [List.drop_eq_getElem_cons hi]
          rw [hd] at C1
          unfold forL at C1
          split at C1
          · cases eb : bind ds[i] ε2 with
            | none => simp [eb] at C1
            | some εb =>
              refine hgd F3 R1 H3 σ2 ε2 x _ εb _ s3 rd eb fun H4 σ4 bd => ?_
              have t4 := t2.trans (bd.sts (io := io') fun j hj => hts j hj)
              simp only [eb, Option.bind_eq_bind, Option.bind_some] at C1
              cases e5 : b εb with
              | none => simp [e5] at C1
              | some p5 =>
                obtain ⟨g, ε5⟩ := p5
                simp only [e5, Option.bind_some] at C1
                refine ⟨F3, R1, εb, g, ε5, bd.sep, e5, fun F5 H5 σ5 fm5 t5 => ?_⟩
                have fm := (fm2.trans gr.fm).trans fm5
                have tt := t4.trans t5
                cases g with
                | nx => exact fun s5 => ⟨F5, ε5, fm, tt, s5, C1⟩
                | ct => exact fun s5 => ⟨F5, ε5, fm, tt, s5, C1⟩
                | bk => cases C1; exact fun s5 => q1 F5 H5 σ5 fm tt s5
                | rt c => cases C1; exact q1 F5 H5 σ5 fm tt
                | xc x => cases C1; exact q1 F5 H5 σ5 fm tt
          · cases C1
        · rintro σ2 H2 ⟨F2, ε2, fm2, t2, s2, C1⟩
          rw [List.drop_length] at C1
          unfold forL at C1
          split at C1
          · cases C1
            exact q1 F2 H2 σ2 fm2 t2 s2
          · cases C1
      · cases e
end
end L2.M
namespace L2.M
open PySem PySem.Spec PyProof.Rows
def chnL : Opd → List ((D → D → Option C) × OM) → EM
  | _, [], _ => none
  | o, [(f, m)], ε => do
    let (p, ε1) ← m ε
    let d ← bor ε1 o
    let e ← bor ε1 p
    let c ← f d e
    some (c, ε1)
  | o, (f, m) :: x :: l, ε => do
    let (p, ε1) ← m ε
    let d ← bor ε1 o
    let e ← bor ε1 p
    match f d e with
      | some (.sh (.bool true)) => chnL p (x :: l) ε1
      | some (.sh (.bool false)) => some (.sh (.bool false), ε1)
      | _ => none
def mChn (m : OM) (l : List ((D → D → Option C) × OM)) : EM := fun ε => do
  let (o, ε1) ← m ε
  chnL o l ε1
section
variable {X : Cx}
/-- two operands, the first one waiting while the second is reckoned -/
structure Two (X : Cx) (F R H : Hp) (σ : St) (ε : Cs) (x : V) (o : Opd) : Prop where
  ov : OpV σ [x] [o]
  sep : Sep X.E F R H σ ε (tmO [o] [x])
/-- behind the second operand -/
theorem Two.next {F R H : Hp} {σ : St} {ε ε1 : Cs} {x : V} {o p : Opd} {m : OM} (t : Two X F R H σ ε x o) (em : m ε = some (p, ε1)) {Q : VK}
    (k : ∀ y F1 H1, Same F F1 → Two X F1 R H1 σ ε1 x o → (∀ F2 H2, Same F1 F2 → Sep X.E F2 R H2 σ ε1 (tmO [o] [x] ++ tmO [p] [y]) → Two X F2 R H2 σ ε1 y p) → OpV σ [y] [p] → Sep X.E F1 R H1 σ ε1 (tmO [o] [x] ++ tmO [p] [y]) → Q y H1) : tO X.E m σ H Q := by
  obtain ⟨R1, s1, bk⟩ := t.sep.hides
  refine ⟨F, R1, ε, p, ε1, s1, em, fun y F1 H1 fm vy sy => ?_⟩
  have s2 := bk F1 H1 σ ε1 _ fm sy
  refine k y F1 H1 fm ⟨t.ov, ?_⟩ (fun F2 H2 fm2 s3 => ⟨vy, s3.drops _⟩) vy s2
  have s3 := s1.grow (Grw.refl s1.sub)
  -- the first one alone
  have ov := t.ov
  cases o with
  | pl i => exact Sep.drops (T := []) (tmO [p] [y]) (by simpa [tmO] using s2)
  | tm c =>
    obtain ⟨R2, _, s4, bk2⟩ := Sep.hide (T := tmO [p] [y]) s2
    exact bk2 F1 H1 σ ε1 [] (Same.refl F1) (Sep.drops (T := []) (tmO [p] [y]) (by simpa using s4))
variable {a e1 e2 : Expr} {es : List Expr} {op1 op2 : CmpOp} {ops : List CmpOp} {m : OM} {l : List ((D → D → Option C) × OM)} {pos : Pos}
end
def tyS : D → String
  | .none => "NoneType"
  | .bool _ => "bool"
  | .int _ => "int"
  | .str _ => "str"
  | .list _ => "list"
  | .tuple _ => "tuple"
  | .dict _ => "dict"
inductive Ty where
  | int | bool | str | list | tuple | dict
def Ty.nm : Ty → String
  | .int => "int"
  | .bool => "bool"
  | .str => "str"
  | .list => "list"
  | .tuple => "tuple"
  | .dict => "dict"
def isiD : Ty → D → Bool
  | .int, .int _ => true
  | .int, .bool _ => true
  | .bool, .bool _ => true
  | .str, .str _ => true
  | .list, .list _ => true
  | .tuple, .tuple _ => true
  | .dict, .dict _ => true
  | _, _ => false
theorem isi_kit : ∀ (T : Ty) (d : D), kitB (tyS d) T.nm = some (isiD T d) := by
  intro T d
  cases T <;> cases d <;> (simp only [tyS, Ty.nm, isiD]; decide +kernel)
theorem rb_ty {K : PySem.W.Frag} {F H : Hp} {x : V} {d : D} (s : Same F H) (h : RepB K F H x d) : TyX K H x (.type (tyS d)) := by
  cases d with
  | none => rw [rb_non h]; exact .base .non
  | bool b => rw [rb_bool h]; exact .base (.bl b)
  | int b => rw [rb_int h]; exact .base (.int b)
  | str b => rw [rb_str h]; exact .base (.str b)
  | list b =>
    obtain ⟨a, vs, rfl, g1, _⟩ := rb_lst s h
    rcases g1 with (g1 | ⟨o, g1⟩) | ⟨o, its, n, hk, hc, _⟩
    · exact .base (.lst g1)
    · exact .base (.frz g1)
    · exact .kList hk hc
  | tuple b =>
    obtain ⟨a, vs, rfl, _, g1, _⟩ := rb_tup s h
    rcases g1 with (g1 | ⟨o, g1⟩) | ⟨o, its, n, hk, hc, _⟩
    · exact .base (.tup g1)
    · exact .fTuple g1
    · exact .kTuple hk hc
  | dict b =>
    obtain ⟨a, kvs, rfl, g1, _⟩ := rb_dct s h
    exact .base (.dK g1)
def mIsi (T : Ty) (m : OM) : EM := mU (fun d => some (.sh (.bool (isiD T d)))) m
section
variable {X : Cx} {e : Expr} {m : OM} {x p pos : Pos}
theorem me_isi {T : Ty} {y : Str} (hm : X.mg "isinstance" = none) (hmT : X.mg y = none) (hg : Gl X "isinstance") (hgT : Gl X y) (hv : bootBuiltins y = some (.type T.nm)) (he : PE X e (tO X.E m)) (hn : y ≠ "__name__") (hdb : (y == ("__debug__" : Str)) = false)
    (hs : starEach [e, .Name y p] X.env = (false, eval e X.env) :: starEach [.Name y p] X.env) (hs2 : starEach [.Name y p] X.env = [(false, eval (.Name y p) X.env)]) (hpl : (backTo pos (starEach [.Name y p] X.env)).any (·.1) = false) :
    PE X (.Call (.Name "isinstance" x) [e, .Name y p] [] pos) (tE X.E (mIsi T m)) :=
  (pe_callB call_isi hg hm boot_isinstance (pa_cons he (pa_cons (pe_bltn (v := .ty T.nm) hgT hmT hv rfl hn hdb) pa_nil hs2) hs) (by decide) (by decide) hs hpl).weak fun σ H Q h => by
    have h2 := tE_u (r := fun x H Q => rIsi X.K [x, .ty T.nm] H Q) (fun F H x d c Q s h1 he q => by
      cases he
      exact ⟨x, .ty T.nm, _, _, isiD T d, rfl, .ty _, rb_ty s h1, kit_ty (isi_kit T d), g_bool s q⟩) h
    refine tO_mono h2 fun v H' q => ?_
    exact q
end
end L2.M
namespace L2.M
open PySem PySem.Spec PyProof.Rows
def keepT : List Opd → List Bool
  | [] => []
  | .pl _ :: os => false :: keepT os
  | .tm _ :: os => true :: keepT os
def tmsO : List Opd → Option (List C)
  | [] => some []
  | .tm (.sh d) :: os => (tmsO os).map (C.sh d :: ·)
  | .tm (.ls ds) :: os => (tmsO os).map (C.ls ds :: ·)
  | .tm (.dc k ds) :: os => (tmsO os).map (C.dc k ds :: ·)
  | .tm (.ob k cs) :: os => (tmsO os).map (C.ob k cs :: ·)
  | _ => none
theorem tmsO_zip : ∀ {os : List Opd} {vs : List V} {cs : List C}, os.length = vs.length → tmsO os = some cs → tmO os vs = vs.zip cs ∧ cs.length = os.length
  | [], vs, cs, l, e => by
    cases e
    cases vs with
    | nil => exact ⟨rfl, rfl⟩
    | cons _ _ => cases l
  | o :: os, [], cs, l, e => by cases l
  | .pl i :: os, v :: vs, cs, l, e => by cases e
  | .tm c :: os, v :: vs, cs, l, e => by
    have one : ∀ {c : C}, (tmsO os).map (c :: ·) = some cs → tmO (.tm c :: os) (v :: vs) = (v :: vs).zip cs ∧ cs.length = (Opd.tm c :: os).length := fun {c} e => by
      obtain ⟨cs2, e2, rfl⟩ := Option.map_eq_some_iff.mp e
      obtain ⟨h1, h2⟩ := tmsO_zip (vs := vs) (by simpa using l) e2
      exact ⟨by simp [tmO, h1], by simp [h2]⟩
    cases c with
    | no => cases e
    | sh d => exact one e
    | ls d => exact one e
    | dc k d => exact one e
    | ob k d => exact one e
    | px _ _ _ _ => cases e
    | fn _ => cases e
    | fd _ => cases e
    | fk _ => cases e
def setA : List Nat → List C → Cs → Cs
  | i :: is, c :: cs, ε => setA is cs (ε.set i c)
  | _, _, ε => ε
def setV : List Nat → List V → St → St
  | i :: is, v :: vs, σ => setV is vs (σ.set i (some v))
  | _, _, σ => σ
theorem putAll {K : Ek} {F R H : Hp} {T : Tms} : ∀ {is : List Nat} {vs : List V} {cs : List C} {σ : St} {ε : Cs}, Sep K F R H σ ε (vs.zip cs ++ T) → is.length = vs.length → cs.length = vs.length → Sep K F R H (setV is vs σ) (setA is cs ε) T
  | [], [], [], σ, ε, s, _, _ => s
  | i :: is, v :: vs, c :: cs, σ, ε, s, l1, l2 => putAll (is := is) (Sep.store s i) (by simpa using l1) (by simpa using l2)
  | [], v :: vs, cs, σ, ε, s, l1, l2 => by cases l1
  | i :: is, [], cs, σ, ε, s, l1, l2 => by cases l1
  | [], [], c :: cs, σ, ε, s, l1, l2 => by cases l2
  | i :: is, v :: vs, [], σ, ε, s, l1, l2 => by cases l2
theorem setV_sts {io : List Nat} : ∀ {is : List Nat} {vs : List V} {σ : St}, (∀ i ∈ is, i ∉ io) → StS io σ (setV is vs σ)
  | [], vs, σ, h => StS.refl σ
  | i :: is, [], σ, h => StS.refl σ
  | i :: is, v :: vs, σ, h => (StS.set (h i List.mem_cons_self)).trans (setV_sts fun j hj => h j (List.mem_cons_of_mem _ hj))
/-- a, b, .. = x, y, .. (names that no other def holds on to) -/
def mPar (io is : List Nat) (ma : AM) : XM := fun ε => do
  let (os, ε1) ← ma ε
  let (os2, ε2) ← frz (keepT os) os ε1
  let cs ← tmsO os2
  if cs.length = is.length ∧ cs.length ≤ sizeLine ∧ (∀ i ∈ is, i < ε2.length ∧ i ∉ io) then some (.nx, setA is cs ε2) else none
theorem Grw.junk {F H : Hp} (s : Same F H) {p : Addr} {u : HO} (hp : H p = none) : Grw F H F (upd H p u) :=
  ⟨Same.refl F, fun b x e => by rw [upd_ne (ne_of_none e hp)]; exact e, fun b x e => by rw [upd_ne (ne_of_none (s b x e) hp)]; exact s b x e, fun b h h' => absurd h h'⟩
theorem tS_par {K : Ek} {W : Xw} {io is : List Nat} {ma : AM} {De : Ends} {σ : St} {H : Hp} (h : tS K W io (mPar io is ma) De σ H) :
    tA K ma σ H fun vs H1 => vs.length = is.length ∧ vs.length ≤ sizeLine ∧ De.nx (setV is vs σ) H1 ∧ ∀ p, H1 p = none → De.nx (setV is vs σ) (upd H1 p (.tup vs)) := by
  obtain ⟨F, R, ε, f, ε', o, e, q⟩ := h
  unfold mPar at e
  cases e1 : ma ε with
  | none => simp [e1] at e
  | some p =>
    obtain ⟨os, ε1⟩ := p
    cases e2 : frz (keepT os) os ε1 with
    | none => simp [e1, e2] at e
    | some p2 =>
      obtain ⟨os2, ε2⟩ := p2
      cases e3 : tmsO os2 with
      | none => simp [e1, e2, e3] at e
      | some cs =>
        simp only [e1, e2, e3, Option.bind_eq_bind, Option.bind_some] at e
        split at e
        · rename_i hc
          cases e
          obtain ⟨hc1, hc2, hc3⟩ := hc
          refine ⟨F, R, ε, os, ε1, o, e1, fun vs F1 H1 fm1 v1 s1 => ?_⟩
          rw [← List.append_nil (tmO os vs)] at s1
          obtain ⟨F2, fm2, s2, v2, l2⟩ := frz_ok s1 v1 e2
          have lv := v2.len
          obtain ⟨z1, z2⟩ := tmsO_zip lv.symm e3
          rw [z1] at s2
          have vl : vs.length = is.length := by omega
          have t := setV_sts (vs := vs) (σ := σ) fun i hi => (hc3 i hi).2
          have s3 := putAll (is := is) s2 vl.symm (by omega)
          exact ⟨vl, by omega, q F2 H1 _ (fm1.trans fm2) t s3, fun p hp => q F2 _ _ (fm1.trans fm2) t (s3.grow (Grw.junk s3.sub hp))⟩
        · cases e
section
variable {X : Cx} {W : Xw} {io : List Nat} {ma : AM}
theorem ms_par2 {i j : Nat} {x y : Str} {a b : Expr} {px py pt pos : Pos} {kt k2 pt2} (hc : X.calm = true) (hN : X.N.Nodup) (hi : X.N[i]? = some x) (hj : X.N[j]? = some y) (hij : i ≠ j) (hx : X.env.scope.names.lookup x = some .local) (hy : X.env.scope.names.lookup y = some .local)
    (ha : PA X [a, b] (tA X.E ma)) (hw : swappedStores [.Tuple [.Name x px, .Name y py] kt pt] (.Tuple [a, b] k2 pt2) X.env = pure (some [x, y]))
    (hs : swapsWithSole [.Tuple [.Name x px, .Name y py] kt pt] (.Tuple [a, b] k2 pt2) pos.line X.env = pure false) :
    PS X (.Assign [.Tuple [.Name x px, .Name y py] kt pt] (.Tuple [a, b] k2 pt2) pos) (tS X.E W io (mPar io [i, j] ma)) := (ps_par hc hN hi hj hij hx hy ha hw hs).weak fun De σ H h => by
  refine tA_mono (tS_par h) fun vs H1 q => ?_
  obtain ⟨hl, _, q, _⟩ := q
  match vs, hl, q with
  | [u, v], _, q => exact ⟨u, v, rfl, q⟩
end
def shared : List Bool → List C → Bool
  | [], [] => true
  | true :: bs, c :: cs => shared bs cs
  | false :: bs, .sh _ :: cs => shared bs cs
  | _, _ => false
/-- what the caller's cells are behind the call -/
def after : List Bool → List C → Cs → List C
  | true :: bs, _ :: cs, e :: ε => e :: after bs cs ε
  | false :: bs, c :: cs, _ :: ε => c :: after bs cs ε
  | _, _, _ => []
def iosAt (k : Nat) : List Bool → List Nat
  | [] => []
  | true :: bs => k :: iosAt (k + 1) bs
  | false :: bs => iosAt (k + 1) bs
abbrev ios (bs : List Bool) : List Nat := iosAt 0 bs
def semF (io : List Bool) (ns : Nat) (m : XM) : GM := fun cs =>
  if shared io cs then
    match m (cs ++ List.replicate (ns - cs.length) .no) with
    | some (.rt c, ε') => some (c, after io cs ε')
    | some (.nx, ε') => some (.sh .none, after io cs ε')
    | _ => none
  else none
theorem mem_ios : ∀ {bs : List Bool} {k j : Nat}, j ∈ iosAt k bs ↔ k ≤ j ∧ bs[j - k]? = some true
  | [], k, j => by simp [iosAt]
  | true :: bs, k, j => by
    unfold iosAt
    rw [List.mem_cons, mem_ios]
    constructor
    · rintro (rfl | ⟨h1, h2⟩)
      · simp
      · refine ⟨by omega, ?_⟩
        rw [show j - k = (j - (k + 1)) + 1 by omega, List.getElem?_cons_succ]
        exact h2
    · rintro ⟨h1, h2⟩
      by_cases e : j = k
      · exact .inl e
      · refine .inr ⟨by omega, ?_⟩
        rw [show j - k = (j - (k + 1)) + 1 by omega, List.getElem?_cons_succ] at h2
        exact h2
  | false :: bs, k, j => by
    unfold iosAt
    rw [mem_ios]
    constructor
    · rintro ⟨h1, h2⟩
      refine ⟨by omega, ?_⟩
      rw [show j - k = (j - (k + 1)) + 1 by omega, List.getElem?_cons_succ]
      exact h2
    · rintro ⟨h1, h2⟩
      by_cases e : j = k
      · subst e
        simp at h2
      · refine ⟨by omega, ?_⟩
        rw [show j - k = (j - (k + 1)) + 1 by omega, List.getElem?_cons_succ] at h2
        exact h2
theorem mem_ios0 {bs : List Bool} {j : Nat} : j ∈ ios bs ↔ bs[j]? = some true := by
  unfold ios
  rw [mem_ios]
  simp
theorem leaveA {K : Ek} {F F' H H' : Hp} (fm : Same F F') : ∀ {bs : List Bool} {vs : List V} {cs : List C} {σ : St} {ε : Cs} {f0 fs : List (List Addr)}, RpCs K F H (vs.map some) cs f0 → RpCs K F' H' σ ε fs → shared bs cs = true → (∀ j : Nat, bs[j]? = some true → σ[j]? = (vs.map some)[j]?) → cs.length ≤ ε.length →
    ∃ f2, RpCs K F' H' (vs.map some) (after bs cs ε) f2 ∧ f2.flatten.Sublist fs.flatten
  | [], vs, [], σ, ε, f0, fs, h0, h, hs, hj, hl => ⟨[], by simpa [after] using ⟨h0.1, rfl⟩, by simp⟩
  | [], vs, c :: cs, σ, ε, f0, fs, h0, h, hs, hj, hl => by simp [shared] at hs
  | true :: bs, vs, [], σ, ε, f0, fs, h0, h, hs, hj, hl => by simp [shared] at hs
  | false :: bs, vs, [], σ, ε, f0, fs, h0, h, hs, hj, hl => by simp [shared] at hs
  | b :: bs, vs, c :: cs, σ, [], f0, fs, h0, h, hs, hj, hl => by simp at hl
  | b :: bs, vs, c :: cs, σ, e :: ε, f0, fs, h0, h, hs, hj, hl => by
    obtain ⟨o, r, f, fr, e1, e2, k1, k2⟩ := h0
    obtain ⟨o', r', f', fr', e1', e2', k1', k2'⟩ := h
    cases vs with
    | nil => cases e1
    | cons v vs =>
      obtain ⟨rfl, rfl⟩ := List.cons.inj e1
      subst e1' e2'
      have hs' : shared bs cs = true := by cases b <;> cases c <;> simp_all [shared]
      obtain ⟨f2, g1, g2⟩ := leaveA fm (bs := bs) k2 k2' hs' (fun j h => by simpa using hj (j + 1) (by simpa using h)) (by simpa using hl)
      cases b with
      | true =>
        have ho : o' = some v := by simpa using hj 0 rfl
        subst ho
        exact ⟨f' :: f2, ⟨_, _, _, _, rfl, rfl, k1', g1⟩, by rw [List.flatten_cons, List.flatten_cons]; exact List.Sublist.append (List.Sublist.refl _) g2⟩
      | false =>
        cases c with
        | sh d =>
          obtain ⟨_, w, ew, rw⟩ := k1
          refine ⟨[] :: f2, ⟨_, _, _, _, rfl, rfl, ⟨rfl, w, ew, Rep.mono fm _ _ rw⟩, g1⟩, ?_⟩
          rw [List.flatten_cons, List.flatten_cons, List.nil_append]
          exact g2.trans (List.sublist_append_right _ _)
        | no => simp [shared] at hs
        | ls d => simp [shared] at hs
        | dc k d => simp [shared] at hs
        | ob k d => simp [shared] at hs
        | px _ _ _ _ => simp [shared] at hs
        | fn _ => simp [shared] at hs
        | fd _ => simp [shared] at hs
        | fk _ => simp [shared] at hs
/-- the callee's frame at its begin -/
theorem Sep.ext {K : Ek} {F R H : Hp} {σ : St} {ε : Cs} (s : Sep K F R H σ ε []) (n : Nat) : Sep K F R H (σ ++ List.replicate n none) (ε ++ List.replicate n .no) [] := by
  obtain ⟨a1, a2, a3, ⟨fs, gs, h1, h2, n1, m1⟩⟩ := s
  have e : (fs ++ List.replicate n ([] : List Addr)).flatten = fs.flatten := by rw [List.flatten_append, flat_rep, List.append_nil]
  exact ⟨a1, a2, a3, fs ++ List.replicate n [], gs, h1.append (RpCs.nos n _ (by simp)), h2, by rw [e]; exact n1, by rw [e]; exact m1⟩
/-- .. and at its end -/
theorem Sep.leave {K : Ek} {F R H F' R' H' : Hp} {vs : List V} {cs : List C} {n : Nat} {io : List Bool} {σ' : St} {ε' : Cs} {T : Tms} (s : Sep K F R' H (vs.map some) cs []) (hs : shared io cs = true) (fm : Same F F') (t : StS (ios io) (vs.map some ++ List.replicate n none) σ')
    (s' : Sep K F' R H' σ' ε' T) : Sep K F' R H' (vs.map some) (after io cs ε') T := by
  have l0 := s.len
  have l1 := s'.len
  have l2 := t.ln
  rw [List.length_append, List.length_replicate, List.length_map] at l2
  rw [List.length_map] at l0
  obtain ⟨_, _, _, ⟨f0, _, k0, _⟩⟩ := s
  obtain ⟨a1, a2, a3, ⟨fs, gs, h1, h2, n1, m1⟩⟩ := s'
  have lb : ∀ {bs : List Bool} {cs : List C}, shared bs cs = true → bs.length = cs.length := by
    intro bs
    induction bs with
    | nil => intro cs h; cases cs <;> simp_all [shared]
    | cons b bs ih => intro cs h; cases cs with
      | nil => cases b <;> simp [shared] at h
      | cons c cs =>
        have : shared bs cs = true := by cases b <;> cases c <;> simp_all [shared]
        simp [ih this]
  obtain ⟨f2, g1, g2⟩ := leaveA fm k0 h1 hs (fun j hj => by
    have hlt : j < vs.length := by
      have := (List.getElem?_eq_some_iff.mp hj).1
      have := lb hs
      omega
    rw [t.st j (mem_ios0.mpr hj), List.getElem?_append_left (by simpa using hlt)]) (by omega)
  have sb := List.Sublist.append g2 (List.Sublist.refl gs.flatten)
  exact ⟨a1, a2, a3, f2, gs, g1, h2, sb.nodup n1, fun b hb => m1 b (sb.subset hb)⟩
theorem sem_run {K : Ek} {W : Xw} {np ns : Nat} {io : List Bool} {m : XM} {vs : List V} {H : Hp} {Q : VK} {E : XK} (h : spOf K np (semF io ns m) vs H Q E) :
    tS K W (ios io) m { nx := fun _ H' => Q .non H', rt := Q } (vs.map some ++ List.replicate (ns - vs.length) none) H := by
  obtain ⟨hl, F, R, cs, c, cs', s, e, q⟩ := h
  have lc : cs.length = vs.length := by rw [← s.len, List.length_map]
  unfold semF at e
  split at e
  · rename_i hs
    rw [lc] at e
    generalize hn : ns - vs.length = n at e ⊢
    have s2 := s.ext n
    split at e
    · rename_i c1 ε' hm
      cases e
      exact ⟨F, R, _, _, ε', s2, hm, fun F' H' σ' fm t v s' => q v F' H' fm (s.leave hs fm t s')⟩
    · rename_i ε' hm
      cases e
      exact ⟨F, R, _, _, ε', s2, hm, fun F' H' σ' fm t s' => q .non F' H' fm ((s.leave hs fm t s').addSh (by simp only [Rep]))⟩
    · cases e
  · cases e
end L2.M
namespace L2.M
open PySem PySem.Spec PyProof.Rows
section
variable {X : Cx} {a b c e : Expr} {es rest : List Expr} {ma mb mo : OM} {m n : EM} {mr : AM} {t t1 t2 : TM} {pos p x : Pos} {k : Nat}
theorem ma_cons (h1 : PE X e (tO X.E mo)) (h2 : PA X es (tA X.E mr)) (hs : starEach (e :: es) X.env = (false, eval e X.env) :: starEach es X.env := by rfl) : PA X (e :: es) (tA X.E (mCons mo mr)) :=
  (pa_cons h1 h2 hs).weak fun _ _ _ h => tA_cons h
theorem x_bin {op : Operator} (ha : PE X a (tO X.E ma)) (hb : PE X b (tO X.E mb)) : PE X (.BinOp a op b pos) (tE X.E (mB (binD op) ma mb)) :=
  let ⟨_, h1, h2⟩ := bin_ok op
  me_bin h1 h2 ha hb
theorem x_cmp {op : CmpOp} (hr : Room k X.A) (ha : PE X a (tO X.E ma)) (hb : PE X b (tO X.E mb)) (hm : behindInMarks op b = false := by rfl) : PE X (.Compare a [op] [b] pos) (tE X.E (mB (cmpD op) ma mb)) :=
  let ⟨_, h1, h2⟩ := cmp_ok (by have := hr.un; omega) op
  me_cmp h1 h2 ha hb hm
theorem y_cmp {op : CmpOp} (hr : Room k X.A) (ha : PE X a (tO X.E ma)) (hb : PE X b (tO X.E mb)) (hm : behindInMarks op b = false := by rfl) : PT X (.Compare a [op] [b] pos) (tT X.E (mTst (mB (cmpD op) ma mb))) :=
  let ⟨_, h1, h2⟩ := cmp_ok (by have := hr.un; omega) op
  mt_cmp h1 h2 ha hb hm
theorem x_neg (ha : PE X a (tO X.E ma)) : PE X (.UnaryOp .USub a pos) (tE X.E (mU negD ma)) :=
  let ⟨_, h1, h2⟩ := neg_ok
  me_un h1 h2 ha
theorem x_ix (ha : PE X a (tO X.E ma)) (hb : PE X b (tO X.E mb)) (hs : PlainIx b := by exact fun _ _ => rfl) : PE X (.Subscript a b pos) (tE X.E (mB ixD ma mb)) :=
  let ⟨_, h1, h2⟩ := ix_ok
  me_ix h1 h2 ha hb hs
theorem y_val (h : PE X e (tE X.E m)) (he : ∀ whole, isTrue e X.env whole = (do let v ← whole; standAt e.pos; holding [v] (truthy v)) := by intro _; rfl) : PT X e (tT X.E (mTst m)) := mt_val h he
/-- a built-in function's call -/
inductive Bf where
  | len | int | max | min | abs | tuple | list | repr
def Bf.nm : Bf → Str
  | .len => "len"
  | .int => "int"
  | .max => "max"
  | .min => "min"
  | .abs => "abs"
  | .tuple => "tuple"
  | .list => "list"
  | .repr => "repr"
def Bf.f : Bf → List D → Option C
  | .len => lenD
  | .int => intD
  | .max => maxD
  | .min => minD
  | .abs => absD
  | .tuple => tupD
  | .list => lstD
  | .repr => repD
theorem boot_abs : bootBuiltins "abs" = some (.builtin "abs") := by decide +kernel
theorem x_bf (q : Bf) {y : Str} (hy : y = q.nm) (hm : X.mg q.nm = none) (hc : X.calm = true) (hg : Gl X y) (ha : PA X (e :: es) (tA X.E mr)) (he : starEach (e :: es) X.env = (false, eval e X.env) :: starEach es X.env := by rfl) (hpl : (backTo pos (starEach es X.env)).any (·.1) = false := by rfl) :
    PE X (.Call (.Name y p) (e :: es) [] pos) (tE X.E (mOp q.f mr)) := by
  subst hy
  cases q with
  | len => exact let ⟨_, h1, h2⟩ := len_ok; me_callB h1 h2 hg hm boot_len ha (by decide) (by decide) he hpl
  | int => exact let ⟨_, h1, h2⟩ := int_ok; me_callTy h1 h2 hg hm boot_int ha (by decide) (by decide) he hpl
  | max => exact let ⟨_, h1, h2⟩ := max_ok hc; me_callB h1 h2 hg hm boot_max ha (by decide) (by decide) he hpl
  | min => exact let ⟨_, h1, h2⟩ := min_ok hc; me_callB h1 h2 hg hm boot_min ha (by decide) (by decide) he hpl
  | abs => exact let ⟨_, h1, h2⟩ := abs_ok; me_callB h1 h2 hg hm boot_abs ha (by decide) (by decide) he hpl
  | tuple => exact let ⟨_, h1, h2⟩ := tup_ok; me_callTy h1 h2 hg hm boot_tuple ha (by decide) (by decide) he hpl
  | list => exact let ⟨_, h1, h2⟩ := lst_ok; me_callTy h1 h2 hg hm boot_list ha (by decide) (by decide) he hpl
  | repr => exact let ⟨_, h1, h2⟩ := rep_ok; me_callB h1 h2 hg hm boot_repr ha (by decide) (by decide) he hpl
theorem Ty.boot : ∀ T : Ty, bootBuiltins T.nm = some (.type T.nm) := fun T => by
  cases T with
  | int => exact boot_int
  | bool => exact boot_bool
  | str => exact boot_str
  | list => exact boot_list
  | tuple => exact boot_tuple
  | dict => exact boot_dict
theorem x_isi (T : Ty) {y : Str} (hy : y = T.nm) (hm : X.mg "isinstance" = none) (hmT : X.mg T.nm = none) (hg : Gl X "isinstance") (hgT : Gl X y) (he : PE X e (tO X.E mo)) (hs : starEach [e, .Name y p] X.env = (false, eval e X.env) :: starEach [.Name y p] X.env := by rfl) :
    PE X (.Call (.Name "isinstance" x) [e, .Name y p] [] pos) (tE X.E (mIsi T mo)) := by
  subst hy
  exact me_isi (T := T) hm hmT hg hgT T.boot he (by cases T <;> decide) (by cases T <;> decide) hs rfl rfl
/-- a module's number, text -/
theorem x_gint {y : Str} {i : Int} (hm : ∃ t, X.mg y = some (.int i t)) (hg : Gl X y) (hd : (y == ("__debug__" : Str)) = false := by decide) : PE X (.Name y pos) (tE X.E (mK (.int i))) := by
  obtain ⟨t, hm⟩ := hm
  exact (pe_glob hg hm (show RelV (.int i) (.int i t) from ⟨t, rfl⟩) hd).weak fun _ _ _ => tE_k (d := .int i) (v := .int i) fun _ => by simp [Rep]
/-- {} that is never changed -/
theorem x_dct : PE X (.Dict [] [] pos) (tE X.E (mK (.dict []))) := pe_dnewK.weak fun σ H Q h => by
  obtain ⟨F, R, ε, c, ε', ok, e, q⟩ := h
  cases e
  refine fun q1 hq => ?_
  have g := Grw.laid (u := .dK []) ok.sub hq
  exact q _ _ _ g.fm ((ok.grow g).addSh ⟨q1, [], rfl, upd_same, rfl⟩)
end
section
variable {X : Cx} {W : Xw} {io : List Nat} {pos p p2 p3 : Pos} {e : Expr} {m : EM}
theorem z_set (i : Nat) {y : Str} (hN : X.N.Nodup) (he : PE X e (tE X.E m)) (hi : X.N[i]? = some y := by rfl) (hx : Loc X.env.scope y := by first | exact .inl rfl | exact .inr rfl) (hf : X.fn y = true ∨ X.env.scope.names.lookup y = some .local := by first | exact .inr rfl | exact .inl rfl) (hs : swapsWith e (some (.Name y p)) pos.line X.env = pure false := by rfl) : PS X (.Assign [.Name y p] e pos) (tS X.E W io (mSet io i m)) :=
  ms_set hN hi hx he hs hf
theorem z_asg {tg : Expr} {ts : List Nat} {g : TG} {bd : BM} (hg : Gd X.E g bd (· ∈ ts)) (hp : PG X tg g) (he : PE X e (tE X.E m)) (hs : swapsWithSole [tg] e pos.line X.env = pure false := by rfl) (hw : swappedStores [tg] e X.env = pure none := by rfl)
    (h1 : (assignEach [tg] X.env).map (·.2) = [assign tg X.env] := by rfl) : PS X (.Assign [tg] e pos) (tS X.E W io (mAsg ts io bd m)) := ms_asg hg he hp hs hw h1
theorem Gd.imp {K : Ek} {g : TG} {b : BM} {S S' : Nat → Prop} (h : Gd K g b S) (i : ∀ j, S j → S' j) : Gd K g b S' := fun F R H σ ε x d ε' Q o r e q => h F R H σ ε x d ε' Q o r e fun H' σ' bd => q H' σ' (bd.imp i)
theorem g_nm (i : Nat) {y : Str} (hN : X.N.Nodup) (hi : X.N[i]? = some y := by rfl) (hx : Loc X.env.scope y := by first | exact .inl rfl | exact .inr rfl) (hf : X.fn y = true ∨ X.env.scope.names.lookup y = some .local := by first | exact .inr rfl | exact .inl rfl) : PG X (.Name y p) (gName i) := pg_name hN hi hx hf
theorem z_app (i : Nat) {y : Str} (hv : PE X (.Name y p) (tVar i)) (he : PE X e (tE X.E m)) (hbase : attributeBase (.Name y p) "append" X.env (eval (.Name y p) X.env) = eval (.Name y p) X.env := by rfl)
    (hfew : ((backTo p3 (starEach [e] X.env)).all (fun x => !x.1) && (backToKw p3 (keywordEach [] X.env)).all (fun x => x.1.isSome) && decide ([e].length + ([] : List Keyword).length + (if ([] : List Keyword).isEmpty then 0 else 1) < 30)) = true := by rfl)
    (hline : (p2.endLine == p3.line) = true := by rfl) (hs : starEach [e] X.env = (false, eval e X.env) :: starEach [] X.env := by rfl) (hplain : (backTo p3 (starEach [] X.env)).any (·.1) = false := by rfl) (hst : starEach [e] X.env = [(false, eval e X.env)] := by rfl)
    (hsw : swapsWith (.Call (.Attribute (.Name y p) "append" p2) [e] [] p3) none pos.line X.env = pure false := by rfl) : PS X (.Expr (.Call (.Attribute (.Name y p) "append" p2) [e] [] p3) pos) (tS X.E W io (mApp i m)) :=
  ms_app hv he (fun {to t} h1 h2 => pe_bm PySem.F.plainAttrs_list PySem.F.slot_list_append PySem.F.type_list_append mt_append h1 h2 hbase hfew hline hs hplain) hst hsw
theorem z_ix (i : Nat) {y : Str} {kx : Expr} {ix : OM} (hv : PE X (.Name y p) (tVar i)) (hk : PE X kx (tO X.E ix)) (he : PE X e (tE X.E m))
    (ha : ∀ v, assign (.Subscript (.Name y p) kx p2) X.env v = (do
      let ov ← holding [v] (eval (.Name y p) X.env)
      let iv ← holding [v, ov] (eval kx X.env)
      standAt p2
      holding [v, ov, iv] (setItem ov iv v)
      release [v, ov, iv] []) := by intro _; rfl)
    (hs : swapsWithSole [.Subscript (.Name y p) kx p2] e pos.line X.env = pure false := by rfl) (hw : swappedStores [.Subscript (.Name y p) kx p2] e X.env = pure none := by rfl)
    (h1 : (assignEach [.Subscript (.Name y p) kx p2] X.env).map (·.2) = [assign (.Subscript (.Name y p) kx p2) X.env] := by rfl) : PS X (.Assign [.Subscript (.Name y p) kx p2] e pos) (tS X.E W io (mSetIx i m ix)) := ms_setIx hv he hk ha hs hw h1
theorem z_par2 (i j : Nat) {y z : Str} {a b : Expr} {kt k2 : Nat} {pt pt2 py pz : Pos} {ma : AM} (hc : X.calm = true) (hN : X.N.Nodup) (ha : PA X [a, b] (tA X.E ma)) (hi : X.N[i]? = some y := by rfl) (hj : X.N[j]? = some z := by rfl) (hij : i ≠ j := by decide)
    (hx : X.env.scope.names.lookup y = some .local := by rfl) (hy : X.env.scope.names.lookup z = some .local := by rfl)
    (hw : swappedStores [.Tuple [.Name y py, .Name z pz] kt pt] (.Tuple [a, b] k2 pt2) X.env = pure (some [y, z]) := by rfl)
    (hs : swapsWithSole [.Tuple [.Name y py, .Name z pz] kt pt] (.Tuple [a, b] k2 pt2) pos.line X.env = pure false := by rfl) :
    PS X (.Assign [.Tuple [.Name y py, .Name z pz] kt pt] (.Tuple [a, b] k2 pt2) pos) (tS X.E W io (mPar io [i, j] ma)) := ms_par2 hc hN hi hj hij hx hy ha hw hs
theorem z_for {iter tg : Expr} {body : List Stmt} {io' ts : List Nat} {src : SM} {g : TG} {bind : BM} {b : XM} (hp : PassesOwn (model X.prog X.w) X.A X.env X.xe) (hc : X.calm = true) (hi : PI X tg iter (tI X.E src)) (hgd : Gd X.E g bind (· ∈ ts)) (hg : PG X tg g)
    (hb : PSs X body (tS X.E W io' b)) (hio : ∀ i ∈ io, i ∈ io' := by decide) (hts : ∀ i ∈ ts, i ∉ io' := by decide) (hs : ∀ x, foldedSetIterable iter X.env x = pure x := by intro _; rfl) : PS X (.For tg iter body [] pos) (tS X.E W io (mFor io' src bind b)) := ms_for hp hc hi hg hgd hb hio hts hs
theorem z_rng1 {tg a : Expr} {ma : AM} (hm : X.mg "range" = none) (hg : Gl X "range") (ha : PA X [a] (tA X.E ma)) (hs : starEach [a] X.env = [(false, eval a X.env)] := by rfl) : PI X tg (.Call (.Name "range" p) [a] [] pos) (tI X.E (mSrc rng1D ma)) := mi_range1 hg hm ha hs
end
def Wo (fa : List He.Fa) (fn : List He.DefD) (K : PySem.W.Frag) (mg : Str → Option Value) : Prop := ∃ h : Heap, K.In h ∧ h.Ns mainGlobals mg ∧ He.SaysD fa fn K
section
variable {fa : List He.Fa} {fn : List He.DefD} {K : PySem.W.Frag} {mg : Str → Option Value}
theorem Wo.free (W : Wo fa fn K mg) (i : Nat) {x : Str} (h : fa[i]? = some (.free x) := by rfl) : mg x = none :=
  let ⟨_, X, G, c⟩ := W
  He.free_ok X G (c.fact i h)
theorem Wo.int (W : Wo fa fn K mg) (i : Nat) {x : Str} {n : Int} (h : fa[i]? = some (.int x n) := by rfl) : ∃ t, mg x = some (.int n t) :=
  let ⟨_, X, G, c⟩ := W
  He.int_ok X G (c.fact i h)
theorem Wo.str (W : Wo fa fn K mg) (i : Nat) {x z : Str} (h : fa[i]? = some (.str x z) := by rfl) : ∃ t, mg x = some (.str z t) :=
  let ⟨_, X, G, c⟩ := W
  He.str_ok X G (c.fact i h)
end
def Plain (d : He.DefD) (ps : List Str) : Prop := d.dfl = [] ∧ d.kwd = [] ∧ ∀ (kV doc pm : Value) (an : Option Addr) (cdv ct : Value) (us : List Value), us.length = ps.length → bindArgs (PySem.W.fnOf d.name d.qual d.params d.body d.scope .none kV doc pm an cdv ct) ⟨us, []⟩ = pure (ps.zip us)
abbrev cxN (P : Program) (w : World) (K : PySem.W.Frag) (mg : Str → Option Value) (base : Heap) (N : List Str) (d : He.DefD) (f : Addr) (cdv : Value) (A : Around) (outer : List Env) (s : Shared) (H : Hp) (E : XK) : Cx := (cxOf CX0 P w K mg base N d.qual d.scope f cdv A outer s H E).nox
/-- nothing is raised -/
abbrev W0 : Xw := fun _ _ _ _ => False
/-- a script in the first heap: read as frozen data -/
theorem sp_law {K : Ek} {m : XM} {n : Nat} {H : Hp} {a : Addr} {ns : List Int} (O : Only H) (h : SqL K.1 H a (ns.map V.int)) (hm : ∃ cs', semF [false] n m [.sh (.list (ns.map PyData.int))] = some (.sh (.bool true), cs')) :
    spOf K 1 (semF [false] n m) [.ref a] H (fun v _ => v = .bl true) fun _ _ _ => False := by
  obtain ⟨cs', hm⟩ := hm
  have reps : ∀ ns : List Int, Reps K.1 H (ns.map V.int) (ns.map PyData.int) := fun ns => by
    induction ns with
    | nil => rfl
    | cons x r ih => exact ⟨_, _, rfl, by simp only [Rep], ih⟩
  refine ⟨rfl, H, fun _ => none, [.sh (.list (ns.map PyData.int))], _, _, ⟨Same.refl H, fun b u z => (nomatch z), fun b _ => rfl, [[]], [], ⟨_, _, _, _, rfl, rfl, ⟨rfl, _, rfl, a, _, rfl, h, reps ns⟩, rfl, rfl⟩, ⟨rfl, rfl⟩, by simp, fun b hb => by simp at hb⟩, hm, fun v F' H' fm p => p.boolT⟩
end L2.M
namespace L2.M
open PySem PySem.Spec PyProof.Rows
section
variable {X : Cx} {pos p : Pos}
theorem pts_no : PTs X [] (tT X.E mYes) := ⟨fun pins s σ H Q I q => pts_nil.run pins s σ H Q I (tT_pure q)⟩
theorem pts_it {c : Expr} {t : TM} (h : PT X c (tT X.E t)) : PTs X [c] (tT X.E t) := pts_one h
theorem x_lc {elt tg iter : Expr} {ifs : List Expr} {scope : Scope} {src : SM} {bd : BM} {g : TG} {tt : TM} {m : EM} (own : List (Str × Nat)) (hc : X.calm = true) (hN : X.N.Nodup) (hok : BlkOk X.N X.env.scope scope own) (hsrc : PI X tg iter (tI X.E src)) (hgd : Gd X.E g bd (· ∈ own.map (·.2)))
    (hg : ∀ (s : Shared) (H : Hp) (c0 : Addr) (cl : List (Str × Addr)) (fp : List Addr), PG (X.blk s H scope (compEnvC scope cl c0 X.env) fp) tg g) (ht : ∀ (s : Shared) (H : Hp) (c0 : Addr) (cl : List (Str × Addr)) (fp : List Addr), PTs (X.blk s H scope (compEnvC scope cl c0 X.env) fp) ifs (tT X.E tt))
    (he : ∀ (s : Shared) (H : Hp) (c0 : Addr) (cl : List (Str × Addr)) (fp : List Addr), PE (X.blk s H scope (compEnvC scope cl c0 X.env) fp) elt (tE X.E m)) (hs : ∀ x, foldedSetIterable iter X.env x = pure x := by intro _; rfl) :
    PE X (.ListComp elt [⟨tg, iter, ifs, 0⟩] scope pos) (tE X.E (mLc src bd tt m (own.map (·.2)))) := (pe_lc hc hN hsrc hok hg ht he hs).weak fun _ _ _ h => tE_lc hgd (fun _ h => h) h
theorem z_lc {W : Xw} {io : List Nat} {y : Str} {spos : Pos} {elt tg iter : Expr} {ifs : List Expr} {scope : Scope} {src : SM} {bd : BM} {g : TG} {tt : TM} {m : EM} (i : Nat) (own : List (Str × Nat)) (hc : X.calm = true) (hN : X.N.Nodup) (hok : BlkOk X.N X.env.scope scope own) (hsrc : PI X tg iter (tI X.E src)) (hgd : Gd X.E g bd (· ∈ own.map (·.2)))
    (hg : ∀ (s : Shared) (H : Hp) (c0 : Addr) (cl : List (Str × Addr)) (fp : List Addr), PG (X.blk s H scope (compEnvC scope cl c0 X.env) fp) tg g) (ht : ∀ (s : Shared) (H : Hp) (c0 : Addr) (cl : List (Str × Addr)) (fp : List Addr), PTs (X.blk s H scope (compEnvC scope cl c0 X.env) fp) ifs (tT X.E tt))
    (he : ∀ (s : Shared) (H : Hp) (c0 : Addr) (cl : List (Str × Addr)) (fp : List Addr), PE (X.blk s H scope (compEnvC scope cl c0 X.env) fp) elt (tE X.E m)) (hy : X.N[i]? = some y := by rfl) (hyl : X.env.scope.names.lookup y = some .local := by rfl)
    (hsw : swapsWith (.ListComp elt [⟨tg, iter, ifs, 0⟩] scope pos) (some (.Name y p)) spos.line X.env = pure true := by rfl) (hs : ∀ x, foldedSetIterable iter X.env x = pure x := by intro _; rfl) :
    PS X (.Assign [.Name y p] (.ListComp elt [⟨tg, iter, ifs, 0⟩] scope pos) spos) (tS X.E W io (mSet io i (mLc src bd tt m (own.map (·.2))))) := (ps_setLc hc hN hy hyl hsw hsrc hok hg ht he hs).weak fun De σ H h => by
  exact tE_lc hgd (fun _ h => h) (tS_set h)
def revD : D → Option C
  | .list ds => some (.ls ds.reverse)
  | .tuple ds => some (.sh (.tuple ds.reverse))
  | _ => none
end
section
variable {X : Cx} {e : Expr} {k : Nat} {p1 p2 p3 pos : Pos}
def mRev (m : OM) : EM := mU revD m
end
end L2.M
namespace L2.M
open PySem PySem.Spec PyProof.Rows
def intsOf : List D → Option (List Int)
  | [] => some []
  | .int i :: ds => (intsOf ds).map (i :: ·)
  | _ => none
def boolsOf : List D → Option (List Bool)
  | [] => some []
  | .bool i :: ds => (boolsOf ds).map (i :: ·)
  | _ => none
def anyD : List D → Option C
  | [.list ds] => (boolsOf ds).map fun bs => .sh (.bool (bs.any id))
  | _ => none
def allD : List D → Option C
  | [.list ds] => (boolsOf ds).map fun bs => .sh (.bool (bs.all id))
  | _ => none
def sumD : List D → Option C
  | [.list ds] => (intsOf ds).map fun ns => .sh (.int ns.sum)
  | _ => none
def isort (ns : List Int) : List Int := ns.mergeSort fun a b => decide (a ≤ b)
def sortD : List D → Option C
  | [.list ds] => (intsOf ds).map fun ns => .ls ((isort ns).map PyData.int)
  | _ => none
def strD : List D → Option C
  | [.int i] => if sm i then some (.sh (.str (toString i))) else none
  | _ => none
def gmaxD : List D → Option C
  | [.list ds] => match intsOf ds with
    | some (n :: ns) => some (.sh (.int (ns.foldl max n)))
    | _ => none
  | _ => none
def gminD : List D → Option C
  | [.list ds] => match intsOf ds with
    | some (n :: ns) => some (.sh (.int (ns.foldl min n)))
    | _ => none
  | _ => none
section
variable {X : Cx}
theorem str_ok : ∃ r, CallR X (.type "str") r ∧ FnB X.K strD r := by
  refine ⟨_, call_str_int, fun F H vs ds c Q s hr he q => ?_⟩
  match ds, he, hr with
  | [.int i], he, hr =>
    simp only [strD] at he
    split at he
    · rename_i hz
      cases he
      obtain ⟨x, rfl, h1⟩ := hr.one
      rw [rb_int h1]
      exact ⟨i, rfl, by have := log2_le hz.1 hz.2; omega, g_str s q⟩
    · cases he
end
/-- more built-in functions of one list -/
inductive Bg where
  | any | all | sum | sorted | str | maxl | minl
def Bg.nm : Bg → Str
  | .any => "any"
  | .all => "all"
  | .sum => "sum"
  | .sorted => "sorted"
  | .str => "str"
  | .maxl => "max"
  | .minl => "min"
def Bg.f : Bg → List D → Option C
  | .any => anyD
  | .all => allD
  | .sum => sumD
  | .sorted => sortD
  | .str => strD
  | .maxl => gmaxD
  | .minl => gminD
section
variable {X : Cx} {e : Expr} {es : List Expr} {mr : AM} {p pos : Pos}
def enumFrom (k : Nat) : List D → List D
  | [] => []
  | d :: ds => .tuple [.int (k : Int), d] :: enumFrom (k + 1) ds
theorem enum_get : ∀ (ds : List D) (k i : Nat), (enumFrom k ds)[i]? = ds[i]?.map fun d => .tuple [.int ((k + i : Nat) : Int), d]
  | [], k, i => by simp [enumFrom]
  | d :: ds, k, 0 => by simp [enumFrom]
  | d :: ds, k, i + 1 => by
    simp only [enumFrom, List.getElem?_cons_succ]
    rw [enum_get ds (k + 1) i]
    have : k + 1 + i = k + (i + 1) := by omega
    rw [this]
theorem enum_len : ∀ (ds : List D) (k : Nat), (enumFrom k ds).length = ds.length
  | [], k => rfl
  | d :: ds, k => by simp [enumFrom, enum_len ds (k + 1)]
end
end L2.M
namespace L2.M
open PySem PySem.Spec PyProof.Rows
structure Rm (k : Nat) (A : Around) : Prop extends Room k A where
  gd : A.guards = some []
theorem Rm.mono {j k : Nat} {A : Around} (r : Rm k A) (h : j ≤ k) : Rm j A := ⟨r.toRoom.mono h, r.gd⟩
structure FnG (P : Program) (w : World) (K : PySem.W.Frag) (mg : Str → Option Value) (base : Heap) (CX : CXT) (k : Nat) (f : Addr) (fd : FuncData) (ps : List Str) (sp : Sp) : Prop where
  len : ∀ vs H Q E, sp vs H Q E → vs.length = ps.length
  run : ∀ (A : Around) (outer : List Env) (s : Shared) (H : Hp) (args : Args) (us : List Value) (vs : List V) (Q : VK) (E : XK), Rm k A → Env0 P w K mg base A outer s H → BindsTo s fd args (ps.zip us) → Vals vs us → sp vs H Q E →
    codeAny (model P w) A (.call (.ref f) args) (CR CX outer P w H s Q E) s
section
variable {P : Program} {w : World} {K : PySem.W.Frag} {mg : Str → Option Value} {base : Heap} {CX : CXT}
theorem FnG.mono {j k : Nat} {f : Addr} {fd : FuncData} {ps : List Str} {sp : Sp} (F : FnG P w K mg base CX j f fd ps sp) (h : j ≤ k) : FnG P w K mg base CX k f fd ps sp :=
  ⟨F.len, fun A outer s H args us vs Q E hr => F.run A outer s H args us vs Q E (hr.mono h)⟩
/-- a def's body, run where the guards are known -/
theorem fnG_of {N ps : List Str} {k : Nat} {sp : Sp} {f : Addr} {name qual : Str} {params : Arguments} {body : List Stmt} {scope : Scope} {dV kV doc pm cdv ct oc : Value} {an od : Option Addr} {osl : Array (Option Value)}
    (l0 : K.lookup f = some ⟨oc, od, .func (PySem.W.fnOf name qual params body scope dV kV doc pm an cdv ct), osl⟩) (c0 : PySem.W.codeIn K cdv qual = true) (S : FnScope N ps scope) (len : ∀ vs H Q E, sp vs H Q E → vs.length = ps.length)
    (hb : ∀ (A : Around) (outer : List Env) (s : Shared) (H : Hp) (vs : List V) (Q : VK) (E : XK), Rm k (A.deeper (envOfC qual scope s.heap.objs.size f cdv)) → sp vs H Q E →
      ∃ t, PSs (cxOf CX P w K mg base N qual scope f cdv A outer s H E) body t ∧ t { nx := fun _ H' => Q .non H', rt := Q } (start N vs) H) :
    FnG P w K mg base CX (k + 1) f (PySem.W.fnOf name qual params body scope dV kV doc pm an cdv ct) ps sp := by
  refine ⟨len, fun A outer s H args us vs Q E r0 env0 bd rv h0 => ?_⟩
  have inK : K.In s.heap := env0.mod.kin.keeps fun b o z => (env0.bs b o z).1
  have nl : s.heap.NoLimit := env0.mod.nolimit.keeps fun b o z => (env0.bs b o z).1
  have kinds : ∀ y ∈ ps.zip us, scope.names.lookup y.1 = some .local ∨ (scope.names.lookup y.1 = some .cell ∧ ((cellsFrom (s.heap.objs.size + 1) scope.names []).lookup y.1).isSome = true) := by
    rintro ⟨n, v⟩ hy
    have hn := S.par n (List.of_mem_zip hy).1
    rcases hn with z | z
    · exact .inl z
    · exact .inr ⟨z, PySem.W.cellsFrom_some _ _ _ (.inl z)⟩
  refine codeAny_call_function r0.toRoom.depth (inK _ _ l0) rfl S.co S.gen rfl (PySem.W.codeRec_of inK c0) (bd _ _ _ _ ?_)
  refine wpAny_newFunctionEnv_cells S.kind kinds fun env ee s2 x2 => ?_
  subst ee
  refine ⟨nl.keeps x2.toInCall.keep, codeAny_func ?_⟩
  obtain ⟨t, ht, hq⟩ := hb A outer s H vs Q E ⟨r0.toRoom.deeper _, r0.gd⟩ h0
  have J : Inv (cxOf CX P w K mg base N qual scope f cdv A outer s H E) [] (start N vs) H s2 := inv_start S r0.hd env0 (len _ _ _ _ h0) rv x2
  refine wpAny_mono (ht.run [] s2 (start N vs) H _ J hq) (fun fl s' z => ?_) fun e s' z => z
  cases fl with
  | ret u =>
    obtain ⟨v, σ', H', I, r, q⟩ := z
    exact ⟨v, H', I.os, I.bare, I.base, I.hok, r, q⟩
  | next =>
    obtain ⟨σ', H', I, q⟩ := z
    exact ⟨.non, H', I.os, I.bare, I.base, I.hok, rfl, q⟩
  | brk =>
    obtain ⟨_, _, _, q⟩ := z
    exact q.elim
  | cont =>
    obtain ⟨_, _, _, q⟩ := z
    exact q.elim
end
/-- a def that keeps its promise there, by its name -/
structure KnG (P : Program) (w : World) (K : PySem.W.Frag) (mg : Str → Option Value) (base : Heap) (k : Nat) (x : Str) (ps : List Str) (sp : Sp) : Prop where
  ex : ∃ (f : Addr) (fd : FuncData), mg x = some (.ref f) ∧ PySem.W.keepIn K (.ref f) = true ∧ Binds K fd ps [] ∧ FnG P w K mg base CX0 k f fd ps sp
section
variable {fa : List He.Fa} {fn : List He.DefD} {K : PySem.W.Frag} {mg : Str → Option Value} {P : Program} {w : World} {base : Heap}
theorem defG {N ps : List Str} {d : He.DefD} {k : Nat} {io : List Bool} {m : XM} {f : Addr} {fd : FuncData} {dvs : List V} {kws : List (Str × V)} (F : FunD K d.name d.qual d.params d.body d.scope dvs kws f fd) (S : FnScope N ps d.scope)
    (hb : ∀ (f : Addr) (cdv : Value) (A : Around) (outer : List Env) (s : Shared) (H : Hp) (E : XK), Rm k (cxN P w K mg base N d f cdv A outer s H E).A → PSs (cxN P w K mg base N d f cdv A outer s H E) d.body (tS (K, w) W0 (ios io) m)) :
    FnG P w K mg base CX0 (k + 1) f fd ps (spOf (K, w) ps.length (semF io N.length m)) := by
  obtain ⟨oc, od, dV, kV, doc, pm, an, cdv, ct, osl, rfl, l0, c0, _, _⟩ := F.ex
  exact fnG_of l0 c0 S (fun vs H Q E h => h.1) fun A outer s H vs Q E hr h => ⟨tS (K, w) W0 (ios io) m, PSs.nox (hb f cdv A outer s H E hr), sem_run h⟩
theorem kng_mk (W : Wo fa fn K mg) (i j : Nat) {N ps : List Str} {d : He.DefD} {k : Nat} {io : List Bool} {m : XM} {x : Str} (hd : fn[i]? = some d) (hx : d.at_ = (x, none)) (hf : fa[j]? = some (.glo x)) (pl : Plain d ps) (S : FnScope N ps d.scope)
    (hb : ∀ (f : Addr) (cdv : Value) (A : Around) (outer : List Env) (s : Shared) (H : Hp) (E : XK), Rm k (cxN P w K mg base N d f cdv A outer s H E).A → PSs (cxN P w K mg base N d f cdv A outer s H E) d.body (tS (K, w) W0 (ios io) m)) :
    KnG P w K mg base (k + 1) x ps (spOf (K, w) ps.length (semF io N.length m)) := by
  obtain ⟨h, X, G, c⟩ := W
  obtain ⟨fd, F⟩ := c.def_ i hd
  have g := He.glo_ok X G (c.fact j hf)
  have eD : d.dvs K = [] := by unfold He.DefD.dvs; rw [pl.1]; rfl
  have eA : He.fAd K d.at_ = He.ga K x := by rw [hx]; rfl
  rw [eD, eA] at F
  exact ⟨⟨_, fd, g, F.kp, F.bindsN pl.2.2, defG F S hb⟩⟩
/-- the callee runs, the guards known -/
theorem runG {X : Cx} {pins : List (Addr × Obj)} {σ : St} {H : Hp} {s : Shared} {Q : VK} {us : List Value} {vs : List V} {k : Nat} {f : Addr} {fd : FuncData} {ps : List Str} {sp : Sp} (F : FnG X.prog X.w X.K X.mg X.base CX0 k f fd ps sp) (hr : Rm k X.A) (hb : Binds X.K fd ps []) (I : Inv X pins σ H s) (r : Vals vs us) (h : sp vs H Q E0) :
    wpAny (model X.prog X.w) X.A (call (.ref f) us) (EP X pins σ Q) X.xe s := by
  have hl : us.length = ps.length := by rw [← r.length]; exact F.len _ _ _ _ h
  have bd := hb s us I.kIn (by rw [List.append_nil]; exact hl)
  rw [List.append_nil] at bd
  refine wpAny_call (codeAny_mono (F.run X.A X.stack s H ⟨us, []⟩ us vs Q E0 hr I.env0 bd r h) fun res s' hq => ?_)
  cases res with
  | error e => exact hq.elim
  | ok fl =>
    cases fl with
    | ret u => exact I.after hq
    | next => exact False.elim hq
    | brk => exact False.elim hq
    | cont => exact False.elim hq
theorem g_call {X : Cx} {k k' np : Nat} {x : Str} {ps : List Str} {g : GM} {io : List Bool} {ma : AM} {e : Expr} {es : List Expr} {p pos : Pos} (h : KnG X.prog X.w X.K X.mg X.base k x ps (spOf X.E np g)) (hr : Rm k' X.A) (hk : k ≤ k') (hg : Gl X x) (ha : PA X (e :: es) (tA X.E ma)) (hio : io.length = np := by rfl)
    (hdb : (x == ("__debug__" : Str)) = false := by decide) (he : starEach (e :: es) X.env = (false, eval e X.env) :: starEach es X.env := by rfl) (hpl : (backTo pos (starEach es X.env)).any (·.1) = false := by rfl) : PE X (.Call (.Name x p) (e :: es) [] pos) (tE X.E (mCall io g ma)) := by
  obtain ⟨f, fd, hm, hkp, hbi, F⟩ := h.ex
  refine ⟨fun pins s σ H Q I q => ?_⟩
  have q2 := tE_call hio q
  refine wpAny_Call_Name_kw (ld_glob I hg hm ?_ hdb)
  refine PySem.W.callWith_K (h₀ := X.base) I.ok.mod.kin hkp (thn (ha.run pos pins s σ H _ I q2) fun us s1 ⟨vs, H1, I1, r, q3⟩ => ⟨I1.kIn, ?_⟩) he hpl
  have q3 : spOf X.E np g (vs ++ []) H1 Q E0 := q3
  rw [List.append_nil] at q3
  exact runG (F.mono hk) hr hbi I1 r q3
end
section
variable {P : Program} {w : World} {K : PySem.W.Frag} {mg mb : Str → Option Value} {k : Nat} {fA a : Addr} {fd : FuncData} {x : Str} {sp : Sp} {s : Shared} {vs : List Value} {ns : List Int}
abbrev LawEnd (s : Shared) (r : Result) (s' : Shared) : Prop := r = .ok (.ret (.bool true)) ∧ OldK s.heap s'.heap ∧ s'.os = s.os ∧ AllBare s'.gens
theorem top_core {H : Hp} (inK : K.In s.heap) (n1 : s.heap.Ns mainGlobals mg) (n2 : s.heap.Ns builtinsNs mb) (bb : ∀ y : Str, y ≠ "__name__" → mb y = bootBuiltins y) (nl : s.heap.NoLimit) (g0 : s.gens = #[])
    (ea : s.heap.get? a = some { cls := .type "list", data := .seq vs.toArray }) (hr : Rm k callerA) (F : ∀ base : Heap, K.In base → base.Ns mainGlobals mg → FnG P w K mg base CX0 k fA fd [x] sp) (bd : ∀ (s : Shared) (u : Value), BindsTo s fd ⟨[u], []⟩ [(x, u)])
    (h0 : sp [.ref a] H (fun v _ => v = .bl true) fun _ _ _ => False) (hO : Only H) (hok : HOk P w H s.heap) (hA : ∀ b, H b ≠ none → b = a) (hK : H a ≠ none → K.lookup a = none) : codeAny (model P w) callerA (.call (.ref fA) ⟨[.ref a], []⟩) (LawEnd s) s := by
  have untr : ∀ {b : Addr} {o : Obj}, s.heap.get? b = some o → (b = a → o.data ≠ .seq vs.toArray → False) → (b = a → False) → H b = none := fun {b o} _ _ no => by
    by_cases z : H b = none
    · exact z
    · exact (no (hA b z)).elim
  have dictN : ∀ {b : Addr} {o : Obj} {es : Array DictEntry} {ep : Nat}, s.heap.get? b = some o → o.data = .dict es ep → H b = none := fun {b o es ep} e d => by
    refine untr e (fun _ _ => ?_) fun eb => ?_
    · rename_i eb ne
      subst eb
      rw [ea] at e
      cases e
      exact ne rfl
    · subst eb
      rw [ea] at e
      cases e
      have d2 : Data.seq vs.toArray _ = Data.dict es ep := d
      cases d2
  have ns2 : ∀ {b : Addr} {m : Str → Option Value}, s.heap.Ns b m → (hidT s.heap H).Ns b m := by
    rintro b m ⟨o, es, ep, e, d, r⟩
    exact ⟨o, es, ep, hidT_get e (dictN e d), d, r⟩
  have inB : K.In (hidT s.heap H) := by
    intro b o e
    refine hidT_get (inK b o e) ?_
    by_cases z : H b = none
    · exact z
    · have eb := hA b z
      subst eb
      rw [hK z] at e
      cases e
  obtain ⟨mc, l1, l2⟩ := nl
  have md : Mod K mg (hidT s.heap H) := ⟨inB, ns2 n1, ⟨mb, ns2 n2, bb⟩, ⟨mc, ns2 l1, l2⟩⟩
  have ev : Env0 P w K mg (hidT s.heap H) callerA [] s H := ⟨rfl, md, fun b o z => of_hidT z, Nat.le_of_eq (hidT_size _ _), trivial, fun b z => absurd (show b ∈ ([] : List Addr) from z) (by simp), hok, .of_eq g0⟩
  refine codeAny_mono ((F _ inB (ns2 n1)).run callerA [] s H ⟨[.ref a], []⟩ [.ref a] [.ref a] _ _ hr ev (bd s (.ref a)) (.cons rfl .nil) h0) fun r s' z => ?_
  match r, z with
  | .error e, z => exact z.elim
  | .ok .next, z => exact z.elim
  | .ok .brk, z => exact z.elim
  | .ok .cont, z => exact z.elim
  | .ok (.ret u), ⟨v, H', os, bare, un, hok2, rv, q⟩ =>
    have q : v = .bl true := q
    subst q
    obtain rfl : u = Value.bool true := rv
    refine ⟨rfl, OldK.of_keep fun b o e => ?_, os, bare⟩
    cases z : H b with
    | none => exact un.keep b o e z (fun y => absurd (show b ∈ ([] : List Addr) from y) (by simp)) (by simp)
    | some t =>
      rcases hO b with y | ⟨ob, xs, y⟩
      · rw [z] at y; cases y
      · obtain ⟨e1, _⟩ := hok b _ y
        obtain ⟨e2, _⟩ := hok2 b _ (un.frzs b ob _ y)
        rw [e] at e1
        cases e1
        exact e2
theorem top_call (inK : K.In s.heap) (n1 : s.heap.Ns mainGlobals mg) (n2 : s.heap.Ns builtinsNs mb) (bb : ∀ y : Str, y ≠ "__name__" → mb y = bootBuiltins y) (nl : s.heap.NoLimit) (g0 : s.gens = #[])
    (ea : s.heap.get? a = some { cls := .type "list", data := .seq vs.toArray }) (hi : IntsAre vs ns) (hl : ns.length ≤ sizeLine) (hr : Rm k callerA) (F : ∀ base : Heap, K.In base → base.Ns mainGlobals mg → FnG P w K mg base CX0 k fA fd [x] sp) (bd : ∀ (s : Shared) (u : Value), BindsTo s fd ⟨[u], []⟩ [(x, u)])
    (h0 : ∀ H : Hp, Only H → SqL K H a (ns.map V.int) → sp [.ref a] H (fun v _ => v = .bl true) fun _ _ _ => False) : codeAny (model P w) callerA (.call (.ref fA) ⟨[.ref a], []⟩) (LawEnd s) s := by
  have rv := vals_ints hi
  have len := hi.length
  by_cases hk : ∃ o, K.lookup a = some o
  · obtain ⟨o, hk⟩ := hk
    have e := inK a o hk
    rw [ea] at e
    cases e
    have sq : SqL K (fun _ => none) a (ns.map V.int) := .inr ⟨_, vs.toArray, _, hk, rfl, rfl, rfl, by rw [List.size_toArray, len]; exact hl, by simpa using rv⟩
    exact top_core inK n1 n2 bb nl g0 ea hr F bd (h0 _ (fun _ => .inl rfl) sq) (fun _ => .inl rfl) (fun b u z => by have z2 : (none : Option HO) = some u := z; cases z2) (fun b z => absurd rfl z) fun z => absurd rfl z
  · have hk : K.lookup a = none := by
      cases z : K.lookup a with
      | none => rfl
      | some o => exact absurd ⟨o, z⟩ hk
    let Hs : Hp := fun b => if b = a then some (.frz { cls := .type "list", data := .seq vs.toArray } (.lst (ns.map V.int))) else none
    have at1 : Hs a = some (.frz { cls := .type "list", data := .seq vs.toArray } (.lst (ns.map V.int))) := if_pos rfl
    have at2 : ∀ {b : Addr}, b ≠ a → Hs b = none := fun {b} n => if_neg n
    have on : Only Hs := fun b => by
      by_cases eb : b = a
      · subst eb; exact .inr ⟨_, _, at1⟩
      · exact .inl (at2 eb)
    refine top_core (H := Hs) inK n1 n2 bb nl g0 ea hr F bd (h0 Hs on (.inl (.inr ⟨_, at1⟩))) on (fun b u z => ?_) (fun b z => ?_) fun _ => hk
    · by_cases eb : b = a
      · subst eb
        rw [at1] at z
        cases z
        exact ⟨ea, by rw [List.length_map]; exact hl, vs, _, rv, ea⟩
      · rw [at2 eb] at z; cases z
    · by_cases eb : b = a
      · exact eb
      · exact absurd (at2 eb) z
end
theorem walkG {l : PySem.W.OpenLaw} {n k : Nat} {q : Program} {loose : List Str} {XP : (Str → Option Value) → Heap → Prop} {YP : World → Heap → Prop} {d : DefRec} {x : Str} (hn : l.most = some n) (h2 : n ≤ sizeLine) (h3 : d.params.defaults = []) (hr : Rm k callerA)
    (F : ∀ (w : World) (mg : Str → Option Value) (fA : Addr) (h : Heap), YP w h → h.Ns mainGlobals mg → mg d.name = some (.ref fA) → ∃ (K : PySem.W.Frag) (fd : FuncData) (sp : Sp), K.In h ∧ (∀ (s : Shared) (u : Value), BindsTo s fd ⟨[u], []⟩ [(x, u)]) ∧
      (∀ (H : Hp) (a : Addr) (ns : List Int), ns.length ≤ n → Only H → SqL K H a (ns.map V.int) → sp [.ref a] H (fun v _ => v = .bl true) fun _ _ _ => False) ∧ ∀ base : Heap, K.In base → base.Ns mainGlobals mg → FnG l.prog w K mg base CX0 k fA fd [x] sp) :
    PySem.W.WalkO q loose XP YP l.row.toRowW d [] (fun f vs => PySem.call f vs) := by
  refine Att.attach_call hn h3 fun w s0 s1 mg mb fA o pm cd doc a vs ns G Y ho hd hcd hmg hobj hints hlen hg => ?_
  obtain ⟨K, fd, sp, KX, hb, h0, hF⟩ := F w mg fA _ Y G.T.g hmg
  exact top_call KX G.T.g G.T.b G.T.builtins G.T.nolimit hg hobj hints (Nat.le_trans hlen h2) hr hF hb fun H hO hS => h0 H a ns hlen hO hS
theorem topG {fa : List He.Fa} {fn : List He.DefD} {K : PySem.W.Frag} {mg : Str → Option Value} {P : Program} {w : World} (W : Wo fa fn K mg) (i j : Nat) {N : List Str} {d : He.DefD} {k : Nat} {m : XM} {x f0 : Str} (hd : fn[i]? = some d) (hx : d.at_ = (f0, none)) (hf : fa[j]? = some (.glo f0)) (pl : Plain d [x]) (S : FnScope N [x] d.scope) {fA : Addr} (hfa : mg f0 = some (.ref fA))
    (hb : ∀ (base : Heap) (f : Addr) (cdv : Value) (A : Around) (outer : List Env) (s : Shared) (H : Hp) (E : XK), Rm k (cxN P w K mg base N d f cdv A outer s H E).A → PSs (cxN P w K mg base N d f cdv A outer s H E) d.body (tS (K, w) W0 (ios [false]) m)) :
    ∃ fd : FuncData, (∀ (s : Shared) (v : Value), BindsTo s fd ⟨[v], []⟩ [(x, v)]) ∧ ∀ base : Heap, K.In base → base.Ns mainGlobals mg → FnG P w K mg base CX0 (k + 1) fA fd [x] (spOf (K, w) 1 (semF [false] N.length m)) := by
  obtain ⟨h, X, G, c⟩ := W
  obtain ⟨fd, F⟩ := c.def_ i hd
  have g := He.glo_ok X G (c.fact j hf)
  have eD : d.dvs K = [] := by unfold He.DefD.dvs; rw [pl.1]; rfl
  have eA : He.fAd K d.at_ = He.ga K f0 := by rw [hx]; rfl
  have e := hfa.symm.trans g
  cases e
  rw [eD, eA] at F
  exact ⟨fd, fun s v => FunD.bindsA F pl.2.2 s [v] rfl, fun base _ _ => defG F S (hb base)⟩
def reprG : List D → Option C
  | [d] => if SeqAt.shaped d = true ∧ PyData.showable d = true ∧ d.shown.length ≤ sizeLine then some (.sh (.str d.shown)) else none
  | _ => none
section
variable {X : Cx}
theorem reprG_ok {k : Nat} (hr : Rm k X.A) : ∃ r, CallR X (.builtin "repr") r ∧ FnB X.K reprG r := by
  refine ⟨fun xs H Q => ∃ x d, xs = [x] ∧ Dp X.K H x d ∧ SeqAt.shaped d = true ∧ PyData.showable d = true ∧ d.shown.length ≤ sizeLine ∧ Q (.str d.shown) H, ?_, fun F H vs ds c Q s hrb he q => ?_⟩
  · rintro pins s σ H xs us Q I r ⟨x, d, rfl, dp, hs, hw, hz, q⟩
    obtain ⟨u, rfl, ru⟩ := vals1 r
    obtain ⟨as, rd⟩ := Dp.reads I d x u dp ru
    have fin : ∀ (t tk : Tok), EP X pins σ Q (.str d.shown t) { s with toks := tk } := fun t tk => ⟨.str d.shown, H, I.tok tk, ⟨t, rfl⟩, q⟩
    have big : ∀ {a : Addr}, Reads s.heap (.ref a) d as → wpAny (model X.prog X.w) X.A (call (.builtin "repr") [.ref a]) (EP X pins σ Q) X.xe s := fun {a} rd => by
      have hd := SeqAt.depth_of_shaped hs
      have hu := hr.un
      exact repr_of_reads' rd hw (PyData.noDict_hsm (PyData.hasDict_of_canLay d (SeqAt.canLay_of_shaped hs))) hr.gd (by omega) (fun _ _ e => e) (fun h' u tk hk => ⟨.str d.shown, H, I.kept (h' := h') (t' := tk) hk, ⟨u, rfl⟩, q⟩) hz
    cases rd with
    | none => exact PySem.P.repr_of_none (by have := fin s.toks (s.toks + 1); simp only [PyData.shown] at this; exact this)
    | bool b => exact PySem.P.repr_of_bool (by have := fin s.toks (s.toks + 1); simp only [PyData.shown] at this; exact this)
    | int i t => exact PySem.P.repr_of_int (by simpa [PyData.showable] using hw) (by have := fin s.toks (s.toks + 1); simp only [PyData.shown] at this; exact this)
    | str z t => exact PySem.P.repr_of_str (by have := fin s.toks (s.toks + 1); simp only [PyData.shown] at this; exact this) (by simpa only [PyData.shown] using hz)
    | list h1 h2 h3 h4 => exact big (.list h1 h2 h3 h4)
    | tuple h1 h2 h3 h4 => exact big (.tuple h1 h2 h3 h4)
    | dict h1 h2 h3 h4 h5 => exact big (.dict h1 h2 h3 h4 h5)
  · match ds, he, hrb with
    | [d], he, hrb =>
      simp only [reprG] at he
      split at he
      · rename_i h
        cases he
        obtain ⟨x, rfl, h1⟩ := hrb.one
        exact ⟨x, d, rfl, rb_dp s h1 (SeqAt.canLay_of_shaped h.1), h.1, h.2.1, h.2.2, g_str s q⟩
      · cases he
theorem x_repr {k : Nat} {e : Expr} {es : List Expr} {mr : AM} {p pos : Pos} (hm : X.mg "repr" = none) (hr : Rm k X.A) (hg : Gl X "repr") (ha : PA X (e :: es) (tA X.E mr)) (he : starEach (e :: es) X.env = (false, eval e X.env) :: starEach es X.env := by rfl) (hpl : (backTo pos (starEach es X.env)).any (·.1) = false := by rfl) :
    PE X (.Call (.Name "repr" p) (e :: es) [] pos) (tE X.E (mOp reprG mr)) :=
  let ⟨_, h1, h2⟩ := reprG_ok hr
  me_callB h1 h2 hg hm boot_repr ha (by decide) (by decide) he hpl
end
end L2.M
namespace L2.M
open PySem PySem.Spec PyProof.Rows
theorem ints_all : ∀ ns : List Int, intsOf (ns.map PyData.int) = some ns
  | [] => rfl
  | d :: ds => by
    simp only [List.map_cons, intsOf, ints_all ds, Option.map_some]
inductive Sk where
  | l | t
def itX : Sk → Heap → Addr → Addr → Nat → Prop
  | .l => fun h it a i => h.IsListIter it a i
  | .t => fun h it a i => h.IsTupleIter it a i
def newX : Sk → Addr → Obj
  | .l => fun a => { cls := .type "list_iterator", data := .fields #[.ref a, .int 0 0] }
  | .t => fun a => { cls := .type "tuple_iterator", data := .fields #[.ref a, .int 0 0] }
theorem itX.new {k : Sk} {h : Heap} {it a : Addr} (g : h.get? it = some (newX k a)) : itX k h it a 0 := by
  cases k <;> exact ⟨_, g, rfl, rfl⟩
theorem itX.at {k : Sk} {h h' : Heap} {it a : Addr} {i : Nat} (g : itX k h it a i) (e : ∀ o, h.get? it = some o → h'.get? it = some o) : itX k h' it a i := by
  cases k
  · exact Heap.IsListIter.at g e
  · exact Heap.IsTupleIter.at g e
theorem two {P : Addr → Prop} {a b : Addr} (ha : P a) (hb : P b) : ∀ x ∈ [a, b], P x := by
  simp only [List.forall_mem_cons]
  exact ⟨ha, hb, fun x h => (by cases h)⟩
def itemsX : D → Option (Sk × List D)
  | .list ds => some (.l, ds)
  | .tuple ds => some (.t, ds)
  | _ => none
def zipX : List D → Option (List D)
  | [d, e] => do
    let (_, ds) ← itemsX d
    let (_, es) ← itemsX e
    some (List.zipWith (fun a b => .tuple [a, b]) ds es)
  | _ => none
def enumX : List D → Option (List D)
  | [d] => (itemsX d).map fun p => enumFrom 0 p.2
  | _ => none
section
variable {X : Cx} {e a b : Expr} {p pos : Pos}
/-- {i: j} -/
theorem x_dctI {i j : Int} {ki kj : Nat} {pi pj : Pos} : PE X (.Dict [some (.Constant (.int i) ki pi)] [.Constant (.int j) kj pj] pos) (tE X.E (mK (.dict [(.int i, .int j)]))) := (pe_disp (pps_cons pe_int pe_int pps_nil) rfl rfl (by simp) (by simp)).weak fun σ H Q h => by
  obtain ⟨F, R, ε, c, ε', ok, e, q⟩ := h
  cases e
  intro q1 hq
  refine ⟨upd_same, [(.inl i, .int j)], rfl, by simp, ?_⟩
  have g := Grw.laid (u := .dK [(.inl i, .int j)]) ok.sub hq
  have e : upd (upd H q1 (.dK [])) q1 (.dK (mergeK [] [(.inl i, .int j)])) = upd H q1 (.dK [(.inl i, .int j)]) := by
    funext b
    by_cases hb : b = q1
    · subst hb; rw [upd_same, upd_same]; rfl
    · rw [upd_ne hb, upd_ne hb, upd_ne hb]
  rw [e]
  exact q _ _ _ g.fm ((ok.grow g).addSh ⟨q1, _, rfl, upd_same, ⟨_, _, _, rfl, rfl, rfl, rfl⟩⟩)
end
end L2.M
namespace L2.M
open PySem PySem.Spec PyProof.Rows
abbrev Lk := List (Int ⊕ List Nat)
def dItems (sh : Nat → Bool) : Nat → List D → Option Lk
  | _, [] => some []
  | i, .int n :: r => if sh i = true then none else (dItems sh (i + 1) r).map (Sum.inl n :: ·)
  | i, .str x :: r => if sh i = true then (dItems sh (i + 1) r).map (Sum.inr x.cps.toList :: ·) else none
  | _, _ :: _ => none
def dKey (sh : Nat → Bool) : D → Option Lk
  | .tuple (d :: ds) => dItems sh 0 (d :: ds)
  | _ => none
/-- at which places the first one has texts -/
def shp : List D → Nat → Bool
  | .tuple es :: _ => fun i => match es[i]? with
    | some (.str _) => true
    | _ => false
  | _ => fun _ => false
def kLe (a b : Lk) : Bool := !lexLt itemOrd b a
def tle (sh : Nat → Bool) (d e : D) : Bool := kLe ((dKey sh d).getD []) ((dKey sh e).getD [])
def tsort (ds : List D) : List D := ds.mergeSort (tle (shp ds))
def tups (ds : List D) : Bool := ds.all fun d => (dKey (shp ds) d).isSome
def sortX : List D → Option C
  | [.list ds] => match intsOf ds with
    | some ns => some (.ls ((isort ns).map PyData.int))
    | none => if tups ds then some (.ls (tsort ds)) else none
  | _ => none
theorem cps_inj {x y : Str} (h : x.cps.toList = y.cps.toList) : x = y := by
  cases x; cases y
  simp at h
  rw [h]
theorem sortX_ints (ns : List Int) : sortX [.list (ns.map PyData.int)] = some (.ls ((isort ns).map PyData.int)) := by
  have : ∀ ns : List Int, intsOf (ns.map PyData.int) = some ns := fun ns => by
    induction ns with
    | nil => rfl
    | cons n ns ih => simp [intsOf, ih]
  simp only [sortX, this]
end L2.M
namespace L2.M
open PySem PySem.Spec PyProof.Rows
def mM (f : List D → Option C) (kind : D → Bool) (mo : OM) (ma : AM) : EM := fun ε => do
  let (o, ε1) ← mo ε
  let d0 ← bor ε1 o
  if kind d0 then
    let (os, ε2) ← ma ε1
    let ds ← bors ε2 (o :: os)
    let c ← f ds
    some (c, ε2)
  else none
def isL : D → Bool
  | .list _ => true
  | _ => false
def isS : D → Bool
  | .str _ => true
  | _ => false
def FnM (K : PySem.W.Frag) (f : List D → Option C) (r : V → List V → Hp → VK → Prop) : Prop :=
  ∀ F H x xs ds c Q, Same F H → RepBs K F H (x :: xs) ds → f ds = some c → (∀ v F' H', Grow K F H F' H' v c → Q v H') → r x xs H Q
theorem tyV_L {K : PySem.W.Frag} {F H : Hp} {x : V} {d : D} (s : Same F H) (h : RepB K F H x d) (k : isL d = true) : tyV K "list" x H := by
  cases d with
  | list ds =>
    obtain ⟨a, vs, rfl, g1, _⟩ := rb_lst s h
    exact .inl ⟨rfl, vs, g1⟩
  | _ => cases k
theorem tyV_S {K : PySem.W.Frag} {F H : Hp} {x : V} {d : D} (s : Same F H) (h : RepB K F H x d) (k : isS d = true) : tyV K "str" x H := by
  cases d with
  | str z =>
    rw [rb_str h]
    exact rfl
  | _ => cases k
theorem tE_m {K : Ek} {T : String} {f : List D → Option C} {r : V → List V → Hp → VK → Prop} {kind : D → Bool} (hf : FnM K.1 f r) (hk : ∀ (F H : Hp) (x : V) (d : D), Same F H → RepB K.1 F H x d → kind d = true → tyV K.1 T x H) {mo : OM} {ma : AM} {σ : St} {H : Hp} {Q : VK}
    (h : tE K (mM f kind mo ma) σ H Q) : tBM K.1 T r (tO K mo) (tA K ma) σ H Q := by
  obtain ⟨F, R, ε, c, ε', ok, e, q⟩ := h
  unfold mM at e
  cases e1 : mo ε with
  | none => simp [e1] at e
  | some p =>
    obtain ⟨o, ε1⟩ := p
    cases e2 : bor ε1 o with
    | none => simp [e1, e2] at e
    | some d0 =>
      cases e3 : kind d0 with
      | false => simp [e1, e2, e3] at e
      | true =>
        cases e4 : ma ε1 with
        | none => simp [e1, e2, e3, e4] at e
        | some p2 =>
          obtain ⟨os, ε2⟩ := p2
          cases e5 : bors ε2 (o :: os) with
          | none => simp [e1, e2, e3, e4, e5] at e
          | some ds =>
            cases e6 : f ds with
            | none => simp [e1, e2, e3, e4, e5, e6] at e
            | some c' =>
              simp [e1, e2, e3, e4, e5, e6] at e
              obtain ⟨rfl, rfl⟩ := e
              refine ⟨F, R, ε, o, ε1, ok, e1, fun v F1 H1 fm1 v1 s1 => ?_⟩
              have b1 : bors ε1 [o] = some [d0] := by simp [bors, e2]
              have hx := (bors_ok (T := []) (by simpa using s1) v1 b1).inj1
              obtain ⟨R1, s1', bk⟩ := s1.hides
              refine ⟨hk F1 H1 v d0 s1.sub hx e3, F1, R1, ε1, os, ε2, s1', e4, fun vs F2 H2 fm2 v2 s2 => ?_⟩
              have s3 := bk F2 H2 σ ε2 _ fm2 s2
              have v3 : OpV σ (v :: vs) (o :: os) := by
                cases v1 with
                | pl h _ => exact .pl h v2
                | tm _ => exact .tm v2
              have s4 : Sep K F2 R H2 σ ε2 (tmO (o :: os) (v :: vs) ++ []) := by
                rw [List.append_nil]
                cases o with
                | pl i => exact s3
                | tm c => exact s3
              refine hf F2 H2 v vs ds c' Q s4.sub (bors_ok s4 v3 e5) e6 fun w F3 H3 g => ?_
              exact q w F3 H3 ((fm1.trans fm2).trans g.fm) ((s4.drops _).res g)
def indexD : List D → Option C
  | [.list ds, d] => if SeqAt.shaped (.list ds) && SeqAt.shaped d then (ds.findIdx? fun z => PyData.eqv z d).map fun j => .sh (.int (j : Nat)) else none
  | _ => none
section
variable {X : Cx}
theorem index_ok (hu : X.A.units + 65 < cLine) : ∃ r, MtR X "list.index" r ∧ FnM X.K indexD r := by
  refine ⟨_, mt_indexD hu, fun F H x xs ds c Q s hr he q => ?_⟩
  match ds, he, hr with
  | [.list ds, d], he, hr =>
    simp only [indexD] at he
    split at he
    · rename_i hs
      simp only [Bool.and_eq_true] at hs
      obtain ⟨j, hj, rfl⟩ := Option.map_eq_some_iff.mp he
      obtain ⟨y, w, e, h1, h2⟩ := hr.two
      cases e
      obtain ⟨hjl, g1, g2⟩ := List.findIdx?_eq_some_iff_getElem.mp hj
      have dl := rb_dp s h1 (SeqAt.canLay_of_shaped hs.1)
      obtain ⟨a, vs, rfl, _, _⟩ := rb_lst s h1
      refine ⟨a, w, d, ds, j, ds[j], rfl, rfl, dl, rb_dp s h2 (SeqAt.canLay_of_shaped hs.2), hs.1, hs.2, List.getElem?_eq_getElem hjl, g1, fun m z' hm hz => ?_, g_int s q⟩
      obtain ⟨hml, rfl⟩ := List.getElem?_eq_some_iff.mp hz
      have := g2 m hm
      simpa using this
    · cases he
variable {o e : Expr} {es : List Expr} {mo : OM} {mr : AM} {apos cpos : Pos} {k : Nat}
end
end L2.M
namespace L2.M
open PySem PySem.Spec PyProof.Rows
theorem ObP.set {K : Ek} {H : Hp} {a : Addr} {vs : List V} {k : Nat} {v : V} (hv : vs[k]? = some v) : ∀ {kd : Kd}, ObP K H a vs kd → ObP K H a (vs.set k v) kd := fun {kd} h => by rw [set_same hv]; exact h
def PlV (K : Ek) (H : Hp) (σ : St) (ε : Cs) (i k : Nat) (v : V) : Prop := ∃ a kd cs vs, σ[i]? = some (some (.ref a)) ∧ ε[i]? = some (.ob kd cs) ∧ ObP K H a vs kd ∧ vs[k]? = some v ∧ vs.length = cs.length
section
variable {K : Ek} {F R H : Hp} {σ : St} {ε : Cs} {T : Tms} {i k : Nat} {v : V} {c : C} {kd : Kd} {cs : List C}
theorem ObP.inj {a : Addr} {vs us : List V} : ∀ {kd : Kd}, ObP K H a vs kd → ObP K H a us kd → vs = us
  | .dn _, h, _ => h.elim
  | .ls, h, g => by
    have h : H a = _ := h
    have g : H a = _ := g
    rw [h] at g
    cases g
    rfl
  | .ins x fs, ⟨dx, h1, h2, _⟩, ⟨dy, g1, g2, _⟩ => by
    rw [h1] at g1
    injection g1 with g1
    injection g1 with _ _ g1
    have := congrArg (List.map (·.2)) g1
    rwa [List.map_snd_zip (by omega), List.map_snd_zip (by omega)] at this
theorem PlV.heap {H' : Hp} (p : PlV K H σ ε i k v) (h : ∀ a, σ[i]? = some (some (.ref a)) → H' a = H a) : PlV K H' σ ε i k v := by
  obtain ⟨a, kd, cs, vs, p1, p2, p3, p4, p5⟩ := p
  exact ⟨a, kd, cs, vs, p1, p2, ObP.frame (h a p1) p3, p4, p5⟩
end
end L2.M
namespace L2.M
open PySem PySem.Spec PyProof.Rows
abbrev PlM := Cs → Option ((Nat × Nat) × Cs)
/-- x.f -/
def mPlF (i k : Nat) (x f : Str) : PlM := fun ε => match ε[i]? with
  | some (.ob (.ins y fs) cs) => if y = x ∧ fs[k]? = some f ∧ k < cs.length then some ((i, k), ε) else none
  | _ => none
/-- x[e] -/
def mPlI (i : Nat) (ix : OM) : PlM := fun ε => match ε[i]? with
  | some (.ob .ls _) => do
    let (o, ε1) ← ix ε
    let d ← bor ε1 o
    match d, ε1[i]? with
      | .int z, some (.ob .ls cs) => do
        let j ← ixN cs.length z
        some ((i, j), ε1)
      | _, _ => none
  | _ => none
/-- the value there: an own list is frozen -/
def mRd (m : PlM) : EM := fun ε => do
  let ((i, k), ε1) ← m ε
  match ε1[i]? with
  | some (.ob kd cs) => match cs[k]? with
    | some (.sh d) => some (.sh d, ε1)
    | some (.ls ds) => some (.sh (.list ds), ε1.set i (.ob kd (cs.set k (.sh (.list ds)))))
    | _ => none
  | _ => none
/-- an operation of one, on what stands there -/
def mPU (f : List D → Option C) (m : PlM) : EM := fun ε => do
  let ((i, k), ε1) ← m ε
  match ε1[i]? with
  | some (.ob _ cs) => do
    let c0 ← cs[k]?
    let d ← cD c0
    let c ← f [d]
    some (c, ε1)
  | _ => none
/-- an operation of two, the first one there -/
def mPB (f : D → D → Option C) (m : PlM) (b : OM) : EM := fun ε => do
  let ((i, k), ε1) ← m ε
  match ε1[i]? with
  | some (.ob kd cs) => do
    let c0 ← cs[k]?
    let d ← cD c0
    let (o, ε2) ← b (ε1.set i .no)
    let e ← bor ε2 o
    let c ← f d e
    some (c, ε2.set i (.ob kd cs))
  | _ => none
end L2.M
namespace L2.M
open PySem PySem.Spec PyProof.Rows
section
variable {K : Ek} {F R H H' : Hp} {σ : St} {ε : Cs} {T : Tms} {i k : Nat} {y : V} {c : C} {kd kd' : Kd} {cs : List C}
/-- a part stored (or a new one behind the others), the object itself rewritten -/
theorem Sep.part (s : Sep K F R H σ ε ((y, c) :: T)) (h : ε[i]? = some (.ob kd cs)) : ∃ a vs, σ[i]? = some (some (.ref a)) ∧ ObAt K F H a vs kd ∧ vs.length = cs.length ∧ ∀ o us ds, (∀ gg f, RpCs K F H (vs.map some) cs gg → RpC K F H (some y) c f → (gg.flatten ++ f).Nodup → ∃ g2, RpCs K F H (us.map some) ds g2 ∧ g2.flatten.Nodup ∧ ∀ b ∈ g2.flatten, b ∈ gg.flatten ++ f) →
    ObAt K F (upd H a o) a us kd' → Sep K F R (upd H a o) σ (ε.set i (.ob kd' ds)) T := by
  obtain ⟨o0, f0, e1, h0⟩ := s.cell h
  obtain ⟨w, hw⟩ := s.val h fun z => nomatch z
  have s1 := s.take h hw
  obtain ⟨gs, q, n, nf, close⟩ := Sep.opens (T1 := [(w, .ob kd cs), (y, c)]) s1
  obtain ⟨o', r, f, fr, q1, q2, ⟨a, vs, gg, g1, g2, g3, g4⟩, o2, r2, f2, fr2, q3, q4, g5, g6, g7⟩ := q
  obtain ⟨rfl, rfl⟩ := List.cons.inj q1
  obtain ⟨rfl, rfl⟩ := List.cons.inj q3
  cases g1
  have l := g4.len
  rw [List.length_map] at l
  subst q4 q2 g7
  have e : ([f, f2] : List (List Addr)).flatten = a :: (gg.flatten ++ f2) := by simp [g2]
  rw [e] at n close
  rw [List.nodup_cons] at n
  refine ⟨a, vs, hw, g3, l.1, fun o us ds k1 k2 => ?_⟩
  obtain ⟨g8, m1, m2, m3⟩ := k1 gg f2 g4 g5 n.2
  have na : ∀ b ∈ g8.flatten, b ≠ a := fun b hb z => n.1 (by rw [← z]; exact m3 b hb)
  have s2 : Sep K F R (upd H a o) σ (ε.set i .no) ((.ref a, .ob kd' ds) :: T) := by
    refine close _ _ _ (a :: g8.flatten) ⟨a, us, g8, rfl, rfl, k2, RpCs.frame (Same.refl F) (fun b hb => upd_ne (na b hb)) m1⟩ (List.nodup_cons.mpr ⟨fun z => na a z rfl, m2⟩) (fun b hb => ?_) (fun b u hb e => ?_)
    · left
      rcases List.mem_cons.mp hb with rfl | hb
      · exact List.mem_cons_self
      · exact List.mem_cons_of_mem _ (m3 b hb)
    · rw [upd_ne]
      · exact e
      · rintro rfl
        exact hb List.mem_cons_self
  have s3 := s2.put hw
  rw [List.set_set] at s3
  exact s3
theorem part_set {vs : List V} {gg : List (List Addr)} {f : List Addr} {k : Nat} (g : RpCs K F H (vs.map some) cs gg) (r : RpC K F H (some y) c f) (n : (gg.flatten ++ f).Nodup) : ∃ g2, RpCs K F H ((vs.set k y).map some) (cs.set k c) g2 ∧ g2.flatten.Nodup ∧ ∀ b ∈ g2.flatten, b ∈ gg.flatten ++ f := by
  rw [List.nodup_append] at n
  refine ⟨gg.set k f, by rw [List.map_set]; exact RpCs.set r k g, nodup_set n.2.1 n.1 fun j x hj hx b hb hb2 => n.2.2 b (flat_get hx hb2) b hb rfl, fun b hb => ?_⟩
  rcases flat_set hb with hb | ⟨j, x, _, hx, hb⟩
  · exact List.mem_append_right _ hb
  · exact List.mem_append_left _ (flat_get hx hb)
theorem part_add {vs : List V} {gg : List (List Addr)} {f : List Addr} (g : RpCs K F H (vs.map some) cs gg) (r : RpC K F H (some y) c f) (n : (gg.flatten ++ f).Nodup) : ∃ g2, RpCs K F H ((vs ++ [y]).map some) (cs ++ [c]) g2 ∧ g2.flatten.Nodup ∧ ∀ b ∈ g2.flatten, b ∈ gg.flatten ++ f := by
  have e : (gg ++ [f]).flatten = gg.flatten ++ f := by simp
  refine ⟨gg ++ [f], by rw [List.map_append]; exact g.append ⟨_, _, _, _, rfl, rfl, r, rfl, rfl⟩, by rw [e]; exact n, fun b hb => by rw [e] at hb; exact hb⟩
end
/-- x.f = e -/
def mFSet (i k : Nat) (x f : Str) (m : EM) : XM := fun ε => do
  let (c, ε1) ← m ε
  match ε1[i]? with
  | some (.ob (.ins y fs) cs) =>
    if y = x ∧ fs[k]? = some f ∧ k < cs.length ∧ cs.length < 1000 then some (.nx, ε1.set i (.ob (.ins y fs) (cs.set k c)))
    else none
  | _ => none
/-- .. for the first time -/
def mFNew (i : Nat) (x f : Str) (m : EM) : XM := fun ε => do
  let (c, ε1) ← m ε
  match ε1[i]? with
  | some (.ob (.ins y fs) cs) =>
    if y = x ∧ f ∉ fs ∧ cs.length < 1000 then some (.nx, ε1.set i (.ob (.ins y (fs ++ [f])) (cs ++ [c])))
    else none
  | _ => none
/-- x[ix] = e, x a list of own things -/
def mNSet (i : Nat) (m : EM) (ix : OM) : XM := fun ε => do
  let (c, ε1) ← m ε
  match ε1[i]? with
  | some (.ob .ls _) => do
    let (p, ε2) ← ix ε1
    let k ← bor ε2 p
    match k, ε2[i]? with
      | .int k, some (.ob .ls cs) => do
        let j ← ixN cs.length k
        some (.nx, ε2.set i (.ob .ls (cs.set j c)))
      | _, _ => none
  | _ => none
/-- p.append(e) -/
def mPApp (m : PlM) (e : EM) : XM := fun ε => do
  let ((i, k), ε1) ← m ε
  match ε1[i]? with
  | some (.ob kd cs) => match cs[k]? with
    | some (.ls ds) => do
      let (c, ε2) ← e (ε1.set i .no)
      let d ← cD c
      if ds.length < sizeLine then some (.nx, ε2.set i (.ob kd (cs.set k (.ls (ds ++ [d]))))) else none
    | _ => none
  | _ => none
/-- p[ix] = e -/
def mPSetIx (m : PlM) (e : EM) (ix : OM) : XM := fun ε => do
  let (c, ε0) ← e ε
  let d ← cD c
  let ((i, k), ε1) ← m ε0
  match ε1[i]? with
  | some (.ob kd cs) => match cs[k]? with
    | some (.ls ds) => do
      let (o, ε2) ← ix (ε1.set i .no)
      let z ← bor ε2 o
      match z with
        | .int z => do
          let j ← ixN ds.length z
          some (.nx, ε2.set i (.ob kd (cs.set k (.ls (ds.set j d)))))
        | _ => none
    | _ => none
  | _ => none
/-- p.pop() -/
def mPPop (m : PlM) : EM := fun ε => do
  let ((i, k), ε1) ← m ε
  match ε1[i]? with
  | some (.ob kd cs) => match cs[k]? with
    | some (.ls ds) => do
      let d ← ds.getLast?
      some (.sh d, ε1.set i (.ob kd (cs.set k (.ls ds.dropLast))))
    | _ => none
  | _ => none
end L2.M
namespace L2.M
open PySem PySem.Spec PyProof.Rows
def cellO (ε : Cs) : Opd → Option C
  | .pl i => ε[i]?
  | .tm c => some c
/-- an object of the class x that has no attribute m of its own -/
def isIns (x m : Str) : Option C → Bool
  | some (.ob (.ins y fs) _) => decide (y = x ∧ m ∉ fs)
  | _ => false
def mMeth (x m : Str) (io : List Bool) (g : GM) (mo : OM) (ma : AM) : EM := fun ε => do
  let (o, ε1) ← mo ε
  if isIns x m (cellO ε1 o) = true then do
    let (os, ε2) ← ma ε1
    let (os2, ε3) ← frz io (o :: os) ε2
    let (cs, ε4) ← lend os2 ε3
    let (c, cs') ← g cs
    some (c, wb os2 cs' ε4)
  else none
def mNew (x : Str) (io : List Bool) (g : GM) (ma : AM) : EM := fun ε => do
  let (os, ε1) ← ma ε
  let (os2, ε2) ← frz io os ε1
  let (cs, ε3) ← lend os2 ε2
  match g (.ob (.ins x []) [] :: cs) with
  | some (.sh .none, c :: cs') => some (c, wb os2 cs' ε3)
  | _ => none
section
variable {fa : List He.Fa} {fn : List He.DefD} {K : PySem.W.Frag} {mg : Str → Option Value} {P : Program} {w : World} {base : Heap}
theorem Wo.cls (W : Wo fa fn K mg) (i : Nat) {x : Str} (h : fa[i]? = some (.cls x) := by rfl) : Cls K (He.ga K x) := let ⟨_, _, _, c⟩ := W; He.cls_ok (c.fact i h)
theorem Wo.glo (W : Wo fa fn K mg) (i : Nat) {x : Str} (h : fa[i]? = some (.glo x) := by rfl) : mg x = some (.ref (He.ga K x)) := let ⟨_, X, G, c⟩ := W; He.glo_ok X G (c.fact i h)
end
section
variable {X : Cx}
theorem Rm.make {k : Nat} {A : Around} (r : Rm (k + 1) A) (C : Addr) (us : List Value) (kw : List (Str × Value)) : Rm k (A.under (.builtin "type.__call__" ⟨.ref C :: us, kw⟩)) :=
  ⟨r.toRoom.make C us kw, by first | exact r.gd | simpa [Around.under, Code.weight, Code.isCreation, Code.isGuard, Code.isCaller, Code.frames, Code.isFrame, guardIds] using r.gd⟩
end
end L2.M
namespace L2.M
open PySem PySem.Spec PyProof.Rows
def clsBody (s : Stmt) : List Stmt := match s with
  | .ClassDef _ _ _ b _ _ _ _ _ _ _ => b
  | _ => []
def mAddN (a : OM) (b : EM) : EM := fun ε => do
  let (o, ε1) ← a ε
  let (c, ε2) ← b ε1
  let d ← bor ε2 o
  match d, c with
    | .list ds, .ob .ls cs => if ds.length + cs.length ≤ sizeLine then some (.ob .ls (ds.map .sh ++ cs), ε2) else none
    | _, _ => none
end L2.M
namespace L2.M
open PySem PySem.Spec PyProof.Rows
end L2.M
namespace L2.M
end L2.M
namespace L2.M
open PySem PySem.Spec PyProof.Rows
section
variable {X : Cx}
def mRaise (x : Str) : XM := fun ε => some (.xc ⟨x, []⟩, ε)
end
abbrev GX := List C → Option ((C ⊕ Xn) × List C)
abbrev EXM := Cs → Option ((C ⊕ Xn) × Cs)
def semX (io : List Bool) (ns : Nat) (m : XM) : GX := fun cs =>
  if shared io cs then
    match m (cs ++ List.replicate (ns - cs.length) .no) with
    | some (.rt c, ε') => some (.inl c, after io cs ε')
    | some (.nx, ε') => some (.inl (.sh .none), after io cs ε')
    | some (.xc x, ε') => some (.inr x, after io cs ε')
    | _ => none
  else none
/-- what comes of an expression that may raise -/
def FinX (K : Ek) (R : Hp) (σ : St) (Q : VK) (E : XK) (F' H' : Hp) (ε' : Cs) : C ⊕ Xn → Prop
  | .inl c => ∀ v, Sep K F' R H' σ ε' [(v, c)] → Q v H'
  | .inr x => ∀ cls d, Sep K F' R H' σ ε' [] → RepX K F' cls d x → E cls d H'
def spX (K : Ek) (np : Nat) (g : GX) : Sp := fun vs H Q E => vs.length = np ∧ ∃ F R cs r cs', Sep K F R H (vs.map some) cs [] ∧ g cs = some (r, cs') ∧ ∀ F' H', Same F F' → FinX K R (vs.map some) Q E F' H' cs' r
def tEX (K : Ek) (W : Xw) (m : EXM) : TE := fun σ H Q => ∃ F R ε r ε', Sep K F R H σ ε [] ∧ m ε = some (r, ε') ∧ ∀ F' H', Same F F' → FinX K R σ Q (fun cls d H' => W cls d σ H') F' H' ε' r
theorem sem_runX {K : Ek} {np ns : Nat} {io : List Bool} {m : XM} {vs : List V} {H : Hp} {Q : VK} {E : XK} (h : spX K np (semX io ns m) vs H Q E) :
    tS K (fun cls d _ H' => E cls d H') (ios io) m { nx := fun _ H' => Q .non H', rt := Q } (vs.map some ++ List.replicate (ns - vs.length) none) H := by
  obtain ⟨hl, F, R, cs, r, cs', s, e, q⟩ := h
  have lc : cs.length = vs.length := by rw [← s.len, List.length_map]
  unfold semX at e
  split at e
  · rename_i hs
    rw [lc] at e
    generalize hn : ns - vs.length = n at e ⊢
    have s2 := s.ext n
    split at e
    · rename_i c1 ε' hm
      cases e
      exact ⟨F, R, _, _, ε', s2, hm, fun F' H' σ' fm t v s' => q F' H' fm v (s.leave hs fm t s')⟩
    · rename_i ε' hm
      cases e
      exact ⟨F, R, _, _, ε', s2, hm, fun F' H' σ' fm t s' => q F' H' fm .non ((s.leave hs fm t s').addSh (by simp only [Rep]))⟩
    · rename_i x ε' hm
      cases e
      exact ⟨F, R, _, _, ε', s2, hm, fun F' H' σ' fm t cls d s' rx => q F' H' fm cls d (s.leave hs fm t s') rx⟩
    · cases e
  · cases e
/-- a call of a def that raises -/
def mCallX (io : List Bool) (g : GX) (ma : AM) : EXM := fun ε => do
  let (os, ε1) ← ma ε
  let (os2, ε2) ← frz io os ε1
  let (cs, ε3) ← lend os2 ε2
  let (r, cs') ← g cs
  some (r, wb os2 cs' ε3)
theorem tEX_call {K : Ek} {W : Xw} {np : Nat} {g : GX} {io : List Bool} {ma : AM} {σ : St} {H : Hp} {Q : VK} (hio : io.length = np) (h : tEX K W (mCallX io g ma) σ H Q) : tA K ma σ H fun vs H1 => spX K np g vs H1 Q fun cls d H' => W cls d σ H' := by
  obtain ⟨F, R, ε, r, ε', ok, e, q⟩ := h
  unfold mCallX at e
  cases e1 : ma ε with
  | none => simp [e1] at e
  | some p =>
    obtain ⟨os, ε1⟩ := p
    cases e2 : frz io os ε1 with
    | none => simp [e1, e2] at e
    | some p2 =>
      obtain ⟨os2, ε2⟩ := p2
      cases e3 : lend os2 ε2 with
      | none => simp [e1, e2, e3] at e
      | some p3 =>
        obtain ⟨cs, ε3⟩ := p3
        cases e4 : g cs with
        | none => simp [e1, e2, e3, e4] at e
        | some p4 =>
          obtain ⟨r', cs'⟩ := p4
          simp [e1, e2, e3, e4] at e
          obtain ⟨rfl, rfl⟩ := e
          refine ⟨F, R, ε, os, ε1, ok, e1, fun vs F1 H1 fm1 v1 s1 => ?_⟩
          rw [← List.append_nil (tmO os vs)] at s1
          obtain ⟨F2, fm2, s2, v2, l2⟩ := frz_ok s1 v1 e2
          obtain ⟨s3, l3⟩ := lend_ok s2 v2 e3
          rw [List.append_nil] at s3
          obtain ⟨R1, s4, back⟩ := call_sep s3 v2 l3
          refine ⟨by rw [v2.len, l2]; exact hio, F2, R1, cs, r', cs', s4, e4, fun F' H' fm => ?_⟩
          cases r' with
          | inl c => exact fun v p => q F' H' ((fm1.trans fm2).trans fm) v (back F' H' cs' _ fm p)
          | inr x => exact fun cls d p rx => q F' H' ((fm1.trans fm2).trans fm) cls d (back F' H' cs' _ fm p) rx
section
variable {X : Cx} {W : Xw} {io : List Nat} {pos : Pos} {e : Expr} {m : EXM}
def xRet (m : EXM) : XM := fun ε => do
  let (r, ε1) ← m ε
  match r with
  | .inl c => some (.rt c, ε1)
  | .inr x => some (.xc x, ε1)
def xExpr (m : EXM) : XM := fun ε => do
  let (r, ε1) ← m ε
  match r with
  | .inl _ => some (.nx, ε1)
  | .inr x => some (.xc x, ε1)
def xSet (io : List Nat) (i : Nat) (m : EXM) : XM := fun ε => do
  let (r, ε1) ← m ε
  match r with
  | .inl c => if i < ε1.length ∧ i ∉ io then some (.nx, ε1.set i c) else none
  | .inr x => some (.xc x, ε1)
theorem z_xret (he : PE X e (tEX X.E W m)) : PS X (.Return (some e) pos) (tS X.E W io (xRet m)) := (ps_ret he).weak fun De σ H h => by
  obtain ⟨F, R, ε, f, ε', s, e, q⟩ := h
  unfold xRet at e
  cases e1 : m ε with
  | none => simp [e1] at e
  | some p =>
    obtain ⟨r, ε1⟩ := p
    cases r with
    | inl c =>
      simp [e1] at e
      obtain ⟨rfl, rfl⟩ := e
      exact ⟨F, R, ε, .inl c, ε1, s, e1, fun F' H' fm v s' => q F' H' σ fm (StS.refl ..) v s'⟩
    | inr x =>
      simp [e1] at e
      obtain ⟨rfl, rfl⟩ := e
      exact ⟨F, R, ε, .inr x, ε1, s, e1, fun F' H' fm cls d s' rx => q F' H' σ fm (StS.refl ..) cls d s' rx⟩
end
/-- a def that may raise, by its name -/
structure KnX (P : Program) (w : World) (K : PySem.W.Frag) (mg : Str → Option Value) (base : Heap) (k : Nat) (x : Str) (ps : List Str) (sp : Sp) : Prop where
  ex : ∃ (f : Addr) (fd : FuncData), mg x = some (.ref f) ∧ PySem.W.keepIn K (.ref f) = true ∧ Binds K fd ps [] ∧ FnG P w K mg base (L2N.CX P w) k f fd ps sp
abbrev cxX (P : Program) (w : World) (K : PySem.W.Frag) (mg : Str → Option Value) (base : Heap) (N : List Str) (d : He.DefD) (f : Addr) (cdv : Value) (A : Around) (outer : List Env) (s : Shared) (H : Hp) (E : XK) : Cx := cxOf (L2N.CX P w) P w K mg base N d.qual d.scope f cdv A outer s H E
section
variable {fa : List He.Fa} {fn : List He.DefD} {K : PySem.W.Frag} {mg : Str → Option Value} {P : Program} {w : World} {base : Heap}
theorem defX {N ps : List Str} {d : He.DefD} {k : Nat} {io : List Bool} {m : XM} {f : Addr} {fd : FuncData} {dvs : List V} {kws : List (Str × V)} (F : FunD K d.name d.qual d.params d.body d.scope dvs kws f fd) (S : FnScope N ps d.scope)
    (hb : ∀ (f : Addr) (cdv : Value) (A : Around) (outer : List Env) (s : Shared) (H : Hp) (E : XK) (W : Xw), Rm k (cxX P w K mg base N d f cdv A outer s H E).A → L2N.Takes (cxX P w K mg base N d f cdv A outer s H E) W → PSs (cxX P w K mg base N d f cdv A outer s H E) d.body (tS (K, w) W (ios io) m)) :
    FnG P w K mg base (L2N.CX P w) (k + 1) f fd ps (spX (K, w) ps.length (semX io N.length m)) := by
  obtain ⟨oc, od, dV, kV, doc, pm, an, cdv, ct, osl, rfl, l0, c0, _, _⟩ := F.ex
  exact fnG_of l0 c0 S (fun vs H Q E h => h.1) fun A outer s H vs Q E hr h => ⟨tS (K, w) (fun cls d _ H => E cls d H) (ios io) m, hb f cdv A outer s H E _ hr (L2N.takes_of rfl rfl rfl rfl), sem_runX h⟩
theorem knx_mk (W : Wo fa fn K mg) (i j : Nat) {N ps : List Str} {d : He.DefD} {k : Nat} {io : List Bool} {m : XM} {x : Str} (hd : fn[i]? = some d) (hx : d.at_ = (x, none)) (hf : fa[j]? = some (.glo x)) (pl : Plain d ps) (S : FnScope N ps d.scope)
    (hb : ∀ (f : Addr) (cdv : Value) (A : Around) (outer : List Env) (s : Shared) (H : Hp) (E : XK) (W : Xw), Rm k (cxX P w K mg base N d f cdv A outer s H E).A → L2N.Takes (cxX P w K mg base N d f cdv A outer s H E) W → PSs (cxX P w K mg base N d f cdv A outer s H E) d.body (tS (K, w) W (ios io) m)) :
    KnX P w K mg base (k + 1) x ps (spX (K, w) ps.length (semX io N.length m)) := by
  obtain ⟨h, X, G, c⟩ := W
  obtain ⟨fd, F⟩ := c.def_ i hd
  have g := He.glo_ok X G (c.fact j hf)
  have eD : d.dvs K = [] := by unfold He.DefD.dvs; rw [pl.1]; rfl
  have eA : He.fAd K d.at_ = He.ga K x := by rw [hx]; rfl
  rw [eD, eA] at F
  exact ⟨⟨_, fd, g, F.kp, F.bindsN pl.2.2, defX F S hb⟩⟩
theorem runX {X : Cx} {pins : List (Addr × Obj)} {σ : St} {H : Hp} {s : Shared} {Q : VK} {E : XK} {us : List Value} {vs : List V} {k : Nat} {f : Addr} {fd : FuncData} {ps : List Str} {sp : Sp} (F : FnG X.prog X.w X.K X.mg X.base (L2N.CX X.prog X.w) k f fd ps sp) (hr : Rm k X.A) (hb : Binds X.K fd ps []) (hx : PassesAt (L2N.CX X.prog X.w) X σ E) (I : Inv X pins σ H s) (r : Vals vs us) (h : sp vs H Q E) :
    wpAny (model X.prog X.w) X.A (call (.ref f) us) (EP X pins σ Q) X.xe s := by
  have hl : us.length = ps.length := by rw [← r.length]; exact F.len _ _ _ _ h
  have bd := hb s us I.kIn (by rw [List.append_nil]; exact hl)
  rw [List.append_nil] at bd
  refine wpAny_call (codeAny_mono (F.run X.A X.stack s H ⟨us, []⟩ us vs Q E hr I.env0 bd r h) fun res s' hq => ?_)
  cases res with
  | error e => exact hx pins H s e s' I hq
  | ok fl =>
    cases fl with
    | ret u => exact I.after hq
    | next => exact False.elim hq
    | brk => exact False.elim hq
    | cont => exact False.elim hq
/-- a raising def's call -/
theorem x_callX {X : Cx} {W : Xw} {k k' np : Nat} {x : Str} {ps : List Str} {g : GX} {io : List Bool} {ma : AM} {e : Expr} {es : List Expr} {p pos : Pos} (h : KnX X.prog X.w X.K X.mg X.base k x ps (spX X.E np g)) (tk : L2N.Takes X W) (hr : Rm k' X.A) (hk : k ≤ k') (hg : Gl X x) (ha : PA X (e :: es) (tA X.E ma)) (hio : io.length = np := by rfl)
    (hdb : (x == ("__debug__" : Str)) = false := by decide) (he : starEach (e :: es) X.env = (false, eval e X.env) :: starEach es X.env := by rfl) (hpl : (backTo pos (starEach es X.env)).any (·.1) = false := by rfl) : PE X (.Call (.Name x p) (e :: es) [] pos) (tEX X.E W (mCallX io g ma)) := by
  obtain ⟨f, fd, hm, hkp, hbi, F⟩ := h.ex
  refine ⟨fun pins s σ H Q I q => ?_⟩
  have q2 := tEX_call hio q
  refine wpAny_Call_Name_kw (ld_glob I hg hm ?_ hdb)
  refine PySem.W.callWith_K (h₀ := X.base) I.ok.mod.kin hkp (thn (ha.run pos pins s σ H _ I q2) fun us s1 ⟨vs, H1, I1, r, q3⟩ => ⟨I1.kIn, ?_⟩) he hpl
  exact runX (F.mono hk) hr hbi (L2N.passAt tk σ) I1 r q3
end
end L2.M
namespace L2.M
open PySem PySem.Spec PyProof.Rows
theorem Sep.addPx {K : Ek} {F R H : Hp} {σ : St} {ε : Cs} {T : Tms} {a : Addr} {cls : Value} {d : Option Addr} {x : Xn} (s : Sep K F R H σ ε T) (r : RepX K F cls d x) : Sep K F R H σ ε ((.ref a, .px a cls d x) :: T) := by
  obtain ⟨a1, a2, a3, fs, gs, h1, h2, n, m⟩ := s
  exact ⟨a1, a2, a3, fs, [] :: gs, h1, ⟨_, _, _, _, rfl, rfl, ⟨rfl, rfl, r⟩, h2⟩, by simpa using n, by simpa using m⟩
open Classical in
/-- the refusal's answer: slot i is the exception's name -/
noncomputable def mRefX (i : Nat) (a : Addr) (cls : Value) (d : Option Addr) (ref : Xn → Option D) : EM := fun ε => match ε[i]? with
  | some (.px a' cls' d' x) => if a' = a ∧ cls' = cls ∧ d' = d then (ref x).map fun r => (.sh r, ε) else none
  | _ => none
def mTold (io : List Nat) (i : Nat) (ref : Xn → Option D) (m : EXM) : XM := fun ε => do
  let (r, ε1) ← m ε
  match r with
  | .inl c => some (.rt c, ε1)
  | .inr x => match ε1[i]? with
    | some .no => if i ∉ io then (ref x).map fun d => (.rt (.sh d), ε1) else none
    | _ => none
section
variable {X : Cx} {W : Xw} {io : List Nat} {m : EXM} {ref : Xn → Option D}
theorem z_told (i : Nat) {n x : Str} {c : Value} {call rcall : Expr} {rp rp2 np pos pos' : Pos} (hs : X.stack = X.env :: X.outer) (hf : X.env.frame = some X.env.locals) (hN : X.N.Nodup) (hi : X.N[i]? = some n) (hln : X.env.kindOf n = some .local) (hc : Names X x c) (tk : L2N.Takes X W)
    (hcall : ∀ (W : Xw) (pn : List (Addr × Obj)) (xe : Value → Shared → Prop), L2N.Takes (X.tr pn xe) W → PE (X.tr pn xe) call (tEX X.E W m))
    (hk : ∀ (F : Hp) cls d y r, RepX X.E F cls d y → ref y = some r → PySem.W.exmOne X.K cls c = some true)
    (hR : ∀ (a : Addr) (oe : Obj) (cls : Value) (d : Option Addr) (pn : List (Addr × Obj)), L2N.Zn cls d oe → (∃ vs, oe.data = .fields vs) → PE (X.suite a ((a, oe) :: pn)) rcall (tE X.E (mRefX i a cls d ref))) :
    PS X (.Try [.Return (some call) rp] [.ExceptHandler (some (.Name x np)) (some n) [.Return (some rcall) rp2] pos'] [] [] pos) (tS X.E W io (mTold io i ref m)) := by
  refine (L2N.ps_try_as (tb := fun W => tS X.E W io (xRet m)) (ts := fun a cls d => tRet (tE X.E (mRefX i a cls d ref))) hs hf hN hi hln hc tk (fun W pn xe t _ => ?_) (fun a oe cls d pn z hd => ?_)).weak fun De σ H h => ?_
  · exact pss_one (z_xret (hcall W pn xe t))
  · exact pss_one (ps_ret (hR a oe cls d pn z hd))
  · obtain ⟨F, R, ε, f, ε', s, e, q⟩ := h
    unfold mTold at e
    cases e1 : m ε with
    | none => simp [e1] at e
    | some p =>
      obtain ⟨r, ε1⟩ := p
      cases r with
      | inl c =>
        simp [e1] at e
        obtain ⟨rfl, rfl⟩ := e
        exact ⟨F, R, ε, .rt c, ε1, s, by simp [xRet, e1], q⟩
      | inr y =>
        simp only [e1, Option.bind_eq_bind, Option.bind_some] at e
        split at e
        · rename_i hno
          split at e
          · rename_i hio
            cases e2 : ref y with
            | none => simp [e2] at e
            | some d =>
              simp only [e2, Option.map_some, Option.some.injEq, Prod.mk.injEq] at e
              obtain ⟨rfl, rfl⟩ := e
              have hl := (List.getElem?_eq_some_iff.mp hno).1
              refine ⟨F, R, ε, .xc y, ε1, s, by simp [xRet, e1], fun F' H' σ' fm st cls dd s' rx => ⟨true, hk F' cls dd y d rx e2, fun _ a ha => ?_, fun z => nomatch z⟩⟩
              refine ⟨F', R, _, .sh d, ε1.set i (.px a cls dd y), (s'.addPx (a := a) rx).store i, (by simp only [mRefX, List.getElem?_set_self hl]; simp [e2]), fun v F2 H2 fm2 s2 => ?_⟩
              have s3 := s2.dropAt i
              have e5 : ε1.set i .no = ε1 := by
                obtain ⟨_, he⟩ := List.getElem?_eq_some_iff.mp hno
                rw [← he]
                exact List.set_getElem_self hl
              rw [List.set_set, e5] at s3
              exact q F2 H2 _ (fm.trans fm2) (st.trans (StS.set hio)) v s3
          · cases e
        · cases e
end
end L2.M
namespace L2.M
open PySem PySem.Spec PyProof.Rows
abbrev Ck := PySem.W.Frag → Bool
def excB (x : Str) : Ck := fun K => decide (PySem.W.findIn K (.ref (He.ga K x)) "__getattribute__" = some (some (.builtin "BaseException.__getattribute__"))) && (decide (PySem.W.findIn K (.ref (He.ga K x)) "__getattr__" = some none) && (decide (PySem.W.subIn K (.ref (He.ga K x)) (.type "BaseException") = some true) &&
  (PySem.W.hasDictIn K (He.ga K x) && (decide (PySem.W.findIn K (.ref (He.ga K x)) "__class__" = some (some (.builtin "object.__class__"))) && (decide (PySem.W.specialIn K (.builtin "object.__class__") "__get__" = some (some (.builtin "getset_descriptor.__get__"))) &&
  (decide (PySem.W.takesIn K (.builtin "object.__class__") = some true) && decide (PySem.W.mroIn K (He.ga K x) (.type "object") = some true)))))))
theorem excB_ok {K : PySem.W.Frag} {x : Str} (h : excB x K = true) : ExcC K (He.ga K x) := by
  obtain ⟨h1, h⟩ := Bool.and_eq_true_iff.mp h
  obtain ⟨h2, h⟩ := Bool.and_eq_true_iff.mp h
  obtain ⟨h3, h⟩ := Bool.and_eq_true_iff.mp h
  obtain ⟨h4, h⟩ := Bool.and_eq_true_iff.mp h
  obtain ⟨h5, h⟩ := Bool.and_eq_true_iff.mp h
  obtain ⟨h6, h⟩ := Bool.and_eq_true_iff.mp h
  obtain ⟨h7, h8⟩ := Bool.and_eq_true_iff.mp h
  exact ⟨of_decide_eq_true h1, of_decide_eq_true h2, of_decide_eq_true h3, h4, of_decide_eq_true h5, of_decide_eq_true h6, of_decide_eq_true h7, of_decide_eq_true h8⟩
/-- isinstance of an x, asked of the class y of the module -/
def kitB (x y : Str) (b : Bool) : Ck := fun K => decide (PySem.W.kitOne K (.ref (He.ga K x)) (.ref (He.ga K y)) = some b)
/-- .. of built-in types -/
def kitTB (x : Str) (ts : List String) (b : Bool) : Ck := fun K => decide (PySem.W.kitAny K (.ref (He.ga K x)) (ts.map Value.type) = some b)
def exmB (x y : Str) (b : Bool) : Ck := fun K => decide (PySem.W.exmOne K (.ref (He.ga K x)) (.ref (He.ga K y)) = some b)
end L2.M
namespace L2.M
open PySem PySem.Spec PyProof.Rows PySem.Calls
open PySem.W (findIn specialIn subIn hasDictIn takesIn mroIn clsIn findObj looks_findIn looks_find looks_subIn any_some class_get KitX kitOne kitAny kia_one kia_tup)
section
variable {K : PySem.W.Frag} {D x : Addr} {ox : Obj} {od : Option Obj}
theorem obj_data {C : Addr} {name : Str} {a g : Value} (hc : (clsIn K C).isSome = true) (ha : findIn K (.ref C) name = some (some a)) (hg : specialIn K a "__get__" = some (some g)) (ht : takesIn K a = some true) : findObj K C od name = some (.bind g a) := by
  obtain ⟨cd, hc⟩ := Option.isSome_iff_exists.mp hc
  simp [findObj, hc, ha, hg, ht]
/-- the class of an exception, whatever its own dict holds -/
theorem kin_cls {prog : Program} {w : World} {A : Around} {E : Value → Shared → Prop} {s : Shared} {Q : Option Value → Shared → Prop} (C : ExcC K D) (X : K.In s.heap) (I : PySem.W.InstAt s.heap x ox D od) (h : Q (some (.ref D)) { s with toks := s.toks + 1 }) :
    wpAny (model prog w) A (getAttr? (.ref x) "__class__") Q E s := by
  have hcl : (clsIn K D).isSome = true := by
    obtain ⟨cd, hc, _⟩ := any_some C.hd
    rw [hc]
    rfl
  have hf : findObj K D od "__class__" = some (.bind (.builtin "getset_descriptor.__get__") (.builtin "object.__class__")) := obj_data hcl C.ha C.hn C.ht
  obtain ⟨hp, g, d, t, os⟩ := s
  have L0 := I.type (M := model prog w)
  have L1 := looks_findIn (M := model prog w) X C.hg
  have L2 := looks_findIn (M := model prog w) X C.hk
  have L3 := looks_find (M := model prog w) X I hf
  have sub : PySem.W.Looks (model prog w) hp (isInstance (.ref x) (.type "BaseException")) true := L0.andThen (looks_subIn X C.hs)
  have z1 : (Value.builtin "BaseException.__getattribute__" == Value.builtin "object.__getattribute__") = false := by decide +kernel
  have z2 : (onTheHeap (Value.ref D) && Value.builtin "BaseException.__getattribute__" == Value.builtin "object.__getattribute__") = false := by rw [z1]; rfl
  unfold getAttr? getAttrBy? getAttrBy
  refine wpAny_bind (wpAny_mkText (wpAny_bind (wpAny_attempt (wpAny_holding (wpAny_bind (L0.at (wpAny_bind (L1.at ?_))))))))
  show wpAny _ _ (if (onTheHeap (Value.ref D) && Value.builtin "BaseException.__getattribute__" == Value.builtin "object.__getattribute__") = true then _ else _) _ _ _
  rw [z2, if_neg Bool.false_ne_true]
  unfold getAttrByItsOwn hookBefore
  refine wpAny_bind ?_
  rw [if_pos (show onTheHeap (Value.ref D) = true from rfl)]
  refine L2.at ?_
  refine wpAny_bind (wpAny_attempt (wpAny_holding ?_))
  unfold callGetattribute
  rw [show (false && onTheHeap (Value.builtin "BaseException.__getattribute__")) = false from rfl, if_neg Bool.false_ne_true]
  unfold boundAndCalled
  rw [PySem.F.excAttr_ValueError.ga.bind (.ref x)]
  refine wpAny_bind (wpAny_pure ?_)
  show wpAny _ _ (call (.builtin "BaseException.__getattribute__") [.ref x, .str "__class__" t]) _ _ _
  refine wpAny_call (codeAny_call_builtin PySem.F.excAttr_ValueError.ga.plain PySem.F.entry_bexc_ga ?_)
  refine @PySem.W.check_slot (model prog w) _ _ ⟨hp, g, d, t + 1, os⟩ "BaseException.__getattribute__" "BaseException" "__getattribute__" (.ref x) [.str "__class__" t] [] _ (by decide +kernel) (by decide +kernel) sub (PySem.F.args_bexc_ga (.ref x) (.str "__class__" t)) ?_
  unfold Builtin.«object.__getattribute__»
  refine wpAny_bind (wpAny_of_eq (a := ((Value.ref x : Value), [Value.str "__class__" t])) (by first | rfl | (simp only [slotArgs]; rfl)) ?_)
  refine wpAny_bind (wpAny_pure (wpAny_bind (L0.at (wpAny_bind (L3.at ?_)))))
  show wpAny _ _ (holding [Value.builtin "object.__class__"] (call (.builtin "getset_descriptor.__get__") [.builtin "object.__class__", .ref x, .ref D]) >>= ret) _ _ _
  refine wpAny_bind (wpAny_holding (wpAny_call (class_get (s := ⟨hp, g, d, t + 1, os⟩) (ox := ox) (od := od) X I C.hm ?_)))
  refine wpAny_pure ?_
  show wpAny _ _ (handedOut (.ref D)) _ _ _
  rw [PySem.W.handedOut_of (v := .ref D) rfl]
  first
    | exact wpAny_pure (wpAny_pure h)
    | exact wpAny_pure h
    | exact wpAny_pure (wpAny_bind (wpAny_pure (wpAny_pure h)))
theorem kitx_exc (C : ExcC K D) : KitX K (.ref x) (.ref D) (fun h => PySem.W.InstAt h x ox D od) where
  ty := fun _ _ _ I => I.type
  it := fun _ _ X _ => by
    obtain ⟨cdD, hcD, _⟩ := any_some C.hd
    unfold clsIn at hcD
    split at hcD
    · rename_i c' d' cd' sl' ho
      intro A' Q' E' s' k q
      unfold isType loadHead
      exact wpAny_bind (wpAny_loadPart (k _ _ (X _ _ ho)) (wpAny_pure q))
    · cases hcD
  ne := fun h tp dd its n sl X htp => by
    obtain ⟨cdD, hcD, _⟩ := any_some C.hd
    refine Bool.eq_false_iff.mpr fun q => ?_
    have e : D = tp := Value.ref.inj (beq_iff_eq.mp q)
    subst e
    unfold clsIn at hcD
    split at hcD
    · rename_i c' d' cd' sl' ho
      have z := (X _ _ ho).symm.trans htp
      cases z
    · cases hcD
  ca := fun X I k => kin_cls C X I k
end
end L2.M
namespace L2.M
open PySem PySem.Spec PyProof.Rows
def XdAt (H : Hp) (d : Option Addr) : Prop := d = none ∨ ∃ dd fs, d = some dd ∧ H dd = some (.xd fs)
theorem RepX.at_ {K : Ek} {F H : Hp} {cls : Value} {d : Option Addr} {x : Xn} (s : Same F H) (h : RepX K F cls d x) : XdAt H d := by
  obtain ⟨_, ⟨_, h2⟩ | ⟨dx, fs, h2, h3, _⟩⟩ := h
  · exact .inl h2
  · exact .inr ⟨dx, fs, h2, s _ _ h3⟩
/-- the context bears the exception a of the class cls, its dict d -/
structure PinX (X : Cx) (a : Addr) (cls : Value) (d : Option Addr) : Prop where
  ex : ∃ oe, (a, oe) ∈ X.pn ∧ Zc cls d oe ∧ ∃ vs, oe.data = .fields vs
section
variable {X : Cx} {a D : Addr} {d : Option Addr}
theorem kit_pin {pins : List (Addr × Obj)} {σ : St} {H : Hp} {s : Shared} (p : PinX X a (.ref D) d) (C : ExcC X.K D) (I : Inv X pins σ H s) (hd : XdAt H d) : ∃ P, PySem.W.KitX X.K (.ref a) (.ref D) P ∧ P s.heap := by
  obtain ⟨oe, hp, hz, vs, hv⟩ := p.ex
  obtain ⟨hget, _⟩ := I.pin (a, oe) (List.mem_append_left _ hp)
  rcases hd with rfl | ⟨dd, fs, rfl, hx⟩
  · refine ⟨_, kitx_exc (x := a) (ox := oe) (od := none) C, hget, hz.1, by unfold PySem.W.notCls; rw [hv] <;> rfl, by rw [hz.2]; exact trivial⟩
  · have hx : ObjOk X.prog X.w H s.heap dd (.xd fs) := I.hok dd _ hx
    obtain ⟨mA, hns, _⟩ := hx
    obtain ⟨od, ho, _⟩ := L2.lookIn_ns hns
    exact ⟨_, kitx_exc (x := a) (ox := oe) (od := some od) C, hget, hz.1, by unfold PySem.W.notCls; rw [hv] <;> rfl, by rw [hz.2]; exact ho⟩
def rIsG (K : PySem.W.Frag) (D a : Addr) (d : Option Addr) : List V → Hp → VK → Prop := fun xs H Q => ∃ (c : V) (u : Value) (b : Bool), xs = [.ref a, c] ∧ ClsV c u ∧ XdAt H d ∧ PySem.W.kitOne K (.ref D) u = some b ∧ Q (.bl b) H
def rIsGT (K : PySem.W.Frag) (D a : Addr) (d : Option Addr) : List V → Hp → VK → Prop := fun xs H Q => ∃ (tp : Addr) (cs : List V) (us : List Value) (b : Bool), xs = [.ref a, .ref tp] ∧ H tp = some (.tup cs) ∧ Paired ClsV cs us ∧ XdAt H d ∧ PySem.W.kitAny K (.ref D) us = some b ∧ Q (.bl b) H
theorem call_isG (p : PinX X a (.ref D) d) (C : ExcC X.K D) : CallR X (.builtin "isinstance") (rIsG X.K D a d) := by
  intro pins s σ H xs us Q I r h
  obtain ⟨c, u, b, rfl, k, hd, e, q⟩ := h
  obtain ⟨u1, u2, rfl, r1, r2⟩ := vals2 r
  have e2 := k.eq r2
  subst e2
  cases (show u1 = Value.ref a from r1)
  obtain ⟨P, Z, pp⟩ := kit_pin p C I hd
  exact PySem.W.kia_one Z I.kIn pp e (fun z => nomatch z) fun tk => ⟨.bl b, H, I.tok tk, rfl, q⟩
theorem call_isGT (p : PinX X a (.ref D) d) (C : ExcC X.K D) : CallR X (.builtin "isinstance") (rIsGT X.K D a d) := by
  intro pins s σ H xs us Q I r h
  obtain ⟨tp, cs, ws, b, rfl, hT, k, hd, e, q⟩ := h
  obtain ⟨u1, u2, rfl, r1, r2⟩ := vals2 r
  cases (show u1 = Value.ref a from r1)
  cases (show u2 = Value.ref tp from r2)
  obtain ⟨P, Z, pp⟩ := kit_pin p C I hd
  obtain ⟨_, its, rv, o, h1, h2, n, h3⟩ := (show ObjOk X.prog X.w H s.heap tp (.tup cs) from I.hok tp _ hT)
  have e3 := ClsV.all k rv
  subst e3
  obtain ⟨oc, od, dt, sl⟩ := o
  simp only at h2 h3
  subst h2 h3
  exact PySem.W.kia_tup Z I.kIn pp h1 e (fun z => nomatch z) fun tk => ⟨.bl b, H, I.tok tk, rfl, q⟩
end
end L2.M
namespace L2.M
open PySem PySem.Spec PyProof.Rows
open Classical in
noncomputable def mIsX (i : Nat) (a : Addr) (cls : Value) (d : Option Addr) (f : Xn → Option Bool) : EM := fun ε => match ε[i]? with
  | some (.px a' cls' d' x) => if a' = a ∧ cls' = cls ∧ d' = d then (f x).map fun b => (.sh (.bool b), ε) else none
  | _ => none
/-- what isinstance tells of the exceptions that f knows, asked of the class u -/
def IsT (K : PySem.W.Frag) (f : Xn → Option Bool) (u : Value) : Prop := ∀ x b, f x = some b → ExcC K (He.ga K x.cls) ∧ PySem.W.kitOne K (.ref (He.ga K x.cls)) u = some b
def IsTs (K : PySem.W.Frag) (f : Xn → Option Bool) (us : List Value) : Prop := ∀ x b, f x = some b → ExcC K (He.ga K x.cls) ∧ PySem.W.kitAny K (.ref (He.ga K x.cls)) us = some b
def rIsU (K : PySem.W.Frag) (a : Addr) (cls : Value) (d : Option Addr) : List V → Hp → VK → Prop := fun xs H Q => ∃ D, cls = .ref D ∧ ExcC K D ∧ (rIsG K D a d xs H Q ∨ rIsGT K D a d xs H Q)
section
variable {X : Cx} {a : Addr} {cls : Value} {d : Option Addr}
theorem call_isU (p : PinX X a cls d) : CallR X (.builtin "isinstance") (rIsU X.K a cls d) := by
  intro pins s σ H xs us Q I r h
  obtain ⟨D, rfl, C, h | h⟩ := h
  · exact call_isG p C _ _ _ _ _ _ _ I r h
  · exact call_isGT p C _ _ _ _ _ _ _ I r h
theorem Sep.pxAt {K : Ek} {F R H : Hp} {σ : St} {ε : Cs} {T : Tms} {i : Nat} {x : Xn} (s : Sep K F R H σ ε T) (h : ε[i]? = some (.px a cls d x)) : σ[i]? = some (some (.ref a)) ∧ RepX K F cls d x := by
  obtain ⟨o, f, e1, _, rfl, r⟩ := s.cell h
  exact ⟨e1, r⟩
theorem x_isX (i : Nat) {f : Xn → Option Bool} {e y : Str} {v : V} {u : Value} {ep yp p pos : Pos} (pn : PinX X a cls d) (hm : X.mg "isinstance" = none) (hg : Gl X "isinstance") (hv : PE X (.Name e ep) (tVar i)) (hy : PE X (.Name y yp) (tC v)) (hc : ClsV v u) (ht : IsT X.K f u)
    (hs : starEach [.Name e ep, .Name y yp] X.env = (false, eval (.Name e ep) X.env) :: starEach [.Name y yp] X.env := by rfl) (hs2 : starEach [.Name y yp] X.env = [(false, eval (.Name y yp) X.env)] := by rfl) (hpl : (backTo pos (starEach [.Name y yp] X.env)).any (·.1) = false := by rfl) :
    PE X (.Call (.Name "isinstance" p) [.Name e ep, .Name y yp] [] pos) (tE X.E (mIsX i a cls d f)) :=
  (pe_callB (call_isU pn) hg hm boot_isinstance (pa_cons hv (pa_cons hy pa_nil hs2) hs) (by decide) (by decide) hs hpl).weak fun σ H Q h => by
    obtain ⟨F, R, ε, c, ε', s, e, q⟩ := h
    unfold mIsX at e
    split at e
    · rename_i a' cls' d' x hx
      split at e
      · rename_i hh
        obtain ⟨rfl, rfl, rfl⟩ := hh
        cases e1 : f x with
        | none => simp [e1] at e
        | some b =>
          simp only [e1, Option.map_some, Option.some.injEq, Prod.mk.injEq] at e
          obtain ⟨rfl, rfl⟩ := e
          obtain ⟨g1, g2⟩ := s.pxAt hx
          obtain ⟨C, k⟩ := ht x b e1
          exact ⟨_, g1, _, g2.1, C, .inl ⟨v, u, b, rfl, hc, g2.at_ s.sub, k, g_bool s.sub fun w F2 H2 g => q w F2 H2 g.fm (s.res g)⟩⟩
      · cases e
    · cases e
theorem x_isXT (i : Nat) {f : Xn → Option Bool} {e : Str} {te : Expr} {cs : List V} {us : List Value} {ep p pos : Pos} (pn : PinX X a cls d) (hm : X.mg "isinstance" = none) (hg : Gl X "isinstance") (hv : PE X (.Name e ep) (tVar i))
    (hT : PE X te fun σ H Q => ∀ p, H p = none → Q (.ref p) (upd H p (.tup cs))) (hc : Paired ClsV cs us) (ht : IsTs X.K f us)
    (hs : starEach [.Name e ep, te] X.env = (false, eval (.Name e ep) X.env) :: starEach [te] X.env := by rfl) (hs2 : starEach [te] X.env = [(false, eval te X.env)] := by rfl) (hpl : (backTo pos (starEach [te] X.env)).any (·.1) = false := by rfl) :
    PE X (.Call (.Name "isinstance" p) [.Name e ep, te] [] pos) (tE X.E (mIsX i a cls d f)) :=
  (pe_callB (call_isU pn) hg hm boot_isinstance (pa_cons hv (pa_cons hT pa_nil hs2) hs) (by decide) (by decide) hs hpl).weak fun σ H Q h => by
    obtain ⟨F, R, ε, c, ε', s, e, q⟩ := h
    unfold mIsX at e
    split at e
    · rename_i a' cls' d' x hx
      split at e
      · rename_i hh
        obtain ⟨rfl, rfl, rfl⟩ := hh
        cases e1 : f x with
        | none => simp [e1] at e
        | some b =>
          simp only [e1, Option.map_some, Option.some.injEq, Prod.mk.injEq] at e
          obtain ⟨rfl, rfl⟩ := e
          obtain ⟨g1, g2⟩ := s.pxAt hx
          obtain ⟨C, k⟩ := ht x b e1
          refine ⟨_, g1, fun p hp => ?_⟩
          have g := Grw.laid (u := .tup cs) s.sub hp
          have s2 := s.grow g
          exact ⟨_, g2.1, C, .inr ⟨p, cs, us, b, rfl, by simp [upd], hc, (g2.mono g.fm).at_ s2.sub, k, g_bool s2.sub fun w F2 H2 g' => q w F2 H2 (g.fm.trans g'.fm) (s2.res g')⟩⟩
      · cases e
    · cases e
end
end L2.M
namespace L2.M
open PySem PySem.Spec PyProof.Rows
theorem xas_lookup {K : PySem.W.Frag} {F : Hp} {n : Str} {dv : D} : ∀ {as : List (Str × D)} {fs : List (Str × V)}, fs.map (·.1) = as.map (·.1) → Reps K F (fs.map (·.2)) (as.map (·.2)) → as.lookup n = some dv → ∃ v, fs.lookup n = some v ∧ Rep K F v dv
  | [], fs, _, _, h => by cases h
  | (k, e) :: as, [], h1, _, _ => by cases h1
  | (k, e) :: as, (k', w) :: fs, h1, h2, h => by
    simp only [List.map_cons, List.cons.injEq] at h1
    obtain ⟨rfl, h1⟩ := h1
    obtain ⟨v, r, e1, e2, e3⟩ := h2
    simp only [List.map_cons, List.cons.injEq] at e1
    obtain ⟨rfl, rfl⟩ := e1
    simp only [List.lookup] at h ⊢
    split at h
    · cases h
      exact ⟨_, rfl, e2⟩
    · exact xas_lookup h1 e3 h
section
variable {X : Cx} {a : Addr} {cls : Value} {d : Option Addr}
def tXfU (K : PySem.W.Frag) (a : Addr) (cls : Value) (d : Option Addr) (n : Str) (te : TE) : TE := fun σ H Q => te σ H fun y H1 => y = .ref a ∧ ∃ C, cls = .ref C ∧ XfC K C ∧ PySem.W.findIn K (.ref C) n = some none ∧ ∃ dd fs v, d = some dd ∧ H1 dd = some (.xd fs) ∧ fs.lookup n = some v ∧ Q v H1
theorem pe_xfU {e : Expr} {te : TE} {pos : Pos} {n : Str} (pn : PinX X a cls d) (he : PE X e te) (hb : attributeBase e n X.env (eval e X.env) = eval e X.env := by rfl) : PE X (.Attribute e n pos) (tXfU X.K a cls d n te) := by
  refine ⟨fun pins s σ H Q I h => ?_⟩
  refine attr_of hb (thn (he.run pins s σ H _ I h) fun u s1 hh => ?_)
  obtain ⟨x, H1, I1, rx, ex, C, ec, T, hno, dd, fs, v, ed, ea, l, q⟩ := hh
  subst ex
  obtain rfl : u = Value.ref a := rx
  subst ec
  subst ed
  obtain ⟨oe, hp, hz, vs, hd⟩ := pn.ex
  obtain ⟨ha, _⟩ := I1.pin (a, oe) (List.mem_append_left _ hp)
  have hx : ObjOk X.prog X.w H1 s1.heap dd (.xd fs) := I1.hok dd _ ea
  obtain ⟨mA, hns, hr⟩ := hx
  obtain ⟨od, ho, hl⟩ := L2.lookIn_ns hns
  obtain ⟨u, hu, ru⟩ := RelO.some_of (v := v) (o := mA n) (by rw [← l]; exact hr n)
  have J : PySem.W.InstAt s1.heap a oe C (some od) := ⟨ha, hz.1, by unfold PySem.W.notCls; rw [hd] <;> rfl, by rw [hz.2]; exact ho⟩
  exact HandSPX.exc_get I1.kIn J T.ga T.gg T.exC (PySem.W.findObj_own T.hdC hno rfl (by rw [hl, hu])) (handed_of ru) ⟨v, H1, I1.tok _, ru, q⟩
open Classical in
noncomputable def mFldX (i : Nat) (a : Addr) (cls : Value) (d : Option Addr) (n : Str) (ok : Xn → Bool) : EM := fun ε => match ε[i]? with
  | some (.px a' cls' d' x) => if a' = a ∧ cls' = cls ∧ d' = d ∧ ok x = true then (x.as.lookup n).map fun v => (.sh v, ε) else none
  | _ => none
theorem x_fldX (i : Nat) {ok : Xn → Bool} {e n : Str} {ep pos : Pos} (pn : PinX X a cls d) (hv : PE X (.Name e ep) (tVar i)) (ht : ∀ x, ok x = true → XfC X.K (He.ga X.K x.cls) ∧ PySem.W.findIn X.K (.ref (He.ga X.K x.cls)) n = some none)
    (hb : attributeBase (.Name e ep) n X.env (eval (.Name e ep) X.env) = eval (.Name e ep) X.env := by rfl) : PE X (.Attribute (.Name e ep) n pos) (tE X.E (mFldX i a cls d n ok)) :=
  (pe_xfU pn hv hb).weak fun σ H Q h => by
    obtain ⟨F, R, ε, c, ε', s, e, q⟩ := h
    unfold mFldX at e
    split at e
    · rename_i a' cls' d' x hx
      split at e
      · rename_i hh
        obtain ⟨rfl, rfl, rfl, ho⟩ := hh
        cases e1 : x.as.lookup n with
        | none => simp [e1] at e
        | some dv =>
          simp only [e1, Option.map_some, Option.some.injEq, Prod.mk.injEq] at e
          obtain ⟨rfl, rfl⟩ := e
          obtain ⟨g1, g2⟩ := s.pxAt hx
          obtain ⟨T, hno⟩ := ht x ho
          obtain ⟨g3, ⟨h1, _⟩ | ⟨dd, fs, h1, h2, h3, h4⟩⟩ := g2
          · rw [h1] at e1; cases e1
          · obtain ⟨v, l, r⟩ := xas_lookup h3 h4 e1
            exact ⟨_, g1, rfl, _, g3, T, hno, dd, fs, v, h1, s.sub _ _ h2, l, q v F H (Same.refl F) (s.addSh r)⟩
      · cases e
    · cases e
end
end L2.M
namespace L2.M
open PySem PySem.Spec PyProof.Rows
abbrev RGM := Addr → Value → Option Addr → GM
abbrev cxR (P : Program) (w : World) (K : PySem.W.Frag) (mg : Str → Option Value) (base : Heap) (N : List Str) (d : He.DefD) (f : Addr) (cdv : Value) (A : Around) (outer : List Env) (s : Shared) (H : Hp) (p : Addr × Obj) : Cx := (L2H.cxH CX0 P w K mg base N d.qual d.scope f cdv A outer s H E0 p).nox
structure FnR (P : Program) (w : World) (K : PySem.W.Frag) (mg : Str → Option Value) (base : Heap) (k : Nat) (f : Addr) (fd : FuncData) (ps : List Str) (g : RGM) : Prop where
  one : ps.length = 1
  run : ∀ (A : Around) (outer : List Env) (s : Shared) (H : Hp) (args : Args) (Q : VK) (p : Addr × Obj) (cls : Value) (d : Option Addr), L2H.RoomH k A → L2H.Hot1 A p → Zc cls d p.2 → L2H.PinOk outer H s p → Env0 P w K mg base A outer s H →
    BindsTo s fd args (ps.zip [.ref p.1]) → spOf (K, w) 1 (g p.1 cls d) [.ref p.1] H Q E0 → codeAny (model P w) A (.call (.ref f) args) (CR CX0 outer P w H s Q E0) s
section
variable {P : Program} {w : World} {K : PySem.W.Frag} {mg : Str → Option Value} {base : Heap}
theorem defR {N ps : List Str} {d : He.DefD} {k : Nat} {m : Addr → Value → Option Addr → XM} {f : Addr} {fd : FuncData} {dvs : List V} {kws : List (Str × V)} (F : FunD K d.name d.qual d.params d.body d.scope dvs kws f fd) (S : FnScope N ps d.scope) (h1 : ps.length = 1)
    (hb : ∀ (f : Addr) (cdv : Value) (A : Around) (outer : List Env) (s : Shared) (H : Hp) (p : Addr × Obj) (cls : Value) (dd : Option Addr), L2H.RoomH k (cxR P w K mg base N d f cdv A outer s H p).A → PinX (cxR P w K mg base N d f cdv A outer s H p) p.1 cls dd →
      PSs (cxR P w K mg base N d f cdv A outer s H p) d.body (tS (K, w) W0 (ios [true]) (m p.1 cls dd))) :
    FnR P w K mg base (k + 1) f fd ps (fun a cls dd => semF [true] N.length (m a cls dd)) := by
  obtain ⟨oc, od, dV, kV, doc, pm, an, cdv, ct, osl, rfl, l0, c0, _, _⟩ := F.ex
  refine ⟨h1, fun A outer s H args Q p cls dd room hot zc pin env0 bd h0 => ?_⟩
  have inK : K.In s.heap := env0.mod.kin.keeps fun b o z => (env0.bs b o z).1
  have nl : s.heap.NoLimit := env0.mod.nolimit.keeps fun b o z => (env0.bs b o z).1
  have vr : Vals [V.ref p.1] [Value.ref p.1] := .cons rfl .nil
  have kinds : ∀ y ∈ ps.zip [Value.ref p.1], d.scope.names.lookup y.1 = some .local ∨ (d.scope.names.lookup y.1 = some .cell ∧ ((cellsFrom (s.heap.objs.size + 1) d.scope.names []).lookup y.1).isSome = true) := by
    rintro ⟨n, v⟩ hy
    have hn := S.par n (List.of_mem_zip hy).1
    rcases hn with z | z
    · exact .inl z
    · exact .inr ⟨z, PySem.W.cellsFrom_some _ _ _ (.inl z)⟩
  refine codeAny_call_function room.depth (inK _ _ l0) rfl S.co S.gen rfl (PySem.W.codeRec_of inK c0) (bd _ _ _ _ ?_)
  refine wpAny_newFunctionEnv_cells S.kind kinds fun env ee s2 x2 => ?_
  subst ee
  refine ⟨nl.keeps x2.toInCall.keep, codeAny_func ?_⟩
  have px : PinX (cxR P w K mg base N d f cdv A outer s H p) p.1 cls dd := ⟨p.2, by simp [L2H.cxH], zc, let ⟨vs, e, _⟩ := hot.2; ⟨vs, e⟩⟩
  have J : Inv (L2H.cxH CX0 P w K mg base N d.qual d.scope f cdv A outer s H E0 p) [] (start N [.ref p.1]) H s2 := L2H.inv_startH S pin env0 (by rw [h1]; rfl) vr x2
  refine wpAny_mono ((PSs.nox (hb f cdv A outer s H p cls dd (room.deeper _) px)).run [] s2 (start N [.ref p.1]) H _ J (sem_run h0)) (fun fl s' z => ?_) fun e s' z => z
  cases fl with
  | ret u =>
    obtain ⟨v, σ', H', I, r, q⟩ := z
    exact ⟨v, H', I.os, I.bare, I.base, I.hok, r, q⟩
  | next =>
    obtain ⟨σ', H', I, q⟩ := z
    exact ⟨.non, H', I.os, I.bare, I.base, I.hok, rfl, q⟩
  | brk =>
    obtain ⟨_, _, _, q⟩ := z
    exact q.elim
  | cont =>
    obtain ⟨_, _, _, q⟩ := z
    exact q.elim
end
structure KnR (P : Program) (w : World) (K : PySem.W.Frag) (mg : Str → Option Value) (base : Heap) (k : Nat) (x : Str) (ps : List Str) (g : RGM) : Prop where
  ex : ∃ (f : Addr) (fd : FuncData), mg x = some (.ref f) ∧ PySem.W.keepIn K (.ref f) = true ∧ Binds K fd ps [] ∧ FnR P w K mg base k f fd ps g
section
variable {fa : List He.Fa} {fn : List He.DefD} {K : PySem.W.Frag} {mg : Str → Option Value} {P : Program} {w : World} {base : Heap}
theorem knr_mk (W : Wo fa fn K mg) (i j : Nat) {N ps : List Str} {d : He.DefD} {k : Nat} {m : Addr → Value → Option Addr → XM} {x : Str} (hd : fn[i]? = some d) (hx : d.at_ = (x, none)) (hf : fa[j]? = some (.glo x)) (pl : Plain d ps) (S : FnScope N ps d.scope) (h1 : ps.length = 1)
    (hb : ∀ (f : Addr) (cdv : Value) (A : Around) (outer : List Env) (s : Shared) (H : Hp) (p : Addr × Obj) (cls : Value) (dd : Option Addr), L2H.RoomH k (cxR P w K mg base N d f cdv A outer s H p).A → PinX (cxR P w K mg base N d f cdv A outer s H p) p.1 cls dd →
      PSs (cxR P w K mg base N d f cdv A outer s H p) d.body (tS (K, w) W0 (ios [true]) (m p.1 cls dd))) :
    KnR P w K mg base (k + 1) x ps (fun a cls dd => semF [true] N.length (m a cls dd)) := by
  obtain ⟨h, X, G, c⟩ := W
  obtain ⟨fd, F⟩ := c.def_ i hd
  have g := He.glo_ok X G (c.fact j hf)
  have eD : d.dvs K = [] := by unfold He.DefD.dvs; rw [pl.1]; rfl
  have eA : He.fAd K d.at_ = He.ga K x := by rw [hx]; rfl
  rw [eD, eA] at F
  exact ⟨⟨_, fd, g, F.kp, F.bindsN pl.2.2, defR F S h1 hb⟩⟩
end
section
variable {X : Cx}
/-- f(e) in the suite, e the exception that was caught -/
theorem x_callR {a : Addr} {oe : Obj} {cls : Value} {d : Option Addr} {pn : List (Addr × Obj)} {k k' : Nat} {x y : Str} {ps : List Str} {g : RGM} {ref : Xn → Option D} (i : Nat) {yp p pos : Pos} (h : KnR X.prog X.w X.K X.mg X.base k x ps g) (hr : Room k' X.A) (hk : k ≤ k')
    (hg : Gl (X.suite a ((a, oe) :: pn)) x) (hz : L2N.Zn cls d oe) (hf : ∃ vs, oe.data = .fields vs) (hv : PE (X.suite a ((a, oe) :: pn)) (.Name y yp) (tVar i))
    (hG : ∀ (xn : Xn) (r : D), ref xn = some r → g a cls d [.px a cls d xn] = some (.sh r, [.px a cls d xn]))
    (hdb : (x == ("__debug__" : Str)) = false := by decide) (he : starEach [.Name y yp] X.env = [(false, eval (.Name y yp) X.env)] := by rfl) :
    PE (X.suite a ((a, oe) :: pn)) (.Call (.Name x p) [.Name y yp] [] pos) (tE X.E (mRefX i a cls d ref)) := by
  obtain ⟨f, fd, hm, hkp, hbi, F⟩ := h.ex
  refine ⟨fun pins s σ H Q I q => ?_⟩
  obtain ⟨F0, R, ε, c, ε', sep, e, q⟩ := q
  unfold mRefX at e
  split at e
  · rename_i a' cls' d' xn hx
    split at e
    · rename_i hh
      obtain ⟨rfl, rfl, rfl⟩ := hh
      cases e1 : ref xn with
      | none => simp [e1] at e
      | some rr =>
        simp only [e1, Option.map_some, Option.some.injEq, Prod.mk.injEq] at e
        obtain ⟨rfl, rfl⟩ := e
        obtain ⟨g1, g2⟩ := sep.pxAt hx
        have hgx := hG xn rr e1
        refine wpAny_Call_Name_kw (ld_glob I hg hm ?_ hdb)
        refine PySem.W.callWith_K (h₀ := X.base) I.ok.mod.kin hkp (thn ((pa_cons hv pa_nil he).run pos pins s σ H (fun vs H1 => vs = [.ref a'] ∧ H1 = H) I ⟨_, g1, rfl, rfl⟩) fun us s1 ⟨vs, H1, I1, r, ev, eH⟩ => ⟨I1.kIn, ?_⟩) he rfl
        subst ev eH
        obtain ⟨u1, rfl, r1⟩ := vals1 r
        cases (show u1 = Value.ref a' from r1)
        have hl1 := F.one
        have bd := hbi s1 [.ref a'] I1.kIn (by rw [List.append_nil, hl1]; rfl)
        rw [List.append_nil] at bd
        obtain ⟨fl, hfl⟩ := hf
        have hot : L2H.Hot1 (X.suite a' ((a', oe) :: pn)).A (a', oe) := ⟨rfl, fl, hfl, hz.2.2 fl hfl⟩
        have P1 := I1.pin (a', oe) (List.mem_append_left _ List.mem_cons_self)
        have hpin : L2H.PinOk (X.suite a' ((a', oe) :: pn)).stack H1 s1 (a', oe) := ⟨P1.1, P1.2.1, fun hm => (List.mem_cons.mp (I1.stkSub a' hm)).elim P1.2.2.1 P1.2.2.2.1, P1.2.2.2.2⟩
        have room : L2H.RoomH k (X.suite a' ((a', oe) :: pn)).A := ⟨by have := (hr.mono hk).dp; exact this, by have := (hr.mono hk).un; exact this⟩
        obtain ⟨R1, s3, back⟩ := (sep.take hx g1).enter
        have hs : spOf X.E 1 (g a' cls' d') [.ref a'] H1 (fun v H' => Q v H') E0 := by
          refine ⟨rfl, F0, R1, [.px a' cls' d' xn], .sh rr, [.px a' cls' d' xn], s3, hgx, fun v F' H' fm s' => q v F' H' fm ?_⟩
          have s4 := Sep.put (i := i) (back F' H' [.px a' cls' d' xn] [(v, .sh rr)] fm s') g1
          obtain ⟨_, he5⟩ := List.getElem?_eq_some_iff.mp hx
          rw [List.set_set, ← he5, List.set_getElem_self] at s4
          exact s4
        refine wpAny_call (codeAny_mono (F.run _ (X.suite a' ((a', oe) :: pn)).stack s1 H1 ⟨[.ref a'], []⟩ _ (a', oe) cls' d' room hot hz.zc hpin I1.env0 bd hs) fun res s' hq => ?_)
        cases res with
        | error e => exact hq.elim
        | ok fl =>
          cases fl with
          | ret u => exact I1.after hq
          | next => exact False.elim hq
          | brk => exact False.elim hq
          | cont => exact False.elim hq
    · cases e
  · cases e
end
end L2.M
namespace L2.M
open PySem PySem.Spec PyProof.Rows
def cntL : List D → Option C
  | [.list ds, d] => if SeqAt.shaped (.list ds) && SeqAt.shaped d then some (.sh (.int ((ds.countP fun z => PyData.eqv z d : Nat) : Int))) else none
  | _ => none
def rCntD (K : PySem.W.Frag) (wr : List PyData → PyData) : V → List V → Hp → VK → Prop := fun x xs H Q => ∃ (a : Addr) (y : V) (d : PyData) (ds : List PyData), x = V.ref a ∧ xs = [y] ∧ Dp K H (V.ref a) (wr ds) ∧ Dp K H y d ∧
  SeqAt.shaped (wr ds) = true ∧ SeqAt.shaped d = true ∧ Q (.int ((ds.countP fun z => PyData.eqv z d : Nat) : Int)) H
theorem cnt_map {h : Heap} {ds : List PyData} {d : PyData} {its : List Value} (e : its.map (SeqAt.readOf h) = ds) : its.countP (fun u => PyData.eqv (SeqAt.readOf h u) d) = ds.countP fun z => PyData.eqv z d := by
  rw [← e, List.countP_map]
  rfl
section
variable {X : Cx}
theorem mt_cntL (hu : X.A.units + 65 < cLine) : MtR X "list.count" (rCntD X.K .list) := by
  intro pins s σ H x xs v us Q I rx rxs h
  obtain ⟨a, y, d, ds, rfl, rfl, hl, hy, sl, sd, q⟩ := h
  cases rx
  obtain ⟨uy, rfl, ry⟩ := rxs.one
  obtain ⟨bs, r1⟩ := Dp.reads I d y uy hy ry
  have hxs : PyData.canLayAll0 ds = true := SeqAt.canLay_of_shaped sl
  have hroom : X.A.units + 1 + min (PyData.depthAll ds) d.depth < cLine := room_in_shaped sd hu
  cases hl with
  | lst hs ha =>
    obtain ⟨its, rv, ⟨⟨cls, dd, data, sls⟩, n, ho, hc, hdn, hdt⟩, hlen⟩ := I.list hs
    simp only at hc hdt
    subst hc hdt
    obtain ⟨as, h4⟩ := Dp.readsAll I ds _ its ha rv
    have hmap : its.map (SeqAt.readOf s.heap) = ds := SeqAt.readsAll_map ds its as hxs h4
    refine call_meets PySem.F.slot_list_count ⟨_, ho, rfl⟩ PySem.F.entry_list_count (PySem.F.args_list_count_2 _ _)
      (SeqAt.list_countAt a its.toArray n dd sls uy (fun u => PyData.eqv (SeqAt.readOf s.heap u) d)) ⟨ho, SeqAt.items_eqAt (vs := its.toArray) (show ReadsAll s.heap its.toArray.toList ds as from h4) r1 hxs (SeqAt.canLay_of_shaped sd) hroom, ?_⟩
    have ec : its.toArray.toList.countP (fun u => PyData.eqv (SeqAt.readOf s.heap u) d) = ds.countP fun z => PyData.eqv z d := cnt_map hmap
    rw [ec]
    exact ⟨.int _, H, I.tok _, ⟨_, rfl⟩, q⟩
theorem cntL_ok (hu : X.A.units + 65 < cLine) : ∃ r, MtR X "list.count" r ∧ FnM X.K cntL r := by
  refine ⟨_, mt_cntL hu, fun F H x xs ds c Q s hr he q => ?_⟩
  match ds, he, hr with
  | [.list ds, d], he, hr =>
    simp only [cntL] at he
    split at he
    · rename_i hs
      simp only [Bool.and_eq_true] at hs
      cases he
      obtain ⟨y, w, e, h1, h2⟩ := hr.two
      cases e
      have dl := rb_dp s h1 (SeqAt.canLay_of_shaped hs.1)
      obtain ⟨a, vs, rfl, _, _⟩ := rb_lst s h1
      exact ⟨a, w, d, ds, rfl, rfl, dl, rb_dp s h2 (SeqAt.canLay_of_shaped hs.2), hs.1, hs.2, g_int s q⟩
    · cases he
variable {o e : Expr} {es : List Expr} {mo : OM} {mr : AM} {apos cpos : Pos} {k : Nat}
theorem x_cntL (hu : X.A.units + 65 < cLine) (ho : PE X o (tO X.E mo)) (ha : PA X (e :: es) (tA X.E mr))
    (hb : attributeBase o "count" X.env (eval o X.env) = eval o X.env := by rfl)
    (hfw : ((backTo cpos (starEach (e :: es) X.env)).all (fun x => !x.1) && (backToKw cpos (keywordEach [] X.env)).all (fun x => x.1.isSome) && decide ((e :: es).length + ([] : List Keyword).length + (if ([] : List Keyword).isEmpty then 0 else 1) < 30)) = true := by rfl)
    (hln : (apos.endLine == cpos.line) = true := by rfl) (hs : starEach (e :: es) X.env = (false, eval e X.env) :: starEach es X.env := by rfl) (hp : (backTo cpos (starEach es X.env)).any (·.1) = false := by rfl) :
    PE X (.Call (.Attribute o "count" apos) (e :: es) [] cpos) (tE X.E (mM cntL isL mo mr)) :=
  let ⟨_, h1, h2⟩ := cntL_ok hu
  (pe_bm PySem.F.plainAttrs_list PySem.F.slot_list_count PySem.F.type_list_count h1 ho ha hb hfw hln hs hp).weak fun _ _ _ h => tE_m h2 (fun _ _ _ _ s r k => tyV_L s r k) h
theorem x_indexU (hu : X.A.units + 65 < cLine) (ho : PE X o (tO X.E mo)) (ha : PA X (e :: es) (tA X.E mr))
    (hb : attributeBase o "index" X.env (eval o X.env) = eval o X.env := by rfl)
    (hfw : ((backTo cpos (starEach (e :: es) X.env)).all (fun x => !x.1) && (backToKw cpos (keywordEach [] X.env)).all (fun x => x.1.isSome) && decide ((e :: es).length + ([] : List Keyword).length + (if ([] : List Keyword).isEmpty then 0 else 1) < 30)) = true := by rfl)
    (hln : (apos.endLine == cpos.line) = true := by rfl) (hs : starEach (e :: es) X.env = (false, eval e X.env) :: starEach es X.env := by rfl) (hp : (backTo cpos (starEach es X.env)).any (·.1) = false := by rfl) :
    PE X (.Call (.Attribute o "index" apos) (e :: es) [] cpos) (tE X.E (mM indexD isL mo mr)) :=
  let ⟨_, h1, h2⟩ := index_ok hu
  (pe_bm PySem.F.plainAttrs_list PySem.F.slot_list_index PySem.F.type_list_index h1 ho ha hb hfw hln hs hp).weak fun _ _ _ h => tE_m h2 (fun _ _ _ _ s r k => tyV_L s r k) h
end
end L2.M
namespace L2.M
open PySem PySem.Spec PyProof.Rows
section
variable {X : Cx} {a b : Expr} {ma mb : OM} {pos : Pos}
theorem takes0 : L2N.Takes X W0 := fun u s' x => by
  obtain ⟨a, B, sI, pins, σ, H, cls, d, e, I, nb, up, sky, na, os, ag, w⟩ := x
  exact w.elim
theorem y_cmpU {op : CmpOp} (hu : X.A.units + 65 < cLine) (ha : PE X a (tO X.E ma)) (hb : PE X b (tO X.E mb)) (hm : behindInMarks op b = false := by rfl) : PT X (.Compare a [op] [b] pos) (tT X.E (mTst (mB (cmpD op) ma mb))) :=
  let ⟨_, h1, h2⟩ := cmp_ok hu op
  mt_cmp h1 h2 ha hb hm
end
def isC (P : List Str) (C : Str) : Xn → Option Bool := fun x => if x.cls ∈ P then some (x.cls == C) else none
def isK (P : List Str) (b : Bool) : Xn → Option Bool := fun x => if x.cls ∈ P then some b else none
def isCs (P : List Str) (Cs : List Str) : Xn → Option Bool := fun x => if x.cls ∈ P then some (Cs.contains x.cls) else none
def kitOB (x : Str) (u : Value) (b : Bool) : Ck := fun K => decide (PySem.W.kitOne K (.ref (He.ga K x)) u = some b)
theorem isC_ok {K : PySem.W.Frag} {P : List Str} {C : Str} (h : ∀ c ∈ P, excB c K = true ∧ kitB c C (c == C) K = true) : IsT K (isC P C) (.ref (He.ga K C)) := fun x b e => by
  unfold isC at e
  split at e
  · rename_i hx
    cases e
    obtain ⟨h1, h2⟩ := h _ hx
    exact ⟨excB_ok h1, of_decide_eq_true h2⟩
  · cases e
theorem isK_ok {K : PySem.W.Frag} {P : List Str} {u : Value} {b : Bool} (h : ∀ c ∈ P, excB c K = true ∧ kitOB c u b K = true) : IsT K (isK P b) u := fun x b' e => by
  unfold isK at e
  split at e
  · rename_i hx
    cases e
    obtain ⟨h1, h2⟩ := h _ hx
    exact ⟨excB_ok h1, of_decide_eq_true h2⟩
  · cases e
theorem isKs_ok {K : PySem.W.Frag} {P : List Str} {ts : List String} {b : Bool} (h : ∀ c ∈ P, excB c K = true ∧ kitTB c ts b K = true) : IsTs K (isK P b) (ts.map Value.type) := fun x b' e => by
  unfold isK at e
  split at e
  · rename_i hx
    cases e
    obtain ⟨h1, h2⟩ := h _ hx
    exact ⟨excB_ok h1, of_decide_eq_true h2⟩
  · cases e
/-- what the hook looks at, for the classes P, asked of the classes Cs -/
def csOf (P Cs : List Str) : List Ck := P.flatMap fun c => excB c :: exmB c "KnockError" true :: kitOB c (.type "ValueError") true :: kitTB c ["LookupError", "TypeError", "ArithmeticError", "RuntimeError"] false :: Cs.map fun C => kitB c C (c == C)
section
variable {K : PySem.W.Frag} {P Cs : List Str} {c : Str}
theorem cs_exc (V : ∀ k ∈ csOf P Cs, k K = true) (h : c ∈ P) : excB c K = true := V _ (List.mem_flatMap.mpr ⟨c, h, by simp⟩)
theorem cs_exm (V : ∀ k ∈ csOf P Cs, k K = true) (h : c ∈ P) : PySem.W.exmOne K (.ref (He.ga K c)) (.ref (He.ga K "KnockError")) = some true := of_decide_eq_true (V (exmB c "KnockError" true) (List.mem_flatMap.mpr ⟨c, h, by simp⟩))
theorem cs_ve (V : ∀ k ∈ csOf P Cs, k K = true) : IsT K (isK P true) (.type "ValueError") := isK_ok fun c h => ⟨cs_exc V h, V _ (List.mem_flatMap.mpr ⟨c, h, by simp⟩)⟩
theorem cs_bt (V : ∀ k ∈ csOf P Cs, k K = true) : IsTs K (isK P false) (["LookupError", "TypeError", "ArithmeticError", "RuntimeError"].map Value.type) := isKs_ok fun c h => ⟨cs_exc V h, V _ (List.mem_flatMap.mpr ⟨c, h, by simp⟩)⟩
theorem cs_is (V : ∀ k ∈ csOf P Cs, k K = true) {C : Str} (hC : C ∈ Cs := by decide) : IsT K (isC P C) (.ref (He.ga K C)) := isC_ok fun c h => ⟨cs_exc V h, V _ (List.mem_flatMap.mpr ⟨c, h, by simp only [List.mem_cons, List.mem_map]; exact .inr (.inr (.inr (.inr ⟨C, hC, rfl⟩)))⟩)⟩
end
section
variable {X : Cx}
/-- (LookupError, ..): a tuple of built-in classes -/
theorem pe_bts {es : List Expr} {cs : List V} {kt : Nat} {pos : Pos} (ha : PA X es (fun σ H Q => Q cs H)) (hz : cs.length ≤ sizeLine) : PE X (.Tuple es kt pos) fun σ H Q => ∀ p, H p = none → Q (.ref p) (upd H p (.tup cs)) :=
  (pe_tup ha).weak fun σ H Q h => ⟨hz, fun p hp => h p hp⟩
theorem pa_c {e : Expr} {es : List Expr} {v : V} {cs : List V} (h1 : PE X e (tC v)) (h2 : PA X es (fun σ H Q => Q cs H)) (hs : starEach (e :: es) X.env = (false, eval e X.env) :: starEach es X.env := by rfl) : PA X (e :: es) (fun σ H Q => Q (v :: cs) H) :=
  (pa_cons h1 h2 hs).weak fun σ H Q h => h
theorem boot_ve : bootBuiltins "ValueError" = some (.type "ValueError") := by decide +kernel
theorem boot_le : bootBuiltins "LookupError" = some (.type "LookupError") := by decide +kernel
theorem boot_te : bootBuiltins "TypeError" = some (.type "TypeError") := by decide +kernel
theorem boot_ae : bootBuiltins "ArithmeticError" = some (.type "ArithmeticError") := by decide +kernel
theorem boot_re : bootBuiltins "RuntimeError" = some (.type "RuntimeError") := by decide +kernel
end
end L2.M
namespace L2.M
open PySem PySem.Spec PyProof.Rows
def oexB (x : Str) : Ck := fun K => (match K.lookup (He.ga K x) with
  | some ⟨.type "type", _, .cls cd, sl⟩ => (match cd.mro, sl.toList with
    | .ref C' :: bm, [_, _, _, _, some (.builtin n), _] => C' == He.ga K x && (n == "ValueError.__new__" && (!cd.hasDel && (cd.hasDict && PySem.HandSPX.refsVE bm)))
    | _, _ => false)
  | _ => false) && (decide (PySem.W.findIn K (.ref (He.ga K x)) "__setattr__" = some (some (.builtin "object.__setattr__"))) && (decide (PySem.W.subIn K (.ref (He.ga K x)) (.type "BaseException") = some true) && (decide (PySem.W.typeIn K (.ref (He.ga K x)) = some (.type "type")) && PySem.W.keepIn K (.ref (He.ga K x)))))
theorem oexB_ok {K : PySem.W.Frag} {x : Str} (h : oexB x K = true) : OexC K (He.ga K x) := by
  unfold oexB at h
  generalize He.ga K x = C at *
  obtain ⟨q, h⟩ := Bool.and_eq_true_iff.mp h
  obtain ⟨h2, h⟩ := Bool.and_eq_true_iff.mp h
  obtain ⟨h3, h⟩ := Bool.and_eq_true_iff.mp h
  obtain ⟨h4, h5⟩ := Bool.and_eq_true_iff.mp h
  refine ⟨?_, of_decide_eq_true h2, of_decide_eq_true h3, of_decide_eq_true h4, h5⟩
  split at q
  · rename_i dd cd sl ho
    split at q
    · rename_i C' bm k0 k1 k2 k3 n k5 hm hs
      simp only [Bool.and_eq_true, beq_iff_eq, Bool.not_eq_true'] at q
      obtain ⟨rfl, rfl, hdel, hdct, hbm⟩ := q
      obtain ⟨nm, bs, mro, ns, qn, hd, sn, sub, ab, col, del⟩ := cd
      dsimp only at hm hdel hdct
      subst hm hdel hdct
      have hsl : sl = #[k0, k1, k2, k3, some (.builtin "ValueError.__new__"), k5] := by
        obtain ⟨l⟩ := sl
        simp only at hs
        rw [hs]
      subst hsl
      exact ⟨nm, qn, ns, bs, bm, sn, sub, ab, col, dd, k0, k1, k2, k3, k5, ho, hbm⟩
    · cases q
  · cases q
/-- KnockError's own __init__ is ValueError's -/
def keiB : Ck := fun K => decide (PySem.W.specialIn K (.ref (He.ga K "KnockError")) "__getattribute__" = some (some (.builtin "type.__getattribute__"))) && (PySem.W.readsIn K (He.ga K "KnockError") (.type "type") &&
  (match PySem.W.findCls K (.ref (He.ga K "KnockError")) (.type "type") "__init__" with
    | some (.val (.builtin n)) => n == "ValueError.__init__"
    | _ => false))
structure KeiC (K : PySem.W.Frag) : Prop where
  a : PySem.W.specialIn K (.ref (He.ga K "KnockError")) "__getattribute__" = some (some (.builtin "type.__getattribute__"))
  b : PySem.W.readsIn K (He.ga K "KnockError") (.type "type") = true
  c : PySem.W.findCls K (.ref (He.ga K "KnockError")) (.type "type") "__init__" = some (.val (.builtin "ValueError.__init__"))
theorem keiB_ok {K : PySem.W.Frag} (h : keiB K = true) : KeiC K := by
  obtain ⟨h1, h⟩ := Bool.and_eq_true_iff.mp h
  obtain ⟨h2, h3⟩ := Bool.and_eq_true_iff.mp h
  refine ⟨of_decide_eq_true h1, h2, ?_⟩
  split at h3
  · rename_i n e
    rw [e, beq_iff_eq.mp h3]
  · cases h3
def natB (x f : Str) : Ck := fun K => decide (PySem.W.findIn K (.ref (He.ga K x)) f = some none)
def iniB (x : Str) : Ck := fun K => decide (PySem.W.findIn K (.ref (He.ga K x)) "__init__" = some (some (.ref (He.ma K (He.ga K x) "__init__")))) && decide (PySem.W.typeIn K (.ref (He.ma K (He.ga K x) "__init__")) = some (.type "function"))
section
variable {X : Cx} {e : Expr} {es : List Expr} {ta : TA} {p1 p2 pos : Pos}
theorem pe_keinit {pl : Sem Bool} (c : KeiC X.K) (hg : Gl X "KnockError") (hm : X.mg "KnockError" = some (.ref (He.ga X.K "KnockError"))) (ha : PA X (e :: es) ta)
    (hc : eval (.Call (.Attribute (.Name "KnockError" p1) "__init__" p2) (e :: es) [] pos) X.env = (do
      let ov ← eval (.Name "KnockError" p1) X.env
      standAt p2.atName
      let (f, first) ← holding [ov] (getMethod ov "__init__" pl)
      callWith pos f first (backTo pos (starEach (e :: es) X.env)) (backToKw pos (keywordEach [] X.env))) := by rfl)
    (he : starEach (e :: es) X.env = (false, eval e X.env) :: starEach es X.env := by rfl) (hpl : (backTo pos (starEach es X.env)).any (·.1) = false := by rfl) :
    PE X (.Call (.Attribute (.Name "KnockError" p1) "__init__" p2) (e :: es) [] pos) (tVeI X.K ta) := by
  refine ⟨fun pins s σ H Q I h => ?_⟩
  refine PySem.W.methodCall_KW (ld_glob I hg hm ?_ (by decide)) hc
  refine PySem.W.method_cls I.kIn c.a (PySem.W.cls_value I.kIn c.b c.c rfl ?_)
  show wpAny _ _ (callWith pos (Value.builtin "ValueError.__init__") [] (backTo pos (starEach (e :: es) X.env)) []) _ _ _
  refine PyProof.Rows.callWith_method1 (thn (ha.run pos pins _ σ H _ (I.tok _) h) fun us s1 ⟨vs, H1, I1, r1, a, C, ws, ev, hl, T, ea, q⟩ => ?_) he hpl
  subst ev
  cases r1 with
  | @cons _ u0 _ ur ra rw' =>
    obtain rfl : u0 = Value.ref a := ra
    have hlen : ur.length ≤ sizeLine := by
      rw [← Paired.length rw', sizeLine_eq]
      omega
    exact oinit_ok T I1 ea hlen fun s' J => ⟨.non, H1, J, rfl, q⟩
end
/-- what such an __init__ leaves: the fields, the last one first -/
def spI (C : Addr) (ns : List Str) : Sp := fun vs H Q E => ∃ (a : Addr) (ws : List V), vs = .ref a :: ws ∧ ws.length = ns.length ∧ H a = some (exo a C none) ∧ ∀ dx, H dx = none → dx ≠ a → Q .non (upd (upd H dx (exd dx (ns.zip ws).reverse)) a (exo a C (some dx)))
/-- .. as its body does it -/
def tIni (C : Addr) (ns : List Str) : TS := fun D σ H => ∃ (a : Addr) (ws : List V), σ = (V.ref a :: ws).map some ∧ ws.length = ns.length ∧ H a = some (exo a C none) ∧ ∀ dx, H dx = none → dx ≠ a → D.nx σ (upd (upd H dx (exd dx (ns.zip ws).reverse)) a (exo a C (some dx)))
section
variable {X : Cx} {C : Addr} {f g z : Str} {j : Option Str} {p1 p2 p3 p4 p5 p6 p7 p8 p9 p10 p11 p12 p13 p14 : Pos}
theorem upd_twice {H : Hp} {a dx : Addr} {o1 o2 o3 : HO} (h : dx ≠ a) : upd (upd (upd H dx o1) a o2) dx o3 = upd (upd H dx o3) a o2 := by
  funext b
  by_cases e1 : b = dx
  · subst e1
    rw [upd_same, upd_ne h, upd_same]
  · rw [upd_ne e1]
    by_cases e2 : b = a
    · subst e2
      rw [upd_same, upd_same]
    · rw [upd_ne e2, upd_ne e1, upd_ne e2, upd_ne e1]
theorem ini_ke {z : Str} {k : Nat} (c : KeiC X.K) (hg : Gl X "KnockError") (hm : X.mg "KnockError" = some (.ref (He.ga X.K "KnockError"))) (h0 : PE X (.Name "self" p3) (tVar 0))
    (hs : swapsWith (.Call (.Attribute (.Name "KnockError" p1) "__init__" p2) [.Name "self" p3, .Constant (.str z) k p4] [] p5) none p10.line X.env = pure false := by rfl)
    (hc : ∃ pl : Sem Bool, eval (.Call (.Attribute (.Name "KnockError" p1) "__init__" p2) [.Name "self" p3, .Constant (.str z) k p4] [] p5) X.env = (do
      let ov ← eval (.Name "KnockError" p1) X.env
      standAt p2.atName
      let (f, first) ← holding [ov] (getMethod ov "__init__" pl)
      callWith p5 f first (backTo p5 (starEach [.Name "self" p3, .Constant (.str z) k p4] X.env)) (backToKw p5 (keywordEach [] X.env))) := by exact ⟨_, rfl⟩)
    (he : starEach [.Name "self" p3, .Constant (.str z) k p4] X.env = (false, eval (.Name "self" p3) X.env) :: starEach [.Constant (.str z) k p4] X.env := by rfl)
    (he2 : starEach [.Constant (.str z) k p4] X.env = (false, eval (.Constant (.str z) k p4) X.env) :: starEach [] X.env := by rfl)
    (hpl : (backTo p5 (starEach [.Constant (.str z) k p4] X.env)).any (·.1) = false := by rfl) :
    PS X (.Expr (.Call (.Attribute (.Name "KnockError" p1) "__init__" p2) [.Name "self" p3, .Constant (.str z) k p4] [] p5) p10) (fun D σ H => ∃ (a C : Addr), σ[0]? = some (some (.ref a)) ∧ OexC X.K C ∧ H a = some (exo a C none) ∧ D.nx σ H) := by
  obtain ⟨pl, hc⟩ := hc
  refine (ps_expr (pe_keinit (pl := pl) c hg hm (pa_cons h0 (pa_cons pe_str pa_nil he2) he) hc he hpl) hs).weak fun D σ H h => ?_
  obtain ⟨a, C, e, T, ha, q⟩ := h
  exact ⟨_, e, a, C, _, rfl, by simp, T, ha, q⟩
theorem pss_weak {st : List Stmt} {t t' : TS} (h : PSs X st t) (i : ∀ D σ H, t' D σ H → t D σ H) : PSs X st t' := ⟨fun pins s σ H D I q => h.run pins s σ H D I (i D σ H q)⟩
theorem ini2 {b1 b2 b3 : Stmt} (T : OexC X.K C) (n1 : PySem.W.findIn X.K (.ref C) f = some none) (n2 : PySem.W.findIn X.K (.ref C) g = some none) (hc : PS X b1 (fun D σ H => ∃ (a C : Addr), σ[0]? = some (some (.ref a)) ∧ OexC X.K C ∧ H a = some (exo a C none) ∧ D.nx σ H))
    (hs : PS X b2 (tOst X.K f (tVar 0) (tVar 1))) (hs2 : PS X b3 (tOst X.K g (tVar 0) (tVar 2))) : PSs X [b1, b2, b3] (tIni C [f, g]) :=
  pss_weak (pss_cons hc (pss_cons hs (pss_one hs2))) fun D σ H h => by
    obtain ⟨a, ws, rfl, hl, ha, q⟩ := h
    match ws, hl with
    | [y, z], _ =>
      refine ⟨a, C, rfl, T, ha, y, rfl, .ref a, rfl, a, C, rfl, T, n1, .inl ⟨ha, fun dx hd ne => ?_⟩⟩
      refine ⟨z, rfl, .ref a, rfl, a, C, rfl, T, n2, .inr ⟨dx, [(f, y)], upd_same, by rw [upd_ne ne, upd_same], by simp, ?_⟩⟩
      rw [upd_twice ne]
      exact q dx hd ne
end
section
variable {fa : List He.Fa} {fn : List He.DefD} {K : PySem.W.Frag} {mg : Str → Option Value} {P : Program} {w : World} {base : Heap}
/-- the class's making, by its name -/
structure KnE (P : Program) (w : World) (K : PySem.W.Frag) (mg : Str → Option Value) (base : Heap) (x : Str) (ns : List Str) : Prop where
  ex : ∃ (fI : Addr) (fd : FuncData), OexC K (He.ga K x) ∧ mg x = some (.ref (He.ga K x)) ∧ PySem.W.findIn K (.ref (He.ga K x)) "__init__" = some (some (.ref fI)) ∧ PySem.W.typeIn K (.ref fI) = some (.type "function") ∧ Binds K fd ("self" :: ns) [] ∧ FnOk P w K mg base CX0 1 fI fd ("self" :: ns) (spI (He.ga K x) ns)
theorem kne_mk (W : Wo fa fn K mg) (i j : Nat) {ns : List Str} {d : He.DefD} {x : Str} (hd : fn[i]? = some d) (hx : d.at_ = (x, some ("__init__" : Str))) (hg : fa[j]? = some (.glo x)) (T : OexC K (He.ga K x)) (hi : iniB x K = true) (pl : Plain d ("self" :: ns)) (S : FnScope ("self" :: ns) ("self" :: ns) d.scope)
    (hb : ∀ (f : Addr) (cdv : Value) (A : Around) (outer : List Env) (s : Shared) (H : Hp) (E : XK), PSs (cxN P w K mg base ("self" :: ns) d f cdv A outer s H E) d.body (tIni (He.ga K x) ns)) :
    KnE P w K mg base x ns := by
  obtain ⟨i1, i2⟩ := Bool.and_eq_true_iff.mp hi
  have g := W.glo j hg
  obtain ⟨h, X, G, c⟩ := W
  obtain ⟨fd, F⟩ := c.def_ i hd
  have eD : d.dvs K = [] := by unfold He.DefD.dvs; rw [pl.1]; rfl
  have eA : He.fAd K d.at_ = He.ma K (He.ga K x) "__init__" := by rw [hx]; rfl
  rw [eD, eA] at F
  refine ⟨_, fd, T, g, of_decide_eq_true i1, of_decide_eq_true i2, F.bindsN pl.2.2, ?_⟩
  obtain ⟨oc, od, dV, kV, doc, pm, an, cdv, ct, osl, rfl, l0, c0, _, _⟩ := F.ex
  refine fn_of l0 c0 S (fun vs H Q E h => ?_) fun A outer s H vs Q E hr h => ⟨tIni (He.ga K x) ns, PSs.nox (hb _ _ A outer s H E), ?_⟩
  · obtain ⟨a, ws, rfl, hl, _⟩ := h
    simp [hl]
  · obtain ⟨a, ws, rfl, hl, ha, q⟩ := h
    refine ⟨a, ws, ?_, hl, ha, q⟩
    unfold start
    simp [hl]
end
end L2.M
namespace L2.M
open PySem PySem.Spec PyProof.Rows
def tMkX (C : Addr) (ns : List Str) (ta : TA) : St → Hp → XK → Prop := fun σ H Q => ta σ H fun vs H1 => vs.length = ns.length ∧ vs.length ≤ 1000 ∧ ∀ d, H1 d = none → Q (.ref C) (some d) (upd H1 d (.xd (ns.zip vs).reverse))
section
variable {X : Cx} {e : Expr} {es : List Expr} {ta : TA} {p pos : Pos}
theorem pmk_oexN {x : Str} {ns : List Str} {k' : Nat} (h : KnE X.prog X.w X.K X.mg X.base x ns) (hr : Room k' X.A) (hk : 2 ≤ k') (hg : Gl X x) (ha : PA X (e :: es) ta)
    (hdb : (x == ("__debug__" : Str)) = false := by decide) (he : starEach (e :: es) X.env = (false, eval e X.env) :: starEach es X.env := by rfl) (hpl : (backTo pos (starEach es X.env)).any (·.1) = false := by rfl) :
    L2N.PMk X (.Call (.Name x p) (e :: es) [] pos) (tMkX (He.ga X.K x) ns ta) := by
  obtain ⟨fI, fd, T, hm, iC, tI, hb, FF⟩ := h.ex
  intro pins s σ H Q I q0
  obtain ⟨nm, qn, N, bs, bm, sn, sub, ab, col, dd, k0, k1, k2, k3, k5, lC, hbm⟩ := T.cls
  refine wpAny_Call_Name_kw (ld_glob I hg hm ?_ hdb)
  refine PySem.W.callWith_K (h₀ := X.base) I.ok.mod.kin T.kC (thn (ha.run pos pins s σ H _ I q0) fun us s1 ⟨vs, H1, J1, r1, hn, hz, qq⟩ => ⟨J1.kIn, ?_⟩) he hpl
  show wpAny _ _ (call (.ref (He.ga X.K x)) us) _ _ _
  generalize He.ga X.K x = C at *
  obtain ⟨h1, g1, d1, t1, o1⟩ := s1
  have le1 : h1.objs.size ≤ h1.objs.size + 1 := Nat.le_succ _
  have new1 : H1 (h1.objs.size + 1) = none := J1.hok.fresh le1
  have stay : ∀ b o, h1.get? b = some o → ((h1.push (PySem.W.kdv_tup us)).push (PySem.HandSPX.excO C h1.objs.size)).get? b = some o := fun b o z => Heap.get?_push_of_some _ (Heap.get?_push_of_some _ z)
  have laid : ((h1.push (PySem.W.kdv_tup us)).push (PySem.HandSPX.excO C h1.objs.size)).get? (h1.objs.size + 1) = some (PySem.HandSPX.excO C h1.objs.size) := by heap_get
  have J2 := J1.laid (t' := t1) (a := h1.objs.size + 1) (o := exo (h1.objs.size + 1) C none) (h' := (h1.push (PySem.W.kdv_tup us)).push (PySem.HandSPX.excO C h1.objs.size)) stay le1 (exo_ok laid)
  have r2 : Vals (V.ref (h1.objs.size + 1) :: vs) (Value.ref (h1.objs.size + 1) :: us) := .cons rfl r1
  have lu : us.length = ns.length := by rw [← Paired.length r1]; exact hn
  have us2 : us.length ≤ sizeLine := by
    rw [← Paired.length r1, sizeLine_eq]
    omega
  have bd := hb ⟨(h1.push (PySem.W.kdv_tup us)).push (PySem.HandSPX.excO C h1.objs.size), g1, d1, t1, o1⟩ (Value.ref (h1.objs.size + 1) :: us) J2.kIn (by rw [List.append_nil]; simp [lu])
  rw [List.append_nil] at bd
  have sp : spI C ns (V.ref (h1.objs.size + 1) :: vs) (upd H1 (h1.objs.size + 1) (exo (h1.objs.size + 1) C none))
      (fun v H2 => v = .non ∧ ∃ d, H2 (h1.objs.size + 1) = some (exo (h1.objs.size + 1) C (some d)) ∧ H2 d = some (exd d (ns.zip vs).reverse) ∧ H1 d = none ∧ Q (.ref C) (some d) (upd (del H2 (h1.objs.size + 1)) d (.xd (ns.zip vs).reverse))) E0 := by
    refine ⟨_, vs, rfl, hn, upd_same, fun dx hd ne => ⟨rfl, dx, upd_same, by rw [upd_ne ne, upd_same], by rw [upd_ne ne] at hd; exact hd, ?_⟩⟩
    rw [upd_ne ne] at hd
    have e9 : upd (del (upd (upd (upd H1 (h1.objs.size + 1) (exo (h1.objs.size + 1) C none)) dx (exd dx (ns.zip vs).reverse)) (h1.objs.size + 1) (exo (h1.objs.size + 1) C (some dx))) (h1.objs.size + 1)) dx (.xd (ns.zip vs).reverse) = upd H1 dx (.xd (ns.zip vs).reverse) := by
      funext b
      by_cases e1 : b = dx
      · rw [e1, upd_same, upd_same]
      · rw [upd_ne e1, upd_ne e1]
        by_cases e2 : b = h1.objs.size + 1
        · rw [e2, del_same, new1]
        · rw [del_ne e2, upd_ne e2, upd_ne e1, upd_ne e2]
    rw [e9]
    exact qq dx hd
  refine wpAny_call (PySem.HandSPX.call_own PySem.F.excBase_ValueError (fun Y => PySem.HandSPX.refsVE_contains Y bm hbm) (J1.kIn _ _ lC) (PySem.W.looks_findIn J1.kIn iC) (fun self => PySem.W.bind_fn J1.kIn self tI) us2
    (codeAny_mono (FF.run _ X.stack _ _ ⟨Value.ref (h1.objs.size + 1) :: us, []⟩ (Value.ref (h1.objs.size + 1) :: us) _ _ E0 ((hr.mono hk).make C us []) (J2.env0.make C us []) bd r2 sp) fun r s' z => ?_))
  cases r with
  | error er => exact z.elim
  | ok fl =>
    cases fl with
    | ret u =>
      obtain ⟨v, H2, os2, bare2, un2, hok2, rv, ev, d, ea, ed, n1, q2⟩ := z
      subst ev
      obtain ⟨h2, g2, d2, t2, o2⟩ := s'
      refine ⟨rv, ?_⟩
      obtain ⟨t0, G, J, kG, ge, hoe, na⟩ := mk_end0 (d2 := d2) (t2 := t2) J1 le1 stay un2 hok2 os2 bare2 ea ed n1
      exact ⟨_, _, _, ⟨G, g2, d2, t2, o2⟩, _, .ref C, some d, rfl, J, kG, ge, hoe, ⟨rfl, rfl, fun vs e => by cases e; rfl⟩, rfl, rfl, na, rfl, bare2, raises_own T.exC T.tyC, q2⟩
    | next => exact False.elim z
    | brk => exact False.elim z
    | cont => exact False.elim z
/-- plain values: the fields of the exceptions here -/
def scal : D → Bool
  | .none => true
  | .bool _ => true
  | .int _ => true
  | .str _ => true
  | _ => false
theorem scal_rep {K : PySem.W.Frag} {F H : Hp} {v : V} {d : D} (h : scal d = true) (r : RepB K F H v d) : Rep K F v d := by
  cases d with
  | none => rw [rb_non r]; simp [Rep]
  | bool b => rw [rb_bool r]; simp [Rep]
  | int i => rw [rb_int r]; simp [Rep]
  | str x => rw [rb_str r]; simp [Rep]
  | list l => cases h
  | tuple l => cases h
  | dict l => cases h
theorem scal_reps {K : PySem.W.Frag} {F H : Hp} {vs : List V} {ds : List D} (h : ds.all scal = true) (r : RepBs K F H vs ds) : Reps K F vs ds := by
  induction r with
  | nil => simp [Reps]
  | cons r1 r2 ih =>
    simp only [List.all_cons, Bool.and_eq_true] at h
    exact ⟨_, _, rfl, scal_rep h.1 r1, ih h.2⟩
def mRaiseX (x : Str) (ns : List Str) (ma : AM) : XM := fun ε => do
  let (os, ε1) ← ma ε
  let ds ← bors ε1 os
  if ds.length = ns.length ∧ ds.length ≤ 1000 ∧ ns ≠ [] ∧ ds.all scal = true then some (.xc ⟨x, (ns.zip ds).reverse⟩, ε1) else none
theorem z_raiseX {W : Xw} {io : List Nat} {x : Str} {ns : List Str} {ma : AM} {k' : Nat} {p3 : Pos} (hc : X.calm = true) (tk : L2N.Takes X W) (h : KnE X.prog X.w X.K X.mg X.base x ns) (hr : Room k' X.A) (hk : 2 ≤ k') (hg : Gl X x) (ha : PA X (e :: es) (tA X.E ma))
    (hdb : (x == ("__debug__" : Str)) = false := by decide) (he : starEach (e :: es) X.env = (false, eval e X.env) :: starEach es X.env := by rfl) (hpl : (backTo pos (starEach es X.env)).any (·.1) = false := by rfl) :
    PS X (.Raise (some (.Call (.Name x p) (e :: es) [] pos)) none p3) (tS X.E W io (mRaiseX x ns ma)) := by
  refine (L2N.ps_raise hc tk (pmk_oexN h hr hk hg ha hdb he hpl)).weak fun De σ H q0 => ?_
  obtain ⟨F, R, ε, f, ε', s, e0, z⟩ := q0
  unfold mRaiseX at e0
  cases e1 : ma ε with
  | none => simp [e1] at e0
  | some pp =>
    obtain ⟨os, ε1⟩ := pp
    cases e2 : bors ε1 os with
    | none => simp [e1, e2] at e0
    | some ds =>
      simp only [e1, e2, Option.bind_eq_bind, Option.bind_some] at e0
      split at e0
      · rename_i hh
        cases e0
        obtain ⟨hl, hz, hne, hsc⟩ := hh
        refine ⟨F, R, ε, os, _, s, e1, fun vs F1 H1 fm v1 s1 => ?_⟩
        rw [← List.append_nil (tmO os vs)] at s1
        have rb := bors_ok s1 v1 e2
        have rs := scal_reps hsc rb
        have lv : vs.length = ds.length := rs.length
        refine ⟨by omega, by omega, fun d hd => ?_⟩
        have s2 := Sep.drops _ s1
        have s3 := s2.newF (u := .xd (ns.zip vs).reverse) hd
        have fm2 : Same F1 (upd F1 d (.xd (ns.zip vs).reverse)) := (Grw.laid (u := .xd (ns.zip vs).reverse) s2.sub hd).fm
        refine z _ _ σ (fm.trans fm2) (StS.refl ..) _ _ s3 ⟨rfl, .inr ⟨d, (ns.zip vs).reverse, rfl, upd_same, ?_, ?_⟩⟩
        · rw [List.map_reverse, List.map_reverse, List.map_fst_zip (by omega), List.map_fst_zip (by omega)]
        · rw [List.map_reverse, List.map_reverse, List.map_snd_zip (by omega), List.map_snd_zip (by omega)]
          exact (Reps.mono fm2 _ _ rs).reverse
      · cases e0
end
end L2.M
namespace L2.M
open PySem PySem.Spec PyProof.Rows
def xfK (x : Str) : Ck := fun K => xfB K (He.ga K x)
def csF (FF : List (Str × Str)) : List Ck := FF.flatMap fun p => [xfK p.1, natB p.1 p.2]
def csI (II : List Str) : List Ck := II.flatMap fun c => [keiB, oexB c, iniB c]
section
variable {K : PySem.W.Frag} {FF : List (Str × Str)} {II : List Str} {c f : Str}
theorem csF_nat (V : ∀ k ∈ csF FF, k K = true) (h : (c, f) ∈ FF) : PySem.W.findIn K (.ref (He.ga K c)) f = some none := of_decide_eq_true (V (natB c f) (List.mem_flatMap.mpr ⟨_, h, by simp⟩))
theorem csF_ok (V : ∀ k ∈ csF FF, k K = true) (h : (c, f) ∈ FF) : XfC K (He.ga K c) ∧ PySem.W.findIn K (.ref (He.ga K c)) f = some none :=
  ⟨xfB_ok (V (xfK c) (List.mem_flatMap.mpr ⟨_, h, by simp⟩)), csF_nat V h⟩
theorem csI_kei (V : ∀ k ∈ csI II, k K = true) (h : II ≠ []) : keiB K = true := by
  match II, h with
  | c :: r, _ => exact V keiB (List.mem_flatMap.mpr ⟨c, List.mem_cons_self, by simp⟩)
theorem csI_oex (V : ∀ k ∈ csI II, k K = true) (h : c ∈ II) : oexB c K = true := V (oexB c) (List.mem_flatMap.mpr ⟨c, h, by simp⟩)
theorem csI_ini (V : ∀ k ∈ csI II, k K = true) (h : c ∈ II) : iniB c K = true := V (iniB c) (List.mem_flatMap.mpr ⟨c, h, by simp⟩)
end
end L2.M
namespace L2.M
open PySem PySem.Spec PyProof.Rows
end L2.M
namespace L2.M
open PySem PySem.Spec PyProof.Rows
def truD : D → Option Bool
  | .none => some false
  | .bool b => some b
  | .tuple ds => some (!ds.isEmpty)
  | .list ds => some (!ds.isEmpty)
  | _ => none
def mOrV (m n : EM) : EM := fun ε => match m ε with
  | some (.sh d, ε1) => (match truD d with
    | some true => some (.sh d, ε1)
    | some false => n ε1
    | none => none)
  | _ => none
end L2.M
namespace L2.M
open PySem PySem.Spec PyProof.Rows
end L2.M
namespace L2.M
open PySem PySem.Spec PyProof.Rows
end L2.M
namespace L2.M
open PySem PySem.Spec PyProof.Rows
end L2.M
namespace L2.M
open PySem PySem.Spec PyProof.Rows
end L2.M
namespace L2.M
open PySem PySem.Spec PyProof.Rows
end L2.M
namespace L2.M
open PySem PySem.Spec PyProof.Rows
end L2.M
namespace L2.M
open PySem PySem.Spec PyProof.Rows
def kyD : D → Option Key
  | .int i => some (.inl i)
  | .str x => some (.inr x)
  | _ => none
def dLk (kds : List (D × D)) (k : D) : Option D := (kds.find? fun p => PyData.eqv p.1 k).map (·.2)
def dPt (kds : List (D × D)) (k d : D) : List (D × D) := if (kds.any fun p => PyData.eqv p.1 k) = true then kds.map (fun p => if PyData.eqv p.1 k = true then (p.1, d) else p) else kds ++ [(k, d)]
def mDNew : EM := fun ε => some (.dc 0 [], ε)
def mDIn (n : Bool) (i : Nat) (m : OM) : EM := fun ε => do
  let (o, ε1) ← m ε
  let k ← bor ε1 o
  let _ ← kyD k
  match ε1[i]? with
  | some (.dc 0 kds) => some (.sh (.bool (if n then !(dLk kds k).isSome else (dLk kds k).isSome)), ε1)
  | _ => none
def mDGet (i : Nat) (m : OM) : EM := fun ε => match ε[i]? with
  | some (.dc _ _) => do
    let (o, ε1) ← m ε
    let k ← bor ε1 o
    let _ ← kyD k
    match ε1[i]? with
      | some (.dc 0 kds) => do
        let d ← dLk kds k
        some (.sh d, ε1)
      | _ => none
  | _ => none
def mDLen (i : Nat) : EM := fun ε => match ε[i]? with
  | some (.dc 0 kds) => some (.sh (.int kds.length), ε)
  | _ => none
def mDPut (i : Nat) (m : EM) (ix : OM) : XM := fun ε => do
  let (c, ε1) ← m ε
  let d ← cD c
  match ε1[i]? with
  | some (.dc 0 _) => do
    let (p, ε2) ← ix ε1
    let k ← bor ε2 p
    let _ ← kyD k
    match ε2[i]? with
      | some (.dc 0 kds) => if kds.length < sizeLine then some (.nx, ε2.set i (.dc 0 (dPt kds k d))) else none
      | _ => none
  | _ => none
end L2.M
namespace L2.M
open PySem PySem.Spec PyProof.Rows
section
variable {P : Program} {w : World} {K : PySem.W.Frag} {F H : Hp} {h : Heap}
mutual
theorem nk_is (fs : Same F H) (ok : HOk P w H h) : ∀ (d : D) (v : V) (k : NestedKey) (u : Value), nKey d = some k → Rep K F v d → RelV v u → NestedIs h k u
  | .none, v, k, u, e, r, q => by
    cases e
    cases (show v = .non from r)
    cases (show u = Value.none from q)
    exact .none
  | .bool b, v, k, u, e, r, q => by
    cases e
    cases (show v = .bl b from r)
    cases (show u = Value.bool b from q)
    exact .bool rfl
  | .int i, v, k, u, e, r, q => by
    cases e
    cases (show v = .int i from r)
    obtain ⟨t, rfl⟩ := (show ∃ t, u = Value.int i t from q)
    exact .int _ _
  | .str x, v, k, u, e, r, q => by
    cases e
    cases (show v = .str x from r)
    obtain ⟨t, rfl⟩ := (show ∃ t, u = Value.str x t from q)
    exact .text _ _
  | .list ds, v, k, u, e, r, q => by cases e
  | .dict ds, v, k, u, e, r, q => by cases e
  | .tuple ds, v, k, u, e, r, q => by
    obtain ⟨a, vs, rfl, ⟨o, hn, hF⟩, r2⟩ := r
    cases (show u = Value.ref a from q)
    unfold nKey at e
    obtain ⟨ks, e2, rfl⟩ := Option.map_eq_some_iff.mp e
    obtain ⟨hg, _, its, rel, o', h1, h2, n, h3⟩ := ok a _ (fs _ _ hF)
    exact .tup h1 h2 h3 (by simpa using nks_are fs ok ds vs ks its e2 r2 rel)
theorem nks_are (fs : Same F H) (ok : HOk P w H h) : ∀ (ds : List D) (vs : List V) (ks : List NestedKey) (us : List Value), nKeys ds = some ks → Reps K F vs ds → Vals vs us → NestedAll h ks us
  | [], vs, ks, us, e, r, q => by
    cases e
    cases (show vs = [] from r)
    cases q
    exact .nil
  | d :: ds, vs, ks, us, e, r, q => by
    obtain ⟨v, vr, rfl, r1, r2⟩ := r
    cases q with
    | cons q1 q2 =>
      unfold nKeys at e
      split at e
      · rename_i k kr e1 e2
        cases e
        exact .cons (nk_is fs ok d v k _ e1 r1 q1) (nks_are fs ok ds vr kr _ e2 r2 q2)
      · cases e
end
end
theorem nk_ref {K : PySem.W.Frag} {F : Hp} {v : V} {ds : List D} (r : Rep K F v (.tuple ds)) : ∃ b, v = .ref b := by
  obtain ⟨a, vs, rfl, _⟩ := r
  exact ⟨a, rfl⟩
def NVal (w : World) : NEnt × Value → NestedKey × Addr × Value := fun x => (x.1.1, x.1.2, x.2)
abbrev NX := List (NEnt × V)
abbrev nkR (p : NEnt × V) (q : NEnt × Value) : Prop := p.1 = q.1 ∧ RelV p.2 q.2
/-- the keys stand as told -/
def NkIs (h : Heap) (bs : List NEnt) : Prop := ∀ b ∈ bs, NestedIs h b.1 (.ref b.2) ∧ b.1.depth ≤ 8
section
variable {P : Program} {w : World} {H : Hp} {h : Heap} {a : Addr} {xs : NX}
theorem nk_of (ok : HOk P w H h) (e : H a = some (nkO w a xs) ∨ ∃ od, H a = some (.frz od (nkO w a xs))) : xs.length ≤ sizeLine ∧ (a == sysModules) = false ∧ ∃ vs : List (NEnt × Value), Paired nkR xs vs ∧ ∃ o es ep, h.get? a = some o ∧ o.ExactDict ∧ o.data = .dict es ep ∧ es.toList = vs.map (nkE w) ∧ (xs.map (·.1.1)).Nodup := by
  rcases e with e | ⟨od, e⟩
  · exact (show ObjOk P w H h a (nkO w a xs) from ok a _ e).1
  · exact (show ObjOk P w H h a (nkO w a xs) from (ok a _ e).2).1
theorem nkr_keys : ∀ {xs : NX} {vs : List (NEnt × Value)}, Paired nkR xs vs → vs.map (·.1) = xs.map (·.1)
  | _, _, .nil => rfl
  | _, _, .cons q r => by simp only [List.map_cons, nkr_keys r, q.1]
theorem nk_dict {vs : List (NEnt × Value)} (hk : NkIs h (xs.map (·.1))) (pr : Paired nkR xs vs) (r : ∃ o es ep, h.get? a = some o ∧ o.ExactDict ∧ o.data = .dict es ep ∧ es.toList = vs.map (nkE w) ∧ (xs.map (·.1.1)).Nodup) : h.DictOfH (nestedKind P w) a (vs.map (NVal w)) := by
  obtain ⟨o, es, ep, h1, h2, h3, h4, h5⟩ := r
  have ek := nkr_keys pr
  refine ⟨o, es, ep, h1, h2, h3, ?_, fun x hx => ?_, ?_⟩
  · rw [h4, List.map_map]
    rfl
  · obtain ⟨y, hy, rfl⟩ := List.mem_map.mp hx
    exact hk y.1 (by rw [← ek]; exact List.mem_map_of_mem hy)
  · rw [List.map_map]
    have : (xs.map (·.1.1)) = vs.map (fun y => y.1.1) := by
      have := congrArg (List.map (·.1)) ek
      rw [List.map_map, List.map_map] at this
      exact this.symm
    have e2 : ((fun x : NestedKey × Addr × Value => x.1) ∘ NVal w) = fun y : NEnt × Value => y.1.1 := rfl
    rw [e2, ← this]
    exact h5
/-- a new or changed dict is such -/
theorem nk_mk {H' : Hp} {h' : Heap} {vs : List (NEnt × Value)} (hz : xs.length ≤ sizeLine) (hd : (a == sysModules) = false) (pr : Paired nkR xs vs) (dd : h'.DictOfH (nestedKind P w) a (vs.map (NVal w))) : ObjOk P w H' h' a (nkO w a xs) := by
  obtain ⟨o, es, ep, h1, h2, h3, h4, h5, h6⟩ := dd
  have ek := nkr_keys pr
  have h4 : es.toList = vs.map (nkE w) := by
    rw [h4, List.map_map]
    rfl
  have h6 : (xs.map (·.1.1)).Nodup := by
    have : (xs.map (·.1.1)) = vs.map (fun y => y.1.1) := by
      have := congrArg (List.map (·.1)) ek
      rw [List.map_map, List.map_map] at this
      exact this.symm
    rw [this]
    rw [List.map_map] at h6
    exact h6
  refine ⟨⟨hz, hd, vs, pr, o, es, ep, h1, h2, h3, h4, h6⟩, ⟨o, h1⟩, fun g1 g2 p k => ?_⟩
  obtain ⟨p1, p2, ws, p3, o', es', ep', q1, q2, q3, q4, q5⟩ := p
  exact ⟨p1, p2, ws, p3, o', es', ep', k _ q1, q2, q3, q4, q5⟩
end
def lkN (xs : NX) (k : NestedKey) : Option V := (xs.find? fun x => decide (x.1.1 = k)).map (·.2)
def ptN (xs : NX) (b : NEnt) (v : V) : NX := if (lkN xs b.1).isSome then xs.map (fun x => if x.1.1 = b.1 then (x.1, v) else x) else xs ++ [(b, v)]
section
variable {w : World}
theorem lk_val : ∀ {xs : NX} {vs : List (NEnt × Value)} {k : NestedKey}, Paired nkR xs vs → RelO (lkN xs k) ((atKey (vs.map (NVal w)) k).map (·.2))
  | _, _, k, .nil => by simp [lkN, atKey, RelO]
  | x :: xs, y :: vs, k, .cons q r => by
    obtain ⟨q1, q2⟩ := q
    by_cases c : x.1.1 = k
    · have c2 : (NVal w y).1 = k := by show y.1.1 = k; rw [← q1]; exact c
      have e1 : lkN (x :: xs) k = some x.2 := by simp [lkN, c]
      have e2 : (atKey ((y :: vs).map (NVal w)) k).map (·.2) = some y.2 := by
        unfold atKey
        rw [List.map_cons, List.find?_cons_of_pos (by simpa using c2)]
        rfl
      rw [e1, e2]
      exact q2
    · have c2 : ¬ (NVal w y).1 = k := by show ¬ y.1.1 = k; rw [← q1]; exact c
      have e1 : lkN (x :: xs) k = lkN xs k := by simp [lkN, c]
      have e2 : (atKey ((y :: vs).map (NVal w)) k).map (·.2) = (atKey (vs.map (NVal w)) k).map (·.2) := by simp [atKey, c2]
      rw [e1, e2]
      exact lk_val r
theorem lk_some {xs : NX} {vs : List (NEnt × Value)} {k : NestedKey} (r : Paired nkR xs vs) : (atKey (vs.map (NVal w)) k).isSome = (lkN xs k).isSome := by
  have := (lk_val (w := w) (k := k) r).isSome_eq
  rw [Option.isSome_map] at this
  exact this.symm
theorem pt_val {xs : NX} {vs : List (NEnt × Value)} {b : NEnt} {v : V} {u : Value} (r : Paired nkR xs vs) (rv : RelV v u) : ∃ ws, Paired nkR (ptN xs b v) ws ∧ storedH (vs.map (NVal w)) b.1 b.2 u = ws.map (NVal w) := by
  unfold ptN storedH
  rw [lk_some r]
  by_cases c : (lkN xs b.1).isSome = true
  · rw [if_pos c, if_pos c]
    refine ⟨vs.map fun y => if y.1.1 = b.1 then (y.1, u) else y, ?_, ?_⟩
    · clear c
      induction r with
      | nil => exact .nil
      | @cons x y xs vs q r ih =>
        obtain ⟨q1, q2⟩ := q
        simp only [List.map_cons]
        refine .cons ?_ ih
        by_cases c : x.1.1 = b.1
        · rw [if_pos c, if_pos (by rw [← q1]; exact c)]
          exact ⟨q1, rv⟩
        · rw [if_neg c, if_neg (by rw [← q1]; exact c)]
          exact ⟨q1, q2⟩
    · rw [List.map_map, List.map_map]
      refine List.map_congr_left fun y _ => ?_
      show putAt b.1 u (NVal w y) = NVal w (if y.1.1 = b.1 then (y.1, u) else y)
      unfold putAt
      by_cases c3 : y.1.1 = b.1
      · rw [if_pos c3, if_pos (show (NVal w y).1 = b.1 from c3)]
        rfl
      · rw [if_neg c3, if_neg (show ¬ (NVal w y).1 = b.1 from c3)]
  · rw [if_neg c, if_neg c]
    refine ⟨vs ++ [(b, u)], Paired.snoc r ⟨rfl, rv⟩, ?_⟩
    rw [List.map_append]
    rfl
theorem pt_len (xs : NX) (b : NEnt) (v : V) : (ptN xs b v).length ≤ xs.length + 1 := by
  unfold ptN
  split
  · rw [List.length_map]; omega
  · rw [List.length_append]; exact Nat.le_refl _
end
section
variable {X : Cx} {pins : List (Addr × Obj)} {σ : St} {H : Hp} {s : Shared} {a : Addr} {A : Around} {E : Value → Shared → Prop} {xs : NX}
def NkAt (w : World) (H : Hp) (a : Addr) (xs : NX) : Prop := H a = some (nkO w a xs) ∨ ∃ od, H a = some (.frz od (nkO w a xs))
/-- the key y is told -/
def NkKey (P : Program) (w : World) (H : Hp) (y : V) (k : NestedKey) : Prop := (∃ b, y = .ref b) ∧ k.depth ≤ 8 ∧ ∀ h, HOk P w H h → ∀ u, RelV y u → NestedIs h k u
def NkKeys (P : Program) (w : World) (H : Hp) (bs : List NEnt) : Prop := ∀ b ∈ bs, NkKey P w H (.ref b.2) b.1
theorem NkKeys.are {P : Program} {w : World} {h : Heap} {bs : List NEnt} (k : NkKeys P w H bs) (ok : HOk P w H h) : NkIs h bs := fun b hb => ⟨(k b hb).2.2 h ok _ rfl, (k b hb).2.1⟩
theorem nroom (hu : A.units + 9 < cLine) : (nestedKind X.prog X.w).room A.in1 := by
  show A.units + 1 + 8 < cLine
  omega
theorem n_dict (I : Inv X pins σ H s) (g : NkAt X.w H a xs) (hk : NkKeys X.prog X.w H (xs.map (·.1))) : xs.length ≤ sizeLine ∧ (a == sysModules) = false ∧ ∃ vs : List (NEnt × Value), Paired nkR xs vs ∧ s.heap.DictOfH (nestedKind X.prog X.w) a (vs.map (NVal X.w)) := by
  obtain ⟨z, hd, vs, pr, r⟩ := nk_of I.hok g
  exact ⟨z, hd, vs, pr, nk_dict (hk.are I.hok) pr r⟩
theorem n_getItem {y v : V} {u : Value} {k : NestedKey} {Q : Value → Shared → Prop} (hu : A.units + 9 < cLine) (I : Inv X pins σ H s) (g : NkAt X.w H a xs) (hk : NkKeys X.prog X.w H (xs.map (·.1))) (hy : NkKey X.prog X.w H y k) (hv : lkN xs k = some v) (ry : RelV y u) (h : ∀ w' s', Inv X pins σ H s' → RelV v w' → Q w' s') :
    wpAny (model X.prog X.w) A (getItem (.ref a) u) Q E s := by
  obtain ⟨z, hd, vs, pr, dd⟩ := n_dict I g hk
  obtain ⟨⟨b, rfl⟩, k8, kis⟩ := hy
  cases (show u = Value.ref b from ry)
  obtain ⟨w', hw, rw'⟩ := RelO.some_of (v := v) (o := (atKey (vs.map (NVal X.w)) k).map (·.2)) (by rw [← hv]; exact lk_val pr)
  obtain ⟨p, hp, hp2⟩ := Option.map_eq_some_iff.mp hw
  refine wpAny_getItem_heap (nroom hu) ⟨kis _ I.hok _ rfl, k8⟩ dd hp ?_
  rw [hp2]
  exact h w' _ (I.tok _) rw'
theorem n_notIn {y : V} {u : Value} {k : NestedKey} {Q : Value → Shared → Prop} (hu : A.units + 9 < cLine) (I : Inv X pins σ H s) (g : NkAt X.w H a xs) (hk : NkKeys X.prog X.w H (xs.map (·.1))) (hy : NkKey X.prog X.w H y k) (ry : RelV y u) (h : ∀ s', Inv X pins σ H s' → Q (.bool (!(lkN xs k).isSome)) s') :
    wpAny (model X.prog X.w) A (compareOp .NotIn u (.ref a)) Q E s := by
  obtain ⟨z, hd, vs, pr, dd⟩ := n_dict I g hk
  obtain ⟨⟨b, rfl⟩, k8, kis⟩ := hy
  cases (show u = Value.ref b from ry)
  refine wpAny_notIn_heap (nroom hu) ⟨kis _ I.hok _ rfl, k8⟩ hd dd ?_
  rw [lk_some pr]
  exact h _ (I.tok _)
theorem n_setItem {b : Addr} {v : V} {r : Value} {k : NestedKey} {Q : Unit → Shared → Prop} (hu : A.units + 9 < cLine) (I : Inv X pins σ H s) (g : H a = some (nkO X.w a xs)) (hk : NkKeys X.prog X.w H (xs.map (·.1))) (hy : NkKey X.prog X.w H (.ref b) k) (hl : xs.length < sizeLine) (rv : RelV v r) (h : ∀ s', Inv X pins σ (upd H a (nkO X.w a (ptN xs (k, b) v))) s' → Q () s') :
    wpAny (model X.prog X.w) A (setItem (.ref a) (.ref b) r) Q E s := by
  obtain ⟨z, hd, vs, pr, dd⟩ := n_dict I (.inl g) hk
  obtain ⟨_, k8, kis⟩ := hy
  have hz : (vs.map (NVal X.w)).length ≤ sizeLine := by rw [List.length_map, ← Paired.length pr]; exact z
  refine wpAny_setItem_heap (nroom hu) ⟨kis _ I.hok _ rfl, k8⟩ dd (fun h' dd' hs => ?_) hz
  obtain ⟨ws, pr', e⟩ := pt_val (w := X.w) (b := (k, b)) pr rv
  rw [e] at dd'
  have he : ∃ q, h'.get? a = some q := let ⟨o, _, _, q, _⟩ := dd'; ⟨o, q⟩
  refine h _ (d_write I (by rw [g]; exact True.intro) hs he (nk_mk ?_ hd pr' dd'))
  have := pt_len xs (k, b) v
  omega
theorem n_typeIs (I : Inv X pins σ H s) (g : NkAt X.w H a xs) : s.TypeIs (.ref a) "dict" := by
  obtain ⟨_, _, vs, _, o, es, ep, h1, h2, _⟩ := nk_of I.hok g
  exact ⟨o, h1, h2.1⟩
end
section
variable {X : Cx} {o i e value : Expr} {pos pos' tpos : Pos} {td ty tv : TE}
def NGet (P : Program) (w : World) (H : Hp) (a : Addr) (y : V) (r : Option V) : Prop := ∃ xs k, NkAt w H a xs ∧ NkKeys P w H (xs.map (·.1)) ∧ NkKey P w H y k ∧ r = lkN xs k
def tNGet (P : Program) (w : World) (td ty : TE) : TE := fun σ H Q => td σ H fun x H1 => ty σ H1 fun y H2 => ∃ a v, x = .ref a ∧ NGet P w H2 a y (some v) ∧ Q v H2
def tNIn (P : Program) (w : World) (n : Bool) (ty td : TE) : TE := fun σ H Q => ty σ H fun y H1 => td σ H1 fun x H2 => ∃ a o, x = .ref a ∧ NGet P w H2 a y o ∧ Q (.bl (if n then !o.isSome else o.isSome)) H2
def sNPut (P : Program) (w : World) (td ty tv : TE) : TS := fun D σ H => tv σ H fun v H1 => td σ H1 fun x H2 => ty σ H2 fun y H3 => ∃ a xs b k, x = .ref a ∧ y = .ref b ∧ H3 a = some (nkO w a xs) ∧ NkKeys P w H3 (xs.map (·.1)) ∧ NkKey P w H3 (.ref b) k ∧ xs.length < sizeLine ∧ D.nx σ (upd H3 a (nkO w a (ptN xs (k, b) v)))
theorem pe_nget (hu : X.A.units + 9 < cLine) (ho : PE X o td) (hi : PE X i ty) (hs : NoSl i) : PE X (.Subscript o i pos) (tNGet X.prog X.w td ty) := by
  refine ⟨fun pins s σ H Q I h => ?_⟩
  refine subD_of PySem.F.slot_dict_getitem.lookup hs (thn (ho.run pins s σ H _ I h) fun u s1 ⟨x, H1, I1, rx, q1⟩ => thn (hi.run pins s1 σ H1 _ I1 q1) fun iv s2 ⟨y, H2, I2, ry, a, v, ex, g, q2⟩ => ?_)
  subst ex
  obtain rfl : u = Value.ref a := rx
  obtain ⟨xs, k, g1, g2, g3, g4⟩ := g
  exact ⟨n_typeIs I2 g1, n_getItem hu I2 g1 g2 g3 g4.symm ry fun w' s3 I3 rw' => ⟨v, H2, I3, rw', q2⟩⟩
theorem pc_nnin (hu : X.A.units + 9 < cLine) (hi : PE X i ty) (ho : PE X o td) : PC X .NotIn i o (tNIn X.prog X.w true ty td) := by
  refine ⟨fun pins s σ H Q I h => ?_⟩
  refine thn (hi.run pins s σ H _ I h) fun iv s1 ⟨y, H1, I1, ry, q1⟩ => thn (ho.run pins s1 σ H1 _ I1 q1) fun u s2 ⟨x, H2, I2, rx, a, ov, ex, g, q2⟩ => ?_
  subst ex
  obtain rfl : u = Value.ref a := rx
  obtain ⟨xs, k, g1, g2, g3, rfl⟩ := g
  exact n_notIn hu I2 g1 g2 g3 ry fun s3 I3 => ⟨.bl _, H2, I3, rfl, q2⟩
theorem ps_nput (hu : X.A.units + 9 < cLine) (ho : PE X o td) (hi : PE X i ty) (hv : PE X value tv) (hs : swapsWith value (some (.Subscript o i pos')) pos.line X.env = pure false) :
    PS X (.Assign [.Subscript o i pos'] value pos) (sNPut X.prog X.w td ty tv) := by
  refine ⟨fun pins s σ H D I h => ?_⟩
  refine wpAny_Assign_Subscript (thn (hv.run pins s σ H _ I h) fun r s1 ⟨v, H1, I1, rv, q1⟩ => thn (ho.run pins s1 σ H1 _ I1 q1) fun u s2 ⟨x, H2, I2, rx, q2⟩ => thn (hi.run pins s2 σ H2 _ I2 q2) fun iv s3 ⟨y, H3, I3, ry, a, xs, b, k, ex, ey, g1, g2, g3, g4, q3⟩ => ?_) hs
  subst ex ey
  obtain rfl : u = Value.ref a := rx
  obtain rfl : iv = Value.ref b := ry
  exact n_setItem hu I3 g1 g2 g3 g4 rv fun s4 I4 => ⟨σ, _, I4, q3⟩
/-- {}, to be such a dict -/
def tNNew (w : World) : TE := fun _ H Q => ∀ p, H p = none → Q (.ref p) (upd H p (nkO w p []))
theorem pe_nnew : PE X (.Dict [] [] pos) (tNNew X.w) := ⟨fun pins s σ H Q I h =>
  wpAny_Dict_empty ⟨.ref s.heap.objs.size, _, I.laid (a := s.heap.objs.size) (o := nkO X.w s.heap.objs.size []) (t' := s.toks) (fun _ _ q => Heap.get?_push_of_some _ q) (Nat.le_refl _)
    (nk_mk (P := X.prog) (vs := []) (Nat.zero_le _) (beq_eq_false_iff_ne.mpr (Ne.symm (Nat.ne_of_lt I.big))) .nil ⟨_, #[], 0, Heap.get?_push_size _ rfl, ⟨rfl, rfl, rfl⟩, rfl, rfl, (fun x hx => by cases hx), List.nodup_nil⟩), rfl, h _ (I.hok.fresh (Nat.le_refl _))⟩⟩
end
end L2.M
namespace L2.M
open PySem PySem.Spec PyProof.Rows
def okKey : D → Option NestedKey
  | .tuple ds => (nKey (.tuple ds)).bind fun n => if n.depth ≤ 8 then some n else none
  | _ => none
def idxN (ks : List D) (key : NestedKey) : Option Nat := ks.findIdx? fun k => decide (nKey k = some key)
def nKs : C → Option (List D)
  | .ob (.dn ks) _ => some ks
  | .fd kds => some (kds.map (·.1))
  | _ => none
def nVl : C → Nat → Option D
  | .ob (.dn _) cs, j => match cs[j]? with
    | some (.sh d) => some d
    | _ => none
  | .fd kds, j => (kds[j]?).map (·.2)
  | _, _ => none
section
variable {K : Ek} {F R H : Hp} {σ : St} {ε : Cs} {T : Tms} {i : Nat} {c : C} {ks : List D} {bs : List NEnt} {vs : List V} {key : NestedKey}
theorem KeysN.len : ∀ {ks : List D} {bs : List NEnt}, KeysN K.1 F bs ks → bs.length = ks.length
  | [], bs, h => by cases (show bs = [] from h); rfl
  | k :: ks, bs, ⟨b, r, h1, _, _, _, h5⟩ => by rw [h1, List.length_cons, List.length_cons, KeysN.len h5]
theorem KeysN.nk {P : Program} {w : World} (fs : Same F H) : ∀ {ks : List D} {bs : List NEnt}, KeysN K.1 F bs ks → NkKeys P w H bs
  | [], bs, h => by
    cases (show bs = [] from h)
    intro b hb
    cases hb
  | k :: ks, bs, ⟨b, r, h1, h2, h3, h4, h5⟩ => by
    subst h1
    intro b' hb
    rcases List.mem_cons.mp hb with rfl | hb
    · exact ⟨⟨_, rfl⟩, h3, fun h ok u q => nk_is fs ok k _ _ u h2 h4 q⟩
    · exact KeysN.nk fs h5 b' hb
theorem KeysN.idx (key : NestedKey) : ∀ {ks : List D} {bs : List NEnt}, KeysN K.1 F bs ks → (bs.findIdx? fun b => decide (b.1 = key)) = idxN ks key
  | [], bs, h => by
    cases (show bs = [] from h)
    rfl
  | k :: ks, bs, ⟨b, r, h1, h2, h3, h4, h5⟩ => by
    subst h1
    have ih := KeysN.idx key h5
    unfold idxN at ih ⊢
    rw [List.findIdx?_cons, List.findIdx?_cons, ih, h2]
    have e : decide (b.1 = key) = decide (some b.1 = some key) := by
      by_cases c : b.1 = key
      · simp [c]
      · simp [c]
    rw [e]
theorem KeysN.app {b : NEnt} {k : D} (h1 : nKey k = some b.1) (h2 : b.1.depth ≤ 8) (h3 : Rep K.1 F (.ref b.2) k) : ∀ {ks : List D} {bs : List NEnt}, KeysN K.1 F bs ks → KeysN K.1 F (bs ++ [b]) (ks ++ [k])
  | [], bs, h => by
    cases (show bs = [] from h)
    exact ⟨b, [], rfl, h1, h2, h3, rfl⟩
  | k' :: ks, bs, ⟨b', r, g1, g2, g3, g4, g5⟩ => by
    subst g1
    exact ⟨b', r ++ [b], rfl, g2, g3, g4, KeysN.app h1 h2 h3 g5⟩
theorem lk_zip {key : NestedKey} : ∀ {bs : List NEnt} {vs : List V}, bs.length = vs.length → lkN (bs.zip vs) key = (bs.findIdx? fun b => decide (b.1 = key)).bind fun j => vs[j]?
  | [], [], _ => rfl
  | [], _ :: _, h => by cases h
  | _ :: _, [], h => by cases h
  | b :: bs, v :: vs, h => by
    have ih := lk_zip (key := key) (bs := bs) (vs := vs) (by simpa using h)
    rw [List.findIdx?_cons]
    by_cases c : b.1 = key
    · simp [lkN, c]
    · rw [if_neg (by simpa using c)]
      have e : lkN ((b :: bs).zip (v :: vs)) key = lkN (bs.zip vs) key := by simp [lkN, c]
      rw [e, ih, Option.bind_map]
      rfl
theorem nVl_ob {ks : List D} {cs : List C} {j : Nat} {d : D} (h : nVl (.ob (.dn ks) cs) j = some d) : cs[j]? = some (.sh d) := by
  have h : (match cs[j]? with
    | some (.sh d) => some d
    | _ => none) = some d := h
  split at h
  · rename_i d' hc
    cases h
    exact hc
  · cases h
theorem Sep.nview (s : Sep K F R H σ ε T) (h : ε[i]? = some c) (hk : nKs c = some ks) : ∃ a bs vs, σ[i]? = some (some (.ref a)) ∧ NkAt K.2 H a (bs.zip vs) ∧ bs.length = vs.length ∧ KeysN K.1 F bs ks ∧ ∀ j d, nVl c j = some d → ∃ v, vs[j]? = some v ∧ Rep K.1 F v d := by
  obtain ⟨o, f, e1, h1⟩ := s.cell h
  match c, hk, h1 with
  | .ob (.dn ks') cs, hk, h1 =>
    cases hk
    obtain ⟨a, vs, fs, rfl, e2, ⟨bs, g1, g2, g3, _⟩, h4⟩ := h1
    refine ⟨a, bs, vs, e1, .inl g1, g2, g3, fun j d hd => ?_⟩
    have hc : cs[j]? = some (.sh d) := nVl_ob hd
    obtain ⟨o', f', k1, k2, _, v, rfl, r⟩ := h4.get hc
    rw [List.getElem?_map] at k1
    obtain ⟨v', hv, e⟩ := Option.map_eq_some_iff.mp k1
    injection e with e
    subst e
    exact ⟨_, hv, r⟩
  | .fd kds, hk, h1 =>
    cases hk
    obtain ⟨_, a, rfl, od, bs, vs, g1, g2, g3, g4⟩ := h1
    refine ⟨a, bs, vs, e1, .inr ⟨od, s.sub _ _ g1⟩, g2, g3, fun j d hd => ?_⟩
    have hd : (kds.map (·.2))[j]? = some d := by rw [List.getElem?_map]; exact hd
    exact g4.get hd
theorem nlk (hl : bs.length = vs.length) (hk : KeysN K.1 F bs ks) (key : NestedKey) : lkN (bs.zip vs) key = (idxN ks key).bind fun j => vs[j]? := by
  rw [lk_zip hl, hk.idx]
theorem nlk_some (hl : bs.length = vs.length) (hk : KeysN K.1 F bs ks) (key : NestedKey) : (lkN (bs.zip vs) key).isSome = (idxN ks key).isSome := by
  rw [nlk hl hk]
  cases e : idxN ks key with
  | none => rfl
  | some j =>
    unfold idxN at e
    have hj := (List.findIdx?_eq_some_iff_findIdx_eq.mp e).1
    have : j < vs.length := by rw [← hl, hk.len]; exact hj
    simp [this]
theorem okKey_rep {P : Program} {w : World} {d : D} {v : V} (fs : Same F H) (h : okKey d = some key) (r : RepB K.1 F H v d) : NkKey P w H v key ∧ Rep K.1 F v d ∧ nKey d = some key ∧ key.depth ≤ 8 := by
  unfold okKey at h
  split at h
  · rename_i ds
    cases e : nKey (.tuple ds) with
    | none => simp [e] at h
    | some n =>
      simp only [e, Option.bind_some] at h
      split at h
      · rename_i hn
        cases h
        have rr : Rep K.1 F v (.tuple ds) := by
          rcases r with r | ⟨a, ws, ds', _, hq, _⟩
          · exact r
          · cases hq
        exact ⟨⟨nk_ref rr, hn, fun h ok u q => nk_is fs ok _ _ _ u e rr q⟩, rr, rfl, hn⟩
      · cases h
  · cases h
end
def mNNew : EM := fun ε => some (.ob (.dn []) [], ε)
def mNIn (n : Bool) (i : Nat) (m : OM) : EM := fun ε => do
  let (o, ε1) ← m ε
  let k ← bor ε1 o
  let key ← okKey k
  let c ← ε1[i]?
  let ks ← nKs c
  some (.sh (.bool (if n then !(idxN ks key).isSome else (idxN ks key).isSome)), ε1)
def mNGet (i : Nat) (m : OM) : EM := fun ε => do
  let c0 ← ε[i]?
  let _ ← nKs c0
  let (o, ε1) ← m ε
  let k ← bor ε1 o
  let key ← okKey k
  let c ← ε1[i]?
  let ks ← nKs c
  let j ← idxN ks key
  let d ← nVl c j
  some (.sh d, ε1)
/-- d[k] = e -/
def mNPut (i : Nat) (m : EM) (ix : OM) : XM := fun ε => do
  let (c, ε1) ← m ε
  match ε1[i]? with
  | some (.ob (.dn _) _) => do
    let (p, ε2) ← ix ε1
    let k ← bor ε2 p
    let key ← okKey k
    match ε2[i]? with
      | some (.ob (.dn ks) cs) => if cs.length < sizeLine then some (.nx, ε2.set i (match idxN ks key with
          | some j => .ob (.dn ks) (cs.set j c)
          | none => .ob (.dn (ks ++ [k])) (cs ++ [c]))) else none
      | _ => none
  | _ => none
section
variable {X : Cx} {W : Xw} {io : List Nat} {e kx : Expr} {y : Str} {p p2 pos : Pos} {m : OM} {i k : Nat}
theorem nkey {K : Ek} {P : Program} {w : World} {σ : St} {H : Hp} {m : OM} {ε ε1 : Cs} {o : Opd} {F R : Hp} {kd : D} {key : NestedKey} {Q : V → Hp → Prop} (s : Sep K F R H σ ε []) (e1 : m ε = some (o, ε1)) (e2 : bor ε1 o = some kd) (e3 : okKey kd = some key)
    (h : ∀ F1 H1 v, Same F F1 → Sep K F1 R H1 σ ε1 [] → NkKey P w H1 v key → Q v H1) : tO K m σ H Q := by
  refine ⟨F, R, ε, o, ε1, s, e1, fun v F1 H1 fm v1 s1 => ?_⟩
  rw [← List.append_nil (tmO [o] [v])] at s1
  have rb := (bors_ok s1 v1 (by simp [bors, e2] : bors ε1 [o] = some [kd])).inj1
  have s2 := s1.drops _
  exact h F1 H1 v fm s2 (okKey_rep s2.sub e3 rb).1
theorem nin_core {K : Ek} {P : Program} {σ : St} {H : Hp} {Q : VK} {n : Bool} (h : tE K (mNIn n i m) σ H Q) : tO K m σ H fun y H1 => tVar i σ H1 fun x H2 => ∃ a o, x = .ref a ∧ NGet P K.2 H2 a y o ∧ Q (.bl (if n then !o.isSome else o.isSome)) H2 := by
  obtain ⟨F, R, ε, c, ε', s, e, q⟩ := h
  unfold mNIn at e
  cases e1 : m ε with
  | none => simp [e1] at e
  | some p =>
    obtain ⟨o, ε1⟩ := p
    cases e2 : bor ε1 o with
    | none => simp [e1, e2] at e
    | some kd =>
      cases e3 : okKey kd with
      | none => simp [e1, e2, e3] at e
      | some key =>
        cases e4 : ε1[i]? with
        | none => simp [e1, e2, e3, e4] at e
        | some c1 =>
          cases e5 : nKs c1 with
          | none => simp [e1, e2, e3, e4, e5] at e
          | some ks =>
            simp only [e1, e2, e3, e4, e5, Option.bind_eq_bind, Option.bind_some] at e
            cases e
            refine nkey (P := P) (w := K.2) s e1 e2 e3 fun F1 H1 v fm s2 nk => ?_
            obtain ⟨a, bs, vs, g1, g2, g3, g4, _⟩ := s2.nview e4 e5
            refine ⟨_, g1, a, lkN (bs.zip vs) key, rfl, ⟨_, key, g2, ?_, nk, rfl⟩, ?_⟩
            · rw [List.map_fst_zip (by omega)]
              exact g4.nk s2.sub
            · rw [nlk_some g3 g4]
              exact q _ F1 H1 fm (s2.addSh rfl)
theorem y_nnin (hr : Room k X.A) (hv : PE X (.Name y p) (tVar i)) (he : PE X e (tO X.E m)) (hm : behindInMarks .NotIn (.Name y p) = false := by rfl) : PT X (.Compare e [.NotIn] [.Name y p] pos) (tT X.E (mTst (mNIn true i m))) :=
  (pt_cmp (pc_nnin (by have := hr.un; omega) he hv) hm).weak fun σ H Q h => nin_core (tE_tst h)
theorem x_nget (hr : Room k X.A) (hv : PE X (.Name y p) (tVar i)) (he : PE X kx (tO X.E m)) (hs : NoSl kx := by exact fun _ _ => rfl) : PE X (.Subscript (.Name y p) kx pos) (tE X.E (mNGet i m)) :=
  (pe_nget (by have := hr.un; omega) hv he hs).weak fun σ H Q h => by
    obtain ⟨F, R, ε, c, ε', s, e, q⟩ := h
    unfold mNGet at e
    cases e0 : ε[i]? with
    | none => simp [e0] at e
    | some c0 =>
      cases e00 : nKs c0 with
      | none => simp [e0, e00] at e
      | some ks0 =>
        cases e1 : m ε with
        | none => simp [e0, e00, e1] at e
        | some p =>
          obtain ⟨o, ε1⟩ := p
          cases e2 : bor ε1 o with
          | none => simp [e0, e00, e1, e2] at e
          | some kd =>
            cases e3 : okKey kd with
            | none => simp [e0, e00, e1, e2, e3] at e
            | some key =>
              cases e4 : ε1[i]? with
              | none => simp [e0, e00, e1, e2, e3, e4] at e
              | some c1 =>
                cases e5 : nKs c1 with
                | none => simp [e0, e00, e1, e2, e3, e4, e5] at e
                | some ks =>
                  cases e6 : idxN ks key with
                  | none => simp [e0, e00, e1, e2, e3, e4, e5, e6] at e
                  | some j =>
                    cases e7 : nVl c1 j with
                    | none => simp [e0, e00, e1, e2, e3, e4, e5, e6, e7] at e
                    | some d =>
                      simp only [e0, e00, e1, e2, e3, e4, e5, e6, e7, Option.bind_eq_bind, Option.bind_some] at e
                      cases e
                      obtain ⟨a0, _, _, hw, _⟩ := s.nview e0 e00
                      refine ⟨_, hw, nkey (P := X.prog) (w := X.w) s e1 e2 e3 fun F1 H1 v fm s2 nk => ?_⟩
                      obtain ⟨a, bs, vs, g1, g2, g3, g4, g5⟩ := s2.nview e4 e5
                      rw [hw] at g1
                      cases g1
                      obtain ⟨v', hv', r⟩ := g5 j d e7
                      refine ⟨_, v', rfl, ⟨_, key, g2, ?_, nk, ?_⟩, q _ F1 H1 fm (s2.addSh r)⟩
                      · rw [List.map_fst_zip (by omega)]
                        exact g4.nk s2.sub
                      · rw [nlk g3 g4, e6]
                        exact hv'.symm
theorem x_nnew : PE X (.Dict [] [] pos) (tE X.E mNNew) := pe_nnew.weak fun σ H Q h => by
  obtain ⟨F, R, ε, c, ε', s, e, q⟩ := h
  cases e
  intro p hp
  refine q _ _ _ (Same.refl F) ?_
  exact Sep.change (T1 := []) s fun gs h n _ => ⟨[p], ⟨p, [], [], rfl, rfl, ⟨[], upd_same, rfl, rfl, List.nodup_nil⟩, rfl, rfl⟩, by simp, fun b hb => .inr (by rw [List.mem_singleton.mp hb]; exact hp), fun b u _ e => by rw [upd_ne (ne_of_none e hp)]; exact e⟩
theorem pt_zip {key : NestedKey} {b : Addr} {v : V} {bs : List NEnt} {vs : List V} (hl : bs.length = vs.length) (nd : (bs.map (·.1)).Nodup) :
    (∀ j, (bs.findIdx? fun b => decide (b.1 = key)) = some j → ptN (bs.zip vs) (key, b) v = bs.zip (vs.set j v)) ∧ ((bs.findIdx? fun b => decide (b.1 = key)) = none → ptN (bs.zip vs) (key, b) v = (bs ++ [(key, b)]).zip (vs ++ [v])) := by
  refine ⟨fun j hj => ?_, fun hj => ?_⟩
  · have e1 : (lkN (bs.zip vs) key).isSome = true := by
      rw [lk_zip hl, hj]
      have := (List.findIdx?_eq_some_iff_findIdx_eq.mp hj).1
      have : j < vs.length := by omega
      simp [this]
    unfold ptN
    rw [if_pos e1]
    clear e1
    induction bs generalizing vs j with
    | nil => cases hj
    | cons c bs ih =>
      cases vs with
      | nil => cases hl
      | cons u vs =>
        rw [List.map_cons, List.nodup_cons] at nd
        rw [List.findIdx?_cons] at hj
        rw [List.zip_cons_cons, List.map_cons]
        by_cases hc : c.1 = key
        · rw [if_pos (by simpa using hc)] at hj
          cases hj
          rw [if_pos hc, List.set_cons_zero, List.zip_cons_cons]
          refine congrArg _ ?_
          conv => rhs; rw [← List.map_id (bs.zip vs)]
          refine List.map_congr_left fun x hx => ?_
          have hx : x.1 ∈ bs := (List.of_mem_zip hx).1
          rw [if_neg fun z => nd.1 (by have z : x.1.1 = key := z; rw [hc, ← z]; exact List.mem_map_of_mem hx)]
          rfl
        · rw [if_neg (by simpa using hc)] at hj
          obtain ⟨j', hj', rfl⟩ := Option.map_eq_some_iff.mp hj
          rw [if_neg hc, List.set_cons_succ, List.zip_cons_cons]
          exact congrArg _ (ih (by simpa using hl) nd.2 j' hj')
  · have e1 : (lkN (bs.zip vs) key).isSome = false := by
      rw [lk_zip hl, hj]
      rfl
    unfold ptN
    rw [if_neg (by rw [e1]; simp), List.zip_append hl]
    rfl
theorem z_nput (hr : Room k X.A) (i : Nat) {m : EM} {ix : OM} (hv : PE X (.Name y p) (tVar i)) (he : PE X e (tE X.E m)) (hk : PE X kx (tO X.E ix)) (hs : swapsWith e (some (.Subscript (.Name y p) kx p2)) pos.line X.env = pure false := by rfl) :
    PS X (.Assign [.Subscript (.Name y p) kx p2] e pos) (tS X.E W io (mNPut i m ix)) :=
  (ps_nput (by have := hr.un; omega) hv hk he hs).weak fun De σ H h => by
    obtain ⟨F, R, ε, f, ε', s, e, q⟩ := h
    unfold mNPut at e
    cases e1 : m ε with
    | none => simp [e1] at e
    | some p =>
      obtain ⟨c, ε1⟩ := p
      simp only [e1, Option.bind_eq_bind, Option.bind_some] at e
      split at e
      · rename_i ks0 cs0 hx0
        cases e2 : ix ε1 with
        | none => simp [e2] at e
        | some p2 =>
          obtain ⟨o, ε2⟩ := p2
          cases e3 : bor ε2 o with
          | none => simp [e2, e3] at e
          | some kd =>
            cases e4 : okKey kd with
            | none => simp [e2, e3, e4] at e
            | some key =>
              simp only [e2, e3, e4, Option.bind_some] at e
              split at e
              · rename_i ks cs hx
                split at e
                · rename_i hl
                  cases e
                  refine ⟨F, R, ε, c, ε1, s, e1, fun v F1 H1 fm1 p1 => ?_⟩
                  obtain ⟨w, hw⟩ := p1.val hx0 fun z => nomatch z
                  obtain ⟨R1, _, p2, bk⟩ := p1.hide
                  refine ⟨w, hw, F1, R1, ε1, o, ε2, p2, e2, fun kv F3 H3 fm3 v3 s3 => ?_⟩
                  rw [← List.append_nil (tmO [o] [kv])] at s3
                  have rb := (bors_ok s3 v3 (by simp [bors, e3] : bors ε2 [o] = some [kd])).inj1
                  have s4 := bk F3 H3 σ ε2 [] fm3 (s3.drops _)
                  obtain ⟨nk, rk, n1, n2⟩ := okKey_rep (P := X.prog) (w := X.w) s4.sub e4 rb
                  obtain ⟨⟨b, rfl⟩, _, _⟩ := id nk
                  have key2 : ∀ kd', ∃ a vs, σ[i]? = some (some (.ref a)) ∧ ObAt X.E F3 H3 a vs (.dn ks) ∧ vs.length = cs.length ∧ ∀ o us ds, (∀ gg f, RpCs X.E F3 H3 (vs.map some) cs gg → RpC X.E F3 H3 (some v) c f → (gg.flatten ++ f).Nodup → ∃ g2, RpCs X.E F3 H3 (us.map some) ds g2 ∧ g2.flatten.Nodup ∧ ∀ b ∈ g2.flatten, b ∈ gg.flatten ++ f) →
                      ObAt X.E F3 (upd H3 a o) a us kd' → Sep X.E F3 R (upd H3 a o) σ (ε2.set i (.ob kd' ds)) [] := fun kd' => s4.part (kd' := kd') hx
                  have z1 : ∀ (vs : List V) (ds : List C) (us : List V) (o : HO) (a : Addr), True := fun _ _ _ _ _ => trivial
                  cases e6 : idxN ks key with
                  | some j =>
                    obtain ⟨a, vs, g1, ⟨bs, g2, g3, g4, g5⟩, g6, k1⟩ := key2 (.dn ks)
                    rw [hw] at g1
                    cases g1
                    have hz : (bs.zip vs).length < sizeLine := by rw [List.length_zip]; omega
                    refine ⟨a, bs.zip vs, b, key, rfl, rfl, g2, ?_, nk, hz, ?_⟩
                    · rw [List.map_fst_zip (by omega)]
                      exact g4.nk s4.sub
                    · have pz := (pt_zip (key := key) (b := b) (v := v) g3 g5).1 j (by rw [g4.idx, e6])
                      rw [pz]
                      refine q F3 _ σ (fm1.trans fm3) (StS.refl σ) ?_
                      simp only [e6]
                      exact k1 _ (vs.set j v) (cs.set j c) (fun gg f g r n => part_set g r n) ⟨bs, upd_same, by rw [List.length_set]; exact g3, g4, g5⟩
                  | none =>
                    obtain ⟨a, vs, g1, ⟨bs, g2, g3, g4, g5⟩, g6, k1⟩ := key2 (.dn (ks ++ [kd]))
                    rw [hw] at g1
                    cases g1
                    have hz : (bs.zip vs).length < sizeLine := by rw [List.length_zip]; omega
                    refine ⟨a, bs.zip vs, b, key, rfl, rfl, g2, ?_, nk, hz, ?_⟩
                    · rw [List.map_fst_zip (by omega)]
                      exact g4.nk s4.sub
                    · have hj : (bs.findIdx? fun b => decide (b.1 = key)) = none := by rw [g4.idx, e6]
                      have pz := (pt_zip (key := key) (b := b) (v := v) g3 g5).2 hj
                      rw [pz]
                      refine q F3 _ σ (fm1.trans fm3) (StS.refl σ) ?_
                      simp only [e6]
                      refine k1 _ (vs ++ [v]) (cs ++ [c]) (fun gg f g r n => part_add g r n) ⟨bs ++ [(key, b)], upd_same, by simp [g3], g4.app n1 n2 rk, ?_⟩
                      rw [List.map_append, List.nodup_append]
                      refine ⟨g5, by simp, fun x hx y hy z => ?_⟩
                      rw [List.mem_singleton.mp hy] at z
                      obtain ⟨b', hb', rfl⟩ := List.mem_map.mp hx
                      rw [List.findIdx?_eq_none_iff] at hj
                      have := hj b' hb'
                      simp at this
                      exact this z
                · cases e
              · cases e
      · cases e
end
end L2.M
namespace L2.M
open PySem PySem.Spec PyProof.Rows
def Itn (a : Addr) (o : Obj) (u : HO) (xs : NX) : It :=
  ⟨fun i H => H a = some (.frz o u) ∧ i < xs.length, fun i H x H' => H' = H ∧ ∃ b v, xs[i]? = some (b, v) ∧ x = .ref b.2, fun i H => H a = some (.frz o u) ∧ xs.length ≤ i⟩
section
variable {X : Cx} {pins : List (Addr × Obj)} {σ : L2.St} {H : Hp} {s : Shared} {a : Addr} {o : Obj} {xs : NX}
theorem nkr_get : ∀ {xs : NX} {vs : List (NEnt × Value)} {i : Nat} {x : NEnt × V}, Paired nkR xs vs → xs[i]? = some x → ∃ y, vs[i]? = some y ∧ nkR x y
  | _, _, i, _, .nil, e => by simp at e
  | _, _, 0, _, .cons q r, e => by
    simp at e
    subst e
    exact ⟨_, rfl, q⟩
  | _, _, i + 1, x, .cons q r, e => by
    obtain ⟨y, h1, h2⟩ := nkr_get (i := i) r (by simpa using e)
    exact ⟨y, by simpa using h1, h2⟩
theorem nk_ents (I : Inv X pins σ H s) (g : NkAt X.w H a xs) : (a == sysModules) = false ∧ ∃ (o : Obj) (es : Array DictEntry) (ep : Nat), s.heap.get? a = some o ∧ o.ExactDict ∧ o.data = .dict es ep ∧ es.size = xs.length ∧ xs.length ≤ sizeLine ∧
    ∀ (i : Nat) (b : NEnt) (v : V), xs[i]? = some (b, v) → ∃ en : DictEntry, es[i]? = some en ∧ en.key = .ref b.2 ∧ RelV v en.val := by
  obtain ⟨z, hd, vs, pr, o, es, ep, h1, h2, h3, h4, h5⟩ := nk_of I.hok g
  have l1 : es.size = vs.length := by
    have := congrArg List.length h4
    rw [List.length_map, Array.length_toList] at this
    exact this
  refine ⟨hd, o, es, ep, h1, h2, h3, by rw [l1]; exact (Paired.length pr).symm, z, fun i b v e => ?_⟩
  obtain ⟨y, hy, q1, q2⟩ := nkr_get pr e
  refine ⟨nkE X.w y, ?_, ?_, q2⟩
  · rw [← Array.getElem?_toList, h4, List.getElem?_map, hy]
    rfl
  · show Value.ref y.1.2 = _
    rw [← q1]
theorem nk_frz (I : Inv X pins σ H s) (g : H a = some (.frz o (nkO X.w a xs))) : (a == sysModules) = false ∧ s.heap.get? a = some o ∧ o.ExactDict ∧ ∃ (es : Array DictEntry) (ep : Nat), o.data = .dict es ep ∧ es.size = xs.length ∧
    ∀ (i : Nat) (b : NEnt) (v : V), xs[i]? = some (b, v) → ∃ en : DictEntry, es[i]? = some en ∧ en.key = .ref b.2 ∧ RelV v en.val := by
  obtain ⟨hd, o', es, ep, h1, h2, h3, h4, _, h5⟩ := nk_ents I (.inr ⟨o, g⟩)
  have h0 : s.heap.get? a = some o := (I.hok a _ g).1
  rw [h0] at h1
  cases h1
  exact ⟨hd, h0, h2, es, ep, h3, h4, h5⟩
end
theorem turn_keysN {P : Program} {w : World} {K : PySem.W.Frag} {tg : Expr} {d : Addr} {o : Obj} {es : Array DictEntry} {ep : Nat} {xs : NX} (it : Addr) (hod : o.data = .dict es ep) : Turn P w K tg (Itn d o (nkO w d xs) xs) [it] it (fun i h => h.IsKeyIter it d i xs.length ep) where
  mem := by simp
  obj := fun i h st b hb => by
    have e : b = it := by simpa using hb
    subst e
    obtain ⟨oi, e, c, dd⟩ := st
    exact ⟨oi, e, fun v z => by rw [dd] at z; cases z⟩
  keep := fun i h h' st k => st.at fun oi e => k it (by simp) oi e
  item := by
    intro X hP hw hK hc i pins s σ H E I hf st hg
    subst hP hw hK
    obtain ⟨hd, hi⟩ := hg
    obtain ⟨f0, f1, f2, f3, f4, f5⟩ := hf it (by simp)
    obtain ⟨hs, hgd, hx, es', ep', hdt, hsz, ent⟩ := nk_frz I hd
    obtain ⟨rfl, rfl⟩ := dict_ep hod hdt
    obtain ⟨⟨k, v⟩, hkv⟩ : ∃ p, xs[i]? = some p := ⟨xs[i], List.getElem?_eq_getElem hi⟩
    obtain ⟨en, hen, hkey, hq⟩ := ent i k v hkv
    refine next_key_item st hgd hdt hsz hen fun h' st' sb => ?_
    have I1 : Inv X pins σ H { s with heap := h' } := I.turned (t' := s.toks) (fun b ob hb e => (sb.2 b hb).trans e) f0 f1 f3 f4 f5
    obtain ⟨oi, e, c, dd⟩ := id st'
    exact ⟨en.key, rfl, go_of (s := { s with heap := h' }) e c dd (by decide) ⟨.ref k.2, H, I1, hkey, ⟨rfl, k, v, hkv, rfl⟩, st', fun b hb => (hf b hb).1⟩⟩
  done := by
    intro X hP hw hK hc i pins s σ H E I hf st hg
    subst hP hw hK
    obtain ⟨hd, hi⟩ := hg
    obtain ⟨f0, f1, f2, f3, f4, f5⟩ := hf it (by simp)
    obtain ⟨hs, hgd, hx, es', ep', hdt, hsz, ent⟩ := nk_frz I hd
    obtain ⟨rfl, rfl⟩ := dict_ep hod hdt
    exact next_key_end (I.ok.hd hc) st hgd hdt hsz hi fun h' eb => ⟨rfl, I.turned (t' := s.toks) (fun b ob hb e => eb b ob hb e) f0 f1 f3 f4 f5⟩
  self := fun A i s Q E st h => wpAny_pyIter_keyiter st h
def iKeysN (w : World) (td : TE) : TI := fun σ H R => td σ H fun x H1 => ∃ d xs, x = .ref d ∧ ((∃ o, H1 d = some (.frz o (nkO w d xs)) ∧ R (Itn d o (nkO w d xs) xs) H1) ∨ (H1 d = some (nkO w d xs) ∧ ∀ o, R (Itn d o (nkO w d xs) xs) (upd H1 d (.frz o (nkO w d xs)))))
theorem pi_keysN {X : Cx} {tg e : Expr} {td : TE} (he : PE X e td) : PI X tg e (iKeysN X.w td) := by
  refine ⟨fun pins s σ H R I h => ?_⟩
  refine thn (he.run pins s σ H _ I h) fun u s1 ⟨x, H1, I1, rx, d, xs, ex, q⟩ => ?_
  subst ex
  obtain rfl : u = Value.ref d := rx
  obtain ⟨H2, I2, o, hd, q⟩ : ∃ H2, Inv X pins σ H2 s1 ∧ ∃ o, H2 d = some (.frz o (nkO X.w d xs)) ∧ R (Itn d o (nkO X.w d xs) xs) H2 := by
    rcases q with ⟨o, hd, q⟩ | ⟨hd, q⟩
    · exact ⟨H1, I1, o, hd, q⟩
    · obtain ⟨o, I2⟩ := I1.lock hd True.intro
      exact ⟨_, I2, o, upd_same, q o⟩
  obtain ⟨hs, hgd, hx, es, ep, hdt, hsz, ent⟩ := nk_frz I2 hd
  refine iter_keys hs hgd hx hdt (pi_one (tk := s1.toks) I2 _ (turn_keysN _ hdt) ⟨_, Heap.get?_push_size _ rfl, rfl, ?_⟩ q)
  rw [hsz] <;> rfl
/-- own things as data -/
def cF : C → Option D
  | .sh d => some d
  | .ls ds => some (.list ds)
  | .dc 0 kds => some (.dict kds)
  | _ => none
def cFs : List C → Option (List D)
  | [] => some []
  | c :: cs => match cF c, cFs cs with
    | some d, some ds => some (d :: ds)
    | _, _ => none
section
variable {K : Ek} {F F' R H : Hp} {σ : L2.St} {ε : Cs} {T : Tms} {i : Nat}
theorem cF_rep (fm : Same F F') {c : C} {d : D} {v : V} {f : List Addr} (h : RpC K F H (some v) c f) (e : cF c = some d) (hf : ∀ b ∈ f, F' b = H b) : Rep K.1 F' v d := by
  cases c with
  | no => cases e
  | sh d' =>
    cases e
    obtain ⟨_, w, hw, r⟩ := h
    cases hw
    exact r.mono fm
  | ls ds =>
    cases e
    obtain ⟨a, vs, hw, h1, h2, h3⟩ := h
    cases hw
    exact ⟨a, vs, rfl, .inl (.inl ((hf a (by rw [h1]; exact List.mem_cons_self)).trans h2)), Reps.mono fm _ _ h3⟩
  | dc k kds =>
    cases k with
    | zero =>
      cases e
      obtain ⟨a, hw, h1, kvs, h2, h3⟩ := h
      cases hw
      exact ⟨a, kvs, rfl, (hf a (by rw [h1]; exact List.mem_cons_self)).trans h2, RepKs.mono fm _ _ h3⟩
    | succ k => cases e
  | ob _ _ => cases e
  | px _ _ _ _ => cases e
  | fn _ => cases e
  | fd _ => cases e
  | fk _ => cases e
theorem cFs_reps (fm : Same F F') : ∀ {cs : List C} {ds : List D} {vs : List V} {gg : List (List Addr)}, RpCs K F H (vs.map some) cs gg → cFs cs = some ds → (∀ b ∈ gg.flatten, F' b = H b) → Reps K.1 F' vs ds
  | [], ds, vs, gg, h, e, _ => by
    cases e
    obtain ⟨h1, _⟩ := h
    cases vs with
    | nil => rfl
    | cons v vs => simp at h1
  | c :: cs, ds, vs, gg, h, e, hf => by
    obtain ⟨o, r, f, fr, e1, e2, h1, h2⟩ := h
    subst e2
    cases vs with
    | nil => simp at e1
    | cons v vs =>
      simp only [List.map_cons, List.cons.injEq] at e1
      obtain ⟨rfl, rfl⟩ := e1
      unfold cFs at e
      split at e
      · rename_i d es g1 g2
        cases e
        exact ⟨v, vs, rfl, cF_rep fm h1 g1 fun b hb => hf b (by rw [List.flatten_cons]; exact List.mem_append_left _ hb), cFs_reps fm h2 g2 fun b hb => hf b (by rw [List.flatten_cons]; exact List.mem_append_right _ hb)⟩
      · cases e
theorem cFs_len : ∀ {cs : List C} {ds : List D}, cFs cs = some ds → ds.length = cs.length
  | [], ds, e => by cases e; rfl
  | c :: cs, ds, e => by
    unfold cFs at e
    split at e
    · rename_i d es g1 g2
      cases e
      simp [cFs_len g2]
    · cases e
/-- a temporary of no own addresses, any -/
theorem Sep.addE {v : V} {c : C} (s : Sep K F R H σ ε T) (r : RpC K F H (some v) c []) : Sep K F R H σ ε ((v, c) :: T) := by
  obtain ⟨a1, a2, a3, ⟨fs, gs, h1, h2, n, m⟩⟩ := s
  exact ⟨a1, a2, a3, fs, [] :: gs, h1, ⟨_, _, _, _, rfl, rfl, r, h2⟩, by simpa using n, by simpa using m⟩
theorem Sep.lockN {ks : List D} {cs : List C} {ds : List D} (s : Sep K F R H σ ε T) (h : ε[i]? = some (.ob (.dn ks) cs)) (hd : cFs cs = some ds) : ∃ a bs vs, σ[i]? = some (some (.ref a)) ∧ H a = some (nkO K.2 a (bs.zip vs)) ∧ bs.length = vs.length ∧
    ∀ od, ∃ F', Same F F' ∧ FdAt K F' a (ks.zip ds) ∧ F' a = some (.frz od (nkO K.2 a (bs.zip vs))) ∧ KeysN K.1 F' bs ks ∧ Sep K F' R (upd H a (.frz od (nkO K.2 a (bs.zip vs)))) σ (ε.set i (.fd (ks.zip ds))) T := by
  obtain ⟨w, hv⟩ := s.val h fun z => nomatch z
  obtain ⟨a1, a2, a3, ⟨fs, gs, h1, ⟨o0, r, f, fr, e1, e2, h2, h3⟩, n, m⟩⟩ := s.take h hv
  obtain ⟨rfl, rfl⟩ := List.cons.inj e1
  subst e2
  obtain ⟨a, vs, gg, g1, g2, ⟨bs, k1, k2, k3, k4⟩, g4⟩ := h2
  cases g1
  refine ⟨a, bs, vs, hv, k1, k2, fun od => ?_⟩
  generalize hu : HO.frz od (nkO K.2 a (bs.zip vs)) = u
  let H' : Hp := upd H a u
  let F' : Hp := fun b => if b ∈ f then H' b else F b
  have i1 : ∀ {b}, b ∈ f → F' b = H' b := fun {b} hb => if_pos hb
  have i2 : ∀ {b}, b ∉ f → F' b = F b := fun {b} hb => if_neg hb
  have fin : ∀ b, b ∈ f → F b = none ∧ R b = none := fun b hb => m b (by simp [hb])
  have fm : Same F F' := fun b x e => by
    rw [i2 fun z => by rw [(fin b z).1] at e; cases e]; exact e
  rw [List.flatten_cons, List.nodup_append, List.nodup_append] at n
  obtain ⟨n1, ⟨n2, n4, n5⟩, n3⟩ := n
  have haf : a ∈ f := by rw [g2]; exact List.mem_cons_self
  have ha : F' a = some u := (i1 haf).trans upd_same
  have fr1 : ∀ b ∈ fs.flatten, H' b = H b := fun b hb => upd_ne fun z => n3 b hb b (List.mem_append_left _ (by rw [z]; exact haf)) rfl
  have fr2 : ∀ b ∈ fr.flatten, H' b = H b := fun b hb => upd_ne fun z => n5 b (by rw [z]; exact haf) b hb rfl
  have k3' : KeysN K.1 F' bs ks := k3.mono (K := K) fm
  have reps : Reps K.1 F' vs ds := cFs_reps fm g4 hd fun b hb => by
    have hb2 : b ∈ f := by rw [g2]; exact List.mem_cons_of_mem _ hb
    have ne : b ≠ a := fun z => by
      rw [g2, List.nodup_cons] at n2
      exact n2.1 (by rw [← z]; exact hb)
    rw [i1 hb2]
    exact upd_ne ne
  have lks : bs.length = ks.length := k3.len (K := K)
  have lds : ds.length = cs.length := cFs_len hd
  have lvs : vs.length = cs.length := by
    have := g4.len.1
    rwa [List.length_map] at this
  have fd : FdAt K F' a (ks.zip ds) := ⟨od, bs, vs, by rw [hu]; exact ha, k2, by rw [List.map_fst_zip (by omega)]; exact k3', by rw [List.map_snd_zip (by omega)]; exact reps⟩
  have s1 : Sep K F' R H' σ (ε.set i .no) T := by
    refine ⟨fun b x e => ?_, fun b x e => ?_, fun b hb => ?_, fs, fr, RpCs.frame fm fr1 h1, RpCs.frame fm fr2 h3, ?_, fun b hb => ?_⟩
    · by_cases q : b ∈ f
      · rw [i1 q] at e; exact e
      · rw [i2 q] at e
        show H' b = some x
        rw [show H' b = H b from upd_ne fun z => q (by rw [z]; exact haf)]
        exact a1 b x e
    · show H' b = some x
      rw [show H' b = H b from upd_ne fun z => by rw [z, (fin a haf).2] at e; cases e]
      exact a2 b x e
    · by_cases q : b ∈ f
      · exact (fin b q).2
      · rw [i2 q] at hb; exact a3 b hb
    · rw [List.nodup_append]
      exact ⟨n1, n4, fun x hx y hy => n3 x hx y (List.mem_append_right _ hy)⟩
    · have q : b ∉ f := fun z => by
        rcases List.mem_append.mp hb with hb | hb
        · exact n3 b hb b (List.mem_append_left _ z) rfl
        · exact n5 b z b hb rfl
      rw [i2 q]
      refine m b ?_
      simp only [List.flatten_cons, List.mem_append] at hb ⊢
      rcases hb with hb | hb
      · exact .inl hb
      · exact .inr (.inr hb)
  have s2 := (s1.addE (v := .ref a) (c := .fd (ks.zip ds)) ⟨rfl, a, rfl, fd⟩).put hv
  rw [List.set_set] at s2
  exact ⟨F', fm, fd, ha, k3', s2⟩
theorem KeysN.get {F : Hp} : ∀ {ks : List D} {bs : List NEnt} {i : Nat} {b : NEnt}, KeysN K.1 F bs ks → bs[i]? = some b → ∃ k, ks[i]? = some k ∧ Rep K.1 F (.ref b.2) k
  | [], bs, i, b, h, e => by
    cases (show bs = [] from h)
    simp at e
  | k :: ks, bs, 0, b, ⟨b', r, h1, _, _, h4, _⟩, e => by
    subst h1
    simp at e
    subst e
    exact ⟨k, rfl, h4⟩
  | k :: ks, bs, i + 1, b, ⟨b', r, h1, _, _, h4, h5⟩, e => by
    subst h1
    obtain ⟨k', q1, q2⟩ := KeysN.get (i := i) h5 (by simpa using e)
    exact ⟨k', by simpa using q1, q2⟩
theorem walkN {a : Addr} {o : Obj} {u : HO} {xs : NX} : Walk (Itn a o u xs) xs.length (fun H => H a = some (.frz o u)) (fun i H x H' => H' = H ∧ ∃ b v, xs[i]? = some (b, v) ∧ x = .ref b.2) :=
  ⟨fun i _ hi h => ⟨h, hi⟩, fun _ h => ⟨h, Nat.le_refl _⟩, fun _ _ _ _ _ _ y => y⟩
theorem src_keysN {a : Addr} {od : Obj} {bs : List NEnt} {vs : List V} {ks : List D} {ws : List Nat} {w : World} (hF : F a = some (.frz od (nkO w a (bs.zip vs)))) (hl : bs.length = vs.length) (hk : KeysN K.1 F bs ks) : Src K F R H σ ε (Itn a od (nkO w a (bs.zip vs)) (bs.zip vs)) ks ws := by
  have l1 : (bs.zip vs).length = ks.length := by
    have := hk.len (K := K)
    rw [List.length_zip]
    omega
  refine ⟨_, _, (show Walk (Itn a od (nkO w a (bs.zip vs)) (bs.zip vs)) ks.length _ _ by rw [← l1]; exact walkN), fun F2 H2 σ2 ε2 fm s2 _ => ⟨s2.sub _ _ (fm _ _ hF), fun i x H3 hi y => ?_⟩⟩
  obtain ⟨rfl, b, v, y1, rfl⟩ := y
  have y2 : bs[i]? = some b := by
    rw [List.getElem?_zip_eq_some] at y1
    exact y1.1
  obtain ⟨k, q1, q2⟩ := hk.get (K := K) y2
  exact ⟨F2, k, q1, q2.mono fm, Grw.refl s2.sub⟩
end
/-- the keys, walked: the dict is changed no more -/
def mNSrc (i : Nat) : SM := fun ε => match ε[i]? with
  | some (.fd kds) => some ((kds.map (·.1), []), ε)
  | some (.ob (.dn ks) cs) => (cFs cs).map fun ds => ((ks, []), ε.set i (.fd (ks.zip ds)))
  | _ => none
section
variable {X : Cx} {tg e : Expr} {y : Str} {p p2 pos : Pos} {i k : Nat}
theorem mi_nkeys (hv : PE X (.Name y p) (tVar i)) : PI X tg (.Name y p) (tI X.E (mNSrc i)) := (pi_keysN hv).weak fun σ H Q q => by
  obtain ⟨F, R, ε, ds, ws, ε', s, e, q⟩ := q
  unfold mNSrc at e
  split at e
  · rename_i kds hx
    cases e
    obtain ⟨o, f, e1, _, a, rfl, od, bs, vs, g1, g2, g3, g4⟩ := s.cell hx
    exact ⟨_, e1, a, _, rfl, .inl ⟨od, s.sub _ _ g1, q F R H _ (Same.refl F) s (fun _ _ _ _ _ _ z => z) (src_keysN g1 g2 g3)⟩⟩
  · rename_i ks cs hx
    cases hd : cFs cs with
    | none => simp [hd] at e
    | some ds2 =>
      simp only [hd, Option.map_some, Option.some.injEq, Prod.mk.injEq] at e
      obtain ⟨⟨rfl, rfl⟩, rfl⟩ := e
      obtain ⟨a, bs, vs, h1, h2, h3, k1⟩ := s.lockN hx hd
      refine ⟨_, h1, a, _, rfl, .inr ⟨h2, fun od => ?_⟩⟩
      obtain ⟨F', fm, fd, ha, hk, s2⟩ := k1 od
      exact q F' R _ _ fm s2 (fun _ _ _ _ _ _ z => z) (src_keysN ha h3 hk)
  · cases e
end
end L2.M
namespace L2.M
open PySem PySem.Spec PyProof.Rows
def mNList (i : Nat) : EM := fun ε => do
  let c ← ε[i]?
  let ks ← nKs c
  some (.ls ks, ε)
def shs : List C → Option (List D)
  | [] => some []
  | .sh d :: cs => (shs cs).map (d :: ·)
  | _ => none
def nVs : C → Option (List D)
  | .ob (.dn _) cs => shs cs
  | .fd kds => some (kds.map (·.2))
  | _ => none
def mNVals (i : Nat) : EM := fun ε => do
  let c ← ε[i]?
  let ds ← nVs c
  some (.ls ds, ε)
section
variable {X : Cx} {W : Xw} {io : List Nat} {e kx vx : Expr} {y : Str} {p p2 pos apos cpos : Pos} {m : OM} {i k : Nat}
def mN1 (mk mv : EM) : EM := fun ε => do
  let (ck, ε1) ← mk ε
  let kd ← cD ck
  let _ ← okKey kd
  let (cv, ε2) ← mv ε1
  some (.ob (.dn [kd]) [cv], ε2)
def tND1 (P : Program) (w : World) (tk tv : TE) : TE := fun σ H Q => ∀ p, H p = none → tk σ (upd H p (nkO w p [])) fun x H1 => tv σ H1 fun z H2 => ∃ b key, x = .ref b ∧ NkKey P w H2 (.ref b) key ∧ H2 p = some (nkO w p []) ∧ Q (.ref p) (upd H2 p (nkO w p [((key, b), z)]))
theorem pe_nd1 {tk tv : TE} (hu : X.A.units + 8 < cLine) (hk : PE X kx tk) (hv : PE X vx tv) : PE X (.Dict [some kx] [vx] pos) (tND1 X.prog X.w tk tv) := by
  refine ⟨fun pins s σ H Q I q => ?_⟩
  have hn := I.hok.fresh (Nat.le_refl s.heap.objs.size)
  have hsm : (s.heap.objs.size == sysModules) = false := beq_eq_false_iff_ne.mpr (Ne.symm (Nat.ne_of_lt I.big))
  have I1 := I.laid (a := s.heap.objs.size) (o := nkO X.w s.heap.objs.size []) (h' := s.heap.push { cls := .type "dict", data := .dict #[] }) (t' := s.toks) (fun _ _ q => Heap.get?_push_of_some _ q) (Nat.le_refl _)
    (nk_mk (P := X.prog) (vs := []) (Nat.zero_le _) hsm .nil ⟨_, #[], 0, Heap.get?_push_size _ rfl, ⟨rfl, rfl, rfl⟩, rfl, rfl, (fun x hx => by cases hx), List.nodup_nil⟩)
  have hshape : (evalEachOpt [some kx] X.env).zip ((evalEach [vx] X.env).map fun v => do let x ← v; standAt pos; pure x) = (pairTrees [some kx] [vx] X.env pos).map fun p => (some p.1, p.2) := by rfl
  have h0 : pairTrees [some kx] [vx] X.env pos ≠ [] := fun z => nomatch z
  have hlen : (pairTrees [some kx] [vx] X.env pos).length ≤ 15 := by show 1 ≤ 15; omega
  rw [arm_eval_Dict, hshape, dictDisplay_pairs _ h0 (by omega)]
  refine wpAny_bind (wpAny_standAt (wpAny_bind (wpAny_subDictH (knd := nestedKind X.prog X.w) (Q := fun d s' => wpAny (model X.prog X.w) X.A (pure (Value.ref d)) (EP X pins σ Q) X.xe s') hu hlen ?_)))
  refine pairTrees_cons_walk (thn (hk.run pins _ σ _ _ I1 (q _ hn)) fun u s1 ⟨x, H1, I2, rx, q1⟩ => thn (hv.run pins s1 σ H1 _ I2 q1) fun w2 s2 ⟨z, H2, I3, rz, b, key, ex, nk, hp, q2⟩ => pairTrees_nil_walk ?_)
  subst ex
  obtain rfl : u = Value.ref b := rx
  obtain ⟨_, _, vs0, pr, dd⟩ := n_dict I3 (.inl hp) (fun b hb => by cases hb)
  cases pr
  refine ⟨[(key, b, w2)], ⟨rfl, rfl, ⟨nk.2.2 _ I3.hok _ rfl, nk.2.1⟩, trivial⟩, dd, fun h' tk dd' hs => wpAny_pure ⟨.ref s.heap.objs.size, _, ?_, rfl, q2⟩⟩
  have dd'' : h'.DictOfH (nestedKind X.prog X.w) s.heap.objs.size ([((key, b), w2)].map (NVal X.w)) := dd'
  have he : ∃ q, h'.get? s.heap.objs.size = some q := let ⟨q, _, _, hq, _⟩ := dd'; ⟨q, hq⟩
  exact d_write I3 (by rw [hp]; exact True.intro) hs he (nk_mk (xs := [((key, b), z)]) (by rw [sizeLine_eq]; show 1 ≤ 16777216; omega) hsm (.cons ⟨rfl, rz⟩ .nil) dd'')
theorem x_nd1 {mk mv : EM} (hr : Room k X.A) (hk : PE X kx (tE X.E mk)) (hv : PE X vx (tE X.E mv)) : PE X (.Dict [some kx] [vx] pos) (tE X.E (mN1 mk mv)) :=
  (pe_nd1 (by have := hr.un; omega) hk hv).weak fun σ H Q h => by
    obtain ⟨F, R, ε, c, ε', s, e, q⟩ := h
    unfold mN1 at e
    cases e1 : mk ε with
    | none => simp [e1] at e
    | some p1 =>
      obtain ⟨ck, ε1⟩ := p1
      cases e2 : cD ck with
      | none => simp [e1, e2] at e
      | some kd =>
        cases e3 : okKey kd with
        | none => simp [e1, e2, e3] at e
        | some key =>
          cases e4 : mv ε1 with
          | none => simp [e1, e2, e3, e4] at e
          | some p4 =>
            obtain ⟨cv, ε2⟩ := p4
            simp only [e1, e2, e3, e4, Option.bind_eq_bind, Option.bind_some] at e
            cases e
            intro p hp
            have s1 : Sep X.E F R (upd H p (nkO X.w p [])) σ ε ((.ref p, .ob (.dn []) []) :: []) := Sep.change (T1 := []) s fun gs h n _ => ⟨[p], ⟨p, [], [], rfl, rfl, ⟨[], upd_same, rfl, rfl, List.nodup_nil⟩, rfl, rfl⟩, by simp, fun b hb => .inr (by rw [List.mem_singleton.mp hb]; exact hp), fun b u _ e => by rw [upd_ne (ne_of_none e hp)]; exact e⟩
            obtain ⟨R1, _, s2, bk⟩ := s1.hide
            refine ⟨F, R1, ε, ck, ε1, s2, e1, fun x F1 H1 fm1 s3 => ?_⟩
            obtain ⟨F2, fm2, r2, s4⟩ := s3.freeze e2
            refine ⟨F2, R1, ε1, cv, ε', s4, e4, fun z F3 H3 fm3 s5 => ?_⟩
            have s6 := bk F3 H3 σ ε' [(z, cv)] ((fm1.trans fm2).trans fm3) s5
            obtain ⟨nk, rk, n1, n2⟩ := okKey_rep (P := X.prog) (w := X.w) s6.sub e3 (.inl (r2.mono fm3))
            obtain ⟨⟨b, rfl⟩, _, _⟩ := id nk
            obtain ⟨gs, g1, g2, g3, close⟩ := Sep.opens (T1 := [(.ref p, .ob (.dn []) []), (z, cv)]) s6
            obtain ⟨o', r, f, fr, q1, q2, ⟨a, vs, gg, k1, k2, ⟨bs, k3, k4, k5, _⟩, k6⟩, o2, r2', f2, fr2, q3, q4, k7, k8, k9⟩ := g1
            obtain ⟨rfl, rfl⟩ := List.cons.inj q1
            obtain ⟨rfl, rfl⟩ := List.cons.inj q3
            cases k1
            subst q2 q4 k9
            cases (show bs = [] from k5)
            have hvs : vs = [] := List.eq_nil_of_length_eq_zero k4.symm
            subst hvs
            obtain ⟨-, rfl⟩ := k6
            have k2 : f = [p] := k2
            subst k2
            have en : ([[p], f2] : List (List Addr)).flatten = p :: f2 := by simp
            rw [en] at g2 close
            rw [List.nodup_cons] at g2
            have nf : ∀ b ∈ f2, b ≠ p := fun b hb z => g2.1 (by rw [← z]; exact hb)
            refine ⟨b, key, rfl, nk, k3, q _ F3 _ ((fm1.trans fm2).trans fm3) ?_⟩
            refine close (.ref p) (.ob (.dn [kd]) [cv]) _ (p :: f2) ⟨p, [z], [f2], rfl, by simp, ⟨[(key, b)], upd_same, rfl, ⟨_, _, rfl, n1, n2, rk, rfl⟩, by simp⟩, ⟨_, _, _, _, rfl, rfl, RpC.frame (Same.refl F3) (fun b hb => upd_ne (nf b hb)) k7, rfl, rfl⟩⟩ (List.nodup_cons.mpr g2) (fun b hb => .inl hb) (fun b u hb e => ?_)
            rw [upd_ne (fun z => hb (by rw [z]; exact List.mem_cons_self))]
            exact e
def mFnV (x : Str) : EM := fun ε => some (.fn x, ε)
def mCallF (i : Nat) (io : List Bool) (cands : List (Str × GM)) (ma : AM) : EM := fun ε => match ε[i]? with
  | some (.fn x) => match cands.lookup x with
    | some g => mCall io g ma ε
    | none => none
  | _ => none
/-- a slot's thing taken out -/
def mTake (i : Nat) : EM := fun ε => match ε[i]? with
  | some .no => none
  | some c => some (c, ε.set i .no)
  | none => none
theorem x_take (hv : PE X (.Name y p) (tVar i)) : PE X (.Name y p) (tE X.E (mTake i)) := hv.weak fun σ H Q h => by
  obtain ⟨F, R, ε, c, ε', s, e, q⟩ := h
  unfold mTake at e
  split at e
  · cases e
  · rename_i c1 hn hx
    cases e
    obtain ⟨w, hw⟩ := s.val hx (fun z => hn (by rw [z]))
    exact ⟨w, hw, q w F H (Same.refl F) (s.take hx hw)⟩
  · cases e
theorem minD_mem (x : D) : ∀ xs : List D, PySem.W.minD x xs ∈ x :: xs := by
  intro xs
  unfold PySem.W.minD
  induction xs generalizing x with
  | nil => exact List.mem_cons_self
  | cons y ys ih =>
    rw [List.foldl_cons]
    rcases List.mem_cons.mp (ih (if PySem.W.dataLt y x = true then y else x)) with e | e
    · rw [e]
      split
      · exact List.mem_cons_of_mem _ List.mem_cons_self
      · exact List.mem_cons_self
    · exact List.mem_cons_of_mem _ (List.mem_cons_of_mem _ e)
def rMinT (K : PySem.W.Frag) : List V → Hp → VK → Prop := fun vs H Q => ∃ (a : Addr) (xs : List V) (d : D) (ds : List D), vs = [V.ref a] ∧ SqL K H a xs ∧ DpAll K H xs (d :: ds) ∧ SeqAt.shaped (.list (d :: ds)) = true ∧ PySem.W.AlikeAll (d :: ds) ∧ ∀ (i : Nat) (v : V), xs[i]? = some v → (d :: ds)[i]? = some (PySem.W.minD d ds) → Q v H
theorem cr_minT (hc : X.calm = true) (hu : X.A.units + 66 < cLine) : CallR X (.builtin "min") (rMinT X.K) := by
  intro pins s σ H xs us Q I r h
  obtain ⟨a, ys, d, ds, rfl, hl, dp, sh, al, q⟩ := h
  obtain ⟨u, rfl, rx⟩ := r.one
  cases rx
  obtain ⟨its, rv, ⟨o, n, e1, e2, e3, e4⟩, z⟩ := I.list hl
  obtain ⟨as, rs⟩ := Dp.readsAll I (d :: ds) ys its dp rv
  have dpt : PyData.depthAll (d :: ds) ≤ 64 := by
    have := SeqAt.depth_of_shaped sh
    have e : (PyData.list (d :: ds)).depth = PyData.depthAll (d :: ds) + 1 := by rw [PyData.depth]
    omega
  refine PySem.W.min_list_data (vs := its.toArray) (I.ok.hd hc) ⟨o, e1, e2, n, e4⟩ (by simpa using rs) al (by omega) fun i v h' tk bs hi rd hk => ?_
  have hi : its[i]? = some v := by simpa using hi
  obtain ⟨bs2, r2, hlt, hmem, _⟩ := PySem.W.readsAll_at rs i v hi
  have r3 : ∃ bs3, Reads h' v ((d :: ds).getD i .none) bs3 := ⟨_, PyProof.Rows.Reads.keeps (fun b o e => hk b o e) r2⟩
  obtain ⟨bs3, r3⟩ := r3
  have em := PySem.W.alike_unique _ _ v _ _ (al.1 _ hmem _ (minD_mem d ds)) r3 rd
  obtain ⟨x, hx, rx⟩ : ∃ x, ys[i]? = some x ∧ RelV x v := by
    have hl2 : i < ys.length := by
      rw [rv.length]
      exact (List.getElem?_eq_some_iff.mp hi).1
    obtain ⟨w, hw, rw'⟩ := rv.get (List.getElem?_eq_getElem hl2)
    rw [hi] at hw
    cases hw
    exact ⟨_, List.getElem?_eq_getElem hl2, rw'⟩
  refine ⟨x, H, I.kept (h' := h') (t' := tk) hk, rx, q i x hx ?_⟩
  rw [← em, List.getElem?_eq_getElem hlt, List.getD_eq_getElem?_getD, List.getElem?_eq_getElem hlt]
  rfl
end
end L2.M
namespace L2.M
open PySem PySem.Spec PyProof.Rows
end L2.M
namespace L2.M
open PySem PySem.Spec PyProof.Rows
end L2.M
namespace L2.M
open PySem PySem.Spec PyProof.Rows
end L2.M
namespace L2.M
open PySem PySem.Spec PyProof.Rows
section
variable {K : PySem.W.Frag} {w : World} {P Cs : List Str} {c : Str}
theorem cs_hkw (V : ∀ k ∈ csOf P Cs, k K = true) {ref : Xn → Option D} (hr : ∀ y r, ref y = some r → y.cls ∈ P) : ∀ (F : Hp) cls d y r, RepX (K, w) F cls d y → ref y = some r → PySem.W.exmOne K cls (.ref (He.ga K "KnockError")) = some true := fun F cls d y r rx e => by
  rw [rx.1]
  exact cs_exm V (hr y r e)
end
section
variable {X : Cx}
theorem pe_own {x : Str} {C : Addr} {pos : Pos} (hg : Gl X x) (hm : X.mg x = some (.ref C)) (hd : (x == ("__debug__" : Str)) = false := by decide) : PE X (.Name x pos) (tC (.ref C)) := pe_glob hg hm (show RelV (.ref C) (.ref C) from rfl) hd
end
theorem strEq (a b : String) : (Str.ofString a = Str.ofString b) = (a = b) := by
  apply propext
  refine ⟨fun h => ?_, fun h => h ▸ rfl⟩
  rw [Str.ofString_eq_toList, Str.ofString_eq_toList] at h
  have h2 : a.toList.map Char.toNat = b.toList.map Char.toNat := by simpa using congrArg Str.cps h
  exact String.toList_inj.mp (List.map_inj_right (fun x y h => Char.toNat_inj.mp h) |>.mp h2)
theorem strB (i j : Str) : (i == j) = decide (i = j) := by
  by_cases h : i = j <;> simp [h]
theorem eqBB (i j : Bool) : PyData.eqv (.bool i) (.bool j) = (i == j) := by cases i <;> cases j <;> rfl
theorem eqII (i j : Int) : PyData.eqv (.int i) (.int j) = decide (i = j) := by
  simp only [PyData.eqv]
  by_cases h : i = j <;> simp [h]
theorem eqSS (i j : Str) : PyData.eqv (.str i) (.str j) = decide (i = j) := by simp only [PyData.eqv]; exact strB i j
end L2.M
namespace L2.M
open PySem PySem.Spec PyProof.Rows
def strsOf : List D → Option (List Str)
  | [] => some []
  | .str z :: ds => (strsOf ds).map (z :: ·)
  | _ :: _ => none
theorem strs_all : ∀ zs : List Str, strsOf (zs.map PyData.str) = some zs
  | [] => rfl
  | z :: zs => by
    show (strsOf (zs.map PyData.str)).map (z :: ·) = _
    rw [strs_all zs]
    rfl
theorem strs_reps {K : PySem.W.Frag} {F : Hp} : ∀ {ds : List D} {vs : List V} {zs : List Str}, Reps K F vs ds → strsOf ds = some zs → vs = zs.map V.str
  | [], vs, zs, h, e => by
    cases e
    exact h
  | .str z :: ds, vs, zs, h, e => by
    obtain ⟨v, r, rfl, h1, h2⟩ := h
    simp only [strsOf, Option.map_eq_some_iff] at e
    obtain ⟨zs', e1, rfl⟩ := e
    have e2 : v = .str z := h1
    rw [strs_reps h2 e1, e2]
    rfl
  | .none :: ds, vs, zs, h, e => by cases e
  | .bool _ :: ds, vs, zs, h, e => by cases e
  | .int _ :: ds, vs, zs, h, e => by cases e
  | .list _ :: ds, vs, zs, h, e => by cases e
  | .tuple _ :: ds, vs, zs, h, e => by cases e
  | .dict _ :: ds, vs, zs, h, e => by cases e
def joinOf (a : Str) (ds : List D) : Option C := match strsOf ds with
  | some ys => if (ys.map (·.length)).sum + ys.length * a.length ≤ 16777216 then some (.sh (.str (Txt.join a ys))) else none
  | none => none
def joinD : List D → Option C
  | [.str a, .list ds] => joinOf a ds
  | [.str a, .tuple ds] => joinOf a ds
  | _ => none
def ninSD : D → D → Option C
  | .str x, .str z => match x.cps.toList with
    | [c] => some (.sh (.bool (!decide (c ∈ z.cps.toList))))
    | _ => none
  | _, _ => none
section
variable {X : Cx}
theorem join_ok : ∃ r, MtR X "str.join" r ∧ FnM X.K joinD r := by
  refine ⟨_, mt_join, fun F H x xs ds c Q s hr he q => ?_⟩
  have key : ∀ (a : Str) (ds : List D), joinOf a ds = some c → ∃ ys : List Str, strsOf ds = some ys ∧ (ys.map (·.length)).sum + ys.length * a.length ≤ 16777216 ∧ c = .sh (.str (Txt.join a ys)) := fun a ds he => by
    unfold joinOf at he
    split at he
    · rename_i ys e1
      split at he
      · rename_i h2
        cases he
        exact ⟨ys, e1, h2, rfl⟩
      · cases he
    · cases he
  match ds, he, hr with
  | [.str a, .list es], he, hr =>
    obtain ⟨ys, e1, e2, rfl⟩ := key a es he
    obtain ⟨y, w, e, h1, h2⟩ := hr.two
    cases e
    obtain ⟨p, vs, rfl, g1, g2⟩ := rb_lst s h2
    rw [strs_reps g2 e1] at g1
    exact ⟨a, p, ys, rb_str h1, rfl, .inl g1, e2, g_str s q⟩
  | [.str a, .tuple es], he, hr =>
    obtain ⟨ys, e1, e2, rfl⟩ := key a es he
    obtain ⟨y, w, e, h1, h2⟩ := hr.two
    cases e
    obtain ⟨p, vs, rfl, _, g1, g2⟩ := rb_tup s h2
    rw [strs_reps g2 e1] at g1
    exact ⟨a, p, ys, rb_str h1, rfl, .inr g1, e2, g_str s q⟩
theorem sign_eq {x : Str} {c : Nat} (h : x.cps.toList = [c]) : x = ⟨#[c]⟩ := by
  cases x
  rename_i a
  congr 1
  exact Array.toList_inj.mp h
theorem ninS_ok : ∃ r, OpR X (compareOp .NotIn) r ∧ Fn2 X.K ninSD r := by
  refine ⟨_, op_notInS, fun F H x y d e c Q s h1 h2 he q => ?_⟩
  match d, e, he, h1, h2 with
  | .str a, .str z, he, h1, h2 =>
    simp only [ninSD] at he
    split at he
    · rename_i k hk
      cases he
      exact ⟨k, z, by rw [rb_str h1, sign_eq hk], rb_str h2, g_bool s q⟩
    · cases he
variable {o e a b : Expr} {es : List Expr} {mo ma mb : OM} {mr : AM} {apos cpos pos p : Pos} {k : Nat}
theorem x_join (ho : PE X o (tO X.E mo)) (ha : PA X (e :: es) (tA X.E mr))
    (hb : attributeBase o "join" X.env (eval o X.env) = eval o X.env := by rfl)
    (hfw : ((backTo cpos (starEach (e :: es) X.env)).all (fun x => !x.1) && (backToKw cpos (keywordEach [] X.env)).all (fun x => x.1.isSome) && decide ((e :: es).length + ([] : List Keyword).length + (if ([] : List Keyword).isEmpty then 0 else 1) < 30)) = true := by rfl)
    (hln : (apos.endLine == cpos.line) = true := by rfl) (hs : starEach (e :: es) X.env = (false, eval e X.env) :: starEach es X.env := by rfl) (hp : (backTo cpos (starEach es X.env)).any (·.1) = false := by rfl) :
    PE X (.Call (.Attribute o "join" apos) (e :: es) [] cpos) (tE X.E (mM joinD isS mo mr)) :=
  let ⟨_, h1, h2⟩ := join_ok
  (pe_bm PySem.F.plainAttrs_str PySem.F.slot_str_join PySem.F.type_str_join h1 ho ha hb hfw hln hs hp).weak fun _ _ _ h => tE_m h2 (fun _ _ _ _ s r k => tyV_S s r k) h
theorem y_ninS (ha : PE X a (tO X.E ma)) (hb : PE X b (tO X.E mb)) (hm : behindInMarks .NotIn b = false := by rfl) : PT X (.Compare a [.NotIn] [b] pos) (tT X.E (mTst (mB ninSD ma mb))) :=
  let ⟨_, h1, h2⟩ := ninS_ok
  (pt_cmpR h1 ha hb hm).weak fun _ _ _ h => tE_b h2 (tE_tst h)
end
end L2.M
namespace L2.M
open PySem PySem.Spec PyProof.Rows
end L2.M
namespace L2.M
open PySem PySem.Spec PyProof.Rows
def frOfY (n : Nat) (g : Addr → Option Obj) : PySem.W.Frag := He.frG g (cStatics :: He.asD g n)
def obsYG (n : Nat) (fa : List He.Fa) (fn : List He.DefD) (cs : List Ck) (g : Addr → Option Obj) : Bool × He.AlD := (cs.all fun c => c (frOfY n g), He.obsD fa fn (frOfY n g))
def hookY (n : Nat) (fa : List He.Fa) (fn : List He.DefD) (cs : List Ck) : PySem.W.Hook where
  α := Bool × He.AlD
  obs := fun s => obsYG n fa fn cs s.heap.get?
  val := fun _ => (true, He.valD fn)
  says := fun _ h => ∃ K : PySem.W.Frag, K.In h ∧ He.SaysD fa fn K ∧ ∀ c ∈ cs, c K = true
  of := fun _ _ e => ⟨_, He.frG_in, congrArg Prod.snd e, List.all_eq_true.mp (congrArg Prod.fst e)⟩
  keeps := fun _ _ _ ⟨K, hK, c, d⟩ k => ⟨K, PySem.W.Frag.In.keeps hK k, c, d⟩
theorem obsYG_eq {n : Nat} {fa : List He.Fa} {fn : List He.DefD} {cs : List Ck} {g : Addr → Option Obj} {s : Shared} (h : ∀ a, g a = s.heap.get? a) : obsYG n fa fn cs g = (hookY n fa fn cs).obs s := by
  have e : g = s.heap.get? := funext h
  rw [e] <;> rfl
end L2.M
namespace L2.M
open PySem PySem.Spec PyProof.Rows
/-- the text, so many times -/
def repS (a : Str) (n : Nat) : Str := ⟨(List.replicate n a.cps).foldl (· ++ ·) #[]⟩
theorem repS_cps (a : Str) (n : Nat) : (repS a n).cps.toList = (List.replicate n a.cps.toList).flatten := by
  have f0 : ∀ (m : Nat) (acc : Array Nat), (List.foldl (fun x1 x2 => x1 ++ x2) acc (List.replicate m a.cps)).toList = acc.toList ++ (List.replicate m a.cps.toList).flatten := by
    intro m
    induction m with
    | zero => intro acc; simp
    | succ m ih =>
      intro acc
      rw [List.replicate_succ, List.foldl_cons, ih, List.replicate_succ, List.flatten_cons, Array.toList_append, List.append_assoc]
  have := f0 n #[]
  simpa [repS] using this
end L2.M
namespace L2.M
open PySem PySem.Spec PyProof.Rows
theorem drwS {prog : Program} {w : World} {A : Around} (hh : A.handled = none) (it : Addr) (x : Str) (t : Tok) : Draws prog w A it [it] x.cps.size (fun i v => ∃ c u, x.cps[i]? = some c ∧ v = .str ⟨#[c]⟩ u) fun i h => h.IsStrIter it (strIterType x) x t i := by
  unfold strIterType
  split
  · exact Draws.strAscii hh it x t
  · exact Draws.strWide hh it x t
theorem isS_obj {h : Heap} {a : Addr} {ty : String} {x : Str} {t : Tok} {i : Nat} (g : h.IsStrIter a ty x t i) : ∃ o, h.get? a = some o ∧ ∀ v, o.data ≠ .cell v := by
  obtain ⟨o, e, _, d⟩ := g
  exact ⟨o, e, fun v q => by rw [d] at q; cases q⟩
theorem isS_at {h h' : Heap} {a : Addr} {ty : String} {x : Str} {t : Tok} {i : Nat} (g : h.IsStrIter a ty x t i) (e : ∀ o, h.get? a = some o → h'.get? a = some o) : h'.IsStrIter a ty x t i := by
  obtain ⟨o, q, r⟩ := g
  exact ⟨o, e o q, r⟩
def IteS (z : Str) : It :=
  ⟨fun i H => i < z.cps.size,
   fun i H v H' => ∃ T c, v = .ref T ∧ H T = none ∧ (∃ o : Obj, o.dict = none ∧ H' = upd H T (.frz o (.tup [.int (i : Nat), .str ⟨#[c]⟩]))) ∧ z.cps[i]? = some c,
   fun i H => i = z.cps.size⟩
theorem turnS {P : Program} {w : World} {K : PySem.W.Frag} {elts : List Expr} {kk : Nat} {tpos : Pos} {z : Str} {t : Tok} {e p : Addr} (ne : e ≠ p) :
    Turn P w K (.Tuple elts kk tpos) (IteS z) [e, p] e (fun i h => (∃ old, IsEnum h e p ((i : Nat) : Int) old) ∧ h.IsStrIter p (strIterType z) z t i) where
  mem := List.mem_cons_self
  obj := fun i h ⟨⟨_, he⟩, g⟩ => two ⟨_, he, fun v q => nomatch q⟩ (isS_obj g)
  keep := fun i h h' ⟨⟨old, he⟩, g⟩ kp => ⟨⟨old, kp e (by simp) _ he⟩, isS_at g fun o q => kp p (by simp) o q⟩
  item := by
    rintro X rfl rfl rfl calm i pins s σ H E I fresh ⟨⟨old, he⟩, g⟩ lu
    have le : e < s.heap.objs.size := Heap.lt_size he
    have lp : p < s.heap.objs.size := by
      obtain ⟨_, q, _⟩ := isS_obj g
      exact Heap.lt_size q
    refine wpAny_pyNext_enum_itemD (fp := [p]) (drwS (A := X.A.in1) (I.ok.hd calm) p z t) he g lu ne (by simp [ne]) fun c h1 tk e1 z1 n1 t1 sz kp => ?_
    obtain ⟨c0, u0, hc, rfl⟩ := e1
    refine ⟨_, rfl, wpAny_letOwnedTupleGo_enum (s := { s with heap := h1, toks := tk + 1 }) z1 fun h2 z2 sb => ?_⟩
    have tT : h2.get? s.heap.objs.size = some { cls := .type "tuple", data := .seq #[.int i tk, .str ⟨#[c0]⟩ u0] } := (sb.2 _ (Nat.ne_of_gt le)).trans t1
    have laid : ObjOk X.prog X.w (upd H s.heap.objs.size (.frz { cls := .type "tuple", data := .seq #[.int i tk, .str ⟨#[c0]⟩ u0] } (.tup [.int (i : Nat), .str ⟨#[c0]⟩]))) h2 s.heap.objs.size (.frz { cls := .type "tuple", data := .seq #[.int i tk, .str ⟨#[c0]⟩ u0] } (.tup [.int (i : Nat), .str ⟨#[c0]⟩])) :=
      ⟨tT, show 2 ≤ sizeLine by decide, [.int i tk, .str ⟨#[c0]⟩ u0], .cons ⟨_, rfl⟩ (.cons ⟨_, rfl⟩ .nil), ⟨_, tT, rfl, _, rfl⟩⟩
    have kept : ∀ (c : Addr) (o : Obj), c ∉ [e, p] → s.heap.get? c = some o → h2.get? c = some o := by
      intro c o nc q
      simp only [List.mem_cons, List.not_mem_nil, or_false, not_or] at nc
      exact (sb.2 c nc.1).trans (kp c o nc.1 nc.2 q)
    have es : ((i + 1 : Nat) : Int) = (i : Int) + 1 := by omega
    refine ⟨.ref s.heap.objs.size, _, I.turnedNew (t' := tk + 1) (ch := [e, p]) kept fresh (Nat.le_refl _) laid, rfl, ⟨_, c0, rfl, I.hok.fresh (Nat.le_refl _), ⟨_, rfl, rfl⟩, hc⟩, ⟨⟨_, by rw [es]; exact z2⟩, isS_at n1 fun o q => (sb.2 p (Ne.symm ne)).trans q⟩, two ?_ ?_⟩
    · rw [upd_ne (Nat.ne_of_lt le)]
      exact (fresh e (by simp)).1
    · rw [upd_ne (Nat.ne_of_lt lp)]
      exact (fresh p (by simp)).1
  done := by
    rintro X rfl rfl rfl calm i pins s σ H E I fresh ⟨⟨old, he⟩, g⟩ hx
    have ei : i = z.cps.size := hx
    rw [ei] at g
    obtain ⟨f0, f1, f2, f3, f4, f5⟩ := fresh p (by simp)
    exact wpAny_pyNext_enum_endD (drwS (A := X.A.in1) (I.ok.hd calm) p z t) he g fun h1 kp => ⟨rfl, I.turned (t' := s.toks) (fun b o nb q => kp b o nb q) f0 f1 f3 f4 f5⟩
  self := fun A i s Q E ⟨⟨_, he⟩, _⟩ h => wpAny_pyIter_enum he h
def iEnumS (ta : TA) : TI := fun σ H R => ta σ H fun vs H1 => ∃ z : Str, vs = [.str z] ∧ R (IteS z) H1
theorem pi_enumS {X : Cx} {e : Expr} {ta : TA} {p pos tpos : Pos} {elts : List Expr} {kk : Nat} (hg : Gl X "enumerate") (hm : X.mg "enumerate" = none) (ha : PA X [e] ta) (hs : starEach [e] X.env = [(false, eval e X.env)]) :
    PI X (.Tuple elts kk tpos) (.Call (.Name "enumerate" p) [e] [] pos) (iEnumS ta) := by
  refine ⟨fun pins s σ H R I h => Call_ (ld_blt I hg hm boot_enumerate (PyProof.Rows.callWith_type1 (thn (ha.run pos pins s σ H _ I h) fun us s1 ⟨vs, H1, I1, r1, z, ev, q⟩ => ?_) hs rfl))⟩
  subst ev
  rcases r1 with _ | ⟨r, rr⟩
  cases rr
  obtain ⟨t, rfl⟩ := r
  refine call_enumerate_str fun h1 he g1 hz kp => wpAny_pyIter_enum he ?_
  have one : ∀ c, s1.heap.objs.size ≤ c → FpOk X pins H1 c := fun c hc => I1.fpOk hc (I1.hok.fresh hc)
  exact ⟨_, _, _, _, H1, rfl, I1.kept (t' := s1.toks) kp, turnS (K := X.K) (z := z) (t := t) (Nat.succ_ne_self _), ⟨⟨.none, he⟩, g1⟩, two (one _ (Nat.le_add_right _ _)) (one _ (Nat.le_refl _)), q⟩
def chD0 (c : Nat) : D := .str ⟨#[c]⟩
def enumS : List D → Option (List D)
  | [.str z] => some (enumFrom 0 (z.cps.toList.map chD0))
  | _ => none
theorem walkES {z : Str} : Walk (IteS z) z.cps.size (fun H => True) (fun i H x H' => ∃ t c, x = .ref t ∧ H t = none ∧ (∃ o : Obj, o.dict = none ∧ H' = upd H t (.frz o (.tup [.int (i : Nat), .str ⟨#[c]⟩]))) ∧ z.cps[i]? = some c) :=
  ⟨fun i H hi _ => hi, fun H h => rfl, fun i H x H' _ _ y => y⟩
section
variable {X : Cx} {e a b : Expr} {p pos : Pos}
theorem mi_enumS {elts : List Expr} {kk : Nat} {tpos : Pos} (hm : X.mg "enumerate" = none) (hg : Gl X "enumerate") {m : OM} (h : PE X e (tO X.E m)) (hs : starEach [e] X.env = [(false, eval e X.env)] := by rfl) :
    PI X (.Tuple elts kk tpos) (.Call (.Name "enumerate" p) [e] [] pos) (tI X.E (mSrc enumS (mCons m mNil))) := by
  refine (pi_enumS hg hm (ma_cons h ma_nil hs) hs).weak fun σ H Q q => tA_mono (src_parts q) fun vs H1 h => ?_
  obtain ⟨F, R, ε, ws, ds, out, s, lt, ek, q⟩ := h
  have rb := lt.now s
  match ds, ek, rb, lt with
  | [.str z], ek, rb, lt =>
    simp only [enumS, Option.some.injEq] at ek
    subst ek
    obtain ⟨x, rfl, r1⟩ := rb.one
    refine ⟨z, by rw [rb_str r1], q F H1 _ (Same.refl F) s ?_⟩
    have ln : (enumFrom 0 (z.cps.toList.map chD0)).length = z.cps.size := by rw [enum_len, List.length_map, Array.length_toList]
    refine ⟨_, _, (by rw [ln]; exact walkES), fun F2 H2 σ2 ε2 fm2 s2 st => ⟨trivial, fun i x H3 hi y => ?_⟩⟩
    obtain ⟨t, c, rfl, ht, ⟨ob, hob, rfl⟩, hc⟩ := y
    have gl := Grw.laid (u := .frz ob (.tup [.int (i : Nat), .str ⟨#[c]⟩])) s2.sub ht
    have d1 : (z.cps.toList.map chD0)[i]? = some (chD0 c) := by
      rw [List.getElem?_map, Array.getElem?_toList, hc]
      rfl
    refine ⟨_, .tuple [.int (i : Nat), chD0 c], by rw [enum_get, d1]; simp, ⟨t, _, rfl, ⟨ob, hob, upd_same⟩, ?_⟩, gl⟩
    exact ⟨_, _, rfl, rfl, _, _, rfl, rfl, rfl⟩
end
end L2.M
namespace L2.M
open PySem PySem.Spec PyProof.Rows
inductive SelOk (X : Cx) (k' np : Nat) : List Expr → List V → List GX → Prop where
  | nil : SelOk X k' np [] [] []
  | cons {x : Str} {p : Pos} {g : GX} {k : Nat} {ps : List Str} {es : List Expr} {vs : List V} {gs : List GX} (h : KnX X.prog X.w X.K X.mg X.base k x ps (spX X.E np g)) (hk : k ≤ k') (hg : Gl X x) (hm : X.mg x = some (.ref (He.ga X.K x))) (hd : (x == ("__debug__" : Str)) = false) (hs : starEach (.Name x p :: es) X.env = (false, eval (.Name x p) X.env) :: starEach es X.env) (r : SelOk X k' np es vs gs) : SelOk X k' np (.Name x p :: es) (.ref (He.ga X.K x) :: vs) (g :: gs)
section
variable {X : Cx} {k' np : Nat}
theorem SelOk.len : ∀ {es : List Expr} {vs : List V} {gs : List GX}, SelOk X k' np es vs gs → vs.length = gs.length ∧ es.length = gs.length
  | _, _, _, .nil => ⟨rfl, rfl⟩
  | _, _, _, .cons _ _ _ _ _ _ r => ⟨congrArg (· + 1) r.len.1, congrArg (· + 1) r.len.2⟩
theorem SelOk.get : ∀ {es : List Expr} {vs : List V} {gs : List GX}, SelOk X k' np es vs gs → ∀ (j : Nat) (g : GX), gs[j]? = some g → ∃ x k ps, vs[j]? = some (.ref (He.ga X.K x)) ∧ k ≤ k' ∧ KnX X.prog X.w X.K X.mg X.base k x ps (spX X.E np g) ∧ X.mg x = some (.ref (He.ga X.K x))
  | _, _, _, .nil, j, g, e => by cases e
  | _, _, _, .cons (x := x) (k := k) (ps := ps) h hk hg hm hd hs r, 0, g, e => by
    cases e
    exact ⟨x, k, ps, rfl, hk, h, hm⟩
  | _, _, _, .cons h hk hg hm hd hs r, j + 1, g, e => r.get j g e
end
end L2.M
namespace L2.M
open PySem PySem.Spec PyProof.Rows
end L2.M
namespace L2.M
open PySem PySem.Spec PyProof.Rows
end L2.M
namespace L2.M
open PySem PySem.Spec PyProof.Rows
open PySem.Builtin PySem.Builtin.Str
section
variable {P : Program} {w : World} {K : PySem.W.Frag} {mg : Str → Option Value} {base : Heap} {CX : CXT}
theorem PSsT.nox {X : Cx} {st : List Stmt} {t : TS} (h : PSsT X.nox st t) : PSsT X st t := fun pins s σ H D h0 I hw =>
  wpAny_mono (h pins s σ H D h0 (I.wish _) hw) (fun _ _ q => q.unwish) fun _ _ z => False.elim z
end
end L2.M
namespace L2.M
open PySem PySem.Spec PyProof.Rows
end L2.M
namespace L2.M
open PySem PySem.Spec PyProof.Rows
end L2.M
namespace L2.M
open PySem PySem.Spec PyProof.Rows
theorem Sep.hdSh {K : Ek} {F R H : Hp} {σ : L2.St} {ε : Cs} {T : Tms} {v : V} {d : D} (s : Sep K F R H σ ε ((v, .sh d) :: T)) : Rep K.1 F v d := by
  obtain ⟨f, ⟨_, w, e1, r⟩, m⟩ := s.headT
  cases e1
  exact r
def mDGetD (i : Nat) (m n : EM) : EM := fun ε => match ε[i]? with
  | some (.dc 0 _) => do
    let (c1, ε1) ← m ε
    let (c2, ε2) ← n ε1
    match c1, c2, ε2[i]? with
      | .sh kd, .sh d, some (.dc 0 kds) => if (kyD kd).isSome = true then some (.sh ((dLk kds kd).getD d), ε2) else none
      | _, _, _ => none
  | _ => none
def mDList (i : Nat) : EM := fun ε => match ε[i]? with
  | some (.dc 0 kds) => some (.ls (kds.map (·.1)), ε)
  | _ => none
end L2.M
namespace L2.M
open PySem PySem.Spec PyProof.Rows
end L2.M
namespace L2.M
open PySem PySem.Spec PyProof.Rows
end L2.M
namespace L2.M
open PySem PySem.Spec PyProof.Rows
end L2.M
namespace L2.M
open PySem PySem.Spec PyProof.Rows
section
variable {prog : Program} {w : World} {A : Around} {E : Value → Shared → Prop} {s : Shared}
theorem ne_same {nm : String} {a b : Addr} {oa ob : Obj} {es es' : Array DictEntry} {ep ep' : Nat} {Q : Bool → Shared → Prop} (ha : (a == sysModules) = false) (hb : (b == sysModules) = false)
    (hoa : s.heap.get? a = some oa) (hda : oa.data = .dict es ep) (hob : s.heap.get? b = some ob) (hdb : ob.data = .dict es' ep') (h0 : es'.size = 0) (h : Q (es.size == 0) s) : wpAny (model prog w) A (Builtin.Dict.samePairs nm a b) Q E s := by
  unfold Builtin.Dict.samePairs Builtin.Dict.showsAll
  rw [if_neg (show ¬ (a == sysModules) = true by rw [ha]; exact Bool.false_ne_true), if_neg (show ¬ (b == sysModules) = true by rw [hb]; exact Bool.false_ne_true)]
  refine wpAny_bind (wpAny_pure (wpAny_bind (wpAny_pure ?_)))
  refine wpAny_bind (wpAny_dictEntries hoa hda ?_)
  dsimp only
  refine wpAny_bind (wpAny_dictEntries hob hdb ?_)
  by_cases hsz : es.size = es'.size
  case neg =>
    rw [if_pos (by simpa using hsz)]
    have hbf : (es.size == 0) = false := by
      rw [h0] at hsz
      simpa using hsz
    rw [hbf] at h
    exact wpAny_bind (wpAny_rule (wpAny_pure h))
  case pos =>
    have e0 : es.size = 0 := by omega
    rw [if_neg (by rw [hsz]; simp)]
    refine wpAny_bind (wpAny_dictEpoch hoa hda ?_)
    refine wpAny_bind ?_
    rw [Std.Legacy.Range.forIn_eq_forIn_range']
    simp only [Std.Legacy.Range.size, Nat.sub_zero, Nat.add_sub_cancel, Nat.div_one]
    rw [e0] at h ⊢
    exact wpAny_pure (wpAny_pure h)
theorem dict_ne0 {a b : Addr} {oa ob : Obj} {es es' : Array DictEntry} {ep ep' : Nat} {Q : Value → Shared → Prop} (ha : (a == sysModules) = false) (hb : (b == sysModules) = false)
    (hoa : s.heap.get? a = some oa) (xa : oa.ExactDict) (hda : oa.data = .dict es ep) (hob : s.heap.get? b = some ob) (xb : ob.ExactDict) (hdb : ob.data = .dict es' ep') (h0 : es'.size = 0) (hu : A.units < cLine) (h : Q (.bool (!(es.size == 0))) s) :
    wpAny (model prog w) A (compareOp .NotEq (.ref a) (.ref b)) Q E s := by
  have ta : Shared.TypeIs s (.ref a) "dict" := ⟨oa, hoa, xa.1⟩
  have tb : Shared.TypeIs s (.ref b) "dict" := ⟨ob, hob, xb.1⟩
  refine wpAny_richCompare_same_room (op := .NotEq) ta tb PySem.F.slot_dict_ne (wpAny_call_entry PySem.F.slot_dict_ne ta PySem.F.entry_dict_ne ?_ (PySem.F.args_dict_ne_2 _ _)) hu
  show wpAny _ _ (Builtin.Dict.dictSlotArgs "__ne__" ⟨[.ref a, .ref b], []⟩ >>= _) _ _ s
  refine wpAny_bind ?_
  unfold Builtin.Dict.dictSlotArgs
  refine wpAny_bind (wpAny_notOrdered_dict ta ?_)
  show wpAny _ _ (pure (Value.ref a, Value.ref b)) _ _ s
  refine wpAny_pure ?_
  refine wpAny_bind (wpAny_isInstance (T := "dict") tb PySem.F.sub_dict_dict ?_)
  simp only [Bool.not_true, Bool.false_eq_true, if_false]
  refine wpAny_bind (wpAny_pure (wpAny_bind (wpAny_pure ?_)))
  refine wpAny_bind (ne_same ha hb hoa hda hob hdb h0 ?_)
  refine wpAny_pure ⟨_, rfl, ?_, ?_⟩
  · exact fun x => nomatch x
  · simpa using h
end
/-- a dict is not empty -/
def mNNe (i : Nat) : EM := fun ε => match ε[i]? with
  | some c => (nKs c).map fun ks => (.sh (.bool (!ks.isEmpty)), ε)
  | none => none
section
variable {X : Cx} {y : Str} {p q pos : Pos} {i k : Nat}
def tNNe (w : World) (td : TE) : TE := fun σ H Q => td σ H fun x H1 => ∃ (a : Addr) (xs : NX), x = .ref a ∧ NkAt w H1 a xs ∧ ∀ l, H1 l = none → Q (.bl (!xs.isEmpty)) (upd H1 l (nkO w l []))
theorem pc_nne {o : Expr} {td : TE} (hu : X.A.units < cLine) (ho : PE X o td) : PC X .NotEq o (.Dict [] [] q) (tNNe X.w td) := by
  refine ⟨fun pins s σ H Q I h => ?_⟩
  refine thn (ho.run pins s σ H _ I h) fun u s1 ⟨x, H1, I1, rx, a, xs, ex, g, q1⟩ => ?_
  refine thn (pe_nnew.run pins s1 σ H1 (fun v H2 => ∃ l, v = .ref l ∧ H1 l = none ∧ H2 = upd H1 l (nkO X.w l [])) I1 fun l hl => ⟨l, rfl, hl, rfl⟩) fun v s2 ⟨z, H2, I2, rz, l, ez, hl, e2⟩ => ?_
  subst ex ez e2
  obtain rfl : u = Value.ref a := rx
  obtain rfl : v = Value.ref l := rz
  have hal : a ≠ l := fun e => by
    subst e
    rcases g with g | ⟨_, g⟩ <;> (rw [hl] at g; cases g)
  have g2 : NkAt X.w (upd H1 l (nkO X.w l [])) a xs := by
    unfold NkAt upd at *
    simpa [hal] using g
  have g3 : NkAt X.w (upd H1 l (nkO X.w l [])) l [] := .inl (by simp [upd])
  obtain ⟨hd1, o1, es1, ep1, a1, a2, a3, a4, _⟩ := nk_ents I2 g2
  obtain ⟨hd2, o2, es2, ep2, b1, b2, b3, b4, _⟩ := nk_ents I2 g3
  refine dict_ne0 hd1 hd2 a1 a2 a3 b1 b2 b3 (by simpa using b4) hu ?_
  have e : (!(es1.size == 0)) = !xs.isEmpty := by
    rw [a4]
    cases xs <;> rfl
  rw [e]
  exact ⟨.bl _, _, I2, rfl, q1 l hl⟩
theorem nne_core {K : Ek} {σ : St} {H : Hp} {Q : VK} (h : tE K (mNNe i) σ H Q) : tNNe K.2 (tVar i) σ H Q := by
  obtain ⟨F, R, ε, c, ε', s, e, qq⟩ := h
  unfold mNNe at e
  cases e4 : ε[i]? with
  | none => simp [e4] at e
  | some c1 =>
    cases e5 : nKs c1 with
    | none => simp [e4, e5] at e
    | some ks =>
      simp only [e4, e5, Option.map_some] at e
      cases e
      obtain ⟨a, bs, vs, g1, g2, g3, g4, _⟩ := s.nview e4 e5
      refine ⟨_, g1, a, bs.zip vs, rfl, g2, fun l hl => ?_⟩
      have hz : (!(bs.zip vs).isEmpty) = !ks.isEmpty := by
        have l1 := g4.len
        cases ks with
        | nil =>
          have : bs = [] := List.length_eq_zero_iff.mp (by simpa using l1)
          simp [this]
        | cons k ks =>
          cases bs with
          | nil => simp at l1
          | cons b bs =>
            cases vs with
            | nil => simp at g3
            | cons v vs => simp
      rw [hz]
      have s2 : Sep K F R (upd H l (nkO K.2 l [])) σ ε ([(.ref l, .ob (.dn []) [])] ++ []) := Sep.change (T1 := []) s fun gs h n _ => ⟨[l], ⟨l, [], [], rfl, rfl, ⟨[], upd_same, rfl, rfl, List.nodup_nil⟩, rfl, rfl⟩, by simp, fun b hb => .inr (by rw [List.mem_singleton.mp hb]; exact hl), fun b u _ e => by rw [upd_ne (ne_of_none e hl)]; exact e⟩
      exact qq _ _ _ (Same.refl F) ((s2.drops _).addSh rfl)
theorem y_nne (hr : Room k X.A) (hv : PE X (.Name y p) (tVar i)) (hm : behindInMarks .NotEq (.Dict [] [] q) = false := by rfl) : PT X (.Compare (.Name y p) [.NotEq] [.Dict [] [] q] pos) (tT X.E (mTst (mNNe i))) :=
  (pt_cmp (pc_nne (by have := hr.un; omega) hv) hm).weak fun σ H Q h => nne_core (tE_tst h)
end
end L2.M
namespace L2.M
open PySem PySem.Spec PyProof.Rows
end L2.M
namespace L2.M
open PySem PySem.Spec PyProof.Rows
end L2.M
namespace PySem.SeqAt
open AutoSeq1 (wpAny_loadPart')
open MeetsSeq MeetsSeq2 MeetsSeq3
end PySem.SeqAt
namespace L2.M
open PySem PySem.Spec PyProof.Rows
end L2.M
namespace L2.M
open PySem PySem.Spec PyProof.Rows
end L2.M
namespace L2.M
open PySem PySem.Spec PyProof.Rows
end L2.M
namespace L2.M
open PySem PySem.Spec PyProof.Rows
def revS (z : Str) : Str := ⟨z.cps.toList.reverse.toArray⟩
theorem rev_idx (n : Nat) : Builtin.Str.strSliceIndices none none (-1) n = (List.range n).map fun k => n - 1 - k := by
  unfold Builtin.Str.strSliceIndices sliceRange
  simp only [show ¬ ((-1 : Int) > 0) by decide, if_false]
  cases n with
  | zero => rfl
  | succ n =>
    rw [if_pos (by omega)]
    have : ((((n + 1 : Nat) : Int) - 1 - -1 - -1 - 1) / (- -1)).toNat = n + 1 := by
      have : (((n + 1 : Nat) : Int) - 1 - -1 - -1 - 1) = (n + 1 : Nat) := by omega
      rw [this]
      simp
    rw [this]
    refine List.map_congr_left fun k hk => ?_
    have := List.mem_range.mp hk
    omega
theorem range_get {α : Type} : ∀ l : List α, (List.range l.length).filterMap (l[·]?) = l
  | [] => rfl
  | a :: l => by
    rw [List.length_cons, List.range_succ_eq_map, List.filterMap_cons, List.filterMap_map]
    show a :: _ = _
    congr 1
    exact range_get l
theorem fm_congr {α β : Type} {f g : α → Option β} : ∀ l : List α, (∀ x ∈ l, f x = g x) → l.filterMap f = l.filterMap g
  | [], _ => rfl
  | a :: l, h => by
    rw [List.filterMap_cons, List.filterMap_cons, h a List.mem_cons_self, fm_congr l fun x hx => h x (List.mem_cons_of_mem _ hx)]
theorem rev_pick (xs : Array Nat) : ((List.range xs.size).map fun k => xs.size - 1 - k).filterMap (xs[·]?) = xs.toList.reverse := by
  rw [List.filterMap_map]
  have e := range_get xs.toList.reverse
  rw [List.length_reverse, Array.length_toList] at e
  rw [← e]
  refine fm_congr _ fun k hk => ?_
  have hk := List.mem_range.mp hk
  rw [List.getElem?_reverse (by simpa using hk)]
  simp
def tRevS (te : TE) : TE := fun σ H Q => te σ H fun x H1 => ∃ z, x = .str z ∧ z.length ≤ sizeLine ∧ Q (.str (revS z)) H1
section
variable {X : Cx} {e : Expr} {k : Nat} {p1 p2 p3 pos : Pos}
theorem pe_backS {te : TE} (he : PE X e te) : PE X (.Subscript e (.Slice none none (some (.UnaryOp .USub (.Constant (.int 1) k p1) p2)) p3) pos) (tRevS te) := by
  refine ⟨fun pins s σ H Q I h => ?_⟩
  refine Subscript_ (thn (he.run pins s σ H _ I h) fun v s1 ⟨x, H1, I1, r1, q1⟩ => ?_)
  have back : PO X (some (.UnaryOp .USub (.Constant (.int 1) k p1) p2)) (tPart (tUn (rU fun i => .int (-i)) (tC (.int 1)))) := po_some (pe_un un_neg pe_int)
  refine wpAny_Slice (thn (po_none.run pins s1 σ H1 (fun o Ha => o = none ∧ Ha = H1) I1 ⟨rfl, rfl⟩) fun vl s2 ⟨o1, H2, I2, pl, g1, g2⟩ => ?_)
  subst g1 g2
  refine thn (po_none.run pins s2 σ H2 (fun o Ha => o = none ∧ Ha = H2) I2 ⟨rfl, rfl⟩) fun vu s3 ⟨o2, H3, I3, pu, g1, g2⟩ => ?_
  subst g1 g2
  refine thn (back.run pins s3 σ H3 (fun o Ha => o = some (-1) ∧ Ha = H3) I3 ⟨1, rfl, -1, rfl, rfl, rfl⟩) fun vs s4 ⟨o3, H4, I4, ps, g1, g2⟩ => ?_
  subst g1 g2
  have I5 : Inv X pins σ H4 { s4 with heap := s4.heap.push { cls := .type "slice", data := .fields #[vl, vu, vs] } } := I4.kept (t' := s4.toks) fun b ob z => Heap.get?_push_of_some _ z
  obtain ⟨z, rfl, hz, q⟩ := q1
  obtain ⟨t, rfl⟩ := r1
  cases pl
  cases pu
  obtain ⟨tk, rfl⟩ : ∃ tk, vs = .int (-1) tk := by
    cases ps
    exact ⟨_, rfl⟩
  show wpAny (model X.prog X.w) X.A (subscriptTail e (.Slice none none (some (.UnaryOp .USub (.Constant (.int 1) k p1) p2)) p3) (.str z t) (.ref s4.heap.objs.size)) (EP X pins σ Q) X.xe _
  refine tail_any (ops := [.str z t, .ref s4.heap.objs.size]) (typeIs_str _ _ _) (PySem.F.slot_str_getitem.lookup) ?_ (by with_unfolding_all rfl)
  refine wpAny_getItem_str_slice (l := none) (u := none) (st := some (-1, tk)) ⟨_, Heap.get?_push_size _ rfl, rfl, rfl⟩ rfl ?_
  show Made.post (if ((-1 : Int) == 1 && (Builtin.Str.strSliceIndices none none (-1) z.length).length == z.length) = true then Made.val (.str z t)
    else Made.str ⟨((Builtin.Str.strSliceIndices none none (-1) z.length).filterMap (z.cps[·]?)).toArray⟩) _ _
  rw [if_neg (by simp)]
  have er : (⟨((Builtin.Str.strSliceIndices none none (-1) z.length).filterMap (z.cps[·]?)).toArray⟩ : Str) = revS z := by
    rw [rev_idx]
    unfold revS
    congr 2
    exact rev_pick z.cps
  rw [er]
  refine ⟨?_, .str _, H4, I5.tok _, ⟨_, rfl⟩, q⟩
  show (z.cps.toList.reverse.toArray).size ≤ sizeLine
  rw [List.size_toArray, List.length_reverse, Array.length_toList]
  exact hz
def revSD : D → Option C
  | .str z => if z.length ≤ sizeLine then some (.sh (.str (revS z))) else none
  | _ => none
def mRevS (m : OM) : EM := mU revSD m
theorem x_revS {m : OM} (he : PE X e (tO X.E m)) : PE X (.Subscript e (.Slice none none (some (.UnaryOp .USub (.Constant (.int 1) k p1) p2)) p3) pos) (tE X.E (mRevS m)) := (pe_backS he).weak fun σ H Q h => by
  have := tE_u (r := fun x H1 Q => ∃ z, x = .str z ∧ z.length ≤ sizeLine ∧ Q (.str (revS z)) H1) (fun F H x d c Q s h1 he q => by
    unfold revSD at he
    split at he
    · split at he
      · rename_i hl
        cases he
        exact ⟨_, rb_str h1, hl, g_str s q⟩
      · cases he
    · cases he) h
  exact this
end
theorem cmpOf_str {prog : Program} {w : World} {A : Around} (vs : Array Value) (hn : ∀ v ∈ vs, ∃ x t, v = .str x t) (lt : Value → Value → Bool) (hlt : ∀ x t y u, lt (.str x t) (.str y u) = decide (x.cps.toList < y.cps.toList)) :
    CmpOf prog w A .Lt (fun i v => vs[i]? = some v) (fun i j => lt (vs.getD i .none) (vs.getD j .none)) := fun i j vi vj s Q E hi hj h => by
  have e1 : vs.getD i .none = vi := by simp [Array.getD_eq_getD_getElem?, hi]
  have e2 : vs.getD j .none = vj := by simp [Array.getD_eq_getD_getElem?, hj]
  simp only [e1, e2] at h
  obtain ⟨x, t, rfl⟩ := hn _ (Array.mem_of_getElem? hi)
  obtain ⟨y, u, rfl⟩ := hn _ (Array.mem_of_getElem? hj)
  rw [hlt] at h
  exact (PyProof.Rows.lt_str h : wpAny (model prog w) A (compareOp .Lt (.str x t) (.str y u)) Q E s)
def ltVS : Value → Value → Bool
  | .str x _, .str y _ => decide (x.cps.toList < y.cps.toList)
  | _, _ => false
theorem min_two_strs {prog : Program} {w : World} {A : Around} {E : Value → Shared → Prop} {s : Shared} {Q : Value → Shared → Prop} {x y : Str} {t u : Tok} (hh : A.handled = none)
    (h : ∀ h' tk, (∀ c o, s.heap.get? c = some o → h'.get? c = some o) → Q (if ltVS (.str y u) (.str x t) then .str y u else .str x t) { s with heap := h', toks := tk }) :
    wpAny (model prog w) A (call (.builtin "min") [.str x t, .str y u]) Q E s := by
  have hT : (s.heap.push { cls := .type "tuple", data := .seq #[.str x t, .str y u] }).IsTuple s.heap.objs.size #[.str x t, .str y u] := ⟨_, Heap.get?_push_size _ rfl, rfl, 0, rfl⟩
  refine call_min_two (wpAny_pyIter_tuple hT ?_)
  have hsz : (s.heap.push { cls := .type "tuple", data := .seq #[.str x t, .str y u] }).objs.size = s.heap.objs.size + 1 := Heap.size_push ..
  refine ⟨_, [_, s.heap.objs.size], [_], _, _, _, _, rfl, Walks.tuple (A := A.in1) hh _ s.heap.objs.size (by rw [hsz]; exact Nat.ne_of_lt (Nat.lt_succ_self _)) #[.str x t, .str y u],
    ⟨⟨_, Heap.get?_push_size _ rfl, rfl, rfl⟩, hT.push _⟩, fun c hc => ?_, by simp, cmpOf_str #[.str x t, .str y u] (by
      intro v hv
      simp at hv
      rcases hv with rfl | rfl
      · exact ⟨_, _, rfl⟩
      · exact ⟨_, _, rfl⟩) ltVS (fun _ _ _ _ => rfl), fun v h' tk hP hk => ?_⟩
  · show c < ((s.heap.push _).push _).objs.size
    rw [Heap.size_push, hsz]
    rcases List.mem_cons.mp hc with rfl | hc
    · rw [hsz]; exact Nat.lt_succ_self _
    · rcases List.mem_cons.mp hc with rfl | hc
      · exact Nat.lt_succ_of_lt (Nat.lt_succ_self _)
      · cases hc
  · have hold : ∀ c o, s.heap.get? c = some o → h'.get? c = some o := fun c o e => by
      refine hk c o (fun hm => ?_) (Heap.get?_push_of_some _ (Heap.get?_push_of_some _ e))
      rcases List.mem_cons.mp hm with e1 | hm
      · have := Heap.lt_size e; rw [e1, hsz] at this; exact Nat.lt_irrefl _ (Nat.lt_of_succ_lt this)
      · cases hm
    have := h h' tk hold
    have hv : v = if ltVS (.str y u) (.str x t) then .str y u else .str x t := by
      cases hc : ltVS (.str y u) (.str x t) <;> simp [argBest, hc] at hP <;> simp [hP]
    rw [hv]; exact this
def minS (a b : Str) : Str := if b.cps.toList < a.cps.toList then b else a
def minSD : List D → Option C
  | [.str a, .str b] => some (.sh (.str (minS a b)))
  | _ => none
section
variable {X : Cx}
theorem call_minS (hc : X.calm = true) : CallR X (.builtin "min") (fun xs H Q => ∃ i j, xs = [.str i, .str j] ∧ Q (.str (minS i j)) H) := by
  intro pins s σ H xs us Q I r h
  obtain ⟨i, j, rfl, q⟩ := h
  obtain ⟨u, w', rfl, ⟨t, rfl⟩, ⟨t', rfl⟩⟩ := vals2 r
  refine min_two_strs (I.ok.hd hc) fun h' tk k => ⟨_, H, I.kept k, ?_, q⟩
  unfold minS ltVS
  by_cases hj : j.cps.toList < i.cps.toList
  · rw [if_pos hj, if_pos (by simpa using hj)]; exact ⟨_, rfl⟩
  · rw [if_neg hj, if_neg (by simpa using hj)]; exact ⟨_, rfl⟩
theorem minS_ok (hc : X.calm = true) : ∃ r, CallR X (.builtin "min") r ∧ FnB X.K minSD r := by
  refine ⟨_, call_minS hc, fun F H vs ds c Q s hr he q => ?_⟩
  match ds, he, hr with
  | [.str i, .str j], he, hr =>
    cases he
    obtain ⟨x, y, rfl, h1, h2⟩ := hr.two
    rw [rb_str h1, rb_str h2]
    exact ⟨i, j, rfl, g_str s q⟩
theorem x_minS {e : Expr} {es : List Expr} {mr : AM} {p pos : Pos} (hm : X.mg "min" = none) (hc : X.calm = true) (hg : Gl X "min") (ha : PA X (e :: es) (tA X.E mr)) (he : starEach (e :: es) X.env = (false, eval e X.env) :: starEach es X.env := by rfl) (hpl : (backTo pos (starEach es X.env)).any (·.1) = false := by rfl) :
    PE X (.Call (.Name "min" p) (e :: es) [] pos) (tE X.E (mOp minSD mr)) :=
  let ⟨_, h1, h2⟩ := minS_ok hc
  me_callB h1 h2 hg hm boot_min ha (by decide) (by decide) he hpl
end
def strsB (ds : List D) : Bool := ds.all fun a => match a with | .str _ => true | _ => false
def minLD : List D → Option C
  | [.list (x :: xs)] => if SeqAt.shaped (.list (x :: xs)) = true ∧ strsB (x :: xs) = true then some (.sh (PySem.W.minD x xs)) else none
  | _ => none
theorem strsB_ok {ds : List D} (h : strsB ds = true) : PySem.W.AlikeAll ds := by
  unfold strsB at h
  rw [List.all_eq_true] at h
  have hs : ∀ a ∈ ds, ∃ z, a = .str z := by
    intro a ha
    have := h a ha
    cases a <;> first | exact ⟨_, rfl⟩ | cases this
  refine ⟨fun a ha b hb => ?_, fun a ha z => ?_⟩
  · obtain ⟨x, rfl⟩ := hs a ha
    obtain ⟨y, rfl⟩ := hs b hb
    rfl
  · obtain ⟨x, rfl⟩ := hs a ha
    cases z
section
variable {X : Cx}
theorem minL_ok (hc : X.calm = true) (hu : X.A.units + 66 < cLine) : ∃ r, CallR X (.builtin "min") r ∧ FnB X.K minLD r := by
  refine ⟨_, cr_minT hc hu, fun F H vs ds c Q s hr he q => ?_⟩
  match ds, he, hr with
  | [.list (d :: ds)], he, hr =>
    simp only [minLD] at he
    split at he
    · rename_i hh
      cases he
      obtain ⟨x, rfl, h1⟩ := hr.one
      obtain ⟨a, vs, rfl, g1, g2⟩ := rb_lst s h1
      have hcl : PyData.canLayAll0 (d :: ds) = true := by
        have := SeqAt.canLay_of_shaped hh.1
        simpa [PyData.canLay0] using this
      refine ⟨a, vs, d, ds, rfl, g1, Reps.dp s _ _ g2 hcl, hh.1, strsB_ok hh.2, fun i v hv hd => ?_⟩
      obtain ⟨w, hw, rw'⟩ := g2.get hd
      rw [hv] at hw
      cases hw
      exact gv s rw' q
    · cases he
  | [.list []], he, hr => cases he
  | [.tuple _], he, hr => cases he
  | [.none], he, hr => cases he
  | [.int _], he, hr => cases he
  | [.bool _], he, hr => cases he
  | [.str _], he, hr => cases he
  | [.dict _], he, hr => cases he
  | [], he, hr => cases he
  | _ :: _ :: _, he, hr => simp [minLD] at he
theorem x_minL {k : Nat} {e : Expr} {es : List Expr} {mr : AM} {p pos : Pos} (hm : X.mg "min" = none) (hr : Rm k X.A) (hc : X.calm = true) (hg : Gl X "min") (ha : PA X (e :: es) (tA X.E mr)) (he : starEach (e :: es) X.env = (false, eval e X.env) :: starEach es X.env := by rfl) (hpl : (backTo pos (starEach es X.env)).any (·.1) = false := by rfl) :
    PE X (.Call (.Name "min" p) (e :: es) [] pos) (tE X.E (mOp minLD mr)) :=
  let ⟨_, h1, h2⟩ := minL_ok hc (by have := hr.un; omega)
  me_callB h1 h2 hg hm boot_min ha (by decide) (by decide) he hpl
end
section
variable {X : Cx} {pins : List (Addr × Obj)} {σ : St} {H : Hp} {s : Shared} {a : Addr} {A : Around} {E : Value → Shared → Prop} {xs : NX}
theorem n_get2 {y d : V} {u r : Value} {k : NestedKey} {Q : Value → Shared → Prop} (hu : A.units + 9 < cLine) (I : Inv X pins σ H s) (g : NkAt X.w H a xs) (hk : NkKeys X.prog X.w H (xs.map (·.1))) (hy : NkKey X.prog X.w H y k) (ry : RelV y u) (rd : RelV d r) (h : ∀ w' s', Inv X pins σ H s' → RelV ((lkN xs k).getD d) w' → Q w' s') :
    wpAny (model X.prog X.w) A (call (.builtin "dict.get") [.ref a, u, r]) Q E s := by
  obtain ⟨z, hd, vs, pr, dd⟩ := n_dict I g hk
  obtain ⟨⟨b, rfl⟩, k8, kis⟩ := hy
  cases (show u = Value.ref b from ry)
  refine call_meetsIn PySem.F.slot_dict_get dd.typeIs PySem.F.entry_dict_get (PySem.F.args_dict_get_3 _ _ _) (meetsH_dict_get_default (nestedKind X.prog X.w) a b hd r) ⟨nroom hu, k, _, ⟨kis _ I.hok _ rfl, k8⟩, dd, h _ _ (I.tok _) ?_⟩
  exact (lk_val pr).getD rd
end
def tNGet2 (P : Program) (w : World) (td ty tx : TE) : TE := fun σ H Q => td σ H fun x H1 => ∃ a, x = .ref a ∧ (∃ xs, NkAt w H1 a xs) ∧ ty σ H1 fun y H2 => tx σ H2 fun z H3 => ∃ o, NGet P w H3 a y o ∧ Q (o.getD z) H3
section
variable {X : Cx} {o e f : Expr} {y : Str} {i k : Nat} {p apos cpos : Pos} {td ty tx : TE} {kx dx : Expr} {m n : EM}
theorem pe_nget2 (hu : X.A.units + 9 < cLine) (ho : PE X o td) (he : PE X e ty) (hf : PE X f tx) (m : M2 X o "get" apos e f cpos) : PE X (.Call (.Attribute o "get" apos) [e, f] [] cpos) (tNGet2 X.prog X.w td ty tx) := by
  refine ⟨fun pins s σ H Q I h => ?_⟩
  refine wpAny_Call_method m.base m.few m.line PySem.F.plainAttrs_dict PySem.F.slot_dict_get PySem.F.type_dict_get (thn (ho.run pins s σ H _ I h) fun u s1 ⟨x, H1, I1, rx, a, ex, ⟨xs, d⟩, q1⟩ => ?_)
  subst ex
  obtain rfl : u = Value.ref a := rx
  obtain ⟨_, _, vs, _, ob, es, ep, h1, h2, _⟩ := nk_of I1.hok d
  refine ⟨⟨ob, h1, h2.1⟩, fun a1 ea => by cases ea; exact ⟨ob, h1, h2.2.1⟩, ?_⟩
  rw [m.trees]
  refine Calls.callWith_builtin rfl (Calls.evalArgs_plain (Calls.spliced_cons (thn (he.run pins s1 σ H1 _ I1 q1) fun iv s2 ⟨y, H2, I2, ry, q2⟩ =>
    Calls.spliced_cons (thn (hf.run pins s2 σ H2 _ I2 q2) fun fv s3 ⟨z, H3, I3, rz, ov, g, q3⟩ => Calls.spliced_nil ?_))))
  obtain ⟨xs, k, g1, g2, g3, rfl⟩ := g
  exact n_get2 hu I3 g1 g2 g3 ry rz fun w' s4 I4 rw' => ⟨_, H3, I4, rw', q3⟩
def mNGetD (i : Nat) (m n : EM) : EM := fun ε => do
  let c0 ← ε[i]?
  let _ ← nKs c0
  let (c1, ε1) ← m ε
  let (c2, ε2) ← n ε1
  match c1, c2 with
    | .sh kd, .sh d => do
      let key ← okKey kd
      let c ← ε2[i]?
      let ks ← nKs c
      match idxN ks key with
        | none => some (.sh d, ε2)
        | some j => do
          let v ← nVl c j
          some (.sh v, ε2)
    | _, _ => none
theorem x_ngetd (hr : Room k X.A) (hv : PE X (.Name y p) (tVar i)) (he : PE X kx (tE X.E m)) (hf : PE X dx (tE X.E n)) (hm : M2 X (.Name y p) "get" apos kx dx cpos) : PE X (.Call (.Attribute (.Name y p) "get" apos) [kx, dx] [] cpos) (tE X.E (mNGetD i m n)) :=
  (pe_nget2 (by have := hr.un; omega) hv he hf hm).weak fun σ H Q h => by
    obtain ⟨F, R, ε, c, ε', s, e, q⟩ := h
    unfold mNGetD at e
    cases e0 : ε[i]? with
    | none => simp [e0] at e
    | some c0 =>
      cases e00 : nKs c0 with
      | none => simp [e0, e00] at e
      | some ks0 =>
        cases e1 : m ε with
        | none => simp [e0, e00, e1] at e
        | some p1 =>
          obtain ⟨c1, ε1⟩ := p1
          cases e2 : n ε1 with
          | none => simp [e0, e00, e1, e2] at e
          | some p2 =>
            obtain ⟨c2, ε2⟩ := p2
            simp only [e0, e00, e1, e2, Option.bind_eq_bind, Option.bind_some] at e
            split at e
            · rename_i kd d
              cases e3 : okKey kd with
              | none => simp [e3] at e
              | some key =>
                cases e4 : ε2[i]? with
                | none => simp [e3, e4] at e
                | some c3 =>
                  cases e5 : nKs c3 with
                  | none => simp [e3, e4, e5] at e
                  | some ks =>
                    simp only [e3, e4, e5, Option.bind_some] at e
                    obtain ⟨a0, _, _, hw, hat, _⟩ := s.nview e0 e00
                    refine ⟨_, hw, a0, rfl, ⟨_, hat⟩, F, R, ε, _, ε1, s, e1, fun v F1 H1 fm s1 => ?_⟩
                    refine ⟨F1, R, ε1, _, _, s1.drop, e2, fun w F2 H2 fm2 s2 => ?_⟩
                    have nk := okKey_rep (P := X.prog) (w := X.w) s2.sub e3 (.inl (Rep.mono fm2 _ _ s1.hdSh))
                    obtain ⟨a, bs, vs, g1, g2, g3, g4, g5⟩ := s2.drop.nview e4 e5
                    rw [hw] at g1
                    cases g1
                    have hkk : NkKeys X.prog X.w H2 ((bs.zip vs).map (·.1)) := by
                      rw [List.map_fst_zip (by omega)]
                      exact g4.nk s2.sub
                    refine ⟨_, ⟨_, key, g2, hkk, nk.1, rfl⟩, ?_⟩
                    rw [nlk g3 g4]
                    cases e6 : idxN ks key with
                    | none =>
                      simp only [e6] at e
                      cases e
                      exact q w F2 H2 (fm.trans fm2) s2
                    | some j =>
                      cases e7 : nVl c3 j with
                      | none => simp [e6, e7] at e
                      | some d' =>
                        simp only [e6, e7, Option.bind_some] at e
                        cases e
                        obtain ⟨v', hv', r⟩ := g5 j d' e7
                        show Q ((vs[j]?).getD w) H2
                        rw [hv']
                        exact q _ F2 H2 (fm.trans fm2) (s2.drop.addSh r)
            · cases e
end
end L2.M
namespace L2.M
open PySem PySem.Spec PyProof.Rows
def smul3D : D → D → Option C
  | .str a, .int k => if 0 ≤ k ∧ k ≤ 1000 ∧ a.length ≤ 10000 then some (.sh (.str (repS a k.toNat))) else none
  | _, _ => none
section
variable {X : Cx}
theorem op_smul3 : OpR X (binaryOp .Mult) (fun x y H Q => ∃ i k, x = .str i ∧ y = .int k ∧ 0 ≤ k ∧ k ≤ 1000 ∧ i.length ≤ 10000 ∧ Q (.str (repS i k.toNat)) H) := by
  intro pins s σ H x y v u Q I rx ry h
  obtain ⟨i, k, rfl, rfl, k0, k1, hz, q⟩ := h
  obtain ⟨t, rfl⟩ := rx
  obtain ⟨t', rfl⟩ := ry
  have b0 : (decide (k < -(2 ^ 63 : Int)) || decide (k ≥ 2 ^ 63)) = false := by simp; omega
  refine P.mul_str b0 (fun h1 h2 => ?_) (fun h1 h2 => ?_) ?_
  · have h3 : (2 ^ 63 - 1) / 1000 ≤ ((2 : Int) ^ 63 - 1) / k := by
      rw [Int.le_ediv_iff_mul_le (by omega)]
      have : ((2 : Int) ^ 63 - 1) / 1000 * k ≤ ((2 : Int) ^ 63 - 1) / 1000 * 1000 := Int.mul_le_mul_of_nonneg_left k1 (by decide)
      have h4 : ((2 : Int) ^ 63 - 1) / 1000 * 1000 ≤ 2 ^ 63 - 1 := by decide
      exact Int.le_trans this h4
    have h5 : (10000 : Int) ≤ (2 ^ 63 - 1) / 1000 := by decide
    omega
  · have h3 : i.length * k.toNat ≤ 10000 * 1000 := Nat.mul_le_mul hz (by omega)
    have hs : i.length * k.toNat ≤ sizeLine := Nat.le_trans h3 (by decide)
    exact decide_eq_false (show ¬ i.length * k.toNat > sizeLine by omega)
  · split
    · have e : k.toNat = 0 := by omega
      rw [e] at q
      exact ⟨by decide, .str Str.empty, H, I.tok _, ⟨_, rfl⟩, q⟩
    · split
      · rename_i hk he
        have e : repS i k.toNat = i := by
          have e2 := repS_cps i k.toNat
          have e3 : (List.replicate k.toNat i.cps.toList).flatten = i.cps.toList := by
            simp only [Bool.or_eq_true, beq_iff_eq] at he
            rcases he with he | he
            · subst he
              simp
            · have : i.cps.toList = [] := List.eq_nil_of_length_eq_zero (by rw [Array.length_toList]; exact he)
              rw [this]
              simp
          rw [e3] at e2
          cases i
          exact congrArg Str.mk (Array.toList_inj.mp e2)
        rw [e] at q
        exact ⟨.str i, H, I, ⟨_, rfl⟩, q⟩
      · refine ⟨?_, .str (repS i k.toNat), H, I.tok _, ⟨_, rfl⟩, q⟩
        have h3 : i.length * k.toNat ≤ 10000 * 1000 := Nat.mul_le_mul hz (by omega)
        have e2 := congrArg List.length (repS_cps i k.toNat)
        rw [Array.length_toList, List.length_flatten, List.map_replicate, List.sum_replicate_nat, Array.length_toList, Nat.mul_comm] at e2
        have e3 : (repS i k.toNat).length = i.length * k.toNat := e2
        show (repS i k.toNat).length ≤ _
        rw [e3]
        exact Nat.le_trans h3 (by decide)
theorem smul3_ok : ∃ r, OpR X (binaryOp .Mult) r ∧ Fn2 X.K smul3D r := by
  refine ⟨_, op_smul3, fun F H x y d e c Q s h1 h2 he q => ?_⟩
  unfold smul3D at he
  split at he
  · split at he
    · rename_i hb
      cases he
      exact ⟨_, _, rb_str h1, rb_int h2, hb.1, hb.2.1, hb.2.2, g_str s q⟩
    · cases he
  · cases he
variable {a b : Expr} {ma mb : OM} {pos : Pos}
theorem x_smul3 (ha : PE X a (tO X.E ma)) (hb : PE X b (tO X.E mb)) : PE X (.BinOp a .Mult b pos) (tE X.E (mB smul3D ma mb)) :=
  let ⟨_, h1, h2⟩ := smul3_ok
  me_bin h1 h2 ha hb
end
end L2.M
namespace L2.M
open PySem PySem.Spec PyProof.Rows
def lstSD : List D → Option C
  | [.str z] => if z.length ≤ sizeLine then some (.ls (z.cps.toList.map fun c => .str ⟨#[c]⟩)) else none
  | _ => none
theorem reps_chars {K : PySem.W.Frag} {F : Hp} : ∀ cs : List Nat, Reps K F (cs.map fun c => V.str ⟨#[c]⟩) (cs.map fun c => PyData.str ⟨#[c]⟩)
  | [] => rfl
  | c :: cs => ⟨_, _, rfl, rfl, reps_chars cs⟩
section
variable {X : Cx}
theorem call_listS (hc : X.calm = true) : CallR X (.type "list") (fun xs H Q => ∃ z : Str, xs = [V.str z] ∧ z.length ≤ sizeLine ∧ ∀ l, H l = none → Q (.ref l) (upd H l (.lst (z.cps.toList.map fun c => V.str ⟨#[c]⟩)))) := by
  intro pins s σ H xs us Q I r h
  obtain ⟨z, rfl, hz, q⟩ := h
  obtain ⟨u, rfl, t, rfl⟩ := vals1 r
  refine call_list_str (I.ok.hd hc) z t (fun h' tk acc c' hk hD hacc => ?_) hz
  have hv : Vals (z.cps.toList.map fun c => V.str ⟨#[c]⟩) acc.toList := by
    refine vals_of_at ?_ fun j x u hx hu => ?_
    · rw [List.length_map, Array.length_toList, Array.length_toList, hacc.1]
    · rw [Array.getElem?_toList] at hu
      obtain ⟨c, tk, h1, rfl⟩ := hacc.2 j u hu
      rw [List.getElem?_map, Array.getElem?_toList, h1] at hx
      cases hx
      exact ⟨tk, rfl⟩
  exact ⟨.ref s.heap.objs.size, _, I.laid (t' := tk) hk (Nat.le_refl _) (show ObjOk X.prog X.w _ _ _ (.lst (z.cps.toList.map fun c => V.str ⟨#[c]⟩)) from ⟨by rw [List.length_map, Array.length_toList]; exact hz, acc.toList, c', hv, by rw [Array.toArray_toList]; exact hD⟩), rfl, q _ (I.hok.fresh (Nat.le_refl _))⟩
theorem lstS_ok (hc : X.calm = true) : ∃ r, CallR X (.type "list") r ∧ FnB X.K lstSD r := by
  refine ⟨_, call_listS hc, fun F H vs ds c Q s hr he q => ?_⟩
  match ds, he, hr with
  | [.str z], he, hr =>
    simp only [lstSD] at he
    split at he
    · rename_i hl
      cases he
      obtain ⟨x, rfl, h1⟩ := hr.one
      rw [rb_str h1]
      exact ⟨z, rfl, hl, g_lst s (reps_chars _) q⟩
    · cases he
theorem x_listS {e : Expr} {es : List Expr} {mr : AM} {p pos : Pos} (hm : X.mg "list" = none) (hc : X.calm = true) (hg : Gl X "list") (ha : PA X (e :: es) (tA X.E mr)) (he : starEach (e :: es) X.env = (false, eval e X.env) :: starEach es X.env := by rfl) (hpl : (backTo pos (starEach es X.env)).any (·.1) = false := by rfl) :
    PE X (.Call (.Name "list" p) (e :: es) [] pos) (tE X.E (mOp lstSD mr)) :=
  let ⟨_, h1, h2⟩ := lstS_ok hc
  me_callTy h1 h2 hg hm boot_list ha (by decide) (by decide) he hpl
end
end L2.M
namespace KW
open PySem PySem.Spec PyProof.Rows L2 L2.M
theorem at_nn {α : Type} {xs : List α} {i : Int} (h : 0 ≤ i) : atI xs i = xs[i.toNat]? := by
  unfold atI ixN
  rw [if_pos h]
  by_cases k : i.toNat < xs.length
  · rw [if_pos (by omega)]; rfl
  · rw [if_neg (by omega)]
    rw [List.getElem?_eq_none (by omega)]
    rfl
theorem at_lit {α : Type} {xs : List α} {n : Nat} : atI xs (no_index (OfNat.ofNat n) : Int) = xs[n]? := at_nn (Int.natCast_nonneg n)
theorem at_nat {α : Type} {xs : List α} {n : Nat} : atI xs (n : Int) = xs[n]? := at_nn (Int.natCast_nonneg n)
theorem at_neg {α : Type} {xs : List α} {n : Nat} (h : 0 < n) : atI xs (-(n : Int)) = if n ≤ xs.length then xs[xs.length - n]? else none := by
  unfold atI ixN
  rw [if_neg (by omega)]
  by_cases k : n ≤ xs.length
  · rw [if_pos (by omega), if_pos k]
    have : (-(n : Int) + (xs.length : Int)).toNat = xs.length - n := by omega
    simp [this]
  · rw [if_neg (by omega), if_neg k]
    rfl
theorem at_m1 {α : Type} {xs : List α} : atI xs (-1) = xs.getLast? := by
  have := at_neg (xs := xs) (n := 1) (by decide)
  rw [show (-1 : Int) = -((1 : Nat) : Int) by rfl, this]
  cases xs with
  | nil => rfl
  | cons x xs => simp [List.getLast?_eq_getElem?]
theorem at_m2 {α : Type} {xs : List α} : atI xs (-2) = if 2 ≤ xs.length then xs[xs.length - 2]? else none := by
  rw [show (-2 : Int) = -((2 : Nat) : Int) by rfl, at_neg (by decide)]
theorem bq_int (i j : Int) : (i == j) = decide (i = j) := by
  by_cases h : i = j <;> simp [h]
theorem bq_str (i j : Str) : (i == j) = decide (i = j) := by
  by_cases h : i = j <;> simp [h]
theorem ofs_inj (a b : String) : (Str.ofString a = Str.ofString b) = (a = b) := by
  apply propext
  constructor
  · intro h
    rw [Str.ofString_eq_toList, Str.ofString_eq_toList] at h
    have h1 : (a.toList.map Char.toNat).toArray = (b.toList.map Char.toNat).toArray := congrArg Str.cps h
    have h2 : a.toList.map Char.toNat = b.toList.map Char.toNat := by simpa using h1
    have h3 : a.toList = b.toList := List.map_inj_right (fun x y h => Char.toNat_inj.mp h) |>.mp h2
    exact String.toList_inj.mp h3
  · rintro rfl
    rfl
theorem ee_ii (i j : Int) : PyData.eqv (.int i) (.int j) = decide (i = j) := by simp only [PyData.eqv]; exact bq_int i j
theorem ee_ss (i j : Str) : PyData.eqv (.str i) (.str j) = decide (i = j) := by simp only [PyData.eqv]; exact bq_str i j
theorem ee_bb (i j : Bool) : PyData.eqv (.bool i) (.bool j) = decide (i = j) := by cases i <;> cases j <;> rfl
theorem ee_nn : PyData.eqv .none .none = true := rfl
theorem ee_is (i : Int) (j : Str) : PyData.eqv (.int i) (.str j) = false := rfl
theorem ee_si (i : Int) (j : Str) : PyData.eqv (.str j) (.int i) = false := rfl
theorem ee_in (i : Int) : PyData.eqv (.int i) .none = false := rfl
theorem ee_ni (i : Int) : PyData.eqv .none (.int i) = false := rfl
theorem ee_tt (xs ys : List PyData) : PyData.eqv (.tuple xs) (.tuple ys) = PyData.eqvAll xs ys := by simp only [PyData.eqv]
theorem ee_ll (xs ys : List PyData) : PyData.eqv (.list xs) (.list ys) = PyData.eqvAll xs ys := by simp only [PyData.eqv]
theorem ee_0 : PyData.eqvAll [] [] = true := rfl
theorem ee_1 (x y : PyData) (xs ys : List PyData) : PyData.eqvAll (x :: xs) (y :: ys) = (PyData.eqv x y && PyData.eqvAll xs ys) := by simp only [PyData.eqvAll]
theorem ee_2 (x : PyData) (xs : List PyData) : PyData.eqvAll (x :: xs) [] = false := rfl
theorem ee_3 (x : PyData) (xs : List PyData) : PyData.eqvAll [] (x :: xs) = false := rfl
theorem ee_maps (xs ys : List Int) : PyData.eqvAll (xs.map .int) (ys.map .int) = decide (xs = ys) := by
  induction xs generalizing ys with
  | nil => cases ys <;> simp [ee_0, ee_3]
  | cons x xs ih => cases ys <;> simp [ee_1, ee_2, ih, ee_ii]
/-- a fact kept out of a simplifier's way -/
structure Hid (p : Prop) : Prop where
  get : p
structure Pn where
  l : Int
  b : Int
  s : Int
def penL (p : Pn) : List PyData := [.int p.l, .int p.b, .int p.s]
def nxt (s : Int) : Int := ((s + 7919) % 2147483647 * ((s + 7919) % 2147483647) + 48271 * ((s + 7919) % 2147483647) + 12345) % 2147483629
def pnOf (x : Int) : Pn := ⟨if 0 - x > x then 0 - x else x, if (10 : Int) ^ 18 ≤ (if 0 - x > x then 0 - x else x) then 1 else 0, (if 0 - x > x then 0 - x else x) % 1000003⟩
def dr (p : Pn) (n : Int) : Int := if p.b = 1 ∧ 0 < p.l then p.l % n else nxt (nxt p.s + 7) / 64 % n
def dn (p : Pn) (n : Int) : Pn := if p.b = 1 ∧ 0 < p.l then ⟨p.l / n, p.b, p.s⟩ else ⟨p.l, p.b, nxt (nxt p.s + 7)⟩
theorem dr_nn {p : Pn} {n : Int} (h : 0 < n) : 0 ≤ dr p n := by
  unfold dr
  split <;> exact Int.emod_nonneg _ (by omega)
theorem dr_lt {p : Pn} {n : Int} (h : 0 < n) : dr p n < n := by
  unfold dr
  split <;> exact Int.emod_lt_of_pos _ h
theorem dr_ab (p : Pn) (n : Int) (h : 0 < n) : 0 ≤ dr p n ∧ dr p n < n := ⟨dr_nn h, dr_lt h⟩
theorem dr_a2 (p : Pn) (n : Int) : 0 < n → 0 ≤ dr p n ∧ dr p n < n := fun h => ⟨dr_nn h, dr_lt h⟩
grind_pattern dr_a2 => dr p n
/-- the item of a list of whole numbers -/
def gt (xs : List Int) (i : Int) : Int := xs.getD i.toNat 0
theorem gt_mem {xs : List Int} {i : Int} (h0 : 0 ≤ i) (h1 : i < xs.length) : gt xs i ∈ xs := by
  unfold gt
  rw [List.getD_eq_getElem?_getD, List.getElem?_eq_getElem (by omega)]
  simp
theorem pk {xs : List Int} {ds : List PyData} {i : Int} (e : ds = xs.map PyData.int) (h0 : 0 ≤ i) (h1 : i < xs.length) : atI ds i = some (.int (gt xs i)) := by
  subst e
  have : i.toNat < xs.length := by omega
  rw [at_nn h0]
  simp [gt, this]
theorem pk3 {a b c i : Int} (h0 : 0 ≤ i) (h1 : i < 3) : atI ([.int a, .int b, .int c] : List PyData) i = some (.int (gt [a, b, c] i)) := pk rfl h0 h1
theorem pkd3 {a b c : Int} {p : Pn} : atI ([.int a, .int b, .int c] : List PyData) (dr p 3) = some (.int (gt [a, b, c] (dr p 3))) := pk3 (dr_nn (by decide)) (dr_lt (by decide))
theorem gd3 {a b c : Int} {p : Pn} {P : Int → Prop} (H : P a ∧ P b ∧ P c) : P (gt [a, b, c] (dr p 3)) := by
  have m := gt_mem (xs := [a, b, c]) (i := dr p 3) (dr_nn (by decide)) (dr_lt (by decide))
  simp only [List.mem_cons, List.not_mem_nil, or_false] at m
  obtain ⟨h0, h1, h2⟩ := H
  rcases m with e | e | e <;> (rw [e]; assumption)
def Wx (x : Option (Fl × Cs)) (Q : Fl → Cs → Prop) : Prop := ∃ f ε, x = some (f, ε) ∧ Q f ε
def Rt (x : Option (C × List C)) (P : C → List C → Prop) : Prop := ∃ c cs, x = some (c, cs) ∧ P c cs
def endQ (io : List Bool) (cs : List C) (P : C → List C → Prop) : Fl → Cs → Prop
  | .rt c, ε => P c (after io cs ε)
  | .nx, ε => P (.sh .none) (after io cs ε)
  | _, _ => False
theorem rt_eq {x : Option (C × List C)} {c : C} {cs : List C} (h : Rt x fun c' cs' => c' = c ∧ cs' = cs) : x = some (c, cs) := by
  obtain ⟨_, _, e, rfl, rfl⟩ := h
  exact e
theorem wx_nx {m n : XM} {ε ε1 : Cs} {Q : Fl → Cs → Prop} (h : m ε = some (.nx, ε1)) (h2 : Wx (n ε1) Q) : Wx (mSeq m n ε) Q := by
  unfold mSeq
  rw [h]
  exact h2
theorem wx_rt {m n : XM} {ε ε1 : Cs} {c : C} {Q : Fl → Cs → Prop} (h : m ε = some (.rt c, ε1)) (h2 : Q (.rt c) ε1) : Wx (mSeq m n ε) Q := by
  unfold mSeq
  rw [h]
  exact ⟨_, _, rfl, h2⟩
theorem wx_fl {m n : XM} {ε ε1 : Cs} {f : Fl} {Q : Fl → Cs → Prop} (h : m ε = some (f, ε1)) (hf : f ≠ .nx) (h2 : Q f ε1) : Wx (mSeq m n ε) Q := by
  unfold mSeq
  rw [h]
  cases f with
  | nx => exact absurd rfl hf
  | bk => exact ⟨_, _, rfl, h2⟩
  | ct => exact ⟨_, _, rfl, h2⟩
  | rt c => exact ⟨_, _, rfl, h2⟩
  | xc x => exact ⟨_, _, rfl, h2⟩
theorem wx_seq {m n : XM} {ε : Cs} {Q : Fl → Cs → Prop} (h : Wx (m ε) fun f ε1 => match f with | .nx => Wx (n ε1) Q | f => Q f ε1) : Wx (mSeq m n ε) Q := by
  obtain ⟨f, ε1, e, q⟩ := h
  unfold mSeq
  rw [e]
  cases f with
  | nx => exact q
  | bk => exact ⟨_, _, rfl, q⟩
  | ct => exact ⟨_, _, rfl, q⟩
  | rt c => exact ⟨_, _, rfl, q⟩
  | xc x => exact ⟨_, _, rfl, q⟩
theorem wx_skip {ε : Cs} {Q : Fl → Cs → Prop} (h : Q .nx ε) : Wx (mSkip ε) Q := ⟨_, _, rfl, h⟩
/-- an if ahead of the rest -/
theorem wx_ifs {t : TM} {m n r : XM} {ε ε1 : Cs} {b : Bool} {Q : Fl → Cs → Prop} (h : t ε = some (b, ε1)) (h1 : b = true → Wx (mSeq m r ε1) Q) (h2 : b = false → Wx (mSeq n r ε1) Q) : Wx (mSeq (mIf t m n) r ε) Q := by
  have e : mIf t m n ε = if b then m ε1 else n ε1 := by
    unfold mIf
    rw [h]
    rfl
  unfold mSeq
  rw [e]
  cases b with
  | true => exact h1 rfl
  | false => exact h2 rfl
theorem wx_in {m n r : XM} {ε : Cs} {Q : Fl → Cs → Prop} (h : Wx (mSeq m (mSeq n r) ε) Q) : Wx (mSeq (mSeq m n) r ε) Q := by
  unfold mSeq at h ⊢
  revert h
  cases m ε with
  | none => exact id
  | some p =>
    obtain ⟨f, ε1⟩ := p
    cases f <;> exact id
theorem wx_sk {r : XM} {ε : Cs} {Q : Fl → Cs → Prop} (h : Wx (r ε) Q) : Wx (mSeq mSkip r ε) Q := h
theorem rt_sem {io : List Bool} {ns : Nat} {m : XM} {cs : List C} {P : C → List C → Prop} (hs : shared io cs = true) (h : Wx (m (cs ++ List.replicate (ns - cs.length) .no)) (endQ io cs P)) : Rt (semF io ns m cs) P := by
  obtain ⟨f, ε, e, q⟩ := h
  unfold semF
  rw [if_pos hs, e]
  cases f with
  | nx => exact ⟨_, _, rfl, q⟩
  | bk => exact q.elim
  | ct => exact q.elim
  | rt c => exact ⟨_, _, rfl, q⟩
  | xc x => exact q.elim
theorem wx_val {x : Option (Fl × Cs)} {f : Fl} {ε : Cs} {Q : Fl → Cs → Prop} (h : x = some (f, ε)) (q : Q f ε) : Wx x Q := ⟨_, _, h, q⟩
/-- a loop, by what holds ahead of each round -/
theorem wx_for {io : List Nat} {src : SM} {bind : BM} {body : XM} {ε ε1 : Cs} {ds : List PyData} {ws : List Nat} {Q : Fl → Cs → Prop} (J : Nat → Cs → Prop) (hs : src ε = some ((ds, ws), ε1)) (hw : ws.all (fun i => io.contains i) = true)
    (h0 : J 0 ε1) (hJ : ∀ i ε2, J i ε2 → sameC ws ε1 ε2) (hstep : ∀ i d ε2, ds[i]? = some d → J i ε2 → ∃ ε3, bind d ε2 = some ε3 ∧ Wx (body ε3) fun f ε4 => match f with
      | .nx => J (i + 1) ε4
      | .ct => J (i + 1) ε4
      | .bk => Q .nx ε4
      | .rt c => Q (.rt c) ε4
      | .xc x => Q (.xc x) ε4) (hend : ∀ ε2, J ds.length ε2 → Q .nx ε2) : Wx (mFor io src bind body ε) Q := by
  unfold mFor
  simp only [hs, Option.bind_eq_bind, Option.bind_some, hw, if_true]
  have main : ∀ (l : List PyData) (i : Nat) (ε2 : Cs), ds.drop i = l → i ≤ ds.length → J i ε2 → Wx (forL ws ε1 bind body l ε2) Q := by
    intro l
    induction l with
    | nil =>
      intro i ε2 hl hi hj
      unfold forL
      rw [if_pos (hJ i ε2 hj)]
      have : i = ds.length := by
        have := List.drop_eq_nil_iff.mp hl
        omega
      subst this
      exact ⟨_, _, rfl, hend _ hj⟩
    | cons d l ih =>
      intro i ε2 hl hi hj
      unfold forL
      rw [if_pos (hJ i ε2 hj)]
      have hd : ds[i]? = some d := by
        have := congrArg (fun x => x[0]?) hl
        simpa using this
      obtain ⟨ε3, e3, f, ε4, e4, q⟩ := hstep i d ε2 hd hj
      have hi' : i + 1 ≤ ds.length := (List.getElem?_eq_some_iff.mp hd).1
      have hl' : ds.drop (i + 1) = l := by
        rw [← List.drop_drop, hl]
        rfl
      simp only [e3, e4, Option.bind_eq_bind, Option.bind_some]
      cases f with
      | nx => exact ih (i + 1) ε4 hl' hi' q
      | ct => exact ih (i + 1) ε4 hl' hi' q
      | bk => exact ⟨_, _, rfl, q⟩
      | rt c => exact ⟨_, _, rfl, q⟩
      | xc x => exact ⟨_, _, rfl, q⟩
  exact main ds 0 ε1 rfl (Nat.zero_le _) h0
/-- a loop whose source is no locked list: each item is known by its membership -/
theorem wx_each {io : List Nat} {src : SM} {bind : BM} {body : XM} {ε ε1 : Cs} {ds : List PyData} {Q : Fl → Cs → Prop} (J : Cs → Prop) (hs : src ε = some ((ds, []), ε1))
    (h0 : J ε1) (hstep : ∀ d ε2, d ∈ ds → J ε2 → ∃ ε3, bind d ε2 = some ε3 ∧ Wx (body ε3) fun f ε4 => match f with
      | .nx => J ε4
      | .ct => J ε4
      | .bk => Q .nx ε4
      | .rt c => Q (.rt c) ε4
      | .xc x => Q (.xc x) ε4) (hend : ∀ ε2, J ε2 → Q .nx ε2) : Wx (mFor io src bind body ε) Q :=
  wx_for (fun _ => J) hs rfl h0 (fun i ε hj j hj2 => by cases hj2) (fun i d ε2 hd hj => hstep d ε2 (List.mem_of_getElem? hd) hj) hend
/-- while, by a measure -/
theorem wx_while {t : TM} {b : XM} {ε : Cs} {Q : Fl → Cs → Prop} (J : Nat → Cs → Prop) (n : Nat) (h0 : J n ε)
    (hstep : ∀ n ε2, J n ε2 → ∃ k ε3, t ε2 = some (k, ε3) ∧ (k = false → Q .nx ε3) ∧ (k = true → Wx (b ε3) fun f ε4 => match f with
      | .nx => ∃ n', n' < n ∧ J n' ε4
      | .ct => ∃ n', n' < n ∧ J n' ε4
      | .bk => Q .nx ε4
      | .rt c => Q (.rt c) ε4
      | .xc x => Q (.xc x) ε4)) : Wx (mWhile t b ε) Q := by
  have main : ∀ (n : Nat) (ε : Cs), J n ε → ∃ m r, whileN t b m ε = some r ∧ Q r.1 r.2 := by
    intro n
    induction n using Nat.strongRecOn with
    | ind n ih =>
      intro ε hj
      obtain ⟨k, ε3, e3, hf, ht⟩ := hstep n ε hj
      cases k with
      | false => exact ⟨1, (.nx, ε3), by simp [whileN, e3], hf rfl⟩
      | true =>
        obtain ⟨f, ε4, e4, q⟩ := ht rfl
        cases f with
        | nx =>
          obtain ⟨n', hn, hj'⟩ := q
          obtain ⟨m, r, e5, q5⟩ := ih n' hn ε4 hj'
          exact ⟨m + 1, r, by simp [whileN, e3, e4, e5], q5⟩
        | ct =>
          obtain ⟨n', hn, hj'⟩ := q
          obtain ⟨m, r, e5, q5⟩ := ih n' hn ε4 hj'
          exact ⟨m + 1, r, by simp [whileN, e3, e4, e5], q5⟩
        | bk => exact ⟨1, (.nx, ε4), by simp [whileN, e3, e4], q⟩
        | rt c => exact ⟨1, (.rt c, ε4), by simp [whileN, e3, e4], q⟩
        | xc x => exact ⟨1, (.xc x, ε4), by simp [whileN, e3, e4], q⟩
  obtain ⟨m, r, e, q⟩ := main n ε h0
  exact ⟨r.1, r.2, mWhile_of e, q⟩
/-- a comprehension, by what holds ahead of each item -/
theorem lc_rule {src : SM} {bind : BM} {tests : TM} {elt : EM} {own ws : List Nat} {ε ε1 : Cs} {ds : List PyData} (J : Nat → List PyData → Cs → Prop) (hs : src ε = some ((ds, ws), ε1)) (hw : ws.all (fun i => !own.contains i) = true)
    (h0 : J 0 [] (wipeC ε1 own)) (hJ : ∀ i out ε2, J i out ε2 → sameC ws ε1 ε2) (hn : ds.length ≤ sizeLine)
    (hstep : ∀ i d out ε2, ds[i]? = some d → J i out ε2 → ∃ ε3 b ε4, bind d ε2 = some ε3 ∧ tests ε3 = some (b, ε4) ∧ (b = false → J (i + 1) out (wipeC ε4 own)) ∧
      (b = true → ∃ c e ε5, elt ε4 = some (c, ε5) ∧ cD c = some e ∧ J (i + 1) (out ++ [e]) (wipeC ε5 own))) :
    ∃ out ε2, mLc src bind tests elt own ε = some (.ls out, restC ε2 ε1 own) ∧ J ds.length out ε2 := by
  have main : ∀ (l : List PyData) (i : Nat) (acc : List PyData) (ε2 : Cs), ds.drop i = l → i ≤ ds.length → acc.length ≤ i → J i acc ε2 → ∃ out ε3, lcL ws ε1 bind tests elt own l acc.length ε2 = some (out, ε3) ∧ J ds.length (acc ++ out) ε3 := by
    intro l
    induction l with
    | nil =>
      intro i acc ε2 hl hi ha hj
      have : i = ds.length := by
        have := List.drop_eq_nil_iff.mp hl
        omega
      subst this
      refine ⟨[], ε2, ?_, by simpa using hj⟩
      unfold lcL
      rw [if_pos (hJ _ _ _ hj)]
    | cons d l ih =>
      intro i acc ε2 hl hi ha hj
      have hd : ds[i]? = some d := by
        have := congrArg (fun x => x[0]?) hl
        simpa using this
      have hi' : i + 1 ≤ ds.length := (List.getElem?_eq_some_iff.mp hd).1
      have hl' : ds.drop (i + 1) = l := by
        rw [← List.drop_drop, hl]
        rfl
      obtain ⟨ε3, b, ε4, e3, e4, hf, ht⟩ := hstep i d acc ε2 hd hj
      unfold lcL
      rw [if_pos (hJ _ _ _ hj)]
      cases b with
      | false =>
        obtain ⟨out, ε6, e6, j6⟩ := ih (i + 1) acc _ hl' hi' (by omega) (hf rfl)
        exact ⟨out, ε6, by simp [e3, e4, e6], j6⟩
      | true =>
        obtain ⟨c, e, ε5, e5, ec, j5⟩ := ht rfl
        obtain ⟨out, ε6, e6, j6⟩ := ih (i + 1) (acc ++ [e]) _ hl' hi' (by simp; omega) j5
        refine ⟨e :: out, ε6, ?_, by simpa using j6⟩
        have hlt : acc.length < sizeLine := by omega
        have e6' : lcL ws ε1 bind tests elt own l (acc.length + 1) (wipeC ε5 own) = some (out, ε6) := by simpa using e6
        simp [e3, e4, e5, ec, hlt, e6']
  obtain ⟨out, ε3, e, j⟩ := main ds 0 [] _ rfl (Nat.zero_le _) (Nat.le_refl _) h0
  refine ⟨out, ε3, ?_, by simpa using j⟩
  unfold mLc
  have e' : lcL ws ε1 bind tests elt own ds 0 (wipeC ε1 own) = some (out, ε3) := by simpa using e
  simp only [hs, Option.bind_eq_bind, Option.bind_some, hw, if_true, e']
theorem cut_map {α β : Type} (f : α → β) (xs : List α) (lo hi : Option Int) : L2.M.cutL (xs.map f) lo hi = (L2.M.cutL xs lo hi).map f := by
  unfold L2.M.cutL
  simp [List.map_take, List.map_drop]
theorem cut_len {α : Type} (xs : List α) (lo hi : Option Int) : (L2.M.cutL xs lo hi).length ≤ xs.length := by
  unfold L2.M.cutL
  simp only [List.length_take, List.length_drop]
  omega
theorem cut_to1 {α : Type} (xs : List α) : L2.M.cutL xs none (some (-1)) = xs.dropLast := by
  unfold L2.M.cutL HT.sIx
  simp only [if_pos (show (-1 : Int) < 0 by omega)]
  have : (-1 + (xs.length : Int)).toNat = xs.length - 1 := by omega
  simp [this, List.dropLast_eq_take]
@[simp] def whole : PyData → Bool
  | .int _ => true
  | _ => false
def num (d : PyData) (lo hi : Int) : Bool := match d with
  | .int i => decide (lo ≤ i) && decide (i ≤ hi)
  | _ => false
def lay (n : Nat) (d : PyData) : Bool := d.canLay0 && decide (d.depth ≤ n)
theorem shaped_lay (d : PyData) : SeqAt.shaped d = lay 64 d := rfl
theorem lay_int (n : Nat) (i : Int) : lay n (.int i) = true := by simp [lay, PyData.canLay0, PyData.depth]
theorem lay_bool (n : Nat) (i : Bool) : lay n (.bool i) = true := by simp [lay, PyData.canLay0, PyData.depth]
theorem lay_none (n : Nat) : lay n .none = true := by simp [lay, PyData.canLay0, PyData.depth]
theorem lay_str (n : Nat) (s : Str) : lay n (.str s) = PyData.strOk s := by simp [lay, PyData.canLay0, PyData.depth]
theorem lay_dict (n : Nat) (s : List (PyData × PyData)) : lay n (.dict s) = false := by simp [lay, PyData.canLay0]
theorem lay_all (n : Nat) : ∀ ds : List PyData, (PyData.canLayAll0 ds && decide (PyData.depthAll ds ≤ n)) = ds.all (lay n)
  | [] => by simp [PyData.canLayAll0, PyData.depthAll]
  | d :: ds => by
    have ih := lay_all n ds
    simp only [PyData.canLayAll0, PyData.depthAll, List.all_cons, ← ih, lay]
    by_cases h1 : d.canLay0 = true <;> by_cases h2 : PyData.canLayAll0 ds = true <;> by_cases h3 : d.depth ≤ n <;> by_cases h4 : PyData.depthAll ds ≤ n <;> simp [h1, h2, h3, h4, Nat.max_le]
theorem lay_tup {n : Nat} (ds : List PyData) (h : 0 < n) : lay n (.tuple ds) = ds.all (lay (n - 1)) := by
  rw [← lay_all]
  simp only [lay, PyData.canLay0, PyData.depth]
  have : (PyData.depthAll ds + 1 ≤ n) = (PyData.depthAll ds ≤ n - 1) := by
    apply propext
    omega
  simp only [this]
theorem lay_list {n : Nat} (ds : List PyData) (h : 0 < n) : lay n (.list ds) = ds.all (lay (n - 1)) := by
  rw [← lay_all]
  simp only [lay, PyData.canLay0, PyData.depth]
  have : (PyData.depthAll ds + 1 ≤ n) = (PyData.depthAll ds ≤ n - 1) := by
    apply propext
    omega
  simp only [this]
theorem lay_ints (n : Nat) (ns : List Int) : (ns.map PyData.int).all (lay n) = true := by
  simp [List.all_map, lay_int]
theorem lay_mono {n m : Nat} {d : PyData} (h : n ≤ m) (l : lay n d = true) : lay m d = true := by
  simp only [lay, Bool.and_eq_true, decide_eq_true_eq] at l ⊢
  exact ⟨l.1, Nat.le_trans l.2 h⟩
end KW
namespace KW
open PySem PySem.Spec PyProof.Rows L2 L2.M
local macro_rules | `(tactic| walk_at "ev") => `(tactic| simp [semF, shared, after, mSeq, mSkip, mIf, mRet, mRetN, mRetV, mSet, mSetIx, mExpr, mB, mU, mTm, mPl, mK, mVar, mOp, mCons, mNil, bor, bors, mTst, mAndT, mOrT, mNotT, mAndE, mOrE, mNotE, mIfE, mIsi, isiD, mChn, chnL, cmpD, binD, addD, subD, mulD, modD, fdivD, powD, eqD, neD, ltD, leD, gtD, geD, isD, isnD, L2.M.isNon, negD, ixD, Bf.f, Bg.f, lenD, L2.M.intD, maxD, minD, repD, strD, gmaxD, gminD, sumD, sortD, anyD, allD, mCall, frz, fzO, lend, wb, mTup, mLst, fzs, cD, mAsg, bTup, bTps, mApp, tupD, lstD, mRev, revD, ofs_inj, ee_ii, ee_ss, ee_bb, ee_nn, ee_is, ee_si, ee_in, ee_ni, ee_tt, ee_ll, ee_maps, ee_0, ee_1, ee_2, ee_3, at_lit, at_nat, at_m1, at_m2, scD, emD, sizeLine_eq, ixN, sm_lit, mSrc, itemsD, plOf, rng1D, bNm, mSl, mPt, mNoP, slD, mPar, keepT, tmsO, setA, mFlow, zipX, enumX, itemsX, intsOf, ints_all, boolsOf, shaped_lay, lay_int, lay_bool, lay_none, lay_dict, lay_tup, lay_list, lay_ints, sortX_ints, mPlF, mPlI, mRd, mPU, mPB, mFSet, mFNew, mNSet, mPApp, mPSetIx, mPPop, mMeth, mNew, isIns, cellO, mLstN, mAddN, mAppN, semX, mTold, mCallX, xRet, xExpr, xSet, mRaise, mM, isL, isS, mOrV, truD])
local macro_rules | `(tactic| walk_at "es") => `(tactic| simp [semF, shared, after, mSeq, mSkip, mIf, mRet, mRetN, mRetV, mSet, mSetIx, mExpr, mB, mU, mTm, mPl, mK, mVar, mOp, mCons, mNil, bor, bors, mTst, mAndT, mOrT, mNotT, mAndE, mOrE, mNotE, mIfE, mIsi, isiD, mChn, chnL, cmpD, binD, addD, subD, mulD, modD, fdivD, powD, eqD, neD, ltD, leD, gtD, geD, isD, isnD, L2.M.isNon, negD, ixD, Bf.f, Bg.f, lenD, L2.M.intD, maxD, minD, repD, strD, gmaxD, gminD, sumD, sortD, anyD, allD, mCall, frz, fzO, lend, wb, mTup, mLst, fzs, cD, mAsg, bTup, bTps, mApp, tupD, lstD, mRev, revD, ofs_inj, ee_ii, ee_ss, ee_bb, ee_nn, ee_is, ee_si, ee_in, ee_ni, ee_tt, ee_ll, ee_maps, ee_0, ee_1, ee_2, ee_3, at_lit, at_nat, at_m1, at_m2, scD, emD, sizeLine_eq, ixN, sm_lit, mSrc, itemsD, plOf, rng1D, bNm, mSl, mPt, mNoP, slD, mPar, keepT, tmsO, setA, mFlow, zipX, enumX, itemsX, intsOf, ints_all, boolsOf, shaped_lay, lay_int, lay_bool, lay_none, lay_dict, lay_tup, lay_list, lay_ints, sortX_ints, mPlF, mPlI, mRd, mPU, mPB, mFSet, mFNew, mNSet, mPApp, mPSetIx, mPPop, mMeth, mNew, isIns, cellO, mLstN, mAddN, mAppN, semX, mTold, mCallX, xRet, xExpr, xSet, mRaise, mM, isL, isS, mOrV, truD, *])
local macro_rules | `(tactic| walk_at "el") => `(tactic| simp [semF, shared, after, mSeq, mSkip, mIf, mRet, mRetN, mRetV, mSet, mSetIx, mExpr, mB, mU, mTm, mPl, mK, mVar, mOp, mCons, mNil, bor, bors, mTst, mAndT, mOrT, mNotT, mAndE, mOrE, mNotE, mIfE, mIsi, isiD, mChn, chnL, cmpD, binD, addD, subD, mulD, modD, fdivD, powD, eqD, neD, ltD, leD, gtD, geD, isD, isnD, L2.M.isNon, negD, ixD, Bf.f, Bg.f, lenD, L2.M.intD, maxD, minD, repD, strD, gmaxD, gminD, sumD, sortD, anyD, allD, mCall, frz, fzO, lend, wb, mTup, mLst, fzs, cD, mAsg, bTup, bTps, mApp, tupD, lstD, mRev, revD, ofs_inj, ee_ii, ee_ss, ee_bb, ee_nn, ee_is, ee_si, ee_in, ee_ni, ee_tt, ee_ll, ee_maps, ee_0, ee_1, ee_2, ee_3, at_lit, at_nat, at_m1, at_m2, scD, emD, sizeLine_eq, ixN, sm_lit, mSrc, itemsD, plOf, rng1D, bNm, mSl, mPt, mNoP, slD, mPar, keepT, tmsO, setA, mFlow, zipX, enumX, itemsX, intsOf, ints_all, boolsOf, shaped_lay, lay_int, lay_bool, lay_none, lay_dict, lay_tup, lay_list, lay_ints, sortX_ints, mPlF, mPlI, mRd, mPU, mPB, mFSet, mFNew, mNSet, mPApp, mPSetIx, mPPop, mMeth, mNew, isIns, cellO, mLstN, mAddN, mAppN, semX, mTold, mCallX, xRet, xExpr, xSet, mRaise, mM, isL, isS, mOrV, truD, mLc, lcL, sameC, wipeC, restC, mYes, *])
local macro_rules | `(tactic| walk_at "ef") => `(tactic| simp [semF, shared, after, mSeq, mSkip, mIf, mRet, mRetN, mRetV, mSet, mSetIx, mExpr, mB, mU, mTm, mPl, mK, mVar, mOp, mCons, mNil, bor, bors, mTst, mAndT, mOrT, mNotT, mAndE, mOrE, mNotE, mIfE, mIsi, isiD, mChn, chnL, cmpD, binD, addD, subD, mulD, modD, fdivD, powD, eqD, neD, ltD, leD, gtD, geD, isD, isnD, L2.M.isNon, negD, ixD, Bf.f, Bg.f, lenD, L2.M.intD, maxD, minD, repD, strD, gmaxD, gminD, sumD, sortD, anyD, allD, mCall, frz, fzO, lend, wb, mTup, mLst, fzs, cD, mAsg, bTup, bTps, mApp, tupD, lstD, mRev, revD, ofs_inj, ee_ii, ee_ss, ee_bb, ee_nn, ee_is, ee_si, ee_in, ee_ni, ee_tt, ee_ll, ee_maps, ee_0, ee_1, ee_2, ee_3, at_lit, at_nat, at_m1, at_m2, scD, emD, sizeLine_eq, ixN, sm_lit, mSrc, itemsD, plOf, rng1D, bNm, mSl, mPt, mNoP, slD, mPar, keepT, tmsO, setA, mFlow, zipX, enumX, itemsX, intsOf, ints_all, boolsOf, shaped_lay, lay_int, lay_bool, lay_none, lay_dict, lay_tup, lay_list, lay_ints, sortX_ints, mPlF, mPlI, mRd, mPU, mPB, mFSet, mFNew, mNSet, mPApp, mPSetIx, mPPop, mMeth, mNew, isIns, cellO, mLstN, mAddN, mAppN, semX, mTold, mCallX, xRet, xExpr, xSet, mRaise, mM, isL, isS, mOrV, truD, mFor, forL, mLc, lcL, sameC, wipeC, restC, mYes, *])
local macro_rules | `(tactic| walk_at "rg") => `(tactic| (and_intros <;> grind))
local macro_rules | `(tactic| walk_at "nx") => `(tactic| (apply wx_nx; focus (walk_at "ev"; try first | exact ⟨rfl, rfl⟩ | rfl)))
local macro_rules | `(tactic| walk_at "ns") => `(tactic| (apply wx_nx; focus (walk_at "es"; try first | exact ⟨rfl, rfl⟩ | rfl)))
local macro_rules | `(tactic| walk_at "rt") => `(tactic| (apply wx_rt; focus (walk_at "ev"; try first | exact ⟨rfl, rfl⟩ | rfl)))
local macro_rules | `(tactic| walk_at "rs") => `(tactic| (apply wx_rt; focus (walk_at "es"; try first | exact ⟨rfl, rfl⟩ | rfl)))
local macro_rules | `(tactic| walk_at "ed") => `(tactic| simp [semF, shared, after, mSeq, mSkip, mIf, mRet, mRetN, mRetV, mSet, mSetIx, mExpr, mB, mU, mTm, mPl, mK, mVar, mOp, mCons, mNil, bor, bors, mTst, mAndT, mOrT, mNotT, mAndE, mOrE, mNotE, mIfE, mIsi, isiD, mChn, chnL, cmpD, binD, addD, subD, mulD, modD, fdivD, powD, eqD, neD, ltD, leD, gtD, geD, isD, isnD, L2.M.isNon, negD, ixD, Bf.f, Bg.f, lenD, L2.M.intD, maxD, minD, repD, strD, gmaxD, gminD, sumD, sortD, anyD, allD, mCall, frz, fzO, lend, wb, mTup, mLst, fzs, cD, mAsg, bTup, bTps, mApp, tupD, lstD, mRev, revD, ofs_inj, ee_ii, ee_ss, ee_bb, ee_nn, ee_is, ee_si, ee_in, ee_ni, ee_tt, ee_ll, ee_maps, ee_0, ee_1, ee_2, ee_3, at_lit, at_nat, at_m1, at_m2, scD, emD, sizeLine_eq, ixN, sm_lit, mSrc, itemsD, plOf, rng1D, bNm, mSl, mPt, mNoP, slD, mPar, keepT, tmsO, setA, mFlow, zipX, enumX, itemsX, intsOf, ints_all, boolsOf, shaped_lay, lay_int, lay_bool, lay_none, lay_dict, lay_tup, lay_list, lay_ints, sortX_ints, mPlF, mPlI, mRd, mPU, mPB, mFSet, mFNew, mNSet, mPApp, mPSetIx, mPPop, mMeth, mNew, isIns, cellO, mLstN, mAddN, mAppN, semX, mTold, mCallX, xRet, xExpr, xSet, mRaise, mM, isL, isS, mOrV, truD, mDNew, mDIn, mDGet, mDLen, mDPut, kyD, mNNew, mN1, mTake, mFnV, mCallF, mNIn, mNGet, mNPut, mNVals, mNList, nKs, mDGetD, mDList, mNNe, *])
theorem set_back {ε : Cs} {i : Nat} {c0 c1 : C} (h : ε[i]? = some c0) : (ε.set i c1).set i c0 = ε := by
  rw [List.set_set]
  apply List.ext_getElem?
  intro j
  by_cases ej : i = j
  · subst ej
    rw [List.getElem?_set_self (List.getElem?_eq_some_iff.mp h).1, h]
  · rw [List.getElem?_set_ne ej]
end KW
namespace KW
open PySem PySem.Spec PyProof.Rows L2 L2.M
local macro_rules | `(tactic| walk_at "ev") => `(tactic| simp [semF, shared, after, mSeq, mSkip, mIf, mRet, mRetN, mRetV, mSet, mSetIx, mExpr, mB, mU, mTm, mPl, mK, mVar, mOp, mCons, mNil, bor, bors, mTst, mAndT, mOrT, mNotT, mAndE, mOrE, mNotE, mIfE, mIsi, isiD, mChn, chnL, cmpD, binD, addD, subD, mulD, modD, fdivD, powD, eqD, neD, ltD, leD, gtD, geD, isD, isnD, L2.M.isNon, negD, ixD, Bf.f, Bg.f, lenD, L2.M.intD, maxD, minD, repD, strD, gmaxD, gminD, sumD, sortD, anyD, allD, mCall, frz, fzO, lend, wb, mTup, mLst, fzs, cD, mAsg, bTup, bTps, mApp, tupD, lstD, mRev, revD, ofs_inj, ee_ii, ee_ss, ee_bb, ee_nn, ee_is, ee_si, ee_in, ee_ni, ee_tt, ee_ll, ee_maps, ee_0, ee_1, ee_2, ee_3, at_lit, at_nat, at_m1, at_m2, scD, emD, sizeLine_eq, ixN, sm_lit, mSrc, itemsD, plOf, rng1D, bNm, mSl, mPt, mNoP, slD, mPar, keepT, tmsO, setA, mFlow, zipX, enumX, itemsX, intsOf, ints_all, boolsOf, shaped_lay, lay_int, lay_bool, lay_none, lay_dict, lay_tup, lay_list, lay_ints, sortX_ints, mPlF, mPlI, mRd, mPU, mPB, mFSet, mFNew, mNSet, mPApp, mPSetIx, mPPop, mMeth, mNew, isIns, cellO, mLstN, mAddN, mAppN, semX, mTold, mCallX, xRet, xExpr, xSet, mRaise, mM, isL, isS, mOrV, truD])
local macro_rules | `(tactic| walk_at "es") => `(tactic| simp [semF, shared, after, mSeq, mSkip, mIf, mRet, mRetN, mRetV, mSet, mSetIx, mExpr, mB, mU, mTm, mPl, mK, mVar, mOp, mCons, mNil, bor, bors, mTst, mAndT, mOrT, mNotT, mAndE, mOrE, mNotE, mIfE, mIsi, isiD, mChn, chnL, cmpD, binD, addD, subD, mulD, modD, fdivD, powD, eqD, neD, ltD, leD, gtD, geD, isD, isnD, L2.M.isNon, negD, ixD, Bf.f, Bg.f, lenD, L2.M.intD, maxD, minD, repD, strD, gmaxD, gminD, sumD, sortD, anyD, allD, mCall, frz, fzO, lend, wb, mTup, mLst, fzs, cD, mAsg, bTup, bTps, mApp, tupD, lstD, mRev, revD, ofs_inj, ee_ii, ee_ss, ee_bb, ee_nn, ee_is, ee_si, ee_in, ee_ni, ee_tt, ee_ll, ee_maps, ee_0, ee_1, ee_2, ee_3, at_lit, at_nat, at_m1, at_m2, scD, emD, sizeLine_eq, ixN, sm_lit, mSrc, itemsD, plOf, rng1D, bNm, mSl, mPt, mNoP, slD, mPar, keepT, tmsO, setA, mFlow, zipX, enumX, itemsX, intsOf, ints_all, boolsOf, shaped_lay, lay_int, lay_bool, lay_none, lay_dict, lay_tup, lay_list, lay_ints, sortX_ints, mPlF, mPlI, mRd, mPU, mPB, mFSet, mFNew, mNSet, mPApp, mPSetIx, mPPop, mMeth, mNew, isIns, cellO, mLstN, mAddN, mAppN, semX, mTold, mCallX, xRet, xExpr, xSet, mRaise, mM, isL, isS, mOrV, truD, *])
local macro_rules | `(tactic| walk_at "el") => `(tactic| simp [semF, shared, after, mSeq, mSkip, mIf, mRet, mRetN, mRetV, mSet, mSetIx, mExpr, mB, mU, mTm, mPl, mK, mVar, mOp, mCons, mNil, bor, bors, mTst, mAndT, mOrT, mNotT, mAndE, mOrE, mNotE, mIfE, mIsi, isiD, mChn, chnL, cmpD, binD, addD, subD, mulD, modD, fdivD, powD, eqD, neD, ltD, leD, gtD, geD, isD, isnD, L2.M.isNon, negD, ixD, Bf.f, Bg.f, lenD, L2.M.intD, maxD, minD, repD, strD, gmaxD, gminD, sumD, sortD, anyD, allD, mCall, frz, fzO, lend, wb, mTup, mLst, fzs, cD, mAsg, bTup, bTps, mApp, tupD, lstD, mRev, revD, ofs_inj, ee_ii, ee_ss, ee_bb, ee_nn, ee_is, ee_si, ee_in, ee_ni, ee_tt, ee_ll, ee_maps, ee_0, ee_1, ee_2, ee_3, at_lit, at_nat, at_m1, at_m2, scD, emD, sizeLine_eq, ixN, sm_lit, mSrc, itemsD, plOf, rng1D, bNm, mSl, mPt, mNoP, slD, mPar, keepT, tmsO, setA, mFlow, zipX, enumX, itemsX, intsOf, ints_all, boolsOf, shaped_lay, lay_int, lay_bool, lay_none, lay_dict, lay_tup, lay_list, lay_ints, sortX_ints, mPlF, mPlI, mRd, mPU, mPB, mFSet, mFNew, mNSet, mPApp, mPSetIx, mPPop, mMeth, mNew, isIns, cellO, mLstN, mAddN, mAppN, semX, mTold, mCallX, xRet, xExpr, xSet, mRaise, mM, isL, isS, mOrV, truD, mLc, lcL, sameC, wipeC, restC, mYes, *])
local macro_rules | `(tactic| walk_at "ef") => `(tactic| simp [semF, shared, after, mSeq, mSkip, mIf, mRet, mRetN, mRetV, mSet, mSetIx, mExpr, mB, mU, mTm, mPl, mK, mVar, mOp, mCons, mNil, bor, bors, mTst, mAndT, mOrT, mNotT, mAndE, mOrE, mNotE, mIfE, mIsi, isiD, mChn, chnL, cmpD, binD, addD, subD, mulD, modD, fdivD, powD, eqD, neD, ltD, leD, gtD, geD, isD, isnD, L2.M.isNon, negD, ixD, Bf.f, Bg.f, lenD, L2.M.intD, maxD, minD, repD, strD, gmaxD, gminD, sumD, sortD, anyD, allD, mCall, frz, fzO, lend, wb, mTup, mLst, fzs, cD, mAsg, bTup, bTps, mApp, tupD, lstD, mRev, revD, ofs_inj, ee_ii, ee_ss, ee_bb, ee_nn, ee_is, ee_si, ee_in, ee_ni, ee_tt, ee_ll, ee_maps, ee_0, ee_1, ee_2, ee_3, at_lit, at_nat, at_m1, at_m2, scD, emD, sizeLine_eq, ixN, sm_lit, mSrc, itemsD, plOf, rng1D, bNm, mSl, mPt, mNoP, slD, mPar, keepT, tmsO, setA, mFlow, zipX, enumX, itemsX, intsOf, ints_all, boolsOf, shaped_lay, lay_int, lay_bool, lay_none, lay_dict, lay_tup, lay_list, lay_ints, sortX_ints, mPlF, mPlI, mRd, mPU, mPB, mFSet, mFNew, mNSet, mPApp, mPSetIx, mPPop, mMeth, mNew, isIns, cellO, mLstN, mAddN, mAppN, semX, mTold, mCallX, xRet, xExpr, xSet, mRaise, mM, isL, isS, mOrV, truD, mFor, forL, mLc, lcL, sameC, wipeC, restC, mYes, *])
local macro_rules | `(tactic| walk_at "rg") => `(tactic| (and_intros <;> grind))
local macro_rules | `(tactic| walk_at "nx") => `(tactic| (apply wx_nx; focus (walk_at "ev"; try first | exact ⟨rfl, rfl⟩ | rfl)))
local macro_rules | `(tactic| walk_at "ns") => `(tactic| (apply wx_nx; focus (walk_at "es"; try first | exact ⟨rfl, rfl⟩ | rfl)))
local macro_rules | `(tactic| walk_at "rt") => `(tactic| (apply wx_rt; focus (walk_at "ev"; try first | exact ⟨rfl, rfl⟩ | rfl)))
local macro_rules | `(tactic| walk_at "rs") => `(tactic| (apply wx_rt; focus (walk_at "es"; try first | exact ⟨rfl, rfl⟩ | rfl)))
local macro_rules | `(tactic| walk_at "ed") => `(tactic| simp [semF, shared, after, mSeq, mSkip, mIf, mRet, mRetN, mRetV, mSet, mSetIx, mExpr, mB, mU, mTm, mPl, mK, mVar, mOp, mCons, mNil, bor, bors, mTst, mAndT, mOrT, mNotT, mAndE, mOrE, mNotE, mIfE, mIsi, isiD, mChn, chnL, cmpD, binD, addD, subD, mulD, modD, fdivD, powD, eqD, neD, ltD, leD, gtD, geD, isD, isnD, L2.M.isNon, negD, ixD, Bf.f, Bg.f, lenD, L2.M.intD, maxD, minD, repD, strD, gmaxD, gminD, sumD, sortD, anyD, allD, mCall, frz, fzO, lend, wb, mTup, mLst, fzs, cD, mAsg, bTup, bTps, mApp, tupD, lstD, mRev, revD, ofs_inj, ee_ii, ee_ss, ee_bb, ee_nn, ee_is, ee_si, ee_in, ee_ni, ee_tt, ee_ll, ee_maps, ee_0, ee_1, ee_2, ee_3, at_lit, at_nat, at_m1, at_m2, scD, emD, sizeLine_eq, ixN, sm_lit, mSrc, itemsD, plOf, rng1D, bNm, mSl, mPt, mNoP, slD, mPar, keepT, tmsO, setA, mFlow, zipX, enumX, itemsX, intsOf, ints_all, boolsOf, shaped_lay, lay_int, lay_bool, lay_none, lay_dict, lay_tup, lay_list, lay_ints, sortX_ints, mPlF, mPlI, mRd, mPU, mPB, mFSet, mFNew, mNSet, mPApp, mPSetIx, mPPop, mMeth, mNew, isIns, cellO, mLstN, mAddN, mAppN, semX, mTold, mCallX, xRet, xExpr, xSet, mRaise, mM, isL, isS, mOrV, truD, mDNew, mDIn, mDGet, mDLen, mDPut, kyD, mNNew, mN1, mTake, mFnV, mCallF, mNIn, mNGet, mNPut, mNVals, mNList, nKs, mDGetD, mDList, mNNe, *])
structure Shw (k n : Nat) (d : PyData) : Prop where
  l : lay k d = true
  s : d.showable = true
  z : d.shown.length ≤ n
theorem Shw.mono {k k' n n' : Nat} {d : PyData} (h : Shw k n d) (hk : k ≤ k') (hn : n ≤ n') : Shw k' n' d := ⟨lay_mono hk h.l, h.s, Nat.le_trans h.z hn⟩
theorem shw_none (k : Nat) : Shw k 4 .none := ⟨lay_none k, by simp [PyData.showable], by simp only [PyData.shown]; decide⟩
theorem shw_bool (k : Nat) (b : Bool) : Shw k 5 (.bool b) := ⟨lay_bool k b, by simp [PyData.showable], by cases b <;> (simp only [PyData.shown]; decide)⟩
theorem shw_int (k : Nat) {m : Nat} {i : Int} (hm : 0 < m) (h : i.natAbs < 10 ^ m) (hm2 : m ≤ 60) : Shw k (m + 1) (.int i) := by
  have hb : i.natAbs < 10 ^ 60 := Nat.lt_of_lt_of_le h (Nat.pow_le_pow_right (by decide) hm2)
  refine ⟨lay_int k i, ?_, ?_⟩
  · have := log2_le (i := i) (by omega) (by omega)
    simp only [PyData.showable, decide_eq_true_eq]
    omega
  · simp only [PyData.shown]
    have := int_text_length_le10 hm h
    rw [PySem.ofString_length]
    exact this
theorem shw_i20 (k : Nat) {i : Int} (h1 : -(10 ^ 19) < i) (h2 : i < 10 ^ 19) : Shw k 20 (.int i) := shw_int k (m := 19) (by decide) (by omega) (by decide)
theorem shw_str (k : Nat) {s : Str} {n : Nat} (h1 : PyData.strOk s = true) (h2 : (reprText s).length ≤ n) : Shw k n (.str s) := ⟨by rw [lay_str]; exact h1, by simp [PyData.showable], by simp only [PyData.shown]; exact h2⟩
theorem text_len : ∀ (ts : List Str) (k : Nat) (acc : Str), (textFrom k acc ts).length ≤ acc.length + piled ts
  | [], k, acc => by simp [textFrom, piled]
  | t :: ts, k, acc => by
    have ih := text_len ts (k + 1) (acc ++ (if k > 0 then ", " else "" : String) ++ t)
    rw [strLen_append, strLen_append] at ih
    have hs : (Str.ofString (if k > 0 then ", " else "")).length ≤ 2 := by split <;> decide
    have e : textFrom k acc (t :: ts) = textFrom (k + 1) (acc ++ (if k > 0 then ", " else "" : String) ++ t) ts := rfl
    rw [e, piled_cons]
    omega
theorem list_len (ts : List Str) : (listText ts).length ≤ piled ts + 2 := by
  have h := text_len ts 0 "["
  have e : ("[" : Str).length = 1 := by decide
  have e2 : ("]" : Str).length = 1 := by decide
  unfold listText
  rw [strLen_append]
  omega
theorem tuple_len (ts : List Str) : (tupleText ts).length ≤ piled ts + 3 := by
  unfold tupleText
  rw [strLen_append, strLen_append]
  have e : ("(" : Str).length = 1 := by decide
  have e2 : (Str.ofString (if ts.length == 1 then ",)" else ")")).length ≤ 2 := by split <;> decide
  by_cases h : ts = []
  · subst h
    have e3 : (Str.join ", " []).length = 0 := by decide
    omega
  · have := join_length_add ts h
    omega
theorem piled_all : ∀ {k n : Nat} {ds : List PyData}, (∀ d ∈ ds, Shw k n d) → piled (PyData.shownAll ds) ≤ ds.length * (n + 2)
  | k, n, [], _ => by simp [PyData.shownAll, piled]
  | k, n, d :: ds, h => by
    have h1 := (h d List.mem_cons_self).z
    have ih := piled_all (k := k) (n := n) (ds := ds) fun d hd => h d (List.mem_cons_of_mem _ hd)
    simp only [PyData.shownAll, piled_cons, List.length_cons, Nat.add_mul, Nat.one_mul]
    omega
theorem showable_all : ∀ {k n : Nat} {ds : List PyData}, (∀ d ∈ ds, Shw k n d) → PyData.showableAll ds = true
  | k, n, [], _ => by simp [PyData.showableAll]
  | k, n, d :: ds, h => by
    have ih := showable_all (k := k) (n := n) (ds := ds) fun d hd => h d (List.mem_cons_of_mem _ hd)
    simp only [PyData.showableAll, ih, (h d List.mem_cons_self).s, Bool.and_self]
theorem shw_tup {k n : Nat} {ds : List PyData} (h : ∀ d ∈ ds, Shw k n d) : Shw (k + 1) (ds.length * (n + 2) + 3) (.tuple ds) := by
  refine ⟨?_, ?_, ?_⟩
  · rw [lay_tup _ (by omega)]
    simp only [Nat.add_sub_cancel, List.all_eq_true]
    exact fun d hd => (h d hd).l
  · simp only [PyData.showable]
    exact showable_all h
  · simp only [PyData.shown]
    have := tuple_len (PyData.shownAll ds)
    have := piled_all h
    omega
theorem shw_lst {k n : Nat} {ds : List PyData} (h : ∀ d ∈ ds, Shw k n d) : Shw (k + 1) (ds.length * (n + 2) + 3) (.list ds) := by
  refine ⟨?_, ?_, ?_⟩
  · rw [lay_list _ (by omega)]
    simp only [Nat.add_sub_cancel, List.all_eq_true]
    exact fun d hd => (h d hd).l
  · simp only [PyData.showable]
    exact showable_all h
  · simp only [PyData.shown]
    have := list_len (PyData.shownAll ds)
    have := piled_all h
    omega
theorem reprG_eq {k n : Nat} {d : PyData} (h : Shw k n d) (hk : k ≤ 64) (hn : n ≤ sizeLine) : reprG [d] = some (.sh (.str d.shown)) := by
  have h1 : SeqAt.shaped d = true := by
    rw [shaped_lay]
    exact lay_mono hk h.l
  have h2 := h.s
  have h3 := Nat.le_trans h.z hn
  simp only [reprG]
  rw [if_pos ⟨h1, h2, h3⟩]
/-- of tuples of tuples and the like: each item by its own bound -/
theorem shw_cons {k n : Nat} {d : PyData} {ds : List PyData} (h1 : Shw k n d) (h2 : ∀ d ∈ ds, Shw k n d) : ∀ x ∈ d :: ds, Shw k n x := by
  intro x hx
  rcases List.mem_cons.mp hx with rfl | hx
  · exact h1
  · exact h2 x hx
theorem shw_nil {k n : Nat} : ∀ x ∈ ([] : List PyData), Shw k n x := fun x hx => by cases hx
end KW
namespace KW
open PySem PySem.Spec PyProof.Rows L2 L2.M
local macro_rules | `(tactic| walk_at "ev") => `(tactic| simp [semF, shared, after, mSeq, mSkip, mIf, mRet, mRetN, mRetV, mSet, mSetIx, mExpr, mB, mU, mTm, mPl, mK, mVar, mOp, mCons, mNil, bor, bors, mTst, mAndT, mOrT, mNotT, mAndE, mOrE, mNotE, mIfE, mIsi, isiD, mChn, chnL, cmpD, binD, addD, subD, mulD, modD, fdivD, powD, eqD, neD, ltD, leD, gtD, geD, isD, isnD, L2.M.isNon, negD, ixD, Bf.f, Bg.f, lenD, L2.M.intD, maxD, minD, repD, strD, gmaxD, gminD, sumD, sortD, anyD, allD, mCall, frz, fzO, lend, wb, mTup, mLst, fzs, cD, mAsg, bTup, bTps, mApp, tupD, lstD, mRev, revD, ofs_inj, ee_ii, ee_ss, ee_bb, ee_nn, ee_is, ee_si, ee_in, ee_ni, ee_tt, ee_ll, ee_maps, ee_0, ee_1, ee_2, ee_3, at_lit, at_nat, at_m1, at_m2, scD, emD, sizeLine_eq, ixN, sm_lit, mSrc, itemsD, plOf, rng1D, bNm, mSl, mPt, mNoP, slD, mPar, keepT, tmsO, setA, mFlow, zipX, enumX, itemsX, intsOf, ints_all, boolsOf, shaped_lay, lay_int, lay_bool, lay_none, lay_dict, lay_tup, lay_list, lay_ints, sortX_ints, mPlF, mPlI, mRd, mPU, mPB, mFSet, mFNew, mNSet, mPApp, mPSetIx, mPPop, mMeth, mNew, isIns, cellO, mLstN, mAddN, mAppN, semX, mTold, mCallX, xRet, xExpr, xSet, mRaise, mM, isL, isS, mOrV, truD])
local macro_rules | `(tactic| walk_at "es") => `(tactic| simp [semF, shared, after, mSeq, mSkip, mIf, mRet, mRetN, mRetV, mSet, mSetIx, mExpr, mB, mU, mTm, mPl, mK, mVar, mOp, mCons, mNil, bor, bors, mTst, mAndT, mOrT, mNotT, mAndE, mOrE, mNotE, mIfE, mIsi, isiD, mChn, chnL, cmpD, binD, addD, subD, mulD, modD, fdivD, powD, eqD, neD, ltD, leD, gtD, geD, isD, isnD, L2.M.isNon, negD, ixD, Bf.f, Bg.f, lenD, L2.M.intD, maxD, minD, repD, strD, gmaxD, gminD, sumD, sortD, anyD, allD, mCall, frz, fzO, lend, wb, mTup, mLst, fzs, cD, mAsg, bTup, bTps, mApp, tupD, lstD, mRev, revD, ofs_inj, ee_ii, ee_ss, ee_bb, ee_nn, ee_is, ee_si, ee_in, ee_ni, ee_tt, ee_ll, ee_maps, ee_0, ee_1, ee_2, ee_3, at_lit, at_nat, at_m1, at_m2, scD, emD, sizeLine_eq, ixN, sm_lit, mSrc, itemsD, plOf, rng1D, bNm, mSl, mPt, mNoP, slD, mPar, keepT, tmsO, setA, mFlow, zipX, enumX, itemsX, intsOf, ints_all, boolsOf, shaped_lay, lay_int, lay_bool, lay_none, lay_dict, lay_tup, lay_list, lay_ints, sortX_ints, mPlF, mPlI, mRd, mPU, mPB, mFSet, mFNew, mNSet, mPApp, mPSetIx, mPPop, mMeth, mNew, isIns, cellO, mLstN, mAddN, mAppN, semX, mTold, mCallX, xRet, xExpr, xSet, mRaise, mM, isL, isS, mOrV, truD, *])
local macro_rules | `(tactic| walk_at "el") => `(tactic| simp [semF, shared, after, mSeq, mSkip, mIf, mRet, mRetN, mRetV, mSet, mSetIx, mExpr, mB, mU, mTm, mPl, mK, mVar, mOp, mCons, mNil, bor, bors, mTst, mAndT, mOrT, mNotT, mAndE, mOrE, mNotE, mIfE, mIsi, isiD, mChn, chnL, cmpD, binD, addD, subD, mulD, modD, fdivD, powD, eqD, neD, ltD, leD, gtD, geD, isD, isnD, L2.M.isNon, negD, ixD, Bf.f, Bg.f, lenD, L2.M.intD, maxD, minD, repD, strD, gmaxD, gminD, sumD, sortD, anyD, allD, mCall, frz, fzO, lend, wb, mTup, mLst, fzs, cD, mAsg, bTup, bTps, mApp, tupD, lstD, mRev, revD, ofs_inj, ee_ii, ee_ss, ee_bb, ee_nn, ee_is, ee_si, ee_in, ee_ni, ee_tt, ee_ll, ee_maps, ee_0, ee_1, ee_2, ee_3, at_lit, at_nat, at_m1, at_m2, scD, emD, sizeLine_eq, ixN, sm_lit, mSrc, itemsD, plOf, rng1D, bNm, mSl, mPt, mNoP, slD, mPar, keepT, tmsO, setA, mFlow, zipX, enumX, itemsX, intsOf, ints_all, boolsOf, shaped_lay, lay_int, lay_bool, lay_none, lay_dict, lay_tup, lay_list, lay_ints, sortX_ints, mPlF, mPlI, mRd, mPU, mPB, mFSet, mFNew, mNSet, mPApp, mPSetIx, mPPop, mMeth, mNew, isIns, cellO, mLstN, mAddN, mAppN, semX, mTold, mCallX, xRet, xExpr, xSet, mRaise, mM, isL, isS, mOrV, truD, mLc, lcL, sameC, wipeC, restC, mYes, *])
local macro_rules | `(tactic| walk_at "ef") => `(tactic| simp [semF, shared, after, mSeq, mSkip, mIf, mRet, mRetN, mRetV, mSet, mSetIx, mExpr, mB, mU, mTm, mPl, mK, mVar, mOp, mCons, mNil, bor, bors, mTst, mAndT, mOrT, mNotT, mAndE, mOrE, mNotE, mIfE, mIsi, isiD, mChn, chnL, cmpD, binD, addD, subD, mulD, modD, fdivD, powD, eqD, neD, ltD, leD, gtD, geD, isD, isnD, L2.M.isNon, negD, ixD, Bf.f, Bg.f, lenD, L2.M.intD, maxD, minD, repD, strD, gmaxD, gminD, sumD, sortD, anyD, allD, mCall, frz, fzO, lend, wb, mTup, mLst, fzs, cD, mAsg, bTup, bTps, mApp, tupD, lstD, mRev, revD, ofs_inj, ee_ii, ee_ss, ee_bb, ee_nn, ee_is, ee_si, ee_in, ee_ni, ee_tt, ee_ll, ee_maps, ee_0, ee_1, ee_2, ee_3, at_lit, at_nat, at_m1, at_m2, scD, emD, sizeLine_eq, ixN, sm_lit, mSrc, itemsD, plOf, rng1D, bNm, mSl, mPt, mNoP, slD, mPar, keepT, tmsO, setA, mFlow, zipX, enumX, itemsX, intsOf, ints_all, boolsOf, shaped_lay, lay_int, lay_bool, lay_none, lay_dict, lay_tup, lay_list, lay_ints, sortX_ints, mPlF, mPlI, mRd, mPU, mPB, mFSet, mFNew, mNSet, mPApp, mPSetIx, mPPop, mMeth, mNew, isIns, cellO, mLstN, mAddN, mAppN, semX, mTold, mCallX, xRet, xExpr, xSet, mRaise, mM, isL, isS, mOrV, truD, mFor, forL, mLc, lcL, sameC, wipeC, restC, mYes, *])
local macro_rules | `(tactic| walk_at "rg") => `(tactic| (and_intros <;> grind))
local macro_rules | `(tactic| walk_at "nx") => `(tactic| (apply wx_nx; focus (walk_at "ev"; try first | exact ⟨rfl, rfl⟩ | rfl)))
local macro_rules | `(tactic| walk_at "ns") => `(tactic| (apply wx_nx; focus (walk_at "es"; try first | exact ⟨rfl, rfl⟩ | rfl)))
local macro_rules | `(tactic| walk_at "rt") => `(tactic| (apply wx_rt; focus (walk_at "ev"; try first | exact ⟨rfl, rfl⟩ | rfl)))
local macro_rules | `(tactic| walk_at "rs") => `(tactic| (apply wx_rt; focus (walk_at "es"; try first | exact ⟨rfl, rfl⟩ | rfl)))
local macro_rules | `(tactic| walk_at "ed") => `(tactic| simp [semF, shared, after, mSeq, mSkip, mIf, mRet, mRetN, mRetV, mSet, mSetIx, mExpr, mB, mU, mTm, mPl, mK, mVar, mOp, mCons, mNil, bor, bors, mTst, mAndT, mOrT, mNotT, mAndE, mOrE, mNotE, mIfE, mIsi, isiD, mChn, chnL, cmpD, binD, addD, subD, mulD, modD, fdivD, powD, eqD, neD, ltD, leD, gtD, geD, isD, isnD, L2.M.isNon, negD, ixD, Bf.f, Bg.f, lenD, L2.M.intD, maxD, minD, repD, strD, gmaxD, gminD, sumD, sortD, anyD, allD, mCall, frz, fzO, lend, wb, mTup, mLst, fzs, cD, mAsg, bTup, bTps, mApp, tupD, lstD, mRev, revD, ofs_inj, ee_ii, ee_ss, ee_bb, ee_nn, ee_is, ee_si, ee_in, ee_ni, ee_tt, ee_ll, ee_maps, ee_0, ee_1, ee_2, ee_3, at_lit, at_nat, at_m1, at_m2, scD, emD, sizeLine_eq, ixN, sm_lit, mSrc, itemsD, plOf, rng1D, bNm, mSl, mPt, mNoP, slD, mPar, keepT, tmsO, setA, mFlow, zipX, enumX, itemsX, intsOf, ints_all, boolsOf, shaped_lay, lay_int, lay_bool, lay_none, lay_dict, lay_tup, lay_list, lay_ints, sortX_ints, mPlF, mPlI, mRd, mPU, mPB, mFSet, mFNew, mNSet, mPApp, mPSetIx, mPPop, mMeth, mNew, isIns, cellO, mLstN, mAddN, mAppN, semX, mTold, mCallX, xRet, xExpr, xSet, mRaise, mM, isL, isS, mOrV, truD, mDNew, mDIn, mDGet, mDLen, mDPut, kyD, mNNew, mN1, mTake, mFnV, mCallF, mNIn, mNGet, mNPut, mNVals, mNList, nKs, mDGetD, mDList, mNNe, *])
theorem at_in {α : Type} {xs : List α} {i : Int} (h0 : 0 ≤ i) (h1 : i < xs.length) : ∃ d ∈ xs, atI xs i = some d := by
  rw [at_nn h0, List.getElem?_eq_getElem (by omega)]
  exact ⟨_, List.getElem_mem _, rfl⟩
theorem at_dr {α : Type} {xs : List α} {p : Pn} {n : Int} (hn : 0 < n) (h1 : n ≤ xs.length) : ∃ d ∈ xs, atI xs (dr p n) = some d := at_in (dr_nn hn) (by have := dr_lt (p := p) hn; omega)
end KW
namespace KW
open PySem PySem.Spec PyProof.Rows L2 L2.M
local macro_rules | `(tactic| walk_at "ev") => `(tactic| simp [semF, shared, after, mSeq, mSkip, mIf, mRet, mRetN, mRetV, mSet, mSetIx, mExpr, mB, mU, mTm, mPl, mK, mVar, mOp, mCons, mNil, bor, bors, mTst, mAndT, mOrT, mNotT, mAndE, mOrE, mNotE, mIfE, mIsi, isiD, mChn, chnL, cmpD, binD, addD, subD, mulD, modD, fdivD, powD, eqD, neD, ltD, leD, gtD, geD, isD, isnD, L2.M.isNon, negD, ixD, Bf.f, Bg.f, lenD, L2.M.intD, maxD, minD, repD, strD, gmaxD, gminD, sumD, sortD, anyD, allD, mCall, frz, fzO, lend, wb, mTup, mLst, fzs, cD, mAsg, bTup, bTps, mApp, tupD, lstD, mRev, revD, ofs_inj, ee_ii, ee_ss, ee_bb, ee_nn, ee_is, ee_si, ee_in, ee_ni, ee_tt, ee_ll, ee_maps, ee_0, ee_1, ee_2, ee_3, at_lit, at_nat, at_m1, at_m2, scD, emD, sizeLine_eq, ixN, sm_lit, mSrc, itemsD, plOf, rng1D, bNm, mSl, mPt, mNoP, slD, mPar, keepT, tmsO, setA, mFlow, zipX, enumX, itemsX, intsOf, ints_all, boolsOf, shaped_lay, lay_int, lay_bool, lay_none, lay_dict, lay_tup, lay_list, lay_ints, sortX_ints, mPlF, mPlI, mRd, mPU, mPB, mFSet, mFNew, mNSet, mPApp, mPSetIx, mPPop, mMeth, mNew, isIns, cellO, mLstN, mAddN, mAppN, semX, mTold, mCallX, xRet, xExpr, xSet, mRaise, mM, isL, isS, mOrV, truD])
local macro_rules | `(tactic| walk_at "es") => `(tactic| simp [semF, shared, after, mSeq, mSkip, mIf, mRet, mRetN, mRetV, mSet, mSetIx, mExpr, mB, mU, mTm, mPl, mK, mVar, mOp, mCons, mNil, bor, bors, mTst, mAndT, mOrT, mNotT, mAndE, mOrE, mNotE, mIfE, mIsi, isiD, mChn, chnL, cmpD, binD, addD, subD, mulD, modD, fdivD, powD, eqD, neD, ltD, leD, gtD, geD, isD, isnD, L2.M.isNon, negD, ixD, Bf.f, Bg.f, lenD, L2.M.intD, maxD, minD, repD, strD, gmaxD, gminD, sumD, sortD, anyD, allD, mCall, frz, fzO, lend, wb, mTup, mLst, fzs, cD, mAsg, bTup, bTps, mApp, tupD, lstD, mRev, revD, ofs_inj, ee_ii, ee_ss, ee_bb, ee_nn, ee_is, ee_si, ee_in, ee_ni, ee_tt, ee_ll, ee_maps, ee_0, ee_1, ee_2, ee_3, at_lit, at_nat, at_m1, at_m2, scD, emD, sizeLine_eq, ixN, sm_lit, mSrc, itemsD, plOf, rng1D, bNm, mSl, mPt, mNoP, slD, mPar, keepT, tmsO, setA, mFlow, zipX, enumX, itemsX, intsOf, ints_all, boolsOf, shaped_lay, lay_int, lay_bool, lay_none, lay_dict, lay_tup, lay_list, lay_ints, sortX_ints, mPlF, mPlI, mRd, mPU, mPB, mFSet, mFNew, mNSet, mPApp, mPSetIx, mPPop, mMeth, mNew, isIns, cellO, mLstN, mAddN, mAppN, semX, mTold, mCallX, xRet, xExpr, xSet, mRaise, mM, isL, isS, mOrV, truD, *])
local macro_rules | `(tactic| walk_at "el") => `(tactic| simp [semF, shared, after, mSeq, mSkip, mIf, mRet, mRetN, mRetV, mSet, mSetIx, mExpr, mB, mU, mTm, mPl, mK, mVar, mOp, mCons, mNil, bor, bors, mTst, mAndT, mOrT, mNotT, mAndE, mOrE, mNotE, mIfE, mIsi, isiD, mChn, chnL, cmpD, binD, addD, subD, mulD, modD, fdivD, powD, eqD, neD, ltD, leD, gtD, geD, isD, isnD, L2.M.isNon, negD, ixD, Bf.f, Bg.f, lenD, L2.M.intD, maxD, minD, repD, strD, gmaxD, gminD, sumD, sortD, anyD, allD, mCall, frz, fzO, lend, wb, mTup, mLst, fzs, cD, mAsg, bTup, bTps, mApp, tupD, lstD, mRev, revD, ofs_inj, ee_ii, ee_ss, ee_bb, ee_nn, ee_is, ee_si, ee_in, ee_ni, ee_tt, ee_ll, ee_maps, ee_0, ee_1, ee_2, ee_3, at_lit, at_nat, at_m1, at_m2, scD, emD, sizeLine_eq, ixN, sm_lit, mSrc, itemsD, plOf, rng1D, bNm, mSl, mPt, mNoP, slD, mPar, keepT, tmsO, setA, mFlow, zipX, enumX, itemsX, intsOf, ints_all, boolsOf, shaped_lay, lay_int, lay_bool, lay_none, lay_dict, lay_tup, lay_list, lay_ints, sortX_ints, mPlF, mPlI, mRd, mPU, mPB, mFSet, mFNew, mNSet, mPApp, mPSetIx, mPPop, mMeth, mNew, isIns, cellO, mLstN, mAddN, mAppN, semX, mTold, mCallX, xRet, xExpr, xSet, mRaise, mM, isL, isS, mOrV, truD, mLc, lcL, sameC, wipeC, restC, mYes, *])
local macro_rules | `(tactic| walk_at "ef") => `(tactic| simp [semF, shared, after, mSeq, mSkip, mIf, mRet, mRetN, mRetV, mSet, mSetIx, mExpr, mB, mU, mTm, mPl, mK, mVar, mOp, mCons, mNil, bor, bors, mTst, mAndT, mOrT, mNotT, mAndE, mOrE, mNotE, mIfE, mIsi, isiD, mChn, chnL, cmpD, binD, addD, subD, mulD, modD, fdivD, powD, eqD, neD, ltD, leD, gtD, geD, isD, isnD, L2.M.isNon, negD, ixD, Bf.f, Bg.f, lenD, L2.M.intD, maxD, minD, repD, strD, gmaxD, gminD, sumD, sortD, anyD, allD, mCall, frz, fzO, lend, wb, mTup, mLst, fzs, cD, mAsg, bTup, bTps, mApp, tupD, lstD, mRev, revD, ofs_inj, ee_ii, ee_ss, ee_bb, ee_nn, ee_is, ee_si, ee_in, ee_ni, ee_tt, ee_ll, ee_maps, ee_0, ee_1, ee_2, ee_3, at_lit, at_nat, at_m1, at_m2, scD, emD, sizeLine_eq, ixN, sm_lit, mSrc, itemsD, plOf, rng1D, bNm, mSl, mPt, mNoP, slD, mPar, keepT, tmsO, setA, mFlow, zipX, enumX, itemsX, intsOf, ints_all, boolsOf, shaped_lay, lay_int, lay_bool, lay_none, lay_dict, lay_tup, lay_list, lay_ints, sortX_ints, mPlF, mPlI, mRd, mPU, mPB, mFSet, mFNew, mNSet, mPApp, mPSetIx, mPPop, mMeth, mNew, isIns, cellO, mLstN, mAddN, mAppN, semX, mTold, mCallX, xRet, xExpr, xSet, mRaise, mM, isL, isS, mOrV, truD, mFor, forL, mLc, lcL, sameC, wipeC, restC, mYes, *])
local macro_rules | `(tactic| walk_at "rg") => `(tactic| (and_intros <;> grind))
local macro_rules | `(tactic| walk_at "nx") => `(tactic| (apply wx_nx; focus (walk_at "ev"; try first | exact ⟨rfl, rfl⟩ | rfl)))
local macro_rules | `(tactic| walk_at "ns") => `(tactic| (apply wx_nx; focus (walk_at "es"; try first | exact ⟨rfl, rfl⟩ | rfl)))
local macro_rules | `(tactic| walk_at "rt") => `(tactic| (apply wx_rt; focus (walk_at "ev"; try first | exact ⟨rfl, rfl⟩ | rfl)))
local macro_rules | `(tactic| walk_at "rs") => `(tactic| (apply wx_rt; focus (walk_at "es"; try first | exact ⟨rfl, rfl⟩ | rfl)))
local macro_rules | `(tactic| walk_at "ed") => `(tactic| simp [semF, shared, after, mSeq, mSkip, mIf, mRet, mRetN, mRetV, mSet, mSetIx, mExpr, mB, mU, mTm, mPl, mK, mVar, mOp, mCons, mNil, bor, bors, mTst, mAndT, mOrT, mNotT, mAndE, mOrE, mNotE, mIfE, mIsi, isiD, mChn, chnL, cmpD, binD, addD, subD, mulD, modD, fdivD, powD, eqD, neD, ltD, leD, gtD, geD, isD, isnD, L2.M.isNon, negD, ixD, Bf.f, Bg.f, lenD, L2.M.intD, maxD, minD, repD, strD, gmaxD, gminD, sumD, sortD, anyD, allD, mCall, frz, fzO, lend, wb, mTup, mLst, fzs, cD, mAsg, bTup, bTps, mApp, tupD, lstD, mRev, revD, ofs_inj, ee_ii, ee_ss, ee_bb, ee_nn, ee_is, ee_si, ee_in, ee_ni, ee_tt, ee_ll, ee_maps, ee_0, ee_1, ee_2, ee_3, at_lit, at_nat, at_m1, at_m2, scD, emD, sizeLine_eq, ixN, sm_lit, mSrc, itemsD, plOf, rng1D, bNm, mSl, mPt, mNoP, slD, mPar, keepT, tmsO, setA, mFlow, zipX, enumX, itemsX, intsOf, ints_all, boolsOf, shaped_lay, lay_int, lay_bool, lay_none, lay_dict, lay_tup, lay_list, lay_ints, sortX_ints, mPlF, mPlI, mRd, mPU, mPB, mFSet, mFNew, mNSet, mPApp, mPSetIx, mPPop, mMeth, mNew, isIns, cellO, mLstN, mAddN, mAppN, semX, mTold, mCallX, xRet, xExpr, xSet, mRaise, mM, isL, isS, mOrV, truD, mDNew, mDIn, mDGet, mDLen, mDPut, kyD, mNNew, mN1, mTake, mFnV, mCallF, mNIn, mNGet, mNPut, mNVals, mNList, nKs, mDGetD, mDList, mNNe, *])
/-- a comprehension over items of one form, those that a test lets through -/
theorem mLc_encF {α : Type} (f e : α → PyData) (q : α → Bool) {i : Nat} {src : SM} {tests : TM} {m : EM} {ε ε1 : Cs} {xs : List α} {c0 : C} {ws : List Nat} (hs : src ε = some ((xs.map f, ws), ε1)) (h1 : ε1[i]? = some c0) (ht : ∀ x ∈ xs, tests (ε1.set i (.sh (f x))) = some (q x, ε1.set i (.sh (f x)))) (h : ∀ x ∈ xs, q x = true → ∃ c, m (ε1.set i (.sh (f x))) = some (c, ε1.set i (.sh (f x))) ∧ cD c = some (e x)) (hn : xs.length ≤ sizeLine) (hw : ws.all (fun j => !([i] : List Nat).contains j) = true := by rfl) :
    mLc src (bNm i) tests m [i] ε = some (.ls ((xs.filter q).map e), ε1) := by
  have hl : i < ε1.length := (List.getElem?_eq_some_iff.mp h1).1
  have hsm : sameC ws ε1 (ε1.set i .no) := by
    intro j hj
    have := List.all_eq_true.mp hw j hj
    have ne : i ≠ j := by
      rintro rfl
      simp at this
    rw [List.getElem?_set_ne ne]
  obtain ⟨out, ε2, e1, e2, e3⟩ := lc_rule (src := src) (bind := bNm i) (tests := tests) (elt := m) (own := [i]) (ε := ε) (fun k out ε2 => out = ((xs.take k).filter q).map e ∧ ε2 = ε1.set i .no) hs hw ⟨by simp, by simp [wipeC]⟩ (fun _ _ _ h => by rw [h.2]; exact hsm) (by simpa using hn) (by
    rintro k d out ε2 hd ⟨rfl, rfl⟩
    rw [List.getElem?_map] at hd
    obtain ⟨x, hx, rfl⟩ := Option.map_eq_some_iff.mp hd
    obtain ⟨hk, rfl⟩ := List.getElem?_eq_some_iff.mp hx
    refine ⟨ε1.set i (.sh (f xs[k])), q xs[k], _, by simp [bNm, hl], ht _ (List.getElem_mem hk), fun z => ⟨?_, ?_⟩, fun z => ?_⟩
    · rw [List.take_succ_eq_append_getElem hk, List.filter_append]
      simp [z]
    · simp [wipeC]
    · obtain ⟨c, g1, g2⟩ := h _ (List.getElem_mem hk) z
      refine ⟨c, _, _, g1, g2, ?_, ?_⟩
      · rw [List.take_succ_eq_append_getElem hk, List.filter_append]
        simp [z]
      · simp [wipeC])
  subst e3
  rw [List.length_map, List.take_of_length_le (Nat.le_refl _)] at e2
  subst e2
  rw [e1]
  simp only [restC, h1]
  rw [set_back h1]
theorem rng_nat0 {k : Nat} (j : Int) (e : j = k) (hk : 0 ≤ j ∧ j ≤ 8000000) : rng1D [.int j] = some (rangeD 0 1 k) := by
  simp only [rng1D]
  rw [if_pos ⟨by omega, by omega⟩, e, Int.toNat_natCast]
theorem src_f {f : List PyData → Option (List PyData)} {d : PyData} {ds : List PyData} {ε ε1 : Cs} {m : EM} (h : m ε = some (.sh d, ε1)) (hf : f [d] = some ds) : mSrc f (mCons (mTm m) mNil) ε = some ((ds, []), ε1) := by
  simp [mSrc, mCons, mTm, mNil, bors, bor, plOf, hf, h]
end KW
namespace KW
open PySem PySem.Spec PyProof.Rows L2 L2.M
local macro_rules | `(tactic| walk_at "ev") => `(tactic| simp [semF, shared, after, mSeq, mSkip, mIf, mRet, mRetN, mRetV, mSet, mSetIx, mExpr, mB, mU, mTm, mPl, mK, mVar, mOp, mCons, mNil, bor, bors, mTst, mAndT, mOrT, mNotT, mAndE, mOrE, mNotE, mIfE, mIsi, isiD, mChn, chnL, cmpD, binD, addD, subD, mulD, modD, fdivD, powD, eqD, neD, ltD, leD, gtD, geD, isD, isnD, L2.M.isNon, negD, ixD, Bf.f, Bg.f, lenD, L2.M.intD, maxD, minD, repD, strD, gmaxD, gminD, sumD, sortD, anyD, allD, mCall, frz, fzO, lend, wb, mTup, mLst, fzs, cD, mAsg, bTup, bTps, mApp, tupD, lstD, mRev, revD, ofs_inj, ee_ii, ee_ss, ee_bb, ee_nn, ee_is, ee_si, ee_in, ee_ni, ee_tt, ee_ll, ee_maps, ee_0, ee_1, ee_2, ee_3, at_lit, at_nat, at_m1, at_m2, scD, emD, sizeLine_eq, ixN, sm_lit, mSrc, itemsD, plOf, rng1D, bNm, mSl, mPt, mNoP, slD, mPar, keepT, tmsO, setA, mFlow, zipX, enumX, itemsX, intsOf, ints_all, boolsOf, shaped_lay, lay_int, lay_bool, lay_none, lay_dict, lay_tup, lay_list, lay_ints, sortX_ints, mPlF, mPlI, mRd, mPU, mPB, mFSet, mFNew, mNSet, mPApp, mPSetIx, mPPop, mMeth, mNew, isIns, cellO, mLstN, mAddN, mAppN, semX, mTold, mCallX, xRet, xExpr, xSet, mRaise, mM, isL, isS, mOrV, truD])
local macro_rules | `(tactic| walk_at "es") => `(tactic| simp [semF, shared, after, mSeq, mSkip, mIf, mRet, mRetN, mRetV, mSet, mSetIx, mExpr, mB, mU, mTm, mPl, mK, mVar, mOp, mCons, mNil, bor, bors, mTst, mAndT, mOrT, mNotT, mAndE, mOrE, mNotE, mIfE, mIsi, isiD, mChn, chnL, cmpD, binD, addD, subD, mulD, modD, fdivD, powD, eqD, neD, ltD, leD, gtD, geD, isD, isnD, L2.M.isNon, negD, ixD, Bf.f, Bg.f, lenD, L2.M.intD, maxD, minD, repD, strD, gmaxD, gminD, sumD, sortD, anyD, allD, mCall, frz, fzO, lend, wb, mTup, mLst, fzs, cD, mAsg, bTup, bTps, mApp, tupD, lstD, mRev, revD, ofs_inj, ee_ii, ee_ss, ee_bb, ee_nn, ee_is, ee_si, ee_in, ee_ni, ee_tt, ee_ll, ee_maps, ee_0, ee_1, ee_2, ee_3, at_lit, at_nat, at_m1, at_m2, scD, emD, sizeLine_eq, ixN, sm_lit, mSrc, itemsD, plOf, rng1D, bNm, mSl, mPt, mNoP, slD, mPar, keepT, tmsO, setA, mFlow, zipX, enumX, itemsX, intsOf, ints_all, boolsOf, shaped_lay, lay_int, lay_bool, lay_none, lay_dict, lay_tup, lay_list, lay_ints, sortX_ints, mPlF, mPlI, mRd, mPU, mPB, mFSet, mFNew, mNSet, mPApp, mPSetIx, mPPop, mMeth, mNew, isIns, cellO, mLstN, mAddN, mAppN, semX, mTold, mCallX, xRet, xExpr, xSet, mRaise, mM, isL, isS, mOrV, truD, *])
local macro_rules | `(tactic| walk_at "el") => `(tactic| simp [semF, shared, after, mSeq, mSkip, mIf, mRet, mRetN, mRetV, mSet, mSetIx, mExpr, mB, mU, mTm, mPl, mK, mVar, mOp, mCons, mNil, bor, bors, mTst, mAndT, mOrT, mNotT, mAndE, mOrE, mNotE, mIfE, mIsi, isiD, mChn, chnL, cmpD, binD, addD, subD, mulD, modD, fdivD, powD, eqD, neD, ltD, leD, gtD, geD, isD, isnD, L2.M.isNon, negD, ixD, Bf.f, Bg.f, lenD, L2.M.intD, maxD, minD, repD, strD, gmaxD, gminD, sumD, sortD, anyD, allD, mCall, frz, fzO, lend, wb, mTup, mLst, fzs, cD, mAsg, bTup, bTps, mApp, tupD, lstD, mRev, revD, ofs_inj, ee_ii, ee_ss, ee_bb, ee_nn, ee_is, ee_si, ee_in, ee_ni, ee_tt, ee_ll, ee_maps, ee_0, ee_1, ee_2, ee_3, at_lit, at_nat, at_m1, at_m2, scD, emD, sizeLine_eq, ixN, sm_lit, mSrc, itemsD, plOf, rng1D, bNm, mSl, mPt, mNoP, slD, mPar, keepT, tmsO, setA, mFlow, zipX, enumX, itemsX, intsOf, ints_all, boolsOf, shaped_lay, lay_int, lay_bool, lay_none, lay_dict, lay_tup, lay_list, lay_ints, sortX_ints, mPlF, mPlI, mRd, mPU, mPB, mFSet, mFNew, mNSet, mPApp, mPSetIx, mPPop, mMeth, mNew, isIns, cellO, mLstN, mAddN, mAppN, semX, mTold, mCallX, xRet, xExpr, xSet, mRaise, mM, isL, isS, mOrV, truD, mLc, lcL, sameC, wipeC, restC, mYes, *])
local macro_rules | `(tactic| walk_at "ef") => `(tactic| simp [semF, shared, after, mSeq, mSkip, mIf, mRet, mRetN, mRetV, mSet, mSetIx, mExpr, mB, mU, mTm, mPl, mK, mVar, mOp, mCons, mNil, bor, bors, mTst, mAndT, mOrT, mNotT, mAndE, mOrE, mNotE, mIfE, mIsi, isiD, mChn, chnL, cmpD, binD, addD, subD, mulD, modD, fdivD, powD, eqD, neD, ltD, leD, gtD, geD, isD, isnD, L2.M.isNon, negD, ixD, Bf.f, Bg.f, lenD, L2.M.intD, maxD, minD, repD, strD, gmaxD, gminD, sumD, sortD, anyD, allD, mCall, frz, fzO, lend, wb, mTup, mLst, fzs, cD, mAsg, bTup, bTps, mApp, tupD, lstD, mRev, revD, ofs_inj, ee_ii, ee_ss, ee_bb, ee_nn, ee_is, ee_si, ee_in, ee_ni, ee_tt, ee_ll, ee_maps, ee_0, ee_1, ee_2, ee_3, at_lit, at_nat, at_m1, at_m2, scD, emD, sizeLine_eq, ixN, sm_lit, mSrc, itemsD, plOf, rng1D, bNm, mSl, mPt, mNoP, slD, mPar, keepT, tmsO, setA, mFlow, zipX, enumX, itemsX, intsOf, ints_all, boolsOf, shaped_lay, lay_int, lay_bool, lay_none, lay_dict, lay_tup, lay_list, lay_ints, sortX_ints, mPlF, mPlI, mRd, mPU, mPB, mFSet, mFNew, mNSet, mPApp, mPSetIx, mPPop, mMeth, mNew, isIns, cellO, mLstN, mAddN, mAppN, semX, mTold, mCallX, xRet, xExpr, xSet, mRaise, mM, isL, isS, mOrV, truD, mFor, forL, mLc, lcL, sameC, wipeC, restC, mYes, *])
local macro_rules | `(tactic| walk_at "rg") => `(tactic| (and_intros <;> grind))
local macro_rules | `(tactic| walk_at "nx") => `(tactic| (apply wx_nx; focus (walk_at "ev"; try first | exact ⟨rfl, rfl⟩ | rfl)))
local macro_rules | `(tactic| walk_at "ns") => `(tactic| (apply wx_nx; focus (walk_at "es"; try first | exact ⟨rfl, rfl⟩ | rfl)))
local macro_rules | `(tactic| walk_at "rt") => `(tactic| (apply wx_rt; focus (walk_at "ev"; try first | exact ⟨rfl, rfl⟩ | rfl)))
local macro_rules | `(tactic| walk_at "rs") => `(tactic| (apply wx_rt; focus (walk_at "es"; try first | exact ⟨rfl, rfl⟩ | rfl)))
local macro_rules | `(tactic| walk_at "ed") => `(tactic| simp [semF, shared, after, mSeq, mSkip, mIf, mRet, mRetN, mRetV, mSet, mSetIx, mExpr, mB, mU, mTm, mPl, mK, mVar, mOp, mCons, mNil, bor, bors, mTst, mAndT, mOrT, mNotT, mAndE, mOrE, mNotE, mIfE, mIsi, isiD, mChn, chnL, cmpD, binD, addD, subD, mulD, modD, fdivD, powD, eqD, neD, ltD, leD, gtD, geD, isD, isnD, L2.M.isNon, negD, ixD, Bf.f, Bg.f, lenD, L2.M.intD, maxD, minD, repD, strD, gmaxD, gminD, sumD, sortD, anyD, allD, mCall, frz, fzO, lend, wb, mTup, mLst, fzs, cD, mAsg, bTup, bTps, mApp, tupD, lstD, mRev, revD, ofs_inj, ee_ii, ee_ss, ee_bb, ee_nn, ee_is, ee_si, ee_in, ee_ni, ee_tt, ee_ll, ee_maps, ee_0, ee_1, ee_2, ee_3, at_lit, at_nat, at_m1, at_m2, scD, emD, sizeLine_eq, ixN, sm_lit, mSrc, itemsD, plOf, rng1D, bNm, mSl, mPt, mNoP, slD, mPar, keepT, tmsO, setA, mFlow, zipX, enumX, itemsX, intsOf, ints_all, boolsOf, shaped_lay, lay_int, lay_bool, lay_none, lay_dict, lay_tup, lay_list, lay_ints, sortX_ints, mPlF, mPlI, mRd, mPU, mPB, mFSet, mFNew, mNSet, mPApp, mPSetIx, mPPop, mMeth, mNew, isIns, cellO, mLstN, mAddN, mAppN, semX, mTold, mCallX, xRet, xExpr, xSet, mRaise, mM, isL, isS, mOrV, truD, mDNew, mDIn, mDGet, mDLen, mDPut, kyD, mNNew, mN1, mTake, mFnV, mCallF, mNIn, mNGet, mNPut, mNVals, mNList, nKs, mDGetD, mDList, mNNe, *])
structure Pz where
  (p r c f : Int)
def Pz.d (z : Pz) : PyData := .tuple [.int z.p, .int z.r, .int z.c, .int z.f]
structure Pz.Ok (z : Pz) : Prop where
  p0 : 0 ≤ z.p
  p1 : z.p ≤ 1000
  r0 : 1 ≤ z.r
  r1 : z.r ≤ 1000
  f0 : 0 ≤ z.f
  f1 : z.f ≤ z.c
  c1 : z.c ≤ 10000
def pin (z : Pz) (c : Int) : Int := if c + z.p < z.c then c + z.p else z.c
section
variable {z : Pz} (h : z.Ok)
include h
theorem pin_b {c : Int} (h0 : 0 ≤ c) : 0 ≤ pin z c ∧ pin z c ≤ c + z.p ∧ pin z c ≤ z.c := by
  have := h.p0
  have := h.f0
  have := h.f1
  unfold pin
  split <;> omega
end
/-- so many keys as there are numbers -/
theorem keys_len {β : Type} {E : List (Int × β)} (h : (E.map (·.1)).Nodup) {n : Nat} (hb : ∀ e ∈ E, 0 ≤ e.1 ∧ e.1 < (n : Int)) : E.length ≤ n := by
  have e : ((E.map (·.1)).map Int.toNat).Nodup := by
    rw [List.Nodup, List.pairwise_map]
    refine h.imp_of_mem fun {a b} ha hb' hne => ?_
    obtain ⟨x, hx, rfl⟩ := List.mem_map.mp ha
    obtain ⟨y, hy, rfl⟩ := List.mem_map.mp hb'
    have := hb x hx
    have := hb y hy
    omega
  have hs : ∀ x ∈ (E.map (·.1)).map Int.toNat, x ∈ List.range n := by
    intro x hx
    rw [List.map_map] at hx
    obtain ⟨y, hy, rfl⟩ := List.mem_map.mp hx
    have := hb y hy
    rw [List.mem_range]
    show y.1.toNat < n
    omega
  have key : ∀ (R L : List Nat), R.Nodup → (∀ x ∈ R, x ∈ L) → R.length ≤ L.length := by
    intro R
    induction R with
    | nil => intro L _ _; simp
    | cons a R ih =>
      intro L hn hs
      have ha := hs a List.mem_cons_self
      have hn2 := List.nodup_cons.mp hn
      have h1 := ih (L.erase a) hn2.2 fun x hx => by
        have hne : x ≠ a := fun e => hn2.1 (e ▸ hx)
        exact (List.mem_erase_of_ne hne).mpr (hs x (List.mem_cons_of_mem _ hx))
      rw [List.length_erase_of_mem ha] at h1
      have : 0 < L.length := List.length_pos_of_mem ha
      simp only [List.length_cons]
      omega
  have := key _ _ e hs
  simpa using this
end KW
namespace KW
open PySem PySem.Spec PyProof.Rows L2 L2.M
local macro_rules | `(tactic| walk_at "ev") => `(tactic| simp [semF, shared, after, mSeq, mSkip, mIf, mRet, mRetN, mRetV, mSet, mSetIx, mExpr, mB, mU, mTm, mPl, mK, mVar, mOp, mCons, mNil, bor, bors, mTst, mAndT, mOrT, mNotT, mAndE, mOrE, mNotE, mIfE, mIsi, isiD, mChn, chnL, cmpD, binD, addD, subD, mulD, modD, fdivD, powD, eqD, neD, ltD, leD, gtD, geD, isD, isnD, L2.M.isNon, negD, ixD, Bf.f, Bg.f, lenD, L2.M.intD, maxD, minD, repD, strD, gmaxD, gminD, sumD, sortD, anyD, allD, mCall, frz, fzO, lend, wb, mTup, mLst, fzs, cD, mAsg, bTup, bTps, mApp, tupD, lstD, mRev, revD, ofs_inj, ee_ii, ee_ss, ee_bb, ee_nn, ee_is, ee_si, ee_in, ee_ni, ee_tt, ee_ll, ee_maps, ee_0, ee_1, ee_2, ee_3, at_lit, at_nat, at_m1, at_m2, scD, emD, sizeLine_eq, ixN, sm_lit, mSrc, itemsD, plOf, rng1D, bNm, mSl, mPt, mNoP, slD, mPar, keepT, tmsO, setA, mFlow, zipX, enumX, itemsX, intsOf, ints_all, boolsOf, shaped_lay, lay_int, lay_bool, lay_none, lay_dict, lay_tup, lay_list, lay_ints, sortX_ints, mPlF, mPlI, mRd, mPU, mPB, mFSet, mFNew, mNSet, mPApp, mPSetIx, mPPop, mMeth, mNew, isIns, cellO, mLstN, mAddN, mAppN, semX, mTold, mCallX, xRet, xExpr, xSet, mRaise, mM, isL, isS, mOrV, truD])
local macro_rules | `(tactic| walk_at "es") => `(tactic| simp [semF, shared, after, mSeq, mSkip, mIf, mRet, mRetN, mRetV, mSet, mSetIx, mExpr, mB, mU, mTm, mPl, mK, mVar, mOp, mCons, mNil, bor, bors, mTst, mAndT, mOrT, mNotT, mAndE, mOrE, mNotE, mIfE, mIsi, isiD, mChn, chnL, cmpD, binD, addD, subD, mulD, modD, fdivD, powD, eqD, neD, ltD, leD, gtD, geD, isD, isnD, L2.M.isNon, negD, ixD, Bf.f, Bg.f, lenD, L2.M.intD, maxD, minD, repD, strD, gmaxD, gminD, sumD, sortD, anyD, allD, mCall, frz, fzO, lend, wb, mTup, mLst, fzs, cD, mAsg, bTup, bTps, mApp, tupD, lstD, mRev, revD, ofs_inj, ee_ii, ee_ss, ee_bb, ee_nn, ee_is, ee_si, ee_in, ee_ni, ee_tt, ee_ll, ee_maps, ee_0, ee_1, ee_2, ee_3, at_lit, at_nat, at_m1, at_m2, scD, emD, sizeLine_eq, ixN, sm_lit, mSrc, itemsD, plOf, rng1D, bNm, mSl, mPt, mNoP, slD, mPar, keepT, tmsO, setA, mFlow, zipX, enumX, itemsX, intsOf, ints_all, boolsOf, shaped_lay, lay_int, lay_bool, lay_none, lay_dict, lay_tup, lay_list, lay_ints, sortX_ints, mPlF, mPlI, mRd, mPU, mPB, mFSet, mFNew, mNSet, mPApp, mPSetIx, mPPop, mMeth, mNew, isIns, cellO, mLstN, mAddN, mAppN, semX, mTold, mCallX, xRet, xExpr, xSet, mRaise, mM, isL, isS, mOrV, truD, *])
local macro_rules | `(tactic| walk_at "el") => `(tactic| simp [semF, shared, after, mSeq, mSkip, mIf, mRet, mRetN, mRetV, mSet, mSetIx, mExpr, mB, mU, mTm, mPl, mK, mVar, mOp, mCons, mNil, bor, bors, mTst, mAndT, mOrT, mNotT, mAndE, mOrE, mNotE, mIfE, mIsi, isiD, mChn, chnL, cmpD, binD, addD, subD, mulD, modD, fdivD, powD, eqD, neD, ltD, leD, gtD, geD, isD, isnD, L2.M.isNon, negD, ixD, Bf.f, Bg.f, lenD, L2.M.intD, maxD, minD, repD, strD, gmaxD, gminD, sumD, sortD, anyD, allD, mCall, frz, fzO, lend, wb, mTup, mLst, fzs, cD, mAsg, bTup, bTps, mApp, tupD, lstD, mRev, revD, ofs_inj, ee_ii, ee_ss, ee_bb, ee_nn, ee_is, ee_si, ee_in, ee_ni, ee_tt, ee_ll, ee_maps, ee_0, ee_1, ee_2, ee_3, at_lit, at_nat, at_m1, at_m2, scD, emD, sizeLine_eq, ixN, sm_lit, mSrc, itemsD, plOf, rng1D, bNm, mSl, mPt, mNoP, slD, mPar, keepT, tmsO, setA, mFlow, zipX, enumX, itemsX, intsOf, ints_all, boolsOf, shaped_lay, lay_int, lay_bool, lay_none, lay_dict, lay_tup, lay_list, lay_ints, sortX_ints, mPlF, mPlI, mRd, mPU, mPB, mFSet, mFNew, mNSet, mPApp, mPSetIx, mPPop, mMeth, mNew, isIns, cellO, mLstN, mAddN, mAppN, semX, mTold, mCallX, xRet, xExpr, xSet, mRaise, mM, isL, isS, mOrV, truD, mLc, lcL, sameC, wipeC, restC, mYes, *])
local macro_rules | `(tactic| walk_at "ef") => `(tactic| simp [semF, shared, after, mSeq, mSkip, mIf, mRet, mRetN, mRetV, mSet, mSetIx, mExpr, mB, mU, mTm, mPl, mK, mVar, mOp, mCons, mNil, bor, bors, mTst, mAndT, mOrT, mNotT, mAndE, mOrE, mNotE, mIfE, mIsi, isiD, mChn, chnL, cmpD, binD, addD, subD, mulD, modD, fdivD, powD, eqD, neD, ltD, leD, gtD, geD, isD, isnD, L2.M.isNon, negD, ixD, Bf.f, Bg.f, lenD, L2.M.intD, maxD, minD, repD, strD, gmaxD, gminD, sumD, sortD, anyD, allD, mCall, frz, fzO, lend, wb, mTup, mLst, fzs, cD, mAsg, bTup, bTps, mApp, tupD, lstD, mRev, revD, ofs_inj, ee_ii, ee_ss, ee_bb, ee_nn, ee_is, ee_si, ee_in, ee_ni, ee_tt, ee_ll, ee_maps, ee_0, ee_1, ee_2, ee_3, at_lit, at_nat, at_m1, at_m2, scD, emD, sizeLine_eq, ixN, sm_lit, mSrc, itemsD, plOf, rng1D, bNm, mSl, mPt, mNoP, slD, mPar, keepT, tmsO, setA, mFlow, zipX, enumX, itemsX, intsOf, ints_all, boolsOf, shaped_lay, lay_int, lay_bool, lay_none, lay_dict, lay_tup, lay_list, lay_ints, sortX_ints, mPlF, mPlI, mRd, mPU, mPB, mFSet, mFNew, mNSet, mPApp, mPSetIx, mPPop, mMeth, mNew, isIns, cellO, mLstN, mAddN, mAppN, semX, mTold, mCallX, xRet, xExpr, xSet, mRaise, mM, isL, isS, mOrV, truD, mFor, forL, mLc, lcL, sameC, wipeC, restC, mYes, *])
local macro_rules | `(tactic| walk_at "rg") => `(tactic| (and_intros <;> grind))
local macro_rules | `(tactic| walk_at "nx") => `(tactic| (apply wx_nx; focus (walk_at "ev"; try first | exact ⟨rfl, rfl⟩ | rfl)))
local macro_rules | `(tactic| walk_at "ns") => `(tactic| (apply wx_nx; focus (walk_at "es"; try first | exact ⟨rfl, rfl⟩ | rfl)))
local macro_rules | `(tactic| walk_at "rt") => `(tactic| (apply wx_rt; focus (walk_at "ev"; try first | exact ⟨rfl, rfl⟩ | rfl)))
local macro_rules | `(tactic| walk_at "rs") => `(tactic| (apply wx_rt; focus (walk_at "es"; try first | exact ⟨rfl, rfl⟩ | rfl)))
local macro_rules | `(tactic| walk_at "ed") => `(tactic| simp [semF, shared, after, mSeq, mSkip, mIf, mRet, mRetN, mRetV, mSet, mSetIx, mExpr, mB, mU, mTm, mPl, mK, mVar, mOp, mCons, mNil, bor, bors, mTst, mAndT, mOrT, mNotT, mAndE, mOrE, mNotE, mIfE, mIsi, isiD, mChn, chnL, cmpD, binD, addD, subD, mulD, modD, fdivD, powD, eqD, neD, ltD, leD, gtD, geD, isD, isnD, L2.M.isNon, negD, ixD, Bf.f, Bg.f, lenD, L2.M.intD, maxD, minD, repD, strD, gmaxD, gminD, sumD, sortD, anyD, allD, mCall, frz, fzO, lend, wb, mTup, mLst, fzs, cD, mAsg, bTup, bTps, mApp, tupD, lstD, mRev, revD, ofs_inj, ee_ii, ee_ss, ee_bb, ee_nn, ee_is, ee_si, ee_in, ee_ni, ee_tt, ee_ll, ee_maps, ee_0, ee_1, ee_2, ee_3, at_lit, at_nat, at_m1, at_m2, scD, emD, sizeLine_eq, ixN, sm_lit, mSrc, itemsD, plOf, rng1D, bNm, mSl, mPt, mNoP, slD, mPar, keepT, tmsO, setA, mFlow, zipX, enumX, itemsX, intsOf, ints_all, boolsOf, shaped_lay, lay_int, lay_bool, lay_none, lay_dict, lay_tup, lay_list, lay_ints, sortX_ints, mPlF, mPlI, mRd, mPU, mPB, mFSet, mFNew, mNSet, mPApp, mPSetIx, mPPop, mMeth, mNew, isIns, cellO, mLstN, mAddN, mAppN, semX, mTold, mCallX, xRet, xExpr, xSet, mRaise, mM, isL, isS, mOrV, truD, mDNew, mDIn, mDGet, mDLen, mDPut, kyD, mNNew, mN1, mTake, mFnV, mCallF, mNIn, mNGet, mNPut, mNVals, mNList, nKs, mDGetD, mDList, mNNe, *])
def sgT (g : Bool) : Str := if g then "a" else "k"
def on (z : Pz) (u : Int) (g : Bool) : Int := if g = true then pin z u else if z.r ≤ u then u - z.r else u
def unp (z : Pz) : Int → Int → List Bool → List Int
  | _, _, [] => []
  | i, u, g :: bs => (if g = false ∧ u < z.r then [i] else []) ++ unp z (i + 1) (on z u g) bs
abbrev en (z : Pz) (u : Int) (bs : List Bool) : Int := bs.foldl (on z) u
theorem unp_len (z : Pz) (bs : List Bool) (i u : Int) : (unp z i u bs).length ≤ bs.length := by
  induction bs generalizing i u with
  | nil => exact Nat.le_refl _
  | cons g bs ih =>
    have := ih (i + 1) (on z u g)
    rw [unp, List.length_append, List.length_cons]
    split <;> simp <;> omega
theorem unp_app (z : Pz) : ∀ (a b : List Bool) (i u : Int), unp z i u (a ++ b) = unp z i u a ++ unp z (i + a.length) (en z u a) b
  | [], b, i, u => by simp [unp]
  | g :: a, b, i, u => by
    rw [List.cons_append, unp, unp, unp_app z a b, List.append_assoc]
    have : i + 1 + (a.length : Int) = i + ((g :: a).length : Int) := by simp; omega
    rw [this]
    rfl
theorem unp_lt (z : Pz) : ∀ (a : List Bool) (i u : Int), ∀ x ∈ unp z i u a, i ≤ x ∧ x < i + a.length
  | [], i, u, x, hx => by cases hx
  | g :: a, i, u, x, hx => by
    rw [unp] at hx
    rw [List.length_cons]
    rcases List.mem_append.mp hx with hx | hx
    · split at hx
      · rw [List.mem_singleton.mp hx]
        omega
      · cases hx
    · have := unp_lt z a _ _ x hx
      omega
section
variable {z : Pz} (h : z.Ok)
include h
theorem on_b {u : Int} (b : 0 ≤ u ∧ u ≤ z.c) (g : Bool) : 0 ≤ on z u g ∧ on z u g ≤ z.c := by
  have := pin_b h b.1
  have := h.r0
  unfold on
  split
  · omega
  · split <;> omega
theorem en_b : ∀ (bs : List Bool) {u : Int}, 0 ≤ u ∧ u ≤ z.c → 0 ≤ en z u bs ∧ en z u bs ≤ z.c
  | [], _, b => b
  | g :: bs, _, b => en_b bs (on_b h b g)
end
end KW
namespace KW
open PySem PySem.Spec PyProof.Rows L2 L2.M
local macro_rules | `(tactic| walk_at "ev") => `(tactic| simp [semF, shared, after, mSeq, mSkip, mIf, mRet, mRetN, mRetV, mSet, mSetIx, mExpr, mB, mU, mTm, mPl, mK, mVar, mOp, mCons, mNil, bor, bors, mTst, mAndT, mOrT, mNotT, mAndE, mOrE, mNotE, mIfE, mIsi, isiD, mChn, chnL, cmpD, binD, addD, subD, mulD, modD, fdivD, powD, eqD, neD, ltD, leD, gtD, geD, isD, isnD, L2.M.isNon, negD, ixD, Bf.f, Bg.f, lenD, L2.M.intD, maxD, minD, repD, strD, gmaxD, gminD, sumD, sortD, anyD, allD, mCall, frz, fzO, lend, wb, mTup, mLst, fzs, cD, mAsg, bTup, bTps, mApp, tupD, lstD, mRev, revD, ofs_inj, ee_ii, ee_ss, ee_bb, ee_nn, ee_is, ee_si, ee_in, ee_ni, ee_tt, ee_ll, ee_maps, ee_0, ee_1, ee_2, ee_3, at_lit, at_nat, at_m1, at_m2, scD, emD, sizeLine_eq, ixN, sm_lit, mSrc, itemsD, plOf, rng1D, bNm, mSl, mPt, mNoP, slD, mPar, keepT, tmsO, setA, mFlow, zipX, enumX, itemsX, intsOf, ints_all, boolsOf, shaped_lay, lay_int, lay_bool, lay_none, lay_dict, lay_tup, lay_list, lay_ints, sortX_ints, mPlF, mPlI, mRd, mPU, mPB, mFSet, mFNew, mNSet, mPApp, mPSetIx, mPPop, mMeth, mNew, isIns, cellO, mLstN, mAddN, mAppN, semX, mTold, mCallX, xRet, xExpr, xSet, mRaise, mM, isL, isS, mOrV, truD])
local macro_rules | `(tactic| walk_at "es") => `(tactic| simp [semF, shared, after, mSeq, mSkip, mIf, mRet, mRetN, mRetV, mSet, mSetIx, mExpr, mB, mU, mTm, mPl, mK, mVar, mOp, mCons, mNil, bor, bors, mTst, mAndT, mOrT, mNotT, mAndE, mOrE, mNotE, mIfE, mIsi, isiD, mChn, chnL, cmpD, binD, addD, subD, mulD, modD, fdivD, powD, eqD, neD, ltD, leD, gtD, geD, isD, isnD, L2.M.isNon, negD, ixD, Bf.f, Bg.f, lenD, L2.M.intD, maxD, minD, repD, strD, gmaxD, gminD, sumD, sortD, anyD, allD, mCall, frz, fzO, lend, wb, mTup, mLst, fzs, cD, mAsg, bTup, bTps, mApp, tupD, lstD, mRev, revD, ofs_inj, ee_ii, ee_ss, ee_bb, ee_nn, ee_is, ee_si, ee_in, ee_ni, ee_tt, ee_ll, ee_maps, ee_0, ee_1, ee_2, ee_3, at_lit, at_nat, at_m1, at_m2, scD, emD, sizeLine_eq, ixN, sm_lit, mSrc, itemsD, plOf, rng1D, bNm, mSl, mPt, mNoP, slD, mPar, keepT, tmsO, setA, mFlow, zipX, enumX, itemsX, intsOf, ints_all, boolsOf, shaped_lay, lay_int, lay_bool, lay_none, lay_dict, lay_tup, lay_list, lay_ints, sortX_ints, mPlF, mPlI, mRd, mPU, mPB, mFSet, mFNew, mNSet, mPApp, mPSetIx, mPPop, mMeth, mNew, isIns, cellO, mLstN, mAddN, mAppN, semX, mTold, mCallX, xRet, xExpr, xSet, mRaise, mM, isL, isS, mOrV, truD, *])
local macro_rules | `(tactic| walk_at "el") => `(tactic| simp [semF, shared, after, mSeq, mSkip, mIf, mRet, mRetN, mRetV, mSet, mSetIx, mExpr, mB, mU, mTm, mPl, mK, mVar, mOp, mCons, mNil, bor, bors, mTst, mAndT, mOrT, mNotT, mAndE, mOrE, mNotE, mIfE, mIsi, isiD, mChn, chnL, cmpD, binD, addD, subD, mulD, modD, fdivD, powD, eqD, neD, ltD, leD, gtD, geD, isD, isnD, L2.M.isNon, negD, ixD, Bf.f, Bg.f, lenD, L2.M.intD, maxD, minD, repD, strD, gmaxD, gminD, sumD, sortD, anyD, allD, mCall, frz, fzO, lend, wb, mTup, mLst, fzs, cD, mAsg, bTup, bTps, mApp, tupD, lstD, mRev, revD, ofs_inj, ee_ii, ee_ss, ee_bb, ee_nn, ee_is, ee_si, ee_in, ee_ni, ee_tt, ee_ll, ee_maps, ee_0, ee_1, ee_2, ee_3, at_lit, at_nat, at_m1, at_m2, scD, emD, sizeLine_eq, ixN, sm_lit, mSrc, itemsD, plOf, rng1D, bNm, mSl, mPt, mNoP, slD, mPar, keepT, tmsO, setA, mFlow, zipX, enumX, itemsX, intsOf, ints_all, boolsOf, shaped_lay, lay_int, lay_bool, lay_none, lay_dict, lay_tup, lay_list, lay_ints, sortX_ints, mPlF, mPlI, mRd, mPU, mPB, mFSet, mFNew, mNSet, mPApp, mPSetIx, mPPop, mMeth, mNew, isIns, cellO, mLstN, mAddN, mAppN, semX, mTold, mCallX, xRet, xExpr, xSet, mRaise, mM, isL, isS, mOrV, truD, mLc, lcL, sameC, wipeC, restC, mYes, *])
local macro_rules | `(tactic| walk_at "ef") => `(tactic| simp [semF, shared, after, mSeq, mSkip, mIf, mRet, mRetN, mRetV, mSet, mSetIx, mExpr, mB, mU, mTm, mPl, mK, mVar, mOp, mCons, mNil, bor, bors, mTst, mAndT, mOrT, mNotT, mAndE, mOrE, mNotE, mIfE, mIsi, isiD, mChn, chnL, cmpD, binD, addD, subD, mulD, modD, fdivD, powD, eqD, neD, ltD, leD, gtD, geD, isD, isnD, L2.M.isNon, negD, ixD, Bf.f, Bg.f, lenD, L2.M.intD, maxD, minD, repD, strD, gmaxD, gminD, sumD, sortD, anyD, allD, mCall, frz, fzO, lend, wb, mTup, mLst, fzs, cD, mAsg, bTup, bTps, mApp, tupD, lstD, mRev, revD, ofs_inj, ee_ii, ee_ss, ee_bb, ee_nn, ee_is, ee_si, ee_in, ee_ni, ee_tt, ee_ll, ee_maps, ee_0, ee_1, ee_2, ee_3, at_lit, at_nat, at_m1, at_m2, scD, emD, sizeLine_eq, ixN, sm_lit, mSrc, itemsD, plOf, rng1D, bNm, mSl, mPt, mNoP, slD, mPar, keepT, tmsO, setA, mFlow, zipX, enumX, itemsX, intsOf, ints_all, boolsOf, shaped_lay, lay_int, lay_bool, lay_none, lay_dict, lay_tup, lay_list, lay_ints, sortX_ints, mPlF, mPlI, mRd, mPU, mPB, mFSet, mFNew, mNSet, mPApp, mPSetIx, mPPop, mMeth, mNew, isIns, cellO, mLstN, mAddN, mAppN, semX, mTold, mCallX, xRet, xExpr, xSet, mRaise, mM, isL, isS, mOrV, truD, mFor, forL, mLc, lcL, sameC, wipeC, restC, mYes, *])
local macro_rules | `(tactic| walk_at "rg") => `(tactic| (and_intros <;> grind))
local macro_rules | `(tactic| walk_at "nx") => `(tactic| (apply wx_nx; focus (walk_at "ev"; try first | exact ⟨rfl, rfl⟩ | rfl)))
local macro_rules | `(tactic| walk_at "ns") => `(tactic| (apply wx_nx; focus (walk_at "es"; try first | exact ⟨rfl, rfl⟩ | rfl)))
local macro_rules | `(tactic| walk_at "rt") => `(tactic| (apply wx_rt; focus (walk_at "ev"; try first | exact ⟨rfl, rfl⟩ | rfl)))
local macro_rules | `(tactic| walk_at "rs") => `(tactic| (apply wx_rt; focus (walk_at "es"; try first | exact ⟨rfl, rfl⟩ | rfl)))
local macro_rules | `(tactic| walk_at "ed") => `(tactic| simp [semF, shared, after, mSeq, mSkip, mIf, mRet, mRetN, mRetV, mSet, mSetIx, mExpr, mB, mU, mTm, mPl, mK, mVar, mOp, mCons, mNil, bor, bors, mTst, mAndT, mOrT, mNotT, mAndE, mOrE, mNotE, mIfE, mIsi, isiD, mChn, chnL, cmpD, binD, addD, subD, mulD, modD, fdivD, powD, eqD, neD, ltD, leD, gtD, geD, isD, isnD, L2.M.isNon, negD, ixD, Bf.f, Bg.f, lenD, L2.M.intD, maxD, minD, repD, strD, gmaxD, gminD, sumD, sortD, anyD, allD, mCall, frz, fzO, lend, wb, mTup, mLst, fzs, cD, mAsg, bTup, bTps, mApp, tupD, lstD, mRev, revD, ofs_inj, ee_ii, ee_ss, ee_bb, ee_nn, ee_is, ee_si, ee_in, ee_ni, ee_tt, ee_ll, ee_maps, ee_0, ee_1, ee_2, ee_3, at_lit, at_nat, at_m1, at_m2, scD, emD, sizeLine_eq, ixN, sm_lit, mSrc, itemsD, plOf, rng1D, bNm, mSl, mPt, mNoP, slD, mPar, keepT, tmsO, setA, mFlow, zipX, enumX, itemsX, intsOf, ints_all, boolsOf, shaped_lay, lay_int, lay_bool, lay_none, lay_dict, lay_tup, lay_list, lay_ints, sortX_ints, mPlF, mPlI, mRd, mPU, mPB, mFSet, mFNew, mNSet, mPApp, mPSetIx, mPPop, mMeth, mNew, isIns, cellO, mLstN, mAddN, mAppN, semX, mTold, mCallX, xRet, xExpr, xSet, mRaise, mM, isL, isS, mOrV, truD, mDNew, mDIn, mDGet, mDLen, mDPut, kyD, mNNew, mN1, mTake, mFnV, mCallF, mNIn, mNGet, mNPut, mNVals, mNList, nKs, mDGetD, mDList, mNNe, *])
structure Bn where
  (q1 q2 : Int) (w : List Bool) (v : PyData)
abbrev kP (a b : Int) : PyData := .tuple [.int a, .int b]
def kQ (a b : Int) : NestedKey := .tup [.num a, .num b]
theorem nKey_p (a b : Int) : nKey (kP a b) = some (kQ a b) := by
  unfold kQ
  simp [nKey, nKeys]
theorem okKey_p (a b : Int) : okKey (kP a b) = some (kQ a b) := by
  have e : okKey (kP a b) = (nKey (kP a b)).bind fun n => if n.depth ≤ 8 then some n else none := rfl
  rw [e, nKey_p, Option.bind_some, if_pos]
  unfold kQ
  simp [NestedKey.depth, NestedKey.depthAll]
theorem kQ_inj {a b c d : Int} (h : kQ a b = kQ c d) : a = c ∧ b = d := by
  unfold kQ at h
  injection h with h
  injection h with h1 h2
  injection h1 with h1
  injection h2 with h2 _
  injection h2 with h2
  exact ⟨h1, h2⟩
def bKs (F : List Bn) : List PyData := F.map fun e => kP e.q1 e.q2
def bCs (F : List Bn) : List C := F.map fun e => .sh e.v
abbrev bC (F : List Bn) : C := .ob (.dn (bKs F)) (bCs F)
def bIx (F : List Bn) (a b : Int) : Option Nat := F.findIdx? fun e => decide (e.q1 = a ∧ e.q2 = b)
theorem idx_b (F : List Bn) (a b : Int) : idxN (bKs F) (kQ a b) = bIx F a b := by
  unfold idxN bKs bIx
  rw [List.findIdx?_map]
  congr 1
  funext r
  show decide (nKey (kP r.q1 r.q2) = some (kQ a b)) = _
  rw [nKey_p]
  by_cases c : r.q1 = a ∧ r.q2 = b
  · obtain ⟨rfl, rfl⟩ := c
    simp
  · have : ¬ kQ r.q1 r.q2 = kQ a b := fun e => c (kQ_inj e)
    simp only [Option.some.injEq, this, c, decide_false]
abbrev bK (e : Bn) : Int × Int := (e.q1, e.q2)
theorem bIx_none {F : List Bn} {a b : Int} (h : bIx F a b = none) : (a, b) ∉ F.map bK := by
  intro hm
  obtain ⟨e, he, q⟩ := List.mem_map.mp hm
  have := List.findIdx?_eq_none_iff.mp h e he
  have h1 := congrArg Prod.fst q
  have h2 := congrArg Prod.snd q
  simp only at h1 h2
  simp [h1, h2] at this
theorem bIx_at {F : List Bn} (hn : (F.map bK).Nodup) {j : Nat} {e : Bn} (h : F[j]? = some e) : bIx F e.q1 e.q2 = some j := by
  obtain ⟨hj, rfl⟩ := List.getElem?_eq_some_iff.mp h
  cases hi : bIx F F[j].q1 F[j].q2 with
  | none => exact absurd (List.mem_map.mpr ⟨F[j], List.getElem_mem hj, rfl⟩) (bIx_none hi)
  | some k =>
    obtain ⟨h1, h2, _⟩ := List.findIdx?_eq_some_iff_getElem.mp hi
    have h2 := of_decide_eq_true h2
    have h3 : (F.map bK)[k]? = some (bK F[j]) := by
      rw [List.getElem?_map, List.getElem?_eq_getElem h1]
      show some (_, _) = some (_, _)
      rw [h2.1, h2.2]
    have h4 : (F.map bK)[j]? = some (bK F[j]) := by rw [List.getElem?_map, h]; rfl
    have := (List.getElem?_inj (by rw [List.length_map]; exact hj) hn).mp (h4.trans h3.symm)
    rw [this]
def addB (F : List Bn) (e : Bn) : List Bn := match bIx F e.q1 e.q2 with
  | none => F ++ [e]
  | some _ => F
def kid (z y : Pz) (e : Bn) (g : Bool) : Bn := ⟨on z e.q1 g, on y e.q2 g, e.w ++ [g], .tuple [kP e.q1 e.q2, .str (sgT g)]⟩
def stepB (z y : Pz) (F : List Bn) (e : Bn) : List Bn := addB (addB F (kid z y e true)) (kid z y e false)
def misB (z y : Pz) (e : Bn) : Bool := decide (z.r ≤ e.q1) != decide (y.r ≤ e.q2)
structure BInv (z y : Pz) (F : List Bn) : Prop where
  nd : (F.map bK).Nodup
  st : F[0]? = some ⟨z.f, y.f, [], .none⟩
  en : ∀ e ∈ F, e.q1 = en z z.f e.w ∧ e.q2 = en y y.f e.w
  par : ∀ i e, F[i + 1]? = some e → ∃ (j : Nat) (e' : Bn) (g : Bool), j ≤ i ∧ F[j]? = some e' ∧ e.w = e'.w ++ [g] ∧ e.v = .tuple [kP e'.q1 e'.q2, .str (sgT g)]
def bSt (z y : Pz) : Bn := ⟨z.f, y.f, [], .none⟩
theorem binv0 (z y : Pz) : BInv z y [bSt z y] := by
  refine ⟨by simp, rfl, ?_, fun i e h => by simp at h⟩
  intro e he
  rw [List.mem_singleton.mp he]
  exact ⟨rfl, rfl⟩
theorem addB_get {F : List Bn} {e x : Bn} {j : Nat} (h : F[j]? = some x) : (addB F e)[j]? = some x := by
  unfold addB
  split
  · rw [List.getElem?_append_left (List.getElem?_eq_some_iff.mp h).1]
    exact h
  · exact h
theorem addB_inv {z y : Pz} {F : List Bn} (k : BInv z y F) {t : Nat} {e : Bn} (he : F[t]? = some e) (g : Bool) : BInv z y (addB F (kid z y e g)) := by
  unfold addB
  split
  · rename_i q
    have hF := (List.getElem?_eq_some_iff.mp k.st).1
    have hee := k.en e (List.mem_of_getElem? he)
    refine ⟨?_, ?_, ?_, ?_⟩
    · rw [List.map_append, List.nodup_append]
      refine ⟨k.nd, by simp, fun a ha b hb z => bIx_none q ?_⟩
      have hb := List.mem_singleton.mp hb
      rw [z, hb] at ha
      exact ha
    · rw [List.getElem?_append_left hF]
      exact k.st
    · intro x hx
      rcases List.mem_append.mp hx with hx | hx
      · exact k.en x hx
      · rw [List.mem_singleton.mp hx]
        have h1 : ∀ (p : Pz) (u : Int), KW.en p u (e.w ++ [g]) = on p (KW.en p u e.w) g := fun p u => by
          show List.foldl _ _ _ = _
          rw [List.foldl_append]
          rfl
        show on z e.q1 g = KW.en z z.f (e.w ++ [g]) ∧ on y e.q2 g = KW.en y y.f (e.w ++ [g])
        rw [h1, h1, ← hee.1, ← hee.2]
        exact ⟨rfl, rfl⟩
    · intro i x hx
      by_cases hi : i + 1 < F.length
      · rw [List.getElem?_append_left hi] at hx
        obtain ⟨j, e', g', h1, h2, h3⟩ := k.par i x hx
        exact ⟨j, e', g', h1, by rw [List.getElem?_append_left (List.getElem?_eq_some_iff.mp h2).1]; exact h2, h3⟩
      · rw [List.getElem?_append_right (by omega)] at hx
        have hl := (List.getElem?_eq_some_iff.mp hx).1
        have hil : i + 1 = F.length := by simp at hl; omega
        rw [hil, Nat.sub_self] at hx
        have hx := Option.some.inj hx
        have ht := (List.getElem?_eq_some_iff.mp he).1
        exact ⟨t, e, g, by omega, by rw [List.getElem?_append_left ht]; exact he, by rw [← hx]; rfl, by rw [← hx]; rfl⟩
  · exact k
theorem stepB_inv {z y : Pz} {F : List Bn} (k : BInv z y F) {t : Nat} {e : Bn} (he : F[t]? = some e) : BInv z y (stepB z y F e) := addB_inv (addB_inv k he true) (addB_get he) false
theorem bw_len {z y : Pz} {F : List Bn} (k : BInv z y F) : ∀ (i : Nat) (e : Bn), F[i]? = some e → e.w.length ≤ i := by
  intro i
  induction i using Nat.strongRecOn with
  | ind i ih =>
    intro e he
    cases i with
    | zero =>
      rw [k.st] at he
      cases he
      exact Nat.le_refl _
    | succ i =>
      obtain ⟨j, e', g, h1, h2, h3, _⟩ := k.par i e he
      have := ih j (by omega) e' h2
      rw [h3, List.length_append, List.length_singleton]
      omega
theorem b_len {z y : Pz} (hz : z.Ok) (hy : y.Ok) (cz : z.c ≤ 60) (cy : y.c ≤ 60) {F : List Bn} (k : BInv z y F) : F.length ≤ 3721 := by
  have hb : ∀ e ∈ F, (0 ≤ e.q1 ∧ e.q1 ≤ z.c) ∧ (0 ≤ e.q2 ∧ e.q2 ≤ y.c) := by
    intro e he
    have h := k.en e he
    rw [h.1, h.2]
    exact ⟨en_b hz _ ⟨hz.f0, hz.f1⟩, en_b hy _ ⟨hy.f0, hy.f1⟩⟩
  have h1 := keys_len (β := Unit) (E := F.map fun e => (e.q1 * 61 + e.q2, ())) (n := 3721) (by
    rw [List.map_map]
    have nd := k.nd
    rw [List.Nodup, List.pairwise_map] at nd ⊢
    refine nd.imp_of_mem fun {a b} ha hb' hne q => hne ?_
    have h1 := hb a ha
    have h2 := hb b hb'
    have q : a.q1 * 61 + a.q2 = b.q1 * 61 + b.q2 := q
    have e1 : a.q1 = b.q1 := by omega
    have e2 : a.q2 = b.q2 := by omega
    show (_, _) = (_, _)
    rw [e1, e2]) (by
    intro x hx
    obtain ⟨e, he, rfl⟩ := List.mem_map.mp hx
    have := hb e he
    dsimp only
    omega)
  rwa [List.length_map] at h1
end KW
namespace KW
open PySem PySem.Spec PyProof.Rows L2 L2.M
local macro_rules | `(tactic| walk_at "ev") => `(tactic| simp [semF, shared, after, mSeq, mSkip, mIf, mRet, mRetN, mRetV, mSet, mSetIx, mExpr, mB, mU, mTm, mPl, mK, mVar, mOp, mCons, mNil, bor, bors, mTst, mAndT, mOrT, mNotT, mAndE, mOrE, mNotE, mIfE, mIsi, isiD, mChn, chnL, cmpD, binD, addD, subD, mulD, modD, fdivD, powD, eqD, neD, ltD, leD, gtD, geD, isD, isnD, L2.M.isNon, negD, ixD, Bf.f, Bg.f, lenD, L2.M.intD, maxD, minD, repD, strD, gmaxD, gminD, sumD, sortD, anyD, allD, mCall, frz, fzO, lend, wb, mTup, mLst, fzs, cD, mAsg, bTup, bTps, mApp, tupD, lstD, mRev, revD, ofs_inj, ee_ii, ee_ss, ee_bb, ee_nn, ee_is, ee_si, ee_in, ee_ni, ee_tt, ee_ll, ee_maps, ee_0, ee_1, ee_2, ee_3, at_lit, at_nat, at_m1, at_m2, scD, emD, sizeLine_eq, ixN, sm_lit, mSrc, itemsD, plOf, rng1D, bNm, mSl, mPt, mNoP, slD, mPar, keepT, tmsO, setA, mFlow, zipX, enumX, itemsX, intsOf, ints_all, boolsOf, shaped_lay, lay_int, lay_bool, lay_none, lay_dict, lay_tup, lay_list, lay_ints, sortX_ints, mPlF, mPlI, mRd, mPU, mPB, mFSet, mFNew, mNSet, mPApp, mPSetIx, mPPop, mMeth, mNew, isIns, cellO, mLstN, mAddN, mAppN, semX, mTold, mCallX, xRet, xExpr, xSet, mRaise, mM, isL, isS, mOrV, truD])
local macro_rules | `(tactic| walk_at "es") => `(tactic| simp [semF, shared, after, mSeq, mSkip, mIf, mRet, mRetN, mRetV, mSet, mSetIx, mExpr, mB, mU, mTm, mPl, mK, mVar, mOp, mCons, mNil, bor, bors, mTst, mAndT, mOrT, mNotT, mAndE, mOrE, mNotE, mIfE, mIsi, isiD, mChn, chnL, cmpD, binD, addD, subD, mulD, modD, fdivD, powD, eqD, neD, ltD, leD, gtD, geD, isD, isnD, L2.M.isNon, negD, ixD, Bf.f, Bg.f, lenD, L2.M.intD, maxD, minD, repD, strD, gmaxD, gminD, sumD, sortD, anyD, allD, mCall, frz, fzO, lend, wb, mTup, mLst, fzs, cD, mAsg, bTup, bTps, mApp, tupD, lstD, mRev, revD, ofs_inj, ee_ii, ee_ss, ee_bb, ee_nn, ee_is, ee_si, ee_in, ee_ni, ee_tt, ee_ll, ee_maps, ee_0, ee_1, ee_2, ee_3, at_lit, at_nat, at_m1, at_m2, scD, emD, sizeLine_eq, ixN, sm_lit, mSrc, itemsD, plOf, rng1D, bNm, mSl, mPt, mNoP, slD, mPar, keepT, tmsO, setA, mFlow, zipX, enumX, itemsX, intsOf, ints_all, boolsOf, shaped_lay, lay_int, lay_bool, lay_none, lay_dict, lay_tup, lay_list, lay_ints, sortX_ints, mPlF, mPlI, mRd, mPU, mPB, mFSet, mFNew, mNSet, mPApp, mPSetIx, mPPop, mMeth, mNew, isIns, cellO, mLstN, mAddN, mAppN, semX, mTold, mCallX, xRet, xExpr, xSet, mRaise, mM, isL, isS, mOrV, truD, *])
local macro_rules | `(tactic| walk_at "el") => `(tactic| simp [semF, shared, after, mSeq, mSkip, mIf, mRet, mRetN, mRetV, mSet, mSetIx, mExpr, mB, mU, mTm, mPl, mK, mVar, mOp, mCons, mNil, bor, bors, mTst, mAndT, mOrT, mNotT, mAndE, mOrE, mNotE, mIfE, mIsi, isiD, mChn, chnL, cmpD, binD, addD, subD, mulD, modD, fdivD, powD, eqD, neD, ltD, leD, gtD, geD, isD, isnD, L2.M.isNon, negD, ixD, Bf.f, Bg.f, lenD, L2.M.intD, maxD, minD, repD, strD, gmaxD, gminD, sumD, sortD, anyD, allD, mCall, frz, fzO, lend, wb, mTup, mLst, fzs, cD, mAsg, bTup, bTps, mApp, tupD, lstD, mRev, revD, ofs_inj, ee_ii, ee_ss, ee_bb, ee_nn, ee_is, ee_si, ee_in, ee_ni, ee_tt, ee_ll, ee_maps, ee_0, ee_1, ee_2, ee_3, at_lit, at_nat, at_m1, at_m2, scD, emD, sizeLine_eq, ixN, sm_lit, mSrc, itemsD, plOf, rng1D, bNm, mSl, mPt, mNoP, slD, mPar, keepT, tmsO, setA, mFlow, zipX, enumX, itemsX, intsOf, ints_all, boolsOf, shaped_lay, lay_int, lay_bool, lay_none, lay_dict, lay_tup, lay_list, lay_ints, sortX_ints, mPlF, mPlI, mRd, mPU, mPB, mFSet, mFNew, mNSet, mPApp, mPSetIx, mPPop, mMeth, mNew, isIns, cellO, mLstN, mAddN, mAppN, semX, mTold, mCallX, xRet, xExpr, xSet, mRaise, mM, isL, isS, mOrV, truD, mLc, lcL, sameC, wipeC, restC, mYes, *])
local macro_rules | `(tactic| walk_at "ef") => `(tactic| simp [semF, shared, after, mSeq, mSkip, mIf, mRet, mRetN, mRetV, mSet, mSetIx, mExpr, mB, mU, mTm, mPl, mK, mVar, mOp, mCons, mNil, bor, bors, mTst, mAndT, mOrT, mNotT, mAndE, mOrE, mNotE, mIfE, mIsi, isiD, mChn, chnL, cmpD, binD, addD, subD, mulD, modD, fdivD, powD, eqD, neD, ltD, leD, gtD, geD, isD, isnD, L2.M.isNon, negD, ixD, Bf.f, Bg.f, lenD, L2.M.intD, maxD, minD, repD, strD, gmaxD, gminD, sumD, sortD, anyD, allD, mCall, frz, fzO, lend, wb, mTup, mLst, fzs, cD, mAsg, bTup, bTps, mApp, tupD, lstD, mRev, revD, ofs_inj, ee_ii, ee_ss, ee_bb, ee_nn, ee_is, ee_si, ee_in, ee_ni, ee_tt, ee_ll, ee_maps, ee_0, ee_1, ee_2, ee_3, at_lit, at_nat, at_m1, at_m2, scD, emD, sizeLine_eq, ixN, sm_lit, mSrc, itemsD, plOf, rng1D, bNm, mSl, mPt, mNoP, slD, mPar, keepT, tmsO, setA, mFlow, zipX, enumX, itemsX, intsOf, ints_all, boolsOf, shaped_lay, lay_int, lay_bool, lay_none, lay_dict, lay_tup, lay_list, lay_ints, sortX_ints, mPlF, mPlI, mRd, mPU, mPB, mFSet, mFNew, mNSet, mPApp, mPSetIx, mPPop, mMeth, mNew, isIns, cellO, mLstN, mAddN, mAppN, semX, mTold, mCallX, xRet, xExpr, xSet, mRaise, mM, isL, isS, mOrV, truD, mFor, forL, mLc, lcL, sameC, wipeC, restC, mYes, *])
local macro_rules | `(tactic| walk_at "rg") => `(tactic| (and_intros <;> grind))
local macro_rules | `(tactic| walk_at "nx") => `(tactic| (apply wx_nx; focus (walk_at "ev"; try first | exact ⟨rfl, rfl⟩ | rfl)))
local macro_rules | `(tactic| walk_at "ns") => `(tactic| (apply wx_nx; focus (walk_at "es"; try first | exact ⟨rfl, rfl⟩ | rfl)))
local macro_rules | `(tactic| walk_at "rt") => `(tactic| (apply wx_rt; focus (walk_at "ev"; try first | exact ⟨rfl, rfl⟩ | rfl)))
local macro_rules | `(tactic| walk_at "rs") => `(tactic| (apply wx_rt; focus (walk_at "es"; try first | exact ⟨rfl, rfl⟩ | rfl)))
local macro_rules | `(tactic| walk_at "ed") => `(tactic| simp [semF, shared, after, mSeq, mSkip, mIf, mRet, mRetN, mRetV, mSet, mSetIx, mExpr, mB, mU, mTm, mPl, mK, mVar, mOp, mCons, mNil, bor, bors, mTst, mAndT, mOrT, mNotT, mAndE, mOrE, mNotE, mIfE, mIsi, isiD, mChn, chnL, cmpD, binD, addD, subD, mulD, modD, fdivD, powD, eqD, neD, ltD, leD, gtD, geD, isD, isnD, L2.M.isNon, negD, ixD, Bf.f, Bg.f, lenD, L2.M.intD, maxD, minD, repD, strD, gmaxD, gminD, sumD, sortD, anyD, allD, mCall, frz, fzO, lend, wb, mTup, mLst, fzs, cD, mAsg, bTup, bTps, mApp, tupD, lstD, mRev, revD, ofs_inj, ee_ii, ee_ss, ee_bb, ee_nn, ee_is, ee_si, ee_in, ee_ni, ee_tt, ee_ll, ee_maps, ee_0, ee_1, ee_2, ee_3, at_lit, at_nat, at_m1, at_m2, scD, emD, sizeLine_eq, ixN, sm_lit, mSrc, itemsD, plOf, rng1D, bNm, mSl, mPt, mNoP, slD, mPar, keepT, tmsO, setA, mFlow, zipX, enumX, itemsX, intsOf, ints_all, boolsOf, shaped_lay, lay_int, lay_bool, lay_none, lay_dict, lay_tup, lay_list, lay_ints, sortX_ints, mPlF, mPlI, mRd, mPU, mPB, mFSet, mFNew, mNSet, mPApp, mPSetIx, mPPop, mMeth, mNew, isIns, cellO, mLstN, mAddN, mAppN, semX, mTold, mCallX, xRet, xExpr, xSet, mRaise, mM, isL, isS, mOrV, truD, mDNew, mDIn, mDGet, mDLen, mDPut, kyD, mNNew, mN1, mTake, mFnV, mCallF, mNIn, mNGet, mNPut, mNVals, mNList, nKs, mDGetD, mDList, mNNe, *])
abbrev cpsL (z : Str) : List Nat := z.cps.toList
theorem len_cps (z : Str) : (cpsL z).length = z.length := Array.length_toList
theorem str_ext {x y : Str} (h : cpsL x = cpsL y) : x = y := cps_inj h
theorem cps_app (x y : Str) : cpsL (x ++ y) = cpsL x ++ cpsL y := cps_toList_append x y
theorem strOk_iff {z : Str} : PyData.strOk z = true ↔ ∀ c ∈ cpsL z, c < 1114112 := by
  unfold PyData.strOk
  rw [Array.all_eq_true_iff_forall_mem]
  simp only [Array.mem_def, decide_eq_true_eq]
structure Tx (B : Nat) (z : Str) : Prop where
  ok : ∀ c ∈ cpsL z, c < 1114112
  len : z.length ≤ B
theorem Tx.mono {A B : Nat} {z : Str} (h : Tx A z) (hb : A ≤ B) : Tx B z := ⟨h.ok, Nat.le_trans h.len hb⟩
theorem Tx.strOk {B : Nat} {z : Str} (h : Tx B z) : PyData.strOk z = true := strOk_iff.mpr h.ok
theorem tx_lit {z : Str} {B : Nat} (h : (PyData.strOk z && decide (z.length ≤ B)) = true) : Tx B z := by
  rw [Bool.and_eq_true, decide_eq_true_eq] at h
  exact ⟨strOk_iff.mp h.1, h.2⟩
theorem tx_app {A B : Nat} {x y : Str} (h : Tx A x) (k : Tx B y) : Tx (A + B) (x ++ y) := by
  refine ⟨fun c hc => ?_, ?_⟩
  · rw [cps_app] at hc
    rcases List.mem_append.mp hc with hc | hc
    · exact h.ok c hc
    · exact k.ok c hc
  · rw [strLen_append]
    have := h.len; have := k.len
    omega
theorem tx_cut {B : Nat} {z : Str} (h : Tx B z) (lo hi : Option Int) : Tx B (cutS z lo hi) := by
  have e : cpsL (cutS z lo hi) = ((cpsL z).drop (HT.sIx z.length 0 lo)).take (HT.sIx z.length z.length hi - HT.sIx z.length 0 lo) := rfl
  refine ⟨fun c hc => h.ok c ?_, ?_⟩
  · rw [e] at hc
    exact List.mem_of_mem_drop (List.mem_of_mem_take hc)
  · rw [← len_cps, e, List.length_take, List.length_drop, len_cps]
    have := h.len
    omega
theorem join_eq (b : Str) (ps : List Str) : Txt.join b ps = Str.join b ps := StrLaws.glued_eq_join b ps
theorem chars_items (z : Str) : itemsD [.str z] = some ((cpsL z).map fun c => PyData.str ⟨#[c]⟩) := rfl
end KW
namespace KW
open PySem PySem.Spec PyProof.Rows L2 L2.M
local macro_rules | `(tactic| walk_at "ev") => `(tactic| simp [semF, shared, after, mSeq, mSkip, mIf, mRet, mRetN, mRetV, mSet, mSetIx, mExpr, mB, mU, mTm, mPl, mK, mVar, mOp, mCons, mNil, bor, bors, mTst, mAndT, mOrT, mNotT, mAndE, mOrE, mNotE, mIfE, mIsi, isiD, mChn, chnL, cmpD, binD, addD, subD, mulD, modD, fdivD, powD, eqD, neD, ltD, leD, gtD, geD, isD, isnD, L2.M.isNon, negD, ixD, Bf.f, Bg.f, lenD, L2.M.intD, maxD, minD, repD, strD, gmaxD, gminD, sumD, sortD, anyD, allD, mCall, frz, fzO, lend, wb, mTup, mLst, fzs, cD, mAsg, bTup, bTps, mApp, tupD, lstD, mRev, revD, ofs_inj, ee_ii, ee_ss, ee_bb, ee_nn, ee_is, ee_si, ee_in, ee_ni, ee_tt, ee_ll, ee_maps, ee_0, ee_1, ee_2, ee_3, at_lit, at_nat, at_m1, at_m2, scD, emD, sizeLine_eq, ixN, sm_lit, mSrc, itemsD, plOf, rng1D, bNm, mSl, mPt, mNoP, slD, mPar, keepT, tmsO, setA, mFlow, zipX, enumX, itemsX, intsOf, ints_all, boolsOf, shaped_lay, lay_int, lay_bool, lay_none, lay_dict, lay_tup, lay_list, lay_ints, sortX_ints, mPlF, mPlI, mRd, mPU, mPB, mFSet, mFNew, mNSet, mPApp, mPSetIx, mPPop, mMeth, mNew, isIns, cellO, mLstN, mAddN, mAppN, semX, mTold, mCallX, xRet, xExpr, xSet, mRaise, mM, isL, isS, mOrV, truD])
local macro_rules | `(tactic| walk_at "es") => `(tactic| simp [semF, shared, after, mSeq, mSkip, mIf, mRet, mRetN, mRetV, mSet, mSetIx, mExpr, mB, mU, mTm, mPl, mK, mVar, mOp, mCons, mNil, bor, bors, mTst, mAndT, mOrT, mNotT, mAndE, mOrE, mNotE, mIfE, mIsi, isiD, mChn, chnL, cmpD, binD, addD, subD, mulD, modD, fdivD, powD, eqD, neD, ltD, leD, gtD, geD, isD, isnD, L2.M.isNon, negD, ixD, Bf.f, Bg.f, lenD, L2.M.intD, maxD, minD, repD, strD, gmaxD, gminD, sumD, sortD, anyD, allD, mCall, frz, fzO, lend, wb, mTup, mLst, fzs, cD, mAsg, bTup, bTps, mApp, tupD, lstD, mRev, revD, ofs_inj, ee_ii, ee_ss, ee_bb, ee_nn, ee_is, ee_si, ee_in, ee_ni, ee_tt, ee_ll, ee_maps, ee_0, ee_1, ee_2, ee_3, at_lit, at_nat, at_m1, at_m2, scD, emD, sizeLine_eq, ixN, sm_lit, mSrc, itemsD, plOf, rng1D, bNm, mSl, mPt, mNoP, slD, mPar, keepT, tmsO, setA, mFlow, zipX, enumX, itemsX, intsOf, ints_all, boolsOf, shaped_lay, lay_int, lay_bool, lay_none, lay_dict, lay_tup, lay_list, lay_ints, sortX_ints, mPlF, mPlI, mRd, mPU, mPB, mFSet, mFNew, mNSet, mPApp, mPSetIx, mPPop, mMeth, mNew, isIns, cellO, mLstN, mAddN, mAppN, semX, mTold, mCallX, xRet, xExpr, xSet, mRaise, mM, isL, isS, mOrV, truD, *])
local macro_rules | `(tactic| walk_at "el") => `(tactic| simp [semF, shared, after, mSeq, mSkip, mIf, mRet, mRetN, mRetV, mSet, mSetIx, mExpr, mB, mU, mTm, mPl, mK, mVar, mOp, mCons, mNil, bor, bors, mTst, mAndT, mOrT, mNotT, mAndE, mOrE, mNotE, mIfE, mIsi, isiD, mChn, chnL, cmpD, binD, addD, subD, mulD, modD, fdivD, powD, eqD, neD, ltD, leD, gtD, geD, isD, isnD, L2.M.isNon, negD, ixD, Bf.f, Bg.f, lenD, L2.M.intD, maxD, minD, repD, strD, gmaxD, gminD, sumD, sortD, anyD, allD, mCall, frz, fzO, lend, wb, mTup, mLst, fzs, cD, mAsg, bTup, bTps, mApp, tupD, lstD, mRev, revD, ofs_inj, ee_ii, ee_ss, ee_bb, ee_nn, ee_is, ee_si, ee_in, ee_ni, ee_tt, ee_ll, ee_maps, ee_0, ee_1, ee_2, ee_3, at_lit, at_nat, at_m1, at_m2, scD, emD, sizeLine_eq, ixN, sm_lit, mSrc, itemsD, plOf, rng1D, bNm, mSl, mPt, mNoP, slD, mPar, keepT, tmsO, setA, mFlow, zipX, enumX, itemsX, intsOf, ints_all, boolsOf, shaped_lay, lay_int, lay_bool, lay_none, lay_dict, lay_tup, lay_list, lay_ints, sortX_ints, mPlF, mPlI, mRd, mPU, mPB, mFSet, mFNew, mNSet, mPApp, mPSetIx, mPPop, mMeth, mNew, isIns, cellO, mLstN, mAddN, mAppN, semX, mTold, mCallX, xRet, xExpr, xSet, mRaise, mM, isL, isS, mOrV, truD, mLc, lcL, sameC, wipeC, restC, mYes, *])
local macro_rules | `(tactic| walk_at "ef") => `(tactic| simp [semF, shared, after, mSeq, mSkip, mIf, mRet, mRetN, mRetV, mSet, mSetIx, mExpr, mB, mU, mTm, mPl, mK, mVar, mOp, mCons, mNil, bor, bors, mTst, mAndT, mOrT, mNotT, mAndE, mOrE, mNotE, mIfE, mIsi, isiD, mChn, chnL, cmpD, binD, addD, subD, mulD, modD, fdivD, powD, eqD, neD, ltD, leD, gtD, geD, isD, isnD, L2.M.isNon, negD, ixD, Bf.f, Bg.f, lenD, L2.M.intD, maxD, minD, repD, strD, gmaxD, gminD, sumD, sortD, anyD, allD, mCall, frz, fzO, lend, wb, mTup, mLst, fzs, cD, mAsg, bTup, bTps, mApp, tupD, lstD, mRev, revD, ofs_inj, ee_ii, ee_ss, ee_bb, ee_nn, ee_is, ee_si, ee_in, ee_ni, ee_tt, ee_ll, ee_maps, ee_0, ee_1, ee_2, ee_3, at_lit, at_nat, at_m1, at_m2, scD, emD, sizeLine_eq, ixN, sm_lit, mSrc, itemsD, plOf, rng1D, bNm, mSl, mPt, mNoP, slD, mPar, keepT, tmsO, setA, mFlow, zipX, enumX, itemsX, intsOf, ints_all, boolsOf, shaped_lay, lay_int, lay_bool, lay_none, lay_dict, lay_tup, lay_list, lay_ints, sortX_ints, mPlF, mPlI, mRd, mPU, mPB, mFSet, mFNew, mNSet, mPApp, mPSetIx, mPPop, mMeth, mNew, isIns, cellO, mLstN, mAddN, mAppN, semX, mTold, mCallX, xRet, xExpr, xSet, mRaise, mM, isL, isS, mOrV, truD, mFor, forL, mLc, lcL, sameC, wipeC, restC, mYes, *])
local macro_rules | `(tactic| walk_at "rg") => `(tactic| (and_intros <;> grind))
local macro_rules | `(tactic| walk_at "nx") => `(tactic| (apply wx_nx; focus (walk_at "ev"; try first | exact ⟨rfl, rfl⟩ | rfl)))
local macro_rules | `(tactic| walk_at "ns") => `(tactic| (apply wx_nx; focus (walk_at "es"; try first | exact ⟨rfl, rfl⟩ | rfl)))
local macro_rules | `(tactic| walk_at "rt") => `(tactic| (apply wx_rt; focus (walk_at "ev"; try first | exact ⟨rfl, rfl⟩ | rfl)))
local macro_rules | `(tactic| walk_at "rs") => `(tactic| (apply wx_rt; focus (walk_at "es"; try first | exact ⟨rfl, rfl⟩ | rfl)))
local macro_rules | `(tactic| walk_at "ed") => `(tactic| simp [semF, shared, after, mSeq, mSkip, mIf, mRet, mRetN, mRetV, mSet, mSetIx, mExpr, mB, mU, mTm, mPl, mK, mVar, mOp, mCons, mNil, bor, bors, mTst, mAndT, mOrT, mNotT, mAndE, mOrE, mNotE, mIfE, mIsi, isiD, mChn, chnL, cmpD, binD, addD, subD, mulD, modD, fdivD, powD, eqD, neD, ltD, leD, gtD, geD, isD, isnD, L2.M.isNon, negD, ixD, Bf.f, Bg.f, lenD, L2.M.intD, maxD, minD, repD, strD, gmaxD, gminD, sumD, sortD, anyD, allD, mCall, frz, fzO, lend, wb, mTup, mLst, fzs, cD, mAsg, bTup, bTps, mApp, tupD, lstD, mRev, revD, ofs_inj, ee_ii, ee_ss, ee_bb, ee_nn, ee_is, ee_si, ee_in, ee_ni, ee_tt, ee_ll, ee_maps, ee_0, ee_1, ee_2, ee_3, at_lit, at_nat, at_m1, at_m2, scD, emD, sizeLine_eq, ixN, sm_lit, mSrc, itemsD, plOf, rng1D, bNm, mSl, mPt, mNoP, slD, mPar, keepT, tmsO, setA, mFlow, zipX, enumX, itemsX, intsOf, ints_all, boolsOf, shaped_lay, lay_int, lay_bool, lay_none, lay_dict, lay_tup, lay_list, lay_ints, sortX_ints, mPlF, mPlI, mRd, mPU, mPB, mFSet, mFNew, mNSet, mPApp, mPSetIx, mPPop, mMeth, mNew, isIns, cellO, mLstN, mAddN, mAppN, semX, mTold, mCallX, xRet, xExpr, xSet, mRaise, mM, isL, isS, mOrV, truD, mDNew, mDIn, mDGet, mDLen, mDPut, kyD, mNNew, mN1, mTake, mFnV, mCallF, mNIn, mNGet, mNPut, mNVals, mNList, nKs, mDGetD, mDList, mNNe, *])
structure Tr where
  (a b : Int) (w : List Bool)
def tIx (F : List Tr) (a b : Int) : Bool := F.any fun e => decide (e.a = a ∧ e.b = b)
def addT (F : List Tr) (e : Tr) : List Tr := if tIx F e.a e.b = true then F else F ++ [e]
def kidT (z y : Pz) (e : Tr) (g : Bool) : Tr := ⟨on z e.a g, on y e.b g, e.w ++ [g]⟩
def stepT (z y : Pz) (F : List Tr) (e : Tr) : List Tr := addT (addT F (kidT z y e true)) (kidT z y e false)
def levT (z y : Pz) (F L : List Tr) : List Tr := L.foldl (stepT z y) F
def misT (z y : Pz) (e : Tr) : Bool := decide (z.r ≤ e.a) != decide (y.r ≤ e.b)
inductive Res (z y : Pz) : List Tr → List Tr → Option (List Bool) → Prop
  | hit (F L : List Tr) (e : Tr) : L.find? (misT z y) = some e → Res z y F L (some (e.w ++ [false]))
  | nil (F : List Tr) : Res z y F [] none
  | next (F L : List Tr) (r : Option (List Bool)) : L.find? (misT z y) = none → L ≠ [] → Res z y (levT z y F L) ((levT z y F L).drop F.length) r → Res z y F L r
theorem Res.det {z y : Pz} {F L : List Tr} {r1 r2 : Option (List Bool)} (h1 : Res z y F L r1) (h2 : Res z y F L r2) : r1 = r2 := by
  induction h1 with
  | hit F L e he =>
    cases h2 with
    | hit _ _ e2 he2 => rw [he] at he2; cases he2; rfl
    | nil _ => cases he
    | next _ _ _ hn _ _ => rw [he] at hn; cases hn
  | nil F =>
    cases h2 with
    | hit _ _ e2 he2 => cases he2
    | nil _ => rfl
    | next _ _ _ _ hne _ => exact absurd rfl hne
  | next F L r hn hne _ ih =>
    cases h2 with
    | hit _ _ e2 he2 => rw [hn] at he2; cases he2
    | nil _ => exact absurd rfl hne
    | next _ _ _ _ _ h => exact ih h
theorem addT_pre (F : List Tr) (e : Tr) : ∃ G, addT F e = F ++ G := by
  unfold addT
  split
  · exact ⟨[], by simp⟩
  · exact ⟨[e], rfl⟩
theorem stepT_pre (z y : Pz) (F : List Tr) (e : Tr) : ∃ G, stepT z y F e = F ++ G := by
  obtain ⟨G1, h1⟩ := addT_pre F (kidT z y e true)
  obtain ⟨G2, h2⟩ := addT_pre (addT F (kidT z y e true)) (kidT z y e false)
  exact ⟨G1 ++ G2, by unfold stepT; rw [h2, h1, List.append_assoc]⟩
theorem levT_pre (z y : Pz) : ∀ (L F : List Tr), ∃ G, levT z y F L = F ++ G
  | [], F => ⟨[], by simp [levT]⟩
  | e :: L, F => by
    obtain ⟨G1, h1⟩ := stepT_pre z y F e
    obtain ⟨G2, h2⟩ := levT_pre z y L (stepT z y F e)
    refine ⟨G1 ++ G2, ?_⟩
    show levT z y (stepT z y F e) L = _
    rw [h2, h1, List.append_assoc]
def sw (e : Tr) : Tr := ⟨e.b, e.a, e.w⟩
theorem tIx_sw (F : List Tr) (a b : Int) : tIx (F.map sw) b a = tIx F a b := by
  unfold tIx
  rw [List.any_map]
  congr 1
  funext e
  show decide (e.b = b ∧ e.a = a) = _
  rw [decide_eq_decide]
  exact And.comm
theorem addT_sw (F : List Tr) (e : Tr) : addT (F.map sw) (sw e) = (addT F e).map sw := by
  unfold addT
  have : tIx (F.map sw) (sw e).a (sw e).b = tIx F e.a e.b := tIx_sw F e.a e.b
  rw [this]
  split
  · rfl
  · rw [List.map_append]
    rfl
theorem levT_sw (z y : Pz) : ∀ (L F : List Tr), levT y z (F.map sw) (L.map sw) = (levT z y F L).map sw
  | [], F => rfl
  | e :: L, F => by
    show levT y z (stepT y z (F.map sw) (sw e)) (L.map sw) = (levT z y (stepT z y F e) L).map sw
    have : stepT y z (F.map sw) (sw e) = (stepT z y F e).map sw := by
      unfold stepT
      rw [← addT_sw, ← addT_sw]
      rfl
    rw [this]
    exact levT_sw z y L _
theorem misT_sw (z y : Pz) (e : Tr) : misT y z (sw e) = misT z y e := by
  unfold misT sw
  cases decide (z.r ≤ e.a) <;> cases decide (y.r ≤ e.b) <;> rfl
theorem find_sw (z y : Pz) (L : List Tr) : (L.map sw).find? (misT y z) = (L.find? (misT z y)).map sw := by
  rw [List.find?_map]
  congr 1
  congr 1
  funext e
  exact misT_sw z y e
theorem Res.swap {z y : Pz} {F L : List Tr} {r : Option (List Bool)} (h : Res z y F L r) : Res y z (F.map sw) (L.map sw) r := by
  induction h with
  | hit F L e he => exact .hit _ _ (sw e) (by rw [find_sw, he]; rfl)
  | nil F => exact .nil _
  | next F L r hn hne _ ih =>
    refine .next _ _ _ (by rw [find_sw, hn]; rfl) (by simpa using hne) ?_
    rw [levT_sw, List.length_map, ← List.map_drop]
    exact ih
def st0 (z y : Pz) : Tr := ⟨z.f, y.f, []⟩
theorem Res.swap0 {z y : Pz} {r : Option (List Bool)} (h : Res z y [st0 z y] [st0 z y] r) : Res y z [st0 y z] [st0 y z] r := h.swap
def tr (e : Bn) : Tr := ⟨e.q1, e.q2, e.w⟩
theorem tIx_tr (F : List Bn) (a b : Int) : tIx (F.map tr) a b = (bIx F a b).isSome := by
  unfold tIx bIx
  rw [List.any_map, List.findIdx?_isSome]
  rfl
theorem addB_tr (F : List Bn) (e : Bn) : (addB F e).map tr = addT (F.map tr) (tr e) := by
  unfold addB addT
  have : tIx (F.map tr) (tr e).a (tr e).b = (bIx F e.q1 e.q2).isSome := tIx_tr F e.q1 e.q2
  rw [this]
  cases bIx F e.q1 e.q2 with
  | none => simp
  | some j => simp
theorem stepB_tr (z y : Pz) (F : List Bn) (e : Bn) : (stepB z y F e).map tr = stepT z y (F.map tr) (tr e) := by
  unfold stepB stepT
  rw [addB_tr, addB_tr]
  rfl
structure LInv (z y : Pz) (t : Nat) (F : List Bn) : Prop where
  b : BInv z y F
  l : ∃ (B L : List Tr) (i : Nat), t = B.length + i ∧ (i < L.length ∨ (L = [] ∧ i = 0)) ∧ F.map tr = levT z y (B ++ L) (L.take i) ∧ (L.take i).find? (misT z y) = none ∧ ∀ r, Res z y (B ++ L) L r → Res z y [st0 z y] [st0 z y] r
theorem linv0 (z y : Pz) : LInv z y 0 [bSt z y] := ⟨binv0 z y, [], [st0 z y], 0, rfl, .inl (by simp), rfl, rfl, fun r h => h⟩
theorem linv_at {z y : Pz} {t : Nat} {F : List Bn} {e : Bn} (he : F[t]? = some e) {B L : List Tr} {i : Nat} (ht : t = B.length + i) (hi : i < L.length ∨ (L = [] ∧ i = 0)) (hF : F.map tr = levT z y (B ++ L) (L.take i)) : L[i]? = some (tr e) := by
  obtain ⟨G, hG⟩ := levT_pre z y (L.take i) (B ++ L)
  have h1 : (F.map tr)[t]? = some (tr e) := by rw [List.getElem?_map, he]; rfl
  rcases hi with hi | ⟨rfl, rfl⟩
  · rw [hF, hG, List.getElem?_append_left (by rw [List.length_append]; omega), List.getElem?_append_right (by omega)] at h1
    rwa [show t - B.length = i by omega] at h1
  · exfalso
    have hl : t < F.length := (List.getElem?_eq_some_iff.mp he).1
    have : (F.map tr).length = B.length := by rw [hF]; simp [levT]
    rw [List.length_map] at this
    omega
theorem linv_step {z y : Pz} {t : Nat} {F : List Bn} {e : Bn} (k : LInv z y t F) (he : F[t]? = some e) (hm : misB z y e = false) : LInv z y (t + 1) (stepB z y F e) := by
  obtain ⟨B, L, i, ht, hi, hF, hf, hr⟩ := k.l
  have hL := linv_at he ht hi hF
  obtain ⟨hiL, hLe⟩ := List.getElem?_eq_some_iff.mp hL
  have htk : L.take (i + 1) = L.take i ++ [tr e] := by rw [List.take_succ_eq_append_getElem hiL, hLe]
  have hF2 : (stepB z y F e).map tr = levT z y (B ++ L) (L.take (i + 1)) := by
    rw [stepB_tr, hF, htk]
    unfold levT
    rw [List.foldl_append]
    rfl
  have hf2 : (L.take (i + 1)).find? (misT z y) = none := by
    rw [htk, List.find?_append, hf]
    have : misT z y (tr e) = false := hm
    simp [this]
  refine ⟨stepB_inv k.b he, ?_⟩
  by_cases q : i + 1 < L.length
  · exact ⟨B, L, i + 1, by omega, .inl q, hF2, hf2, hr⟩
  · have hall : L.take (i + 1) = L := List.take_of_length_le (by omega)
    rw [hall] at hF2 hf2
    obtain ⟨G, hG⟩ := levT_pre z y L (B ++ L)
    have hd : (levT z y (B ++ L) L).drop (B ++ L).length = G := by rw [hG, List.drop_left]
    refine ⟨B ++ L, G, 0, by rw [List.length_append]; omega, ?_, ?_, rfl, fun r h => hr r (.next _ _ _ hf2 (by rintro rfl; simp at hiL) ?_)⟩
    · cases G with
      | nil => exact .inr ⟨rfl, rfl⟩
      | cons x G => exact .inl (by simp)
    · rw [hF2, hG]
      rfl
    · rw [hd, hG]
      exact h
theorem linv_hit {z y : Pz} {t : Nat} {F : List Bn} {e : Bn} (k : LInv z y t F) (he : F[t]? = some e) (hm : misB z y e = true) : Res z y [st0 z y] [st0 z y] (some (e.w ++ [false])) := by
  obtain ⟨B, L, i, ht, hi, hF, hf, hr⟩ := k.l
  have hL := linv_at he ht hi hF
  obtain ⟨hiL, hLe⟩ := List.getElem?_eq_some_iff.mp hL
  refine hr _ (.hit _ _ (tr e) ?_)
  have e1 : L = L.take i ++ (L[i] :: L.drop (i + 1)) := by
    rw [← List.drop_eq_getElem_cons hiL, List.take_append_drop]
  have hmt : misT z y (tr e) = true := hm
  rw [e1, List.find?_append, hf, hLe]
  simp [hmt]
theorem linv_none {z y : Pz} {F : List Bn} (k : LInv z y F.length F) : Res z y [st0 z y] [st0 z y] none := by
  obtain ⟨B, L, i, ht, hi, hF, hf, hr⟩ := k.l
  obtain ⟨G, hG⟩ := levT_pre z y (L.take i) (B ++ L)
  have hlen : F.length = B.length + L.length + G.length := by
    have := congrArg List.length (hF.trans hG)
    rw [List.length_map, List.length_append, List.length_append] at this
    exact this
  have : L = [] := by
    rcases hi with hi | hi
    · omega
    · exact hi.1
  subst this
  exact hr _ (.nil _)
end KW
namespace KW
open PySem PySem.Spec PyProof.Rows L2 L2.M
local macro_rules | `(tactic| walk_at "ev") => `(tactic| simp [semF, shared, after, mSeq, mSkip, mIf, mRet, mRetN, mRetV, mSet, mSetIx, mExpr, mB, mU, mTm, mPl, mK, mVar, mOp, mCons, mNil, bor, bors, mTst, mAndT, mOrT, mNotT, mAndE, mOrE, mNotE, mIfE, mIsi, isiD, mChn, chnL, cmpD, binD, addD, subD, mulD, modD, fdivD, powD, eqD, neD, ltD, leD, gtD, geD, isD, isnD, L2.M.isNon, negD, ixD, Bf.f, Bg.f, lenD, L2.M.intD, maxD, minD, repD, strD, gmaxD, gminD, sumD, sortD, anyD, allD, mCall, frz, fzO, lend, wb, mTup, mLst, fzs, cD, mAsg, bTup, bTps, mApp, tupD, lstD, mRev, revD, ofs_inj, ee_ii, ee_ss, ee_bb, ee_nn, ee_is, ee_si, ee_in, ee_ni, ee_tt, ee_ll, ee_maps, ee_0, ee_1, ee_2, ee_3, at_lit, at_nat, at_m1, at_m2, scD, emD, sizeLine_eq, ixN, sm_lit, mSrc, itemsD, plOf, rng1D, bNm, mSl, mPt, mNoP, slD, mPar, keepT, tmsO, setA, mFlow, zipX, enumX, itemsX, intsOf, ints_all, boolsOf, shaped_lay, lay_int, lay_bool, lay_none, lay_dict, lay_tup, lay_list, lay_ints, sortX_ints, mPlF, mPlI, mRd, mPU, mPB, mFSet, mFNew, mNSet, mPApp, mPSetIx, mPPop, mMeth, mNew, isIns, cellO, mLstN, mAddN, mAppN, semX, mTold, mCallX, xRet, xExpr, xSet, mRaise, mM, isL, isS, mOrV, truD])
local macro_rules | `(tactic| walk_at "es") => `(tactic| simp [semF, shared, after, mSeq, mSkip, mIf, mRet, mRetN, mRetV, mSet, mSetIx, mExpr, mB, mU, mTm, mPl, mK, mVar, mOp, mCons, mNil, bor, bors, mTst, mAndT, mOrT, mNotT, mAndE, mOrE, mNotE, mIfE, mIsi, isiD, mChn, chnL, cmpD, binD, addD, subD, mulD, modD, fdivD, powD, eqD, neD, ltD, leD, gtD, geD, isD, isnD, L2.M.isNon, negD, ixD, Bf.f, Bg.f, lenD, L2.M.intD, maxD, minD, repD, strD, gmaxD, gminD, sumD, sortD, anyD, allD, mCall, frz, fzO, lend, wb, mTup, mLst, fzs, cD, mAsg, bTup, bTps, mApp, tupD, lstD, mRev, revD, ofs_inj, ee_ii, ee_ss, ee_bb, ee_nn, ee_is, ee_si, ee_in, ee_ni, ee_tt, ee_ll, ee_maps, ee_0, ee_1, ee_2, ee_3, at_lit, at_nat, at_m1, at_m2, scD, emD, sizeLine_eq, ixN, sm_lit, mSrc, itemsD, plOf, rng1D, bNm, mSl, mPt, mNoP, slD, mPar, keepT, tmsO, setA, mFlow, zipX, enumX, itemsX, intsOf, ints_all, boolsOf, shaped_lay, lay_int, lay_bool, lay_none, lay_dict, lay_tup, lay_list, lay_ints, sortX_ints, mPlF, mPlI, mRd, mPU, mPB, mFSet, mFNew, mNSet, mPApp, mPSetIx, mPPop, mMeth, mNew, isIns, cellO, mLstN, mAddN, mAppN, semX, mTold, mCallX, xRet, xExpr, xSet, mRaise, mM, isL, isS, mOrV, truD, *])
local macro_rules | `(tactic| walk_at "el") => `(tactic| simp [semF, shared, after, mSeq, mSkip, mIf, mRet, mRetN, mRetV, mSet, mSetIx, mExpr, mB, mU, mTm, mPl, mK, mVar, mOp, mCons, mNil, bor, bors, mTst, mAndT, mOrT, mNotT, mAndE, mOrE, mNotE, mIfE, mIsi, isiD, mChn, chnL, cmpD, binD, addD, subD, mulD, modD, fdivD, powD, eqD, neD, ltD, leD, gtD, geD, isD, isnD, L2.M.isNon, negD, ixD, Bf.f, Bg.f, lenD, L2.M.intD, maxD, minD, repD, strD, gmaxD, gminD, sumD, sortD, anyD, allD, mCall, frz, fzO, lend, wb, mTup, mLst, fzs, cD, mAsg, bTup, bTps, mApp, tupD, lstD, mRev, revD, ofs_inj, ee_ii, ee_ss, ee_bb, ee_nn, ee_is, ee_si, ee_in, ee_ni, ee_tt, ee_ll, ee_maps, ee_0, ee_1, ee_2, ee_3, at_lit, at_nat, at_m1, at_m2, scD, emD, sizeLine_eq, ixN, sm_lit, mSrc, itemsD, plOf, rng1D, bNm, mSl, mPt, mNoP, slD, mPar, keepT, tmsO, setA, mFlow, zipX, enumX, itemsX, intsOf, ints_all, boolsOf, shaped_lay, lay_int, lay_bool, lay_none, lay_dict, lay_tup, lay_list, lay_ints, sortX_ints, mPlF, mPlI, mRd, mPU, mPB, mFSet, mFNew, mNSet, mPApp, mPSetIx, mPPop, mMeth, mNew, isIns, cellO, mLstN, mAddN, mAppN, semX, mTold, mCallX, xRet, xExpr, xSet, mRaise, mM, isL, isS, mOrV, truD, mLc, lcL, sameC, wipeC, restC, mYes, *])
local macro_rules | `(tactic| walk_at "ef") => `(tactic| simp [semF, shared, after, mSeq, mSkip, mIf, mRet, mRetN, mRetV, mSet, mSetIx, mExpr, mB, mU, mTm, mPl, mK, mVar, mOp, mCons, mNil, bor, bors, mTst, mAndT, mOrT, mNotT, mAndE, mOrE, mNotE, mIfE, mIsi, isiD, mChn, chnL, cmpD, binD, addD, subD, mulD, modD, fdivD, powD, eqD, neD, ltD, leD, gtD, geD, isD, isnD, L2.M.isNon, negD, ixD, Bf.f, Bg.f, lenD, L2.M.intD, maxD, minD, repD, strD, gmaxD, gminD, sumD, sortD, anyD, allD, mCall, frz, fzO, lend, wb, mTup, mLst, fzs, cD, mAsg, bTup, bTps, mApp, tupD, lstD, mRev, revD, ofs_inj, ee_ii, ee_ss, ee_bb, ee_nn, ee_is, ee_si, ee_in, ee_ni, ee_tt, ee_ll, ee_maps, ee_0, ee_1, ee_2, ee_3, at_lit, at_nat, at_m1, at_m2, scD, emD, sizeLine_eq, ixN, sm_lit, mSrc, itemsD, plOf, rng1D, bNm, mSl, mPt, mNoP, slD, mPar, keepT, tmsO, setA, mFlow, zipX, enumX, itemsX, intsOf, ints_all, boolsOf, shaped_lay, lay_int, lay_bool, lay_none, lay_dict, lay_tup, lay_list, lay_ints, sortX_ints, mPlF, mPlI, mRd, mPU, mPB, mFSet, mFNew, mNSet, mPApp, mPSetIx, mPPop, mMeth, mNew, isIns, cellO, mLstN, mAddN, mAppN, semX, mTold, mCallX, xRet, xExpr, xSet, mRaise, mM, isL, isS, mOrV, truD, mFor, forL, mLc, lcL, sameC, wipeC, restC, mYes, *])
local macro_rules | `(tactic| walk_at "rg") => `(tactic| (and_intros <;> grind))
local macro_rules | `(tactic| walk_at "nx") => `(tactic| (apply wx_nx; focus (walk_at "ev"; try first | exact ⟨rfl, rfl⟩ | rfl)))
local macro_rules | `(tactic| walk_at "ns") => `(tactic| (apply wx_nx; focus (walk_at "es"; try first | exact ⟨rfl, rfl⟩ | rfl)))
local macro_rules | `(tactic| walk_at "rt") => `(tactic| (apply wx_rt; focus (walk_at "ev"; try first | exact ⟨rfl, rfl⟩ | rfl)))
local macro_rules | `(tactic| walk_at "rs") => `(tactic| (apply wx_rt; focus (walk_at "es"; try first | exact ⟨rfl, rfl⟩ | rfl)))
local macro_rules | `(tactic| walk_at "ed") => `(tactic| simp [semF, shared, after, mSeq, mSkip, mIf, mRet, mRetN, mRetV, mSet, mSetIx, mExpr, mB, mU, mTm, mPl, mK, mVar, mOp, mCons, mNil, bor, bors, mTst, mAndT, mOrT, mNotT, mAndE, mOrE, mNotE, mIfE, mIsi, isiD, mChn, chnL, cmpD, binD, addD, subD, mulD, modD, fdivD, powD, eqD, neD, ltD, leD, gtD, geD, isD, isnD, L2.M.isNon, negD, ixD, Bf.f, Bg.f, lenD, L2.M.intD, maxD, minD, repD, strD, gmaxD, gminD, sumD, sortD, anyD, allD, mCall, frz, fzO, lend, wb, mTup, mLst, fzs, cD, mAsg, bTup, bTps, mApp, tupD, lstD, mRev, revD, ofs_inj, ee_ii, ee_ss, ee_bb, ee_nn, ee_is, ee_si, ee_in, ee_ni, ee_tt, ee_ll, ee_maps, ee_0, ee_1, ee_2, ee_3, at_lit, at_nat, at_m1, at_m2, scD, emD, sizeLine_eq, ixN, sm_lit, mSrc, itemsD, plOf, rng1D, bNm, mSl, mPt, mNoP, slD, mPar, keepT, tmsO, setA, mFlow, zipX, enumX, itemsX, intsOf, ints_all, boolsOf, shaped_lay, lay_int, lay_bool, lay_none, lay_dict, lay_tup, lay_list, lay_ints, sortX_ints, mPlF, mPlI, mRd, mPU, mPB, mFSet, mFNew, mNSet, mPApp, mPSetIx, mPPop, mMeth, mNew, isIns, cellO, mLstN, mAddN, mAppN, semX, mTold, mCallX, xRet, xExpr, xSet, mRaise, mM, isL, isS, mOrV, truD, mDNew, mDIn, mDGet, mDLen, mDPut, kyD, mNNew, mN1, mTake, mFnV, mCallF, mNIn, mNGet, mNPut, mNVals, mNList, nKs, mDGetD, mDList, mNNe, *])
theorem in_ints (L : List Int) (k : Int) : cmpD .In (.int k) (.list (L.map .int)) = some (.sh (.bool (decide (k ∈ L)))) := by
  have h1 : SeqAt.shaped (.list (L.map PyData.int)) = true := by rw [shaped_lay, lay_list _ (by decide), lay_ints]
  have h2 : SeqAt.shaped (.int k) = true := by rw [shaped_lay, lay_int]
  have e : (L.map PyData.int).any (fun z => PyData.eqv z (.int k)) = decide (k ∈ L) := by
    rw [List.any_map, Bool.eq_iff_iff, List.any_eq_true, decide_eq_true_eq]
    constructor
    · rintro ⟨x, hx, hh⟩
      simp only [Function.comp, ee_ii, decide_eq_true_eq] at hh
      exact hh ▸ hx
    · intro hx
      exact ⟨_, hx, by simp [ee_ii]⟩
  rw [show cmpD .In = L2.M.inD from rfl, ← e]
  unfold inD
  simp only [h1, h2, Bool.and_self, if_true]
theorem cut_last {α : Type} (xs : List α) (x : α) : L2.M.cutL (xs ++ [x]) (some (-1)) none = [x] := by
  unfold L2.M.cutL HT.sIx
  simp only [if_pos (show (-1 : Int) < 0 by omega)]
  have : (-1 + ((xs ++ [x]).length : Int)).toNat = xs.length := by simp; omega
  rw [this]
  simp
end KW
namespace KW
open PySem PySem.Spec PyProof.Rows L2 L2.M
local macro_rules | `(tactic| walk_at "ev") => `(tactic| simp [semF, shared, after, mSeq, mSkip, mIf, mRet, mRetN, mRetV, mSet, mSetIx, mExpr, mB, mU, mTm, mPl, mK, mVar, mOp, mCons, mNil, bor, bors, mTst, mAndT, mOrT, mNotT, mAndE, mOrE, mNotE, mIfE, mIsi, isiD, mChn, chnL, cmpD, binD, addD, subD, mulD, modD, fdivD, powD, eqD, neD, ltD, leD, gtD, geD, isD, isnD, L2.M.isNon, negD, ixD, Bf.f, Bg.f, lenD, L2.M.intD, maxD, minD, repD, strD, gmaxD, gminD, sumD, sortD, anyD, allD, mCall, frz, fzO, lend, wb, mTup, mLst, fzs, cD, mAsg, bTup, bTps, mApp, tupD, lstD, mRev, revD, ofs_inj, ee_ii, ee_ss, ee_bb, ee_nn, ee_is, ee_si, ee_in, ee_ni, ee_tt, ee_ll, ee_maps, ee_0, ee_1, ee_2, ee_3, at_lit, at_nat, at_m1, at_m2, scD, emD, sizeLine_eq, ixN, sm_lit, mSrc, itemsD, plOf, rng1D, bNm, mSl, mPt, mNoP, slD, mPar, keepT, tmsO, setA, mFlow, zipX, enumX, itemsX, intsOf, ints_all, boolsOf, shaped_lay, lay_int, lay_bool, lay_none, lay_dict, lay_tup, lay_list, lay_ints, sortX_ints, mPlF, mPlI, mRd, mPU, mPB, mFSet, mFNew, mNSet, mPApp, mPSetIx, mPPop, mMeth, mNew, isIns, cellO, mLstN, mAddN, mAppN, semX, mTold, mCallX, xRet, xExpr, xSet, mRaise, mM, isL, isS, mOrV, truD])
local macro_rules | `(tactic| walk_at "es") => `(tactic| simp [semF, shared, after, mSeq, mSkip, mIf, mRet, mRetN, mRetV, mSet, mSetIx, mExpr, mB, mU, mTm, mPl, mK, mVar, mOp, mCons, mNil, bor, bors, mTst, mAndT, mOrT, mNotT, mAndE, mOrE, mNotE, mIfE, mIsi, isiD, mChn, chnL, cmpD, binD, addD, subD, mulD, modD, fdivD, powD, eqD, neD, ltD, leD, gtD, geD, isD, isnD, L2.M.isNon, negD, ixD, Bf.f, Bg.f, lenD, L2.M.intD, maxD, minD, repD, strD, gmaxD, gminD, sumD, sortD, anyD, allD, mCall, frz, fzO, lend, wb, mTup, mLst, fzs, cD, mAsg, bTup, bTps, mApp, tupD, lstD, mRev, revD, ofs_inj, ee_ii, ee_ss, ee_bb, ee_nn, ee_is, ee_si, ee_in, ee_ni, ee_tt, ee_ll, ee_maps, ee_0, ee_1, ee_2, ee_3, at_lit, at_nat, at_m1, at_m2, scD, emD, sizeLine_eq, ixN, sm_lit, mSrc, itemsD, plOf, rng1D, bNm, mSl, mPt, mNoP, slD, mPar, keepT, tmsO, setA, mFlow, zipX, enumX, itemsX, intsOf, ints_all, boolsOf, shaped_lay, lay_int, lay_bool, lay_none, lay_dict, lay_tup, lay_list, lay_ints, sortX_ints, mPlF, mPlI, mRd, mPU, mPB, mFSet, mFNew, mNSet, mPApp, mPSetIx, mPPop, mMeth, mNew, isIns, cellO, mLstN, mAddN, mAppN, semX, mTold, mCallX, xRet, xExpr, xSet, mRaise, mM, isL, isS, mOrV, truD, *])
local macro_rules | `(tactic| walk_at "el") => `(tactic| simp [semF, shared, after, mSeq, mSkip, mIf, mRet, mRetN, mRetV, mSet, mSetIx, mExpr, mB, mU, mTm, mPl, mK, mVar, mOp, mCons, mNil, bor, bors, mTst, mAndT, mOrT, mNotT, mAndE, mOrE, mNotE, mIfE, mIsi, isiD, mChn, chnL, cmpD, binD, addD, subD, mulD, modD, fdivD, powD, eqD, neD, ltD, leD, gtD, geD, isD, isnD, L2.M.isNon, negD, ixD, Bf.f, Bg.f, lenD, L2.M.intD, maxD, minD, repD, strD, gmaxD, gminD, sumD, sortD, anyD, allD, mCall, frz, fzO, lend, wb, mTup, mLst, fzs, cD, mAsg, bTup, bTps, mApp, tupD, lstD, mRev, revD, ofs_inj, ee_ii, ee_ss, ee_bb, ee_nn, ee_is, ee_si, ee_in, ee_ni, ee_tt, ee_ll, ee_maps, ee_0, ee_1, ee_2, ee_3, at_lit, at_nat, at_m1, at_m2, scD, emD, sizeLine_eq, ixN, sm_lit, mSrc, itemsD, plOf, rng1D, bNm, mSl, mPt, mNoP, slD, mPar, keepT, tmsO, setA, mFlow, zipX, enumX, itemsX, intsOf, ints_all, boolsOf, shaped_lay, lay_int, lay_bool, lay_none, lay_dict, lay_tup, lay_list, lay_ints, sortX_ints, mPlF, mPlI, mRd, mPU, mPB, mFSet, mFNew, mNSet, mPApp, mPSetIx, mPPop, mMeth, mNew, isIns, cellO, mLstN, mAddN, mAppN, semX, mTold, mCallX, xRet, xExpr, xSet, mRaise, mM, isL, isS, mOrV, truD, mLc, lcL, sameC, wipeC, restC, mYes, *])
local macro_rules | `(tactic| walk_at "ef") => `(tactic| simp [semF, shared, after, mSeq, mSkip, mIf, mRet, mRetN, mRetV, mSet, mSetIx, mExpr, mB, mU, mTm, mPl, mK, mVar, mOp, mCons, mNil, bor, bors, mTst, mAndT, mOrT, mNotT, mAndE, mOrE, mNotE, mIfE, mIsi, isiD, mChn, chnL, cmpD, binD, addD, subD, mulD, modD, fdivD, powD, eqD, neD, ltD, leD, gtD, geD, isD, isnD, L2.M.isNon, negD, ixD, Bf.f, Bg.f, lenD, L2.M.intD, maxD, minD, repD, strD, gmaxD, gminD, sumD, sortD, anyD, allD, mCall, frz, fzO, lend, wb, mTup, mLst, fzs, cD, mAsg, bTup, bTps, mApp, tupD, lstD, mRev, revD, ofs_inj, ee_ii, ee_ss, ee_bb, ee_nn, ee_is, ee_si, ee_in, ee_ni, ee_tt, ee_ll, ee_maps, ee_0, ee_1, ee_2, ee_3, at_lit, at_nat, at_m1, at_m2, scD, emD, sizeLine_eq, ixN, sm_lit, mSrc, itemsD, plOf, rng1D, bNm, mSl, mPt, mNoP, slD, mPar, keepT, tmsO, setA, mFlow, zipX, enumX, itemsX, intsOf, ints_all, boolsOf, shaped_lay, lay_int, lay_bool, lay_none, lay_dict, lay_tup, lay_list, lay_ints, sortX_ints, mPlF, mPlI, mRd, mPU, mPB, mFSet, mFNew, mNSet, mPApp, mPSetIx, mPPop, mMeth, mNew, isIns, cellO, mLstN, mAddN, mAppN, semX, mTold, mCallX, xRet, xExpr, xSet, mRaise, mM, isL, isS, mOrV, truD, mFor, forL, mLc, lcL, sameC, wipeC, restC, mYes, *])
local macro_rules | `(tactic| walk_at "rg") => `(tactic| (and_intros <;> grind))
local macro_rules | `(tactic| walk_at "nx") => `(tactic| (apply wx_nx; focus (walk_at "ev"; try first | exact ⟨rfl, rfl⟩ | rfl)))
local macro_rules | `(tactic| walk_at "ns") => `(tactic| (apply wx_nx; focus (walk_at "es"; try first | exact ⟨rfl, rfl⟩ | rfl)))
local macro_rules | `(tactic| walk_at "rt") => `(tactic| (apply wx_rt; focus (walk_at "ev"; try first | exact ⟨rfl, rfl⟩ | rfl)))
local macro_rules | `(tactic| walk_at "rs") => `(tactic| (apply wx_rt; focus (walk_at "es"; try first | exact ⟨rfl, rfl⟩ | rfl)))
local macro_rules | `(tactic| walk_at "ed") => `(tactic| simp [semF, shared, after, mSeq, mSkip, mIf, mRet, mRetN, mRetV, mSet, mSetIx, mExpr, mB, mU, mTm, mPl, mK, mVar, mOp, mCons, mNil, bor, bors, mTst, mAndT, mOrT, mNotT, mAndE, mOrE, mNotE, mIfE, mIsi, isiD, mChn, chnL, cmpD, binD, addD, subD, mulD, modD, fdivD, powD, eqD, neD, ltD, leD, gtD, geD, isD, isnD, L2.M.isNon, negD, ixD, Bf.f, Bg.f, lenD, L2.M.intD, maxD, minD, repD, strD, gmaxD, gminD, sumD, sortD, anyD, allD, mCall, frz, fzO, lend, wb, mTup, mLst, fzs, cD, mAsg, bTup, bTps, mApp, tupD, lstD, mRev, revD, ofs_inj, ee_ii, ee_ss, ee_bb, ee_nn, ee_is, ee_si, ee_in, ee_ni, ee_tt, ee_ll, ee_maps, ee_0, ee_1, ee_2, ee_3, at_lit, at_nat, at_m1, at_m2, scD, emD, sizeLine_eq, ixN, sm_lit, mSrc, itemsD, plOf, rng1D, bNm, mSl, mPt, mNoP, slD, mPar, keepT, tmsO, setA, mFlow, zipX, enumX, itemsX, intsOf, ints_all, boolsOf, shaped_lay, lay_int, lay_bool, lay_none, lay_dict, lay_tup, lay_list, lay_ints, sortX_ints, mPlF, mPlI, mRd, mPU, mPB, mFSet, mFNew, mNSet, mPApp, mPSetIx, mPPop, mMeth, mNew, isIns, cellO, mLstN, mAddN, mAppN, semX, mTold, mCallX, xRet, xExpr, xSet, mRaise, mM, isL, isS, mOrV, truD, mDNew, mDIn, mDGet, mDLen, mDPut, kyD, mNNew, mN1, mTake, mFnV, mCallF, mNIn, mNGet, mNPut, mNVals, mNList, nKs, mDGetD, mDList, mNNe, *])
theorem unp_sn (z : Pz) (w : List Bool) (g : Bool) (i u : Int) : unp z i u (w ++ [g]) = unp z i u w ++ if g = false ∧ en z u w < z.r then [i + w.length] else [] := by
  rw [unp_app, unp, unp, List.append_nil]
end KW
namespace KW
open PySem PySem.Spec PyProof.Rows L2 L2.M
local macro_rules | `(tactic| walk_at "ev") => `(tactic| simp [semF, shared, after, mSeq, mSkip, mIf, mRet, mRetN, mRetV, mSet, mSetIx, mExpr, mB, mU, mTm, mPl, mK, mVar, mOp, mCons, mNil, bor, bors, mTst, mAndT, mOrT, mNotT, mAndE, mOrE, mNotE, mIfE, mIsi, isiD, mChn, chnL, cmpD, binD, addD, subD, mulD, modD, fdivD, powD, eqD, neD, ltD, leD, gtD, geD, isD, isnD, L2.M.isNon, negD, ixD, Bf.f, Bg.f, lenD, L2.M.intD, maxD, minD, repD, strD, gmaxD, gminD, sumD, sortD, anyD, allD, mCall, frz, fzO, lend, wb, mTup, mLst, fzs, cD, mAsg, bTup, bTps, mApp, tupD, lstD, mRev, revD, ofs_inj, ee_ii, ee_ss, ee_bb, ee_nn, ee_is, ee_si, ee_in, ee_ni, ee_tt, ee_ll, ee_maps, ee_0, ee_1, ee_2, ee_3, at_lit, at_nat, at_m1, at_m2, scD, emD, sizeLine_eq, ixN, sm_lit, mSrc, itemsD, plOf, rng1D, bNm, mSl, mPt, mNoP, slD, mPar, keepT, tmsO, setA, mFlow, zipX, enumX, itemsX, intsOf, ints_all, boolsOf, shaped_lay, lay_int, lay_bool, lay_none, lay_dict, lay_tup, lay_list, lay_ints, sortX_ints, mPlF, mPlI, mRd, mPU, mPB, mFSet, mFNew, mNSet, mPApp, mPSetIx, mPPop, mMeth, mNew, isIns, cellO, mLstN, mAddN, mAppN, semX, mTold, mCallX, xRet, xExpr, xSet, mRaise, mM, isL, isS, mOrV, truD])
local macro_rules | `(tactic| walk_at "es") => `(tactic| simp [semF, shared, after, mSeq, mSkip, mIf, mRet, mRetN, mRetV, mSet, mSetIx, mExpr, mB, mU, mTm, mPl, mK, mVar, mOp, mCons, mNil, bor, bors, mTst, mAndT, mOrT, mNotT, mAndE, mOrE, mNotE, mIfE, mIsi, isiD, mChn, chnL, cmpD, binD, addD, subD, mulD, modD, fdivD, powD, eqD, neD, ltD, leD, gtD, geD, isD, isnD, L2.M.isNon, negD, ixD, Bf.f, Bg.f, lenD, L2.M.intD, maxD, minD, repD, strD, gmaxD, gminD, sumD, sortD, anyD, allD, mCall, frz, fzO, lend, wb, mTup, mLst, fzs, cD, mAsg, bTup, bTps, mApp, tupD, lstD, mRev, revD, ofs_inj, ee_ii, ee_ss, ee_bb, ee_nn, ee_is, ee_si, ee_in, ee_ni, ee_tt, ee_ll, ee_maps, ee_0, ee_1, ee_2, ee_3, at_lit, at_nat, at_m1, at_m2, scD, emD, sizeLine_eq, ixN, sm_lit, mSrc, itemsD, plOf, rng1D, bNm, mSl, mPt, mNoP, slD, mPar, keepT, tmsO, setA, mFlow, zipX, enumX, itemsX, intsOf, ints_all, boolsOf, shaped_lay, lay_int, lay_bool, lay_none, lay_dict, lay_tup, lay_list, lay_ints, sortX_ints, mPlF, mPlI, mRd, mPU, mPB, mFSet, mFNew, mNSet, mPApp, mPSetIx, mPPop, mMeth, mNew, isIns, cellO, mLstN, mAddN, mAppN, semX, mTold, mCallX, xRet, xExpr, xSet, mRaise, mM, isL, isS, mOrV, truD, *])
local macro_rules | `(tactic| walk_at "el") => `(tactic| simp [semF, shared, after, mSeq, mSkip, mIf, mRet, mRetN, mRetV, mSet, mSetIx, mExpr, mB, mU, mTm, mPl, mK, mVar, mOp, mCons, mNil, bor, bors, mTst, mAndT, mOrT, mNotT, mAndE, mOrE, mNotE, mIfE, mIsi, isiD, mChn, chnL, cmpD, binD, addD, subD, mulD, modD, fdivD, powD, eqD, neD, ltD, leD, gtD, geD, isD, isnD, L2.M.isNon, negD, ixD, Bf.f, Bg.f, lenD, L2.M.intD, maxD, minD, repD, strD, gmaxD, gminD, sumD, sortD, anyD, allD, mCall, frz, fzO, lend, wb, mTup, mLst, fzs, cD, mAsg, bTup, bTps, mApp, tupD, lstD, mRev, revD, ofs_inj, ee_ii, ee_ss, ee_bb, ee_nn, ee_is, ee_si, ee_in, ee_ni, ee_tt, ee_ll, ee_maps, ee_0, ee_1, ee_2, ee_3, at_lit, at_nat, at_m1, at_m2, scD, emD, sizeLine_eq, ixN, sm_lit, mSrc, itemsD, plOf, rng1D, bNm, mSl, mPt, mNoP, slD, mPar, keepT, tmsO, setA, mFlow, zipX, enumX, itemsX, intsOf, ints_all, boolsOf, shaped_lay, lay_int, lay_bool, lay_none, lay_dict, lay_tup, lay_list, lay_ints, sortX_ints, mPlF, mPlI, mRd, mPU, mPB, mFSet, mFNew, mNSet, mPApp, mPSetIx, mPPop, mMeth, mNew, isIns, cellO, mLstN, mAddN, mAppN, semX, mTold, mCallX, xRet, xExpr, xSet, mRaise, mM, isL, isS, mOrV, truD, mLc, lcL, sameC, wipeC, restC, mYes, *])
local macro_rules | `(tactic| walk_at "ef") => `(tactic| simp [semF, shared, after, mSeq, mSkip, mIf, mRet, mRetN, mRetV, mSet, mSetIx, mExpr, mB, mU, mTm, mPl, mK, mVar, mOp, mCons, mNil, bor, bors, mTst, mAndT, mOrT, mNotT, mAndE, mOrE, mNotE, mIfE, mIsi, isiD, mChn, chnL, cmpD, binD, addD, subD, mulD, modD, fdivD, powD, eqD, neD, ltD, leD, gtD, geD, isD, isnD, L2.M.isNon, negD, ixD, Bf.f, Bg.f, lenD, L2.M.intD, maxD, minD, repD, strD, gmaxD, gminD, sumD, sortD, anyD, allD, mCall, frz, fzO, lend, wb, mTup, mLst, fzs, cD, mAsg, bTup, bTps, mApp, tupD, lstD, mRev, revD, ofs_inj, ee_ii, ee_ss, ee_bb, ee_nn, ee_is, ee_si, ee_in, ee_ni, ee_tt, ee_ll, ee_maps, ee_0, ee_1, ee_2, ee_3, at_lit, at_nat, at_m1, at_m2, scD, emD, sizeLine_eq, ixN, sm_lit, mSrc, itemsD, plOf, rng1D, bNm, mSl, mPt, mNoP, slD, mPar, keepT, tmsO, setA, mFlow, zipX, enumX, itemsX, intsOf, ints_all, boolsOf, shaped_lay, lay_int, lay_bool, lay_none, lay_dict, lay_tup, lay_list, lay_ints, sortX_ints, mPlF, mPlI, mRd, mPU, mPB, mFSet, mFNew, mNSet, mPApp, mPSetIx, mPPop, mMeth, mNew, isIns, cellO, mLstN, mAddN, mAppN, semX, mTold, mCallX, xRet, xExpr, xSet, mRaise, mM, isL, isS, mOrV, truD, mFor, forL, mLc, lcL, sameC, wipeC, restC, mYes, *])
local macro_rules | `(tactic| walk_at "rg") => `(tactic| (and_intros <;> grind))
local macro_rules | `(tactic| walk_at "nx") => `(tactic| (apply wx_nx; focus (walk_at "ev"; try first | exact ⟨rfl, rfl⟩ | rfl)))
local macro_rules | `(tactic| walk_at "ns") => `(tactic| (apply wx_nx; focus (walk_at "es"; try first | exact ⟨rfl, rfl⟩ | rfl)))
local macro_rules | `(tactic| walk_at "rt") => `(tactic| (apply wx_rt; focus (walk_at "ev"; try first | exact ⟨rfl, rfl⟩ | rfl)))
local macro_rules | `(tactic| walk_at "rs") => `(tactic| (apply wx_rt; focus (walk_at "es"; try first | exact ⟨rfl, rfl⟩ | rfl)))
local macro_rules | `(tactic| walk_at "ed") => `(tactic| simp [semF, shared, after, mSeq, mSkip, mIf, mRet, mRetN, mRetV, mSet, mSetIx, mExpr, mB, mU, mTm, mPl, mK, mVar, mOp, mCons, mNil, bor, bors, mTst, mAndT, mOrT, mNotT, mAndE, mOrE, mNotE, mIfE, mIsi, isiD, mChn, chnL, cmpD, binD, addD, subD, mulD, modD, fdivD, powD, eqD, neD, ltD, leD, gtD, geD, isD, isnD, L2.M.isNon, negD, ixD, Bf.f, Bg.f, lenD, L2.M.intD, maxD, minD, repD, strD, gmaxD, gminD, sumD, sortD, anyD, allD, mCall, frz, fzO, lend, wb, mTup, mLst, fzs, cD, mAsg, bTup, bTps, mApp, tupD, lstD, mRev, revD, ofs_inj, ee_ii, ee_ss, ee_bb, ee_nn, ee_is, ee_si, ee_in, ee_ni, ee_tt, ee_ll, ee_maps, ee_0, ee_1, ee_2, ee_3, at_lit, at_nat, at_m1, at_m2, scD, emD, sizeLine_eq, ixN, sm_lit, mSrc, itemsD, plOf, rng1D, bNm, mSl, mPt, mNoP, slD, mPar, keepT, tmsO, setA, mFlow, zipX, enumX, itemsX, intsOf, ints_all, boolsOf, shaped_lay, lay_int, lay_bool, lay_none, lay_dict, lay_tup, lay_list, lay_ints, sortX_ints, mPlF, mPlI, mRd, mPU, mPB, mFSet, mFNew, mNSet, mPApp, mPSetIx, mPPop, mMeth, mNew, isIns, cellO, mLstN, mAddN, mAppN, semX, mTold, mCallX, xRet, xExpr, xSet, mRaise, mM, isL, isS, mOrV, truD, mDNew, mDIn, mDGet, mDLen, mDPut, kyD, mNNew, mN1, mTake, mFnV, mCallF, mNIn, mNGet, mNPut, mNVals, mNList, nKs, mDGetD, mDList, mNNe, *])
def CP (s : Str) : List Nat := s.cps.toList
/-- texts that show themselves between strokes -/
def St (x : Str) : Prop := CP (reprText x) = 39 :: (CP x ++ [39]) ∧ 39 ∉ CP x
mutual
def Pd : PyData → Prop
  | .none => True
  | .bool _ => True
  | .int _ => True
  | .str x => St x
  | .list xs => PdA xs
  | .tuple xs => PdA xs
  | .dict kvs => kvs = []
def PdA : List PyData → Prop
  | [] => True
  | x :: xs => Pd x ∧ PdA xs
end
end KW
namespace KW
open PySem PySem.Spec PyProof.Rows L2 L2.M
local macro_rules | `(tactic| walk_at "ev") => `(tactic| simp [semF, shared, after, mSeq, mSkip, mIf, mRet, mRetN, mRetV, mSet, mSetIx, mExpr, mB, mU, mTm, mPl, mK, mVar, mOp, mCons, mNil, bor, bors, mTst, mAndT, mOrT, mNotT, mAndE, mOrE, mNotE, mIfE, mIsi, isiD, mChn, chnL, cmpD, binD, addD, subD, mulD, modD, fdivD, powD, eqD, neD, ltD, leD, gtD, geD, isD, isnD, L2.M.isNon, negD, ixD, Bf.f, Bg.f, lenD, L2.M.intD, maxD, minD, repD, strD, gmaxD, gminD, sumD, sortD, anyD, allD, mCall, frz, fzO, lend, wb, mTup, mLst, fzs, cD, mAsg, bTup, bTps, mApp, tupD, lstD, mRev, revD, ofs_inj, ee_ii, ee_ss, ee_bb, ee_nn, ee_is, ee_si, ee_in, ee_ni, ee_tt, ee_ll, ee_maps, ee_0, ee_1, ee_2, ee_3, at_lit, at_nat, at_m1, at_m2, scD, emD, sizeLine_eq, ixN, sm_lit, mSrc, itemsD, plOf, rng1D, bNm, mSl, mPt, mNoP, slD, mPar, keepT, tmsO, setA, mFlow, zipX, enumX, itemsX, intsOf, ints_all, boolsOf, shaped_lay, lay_int, lay_bool, lay_none, lay_dict, lay_tup, lay_list, lay_ints, sortX_ints, mPlF, mPlI, mRd, mPU, mPB, mFSet, mFNew, mNSet, mPApp, mPSetIx, mPPop, mMeth, mNew, isIns, cellO, mLstN, mAddN, mAppN, semX, mTold, mCallX, xRet, xExpr, xSet, mRaise, mM, isL, isS, mOrV, truD])
local macro_rules | `(tactic| walk_at "es") => `(tactic| simp [semF, shared, after, mSeq, mSkip, mIf, mRet, mRetN, mRetV, mSet, mSetIx, mExpr, mB, mU, mTm, mPl, mK, mVar, mOp, mCons, mNil, bor, bors, mTst, mAndT, mOrT, mNotT, mAndE, mOrE, mNotE, mIfE, mIsi, isiD, mChn, chnL, cmpD, binD, addD, subD, mulD, modD, fdivD, powD, eqD, neD, ltD, leD, gtD, geD, isD, isnD, L2.M.isNon, negD, ixD, Bf.f, Bg.f, lenD, L2.M.intD, maxD, minD, repD, strD, gmaxD, gminD, sumD, sortD, anyD, allD, mCall, frz, fzO, lend, wb, mTup, mLst, fzs, cD, mAsg, bTup, bTps, mApp, tupD, lstD, mRev, revD, ofs_inj, ee_ii, ee_ss, ee_bb, ee_nn, ee_is, ee_si, ee_in, ee_ni, ee_tt, ee_ll, ee_maps, ee_0, ee_1, ee_2, ee_3, at_lit, at_nat, at_m1, at_m2, scD, emD, sizeLine_eq, ixN, sm_lit, mSrc, itemsD, plOf, rng1D, bNm, mSl, mPt, mNoP, slD, mPar, keepT, tmsO, setA, mFlow, zipX, enumX, itemsX, intsOf, ints_all, boolsOf, shaped_lay, lay_int, lay_bool, lay_none, lay_dict, lay_tup, lay_list, lay_ints, sortX_ints, mPlF, mPlI, mRd, mPU, mPB, mFSet, mFNew, mNSet, mPApp, mPSetIx, mPPop, mMeth, mNew, isIns, cellO, mLstN, mAddN, mAppN, semX, mTold, mCallX, xRet, xExpr, xSet, mRaise, mM, isL, isS, mOrV, truD, *])
local macro_rules | `(tactic| walk_at "el") => `(tactic| simp [semF, shared, after, mSeq, mSkip, mIf, mRet, mRetN, mRetV, mSet, mSetIx, mExpr, mB, mU, mTm, mPl, mK, mVar, mOp, mCons, mNil, bor, bors, mTst, mAndT, mOrT, mNotT, mAndE, mOrE, mNotE, mIfE, mIsi, isiD, mChn, chnL, cmpD, binD, addD, subD, mulD, modD, fdivD, powD, eqD, neD, ltD, leD, gtD, geD, isD, isnD, L2.M.isNon, negD, ixD, Bf.f, Bg.f, lenD, L2.M.intD, maxD, minD, repD, strD, gmaxD, gminD, sumD, sortD, anyD, allD, mCall, frz, fzO, lend, wb, mTup, mLst, fzs, cD, mAsg, bTup, bTps, mApp, tupD, lstD, mRev, revD, ofs_inj, ee_ii, ee_ss, ee_bb, ee_nn, ee_is, ee_si, ee_in, ee_ni, ee_tt, ee_ll, ee_maps, ee_0, ee_1, ee_2, ee_3, at_lit, at_nat, at_m1, at_m2, scD, emD, sizeLine_eq, ixN, sm_lit, mSrc, itemsD, plOf, rng1D, bNm, mSl, mPt, mNoP, slD, mPar, keepT, tmsO, setA, mFlow, zipX, enumX, itemsX, intsOf, ints_all, boolsOf, shaped_lay, lay_int, lay_bool, lay_none, lay_dict, lay_tup, lay_list, lay_ints, sortX_ints, mPlF, mPlI, mRd, mPU, mPB, mFSet, mFNew, mNSet, mPApp, mPSetIx, mPPop, mMeth, mNew, isIns, cellO, mLstN, mAddN, mAppN, semX, mTold, mCallX, xRet, xExpr, xSet, mRaise, mM, isL, isS, mOrV, truD, mLc, lcL, sameC, wipeC, restC, mYes, *])
local macro_rules | `(tactic| walk_at "ef") => `(tactic| simp [semF, shared, after, mSeq, mSkip, mIf, mRet, mRetN, mRetV, mSet, mSetIx, mExpr, mB, mU, mTm, mPl, mK, mVar, mOp, mCons, mNil, bor, bors, mTst, mAndT, mOrT, mNotT, mAndE, mOrE, mNotE, mIfE, mIsi, isiD, mChn, chnL, cmpD, binD, addD, subD, mulD, modD, fdivD, powD, eqD, neD, ltD, leD, gtD, geD, isD, isnD, L2.M.isNon, negD, ixD, Bf.f, Bg.f, lenD, L2.M.intD, maxD, minD, repD, strD, gmaxD, gminD, sumD, sortD, anyD, allD, mCall, frz, fzO, lend, wb, mTup, mLst, fzs, cD, mAsg, bTup, bTps, mApp, tupD, lstD, mRev, revD, ofs_inj, ee_ii, ee_ss, ee_bb, ee_nn, ee_is, ee_si, ee_in, ee_ni, ee_tt, ee_ll, ee_maps, ee_0, ee_1, ee_2, ee_3, at_lit, at_nat, at_m1, at_m2, scD, emD, sizeLine_eq, ixN, sm_lit, mSrc, itemsD, plOf, rng1D, bNm, mSl, mPt, mNoP, slD, mPar, keepT, tmsO, setA, mFlow, zipX, enumX, itemsX, intsOf, ints_all, boolsOf, shaped_lay, lay_int, lay_bool, lay_none, lay_dict, lay_tup, lay_list, lay_ints, sortX_ints, mPlF, mPlI, mRd, mPU, mPB, mFSet, mFNew, mNSet, mPApp, mPSetIx, mPPop, mMeth, mNew, isIns, cellO, mLstN, mAddN, mAppN, semX, mTold, mCallX, xRet, xExpr, xSet, mRaise, mM, isL, isS, mOrV, truD, mFor, forL, mLc, lcL, sameC, wipeC, restC, mYes, *])
local macro_rules | `(tactic| walk_at "rg") => `(tactic| (and_intros <;> grind))
local macro_rules | `(tactic| walk_at "nx") => `(tactic| (apply wx_nx; focus (walk_at "ev"; try first | exact ⟨rfl, rfl⟩ | rfl)))
local macro_rules | `(tactic| walk_at "ns") => `(tactic| (apply wx_nx; focus (walk_at "es"; try first | exact ⟨rfl, rfl⟩ | rfl)))
local macro_rules | `(tactic| walk_at "rt") => `(tactic| (apply wx_rt; focus (walk_at "ev"; try first | exact ⟨rfl, rfl⟩ | rfl)))
local macro_rules | `(tactic| walk_at "rs") => `(tactic| (apply wx_rt; focus (walk_at "es"; try first | exact ⟨rfl, rfl⟩ | rfl)))
local macro_rules | `(tactic| walk_at "ed") => `(tactic| simp [semF, shared, after, mSeq, mSkip, mIf, mRet, mRetN, mRetV, mSet, mSetIx, mExpr, mB, mU, mTm, mPl, mK, mVar, mOp, mCons, mNil, bor, bors, mTst, mAndT, mOrT, mNotT, mAndE, mOrE, mNotE, mIfE, mIsi, isiD, mChn, chnL, cmpD, binD, addD, subD, mulD, modD, fdivD, powD, eqD, neD, ltD, leD, gtD, geD, isD, isnD, L2.M.isNon, negD, ixD, Bf.f, Bg.f, lenD, L2.M.intD, maxD, minD, repD, strD, gmaxD, gminD, sumD, sortD, anyD, allD, mCall, frz, fzO, lend, wb, mTup, mLst, fzs, cD, mAsg, bTup, bTps, mApp, tupD, lstD, mRev, revD, ofs_inj, ee_ii, ee_ss, ee_bb, ee_nn, ee_is, ee_si, ee_in, ee_ni, ee_tt, ee_ll, ee_maps, ee_0, ee_1, ee_2, ee_3, at_lit, at_nat, at_m1, at_m2, scD, emD, sizeLine_eq, ixN, sm_lit, mSrc, itemsD, plOf, rng1D, bNm, mSl, mPt, mNoP, slD, mPar, keepT, tmsO, setA, mFlow, zipX, enumX, itemsX, intsOf, ints_all, boolsOf, shaped_lay, lay_int, lay_bool, lay_none, lay_dict, lay_tup, lay_list, lay_ints, sortX_ints, mPlF, mPlI, mRd, mPU, mPB, mFSet, mFNew, mNSet, mPApp, mPSetIx, mPPop, mMeth, mNew, isIns, cellO, mLstN, mAddN, mAppN, semX, mTold, mCallX, xRet, xExpr, xSet, mRaise, mM, isL, isS, mOrV, truD, mDNew, mDIn, mDGet, mDLen, mDPut, kyD, mNNew, mN1, mTake, mFnV, mCallF, mNIn, mNGet, mNPut, mNVals, mNList, nKs, mDGetD, mDList, mNNe, *])
structure Gq (k n : Nat) (d : PyData) : Prop where
  p : Pd d
  s : Shw k n d
theorem Gq.mono {k k' n n' : Nat} {d : PyData} (h : Gq k n d) (hk : k ≤ k') (hn : n ≤ n') : Gq k' n' d := ⟨h.p, h.s.mono hk hn⟩
def Th (d : PyData) : Prop := Gq 20 3000000 d ∨ d = .dict []
theorem Th.p {d : PyData} (h : Th d) : Pd d := by
  rcases h with h | rfl
  · exact h.p
  · exact rfl
end KW
namespace KW
open PySem PySem.Spec PyProof.Rows L2 L2.M
local macro_rules | `(tactic| walk_at "ev") => `(tactic| simp [semF, shared, after, mSeq, mSkip, mIf, mRet, mRetN, mRetV, mSet, mSetIx, mExpr, mB, mU, mTm, mPl, mK, mVar, mOp, mCons, mNil, bor, bors, mTst, mAndT, mOrT, mNotT, mAndE, mOrE, mNotE, mIfE, mIsi, isiD, mChn, chnL, cmpD, binD, addD, subD, mulD, modD, fdivD, powD, eqD, neD, ltD, leD, gtD, geD, isD, isnD, L2.M.isNon, negD, ixD, Bf.f, Bg.f, lenD, L2.M.intD, maxD, minD, repD, strD, gmaxD, gminD, sumD, sortD, anyD, allD, mCall, frz, fzO, lend, wb, mTup, mLst, fzs, cD, mAsg, bTup, bTps, mApp, tupD, lstD, mRev, revD, ofs_inj, ee_ii, ee_ss, ee_bb, ee_nn, ee_is, ee_si, ee_in, ee_ni, ee_tt, ee_ll, ee_maps, ee_0, ee_1, ee_2, ee_3, at_lit, at_nat, at_m1, at_m2, scD, emD, sizeLine_eq, ixN, sm_lit, mSrc, itemsD, plOf, rng1D, bNm, mSl, mPt, mNoP, slD, mPar, keepT, tmsO, setA, mFlow, zipX, enumX, itemsX, intsOf, ints_all, boolsOf, shaped_lay, lay_int, lay_bool, lay_none, lay_dict, lay_tup, lay_list, lay_ints, sortX_ints, mPlF, mPlI, mRd, mPU, mPB, mFSet, mFNew, mNSet, mPApp, mPSetIx, mPPop, mMeth, mNew, isIns, cellO, mLstN, mAddN, mAppN, semX, mTold, mCallX, xRet, xExpr, xSet, mRaise, mM, isL, isS, mOrV, truD])
local macro_rules | `(tactic| walk_at "es") => `(tactic| simp [semF, shared, after, mSeq, mSkip, mIf, mRet, mRetN, mRetV, mSet, mSetIx, mExpr, mB, mU, mTm, mPl, mK, mVar, mOp, mCons, mNil, bor, bors, mTst, mAndT, mOrT, mNotT, mAndE, mOrE, mNotE, mIfE, mIsi, isiD, mChn, chnL, cmpD, binD, addD, subD, mulD, modD, fdivD, powD, eqD, neD, ltD, leD, gtD, geD, isD, isnD, L2.M.isNon, negD, ixD, Bf.f, Bg.f, lenD, L2.M.intD, maxD, minD, repD, strD, gmaxD, gminD, sumD, sortD, anyD, allD, mCall, frz, fzO, lend, wb, mTup, mLst, fzs, cD, mAsg, bTup, bTps, mApp, tupD, lstD, mRev, revD, ofs_inj, ee_ii, ee_ss, ee_bb, ee_nn, ee_is, ee_si, ee_in, ee_ni, ee_tt, ee_ll, ee_maps, ee_0, ee_1, ee_2, ee_3, at_lit, at_nat, at_m1, at_m2, scD, emD, sizeLine_eq, ixN, sm_lit, mSrc, itemsD, plOf, rng1D, bNm, mSl, mPt, mNoP, slD, mPar, keepT, tmsO, setA, mFlow, zipX, enumX, itemsX, intsOf, ints_all, boolsOf, shaped_lay, lay_int, lay_bool, lay_none, lay_dict, lay_tup, lay_list, lay_ints, sortX_ints, mPlF, mPlI, mRd, mPU, mPB, mFSet, mFNew, mNSet, mPApp, mPSetIx, mPPop, mMeth, mNew, isIns, cellO, mLstN, mAddN, mAppN, semX, mTold, mCallX, xRet, xExpr, xSet, mRaise, mM, isL, isS, mOrV, truD, *])
local macro_rules | `(tactic| walk_at "el") => `(tactic| simp [semF, shared, after, mSeq, mSkip, mIf, mRet, mRetN, mRetV, mSet, mSetIx, mExpr, mB, mU, mTm, mPl, mK, mVar, mOp, mCons, mNil, bor, bors, mTst, mAndT, mOrT, mNotT, mAndE, mOrE, mNotE, mIfE, mIsi, isiD, mChn, chnL, cmpD, binD, addD, subD, mulD, modD, fdivD, powD, eqD, neD, ltD, leD, gtD, geD, isD, isnD, L2.M.isNon, negD, ixD, Bf.f, Bg.f, lenD, L2.M.intD, maxD, minD, repD, strD, gmaxD, gminD, sumD, sortD, anyD, allD, mCall, frz, fzO, lend, wb, mTup, mLst, fzs, cD, mAsg, bTup, bTps, mApp, tupD, lstD, mRev, revD, ofs_inj, ee_ii, ee_ss, ee_bb, ee_nn, ee_is, ee_si, ee_in, ee_ni, ee_tt, ee_ll, ee_maps, ee_0, ee_1, ee_2, ee_3, at_lit, at_nat, at_m1, at_m2, scD, emD, sizeLine_eq, ixN, sm_lit, mSrc, itemsD, plOf, rng1D, bNm, mSl, mPt, mNoP, slD, mPar, keepT, tmsO, setA, mFlow, zipX, enumX, itemsX, intsOf, ints_all, boolsOf, shaped_lay, lay_int, lay_bool, lay_none, lay_dict, lay_tup, lay_list, lay_ints, sortX_ints, mPlF, mPlI, mRd, mPU, mPB, mFSet, mFNew, mNSet, mPApp, mPSetIx, mPPop, mMeth, mNew, isIns, cellO, mLstN, mAddN, mAppN, semX, mTold, mCallX, xRet, xExpr, xSet, mRaise, mM, isL, isS, mOrV, truD, mLc, lcL, sameC, wipeC, restC, mYes, *])
local macro_rules | `(tactic| walk_at "ef") => `(tactic| simp [semF, shared, after, mSeq, mSkip, mIf, mRet, mRetN, mRetV, mSet, mSetIx, mExpr, mB, mU, mTm, mPl, mK, mVar, mOp, mCons, mNil, bor, bors, mTst, mAndT, mOrT, mNotT, mAndE, mOrE, mNotE, mIfE, mIsi, isiD, mChn, chnL, cmpD, binD, addD, subD, mulD, modD, fdivD, powD, eqD, neD, ltD, leD, gtD, geD, isD, isnD, L2.M.isNon, negD, ixD, Bf.f, Bg.f, lenD, L2.M.intD, maxD, minD, repD, strD, gmaxD, gminD, sumD, sortD, anyD, allD, mCall, frz, fzO, lend, wb, mTup, mLst, fzs, cD, mAsg, bTup, bTps, mApp, tupD, lstD, mRev, revD, ofs_inj, ee_ii, ee_ss, ee_bb, ee_nn, ee_is, ee_si, ee_in, ee_ni, ee_tt, ee_ll, ee_maps, ee_0, ee_1, ee_2, ee_3, at_lit, at_nat, at_m1, at_m2, scD, emD, sizeLine_eq, ixN, sm_lit, mSrc, itemsD, plOf, rng1D, bNm, mSl, mPt, mNoP, slD, mPar, keepT, tmsO, setA, mFlow, zipX, enumX, itemsX, intsOf, ints_all, boolsOf, shaped_lay, lay_int, lay_bool, lay_none, lay_dict, lay_tup, lay_list, lay_ints, sortX_ints, mPlF, mPlI, mRd, mPU, mPB, mFSet, mFNew, mNSet, mPApp, mPSetIx, mPPop, mMeth, mNew, isIns, cellO, mLstN, mAddN, mAppN, semX, mTold, mCallX, xRet, xExpr, xSet, mRaise, mM, isL, isS, mOrV, truD, mFor, forL, mLc, lcL, sameC, wipeC, restC, mYes, *])
local macro_rules | `(tactic| walk_at "rg") => `(tactic| (and_intros <;> grind))
local macro_rules | `(tactic| walk_at "nx") => `(tactic| (apply wx_nx; focus (walk_at "ev"; try first | exact ⟨rfl, rfl⟩ | rfl)))
local macro_rules | `(tactic| walk_at "ns") => `(tactic| (apply wx_nx; focus (walk_at "es"; try first | exact ⟨rfl, rfl⟩ | rfl)))
local macro_rules | `(tactic| walk_at "rt") => `(tactic| (apply wx_rt; focus (walk_at "ev"; try first | exact ⟨rfl, rfl⟩ | rfl)))
local macro_rules | `(tactic| walk_at "rs") => `(tactic| (apply wx_rt; focus (walk_at "es"; try first | exact ⟨rfl, rfl⟩ | rfl)))
local macro_rules | `(tactic| walk_at "ed") => `(tactic| simp [semF, shared, after, mSeq, mSkip, mIf, mRet, mRetN, mRetV, mSet, mSetIx, mExpr, mB, mU, mTm, mPl, mK, mVar, mOp, mCons, mNil, bor, bors, mTst, mAndT, mOrT, mNotT, mAndE, mOrE, mNotE, mIfE, mIsi, isiD, mChn, chnL, cmpD, binD, addD, subD, mulD, modD, fdivD, powD, eqD, neD, ltD, leD, gtD, geD, isD, isnD, L2.M.isNon, negD, ixD, Bf.f, Bg.f, lenD, L2.M.intD, maxD, minD, repD, strD, gmaxD, gminD, sumD, sortD, anyD, allD, mCall, frz, fzO, lend, wb, mTup, mLst, fzs, cD, mAsg, bTup, bTps, mApp, tupD, lstD, mRev, revD, ofs_inj, ee_ii, ee_ss, ee_bb, ee_nn, ee_is, ee_si, ee_in, ee_ni, ee_tt, ee_ll, ee_maps, ee_0, ee_1, ee_2, ee_3, at_lit, at_nat, at_m1, at_m2, scD, emD, sizeLine_eq, ixN, sm_lit, mSrc, itemsD, plOf, rng1D, bNm, mSl, mPt, mNoP, slD, mPar, keepT, tmsO, setA, mFlow, zipX, enumX, itemsX, intsOf, ints_all, boolsOf, shaped_lay, lay_int, lay_bool, lay_none, lay_dict, lay_tup, lay_list, lay_ints, sortX_ints, mPlF, mPlI, mRd, mPU, mPB, mFSet, mFNew, mNSet, mPApp, mPSetIx, mPPop, mMeth, mNew, isIns, cellO, mLstN, mAddN, mAppN, semX, mTold, mCallX, xRet, xExpr, xSet, mRaise, mM, isL, isS, mOrV, truD, mDNew, mDIn, mDGet, mDLen, mDPut, kyD, mNNew, mN1, mTake, mFnV, mCallF, mNIn, mNGet, mNPut, mNVals, mNList, nKs, mDGetD, mDList, mNNe, *])
def endX (io : List Bool) (cs : List C) (P : C ⊕ Xn → List C → Prop) : Fl → Cs → Prop
  | .rt c, ε => P (.inl c) (after io cs ε)
  | .nx, ε => P (.inl (.sh .none)) (after io cs ε)
  | .xc x, ε => P (.inr x) (after io cs ε)
  | _, _ => False
theorem rx_sem {io : List Bool} {ns : Nat} {m : XM} {cs : List C} {r : C ⊕ Xn} {cs' : List C} (hs : shared io cs = true) (h : Wx (m (cs ++ List.replicate (ns - cs.length) .no)) (endX io cs fun r' cs1 => r' = r ∧ cs1 = cs')) : semX io ns m cs = some (r, cs') := by
  obtain ⟨f, ε, e, q⟩ := h
  unfold semX
  rw [if_pos hs, e]
  cases f with
  | nx => obtain ⟨rfl, rfl⟩ := q; rfl
  | bk => exact q.elim
  | ct => exact q.elim
  | rt c => obtain ⟨rfl, rfl⟩ := q; rfl
  | xc x => obtain ⟨rfl, rfl⟩ := q; rfl
end KW
namespace KW
open PySem PySem.Spec PyProof.Rows L2 L2.M
def top (i : Nat) : Stmt := PySem.Challenge.pw_knockpurse_k36_rows_that_part_purses.main.body.getD i (.Pass ⟨0, 0, 0, 0⟩)
abbrev st_put_in : Stmt := top 11
def d_put_in : He.DefD := ⟨("put_in", none), "put_in", "put_in", defArgs st_put_in, defBody st_put_in, defScope st_put_in, [], []⟩
abbrev st_walked : Stmt := top 12
def d_walked : He.DefD := ⟨("walked", none), "walked", "walked", defArgs st_walked, defBody st_walked, defScope st_walked, [], []⟩
abbrev st_knocked : Stmt := top 13
def d_knocked : He.DefD := ⟨("knocked", none), "knocked", "knocked", defArgs st_knocked, defBody st_knocked, defScope st_knocked, [], []⟩
abbrev st_is_row : Stmt := top 14
def d_is_row : He.DefD := ⟨("is_row", none), "is_row", "is_row", defArgs st_is_row, defBody st_is_row, defScope st_is_row, [], []⟩
abbrev st_parts : Stmt := top 15
def d_parts : He.DefD := ⟨("parts", none), "parts", "parts", defArgs st_parts, defBody st_parts, defScope st_parts, [], []⟩
abbrev st_row_back : Stmt := top 16
def d_row_back : He.DefD := ⟨("row_back", none), "row_back", "row_back", defArgs st_row_back, defBody st_row_back, defScope st_row_back, [], []⟩
abbrev st_parted_by : Stmt := top 17
def d_parted_by : He.DefD := ⟨("parted_by", none), "parted_by", "parted_by", defArgs st_parted_by, defBody st_parted_by, defScope st_parted_by, [], []⟩
abbrev st_law_cell_at : Stmt := top 19
def d_law_cell_at : He.DefD := ⟨("_law_cell_at", none), "_law_cell_at", "_law_cell_at", defArgs st_law_cell_at, defBody st_law_cell_at, defScope st_law_cell_at, [], []⟩
abbrev st_law_next : Stmt := top 20
def d_law_next : He.DefD := ⟨("_law_next", none), "_law_next", "_law_next", defArgs st_law_next, defBody st_law_next, defScope st_law_next, [], []⟩
abbrev st_law_pen_of : Stmt := top 21
def d_law_pen_of : He.DefD := ⟨("_law_pen_of", none), "_law_pen_of", "_law_pen_of", defArgs st_law_pen_of, defBody st_law_pen_of, defScope st_law_pen_of, [], []⟩
abbrev st_law_draw : Stmt := top 22
def d_law_draw : He.DefD := ⟨("_law_draw", none), "_law_draw", "_law_draw", defArgs st_law_draw, defBody st_law_draw, defScope st_law_draw, [], []⟩
abbrev st_law_small : Stmt := top 23
def d_law_small : He.DefD := ⟨("_law_small", none), "_law_small", "_law_small", defArgs st_law_small, defBody st_law_small, defScope st_law_small, [], []⟩
abbrev st_law_odd : Stmt := top 24
def d_law_odd : He.DefD := ⟨("_law_odd", none), "_law_odd", "_law_odd", defArgs st_law_odd, defBody st_law_odd, defScope st_law_odd, [], []⟩
abbrev st_law_refusal : Stmt := top 25
def d_law_refusal : He.DefD := ⟨("_law_refusal", none), "_law_refusal", "_law_refusal", defArgs st_law_refusal, defBody st_law_refusal, defScope st_law_refusal, [], []⟩
abbrev st_law_pair : Stmt := top 26
def d_law_pair : He.DefD := ⟨("_law_pair", none), "_law_pair", "_law_pair", defArgs st_law_pair, defBody st_law_pair, defScope st_law_pair, [], []⟩
abbrev st_law_on : Stmt := top 27
def d_law_on : He.DefD := ⟨("_law_on", none), "_law_on", "_law_on", defArgs st_law_on, defBody st_law_on, defScope st_law_on, [], []⟩
abbrev st_law_shortest : Stmt := top 28
def d_law_shortest : He.DefD := ⟨("_law_shortest", none), "_law_shortest", "_law_shortest", defArgs st_law_shortest, defBody st_law_shortest, defScope st_law_shortest, [], []⟩
abbrev st_law_parts : Stmt := top 29
def d_law_parts : He.DefD := ⟨("_law_parts", none), "_law_parts", "_law_parts", defArgs st_law_parts, defBody st_law_parts, defScope st_law_parts, [], []⟩
abbrev st_law_told : Stmt := top 30
def d_law_told : He.DefD := ⟨("_law_told", none), "_law_told", "_law_told", defArgs st_law_told, defBody st_law_told, defScope st_law_told, [], []⟩
abbrev st_law_things : Stmt := top 31
def d_law_things : He.DefD := ⟨("_law_things", none), "_law_things", "_law_things", defArgs st_law_things, defBody st_law_things, defScope st_law_things, [], []⟩
abbrev st_law : Stmt := top 32
def d_law : He.DefD := ⟨("law", none), "law", "law", defArgs st_law, defBody st_law, defScope st_law, [], []⟩
abbrev st_TooGreat_init : Stmt := (clsBody (top 8)).getD 0 (.Pass ⟨0, 0, 0, 0⟩)
def d_TooGreat_init : He.DefD := ⟨("TooGreat", some "__init__"), "__init__", "TooGreat.__init__", defArgs st_TooGreat_init, defBody st_TooGreat_init, defScope st_TooGreat_init, [], []⟩
def fn : List He.DefD := [d_put_in, d_walked, d_knocked, d_is_row, d_parts, d_row_back, d_parted_by, d_law_cell_at, d_law_next, d_law_pen_of, d_law_draw, d_law_small, d_law_odd, d_law_refusal, d_law_pair, d_law_on, d_law_shortest, d_law_parts, d_law_told, d_law_things, d_law, d_TooGreat_init]
def fa : List He.Fa := [.glo "put_in", .glo "walked", .glo "knocked", .glo "is_row", .glo "parts", .glo "row_back", .glo "parted_by", .glo "_law_cell_at", .glo "_law_next", .glo "_law_pen_of", .glo "_law_draw", .glo "_law_small", .glo "_law_odd", .glo "_law_refusal", .glo "_law_pair", .glo "_law_on", .glo "_law_shortest", .glo "_law_parts", .glo "_law_told", .glo "_law_things", .glo "law", .int "MOST_PARTED" 60, .free "min", .free "enumerate", .free "isinstance", .free "str", .free "len", .free "max", .free "int", .free "ValueError", .free "RuntimeError", .free "ArithmeticError", .free "TypeError", .free "LookupError", .free "list", .free "range", .free "repr", .glo "TooGreat", .glo "NoText", .glo "NoStory", .glo "NoLine", .glo "NoNumber", .glo "NoStep", .glo "NoBeat", .glo "KnockError"]
abbrev PP : List Str := ["TooGreat"]
abbrev CC : List Str := ["NoBeat", "NoStep", "NoNumber", "NoLine", "NoStory", "NoText", "TooGreat"]
abbrev FFs : List (Str × Str) := [("TooGreat", "many"), ("TooGreat", "most")]
abbrev IIs : List Str := ["TooGreat"]
abbrev csA : List Ck := csOf PP CC ++ csF FFs ++ csI IIs
abbrev Vd (K : PySem.W.Frag) : Prop := ∀ k ∈ csA, k K = true
theorem vC {K : PySem.W.Frag} (V : Vd K) : ∀ k ∈ csOf PP CC, k K = true := fun k h => V k (List.mem_append_left _ (List.mem_append_left _ h))
theorem vF {K : PySem.W.Frag} (V : Vd K) : ∀ k ∈ csF FFs, k K = true := fun k h => V k (List.mem_append_left _ (List.mem_append_right _ h))
theorem vI {K : PySem.W.Frag} (V : Vd K) : ∀ k ∈ csI IIs, k K = true := fun k h => V k (List.mem_append_right _ h)
def okF (n : Str) : Xn → Bool := fun x => FFs.contains (x.cls, n)
theorem okF_ok {K : PySem.W.Frag} {n : Str} (V : Vd K) : ∀ x, okF n x = true → XfC K (He.ga K x.cls) ∧ PySem.W.findIn K (.ref (He.ga K x.cls)) n = some none := fun x h => csF_ok (vF V) (List.contains_iff_mem.mp h)
abbrev Wd (K : PySem.W.Frag) (mg : Str → Option Value) : Prop := Wo fa fn K mg
noncomputable def m_put_in : XM := mSeq (mRet (mOp (Bf.f .min) (mCons (mTm (mB ixD (mPl 0) (mTm (mK (.int 2))))) (mCons (mTm (mB (binD .Add) (mPl 1) (mTm (mB ixD (mPl 0) (mTm (mK (.int 0))))))) (mNil))))) (mSkip)
noncomputable def g_put_in : GM := semF [true, true] 2 m_put_in
noncomputable def m_walked : XM := mSeq (mSet [0, 1] 2 (mB ixD (mPl 0) (mTm (mK (.int 3))))) (mSeq (mSet [0, 1] 3 (mLst (mNil))) (mSeq (mFor [0, 1] (mSrc enumS (mCons (mTm (mVar 1)) mNil)) (bTup [bNm 4, bNm 5]) (mSeq (mIf (mTst (mB (cmpD .Eq) (mPl 5) (mTm (mK (.str "a"))))) (mSeq (mSet [0, 1] 2 (mCall [true, true] g_put_in (mCons (mPl 0) (mCons (mPl 2) (mNil))))) (mSkip)) (mSeq (mIf (mTst (mB (cmpD .GtE) (mPl 2) (mTm (mB ixD (mPl 0) (mTm (mK (.int 1))))))) (mSeq (mSet [0, 1] 2 (mB (binD .Sub) (mPl 2) (mTm (mB ixD (mPl 0) (mTm (mK (.int 1))))))) (mSkip)) (mSeq (mApp 3 (mVar 4)) (mSkip))) (mSkip))) (mSkip))) (mSeq (mRet (mTup (mCons (mPl 2) (mCons (mPl 3) (mNil))))) (mSkip))))
noncomputable def g_walked : GM := semF [true, true] 6 m_walked
noncomputable def m_knocked : XM := mSeq (mIf (mTst (mB (cmpD .GtE) (mPl 1) (mTm (mB ixD (mPl 0) (mTm (mK (.int 1))))))) (mSeq (mRet (mTup (mCons (mTm (mK (.bool true))) (mCons (mTm (mB (binD .Sub) (mPl 1) (mTm (mB ixD (mPl 0) (mTm (mK (.int 1))))))) (mNil))))) (mSkip)) (mSkip)) (mSeq (mRet (mTup (mCons (mTm (mK (.bool false))) (mCons (mPl 1) (mNil))))) (mSkip))
noncomputable def g_knocked : GM := semF [true, true] 2 m_knocked
noncomputable def m_is_row : XM := mSeq (mRet (mAndE (mIsi .str (mPl 0)) (mB (cmpD .Eq) (mTm (mLc (mSrc itemsD (mCons (mTm (mVar 0)) mNil)) (bNm 1) (mTst (mB ninSD (mPl 1) (mTm (mK (.str "ak"))))) (mVar 1) [1])) (mTm (mLst (mNil)))))) (mSkip)
noncomputable def g_is_row : GM := semF [true] 2 m_is_row
noncomputable def m_parts : XM := mSeq (mIf (mOrT (mNotT (mTst (mCall [true] g_is_row (mCons (mPl 2) (mNil))))) (mTst (mB (cmpD .NotEq) (mTm (mSl (mPl 2) (mPt (mTm (mU negD (mTm (mK (.int 1)))))) (mNoP))) (mTm (mK (.str "k")))))) (mSeq (mRet (mK (.bool false))) (mSkip)) (mSkip)) (mSeq (mSet [0, 1, 2] 3 (mB (binD .Sub) (mTm (mOp (Bf.f .len) (mCons (mPl 2) (mNil)))) (mTm (mK (.int 1))))) (mSeq (mRet (mB (cmpD .NotEq) (mTm (mB (cmpD .In) (mPl 3) (mTm (mB ixD (mTm (mCall [true, true] g_walked (mCons (mPl 0) (mCons (mPl 2) (mNil))))) (mTm (mK (.int 1))))))) (mTm (mB (cmpD .In) (mPl 3) (mTm (mB ixD (mTm (mCall [true, true] g_walked (mCons (mPl 1) (mCons (mPl 2) (mNil))))) (mTm (mK (.int 1))))))))) (mSkip)))
noncomputable def g_parts : GM := semF [true, true, true] 4 m_parts
noncomputable def m_row_back : XM := mSeq (mWhile (mTst (mB (cmpD .IsNot) (mTm (mNGet 0 (mPl 1))) (mTm (mK .none)))) (mSeq (mAsg [1, 3] [0] (bTup [bNm 1, bNm 3]) (mNGet 0 (mPl 1))) (mSeq (mSet [0] 2 (mB (binD .Add) (mPl 3) (mPl 2))) (mSkip)))) (mSeq (mRetV [0] 2) (mSkip))
noncomputable def g_row_back : GM := semF [true, false, false] 4 m_row_back
noncomputable def m_parted_by : XM := mSeq (mSet [0, 1] 2 (mOp (Bf.f .max) (mCons (mTm (mB ixD (mPl 0) (mTm (mK (.int 2))))) (mCons (mTm (mB ixD (mPl 1) (mTm (mK (.int 2))))) (mNil))))) (mSeq (mIf (mTst (mB (cmpD .Gt) (mPl 2) (mTm (mK (.int 60))))) (mSeq (mRaiseX "TooGreat" ["many", "most"] (mCons (mPl 2) (mCons (mTm (mK (.int 60))) (mNil)))) (mSkip)) (mSkip)) (mSeq (mSet [0, 1] 3 (mN1 (mTup (mCons (mTm (mB ixD (mPl 0) (mTm (mK (.int 3))))) (mCons (mTm (mB ixD (mPl 1) (mTm (mK (.int 3))))) (mNil)))) (mK .none))) (mSeq (mSet [0, 1] 4 (mLst (mCons (mTm (mTup (mCons (mTm (mB ixD (mPl 0) (mTm (mK (.int 3))))) (mCons (mTm (mB ixD (mPl 1) (mTm (mK (.int 3))))) (mNil))))) (mNil)))) (mSeq (mSet [0, 1] 5 (mK (.int 0))) (mSeq (mWhile (mTst (mB (cmpD .Lt) (mPl 5) (mTm (mOp (Bf.f .len) (mCons (mPl 4) (mNil)))))) (mSeq (mSet [0, 1] 6 (mB ixD (mPl 4) (mPl 5))) (mSeq (mSet [0, 1] 5 (mB (binD .Add) (mPl 5) (mTm (mK (.int 1))))) (mSeq (mPar [0, 1] [7, 8] (mCons (mTm (mCall [true, true] g_knocked (mCons (mPl 0) (mCons (mTm (mB ixD (mPl 6) (mTm (mK (.int 0))))) (mNil))))) (mCons (mTm (mCall [true, true] g_knocked (mCons (mPl 1) (mCons (mTm (mB ixD (mPl 6) (mTm (mK (.int 1))))) (mNil))))) (mNil)))) (mSeq (mIf (mTst (mB (cmpD .NotEq) (mTm (mB ixD (mPl 7) (mTm (mK (.int 0))))) (mTm (mB ixD (mPl 8) (mTm (mK (.int 0))))))) (mSeq (mRet (mCall [true, false, false] g_row_back (mCons (mPl 3) (mCons (mPl 6) (mCons (mTm (mK (.str "k"))) (mNil)))))) (mSkip)) (mSkip)) (mSeq (mFor [0, 1] (mSrc itemsD (mCons (mTm (mTup (mCons (mTm (mTup (mCons (mTm (mK (.str "a"))) (mCons (mTm (mTup (mCons (mTm (mCall [true, true] g_put_in (mCons (mPl 0) (mCons (mTm (mB ixD (mPl 6) (mTm (mK (.int 0))))) (mNil))))) (mCons (mTm (mCall [true, true] g_put_in (mCons (mPl 1) (mCons (mTm (mB ixD (mPl 6) (mTm (mK (.int 1))))) (mNil))))) (mNil))))) (mNil))))) (mCons (mTm (mTup (mCons (mTm (mK (.str "k"))) (mCons (mTm (mTup (mCons (mTm (mB ixD (mPl 7) (mTm (mK (.int 1))))) (mCons (mTm (mB ixD (mPl 8) (mTm (mK (.int 1))))) (mNil))))) (mNil))))) (mNil))))) mNil)) (bTup [bNm 9, bNm 10]) (mSeq (mIf (mTst (mNIn true 3 (mPl 10))) (mSeq (mNPut 3 (mTup (mCons (mPl 6) (mCons (mPl 9) (mNil)))) (mPl 10)) (mSeq (mApp 4 (mVar 10)) (mSkip))) (mSkip)) (mSkip))) (mSkip))))))) (mSeq (mRet (mK .none)) (mSkip)))))))
noncomputable def g_parted_by : GX := semX [true, true] 11 m_parted_by
noncomputable def m_law_cell_at : XM := mSeq (mIf (mTst (mB (cmpD .Lt) (mPl 1) (mTm (mOp (Bf.f .len) (mCons (mPl 0) (mNil)))))) (mSeq (mRet (mB ixD (mPl 0) (mPl 1))) (mSkip)) (mSkip)) (mSeq (mRet (mK (.int 0))) (mSkip))
noncomputable def g_law_cell_at : GM := semF [true, true] 2 m_law_cell_at
noncomputable def m_law_next : XM := mSeq (mSet [] 0 (mB (binD .Mod) (mTm (mB (binD .Add) (mPl 0) (mTm (mK (.int 7919))))) (mTm (mK (.int 2147483647))))) (mSeq (mRet (mB (binD .Mod) (mTm (mB (binD .Add) (mTm (mB (binD .Add) (mTm (mB (binD .Mult) (mPl 0) (mPl 0))) (mTm (mB (binD .Mult) (mTm (mK (.int 48271))) (mPl 0))))) (mTm (mK (.int 12345))))) (mTm (mK (.int 2147483629))))) (mSkip))
noncomputable def g_law_next : GM := semF [false] 1 m_law_next
noncomputable def m_law_pen_of : XM := mSeq (mSet [0] 1 (mOp (Bf.f .max) (mCons (mPl 0) (mCons (mTm (mB (binD .Sub) (mTm (mK (.int 0))) (mPl 0))) (mNil))))) (mSeq (mRet (mLst (mCons (mPl 1) (mCons (mTm (mOp (Bf.f .int) (mCons (mTm (mB (cmpD .GtE) (mPl 1) (mTm (mB (binD .Pow) (mTm (mK (.int 10))) (mTm (mK (.int 18))))))) (mNil)))) (mCons (mTm (mB (binD .Mod) (mPl 1) (mTm (mK (.int 1000003))))) (mNil)))))) (mSkip))
noncomputable def g_law_pen_of : GM := semF [true] 2 m_law_pen_of
noncomputable def m_law_draw : XM := mSeq (mIf (mAndT (mTst (mB (cmpD .Eq) (mTm (mB ixD (mPl 0) (mTm (mK (.int 1))))) (mTm (mK (.int 1))))) (mTst (mB (cmpD .Gt) (mTm (mB ixD (mPl 0) (mTm (mK (.int 0))))) (mTm (mK (.int 0)))))) (mSeq (mSet [0, 1] 2 (mB (binD .Mod) (mTm (mB ixD (mPl 0) (mTm (mK (.int 0))))) (mPl 1))) (mSeq (mSetIx 0 (mB (binD .FloorDiv) (mTm (mB ixD (mPl 0) (mTm (mK (.int 0))))) (mPl 1)) (mTm (mK (.int 0)))) (mSeq (mRetV [0, 1] 2) (mSkip)))) (mSkip)) (mSeq (mSetIx 0 (mCall [false] g_law_next (mCons (mTm (mB (binD .Add) (mTm (mCall [false] g_law_next (mCons (mTm (mB ixD (mPl 0) (mTm (mK (.int 2))))) (mNil)))) (mTm (mK (.int 7))))) (mNil))) (mTm (mK (.int 2)))) (mSeq (mRet (mB (binD .Mod) (mTm (mB (binD .FloorDiv) (mTm (mB ixD (mPl 0) (mTm (mK (.int 2))))) (mTm (mK (.int 64))))) (mPl 1))) (mSkip)))
noncomputable def g_law_draw : GM := semF [true, true] 3 m_law_draw
noncomputable def m_law_small : XM := mSeq (mSet [0, 1] 2 (mCall [true, true] g_law_draw (mCons (mPl 0) (mCons (mTm (mB (binD .Add) (mPl 1) (mTm (mK (.int 1))))) (mNil))))) (mSeq (mSet [0, 1] 3 (mTup (mCons (mTm (mCall [true, true] g_law_draw (mCons (mPl 0) (mCons (mTm (mK (.int 9))) (mNil))))) (mCons (mTm (mB (binD .Add) (mTm (mK (.int 1))) (mTm (mCall [true, true] g_law_draw (mCons (mPl 0) (mCons (mTm (mK (.int 9))) (mNil))))))) (mCons (mPl 2) (mNil)))))) (mSeq (mRet (mB (binD .Add) (mPl 3) (mTm (mTup (mCons (mTm (mB ixD (mTm (mLst (mCons (mTm (mK (.int 0))) (mCons (mPl 2) (mCons (mTm (mCall [true, true] g_law_draw (mCons (mPl 0) (mCons (mTm (mB (binD .Add) (mPl 2) (mTm (mK (.int 1))))) (mNil))))) (mNil)))))) (mTm (mCall [true, true] g_law_draw (mCons (mPl 0) (mCons (mTm (mK (.int 3))) (mNil))))))) (mNil)))))) (mSkip)))
noncomputable def g_law_small : GM := semF [true, true] 4 m_law_small
noncomputable def m_law_odd : XM := mSeq (mSet [0] 1 (mLst (mCons (mTm (mK .none)) (mCons (mTm (mK (.bool true))) (mCons (mTm (mK (.bool false))) (mCons (mTm (mU negD (mTm (mK (.int 1))))) (mCons (mTm (mK (.str ""))) (mCons (mTm (mK (.str "silent"))) (mCons (mTm (mLst (mNil))) (mCons (mTm (mTup (mNil))) (mCons (mTm (mK (.dict []))) (mCons (mTm (mTup (mCons (mTm (mK (.int 1))) (mNil)))) (mCons (mTm (mB (binD .Pow) (mTm (mK (.int 10))) (mTm (mK (.int 30))))) (mCons (mTm (mK (.str "a"))) (mCons (mTm (mLst (mCons (mTm (mK (.int 1))) (mCons (mTm (mK (.int 2))) (mNil))))) (mCons (mTm (mTup (mCons (mTm (mTup (mCons (mTm (mK (.int 1))) (mCons (mTm (mK (.int 2))) (mNil))))) (mNil)))) (mCons (mTm (mK (.dict [(.int 1, .int 2)]))) (mCons (mTm (mTup (mCons (mTm (mK (.int 0))) (mCons (mTm (mK (.int 1))) (mCons (mTm (mK (.int 2))) (mNil)))))) (mNil))))))))))))))))))) (mSeq (mRet (mB ixD (mPl 1) (mTm (mCall [true, true] g_law_draw (mCons (mPl 0) (mCons (mTm (mOp (Bf.f .len) (mCons (mPl 1) (mNil)))) (mNil))))))) (mSkip))
noncomputable def g_law_odd : GM := semF [true] 2 m_law_odd
noncomputable def m_law_refusal (a : Addr) (cls : Value) (d : Option Addr) : XM := mSeq (mSet [0] 1 (mLst (mCons (mTm (mIsX 0 a cls d (isC PP "NoBeat"))) (mCons (mTm (mIsX 0 a cls d (isC PP "NoStep"))) (mCons (mTm (mIsX 0 a cls d (isC PP "NoNumber"))) (mCons (mTm (mIsX 0 a cls d (isC PP "NoLine"))) (mNil))))))) (mSeq (mSet [0] 1 (mB (binD .Add) (mPl 1) (mTm (mLst (mCons (mTm (mIsX 0 a cls d (isC PP "NoStory"))) (mCons (mTm (mIsX 0 a cls d (isC PP "NoText"))) (mCons (mTm (mIsX 0 a cls d (isC PP "TooGreat"))) (mNil)))))))) (mSeq (mIf (mOrT (mNotT (mTst (mIsX 0 a cls d (isK PP true)))) (mTst (mIsX 0 a cls d (isK PP false)))) (mSeq (mRet (mTup (mCons (mTm (mK (.str "other"))) (mNil)))) (mSkip)) (mSkip)) (mSeq (mIf (mTst (mB (cmpD .NotEq) (mTm (mM cntL isL (mPl 1) (mCons (mTm (mK (.bool true))) (mNil)))) (mTm (mK (.int 1))))) (mSeq (mRet (mTup (mCons (mTm (mK (.str "other"))) (mNil)))) (mSkip)) (mSkip)) (mSeq (mSet [0] 2 (mB ixD (mTm (mLst (mCons (mTm (mK (.str "beat"))) (mCons (mTm (mK (.str "step"))) (mCons (mTm (mK (.str "number"))) (mCons (mTm (mK (.str "line"))) (mCons (mTm (mK (.str "story"))) (mCons (mTm (mK (.str "text"))) (mCons (mTm (mK (.str "great"))) (mNil)))))))))) (mTm (mM indexD isL (mPl 1) (mCons (mTm (mK (.bool true))) (mNil)))))) (mSeq (mIf (mTst (mB (cmpD .Eq) (mPl 2) (mTm (mK (.str "great"))))) (mSeq (mRet (mTup (mCons (mPl 2) (mCons (mTm (mFldX 0 a cls d "many" (okF "many"))) (mCons (mTm (mFldX 0 a cls d "most" (okF "most"))) (mNil)))))) (mSkip)) (mSkip)) (mSeq (mIf (mTst (mB (cmpD .Eq) (mPl 2) (mTm (mK (.str "story"))))) (mSeq (mRet (mTup (mCons (mPl 2) (mCons (mTm (mFldX 0 a cls d "number" (okF "number"))) (mNil))))) (mSkip)) (mSkip)) (mSeq (mRet (mIfE (mTst (mB (cmpD .Eq) (mPl 2) (mTm (mK (.str "text"))))) (mTup (mCons (mPl 2) (mCons (mTm (mFldX 0 a cls d "row" (okF "row"))) (mNil)))) (mTup (mCons (mPl 2) (mNil))))) (mSkip))))))))
noncomputable def g_law_refusal : RGM := fun a cls d => semF [true] 3 (m_law_refusal a cls d)
open Classical in
noncomputable def ref_law_refusal : Xn → Option D := fun x => if (∃ a0 a1, x = ⟨"TooGreat", [("most", a1), ("many", a0)]⟩) then some (.tuple [.str "great", (x.as.lookup ("many" : Str)).getD .none, (x.as.lookup ("most" : Str)).getD .none]) else none
theorem rf_law_refusal : ∀ y r, ref_law_refusal y = some r → y.cls ∈ PP := by
  intro y r h
  unfold ref_law_refusal at h
  repeat' split at h
  all_goals first | (cases h; done) | (rename_i e; rw [e]; decide) | (rename_i e; obtain ⟨a, rfl⟩ := e; decide) | (rename_i e; obtain ⟨a, b, rfl⟩ := e; decide) | (rename_i e; obtain ⟨a, rfl⟩ := e; simp [PP]; done) | (rename_i e; obtain ⟨a, b, rfl⟩ := e; simp [PP]; done) | (subst_vars; decide)
theorem hG_law_refusal (a : Addr) (cls : Value) (d : Option Addr) : ∀ x r, ref_law_refusal x = some r → g_law_refusal a cls d [.px a cls d x] = some (.sh r, [.px a cls d x]) := by
  intro x r h
  unfold ref_law_refusal at h
  repeat' split at h
  all_goals first | (cases h; done) | (subst_vars; cases h; unfold g_law_refusal m_law_refusal; simp [semF, shared, after, mSeq, mSkip, mIf, mRet, mRetN, mRetV, mSet, mSetIx, mExpr, mB, mU, mTm, mPl, mK, mVar, mOp, mCons, mNil, bor, bors, mTst, mAndT, mOrT, mNotT, mAndE, mOrE, mNotE, mIfE, mIsi, isiD, mChn, chnL, cmpD, binD, addD, subD, mulD, modD, fdivD, powD, eqD, neD, ltD, leD, gtD, geD, isD, isnD, L2.M.isNon, negD, ixD, Bf.f, Bg.f, lenD, L2.M.intD, maxD, minD, repD, strD, gmaxD, gminD, sumD, sortD, anyD, allD, mCall, frz, fzO, lend, wb, mTup, mLst, fzs, cD, mAsg, bTup, bTps, mApp, tupD, lstD, mRev, revD, scD, emD, sizeLine_eq, ixN, sm_lit, mSrc, itemsD, plOf, rng1D, bNm, mSl, mPt, mNoP, slD, mPar, keepT, tmsO, setA, mFlow, zipX, enumX, itemsX, intsOf, ints_all, boolsOf, sortX_ints, mPlF, mPlI, mRd, mPU, mPB, mFSet, mFNew, mNSet, mPApp, mPSetIx, mPPop, mMeth, mNew, isIns, cellO, mLstN, mAddN, mAppN, semX, mTold, mCallX, xRet, xExpr, xSet, mRaise, mM, isL, isS, mOrV, truD, strEq, strB, eqBB, eqII, eqSS, atI, PyData.canLay0, PyData.canLayAll0, mIsX, isC, isK, isCs, mFldX, okF, mM, isL, cntL, indexD, PP, List.lookup, List.findIdx?, List.findIdx?.go, SeqAt.shaped, PyData.depth, PyData.depthAll, List.countP, List.countP.go]; done) | (rename_i e; obtain ⟨a0, rfl⟩ := e; cases h; unfold g_law_refusal m_law_refusal; simp [semF, shared, after, mSeq, mSkip, mIf, mRet, mRetN, mRetV, mSet, mSetIx, mExpr, mB, mU, mTm, mPl, mK, mVar, mOp, mCons, mNil, bor, bors, mTst, mAndT, mOrT, mNotT, mAndE, mOrE, mNotE, mIfE, mIsi, isiD, mChn, chnL, cmpD, binD, addD, subD, mulD, modD, fdivD, powD, eqD, neD, ltD, leD, gtD, geD, isD, isnD, L2.M.isNon, negD, ixD, Bf.f, Bg.f, lenD, L2.M.intD, maxD, minD, repD, strD, gmaxD, gminD, sumD, sortD, anyD, allD, mCall, frz, fzO, lend, wb, mTup, mLst, fzs, cD, mAsg, bTup, bTps, mApp, tupD, lstD, mRev, revD, scD, emD, sizeLine_eq, ixN, sm_lit, mSrc, itemsD, plOf, rng1D, bNm, mSl, mPt, mNoP, slD, mPar, keepT, tmsO, setA, mFlow, zipX, enumX, itemsX, intsOf, ints_all, boolsOf, sortX_ints, mPlF, mPlI, mRd, mPU, mPB, mFSet, mFNew, mNSet, mPApp, mPSetIx, mPPop, mMeth, mNew, isIns, cellO, mLstN, mAddN, mAppN, semX, mTold, mCallX, xRet, xExpr, xSet, mRaise, mM, isL, isS, mOrV, truD, strEq, strB, eqBB, eqII, eqSS, atI, PyData.canLay0, PyData.canLayAll0, mIsX, isC, isK, isCs, mFldX, okF, mM, isL, cntL, indexD, PP, List.lookup, List.findIdx?, List.findIdx?.go, SeqAt.shaped, PyData.depth, PyData.depthAll, List.countP, List.countP.go]; done) | (rename_i e; obtain ⟨a0, a1, rfl⟩ := e; cases h; unfold g_law_refusal m_law_refusal; simp [semF, shared, after, mSeq, mSkip, mIf, mRet, mRetN, mRetV, mSet, mSetIx, mExpr, mB, mU, mTm, mPl, mK, mVar, mOp, mCons, mNil, bor, bors, mTst, mAndT, mOrT, mNotT, mAndE, mOrE, mNotE, mIfE, mIsi, isiD, mChn, chnL, cmpD, binD, addD, subD, mulD, modD, fdivD, powD, eqD, neD, ltD, leD, gtD, geD, isD, isnD, L2.M.isNon, negD, ixD, Bf.f, Bg.f, lenD, L2.M.intD, maxD, minD, repD, strD, gmaxD, gminD, sumD, sortD, anyD, allD, mCall, frz, fzO, lend, wb, mTup, mLst, fzs, cD, mAsg, bTup, bTps, mApp, tupD, lstD, mRev, revD, scD, emD, sizeLine_eq, ixN, sm_lit, mSrc, itemsD, plOf, rng1D, bNm, mSl, mPt, mNoP, slD, mPar, keepT, tmsO, setA, mFlow, zipX, enumX, itemsX, intsOf, ints_all, boolsOf, sortX_ints, mPlF, mPlI, mRd, mPU, mPB, mFSet, mFNew, mNSet, mPApp, mPSetIx, mPPop, mMeth, mNew, isIns, cellO, mLstN, mAddN, mAppN, semX, mTold, mCallX, xRet, xExpr, xSet, mRaise, mM, isL, isS, mOrV, truD, strEq, strB, eqBB, eqII, eqSS, atI, PyData.canLay0, PyData.canLayAll0, mIsX, isC, isK, isCs, mFldX, okF, mM, isL, cntL, indexD, PP, List.lookup, List.findIdx?, List.findIdx?.go, SeqAt.shaped, PyData.depth, PyData.depthAll, List.countP, List.countP.go]; done)
noncomputable def m_law_pair : XM := mSeq (mPar [0] [1, 2] (mCons (mTm (mCall [true, true] g_law_draw (mCons (mPl 0) (mCons (mTm (mK (.int 4))) (mNil))))) (mCons (mTm (mCall [true, true] g_law_draw (mCons (mPl 0) (mCons (mTm (mK (.int 4))) (mNil))))) (mNil)))) (mSeq (mSet [0] 3 (mCall [true, true] g_law_small (mCons (mPl 0) (mCons (mTm (mB ixD (mTm (mLst (mCons (mTm (mK (.int 12))) (mCons (mTm (mK (.int 60))) (mCons (mTm (mK (.int 62))) (mNil)))))) (mTm (mCall [true, true] g_law_draw (mCons (mPl 0) (mCons (mTm (mK (.int 3))) (mNil))))))) (mNil))))) (mSeq (mIf (mTst (mB (cmpD .Eq) (mPl 1) (mTm (mK (.int 0))))) (mSeq (mRet (mTup (mCons (mPl 3) (mCons (mPl 3) (mNil))))) (mSkip)) (mSkip)) (mSeq (mIf (mTst (mB (cmpD .Eq) (mPl 1) (mTm (mK (.int 1))))) (mSeq (mSet [0] 4 (mOp (Bf.f .max) (mCons (mTm (mOp (Bf.f .int) (mCons (mTm (mB (cmpD .Eq) (mPl 2) (mTm (mK (.int 1))))) (mNil)))) (mCons (mTm (mB (binD .Sub) (mTm (mB (binD .Add) (mTm (mB ixD (mPl 3) (mPl 2))) (mTm (mK (.int 1))))) (mTm (mB (binD .Mult) (mTm (mK (.int 2))) (mTm (mCall [true, true] g_law_draw (mCons (mPl 0) (mCons (mTm (mK (.int 2))) (mNil))))))))) (mNil))))) (mSeq (mSet [0] 5 (mB (binD .Add) (mTm (mB (binD .Add) (mTm (mSl (mPl 3) (mNoP) (mPt (mPl 2)))) (mTm (mTup (mCons (mPl 4) (mNil)))))) (mTm (mSl (mPl 3) (mPt (mTm (mB (binD .Add) (mPl 2) (mTm (mK (.int 1)))))) (mNoP))))) (mSeq (mRet (mTup (mCons (mPl 3) (mCons (mTm (mB (binD .Add) (mTm (mSl (mPl 5) (mNoP) (mPt (mTm (mK (.int 3)))))) (mTm (mTup (mCons (mTm (mOp (Bf.f .min) (mCons (mTm (mB ixD (mPl 5) (mTm (mK (.int 2))))) (mCons (mTm (mB ixD (mPl 5) (mTm (mK (.int 3))))) (mNil))))) (mNil)))))) (mNil))))) (mSkip)))) (mSkip)) (mSeq (mRet (mTup (mCons (mPl 3) (mCons (mTm (mCall [true, true] g_law_small (mCons (mPl 0) (mCons (mTm (mB ixD (mTm (mLst (mCons (mTm (mK (.int 12))) (mCons (mTm (mK (.int 60))) (mCons (mTm (mK (.int 62))) (mNil)))))) (mTm (mCall [true, true] g_law_draw (mCons (mPl 0) (mCons (mTm (mK (.int 3))) (mNil))))))) (mNil))))) (mNil))))) (mSkip)))))
noncomputable def g_law_pair : GM := semF [true] 6 m_law_pair
noncomputable def m_law_on : XM := mSeq (mIf (mTst (mB (cmpD .Eq) (mPl 2) (mTm (mK (.str "a"))))) (mSeq (mRet (mOp (Bf.f .min) (mCons (mTm (mB ixD (mPl 0) (mTm (mK (.int 2))))) (mCons (mTm (mB (binD .Add) (mPl 1) (mTm (mB ixD (mPl 0) (mTm (mK (.int 0))))))) (mNil))))) (mSkip)) (mSkip)) (mSeq (mRet (mIfE (mTst (mB (cmpD .GtE) (mPl 1) (mTm (mB ixD (mPl 0) (mTm (mK (.int 1))))))) (mB (binD .Sub) (mPl 1) (mTm (mB ixD (mPl 0) (mTm (mK (.int 1)))))) (mVar 1))) (mSkip))
noncomputable def g_law_on : GM := semF [true, true, true] 3 m_law_on
noncomputable def m_law_shortest : XM := mSeq (mSet [0, 1] 2 (mN1 (mTup (mCons (mTm (mB ixD (mPl 0) (mTm (mK (.int 3))))) (mCons (mTm (mB ixD (mPl 1) (mTm (mK (.int 3))))) (mNil)))) (mK (.str "")))) (mSeq (mSet [0, 1] 3 (mN1 (mTup (mCons (mTm (mB ixD (mPl 0) (mTm (mK (.int 3))))) (mCons (mTm (mB ixD (mPl 1) (mTm (mK (.int 3))))) (mNil)))) (mK (.bool true)))) (mSeq (mWhile (mTst (mNNe 2)) (mSeq (mSet [0, 1] 4 (mLc (mNSrc 2) (bNm 5) (mTst (mB (cmpD .NotEq) (mTm (mB (cmpD .GtE) (mTm (mB ixD (mPl 5) (mTm (mK (.int 0))))) (mTm (mB ixD (mPl 0) (mTm (mK (.int 1))))))) (mTm (mB (cmpD .GtE) (mTm (mB ixD (mPl 5) (mTm (mK (.int 1))))) (mTm (mB ixD (mPl 1) (mTm (mK (.int 1))))))))) (mB (binD .Add) (mTm (mNGet 2 (mPl 5))) (mTm (mK (.str "k")))) [5])) (mSeq (mIf (mTst (mB (cmpD .NotEq) (mPl 4) (mTm (mLst (mNil))))) (mSeq (mRet (mOp minLD (mCons (mPl 4) (mNil)))) (mSkip)) (mSkip)) (mSeq (mSet [0, 1] 6 (mNNew)) (mSeq (mFor [0, 1] (mNSrc 2) (bNm 5) (mSeq (mFor [0, 1] (mSrc itemsD (mCons (mTm (mK (.str "ak"))) mNil)) (bNm 7) (mSeq (mSet [0, 1] 8 (mTup (mCons (mTm (mCall [true, true, true] g_law_on (mCons (mPl 0) (mCons (mTm (mB ixD (mPl 5) (mTm (mK (.int 0))))) (mCons (mPl 7) (mNil)))))) (mCons (mTm (mCall [true, true, true] g_law_on (mCons (mPl 1) (mCons (mTm (mB ixD (mPl 5) (mTm (mK (.int 1))))) (mCons (mPl 7) (mNil)))))) (mNil))))) (mSeq (mIf (mTst (mNIn true 3 (mPl 8))) (mSeq (mNPut 6 (mOp minSD (mCons (mTm (mNGetD 6 (mVar 8) (mK (.str "l")))) (mCons (mTm (mB (binD .Add) (mTm (mNGet 2 (mPl 5))) (mPl 7))) (mNil)))) (mPl 8)) (mSkip)) (mSkip)) (mSkip)))) (mSkip))) (mSeq (mFor [0, 1] (mNSrc 6) (bNm 8) (mSeq (mNPut 3 (mK (.bool true)) (mPl 8)) (mSkip))) (mSeq (mSet [0, 1] 2 (mTake 6)) (mSkip)))))))) (mSeq (mRet (mK .none)) (mSkip))))
noncomputable def g_law_shortest : GM := semF [true, true] 9 m_law_shortest
noncomputable def m_law_parts : XM := mSeq (mIf (mOrT (mNotT (mTst (mIsi .str (mPl 2)))) (mOrT (mTst (mB (cmpD .Eq) (mPl 2) (mTm (mK (.str ""))))) (mTst (mB (cmpD .NotEq) (mTm (mLc (mSrc itemsD (mCons (mTm (mVar 2)) mNil)) (bNm 3) (mTst (mB ninSD (mPl 3) (mTm (mK (.str "ak"))))) (mVar 3) [3])) (mTm (mLst (mNil))))))) (mSeq (mRet (mK (.bool false))) (mSkip)) (mSkip)) (mSeq (mSet [0, 1, 2] 4 (mLst (mCons (mTm (mB ixD (mPl 0) (mTm (mK (.int 3))))) (mCons (mTm (mB ixD (mPl 1) (mTm (mK (.int 3))))) (mNil))))) (mSeq (mFor [0, 1, 2] (mSrc itemsD (mCons (mTm (mSl (mPl 2) (mNoP) (mPt (mTm (mU negD (mTm (mK (.int 1)))))))) mNil)) (bNm 3) (mSeq (mSet [0, 1, 2] 4 (mLst (mCons (mTm (mCall [true, true, true] g_law_on (mCons (mPl 0) (mCons (mTm (mB ixD (mPl 4) (mTm (mK (.int 0))))) (mCons (mPl 3) (mNil)))))) (mCons (mTm (mCall [true, true, true] g_law_on (mCons (mPl 1) (mCons (mTm (mB ixD (mPl 4) (mTm (mK (.int 1))))) (mCons (mPl 3) (mNil)))))) (mNil))))) (mSkip))) (mSeq (mRet (mAndE (mB (cmpD .Eq) (mTm (mB ixD (mPl 2) (mTm (mU negD (mTm (mK (.int 1))))))) (mTm (mK (.str "k")))) (mB (cmpD .NotEq) (mTm (mB (cmpD .GtE) (mTm (mB ixD (mPl 4) (mTm (mK (.int 0))))) (mTm (mB ixD (mPl 0) (mTm (mK (.int 1))))))) (mTm (mB (cmpD .GtE) (mTm (mB ixD (mPl 4) (mTm (mK (.int 1))))) (mTm (mB ixD (mPl 1) (mTm (mK (.int 1)))))))))) (mSkip))))
noncomputable def g_law_parts : GM := semF [true, true, true] 5 m_law_parts
noncomputable def m_law_told : XM := mSeq (mTold [0, 1] 2 ref_law_refusal (mCallX [true, true] g_parted_by (mCons (mPl 0) (mCons (mPl 1) (mNil))))) (mSkip)
noncomputable def g_law_told : GM := semF [true, true] 3 m_law_told
noncomputable def m_law_things : XM := mSeq (mPar [0, 1] [2, 3] (mCons (mTm (mCall [true, true] g_law_draw (mCons (mPl 0) (mCons (mTm (mB (binD .Add) (mTm (mOp (Bf.f .len) (mCons (mPl 1) (mNil)))) (mTm (mK (.int 1))))) (mNil))))) (mCons (mTm (mB ixD (mTm (mK (.str "akA \n"))) (mTm (mCall [true, true] g_law_draw (mCons (mPl 0) (mCons (mTm (mK (.int 5))) (mNil))))))) (mNil)))) (mSeq (mSet [0, 1] 4 (mB (binD .Add) (mTm (mM joinD isS (mTm (mK (.str ""))) (mCons (mTm (mLc (mSrc rng1D (mCons (mTm (mCall [true, true] g_law_draw (mCons (mPl 0) (mCons (mTm (mK (.int 20))) (mNil))))) (mNil))) (bNm 5) (mYes) (mB ixD (mTm (mK (.str "ak"))) (mTm (mCall [true, true] g_law_draw (mCons (mPl 0) (mCons (mTm (mK (.int 2))) (mNil)))))) [5])) (mNil)))) (mTm (mK (.str "k"))))) (mSeq (mSet [0, 1] 6 (mLst (mCons (mPl 1) (mCons (mTm (mB (binD .Add) (mTm (mB (binD .Add) (mTm (mSl (mPl 1) (mNoP) (mPt (mPl 2)))) (mPl 3))) (mTm (mSl (mPl 1) (mPt (mPl 2)) (mNoP))))) (mCons (mTm (mB (binD .Add) (mTm (mSl (mPl 1) (mNoP) (mPt (mPl 2)))) (mTm (mSl (mPl 1) (mPt (mTm (mB (binD .Add) (mPl 2) (mTm (mK (.int 1)))))) (mNoP))))) (mCons (mTm (mB (binD .Add) (mTm (mB (binD .Add) (mTm (mSl (mPl 1) (mNoP) (mPt (mPl 2)))) (mPl 3))) (mTm (mSl (mPl 1) (mPt (mTm (mB (binD .Add) (mPl 2) (mTm (mK (.int 1)))))) (mNoP))))) (mCons (mTm (mB (binD .Add) (mPl 1) (mTm (mK (.str "k"))))) (mNil)))))))) (mSeq (mRet (mB (binD .Add) (mPl 6) (mTm (mLst (mCons (mTm (mB (binD .Add) (mPl 1) (mTm (mK (.str "ak"))))) (mCons (mPl 4) (mCons (mTm (mB (binD .Add) (mTm (mSl (mPl 4) (mNoP) (mPt (mTm (mU negD (mTm (mK (.int 1)))))))) (mTm (mK (.str "a"))))) (mCons (mTm (mK (.str ""))) (mCons (mTm (mOp lstSD (mCons (mPl 1) (mNil)))) (mCons (mTm (mCall [true] g_law_odd (mCons (mPl 0) (mNil)))) (mCons (mTm (mRevS (mPl 1))) (mCons (mTm (mB smul3D (mPl 1) (mTm (mK (.int 3))))) (mNil))))))))))))) (mSkip))))
noncomputable def g_law_things : GM := semF [true, true] 7 m_law_things
noncomputable def m_law : XM := mSeq (mFor [] (mSrc itemsD (mCons (mTm (mB (binD .Add) (mTm (mLst (mCons (mTm (mCall [true, true] g_law_cell_at (mCons (mPl 0) (mCons (mTm (mK (.int 0))) (mNil))))) (mNil)))) (mTm (mSl (mPl 0) (mPt (mTm (mK (.int 1)))) (mPt (mTm (mK (.int 3)))))))) mNil)) (bNm 1) (mSeq (mSet [] 2 (mCall [true] g_law_pen_of (mCons (mPl 1) (mNil)))) (mSeq (mAsg [3, 4] [] (bTup [bNm 3, bNm 4]) (mCall [true] g_law_pair (mCons (mPl 2) (mNil)))) (mSeq (mSet [] 5 (mOp (Bf.f .max) (mCons (mTm (mB ixD (mPl 3) (mTm (mK (.int 2))))) (mCons (mTm (mB ixD (mPl 4) (mTm (mK (.int 2))))) (mNil))))) (mSeq (mSet [] 6 (mIfE (mTst (mB (cmpD .Gt) (mPl 5) (mTm (mK (.int 60))))) (mTup (mCons (mTm (mK (.str "great"))) (mCons (mPl 5) (mCons (mTm (mK (.int 60))) (mNil))))) (mCall [true, true] g_law_shortest (mCons (mPl 3) (mCons (mPl 4) (mNil)))))) (mSeq (mIf (mTst (mB (cmpD .NotEq) (mTm (mOp reprG (mCons (mTm (mLst (mCons (mTm (mCall [true, true] g_law_told (mCons (mPl 3) (mCons (mPl 4) (mNil))))) (mCons (mTm (mCall [true, true] g_law_told (mCons (mPl 4) (mCons (mPl 3) (mNil))))) (mCons (mTm (mCall [true, true] g_law_told (mCons (mPl 3) (mCons (mPl 4) (mNil))))) (mNil)))))) (mNil)))) (mTm (mOp reprG (mCons (mTm (mB (binD .Mult) (mTm (mLst (mCons (mPl 6) (mNil)))) (mTm (mK (.int 3))))) (mNil)))))) (mSeq (mRet (mK (.bool false))) (mSkip)) (mSkip)) (mSeq (mFor [] (mSrc itemsD (mCons (mTm (mCall [true, true] g_law_things (mCons (mPl 2) (mCons (mTm (mIfE (mTst (mIsi .str (mPl 6))) (mVar 6) (mK (.str "ak")))) (mNil))))) mNil)) (bNm 7) (mSeq (mSet [] 8 (mCall [true, true, true] g_law_parts (mCons (mPl 3) (mCons (mPl 4) (mCons (mPl 7) (mNil)))))) (mSeq (mIf (mTst (mB (cmpD .NotEq) (mTm (mOp reprG (mCons (mTm (mLst (mCons (mTm (mCall [true, true, true] g_parts (mCons (mPl 3) (mCons (mPl 4) (mCons (mPl 7) (mNil)))))) (mCons (mTm (mCall [true, true, true] g_parts (mCons (mPl 4) (mCons (mPl 3) (mCons (mPl 7) (mNil)))))) (mNil))))) (mNil)))) (mTm (mOp reprG (mCons (mTm (mLst (mCons (mPl 8) (mCons (mPl 8) (mNil))))) (mNil)))))) (mSeq (mRet (mK (.bool false))) (mSkip)) (mSkip)) (mSkip)))) (mSkip)))))))) (mSeq (mRet (mK (.bool true))) (mSkip))
section
variable {P : Program} {w : World} {K : PySem.W.Frag} {mg : Str → Option Value} {base : Heap}
theorem sc_TooGreat_init : FnScope ["self", "many", "most"] ["self", "many", "most"] (defScope st_TooGreat_init) := ⟨rfl, rfl, rfl, by decide +kernel, rfl, by decide +kernel, by decide +kernel⟩
theorem pl_TooGreat_init : Plain d_TooGreat_init ["self", "many", "most"] := ⟨rfl, rfl, fun _ _ _ _ _ _ us hl => match us, hl with | [_, _, _], _ => rfl⟩
theorem bd_TooGreat_init (W : Wd K mg) (V : Vd K) (f : Addr) (cdv : Value) (A : Around) (outer : List Env) (s : Shared) (H : Hp) (E : XK) : PSs (cxN P w K mg base ["self", "many", "most"] d_TooGreat_init f cdv A outer s H E) d_TooGreat_init.body (tIni (He.ga K "TooGreat") ["many", "most"]) := ini2 (oexB_ok (csI_oex (vI V) (by decide))) (csF_nat (vF V) (by decide)) (csF_nat (vF V) (by decide)) (ini_ke (keiB_ok (csI_kei (vI V) (by decide))) rfl (W.glo 44) (pv 0)) (ps_ost (pv 0) (pv 1)) (ps_ost (pv 0) (pv 2))
theorem oke_TooGreat (W : Wd K mg) (V : Vd K) : KnE P w K mg base "TooGreat" ["many", "most"] := kne_mk W 21 37 rfl rfl rfl (oexB_ok (csI_oex (vI V) (by decide))) (csI_ini (vI V) (by decide)) pl_TooGreat_init sc_TooGreat_init (bd_TooGreat_init W V)
theorem sc_put_in : FnScope ["purse", "coins"] ["purse", "coins"] (defScope st_put_in) := ⟨rfl, rfl, rfl, by decide +kernel, rfl, by decide +kernel, by decide +kernel⟩
theorem pl_put_in : Plain d_put_in ["purse", "coins"] := ⟨rfl, rfl, fun _ _ _ _ _ _ us hl => match us, hl with | [_, _], _ => rfl⟩
theorem bd_put_in (W : Wd K mg) (V : Vd K) (f : Addr) (cdv : Value) (A : Around) (outer : List Env) (s : Shared) (H : Hp) (E : XK) (hr : Rm 0 (cxN P w K mg base ["purse", "coins"] d_put_in f cdv A outer s H E).A) : PSs (cxN P w K mg base ["purse", "coins"] d_put_in f cdv A outer s H E) d_put_in.body (tS (K, w) W0 (ios [true, true]) m_put_in) :=
  have nd : (["purse", "coins"] : List Str).Nodup := sc_put_in.nd
  ms_cons (ms_ret (x_bf .min rfl (W.free 22) rfl rfl (ma_cons (mo_tm (x_ix (mo_name (pv 0)) (mo_tm (me_int)))) (ma_cons (mo_tm (x_bin (mo_name (pv 1)) (mo_tm (x_ix (mo_name (pv 0)) (mo_tm (me_int)))))) (ma_nil))))) (ms_nil)
theorem ok_put_in (W : Wd K mg) (V : Vd K) : KnG P w K mg base 1 "put_in" ["purse", "coins"] (spOf (K, w) 2 g_put_in) := kng_mk W 0 0 rfl rfl rfl pl_put_in sc_put_in (bd_put_in W V)
theorem sc_walked : FnScope ["purse", "row", "coins", "found", "place", "sign"] ["purse", "row"] (defScope st_walked) := ⟨rfl, rfl, rfl, by decide +kernel, rfl, by decide +kernel, by decide +kernel⟩
theorem pl_walked : Plain d_walked ["purse", "row"] := ⟨rfl, rfl, fun _ _ _ _ _ _ us hl => match us, hl with | [_, _], _ => rfl⟩
theorem bd_walked (W : Wd K mg) (V : Vd K) (f : Addr) (cdv : Value) (A : Around) (outer : List Env) (s : Shared) (H : Hp) (E : XK) (hr : Rm 1 (cxN P w K mg base ["purse", "row", "coins", "found", "place", "sign"] d_walked f cdv A outer s H E).A) : PSs (cxN P w K mg base ["purse", "row", "coins", "found", "place", "sign"] d_walked f cdv A outer s H E) d_walked.body (tS (K, w) W0 (ios [true, true]) m_walked) :=
  have nd : (["purse", "row", "coins", "found", "place", "sign"] : List Str).Nodup := sc_walked.nd
  ms_cons (z_set 2 nd (x_ix (mo_name (pv 0)) (mo_tm (me_int)))) (ms_cons (z_set 3 nd (me_lst (ma_nil))) (ms_cons (z_for (ts := [4, 5]) .never rfl ((by refine mi_enumS (W.free 23) ?_ ?_; exact rfl; exact (mo_tm (me_name (pv 1))))) (Gd.imp (gd_tup rfl (gds_cons (gd_name) (gds_cons (gd_name) (gds_nil)))) (by intro j h; simpa using h)) (pg_tup rfl (pgs_cons (g_nm 4 nd) (pgs_cons (g_nm 5 nd) (pgs_nil)))) (ms_cons (ms_if (y_cmp hr.toRoom (mo_name (pv 5)) (mo_tm (me_str))) (ms_cons (z_set 2 nd (g_call (ok_put_in W V) hr (by decide) rfl (ma_cons (mo_name (pv 0)) (ma_cons (mo_name (pv 2)) (ma_nil))))) (ms_nil)) (ms_cons (ms_if (y_cmp hr.toRoom (mo_name (pv 2)) (mo_tm (x_ix (mo_name (pv 0)) (mo_tm (me_int))))) (ms_cons (z_set 2 nd (x_bin (mo_name (pv 2)) (mo_tm (x_ix (mo_name (pv 0)) (mo_tm (me_int)))))) (ms_nil)) (ms_cons (z_app 3 (pv 3) (me_name (pv 4))) (ms_nil))) (ms_nil))) (ms_nil))) (ms_cons (ms_ret (me_tup (ma_cons (mo_name (pv 2)) (ma_cons (mo_name (pv 3)) (ma_nil))))) (ms_nil))))
theorem ok_walked (W : Wd K mg) (V : Vd K) : KnG P w K mg base 2 "walked" ["purse", "row"] (spOf (K, w) 2 g_walked) := kng_mk W 1 1 rfl rfl rfl pl_walked sc_walked (bd_walked W V)
theorem sc_knocked : FnScope ["purse", "coins"] ["purse", "coins"] (defScope st_knocked) := ⟨rfl, rfl, rfl, by decide +kernel, rfl, by decide +kernel, by decide +kernel⟩
theorem pl_knocked : Plain d_knocked ["purse", "coins"] := ⟨rfl, rfl, fun _ _ _ _ _ _ us hl => match us, hl with | [_, _], _ => rfl⟩
theorem bd_knocked (W : Wd K mg) (V : Vd K) (f : Addr) (cdv : Value) (A : Around) (outer : List Env) (s : Shared) (H : Hp) (E : XK) (hr : Rm 0 (cxN P w K mg base ["purse", "coins"] d_knocked f cdv A outer s H E).A) : PSs (cxN P w K mg base ["purse", "coins"] d_knocked f cdv A outer s H E) d_knocked.body (tS (K, w) W0 (ios [true, true]) m_knocked) :=
  have nd : (["purse", "coins"] : List Str).Nodup := sc_knocked.nd
  ms_cons (ms_if (y_cmp hr.toRoom (mo_name (pv 1)) (mo_tm (x_ix (mo_name (pv 0)) (mo_tm (me_int))))) (ms_cons (ms_ret (me_tup (ma_cons (mo_tm (me_bl)) (ma_cons (mo_tm (x_bin (mo_name (pv 1)) (mo_tm (x_ix (mo_name (pv 0)) (mo_tm (me_int)))))) (ma_nil))))) (ms_nil)) (ms_nil)) (ms_cons (ms_ret (me_tup (ma_cons (mo_tm (me_bl)) (ma_cons (mo_name (pv 1)) (ma_nil))))) (ms_nil))
theorem ok_knocked (W : Wd K mg) (V : Vd K) : KnG P w K mg base 1 "knocked" ["purse", "coins"] (spOf (K, w) 2 g_knocked) := kng_mk W 2 2 rfl rfl rfl pl_knocked sc_knocked (bd_knocked W V)
theorem sc_is_row : FnScope ["thing", "sign"] ["thing"] (defScope st_is_row) := ⟨rfl, rfl, rfl, by decide +kernel, rfl, by decide +kernel, by decide +kernel⟩
theorem pl_is_row : Plain d_is_row ["thing"] := ⟨rfl, rfl, fun _ _ _ _ _ _ us hl => match us, hl with | [_], _ => rfl⟩
theorem bd_is_row (W : Wd K mg) (V : Vd K) (f : Addr) (cdv : Value) (A : Around) (outer : List Env) (s : Shared) (H : Hp) (E : XK) (hr : Rm 0 (cxN P w K mg base ["thing", "sign"] d_is_row f cdv A outer s H E).A) : PSs (cxN P w K mg base ["thing", "sign"] d_is_row f cdv A outer s H E) d_is_row.body (tS (K, w) W0 (ios [true]) m_is_row) :=
  have nd : (["thing", "sign"] : List Str).Nodup := sc_is_row.nd
  ms_cons (ms_ret (me_and (x_isi .str rfl (W.free 24) (W.free 25) rfl rfl (mo_name (pv 0))) (me_one (x_cmp hr.toRoom (mo_tm (x_lc [("sign", 1)] rfl nd (blkOk_by (by first | rfl | kernel_rfl)) (mi_any (mo_tm (me_name (pv 0)))) (Gd.imp (gd_name) (by intro j h; simpa using h)) (fun _ _ _ _ _ => g_nm 1 nd) (fun _ _ _ _ _ => pts_it (y_ninS (mo_name (pv 1)) (mo_tm (me_str)))) (fun _ _ _ _ _ => me_name (pv 1)))) (mo_tm (me_lst (ma_nil))))))) (ms_nil)
theorem ok_is_row (W : Wd K mg) (V : Vd K) : KnG P w K mg base 1 "is_row" ["thing"] (spOf (K, w) 1 g_is_row) := kng_mk W 3 3 rfl rfl rfl pl_is_row sc_is_row (bd_is_row W V)
theorem sc_parts : FnScope ["one", "other", "thing", "last"] ["one", "other", "thing"] (defScope st_parts) := ⟨rfl, rfl, rfl, by decide +kernel, rfl, by decide +kernel, by decide +kernel⟩
theorem pl_parts : Plain d_parts ["one", "other", "thing"] := ⟨rfl, rfl, fun _ _ _ _ _ _ us hl => match us, hl with | [_, _, _], _ => rfl⟩
theorem bd_parts (W : Wd K mg) (V : Vd K) (f : Addr) (cdv : Value) (A : Around) (outer : List Env) (s : Shared) (H : Hp) (E : XK) (hr : Rm 2 (cxN P w K mg base ["one", "other", "thing", "last"] d_parts f cdv A outer s H E).A) : PSs (cxN P w K mg base ["one", "other", "thing", "last"] d_parts f cdv A outer s H E) d_parts.body (tS (K, w) W0 (ios [true, true, true]) m_parts) :=
  have nd : (["one", "other", "thing", "last"] : List Str).Nodup := sc_parts.nd
  ms_cons (ms_if (PW.pt (mt_or (mt_not (y_val (g_call (ok_is_row W V) hr (by decide) rfl (ma_cons (mo_name (pv 2)) (ma_nil))))) (mt_or1 (y_cmp hr.toRoom (mo_tm (me_slice (mo_name (pv 2)) (mp_some (mo_tm (x_neg (mo_tm (me_int))))) (mp_none))) (mo_tm (me_str)))))) (ms_cons (ms_ret (me_bl)) (ms_nil)) (ms_nil)) (ms_cons (z_set 3 nd (x_bin (mo_tm (x_bf .len rfl (W.free 26) rfl rfl (ma_cons (mo_name (pv 2)) (ma_nil)))) (mo_tm (me_int)))) (ms_cons (ms_ret (x_cmp hr.toRoom (mo_tm (x_cmp hr.toRoom (mo_name (pv 3)) (mo_tm (x_ix (mo_tm (g_call (ok_walked W V) hr (by decide) rfl (ma_cons (mo_name (pv 0)) (ma_cons (mo_name (pv 2)) (ma_nil))))) (mo_tm (me_int)))))) (mo_tm (x_cmp hr.toRoom (mo_name (pv 3)) (mo_tm (x_ix (mo_tm (g_call (ok_walked W V) hr (by decide) rfl (ma_cons (mo_name (pv 1)) (ma_cons (mo_name (pv 2)) (ma_nil))))) (mo_tm (me_int)))))))) (ms_nil)))
theorem ok_parts (W : Wd K mg) (V : Vd K) : KnG P w K mg base 3 "parts" ["one", "other", "thing"] (spOf (K, w) 3 g_parts) := kng_mk W 4 4 rfl rfl rfl pl_parts sc_parts (bd_parts W V)
theorem sc_row_back : FnScope ["ahead", "here", "row", "sign"] ["ahead", "here", "row"] (defScope st_row_back) := ⟨rfl, rfl, rfl, by decide +kernel, rfl, by decide +kernel, by decide +kernel⟩
theorem pl_row_back : Plain d_row_back ["ahead", "here", "row"] := ⟨rfl, rfl, fun _ _ _ _ _ _ us hl => match us, hl with | [_, _, _], _ => rfl⟩
theorem bd_row_back (W : Wd K mg) (V : Vd K) (f : Addr) (cdv : Value) (A : Around) (outer : List Env) (s : Shared) (H : Hp) (E : XK) (hr : Rm 0 (cxN P w K mg base ["ahead", "here", "row", "sign"] d_row_back f cdv A outer s H E).A) : PSs (cxN P w K mg base ["ahead", "here", "row", "sign"] d_row_back f cdv A outer s H E) d_row_back.body (tS (K, w) W0 (ios [true, false, false]) m_row_back) :=
  have nd : (["ahead", "here", "row", "sign"] : List Str).Nodup := sc_row_back.nd
  ms_cons (ms_while .never (y_cmp hr.toRoom (mo_tm (x_nget hr.toRoom (pv 0) (mo_name (pv 1)))) (mo_tm (me_non))) (ms_cons (z_asg (Gd.imp (gd_tup rfl (gds_cons (gd_name) (gds_cons (gd_name) (gds_nil)))) (by intro j h; simpa using h)) (pg_tup rfl (pgs_cons (g_nm 1 nd) (pgs_cons (g_nm 3 nd) (pgs_nil)))) (x_nget hr.toRoom (pv 0) (mo_name (pv 1)))) (ms_cons (z_set 2 nd (x_bin (mo_name (pv 3)) (mo_name (pv 2)))) (ms_nil)))) (ms_cons (ms_retV (pv 2)) (ms_nil))
theorem ok_row_back (W : Wd K mg) (V : Vd K) : KnG P w K mg base 1 "row_back" ["ahead", "here", "row"] (spOf (K, w) 3 g_row_back) := kng_mk W 5 5 rfl rfl rfl pl_row_back sc_row_back (bd_row_back W V)
theorem sc_parted_by : FnScope ["one", "other", "cap", "ahead", "fresh", "at", "here", "mine", "yours", "sign", "later"] ["one", "other"] (defScope st_parted_by) := ⟨rfl, rfl, rfl, by decide +kernel, rfl, by decide +kernel, by decide +kernel⟩
theorem pl_parted_by : Plain d_parted_by ["one", "other"] := ⟨rfl, rfl, fun _ _ _ _ _ _ us hl => match us, hl with | [_, _], _ => rfl⟩
theorem bd_parted_by (W : Wd K mg) (V : Vd K) (f : Addr) (cdv : Value) (A : Around) (outer : List Env) (s : Shared) (H : Hp) (E : XK) (Wx : Xw) (hr : Rm 2 (cxX P w K mg base ["one", "other", "cap", "ahead", "fresh", "at", "here", "mine", "yours", "sign", "later"] d_parted_by f cdv A outer s H E).A) (tk : L2N.Takes (cxX P w K mg base ["one", "other", "cap", "ahead", "fresh", "at", "here", "mine", "yours", "sign", "later"] d_parted_by f cdv A outer s H E) Wx) : PSs (cxX P w K mg base ["one", "other", "cap", "ahead", "fresh", "at", "here", "mine", "yours", "sign", "later"] d_parted_by f cdv A outer s H E) d_parted_by.body (tS (K, w) Wx (ios [true, true]) m_parted_by) :=
  have nd : (["one", "other", "cap", "ahead", "fresh", "at", "here", "mine", "yours", "sign", "later"] : List Str).Nodup := sc_parted_by.nd
  ms_cons (z_set 2 nd (x_bf .max rfl (W.free 27) rfl rfl (ma_cons (mo_tm (x_ix (mo_name (pv 0)) (mo_tm (me_int)))) (ma_cons (mo_tm (x_ix (mo_name (pv 1)) (mo_tm (me_int)))) (ma_nil))))) (ms_cons (ms_if (y_cmp hr.toRoom (mo_name (pv 2)) (mo_tm (x_gint (W.int 21) rfl))) (ms_cons (z_raiseX rfl tk (oke_TooGreat W V) hr.toRoom (by decide) rfl (ma_cons (mo_name (pv 2)) (ma_cons (mo_tm (x_gint (W.int 21) rfl)) (ma_nil)))) (ms_nil)) (ms_nil)) (ms_cons (z_set 3 nd (x_nd1 hr.toRoom (me_tup (ma_cons (mo_tm (x_ix (mo_name (pv 0)) (mo_tm (me_int)))) (ma_cons (mo_tm (x_ix (mo_name (pv 1)) (mo_tm (me_int)))) (ma_nil)))) (me_non))) (ms_cons (z_set 4 nd (me_lst (ma_cons (mo_tm (me_tup (ma_cons (mo_tm (x_ix (mo_name (pv 0)) (mo_tm (me_int)))) (ma_cons (mo_tm (x_ix (mo_name (pv 1)) (mo_tm (me_int)))) (ma_nil))))) (ma_nil)))) (ms_cons (z_set 5 nd (me_int)) (ms_cons (ms_while (passes_of rfl) (y_cmp hr.toRoom (mo_name (pv 5)) (mo_tm (x_bf .len rfl (W.free 26) rfl rfl (ma_cons (mo_name (pv 4)) (ma_nil))))) (ms_cons (z_set 6 nd (x_ix (mo_name (pv 4)) (mo_name (pv 5)))) (ms_cons (z_set 5 nd (x_bin (mo_name (pv 5)) (mo_tm (me_int)))) (ms_cons (z_par2 7 8 rfl nd (ma_cons (mo_tm (g_call (ok_knocked W V) hr (by decide) rfl (ma_cons (mo_name (pv 0)) (ma_cons (mo_tm (x_ix (mo_name (pv 6)) (mo_tm (me_int)))) (ma_nil))))) (ma_cons (mo_tm (g_call (ok_knocked W V) hr (by decide) rfl (ma_cons (mo_name (pv 1)) (ma_cons (mo_tm (x_ix (mo_name (pv 6)) (mo_tm (me_int)))) (ma_nil))))) (ma_nil)))) (ms_cons (ms_if (y_cmp hr.toRoom (mo_tm (x_ix (mo_name (pv 7)) (mo_tm (me_int)))) (mo_tm (x_ix (mo_name (pv 8)) (mo_tm (me_int))))) (ms_cons (ms_ret (g_call (ok_row_back W V) hr (by decide) rfl (ma_cons (mo_name (pv 3)) (ma_cons (mo_name (pv 6)) (ma_cons (mo_tm (me_str)) (ma_nil)))))) (ms_nil)) (ms_nil)) (ms_cons (z_for (ts := [9, 10]) (passes_of rfl) rfl (mi_any (mo_tm (me_tup (ma_cons (mo_tm (me_tup (ma_cons (mo_tm (me_str)) (ma_cons (mo_tm (me_tup (ma_cons (mo_tm (g_call (ok_put_in W V) hr (by decide) rfl (ma_cons (mo_name (pv 0)) (ma_cons (mo_tm (x_ix (mo_name (pv 6)) (mo_tm (me_int)))) (ma_nil))))) (ma_cons (mo_tm (g_call (ok_put_in W V) hr (by decide) rfl (ma_cons (mo_name (pv 1)) (ma_cons (mo_tm (x_ix (mo_name (pv 6)) (mo_tm (me_int)))) (ma_nil))))) (ma_nil))))) (ma_nil))))) (ma_cons (mo_tm (me_tup (ma_cons (mo_tm (me_str)) (ma_cons (mo_tm (me_tup (ma_cons (mo_tm (x_ix (mo_name (pv 7)) (mo_tm (me_int)))) (ma_cons (mo_tm (x_ix (mo_name (pv 8)) (mo_tm (me_int)))) (ma_nil))))) (ma_nil))))) (ma_nil)))))) (Gd.imp (gd_tup rfl (gds_cons (gd_name) (gds_cons (gd_name) (gds_nil)))) (by intro j h; simpa using h)) (pg_tup rfl (pgs_cons (g_nm 9 nd) (pgs_cons (g_nm 10 nd) (pgs_nil)))) (ms_cons (ms_if (y_nnin hr.toRoom (pv 3) (mo_name (pv 10))) (ms_cons (z_nput hr.toRoom 3 (pv 3) (me_tup (ma_cons (mo_name (pv 6)) (ma_cons (mo_name (pv 9)) (ma_nil)))) (mo_name (pv 10))) (ms_cons (z_app 4 (pv 4) (me_name (pv 10))) (ms_nil))) (ms_nil)) (ms_nil))) (ms_nil))))))) (ms_cons (ms_ret (me_non)) (ms_nil)))))))
theorem ok_parted_by (W : Wd K mg) (V : Vd K) : KnX P w K mg base 3 "parted_by" ["one", "other"] (spX (K, w) 2 g_parted_by) := knx_mk W 6 6 rfl rfl rfl pl_parted_by sc_parted_by (fun f cdv A outer s H E Wx hr tk => bd_parted_by W V f cdv A outer s H E Wx hr tk)
theorem sc_law_cell_at : FnScope ["_law_script", "_law_k"] ["_law_script", "_law_k"] (defScope st_law_cell_at) := ⟨rfl, rfl, rfl, by decide +kernel, rfl, by decide +kernel, by decide +kernel⟩
theorem pl_law_cell_at : Plain d_law_cell_at ["_law_script", "_law_k"] := ⟨rfl, rfl, fun _ _ _ _ _ _ us hl => match us, hl with | [_, _], _ => rfl⟩
theorem bd_law_cell_at (W : Wd K mg) (V : Vd K) (f : Addr) (cdv : Value) (A : Around) (outer : List Env) (s : Shared) (H : Hp) (E : XK) (hr : Rm 0 (cxN P w K mg base ["_law_script", "_law_k"] d_law_cell_at f cdv A outer s H E).A) : PSs (cxN P w K mg base ["_law_script", "_law_k"] d_law_cell_at f cdv A outer s H E) d_law_cell_at.body (tS (K, w) W0 (ios [true, true]) m_law_cell_at) :=
  have nd : (["_law_script", "_law_k"] : List Str).Nodup := sc_law_cell_at.nd
  ms_cons (ms_if (y_cmp hr.toRoom (mo_name (pv 1)) (mo_tm (x_bf .len rfl (W.free 26) rfl rfl (ma_cons (mo_name (pv 0)) (ma_nil))))) (ms_cons (ms_ret (x_ix (mo_name (pv 0)) (mo_name (pv 1)))) (ms_nil)) (ms_nil)) (ms_cons (ms_ret (me_int)) (ms_nil))
theorem ok_law_cell_at (W : Wd K mg) (V : Vd K) : KnG P w K mg base 1 "_law_cell_at" ["_law_script", "_law_k"] (spOf (K, w) 2 g_law_cell_at) := kng_mk W 7 7 rfl rfl rfl pl_law_cell_at sc_law_cell_at (bd_law_cell_at W V)
theorem sc_law_next : FnScope ["_law_seed"] ["_law_seed"] (defScope st_law_next) := ⟨rfl, rfl, rfl, by decide +kernel, rfl, by decide +kernel, by decide +kernel⟩
theorem pl_law_next : Plain d_law_next ["_law_seed"] := ⟨rfl, rfl, fun _ _ _ _ _ _ us hl => match us, hl with | [_], _ => rfl⟩
theorem bd_law_next (W : Wd K mg) (V : Vd K) (f : Addr) (cdv : Value) (A : Around) (outer : List Env) (s : Shared) (H : Hp) (E : XK) (hr : Rm 0 (cxN P w K mg base ["_law_seed"] d_law_next f cdv A outer s H E).A) : PSs (cxN P w K mg base ["_law_seed"] d_law_next f cdv A outer s H E) d_law_next.body (tS (K, w) W0 (ios [false]) m_law_next) :=
  have nd : (["_law_seed"] : List Str).Nodup := sc_law_next.nd
  ms_cons (z_set 0 nd (x_bin (mo_tm (x_bin (mo_name (pv 0)) (mo_tm (me_int)))) (mo_tm (me_int)))) (ms_cons (ms_ret (x_bin (mo_tm (x_bin (mo_tm (x_bin (mo_tm (x_bin (mo_name (pv 0)) (mo_name (pv 0)))) (mo_tm (x_bin (mo_tm (me_int)) (mo_name (pv 0)))))) (mo_tm (me_int)))) (mo_tm (me_int)))) (ms_nil))
theorem ok_law_next (W : Wd K mg) (V : Vd K) : KnG P w K mg base 1 "_law_next" ["_law_seed"] (spOf (K, w) 1 g_law_next) := kng_mk W 8 8 rfl rfl rfl pl_law_next sc_law_next (bd_law_next W V)
theorem sc_law_pen_of : FnScope ["_law_cell", "_law_left"] ["_law_cell"] (defScope st_law_pen_of) := ⟨rfl, rfl, rfl, by decide +kernel, rfl, by decide +kernel, by decide +kernel⟩
theorem pl_law_pen_of : Plain d_law_pen_of ["_law_cell"] := ⟨rfl, rfl, fun _ _ _ _ _ _ us hl => match us, hl with | [_], _ => rfl⟩
theorem bd_law_pen_of (W : Wd K mg) (V : Vd K) (f : Addr) (cdv : Value) (A : Around) (outer : List Env) (s : Shared) (H : Hp) (E : XK) (hr : Rm 0 (cxN P w K mg base ["_law_cell", "_law_left"] d_law_pen_of f cdv A outer s H E).A) : PSs (cxN P w K mg base ["_law_cell", "_law_left"] d_law_pen_of f cdv A outer s H E) d_law_pen_of.body (tS (K, w) W0 (ios [true]) m_law_pen_of) :=
  have nd : (["_law_cell", "_law_left"] : List Str).Nodup := sc_law_pen_of.nd
  ms_cons (z_set 1 nd (x_bf .max rfl (W.free 27) rfl rfl (ma_cons (mo_name (pv 0)) (ma_cons (mo_tm (x_bin (mo_tm (me_int)) (mo_name (pv 0)))) (ma_nil))))) (ms_cons (ms_ret (me_lst (ma_cons (mo_name (pv 1)) (ma_cons (mo_tm (x_bf .int rfl (W.free 28) rfl rfl (ma_cons (mo_tm (x_cmp hr.toRoom (mo_name (pv 1)) (mo_tm (x_bin (mo_tm (me_int)) (mo_tm (me_int)))))) (ma_nil)))) (ma_cons (mo_tm (x_bin (mo_name (pv 1)) (mo_tm (me_int)))) (ma_nil)))))) (ms_nil))
theorem ok_law_pen_of (W : Wd K mg) (V : Vd K) : KnG P w K mg base 1 "_law_pen_of" ["_law_cell"] (spOf (K, w) 1 g_law_pen_of) := kng_mk W 9 9 rfl rfl rfl pl_law_pen_of sc_law_pen_of (bd_law_pen_of W V)
theorem sc_law_draw : FnScope ["_law_pen", "_law_many", "_law_found"] ["_law_pen", "_law_many"] (defScope st_law_draw) := ⟨rfl, rfl, rfl, by decide +kernel, rfl, by decide +kernel, by decide +kernel⟩
theorem pl_law_draw : Plain d_law_draw ["_law_pen", "_law_many"] := ⟨rfl, rfl, fun _ _ _ _ _ _ us hl => match us, hl with | [_, _], _ => rfl⟩
theorem bd_law_draw (W : Wd K mg) (V : Vd K) (f : Addr) (cdv : Value) (A : Around) (outer : List Env) (s : Shared) (H : Hp) (E : XK) (hr : Rm 1 (cxN P w K mg base ["_law_pen", "_law_many", "_law_found"] d_law_draw f cdv A outer s H E).A) : PSs (cxN P w K mg base ["_law_pen", "_law_many", "_law_found"] d_law_draw f cdv A outer s H E) d_law_draw.body (tS (K, w) W0 (ios [true, true]) m_law_draw) :=
  have nd : (["_law_pen", "_law_many", "_law_found"] : List Str).Nodup := sc_law_draw.nd
  ms_cons (ms_if (PW.pt (mt_and (y_cmp hr.toRoom (mo_tm (x_ix (mo_name (pv 0)) (mo_tm (me_int)))) (mo_tm (me_int))) (mt_and1 (y_cmp hr.toRoom (mo_tm (x_ix (mo_name (pv 0)) (mo_tm (me_int)))) (mo_tm (me_int)))))) (ms_cons (z_set 2 nd (x_bin (mo_tm (x_ix (mo_name (pv 0)) (mo_tm (me_int)))) (mo_name (pv 1)))) (ms_cons (z_ix 0 (pv 0) (mo_tm (me_int)) (x_bin (mo_tm (x_ix (mo_name (pv 0)) (mo_tm (me_int)))) (mo_name (pv 1)))) (ms_cons (ms_retV (pv 2)) (ms_nil)))) (ms_nil)) (ms_cons (z_ix 0 (pv 0) (mo_tm (me_int)) (g_call (ok_law_next W V) hr (by decide) rfl (ma_cons (mo_tm (x_bin (mo_tm (g_call (ok_law_next W V) hr (by decide) rfl (ma_cons (mo_tm (x_ix (mo_name (pv 0)) (mo_tm (me_int)))) (ma_nil)))) (mo_tm (me_int)))) (ma_nil)))) (ms_cons (ms_ret (x_bin (mo_tm (x_bin (mo_tm (x_ix (mo_name (pv 0)) (mo_tm (me_int)))) (mo_tm (me_int)))) (mo_name (pv 1)))) (ms_nil)))
theorem ok_law_draw (W : Wd K mg) (V : Vd K) : KnG P w K mg base 2 "_law_draw" ["_law_pen", "_law_many"] (spOf (K, w) 2 g_law_draw) := kng_mk W 10 10 rfl rfl rfl pl_law_draw sc_law_draw (bd_law_draw W V)
theorem sc_law_small : FnScope ["_law_pen", "_law_most", "_law_cap", "_law_purse"] ["_law_pen", "_law_most"] (defScope st_law_small) := ⟨rfl, rfl, rfl, by decide +kernel, rfl, by decide +kernel, by decide +kernel⟩
theorem pl_law_small : Plain d_law_small ["_law_pen", "_law_most"] := ⟨rfl, rfl, fun _ _ _ _ _ _ us hl => match us, hl with | [_, _], _ => rfl⟩
theorem bd_law_small (W : Wd K mg) (V : Vd K) (f : Addr) (cdv : Value) (A : Around) (outer : List Env) (s : Shared) (H : Hp) (E : XK) (hr : Rm 2 (cxN P w K mg base ["_law_pen", "_law_most", "_law_cap", "_law_purse"] d_law_small f cdv A outer s H E).A) : PSs (cxN P w K mg base ["_law_pen", "_law_most", "_law_cap", "_law_purse"] d_law_small f cdv A outer s H E) d_law_small.body (tS (K, w) W0 (ios [true, true]) m_law_small) :=
  have nd : (["_law_pen", "_law_most", "_law_cap", "_law_purse"] : List Str).Nodup := sc_law_small.nd
  ms_cons (z_set 2 nd (g_call (ok_law_draw W V) hr (by decide) rfl (ma_cons (mo_name (pv 0)) (ma_cons (mo_tm (x_bin (mo_name (pv 1)) (mo_tm (me_int)))) (ma_nil))))) (ms_cons (z_set 3 nd (me_tup (ma_cons (mo_tm (g_call (ok_law_draw W V) hr (by decide) rfl (ma_cons (mo_name (pv 0)) (ma_cons (mo_tm (me_int)) (ma_nil))))) (ma_cons (mo_tm (x_bin (mo_tm (me_int)) (mo_tm (g_call (ok_law_draw W V) hr (by decide) rfl (ma_cons (mo_name (pv 0)) (ma_cons (mo_tm (me_int)) (ma_nil))))))) (ma_cons (mo_name (pv 2)) (ma_nil)))))) (ms_cons (ms_ret (x_bin (mo_name (pv 3)) (mo_tm (me_tup (ma_cons (mo_tm (x_ix (mo_tm (me_lst (ma_cons (mo_tm (me_int)) (ma_cons (mo_name (pv 2)) (ma_cons (mo_tm (g_call (ok_law_draw W V) hr (by decide) rfl (ma_cons (mo_name (pv 0)) (ma_cons (mo_tm (x_bin (mo_name (pv 2)) (mo_tm (me_int)))) (ma_nil))))) (ma_nil)))))) (mo_tm (g_call (ok_law_draw W V) hr (by decide) rfl (ma_cons (mo_name (pv 0)) (ma_cons (mo_tm (me_int)) (ma_nil))))))) (ma_nil)))))) (ms_nil)))
theorem ok_law_small (W : Wd K mg) (V : Vd K) : KnG P w K mg base 3 "_law_small" ["_law_pen", "_law_most"] (spOf (K, w) 2 g_law_small) := kng_mk W 11 11 rfl rfl rfl pl_law_small sc_law_small (bd_law_small W V)
theorem sc_law_odd : FnScope ["_law_pen", "_law_some"] ["_law_pen"] (defScope st_law_odd) := ⟨rfl, rfl, rfl, by decide +kernel, rfl, by decide +kernel, by decide +kernel⟩
theorem pl_law_odd : Plain d_law_odd ["_law_pen"] := ⟨rfl, rfl, fun _ _ _ _ _ _ us hl => match us, hl with | [_], _ => rfl⟩
theorem bd_law_odd (W : Wd K mg) (V : Vd K) (f : Addr) (cdv : Value) (A : Around) (outer : List Env) (s : Shared) (H : Hp) (E : XK) (hr : Rm 2 (cxN P w K mg base ["_law_pen", "_law_some"] d_law_odd f cdv A outer s H E).A) : PSs (cxN P w K mg base ["_law_pen", "_law_some"] d_law_odd f cdv A outer s H E) d_law_odd.body (tS (K, w) W0 (ios [true]) m_law_odd) :=
  have nd : (["_law_pen", "_law_some"] : List Str).Nodup := sc_law_odd.nd
  ms_cons (z_set 1 nd (me_lst (ma_cons (mo_tm (me_non)) (ma_cons (mo_tm (me_bl)) (ma_cons (mo_tm (me_bl)) (ma_cons (mo_tm (x_neg (mo_tm (me_int)))) (ma_cons (mo_tm (me_str)) (ma_cons (mo_tm (me_str)) (ma_cons (mo_tm (me_lst (ma_nil))) (ma_cons (mo_tm (me_tup (ma_nil))) (ma_cons (mo_tm (x_dct)) (ma_cons (mo_tm (me_tup (ma_cons (mo_tm (me_int)) (ma_nil)))) (ma_cons (mo_tm (x_bin (mo_tm (me_int)) (mo_tm (me_int)))) (ma_cons (mo_tm (me_str)) (ma_cons (mo_tm (me_lst (ma_cons (mo_tm (me_int)) (ma_cons (mo_tm (me_int)) (ma_nil))))) (ma_cons (mo_tm (me_tup (ma_cons (mo_tm (me_tup (ma_cons (mo_tm (me_int)) (ma_cons (mo_tm (me_int)) (ma_nil))))) (ma_nil)))) (ma_cons (mo_tm (x_dctI)) (ma_cons (mo_tm (me_tup (ma_cons (mo_tm (me_int)) (ma_cons (mo_tm (me_int)) (ma_cons (mo_tm (me_int)) (ma_nil)))))) (ma_nil))))))))))))))))))) (ms_cons (ms_ret (x_ix (mo_name (pv 1)) (mo_tm (g_call (ok_law_draw W V) hr (by decide) rfl (ma_cons (mo_name (pv 0)) (ma_cons (mo_tm (x_bf .len rfl (W.free 26) rfl rfl (ma_cons (mo_name (pv 1)) (ma_nil)))) (ma_nil))))))) (ms_nil))
theorem ok_law_odd (W : Wd K mg) (V : Vd K) : KnG P w K mg base 3 "_law_odd" ["_law_pen"] (spOf (K, w) 1 g_law_odd) := kng_mk W 12 12 rfl rfl rfl pl_law_odd sc_law_odd (bd_law_odd W V)
theorem sc_law_refusal : FnScope ["_law_e", "_law_marks", "_law_word"] ["_law_e"] (defScope st_law_refusal) := ⟨rfl, rfl, rfl, by decide +kernel, rfl, by decide +kernel, by decide +kernel⟩
theorem pl_law_refusal : Plain d_law_refusal ["_law_e"] := ⟨rfl, rfl, fun _ _ _ _ _ _ us hl => match us, hl with | [_], _ => rfl⟩
theorem bd_law_refusal (W : Wd K mg) (V : Vd K) (f : Addr) (cdv : Value) (A : Around) (outer : List Env) (s : Shared) (H : Hp) (p : Addr × Obj) (cls : Value) (dd : Option Addr) (hr : L2H.RoomH 0 (cxR P w K mg base ["_law_e", "_law_marks", "_law_word"] d_law_refusal f cdv A outer s H p).A) (pn : PinX (cxR P w K mg base ["_law_e", "_law_marks", "_law_word"] d_law_refusal f cdv A outer s H p) p.1 cls dd) : PSs (cxR P w K mg base ["_law_e", "_law_marks", "_law_word"] d_law_refusal f cdv A outer s H p) d_law_refusal.body (tS (K, w) W0 (ios [true]) (m_law_refusal p.1 cls dd)) :=
  have nd : (["_law_e", "_law_marks", "_law_word"] : List Str).Nodup := sc_law_refusal.nd
  have hu : (cxR P w K mg base ["_law_e", "_law_marks", "_law_word"] d_law_refusal f cdv A outer s H p).A.units + 65 < cLine := by have := hr.un; omega
  ms_cons (z_set 1 nd (me_lst (ma_cons (mo_tm (x_isX 0 pn (W.free 24) rfl (pv 0) (pe_own rfl (W.glo 43)) (.own _) (cs_is (vC V)))) (ma_cons (mo_tm (x_isX 0 pn (W.free 24) rfl (pv 0) (pe_own rfl (W.glo 42)) (.own _) (cs_is (vC V)))) (ma_cons (mo_tm (x_isX 0 pn (W.free 24) rfl (pv 0) (pe_own rfl (W.glo 41)) (.own _) (cs_is (vC V)))) (ma_cons (mo_tm (x_isX 0 pn (W.free 24) rfl (pv 0) (pe_own rfl (W.glo 40)) (.own _) (cs_is (vC V)))) (ma_nil))))))) (ms_cons (z_set 1 nd (x_bin (mo_name (pv 1)) (mo_tm (me_lst (ma_cons (mo_tm (x_isX 0 pn (W.free 24) rfl (pv 0) (pe_own rfl (W.glo 39)) (.own _) (cs_is (vC V)))) (ma_cons (mo_tm (x_isX 0 pn (W.free 24) rfl (pv 0) (pe_own rfl (W.glo 38)) (.own _) (cs_is (vC V)))) (ma_cons (mo_tm (x_isX 0 pn (W.free 24) rfl (pv 0) (pe_own rfl (W.glo 37)) (.own _) (cs_is (vC V)))) (ma_nil)))))))) (ms_cons (ms_if (PW.pt (mt_or (mt_not (y_val (x_isX 0 pn (W.free 24) rfl (pv 0) (pe_bltn (v := .ty "ValueError") rfl (W.free 29) boot_ve rfl) (.ty _) (cs_ve (vC V))))) (mt_or1 (y_val (x_isXT 0 pn (W.free 24) rfl (pv 0) (pe_bts (pa_c (pe_bltn (v := .ty "LookupError") rfl (W.free 33) boot_le rfl) (pa_c (pe_bltn (v := .ty "TypeError") rfl (W.free 32) boot_te rfl) (pa_c (pe_bltn (v := .ty "ArithmeticError") rfl (W.free 31) boot_ae rfl) (pa_c (pe_bltn (v := .ty "RuntimeError") rfl (W.free 30) boot_re rfl) (pa_nil))))) (by rw [sizeLine_eq]; decide)) (.cons (.ty _) (.cons (.ty _) (.cons (.ty _) (.cons (.ty _) .nil)))) (cs_bt (vC V))))))) (ms_cons (ms_ret (me_tup (ma_cons (mo_tm (me_str)) (ma_nil)))) (ms_nil)) (ms_nil)) (ms_cons (ms_if (y_cmpU hu (mo_tm (x_cntL hu (mo_name (pv 1)) (ma_cons (mo_tm (me_bl)) (ma_nil)))) (mo_tm (me_int))) (ms_cons (ms_ret (me_tup (ma_cons (mo_tm (me_str)) (ma_nil)))) (ms_nil)) (ms_nil)) (ms_cons (z_set 2 nd (x_ix (mo_tm (me_lst (ma_cons (mo_tm (me_str)) (ma_cons (mo_tm (me_str)) (ma_cons (mo_tm (me_str)) (ma_cons (mo_tm (me_str)) (ma_cons (mo_tm (me_str)) (ma_cons (mo_tm (me_str)) (ma_cons (mo_tm (me_str)) (ma_nil)))))))))) (mo_tm (x_indexU hu (mo_name (pv 1)) (ma_cons (mo_tm (me_bl)) (ma_nil)))))) (ms_cons (ms_if (y_cmpU hu (mo_name (pv 2)) (mo_tm (me_str))) (ms_cons (ms_ret (me_tup (ma_cons (mo_name (pv 2)) (ma_cons (mo_tm (x_fldX 0 pn (pv 0) (okF_ok V))) (ma_cons (mo_tm (x_fldX 0 pn (pv 0) (okF_ok V))) (ma_nil)))))) (ms_nil)) (ms_nil)) (ms_cons (ms_if (y_cmpU hu (mo_name (pv 2)) (mo_tm (me_str))) (ms_cons (ms_ret (me_tup (ma_cons (mo_name (pv 2)) (ma_cons (mo_tm (x_fldX 0 pn (pv 0) (okF_ok V))) (ma_nil))))) (ms_nil)) (ms_nil)) (ms_cons (ms_ret (me_ife (y_cmpU hu (mo_name (pv 2)) (mo_tm (me_str))) (me_tup (ma_cons (mo_name (pv 2)) (ma_cons (mo_tm (x_fldX 0 pn (pv 0) (okF_ok V))) (ma_nil)))) (me_tup (ma_cons (mo_name (pv 2)) (ma_nil))))) (ms_nil))))))))
theorem ok_law_refusal (W : Wd K mg) (V : Vd K) : KnR P w K mg base 1 "_law_refusal" ["_law_e"] g_law_refusal := knr_mk W 13 13 rfl rfl rfl pl_law_refusal sc_law_refusal rfl (fun f cdv A outer s H p cls dd hr pn => bd_law_refusal W V f cdv A outer s H p cls dd hr pn)
theorem sc_law_pair : FnScope ["_law_pen", "_law_way", "_law_at", "_law_one", "_law_turned", "_law_other"] ["_law_pen"] (defScope st_law_pair) := ⟨rfl, rfl, rfl, by decide +kernel, rfl, by decide +kernel, by decide +kernel⟩
theorem pl_law_pair : Plain d_law_pair ["_law_pen"] := ⟨rfl, rfl, fun _ _ _ _ _ _ us hl => match us, hl with | [_], _ => rfl⟩
theorem bd_law_pair (W : Wd K mg) (V : Vd K) (f : Addr) (cdv : Value) (A : Around) (outer : List Env) (s : Shared) (H : Hp) (E : XK) (hr : Rm 3 (cxN P w K mg base ["_law_pen", "_law_way", "_law_at", "_law_one", "_law_turned", "_law_other"] d_law_pair f cdv A outer s H E).A) : PSs (cxN P w K mg base ["_law_pen", "_law_way", "_law_at", "_law_one", "_law_turned", "_law_other"] d_law_pair f cdv A outer s H E) d_law_pair.body (tS (K, w) W0 (ios [true]) m_law_pair) :=
  have nd : (["_law_pen", "_law_way", "_law_at", "_law_one", "_law_turned", "_law_other"] : List Str).Nodup := sc_law_pair.nd
  ms_cons (z_par2 1 2 rfl nd (ma_cons (mo_tm (g_call (ok_law_draw W V) hr (by decide) rfl (ma_cons (mo_name (pv 0)) (ma_cons (mo_tm (me_int)) (ma_nil))))) (ma_cons (mo_tm (g_call (ok_law_draw W V) hr (by decide) rfl (ma_cons (mo_name (pv 0)) (ma_cons (mo_tm (me_int)) (ma_nil))))) (ma_nil)))) (ms_cons (z_set 3 nd (g_call (ok_law_small W V) hr (by decide) rfl (ma_cons (mo_name (pv 0)) (ma_cons (mo_tm (x_ix (mo_tm (me_lst (ma_cons (mo_tm (me_int)) (ma_cons (mo_tm (me_int)) (ma_cons (mo_tm (me_int)) (ma_nil)))))) (mo_tm (g_call (ok_law_draw W V) hr (by decide) rfl (ma_cons (mo_name (pv 0)) (ma_cons (mo_tm (me_int)) (ma_nil))))))) (ma_nil))))) (ms_cons (ms_if (y_cmp hr.toRoom (mo_name (pv 1)) (mo_tm (me_int))) (ms_cons (ms_ret (me_tup (ma_cons (mo_name (pv 3)) (ma_cons (mo_name (pv 3)) (ma_nil))))) (ms_nil)) (ms_nil)) (ms_cons (ms_if (y_cmp hr.toRoom (mo_name (pv 1)) (mo_tm (me_int))) (ms_cons (z_set 4 nd (x_bf .max rfl (W.free 27) rfl rfl (ma_cons (mo_tm (x_bf .int rfl (W.free 28) rfl rfl (ma_cons (mo_tm (x_cmp hr.toRoom (mo_name (pv 2)) (mo_tm (me_int)))) (ma_nil)))) (ma_cons (mo_tm (x_bin (mo_tm (x_bin (mo_tm (x_ix (mo_name (pv 3)) (mo_name (pv 2)))) (mo_tm (me_int)))) (mo_tm (x_bin (mo_tm (me_int)) (mo_tm (g_call (ok_law_draw W V) hr (by decide) rfl (ma_cons (mo_name (pv 0)) (ma_cons (mo_tm (me_int)) (ma_nil))))))))) (ma_nil))))) (ms_cons (z_set 5 nd (x_bin (mo_tm (x_bin (mo_tm (me_slice (mo_name (pv 3)) (mp_none) (mp_some (mo_name (pv 2))))) (mo_tm (me_tup (ma_cons (mo_name (pv 4)) (ma_nil)))))) (mo_tm (me_slice (mo_name (pv 3)) (mp_some (mo_tm (x_bin (mo_name (pv 2)) (mo_tm (me_int))))) (mp_none))))) (ms_cons (ms_ret (me_tup (ma_cons (mo_name (pv 3)) (ma_cons (mo_tm (x_bin (mo_tm (me_slice (mo_name (pv 5)) (mp_none) (mp_some (mo_tm (me_int))))) (mo_tm (me_tup (ma_cons (mo_tm (x_bf .min rfl (W.free 22) rfl rfl (ma_cons (mo_tm (x_ix (mo_name (pv 5)) (mo_tm (me_int)))) (ma_cons (mo_tm (x_ix (mo_name (pv 5)) (mo_tm (me_int)))) (ma_nil))))) (ma_nil)))))) (ma_nil))))) (ms_nil)))) (ms_nil)) (ms_cons (ms_ret (me_tup (ma_cons (mo_name (pv 3)) (ma_cons (mo_tm (g_call (ok_law_small W V) hr (by decide) rfl (ma_cons (mo_name (pv 0)) (ma_cons (mo_tm (x_ix (mo_tm (me_lst (ma_cons (mo_tm (me_int)) (ma_cons (mo_tm (me_int)) (ma_cons (mo_tm (me_int)) (ma_nil)))))) (mo_tm (g_call (ok_law_draw W V) hr (by decide) rfl (ma_cons (mo_name (pv 0)) (ma_cons (mo_tm (me_int)) (ma_nil))))))) (ma_nil))))) (ma_nil))))) (ms_nil)))))
theorem ok_law_pair (W : Wd K mg) (V : Vd K) : KnG P w K mg base 4 "_law_pair" ["_law_pen"] (spOf (K, w) 1 g_law_pair) := kng_mk W 14 14 rfl rfl rfl pl_law_pair sc_law_pair (bd_law_pair W V)
theorem sc_law_on : FnScope ["_law_purse", "_law_coins", "_law_sign"] ["_law_purse", "_law_coins", "_law_sign"] (defScope st_law_on) := ⟨rfl, rfl, rfl, by decide +kernel, rfl, by decide +kernel, by decide +kernel⟩
theorem pl_law_on : Plain d_law_on ["_law_purse", "_law_coins", "_law_sign"] := ⟨rfl, rfl, fun _ _ _ _ _ _ us hl => match us, hl with | [_, _, _], _ => rfl⟩
theorem bd_law_on (W : Wd K mg) (V : Vd K) (f : Addr) (cdv : Value) (A : Around) (outer : List Env) (s : Shared) (H : Hp) (E : XK) (hr : Rm 0 (cxN P w K mg base ["_law_purse", "_law_coins", "_law_sign"] d_law_on f cdv A outer s H E).A) : PSs (cxN P w K mg base ["_law_purse", "_law_coins", "_law_sign"] d_law_on f cdv A outer s H E) d_law_on.body (tS (K, w) W0 (ios [true, true, true]) m_law_on) :=
  have nd : (["_law_purse", "_law_coins", "_law_sign"] : List Str).Nodup := sc_law_on.nd
  ms_cons (ms_if (y_cmp hr.toRoom (mo_name (pv 2)) (mo_tm (me_str))) (ms_cons (ms_ret (x_bf .min rfl (W.free 22) rfl rfl (ma_cons (mo_tm (x_ix (mo_name (pv 0)) (mo_tm (me_int)))) (ma_cons (mo_tm (x_bin (mo_name (pv 1)) (mo_tm (x_ix (mo_name (pv 0)) (mo_tm (me_int)))))) (ma_nil))))) (ms_nil)) (ms_nil)) (ms_cons (ms_ret (me_ife (y_cmp hr.toRoom (mo_name (pv 1)) (mo_tm (x_ix (mo_name (pv 0)) (mo_tm (me_int))))) (x_bin (mo_name (pv 1)) (mo_tm (x_ix (mo_name (pv 0)) (mo_tm (me_int))))) (me_name (pv 1)))) (ms_nil))
theorem ok_law_on (W : Wd K mg) (V : Vd K) : KnG P w K mg base 1 "_law_on" ["_law_purse", "_law_coins", "_law_sign"] (spOf (K, w) 3 g_law_on) := kng_mk W 15 15 rfl rfl rfl pl_law_on sc_law_on (bd_law_on W V)
theorem sc_law_shortest : FnScope ["_law_one", "_law_other", "_law_row", "_law_seen", "_law_found", "_law_pair_here", "_law_follow", "_law_sign", "_law_key"] ["_law_one", "_law_other"] (defScope st_law_shortest) := ⟨rfl, rfl, rfl, by decide +kernel, rfl, by decide +kernel, by decide +kernel⟩
theorem pl_law_shortest : Plain d_law_shortest ["_law_one", "_law_other"] := ⟨rfl, rfl, fun _ _ _ _ _ _ us hl => match us, hl with | [_, _], _ => rfl⟩
theorem bd_law_shortest (W : Wd K mg) (V : Vd K) (f : Addr) (cdv : Value) (A : Around) (outer : List Env) (s : Shared) (H : Hp) (E : XK) (hr : Rm 1 (cxN P w K mg base ["_law_one", "_law_other", "_law_row", "_law_seen", "_law_found", "_law_pair_here", "_law_follow", "_law_sign", "_law_key"] d_law_shortest f cdv A outer s H E).A) : PSs (cxN P w K mg base ["_law_one", "_law_other", "_law_row", "_law_seen", "_law_found", "_law_pair_here", "_law_follow", "_law_sign", "_law_key"] d_law_shortest f cdv A outer s H E) d_law_shortest.body (tS (K, w) W0 (ios [true, true]) m_law_shortest) :=
  have nd : (["_law_one", "_law_other", "_law_row", "_law_seen", "_law_found", "_law_pair_here", "_law_follow", "_law_sign", "_law_key"] : List Str).Nodup := sc_law_shortest.nd
  ms_cons (z_set 2 nd (x_nd1 hr.toRoom (me_tup (ma_cons (mo_tm (x_ix (mo_name (pv 0)) (mo_tm (me_int)))) (ma_cons (mo_tm (x_ix (mo_name (pv 1)) (mo_tm (me_int)))) (ma_nil)))) (me_str))) (ms_cons (z_set 3 nd (x_nd1 hr.toRoom (me_tup (ma_cons (mo_tm (x_ix (mo_name (pv 0)) (mo_tm (me_int)))) (ma_cons (mo_tm (x_ix (mo_name (pv 1)) (mo_tm (me_int)))) (ma_nil)))) (me_bl))) (ms_cons (ms_while .never (y_nne hr.toRoom (pv 2)) (ms_cons (z_lc 4 [("_law_pair_here", 5)] rfl nd (blkOk_by (by first | rfl | kernel_rfl)) (mi_nkeys (pv 2)) (Gd.imp (gd_name) (by intro j h; simpa using h)) (fun _ _ _ _ _ => g_nm 5 nd) (fun _ _ _ _ _ => pts_it (y_cmp hr.toRoom (mo_tm (x_cmp hr.toRoom (mo_tm (x_ix (mo_name (pv 5)) (mo_tm (me_int)))) (mo_tm (x_ix (mo_name (pv 0)) (mo_tm (me_int)))))) (mo_tm (x_cmp hr.toRoom (mo_tm (x_ix (mo_name (pv 5)) (mo_tm (me_int)))) (mo_tm (x_ix (mo_name (pv 1)) (mo_tm (me_int)))))))) (fun _ _ _ _ _ => x_bin (mo_tm (x_nget hr.toRoom (pv 2) (mo_name (pv 5)))) (mo_tm (me_str)))) (ms_cons (ms_if (y_cmp hr.toRoom (mo_name (pv 4)) (mo_tm (me_lst (ma_nil)))) (ms_cons (ms_ret (x_minL (W.free 22) hr rfl rfl (ma_cons (mo_name (pv 4)) (ma_nil)))) (ms_nil)) (ms_nil)) (ms_cons (z_set 6 nd (x_nnew)) (ms_cons (z_for (ts := [5]) .never rfl (mi_nkeys (pv 2)) (Gd.imp (gd_name) (by intro j h; simpa using h)) (g_nm 5 nd) (ms_cons (z_for (ts := [7]) .never rfl (mi_any (mo_tm (me_str))) (Gd.imp (gd_name) (by intro j h; simpa using h)) (g_nm 7 nd) (ms_cons (z_set 8 nd (me_tup (ma_cons (mo_tm (g_call (ok_law_on W V) hr (by decide) rfl (ma_cons (mo_name (pv 0)) (ma_cons (mo_tm (x_ix (mo_name (pv 5)) (mo_tm (me_int)))) (ma_cons (mo_name (pv 7)) (ma_nil)))))) (ma_cons (mo_tm (g_call (ok_law_on W V) hr (by decide) rfl (ma_cons (mo_name (pv 1)) (ma_cons (mo_tm (x_ix (mo_name (pv 5)) (mo_tm (me_int)))) (ma_cons (mo_name (pv 7)) (ma_nil)))))) (ma_nil))))) (ms_cons (ms_if (y_nnin hr.toRoom (pv 3) (mo_name (pv 8))) (ms_cons (z_nput hr.toRoom 6 (pv 6) (x_minS (W.free 22) rfl rfl (ma_cons (mo_tm (x_ngetd hr.toRoom (pv 6) (me_name (pv 8)) (me_str) ⟨rfl, rfl, rfl, rfl⟩)) (ma_cons (mo_tm (x_bin (mo_tm (x_nget hr.toRoom (pv 2) (mo_name (pv 5)))) (mo_name (pv 7)))) (ma_nil)))) (mo_name (pv 8))) (ms_nil)) (ms_nil)) (ms_nil)))) (ms_nil))) (ms_cons (z_for (ts := [8]) .never rfl (mi_nkeys (pv 6)) (Gd.imp (gd_name) (by intro j h; simpa using h)) (g_nm 8 nd) (ms_cons (z_nput hr.toRoom 3 (pv 3) (me_bl) (mo_name (pv 8))) (ms_nil))) (ms_cons (z_set 2 nd (x_take (pv 6))) (ms_nil)))))))) (ms_cons (ms_ret (me_non)) (ms_nil))))
theorem ok_law_shortest (W : Wd K mg) (V : Vd K) : KnG P w K mg base 2 "_law_shortest" ["_law_one", "_law_other"] (spOf (K, w) 2 g_law_shortest) := kng_mk W 16 16 rfl rfl rfl pl_law_shortest sc_law_shortest (bd_law_shortest W V)
theorem sc_law_parts : FnScope ["_law_one", "_law_other", "_law_thing", "_law_sign", "_law_coins"] ["_law_one", "_law_other", "_law_thing"] (defScope st_law_parts) := ⟨rfl, rfl, rfl, by decide +kernel, rfl, by decide +kernel, by decide +kernel⟩
theorem pl_law_parts : Plain d_law_parts ["_law_one", "_law_other", "_law_thing"] := ⟨rfl, rfl, fun _ _ _ _ _ _ us hl => match us, hl with | [_, _, _], _ => rfl⟩
theorem bd_law_parts (W : Wd K mg) (V : Vd K) (f : Addr) (cdv : Value) (A : Around) (outer : List Env) (s : Shared) (H : Hp) (E : XK) (hr : Rm 1 (cxN P w K mg base ["_law_one", "_law_other", "_law_thing", "_law_sign", "_law_coins"] d_law_parts f cdv A outer s H E).A) : PSs (cxN P w K mg base ["_law_one", "_law_other", "_law_thing", "_law_sign", "_law_coins"] d_law_parts f cdv A outer s H E) d_law_parts.body (tS (K, w) W0 (ios [true, true, true]) m_law_parts) :=
  have nd : (["_law_one", "_law_other", "_law_thing", "_law_sign", "_law_coins"] : List Str).Nodup := sc_law_parts.nd
  ms_cons (ms_if (PW.pt (mt_or (mt_not (y_val (x_isi .str rfl (W.free 24) (W.free 25) rfl rfl (mo_name (pv 2))))) (mt_or (y_cmp hr.toRoom (mo_name (pv 2)) (mo_tm (me_str))) (mt_or1 (y_cmp hr.toRoom (mo_tm (x_lc [("_law_sign", 3)] rfl nd (blkOk_by (by first | rfl | kernel_rfl)) (mi_any (mo_tm (me_name (pv 2)))) (Gd.imp (gd_name) (by intro j h; simpa using h)) (fun _ _ _ _ _ => g_nm 3 nd) (fun _ _ _ _ _ => pts_it (y_ninS (mo_name (pv 3)) (mo_tm (me_str)))) (fun _ _ _ _ _ => me_name (pv 3)))) (mo_tm (me_lst (ma_nil)))))))) (ms_cons (ms_ret (me_bl)) (ms_nil)) (ms_nil)) (ms_cons (z_set 4 nd (me_lst (ma_cons (mo_tm (x_ix (mo_name (pv 0)) (mo_tm (me_int)))) (ma_cons (mo_tm (x_ix (mo_name (pv 1)) (mo_tm (me_int)))) (ma_nil))))) (ms_cons (z_for (ts := [3]) .never rfl (mi_any (mo_tm (me_slice (mo_name (pv 2)) (mp_none) (mp_some (mo_tm (x_neg (mo_tm (me_int)))))))) (Gd.imp (gd_name) (by intro j h; simpa using h)) (g_nm 3 nd) (ms_cons (z_set 4 nd (me_lst (ma_cons (mo_tm (g_call (ok_law_on W V) hr (by decide) rfl (ma_cons (mo_name (pv 0)) (ma_cons (mo_tm (x_ix (mo_name (pv 4)) (mo_tm (me_int)))) (ma_cons (mo_name (pv 3)) (ma_nil)))))) (ma_cons (mo_tm (g_call (ok_law_on W V) hr (by decide) rfl (ma_cons (mo_name (pv 1)) (ma_cons (mo_tm (x_ix (mo_name (pv 4)) (mo_tm (me_int)))) (ma_cons (mo_name (pv 3)) (ma_nil)))))) (ma_nil))))) (ms_nil))) (ms_cons (ms_ret (me_and (x_cmp hr.toRoom (mo_tm (x_ix (mo_name (pv 2)) (mo_tm (x_neg (mo_tm (me_int)))))) (mo_tm (me_str))) (me_one (x_cmp hr.toRoom (mo_tm (x_cmp hr.toRoom (mo_tm (x_ix (mo_name (pv 4)) (mo_tm (me_int)))) (mo_tm (x_ix (mo_name (pv 0)) (mo_tm (me_int)))))) (mo_tm (x_cmp hr.toRoom (mo_tm (x_ix (mo_name (pv 4)) (mo_tm (me_int)))) (mo_tm (x_ix (mo_name (pv 1)) (mo_tm (me_int)))))))))) (ms_nil))))
theorem ok_law_parts (W : Wd K mg) (V : Vd K) : KnG P w K mg base 2 "_law_parts" ["_law_one", "_law_other", "_law_thing"] (spOf (K, w) 3 g_law_parts) := kng_mk W 17 17 rfl rfl rfl pl_law_parts sc_law_parts (bd_law_parts W V)
theorem sc_law_told : FnScope ["_law_one", "_law_other", "_law_e"] ["_law_one", "_law_other"] (defScope st_law_told) := ⟨rfl, rfl, rfl, by decide +kernel, rfl, by decide +kernel, by decide +kernel⟩
theorem pl_law_told : Plain d_law_told ["_law_one", "_law_other"] := ⟨rfl, rfl, fun _ _ _ _ _ _ us hl => match us, hl with | [_, _], _ => rfl⟩
theorem bd_law_told (W : Wd K mg) (V : Vd K) (f : Addr) (cdv : Value) (A : Around) (outer : List Env) (s : Shared) (H : Hp) (E : XK) (hr : Rm 3 (cxN P w K mg base ["_law_one", "_law_other", "_law_e"] d_law_told f cdv A outer s H E).A) : PSs (cxN P w K mg base ["_law_one", "_law_other", "_law_e"] d_law_told f cdv A outer s H E) d_law_told.body (tS (K, w) W0 (ios [true, true]) m_law_told) :=
  have nd : (["_law_one", "_law_other", "_law_e"] : List Str).Nodup := sc_law_told.nd
  ms_cons (z_told 2 rfl rfl nd rfl rfl ⟨rfl, by decide, .inl (W.glo 44)⟩ takes0 (fun W' pn xe tk => x_callX (ok_parted_by W V) tk hr (by decide) rfl (ma_cons (mo_name (pv 0)) (ma_cons (mo_name (pv 1)) (ma_nil)))) (cs_hkw (vC V) rf_law_refusal) (fun a oe cls d pn hz hf => x_callR 2 (ok_law_refusal W V) hr.toRoom (by decide) rfl hz hf (pv 2) (hG_law_refusal a cls d))) (ms_nil)
theorem ok_law_told (W : Wd K mg) (V : Vd K) : KnG P w K mg base 4 "_law_told" ["_law_one", "_law_other"] (spOf (K, w) 2 g_law_told) := kng_mk W 18 18 rfl rfl rfl pl_law_told sc_law_told (bd_law_told W V)
theorem sc_law_things : FnScope ["_law_pen", "_law_row", "_law_at", "_law_sign", "_law_drawn", "_law_turn", "_law_found"] ["_law_pen", "_law_row"] (defScope st_law_things) := ⟨rfl, rfl, rfl, by decide +kernel, rfl, by decide +kernel, by decide +kernel⟩
theorem pl_law_things : Plain d_law_things ["_law_pen", "_law_row"] := ⟨rfl, rfl, fun _ _ _ _ _ _ us hl => match us, hl with | [_, _], _ => rfl⟩
theorem bd_law_things (W : Wd K mg) (V : Vd K) (f : Addr) (cdv : Value) (A : Around) (outer : List Env) (s : Shared) (H : Hp) (E : XK) (hr : Rm 3 (cxN P w K mg base ["_law_pen", "_law_row", "_law_at", "_law_sign", "_law_drawn", "_law_turn", "_law_found"] d_law_things f cdv A outer s H E).A) : PSs (cxN P w K mg base ["_law_pen", "_law_row", "_law_at", "_law_sign", "_law_drawn", "_law_turn", "_law_found"] d_law_things f cdv A outer s H E) d_law_things.body (tS (K, w) W0 (ios [true, true]) m_law_things) :=
  have nd : (["_law_pen", "_law_row", "_law_at", "_law_sign", "_law_drawn", "_law_turn", "_law_found"] : List Str).Nodup := sc_law_things.nd
  ms_cons (z_par2 2 3 rfl nd (ma_cons (mo_tm (g_call (ok_law_draw W V) hr (by decide) rfl (ma_cons (mo_name (pv 0)) (ma_cons (mo_tm (x_bin (mo_tm (x_bf .len rfl (W.free 26) rfl rfl (ma_cons (mo_name (pv 1)) (ma_nil)))) (mo_tm (me_int)))) (ma_nil))))) (ma_cons (mo_tm (x_ix (mo_tm (me_str)) (mo_tm (g_call (ok_law_draw W V) hr (by decide) rfl (ma_cons (mo_name (pv 0)) (ma_cons (mo_tm (me_int)) (ma_nil))))))) (ma_nil)))) (ms_cons (z_set 4 nd (x_bin (mo_tm (x_join (mo_tm (me_str)) (ma_cons (mo_tm (x_lc [("_law_turn", 5)] rfl nd (blkOk_by (by first | rfl | kernel_rfl)) (z_rng1 (W.free 35) rfl (ma_cons (mo_tm (g_call (ok_law_draw W V) hr (by decide) rfl (ma_cons (mo_name (pv 0)) (ma_cons (mo_tm (me_int)) (ma_nil))))) (ma_nil))) (Gd.imp (gd_name) (by intro j h; simpa using h)) (fun _ _ _ _ _ => g_nm 5 nd) (fun _ _ _ _ _ => pts_no) (fun _ _ _ _ _ => x_ix (mo_tm (me_str)) (mo_tm (g_call (ok_law_draw W V) hr (by decide) rfl (ma_cons (mo_name (pv 0)) (ma_cons (mo_tm (me_int)) (ma_nil)))))))) (ma_nil)))) (mo_tm (me_str)))) (ms_cons (z_set 6 nd (me_lst (ma_cons (mo_name (pv 1)) (ma_cons (mo_tm (x_bin (mo_tm (x_bin (mo_tm (me_slice (mo_name (pv 1)) (mp_none) (mp_some (mo_name (pv 2))))) (mo_name (pv 3)))) (mo_tm (me_slice (mo_name (pv 1)) (mp_some (mo_name (pv 2))) (mp_none))))) (ma_cons (mo_tm (x_bin (mo_tm (me_slice (mo_name (pv 1)) (mp_none) (mp_some (mo_name (pv 2))))) (mo_tm (me_slice (mo_name (pv 1)) (mp_some (mo_tm (x_bin (mo_name (pv 2)) (mo_tm (me_int))))) (mp_none))))) (ma_cons (mo_tm (x_bin (mo_tm (x_bin (mo_tm (me_slice (mo_name (pv 1)) (mp_none) (mp_some (mo_name (pv 2))))) (mo_name (pv 3)))) (mo_tm (me_slice (mo_name (pv 1)) (mp_some (mo_tm (x_bin (mo_name (pv 2)) (mo_tm (me_int))))) (mp_none))))) (ma_cons (mo_tm (x_bin (mo_name (pv 1)) (mo_tm (me_str)))) (ma_nil)))))))) (ms_cons (ms_ret (x_bin (mo_name (pv 6)) (mo_tm (me_lst (ma_cons (mo_tm (x_bin (mo_name (pv 1)) (mo_tm (me_str)))) (ma_cons (mo_name (pv 4)) (ma_cons (mo_tm (x_bin (mo_tm (me_slice (mo_name (pv 4)) (mp_none) (mp_some (mo_tm (x_neg (mo_tm (me_int))))))) (mo_tm (me_str)))) (ma_cons (mo_tm (me_str)) (ma_cons (mo_tm (x_listS (W.free 34) rfl rfl (ma_cons (mo_name (pv 1)) (ma_nil)))) (ma_cons (mo_tm (g_call (ok_law_odd W V) hr (by decide) rfl (ma_cons (mo_name (pv 0)) (ma_nil)))) (ma_cons (mo_tm (x_revS (mo_name (pv 1)))) (ma_cons (mo_tm (x_smul3 (mo_name (pv 1)) (mo_tm (me_int)))) (ma_nil))))))))))))) (ms_nil))))
theorem ok_law_things (W : Wd K mg) (V : Vd K) : KnG P w K mg base 4 "_law_things" ["_law_pen", "_law_row"] (spOf (K, w) 2 g_law_things) := kng_mk W 19 19 rfl rfl rfl pl_law_things sc_law_things (bd_law_things W V)
theorem sc_law : FnScope ["_law_script", "_law_cell", "_law_pen", "_law_one", "_law_other", "_law_cap", "_law_due", "_law_thing", "_law_told_here"] ["_law_script"] (defScope st_law) := ⟨rfl, rfl, rfl, by decide +kernel, rfl, by decide +kernel, by decide +kernel⟩
theorem pl_law : Plain d_law ["_law_script"] := ⟨rfl, rfl, fun _ _ _ _ _ _ us hl => match us, hl with | [_], _ => rfl⟩
theorem bd_law (W : Wd K mg) (V : Vd K) (f : Addr) (cdv : Value) (A : Around) (outer : List Env) (s : Shared) (H : Hp) (E : XK) (hr : Rm 4 (cxN P w K mg base ["_law_script", "_law_cell", "_law_pen", "_law_one", "_law_other", "_law_cap", "_law_due", "_law_thing", "_law_told_here"] d_law f cdv A outer s H E).A) : PSs (cxN P w K mg base ["_law_script", "_law_cell", "_law_pen", "_law_one", "_law_other", "_law_cap", "_law_due", "_law_thing", "_law_told_here"] d_law f cdv A outer s H E) d_law.body (tS (K, w) W0 (ios [false]) m_law) :=
  have nd : (["_law_script", "_law_cell", "_law_pen", "_law_one", "_law_other", "_law_cap", "_law_due", "_law_thing", "_law_told_here"] : List Str).Nodup := sc_law.nd
  ms_cons (z_for (ts := [1]) .never rfl (mi_any (mo_tm (x_bin (mo_tm (me_lst (ma_cons (mo_tm (g_call (ok_law_cell_at W V) hr (by decide) rfl (ma_cons (mo_name (pv 0)) (ma_cons (mo_tm (me_int)) (ma_nil))))) (ma_nil)))) (mo_tm (me_slice (mo_name (pv 0)) (mp_some (mo_tm (me_int))) (mp_some (mo_tm (me_int)))))))) (Gd.imp (gd_name) (by intro j h; simpa using h)) (g_nm 1 nd) (ms_cons (z_set 2 nd (g_call (ok_law_pen_of W V) hr (by decide) rfl (ma_cons (mo_name (pv 1)) (ma_nil)))) (ms_cons (z_asg (Gd.imp (gd_tup rfl (gds_cons (gd_name) (gds_cons (gd_name) (gds_nil)))) (by intro j h; simpa using h)) (pg_tup rfl (pgs_cons (g_nm 3 nd) (pgs_cons (g_nm 4 nd) (pgs_nil)))) (g_call (ok_law_pair W V) hr (by decide) rfl (ma_cons (mo_name (pv 2)) (ma_nil)))) (ms_cons (z_set 5 nd (x_bf .max rfl (W.free 27) rfl rfl (ma_cons (mo_tm (x_ix (mo_name (pv 3)) (mo_tm (me_int)))) (ma_cons (mo_tm (x_ix (mo_name (pv 4)) (mo_tm (me_int)))) (ma_nil))))) (ms_cons (z_set 6 nd (me_ife (y_cmp hr.toRoom (mo_name (pv 5)) (mo_tm (me_int))) (me_tup (ma_cons (mo_tm (me_str)) (ma_cons (mo_name (pv 5)) (ma_cons (mo_tm (me_int)) (ma_nil))))) (g_call (ok_law_shortest W V) hr (by decide) rfl (ma_cons (mo_name (pv 3)) (ma_cons (mo_name (pv 4)) (ma_nil)))))) (ms_cons (ms_if (y_cmp hr.toRoom (mo_tm (x_repr (W.free 36) hr rfl (ma_cons (mo_tm (me_lst (ma_cons (mo_tm (g_call (ok_law_told W V) hr (by decide) rfl (ma_cons (mo_name (pv 3)) (ma_cons (mo_name (pv 4)) (ma_nil))))) (ma_cons (mo_tm (g_call (ok_law_told W V) hr (by decide) rfl (ma_cons (mo_name (pv 4)) (ma_cons (mo_name (pv 3)) (ma_nil))))) (ma_cons (mo_tm (g_call (ok_law_told W V) hr (by decide) rfl (ma_cons (mo_name (pv 3)) (ma_cons (mo_name (pv 4)) (ma_nil))))) (ma_nil)))))) (ma_nil)))) (mo_tm (x_repr (W.free 36) hr rfl (ma_cons (mo_tm (x_bin (mo_tm (me_lst (ma_cons (mo_name (pv 6)) (ma_nil)))) (mo_tm (me_int)))) (ma_nil))))) (ms_cons (ms_ret (me_bl)) (ms_nil)) (ms_nil)) (ms_cons (z_for (ts := [7]) .never rfl (mi_any (mo_tm (g_call (ok_law_things W V) hr (by decide) rfl (ma_cons (mo_name (pv 2)) (ma_cons (mo_tm (me_ife (y_val (x_isi .str rfl (W.free 24) (W.free 25) rfl rfl (mo_name (pv 6)))) (me_name (pv 6)) (me_str))) (ma_nil)))))) (Gd.imp (gd_name) (by intro j h; simpa using h)) (g_nm 7 nd) (ms_cons (z_set 8 nd (g_call (ok_law_parts W V) hr (by decide) rfl (ma_cons (mo_name (pv 3)) (ma_cons (mo_name (pv 4)) (ma_cons (mo_name (pv 7)) (ma_nil)))))) (ms_cons (ms_if (y_cmp hr.toRoom (mo_tm (x_repr (W.free 36) hr rfl (ma_cons (mo_tm (me_lst (ma_cons (mo_tm (g_call (ok_parts W V) hr (by decide) rfl (ma_cons (mo_name (pv 3)) (ma_cons (mo_name (pv 4)) (ma_cons (mo_name (pv 7)) (ma_nil)))))) (ma_cons (mo_tm (g_call (ok_parts W V) hr (by decide) rfl (ma_cons (mo_name (pv 4)) (ma_cons (mo_name (pv 3)) (ma_cons (mo_name (pv 7)) (ma_nil)))))) (ma_nil))))) (ma_nil)))) (mo_tm (x_repr (W.free 36) hr rfl (ma_cons (mo_tm (me_lst (ma_cons (mo_name (pv 8)) (ma_cons (mo_name (pv 8)) (ma_nil))))) (ma_nil))))) (ms_cons (ms_ret (me_bl)) (ms_nil)) (ms_nil)) (ms_nil)))) (ms_nil)))))))) (ms_cons (ms_ret (me_bl)) (ms_nil))
end
end KW
namespace KW
open PySem PySem.Spec PyProof.Rows L2 L2.M
local macro_rules | `(tactic| walk_at "ev") => `(tactic| simp [semF, shared, after, mSeq, mSkip, mIf, mRet, mRetN, mRetV, mSet, mSetIx, mExpr, mB, mU, mTm, mPl, mK, mVar, mOp, mCons, mNil, bor, bors, mTst, mAndT, mOrT, mNotT, mAndE, mOrE, mNotE, mIfE, mIsi, isiD, mChn, chnL, cmpD, binD, addD, subD, mulD, modD, fdivD, powD, eqD, neD, ltD, leD, gtD, geD, isD, isnD, L2.M.isNon, negD, ixD, Bf.f, Bg.f, lenD, L2.M.intD, maxD, minD, repD, strD, gmaxD, gminD, sumD, sortD, anyD, allD, mCall, frz, fzO, lend, wb, mTup, mLst, fzs, cD, mAsg, bTup, bTps, mApp, tupD, lstD, mRev, revD, ofs_inj, ee_ii, ee_ss, ee_bb, ee_nn, ee_is, ee_si, ee_in, ee_ni, ee_tt, ee_ll, ee_maps, ee_0, ee_1, ee_2, ee_3, at_lit, at_nat, at_m1, at_m2, scD, emD, sizeLine_eq, ixN, sm_lit, mSrc, itemsD, plOf, rng1D, bNm, mSl, mPt, mNoP, slD, mPar, keepT, tmsO, setA, mFlow, zipX, enumX, itemsX, intsOf, ints_all, boolsOf, shaped_lay, lay_int, lay_bool, lay_none, lay_dict, lay_tup, lay_list, lay_ints, sortX_ints, mPlF, mPlI, mRd, mPU, mPB, mFSet, mFNew, mNSet, mPApp, mPSetIx, mPPop, mMeth, mNew, isIns, cellO, mLstN, mAddN, mAppN, semX, mTold, mCallX, xRet, xExpr, xSet, mRaise, mM, isL, isS, mOrV, truD])
local macro_rules | `(tactic| walk_at "es") => `(tactic| simp [semF, shared, after, mSeq, mSkip, mIf, mRet, mRetN, mRetV, mSet, mSetIx, mExpr, mB, mU, mTm, mPl, mK, mVar, mOp, mCons, mNil, bor, bors, mTst, mAndT, mOrT, mNotT, mAndE, mOrE, mNotE, mIfE, mIsi, isiD, mChn, chnL, cmpD, binD, addD, subD, mulD, modD, fdivD, powD, eqD, neD, ltD, leD, gtD, geD, isD, isnD, L2.M.isNon, negD, ixD, Bf.f, Bg.f, lenD, L2.M.intD, maxD, minD, repD, strD, gmaxD, gminD, sumD, sortD, anyD, allD, mCall, frz, fzO, lend, wb, mTup, mLst, fzs, cD, mAsg, bTup, bTps, mApp, tupD, lstD, mRev, revD, ofs_inj, ee_ii, ee_ss, ee_bb, ee_nn, ee_is, ee_si, ee_in, ee_ni, ee_tt, ee_ll, ee_maps, ee_0, ee_1, ee_2, ee_3, at_lit, at_nat, at_m1, at_m2, scD, emD, sizeLine_eq, ixN, sm_lit, mSrc, itemsD, plOf, rng1D, bNm, mSl, mPt, mNoP, slD, mPar, keepT, tmsO, setA, mFlow, zipX, enumX, itemsX, intsOf, ints_all, boolsOf, shaped_lay, lay_int, lay_bool, lay_none, lay_dict, lay_tup, lay_list, lay_ints, sortX_ints, mPlF, mPlI, mRd, mPU, mPB, mFSet, mFNew, mNSet, mPApp, mPSetIx, mPPop, mMeth, mNew, isIns, cellO, mLstN, mAddN, mAppN, semX, mTold, mCallX, xRet, xExpr, xSet, mRaise, mM, isL, isS, mOrV, truD, *])
local macro_rules | `(tactic| walk_at "el") => `(tactic| simp [semF, shared, after, mSeq, mSkip, mIf, mRet, mRetN, mRetV, mSet, mSetIx, mExpr, mB, mU, mTm, mPl, mK, mVar, mOp, mCons, mNil, bor, bors, mTst, mAndT, mOrT, mNotT, mAndE, mOrE, mNotE, mIfE, mIsi, isiD, mChn, chnL, cmpD, binD, addD, subD, mulD, modD, fdivD, powD, eqD, neD, ltD, leD, gtD, geD, isD, isnD, L2.M.isNon, negD, ixD, Bf.f, Bg.f, lenD, L2.M.intD, maxD, minD, repD, strD, gmaxD, gminD, sumD, sortD, anyD, allD, mCall, frz, fzO, lend, wb, mTup, mLst, fzs, cD, mAsg, bTup, bTps, mApp, tupD, lstD, mRev, revD, ofs_inj, ee_ii, ee_ss, ee_bb, ee_nn, ee_is, ee_si, ee_in, ee_ni, ee_tt, ee_ll, ee_maps, ee_0, ee_1, ee_2, ee_3, at_lit, at_nat, at_m1, at_m2, scD, emD, sizeLine_eq, ixN, sm_lit, mSrc, itemsD, plOf, rng1D, bNm, mSl, mPt, mNoP, slD, mPar, keepT, tmsO, setA, mFlow, zipX, enumX, itemsX, intsOf, ints_all, boolsOf, shaped_lay, lay_int, lay_bool, lay_none, lay_dict, lay_tup, lay_list, lay_ints, sortX_ints, mPlF, mPlI, mRd, mPU, mPB, mFSet, mFNew, mNSet, mPApp, mPSetIx, mPPop, mMeth, mNew, isIns, cellO, mLstN, mAddN, mAppN, semX, mTold, mCallX, xRet, xExpr, xSet, mRaise, mM, isL, isS, mOrV, truD, mLc, lcL, sameC, wipeC, restC, mYes, *])
local macro_rules | `(tactic| walk_at "ef") => `(tactic| simp [semF, shared, after, mSeq, mSkip, mIf, mRet, mRetN, mRetV, mSet, mSetIx, mExpr, mB, mU, mTm, mPl, mK, mVar, mOp, mCons, mNil, bor, bors, mTst, mAndT, mOrT, mNotT, mAndE, mOrE, mNotE, mIfE, mIsi, isiD, mChn, chnL, cmpD, binD, addD, subD, mulD, modD, fdivD, powD, eqD, neD, ltD, leD, gtD, geD, isD, isnD, L2.M.isNon, negD, ixD, Bf.f, Bg.f, lenD, L2.M.intD, maxD, minD, repD, strD, gmaxD, gminD, sumD, sortD, anyD, allD, mCall, frz, fzO, lend, wb, mTup, mLst, fzs, cD, mAsg, bTup, bTps, mApp, tupD, lstD, mRev, revD, ofs_inj, ee_ii, ee_ss, ee_bb, ee_nn, ee_is, ee_si, ee_in, ee_ni, ee_tt, ee_ll, ee_maps, ee_0, ee_1, ee_2, ee_3, at_lit, at_nat, at_m1, at_m2, scD, emD, sizeLine_eq, ixN, sm_lit, mSrc, itemsD, plOf, rng1D, bNm, mSl, mPt, mNoP, slD, mPar, keepT, tmsO, setA, mFlow, zipX, enumX, itemsX, intsOf, ints_all, boolsOf, shaped_lay, lay_int, lay_bool, lay_none, lay_dict, lay_tup, lay_list, lay_ints, sortX_ints, mPlF, mPlI, mRd, mPU, mPB, mFSet, mFNew, mNSet, mPApp, mPSetIx, mPPop, mMeth, mNew, isIns, cellO, mLstN, mAddN, mAppN, semX, mTold, mCallX, xRet, xExpr, xSet, mRaise, mM, isL, isS, mOrV, truD, mFor, forL, mLc, lcL, sameC, wipeC, restC, mYes, *])
local macro_rules | `(tactic| walk_at "rg") => `(tactic| (and_intros <;> grind))
local macro_rules | `(tactic| walk_at "nx") => `(tactic| (apply wx_nx; focus (walk_at "ev"; try first | exact ⟨rfl, rfl⟩ | rfl)))
local macro_rules | `(tactic| walk_at "ns") => `(tactic| (apply wx_nx; focus (walk_at "es"; try first | exact ⟨rfl, rfl⟩ | rfl)))
local macro_rules | `(tactic| walk_at "rt") => `(tactic| (apply wx_rt; focus (walk_at "ev"; try first | exact ⟨rfl, rfl⟩ | rfl)))
local macro_rules | `(tactic| walk_at "rs") => `(tactic| (apply wx_rt; focus (walk_at "es"; try first | exact ⟨rfl, rfl⟩ | rfl)))
local macro_rules | `(tactic| walk_at "ed") => `(tactic| simp [semF, shared, after, mSeq, mSkip, mIf, mRet, mRetN, mRetV, mSet, mSetIx, mExpr, mB, mU, mTm, mPl, mK, mVar, mOp, mCons, mNil, bor, bors, mTst, mAndT, mOrT, mNotT, mAndE, mOrE, mNotE, mIfE, mIsi, isiD, mChn, chnL, cmpD, binD, addD, subD, mulD, modD, fdivD, powD, eqD, neD, ltD, leD, gtD, geD, isD, isnD, L2.M.isNon, negD, ixD, Bf.f, Bg.f, lenD, L2.M.intD, maxD, minD, repD, strD, gmaxD, gminD, sumD, sortD, anyD, allD, mCall, frz, fzO, lend, wb, mTup, mLst, fzs, cD, mAsg, bTup, bTps, mApp, tupD, lstD, mRev, revD, ofs_inj, ee_ii, ee_ss, ee_bb, ee_nn, ee_is, ee_si, ee_in, ee_ni, ee_tt, ee_ll, ee_maps, ee_0, ee_1, ee_2, ee_3, at_lit, at_nat, at_m1, at_m2, scD, emD, sizeLine_eq, ixN, sm_lit, mSrc, itemsD, plOf, rng1D, bNm, mSl, mPt, mNoP, slD, mPar, keepT, tmsO, setA, mFlow, zipX, enumX, itemsX, intsOf, ints_all, boolsOf, shaped_lay, lay_int, lay_bool, lay_none, lay_dict, lay_tup, lay_list, lay_ints, sortX_ints, mPlF, mPlI, mRd, mPU, mPB, mFSet, mFNew, mNSet, mPApp, mPSetIx, mPPop, mMeth, mNew, isIns, cellO, mLstN, mAddN, mAppN, semX, mTold, mCallX, xRet, xExpr, xSet, mRaise, mM, isL, isS, mOrV, truD, mDNew, mDIn, mDGet, mDLen, mDPut, kyD, mNNew, mN1, mTake, mFnV, mCallF, mNIn, mNGet, mNPut, mNVals, mNList, nKs, mDGetD, mDList, mNNe, *])
theorem put_in_eq (z : Pz) (c : Int) : g_put_in [.sh z.d, .sh (.int c)] = some (.sh (.int (pin z c)), [.sh z.d, .sh (.int c)]) := by
  unfold g_put_in m_put_in Pz.d pin
  walk_at "ev"
end KW
namespace KW
open PySem PySem.Spec PyProof.Rows L2 L2.M
local macro_rules | `(tactic| walk_at "ev") => `(tactic| simp [semF, shared, after, mSeq, mSkip, mIf, mRet, mRetN, mRetV, mSet, mSetIx, mExpr, mB, mU, mTm, mPl, mK, mVar, mOp, mCons, mNil, bor, bors, mTst, mAndT, mOrT, mNotT, mAndE, mOrE, mNotE, mIfE, mIsi, isiD, mChn, chnL, cmpD, binD, addD, subD, mulD, modD, fdivD, powD, eqD, neD, ltD, leD, gtD, geD, isD, isnD, L2.M.isNon, negD, ixD, Bf.f, Bg.f, lenD, L2.M.intD, maxD, minD, repD, strD, gmaxD, gminD, sumD, sortD, anyD, allD, mCall, frz, fzO, lend, wb, mTup, mLst, fzs, cD, mAsg, bTup, bTps, mApp, tupD, lstD, mRev, revD, ofs_inj, ee_ii, ee_ss, ee_bb, ee_nn, ee_is, ee_si, ee_in, ee_ni, ee_tt, ee_ll, ee_maps, ee_0, ee_1, ee_2, ee_3, at_lit, at_nat, at_m1, at_m2, scD, emD, sizeLine_eq, ixN, sm_lit, mSrc, itemsD, plOf, rng1D, bNm, mSl, mPt, mNoP, slD, mPar, keepT, tmsO, setA, mFlow, zipX, enumX, itemsX, intsOf, ints_all, boolsOf, shaped_lay, lay_int, lay_bool, lay_none, lay_dict, lay_tup, lay_list, lay_ints, sortX_ints, mPlF, mPlI, mRd, mPU, mPB, mFSet, mFNew, mNSet, mPApp, mPSetIx, mPPop, mMeth, mNew, isIns, cellO, mLstN, mAddN, mAppN, semX, mTold, mCallX, xRet, xExpr, xSet, mRaise, mM, isL, isS, mOrV, truD])
local macro_rules | `(tactic| walk_at "es") => `(tactic| simp [semF, shared, after, mSeq, mSkip, mIf, mRet, mRetN, mRetV, mSet, mSetIx, mExpr, mB, mU, mTm, mPl, mK, mVar, mOp, mCons, mNil, bor, bors, mTst, mAndT, mOrT, mNotT, mAndE, mOrE, mNotE, mIfE, mIsi, isiD, mChn, chnL, cmpD, binD, addD, subD, mulD, modD, fdivD, powD, eqD, neD, ltD, leD, gtD, geD, isD, isnD, L2.M.isNon, negD, ixD, Bf.f, Bg.f, lenD, L2.M.intD, maxD, minD, repD, strD, gmaxD, gminD, sumD, sortD, anyD, allD, mCall, frz, fzO, lend, wb, mTup, mLst, fzs, cD, mAsg, bTup, bTps, mApp, tupD, lstD, mRev, revD, ofs_inj, ee_ii, ee_ss, ee_bb, ee_nn, ee_is, ee_si, ee_in, ee_ni, ee_tt, ee_ll, ee_maps, ee_0, ee_1, ee_2, ee_3, at_lit, at_nat, at_m1, at_m2, scD, emD, sizeLine_eq, ixN, sm_lit, mSrc, itemsD, plOf, rng1D, bNm, mSl, mPt, mNoP, slD, mPar, keepT, tmsO, setA, mFlow, zipX, enumX, itemsX, intsOf, ints_all, boolsOf, shaped_lay, lay_int, lay_bool, lay_none, lay_dict, lay_tup, lay_list, lay_ints, sortX_ints, mPlF, mPlI, mRd, mPU, mPB, mFSet, mFNew, mNSet, mPApp, mPSetIx, mPPop, mMeth, mNew, isIns, cellO, mLstN, mAddN, mAppN, semX, mTold, mCallX, xRet, xExpr, xSet, mRaise, mM, isL, isS, mOrV, truD, *])
local macro_rules | `(tactic| walk_at "el") => `(tactic| simp [semF, shared, after, mSeq, mSkip, mIf, mRet, mRetN, mRetV, mSet, mSetIx, mExpr, mB, mU, mTm, mPl, mK, mVar, mOp, mCons, mNil, bor, bors, mTst, mAndT, mOrT, mNotT, mAndE, mOrE, mNotE, mIfE, mIsi, isiD, mChn, chnL, cmpD, binD, addD, subD, mulD, modD, fdivD, powD, eqD, neD, ltD, leD, gtD, geD, isD, isnD, L2.M.isNon, negD, ixD, Bf.f, Bg.f, lenD, L2.M.intD, maxD, minD, repD, strD, gmaxD, gminD, sumD, sortD, anyD, allD, mCall, frz, fzO, lend, wb, mTup, mLst, fzs, cD, mAsg, bTup, bTps, mApp, tupD, lstD, mRev, revD, ofs_inj, ee_ii, ee_ss, ee_bb, ee_nn, ee_is, ee_si, ee_in, ee_ni, ee_tt, ee_ll, ee_maps, ee_0, ee_1, ee_2, ee_3, at_lit, at_nat, at_m1, at_m2, scD, emD, sizeLine_eq, ixN, sm_lit, mSrc, itemsD, plOf, rng1D, bNm, mSl, mPt, mNoP, slD, mPar, keepT, tmsO, setA, mFlow, zipX, enumX, itemsX, intsOf, ints_all, boolsOf, shaped_lay, lay_int, lay_bool, lay_none, lay_dict, lay_tup, lay_list, lay_ints, sortX_ints, mPlF, mPlI, mRd, mPU, mPB, mFSet, mFNew, mNSet, mPApp, mPSetIx, mPPop, mMeth, mNew, isIns, cellO, mLstN, mAddN, mAppN, semX, mTold, mCallX, xRet, xExpr, xSet, mRaise, mM, isL, isS, mOrV, truD, mLc, lcL, sameC, wipeC, restC, mYes, *])
local macro_rules | `(tactic| walk_at "ef") => `(tactic| simp [semF, shared, after, mSeq, mSkip, mIf, mRet, mRetN, mRetV, mSet, mSetIx, mExpr, mB, mU, mTm, mPl, mK, mVar, mOp, mCons, mNil, bor, bors, mTst, mAndT, mOrT, mNotT, mAndE, mOrE, mNotE, mIfE, mIsi, isiD, mChn, chnL, cmpD, binD, addD, subD, mulD, modD, fdivD, powD, eqD, neD, ltD, leD, gtD, geD, isD, isnD, L2.M.isNon, negD, ixD, Bf.f, Bg.f, lenD, L2.M.intD, maxD, minD, repD, strD, gmaxD, gminD, sumD, sortD, anyD, allD, mCall, frz, fzO, lend, wb, mTup, mLst, fzs, cD, mAsg, bTup, bTps, mApp, tupD, lstD, mRev, revD, ofs_inj, ee_ii, ee_ss, ee_bb, ee_nn, ee_is, ee_si, ee_in, ee_ni, ee_tt, ee_ll, ee_maps, ee_0, ee_1, ee_2, ee_3, at_lit, at_nat, at_m1, at_m2, scD, emD, sizeLine_eq, ixN, sm_lit, mSrc, itemsD, plOf, rng1D, bNm, mSl, mPt, mNoP, slD, mPar, keepT, tmsO, setA, mFlow, zipX, enumX, itemsX, intsOf, ints_all, boolsOf, shaped_lay, lay_int, lay_bool, lay_none, lay_dict, lay_tup, lay_list, lay_ints, sortX_ints, mPlF, mPlI, mRd, mPU, mPB, mFSet, mFNew, mNSet, mPApp, mPSetIx, mPPop, mMeth, mNew, isIns, cellO, mLstN, mAddN, mAppN, semX, mTold, mCallX, xRet, xExpr, xSet, mRaise, mM, isL, isS, mOrV, truD, mFor, forL, mLc, lcL, sameC, wipeC, restC, mYes, *])
local macro_rules | `(tactic| walk_at "rg") => `(tactic| (and_intros <;> grind))
local macro_rules | `(tactic| walk_at "nx") => `(tactic| (apply wx_nx; focus (walk_at "ev"; try first | exact ⟨rfl, rfl⟩ | rfl)))
local macro_rules | `(tactic| walk_at "ns") => `(tactic| (apply wx_nx; focus (walk_at "es"; try first | exact ⟨rfl, rfl⟩ | rfl)))
local macro_rules | `(tactic| walk_at "rt") => `(tactic| (apply wx_rt; focus (walk_at "ev"; try first | exact ⟨rfl, rfl⟩ | rfl)))
local macro_rules | `(tactic| walk_at "rs") => `(tactic| (apply wx_rt; focus (walk_at "es"; try first | exact ⟨rfl, rfl⟩ | rfl)))
local macro_rules | `(tactic| walk_at "ed") => `(tactic| simp [semF, shared, after, mSeq, mSkip, mIf, mRet, mRetN, mRetV, mSet, mSetIx, mExpr, mB, mU, mTm, mPl, mK, mVar, mOp, mCons, mNil, bor, bors, mTst, mAndT, mOrT, mNotT, mAndE, mOrE, mNotE, mIfE, mIsi, isiD, mChn, chnL, cmpD, binD, addD, subD, mulD, modD, fdivD, powD, eqD, neD, ltD, leD, gtD, geD, isD, isnD, L2.M.isNon, negD, ixD, Bf.f, Bg.f, lenD, L2.M.intD, maxD, minD, repD, strD, gmaxD, gminD, sumD, sortD, anyD, allD, mCall, frz, fzO, lend, wb, mTup, mLst, fzs, cD, mAsg, bTup, bTps, mApp, tupD, lstD, mRev, revD, ofs_inj, ee_ii, ee_ss, ee_bb, ee_nn, ee_is, ee_si, ee_in, ee_ni, ee_tt, ee_ll, ee_maps, ee_0, ee_1, ee_2, ee_3, at_lit, at_nat, at_m1, at_m2, scD, emD, sizeLine_eq, ixN, sm_lit, mSrc, itemsD, plOf, rng1D, bNm, mSl, mPt, mNoP, slD, mPar, keepT, tmsO, setA, mFlow, zipX, enumX, itemsX, intsOf, ints_all, boolsOf, shaped_lay, lay_int, lay_bool, lay_none, lay_dict, lay_tup, lay_list, lay_ints, sortX_ints, mPlF, mPlI, mRd, mPU, mPB, mFSet, mFNew, mNSet, mPApp, mPSetIx, mPPop, mMeth, mNew, isIns, cellO, mLstN, mAddN, mAppN, semX, mTold, mCallX, xRet, xExpr, xSet, mRaise, mM, isL, isS, mOrV, truD, mDNew, mDIn, mDGet, mDLen, mDPut, kyD, mNNew, mN1, mTake, mFnV, mCallF, mNIn, mNGet, mNPut, mNVals, mNList, nKs, mDGetD, mDList, mNNe, *])
open PySem.StrLaws PySem.Builtin PySem.Builtin.Str
end KW
namespace KW
open PySem PySem.Spec PyProof.Rows L2 L2.M
local macro_rules | `(tactic| walk_at "ev") => `(tactic| simp [semF, shared, after, mSeq, mSkip, mIf, mRet, mRetN, mRetV, mSet, mSetIx, mExpr, mB, mU, mTm, mPl, mK, mVar, mOp, mCons, mNil, bor, bors, mTst, mAndT, mOrT, mNotT, mAndE, mOrE, mNotE, mIfE, mIsi, isiD, mChn, chnL, cmpD, binD, addD, subD, mulD, modD, fdivD, powD, eqD, neD, ltD, leD, gtD, geD, isD, isnD, L2.M.isNon, negD, ixD, Bf.f, Bg.f, lenD, L2.M.intD, maxD, minD, repD, strD, gmaxD, gminD, sumD, sortD, anyD, allD, mCall, frz, fzO, lend, wb, mTup, mLst, fzs, cD, mAsg, bTup, bTps, mApp, tupD, lstD, mRev, revD, ofs_inj, ee_ii, ee_ss, ee_bb, ee_nn, ee_is, ee_si, ee_in, ee_ni, ee_tt, ee_ll, ee_maps, ee_0, ee_1, ee_2, ee_3, at_lit, at_nat, at_m1, at_m2, scD, emD, sizeLine_eq, ixN, sm_lit, mSrc, itemsD, plOf, rng1D, bNm, mSl, mPt, mNoP, slD, mPar, keepT, tmsO, setA, mFlow, zipX, enumX, itemsX, intsOf, ints_all, boolsOf, shaped_lay, lay_int, lay_bool, lay_none, lay_dict, lay_tup, lay_list, lay_ints, sortX_ints, mPlF, mPlI, mRd, mPU, mPB, mFSet, mFNew, mNSet, mPApp, mPSetIx, mPPop, mMeth, mNew, isIns, cellO, mLstN, mAddN, mAppN, semX, mTold, mCallX, xRet, xExpr, xSet, mRaise, mM, isL, isS, mOrV, truD])
local macro_rules | `(tactic| walk_at "es") => `(tactic| simp [semF, shared, after, mSeq, mSkip, mIf, mRet, mRetN, mRetV, mSet, mSetIx, mExpr, mB, mU, mTm, mPl, mK, mVar, mOp, mCons, mNil, bor, bors, mTst, mAndT, mOrT, mNotT, mAndE, mOrE, mNotE, mIfE, mIsi, isiD, mChn, chnL, cmpD, binD, addD, subD, mulD, modD, fdivD, powD, eqD, neD, ltD, leD, gtD, geD, isD, isnD, L2.M.isNon, negD, ixD, Bf.f, Bg.f, lenD, L2.M.intD, maxD, minD, repD, strD, gmaxD, gminD, sumD, sortD, anyD, allD, mCall, frz, fzO, lend, wb, mTup, mLst, fzs, cD, mAsg, bTup, bTps, mApp, tupD, lstD, mRev, revD, ofs_inj, ee_ii, ee_ss, ee_bb, ee_nn, ee_is, ee_si, ee_in, ee_ni, ee_tt, ee_ll, ee_maps, ee_0, ee_1, ee_2, ee_3, at_lit, at_nat, at_m1, at_m2, scD, emD, sizeLine_eq, ixN, sm_lit, mSrc, itemsD, plOf, rng1D, bNm, mSl, mPt, mNoP, slD, mPar, keepT, tmsO, setA, mFlow, zipX, enumX, itemsX, intsOf, ints_all, boolsOf, shaped_lay, lay_int, lay_bool, lay_none, lay_dict, lay_tup, lay_list, lay_ints, sortX_ints, mPlF, mPlI, mRd, mPU, mPB, mFSet, mFNew, mNSet, mPApp, mPSetIx, mPPop, mMeth, mNew, isIns, cellO, mLstN, mAddN, mAppN, semX, mTold, mCallX, xRet, xExpr, xSet, mRaise, mM, isL, isS, mOrV, truD, *])
local macro_rules | `(tactic| walk_at "el") => `(tactic| simp [semF, shared, after, mSeq, mSkip, mIf, mRet, mRetN, mRetV, mSet, mSetIx, mExpr, mB, mU, mTm, mPl, mK, mVar, mOp, mCons, mNil, bor, bors, mTst, mAndT, mOrT, mNotT, mAndE, mOrE, mNotE, mIfE, mIsi, isiD, mChn, chnL, cmpD, binD, addD, subD, mulD, modD, fdivD, powD, eqD, neD, ltD, leD, gtD, geD, isD, isnD, L2.M.isNon, negD, ixD, Bf.f, Bg.f, lenD, L2.M.intD, maxD, minD, repD, strD, gmaxD, gminD, sumD, sortD, anyD, allD, mCall, frz, fzO, lend, wb, mTup, mLst, fzs, cD, mAsg, bTup, bTps, mApp, tupD, lstD, mRev, revD, ofs_inj, ee_ii, ee_ss, ee_bb, ee_nn, ee_is, ee_si, ee_in, ee_ni, ee_tt, ee_ll, ee_maps, ee_0, ee_1, ee_2, ee_3, at_lit, at_nat, at_m1, at_m2, scD, emD, sizeLine_eq, ixN, sm_lit, mSrc, itemsD, plOf, rng1D, bNm, mSl, mPt, mNoP, slD, mPar, keepT, tmsO, setA, mFlow, zipX, enumX, itemsX, intsOf, ints_all, boolsOf, shaped_lay, lay_int, lay_bool, lay_none, lay_dict, lay_tup, lay_list, lay_ints, sortX_ints, mPlF, mPlI, mRd, mPU, mPB, mFSet, mFNew, mNSet, mPApp, mPSetIx, mPPop, mMeth, mNew, isIns, cellO, mLstN, mAddN, mAppN, semX, mTold, mCallX, xRet, xExpr, xSet, mRaise, mM, isL, isS, mOrV, truD, mLc, lcL, sameC, wipeC, restC, mYes, *])
local macro_rules | `(tactic| walk_at "ef") => `(tactic| simp [semF, shared, after, mSeq, mSkip, mIf, mRet, mRetN, mRetV, mSet, mSetIx, mExpr, mB, mU, mTm, mPl, mK, mVar, mOp, mCons, mNil, bor, bors, mTst, mAndT, mOrT, mNotT, mAndE, mOrE, mNotE, mIfE, mIsi, isiD, mChn, chnL, cmpD, binD, addD, subD, mulD, modD, fdivD, powD, eqD, neD, ltD, leD, gtD, geD, isD, isnD, L2.M.isNon, negD, ixD, Bf.f, Bg.f, lenD, L2.M.intD, maxD, minD, repD, strD, gmaxD, gminD, sumD, sortD, anyD, allD, mCall, frz, fzO, lend, wb, mTup, mLst, fzs, cD, mAsg, bTup, bTps, mApp, tupD, lstD, mRev, revD, ofs_inj, ee_ii, ee_ss, ee_bb, ee_nn, ee_is, ee_si, ee_in, ee_ni, ee_tt, ee_ll, ee_maps, ee_0, ee_1, ee_2, ee_3, at_lit, at_nat, at_m1, at_m2, scD, emD, sizeLine_eq, ixN, sm_lit, mSrc, itemsD, plOf, rng1D, bNm, mSl, mPt, mNoP, slD, mPar, keepT, tmsO, setA, mFlow, zipX, enumX, itemsX, intsOf, ints_all, boolsOf, shaped_lay, lay_int, lay_bool, lay_none, lay_dict, lay_tup, lay_list, lay_ints, sortX_ints, mPlF, mPlI, mRd, mPU, mPB, mFSet, mFNew, mNSet, mPApp, mPSetIx, mPPop, mMeth, mNew, isIns, cellO, mLstN, mAddN, mAppN, semX, mTold, mCallX, xRet, xExpr, xSet, mRaise, mM, isL, isS, mOrV, truD, mFor, forL, mLc, lcL, sameC, wipeC, restC, mYes, *])
local macro_rules | `(tactic| walk_at "rg") => `(tactic| (and_intros <;> grind))
local macro_rules | `(tactic| walk_at "nx") => `(tactic| (apply wx_nx; focus (walk_at "ev"; try first | exact ⟨rfl, rfl⟩ | rfl)))
local macro_rules | `(tactic| walk_at "ns") => `(tactic| (apply wx_nx; focus (walk_at "es"; try first | exact ⟨rfl, rfl⟩ | rfl)))
local macro_rules | `(tactic| walk_at "rt") => `(tactic| (apply wx_rt; focus (walk_at "ev"; try first | exact ⟨rfl, rfl⟩ | rfl)))
local macro_rules | `(tactic| walk_at "rs") => `(tactic| (apply wx_rt; focus (walk_at "es"; try first | exact ⟨rfl, rfl⟩ | rfl)))
local macro_rules | `(tactic| walk_at "ed") => `(tactic| simp [semF, shared, after, mSeq, mSkip, mIf, mRet, mRetN, mRetV, mSet, mSetIx, mExpr, mB, mU, mTm, mPl, mK, mVar, mOp, mCons, mNil, bor, bors, mTst, mAndT, mOrT, mNotT, mAndE, mOrE, mNotE, mIfE, mIsi, isiD, mChn, chnL, cmpD, binD, addD, subD, mulD, modD, fdivD, powD, eqD, neD, ltD, leD, gtD, geD, isD, isnD, L2.M.isNon, negD, ixD, Bf.f, Bg.f, lenD, L2.M.intD, maxD, minD, repD, strD, gmaxD, gminD, sumD, sortD, anyD, allD, mCall, frz, fzO, lend, wb, mTup, mLst, fzs, cD, mAsg, bTup, bTps, mApp, tupD, lstD, mRev, revD, ofs_inj, ee_ii, ee_ss, ee_bb, ee_nn, ee_is, ee_si, ee_in, ee_ni, ee_tt, ee_ll, ee_maps, ee_0, ee_1, ee_2, ee_3, at_lit, at_nat, at_m1, at_m2, scD, emD, sizeLine_eq, ixN, sm_lit, mSrc, itemsD, plOf, rng1D, bNm, mSl, mPt, mNoP, slD, mPar, keepT, tmsO, setA, mFlow, zipX, enumX, itemsX, intsOf, ints_all, boolsOf, shaped_lay, lay_int, lay_bool, lay_none, lay_dict, lay_tup, lay_list, lay_ints, sortX_ints, mPlF, mPlI, mRd, mPU, mPB, mFSet, mFNew, mNSet, mPApp, mPSetIx, mPPop, mMeth, mNew, isIns, cellO, mLstN, mAddN, mAppN, semX, mTold, mCallX, xRet, xExpr, xSet, mRaise, mM, isL, isS, mOrV, truD, mDNew, mDIn, mDGet, mDLen, mDPut, kyD, mNNew, mN1, mTake, mFnV, mCallF, mNIn, mNGet, mNPut, mNVals, mNList, nKs, mDGetD, mDList, mNNe, *])
def sgn (g : Bool) : Nat := if g then 97 else 107
theorem len_map {T : Str} {bs : List Bool} (h : cpsL T = bs.map sgn) : T.length = bs.length := by rw [← len_cps, h, List.length_map]
theorem add_str {a b : Str} (h : a.length + b.length ≤ 16777216) : addD (.str a) (.str b) = some (.sh (.str (a ++ b))) := by
  show (if a.length + b.length ≤ sizeLine then some (C.sh (.str (a ++ b))) else none) = _
  rw [if_pos (by rw [sizeLine_eq]; exact h)]
end KW
namespace KW
open PySem PySem.Spec PyProof.Rows L2 L2.M
local macro_rules | `(tactic| walk_at "ev") => `(tactic| simp [semF, shared, after, mSeq, mSkip, mIf, mRet, mRetN, mRetV, mSet, mSetIx, mExpr, mB, mU, mTm, mPl, mK, mVar, mOp, mCons, mNil, bor, bors, mTst, mAndT, mOrT, mNotT, mAndE, mOrE, mNotE, mIfE, mIsi, isiD, mChn, chnL, cmpD, binD, addD, subD, mulD, modD, fdivD, powD, eqD, neD, ltD, leD, gtD, geD, isD, isnD, L2.M.isNon, negD, ixD, Bf.f, Bg.f, lenD, L2.M.intD, maxD, minD, repD, strD, gmaxD, gminD, sumD, sortD, anyD, allD, mCall, frz, fzO, lend, wb, mTup, mLst, fzs, cD, mAsg, bTup, bTps, mApp, tupD, lstD, mRev, revD, ofs_inj, ee_ii, ee_ss, ee_bb, ee_nn, ee_is, ee_si, ee_in, ee_ni, ee_tt, ee_ll, ee_maps, ee_0, ee_1, ee_2, ee_3, at_lit, at_nat, at_m1, at_m2, scD, emD, sizeLine_eq, ixN, sm_lit, mSrc, itemsD, plOf, rng1D, bNm, mSl, mPt, mNoP, slD, mPar, keepT, tmsO, setA, mFlow, zipX, enumX, itemsX, intsOf, ints_all, boolsOf, shaped_lay, lay_int, lay_bool, lay_none, lay_dict, lay_tup, lay_list, lay_ints, sortX_ints, mPlF, mPlI, mRd, mPU, mPB, mFSet, mFNew, mNSet, mPApp, mPSetIx, mPPop, mMeth, mNew, isIns, cellO, mLstN, mAddN, mAppN, semX, mTold, mCallX, xRet, xExpr, xSet, mRaise, mM, isL, isS, mOrV, truD])
local macro_rules | `(tactic| walk_at "es") => `(tactic| simp [semF, shared, after, mSeq, mSkip, mIf, mRet, mRetN, mRetV, mSet, mSetIx, mExpr, mB, mU, mTm, mPl, mK, mVar, mOp, mCons, mNil, bor, bors, mTst, mAndT, mOrT, mNotT, mAndE, mOrE, mNotE, mIfE, mIsi, isiD, mChn, chnL, cmpD, binD, addD, subD, mulD, modD, fdivD, powD, eqD, neD, ltD, leD, gtD, geD, isD, isnD, L2.M.isNon, negD, ixD, Bf.f, Bg.f, lenD, L2.M.intD, maxD, minD, repD, strD, gmaxD, gminD, sumD, sortD, anyD, allD, mCall, frz, fzO, lend, wb, mTup, mLst, fzs, cD, mAsg, bTup, bTps, mApp, tupD, lstD, mRev, revD, ofs_inj, ee_ii, ee_ss, ee_bb, ee_nn, ee_is, ee_si, ee_in, ee_ni, ee_tt, ee_ll, ee_maps, ee_0, ee_1, ee_2, ee_3, at_lit, at_nat, at_m1, at_m2, scD, emD, sizeLine_eq, ixN, sm_lit, mSrc, itemsD, plOf, rng1D, bNm, mSl, mPt, mNoP, slD, mPar, keepT, tmsO, setA, mFlow, zipX, enumX, itemsX, intsOf, ints_all, boolsOf, shaped_lay, lay_int, lay_bool, lay_none, lay_dict, lay_tup, lay_list, lay_ints, sortX_ints, mPlF, mPlI, mRd, mPU, mPB, mFSet, mFNew, mNSet, mPApp, mPSetIx, mPPop, mMeth, mNew, isIns, cellO, mLstN, mAddN, mAppN, semX, mTold, mCallX, xRet, xExpr, xSet, mRaise, mM, isL, isS, mOrV, truD, *])
local macro_rules | `(tactic| walk_at "el") => `(tactic| simp [semF, shared, after, mSeq, mSkip, mIf, mRet, mRetN, mRetV, mSet, mSetIx, mExpr, mB, mU, mTm, mPl, mK, mVar, mOp, mCons, mNil, bor, bors, mTst, mAndT, mOrT, mNotT, mAndE, mOrE, mNotE, mIfE, mIsi, isiD, mChn, chnL, cmpD, binD, addD, subD, mulD, modD, fdivD, powD, eqD, neD, ltD, leD, gtD, geD, isD, isnD, L2.M.isNon, negD, ixD, Bf.f, Bg.f, lenD, L2.M.intD, maxD, minD, repD, strD, gmaxD, gminD, sumD, sortD, anyD, allD, mCall, frz, fzO, lend, wb, mTup, mLst, fzs, cD, mAsg, bTup, bTps, mApp, tupD, lstD, mRev, revD, ofs_inj, ee_ii, ee_ss, ee_bb, ee_nn, ee_is, ee_si, ee_in, ee_ni, ee_tt, ee_ll, ee_maps, ee_0, ee_1, ee_2, ee_3, at_lit, at_nat, at_m1, at_m2, scD, emD, sizeLine_eq, ixN, sm_lit, mSrc, itemsD, plOf, rng1D, bNm, mSl, mPt, mNoP, slD, mPar, keepT, tmsO, setA, mFlow, zipX, enumX, itemsX, intsOf, ints_all, boolsOf, shaped_lay, lay_int, lay_bool, lay_none, lay_dict, lay_tup, lay_list, lay_ints, sortX_ints, mPlF, mPlI, mRd, mPU, mPB, mFSet, mFNew, mNSet, mPApp, mPSetIx, mPPop, mMeth, mNew, isIns, cellO, mLstN, mAddN, mAppN, semX, mTold, mCallX, xRet, xExpr, xSet, mRaise, mM, isL, isS, mOrV, truD, mLc, lcL, sameC, wipeC, restC, mYes, *])
local macro_rules | `(tactic| walk_at "ef") => `(tactic| simp [semF, shared, after, mSeq, mSkip, mIf, mRet, mRetN, mRetV, mSet, mSetIx, mExpr, mB, mU, mTm, mPl, mK, mVar, mOp, mCons, mNil, bor, bors, mTst, mAndT, mOrT, mNotT, mAndE, mOrE, mNotE, mIfE, mIsi, isiD, mChn, chnL, cmpD, binD, addD, subD, mulD, modD, fdivD, powD, eqD, neD, ltD, leD, gtD, geD, isD, isnD, L2.M.isNon, negD, ixD, Bf.f, Bg.f, lenD, L2.M.intD, maxD, minD, repD, strD, gmaxD, gminD, sumD, sortD, anyD, allD, mCall, frz, fzO, lend, wb, mTup, mLst, fzs, cD, mAsg, bTup, bTps, mApp, tupD, lstD, mRev, revD, ofs_inj, ee_ii, ee_ss, ee_bb, ee_nn, ee_is, ee_si, ee_in, ee_ni, ee_tt, ee_ll, ee_maps, ee_0, ee_1, ee_2, ee_3, at_lit, at_nat, at_m1, at_m2, scD, emD, sizeLine_eq, ixN, sm_lit, mSrc, itemsD, plOf, rng1D, bNm, mSl, mPt, mNoP, slD, mPar, keepT, tmsO, setA, mFlow, zipX, enumX, itemsX, intsOf, ints_all, boolsOf, shaped_lay, lay_int, lay_bool, lay_none, lay_dict, lay_tup, lay_list, lay_ints, sortX_ints, mPlF, mPlI, mRd, mPU, mPB, mFSet, mFNew, mNSet, mPApp, mPSetIx, mPPop, mMeth, mNew, isIns, cellO, mLstN, mAddN, mAppN, semX, mTold, mCallX, xRet, xExpr, xSet, mRaise, mM, isL, isS, mOrV, truD, mFor, forL, mLc, lcL, sameC, wipeC, restC, mYes, *])
local macro_rules | `(tactic| walk_at "rg") => `(tactic| (and_intros <;> grind))
local macro_rules | `(tactic| walk_at "nx") => `(tactic| (apply wx_nx; focus (walk_at "ev"; try first | exact ⟨rfl, rfl⟩ | rfl)))
local macro_rules | `(tactic| walk_at "ns") => `(tactic| (apply wx_nx; focus (walk_at "es"; try first | exact ⟨rfl, rfl⟩ | rfl)))
local macro_rules | `(tactic| walk_at "rt") => `(tactic| (apply wx_rt; focus (walk_at "ev"; try first | exact ⟨rfl, rfl⟩ | rfl)))
local macro_rules | `(tactic| walk_at "rs") => `(tactic| (apply wx_rt; focus (walk_at "es"; try first | exact ⟨rfl, rfl⟩ | rfl)))
local macro_rules | `(tactic| walk_at "ed") => `(tactic| simp [semF, shared, after, mSeq, mSkip, mIf, mRet, mRetN, mRetV, mSet, mSetIx, mExpr, mB, mU, mTm, mPl, mK, mVar, mOp, mCons, mNil, bor, bors, mTst, mAndT, mOrT, mNotT, mAndE, mOrE, mNotE, mIfE, mIsi, isiD, mChn, chnL, cmpD, binD, addD, subD, mulD, modD, fdivD, powD, eqD, neD, ltD, leD, gtD, geD, isD, isnD, L2.M.isNon, negD, ixD, Bf.f, Bg.f, lenD, L2.M.intD, maxD, minD, repD, strD, gmaxD, gminD, sumD, sortD, anyD, allD, mCall, frz, fzO, lend, wb, mTup, mLst, fzs, cD, mAsg, bTup, bTps, mApp, tupD, lstD, mRev, revD, ofs_inj, ee_ii, ee_ss, ee_bb, ee_nn, ee_is, ee_si, ee_in, ee_ni, ee_tt, ee_ll, ee_maps, ee_0, ee_1, ee_2, ee_3, at_lit, at_nat, at_m1, at_m2, scD, emD, sizeLine_eq, ixN, sm_lit, mSrc, itemsD, plOf, rng1D, bNm, mSl, mPt, mNoP, slD, mPar, keepT, tmsO, setA, mFlow, zipX, enumX, itemsX, intsOf, ints_all, boolsOf, shaped_lay, lay_int, lay_bool, lay_none, lay_dict, lay_tup, lay_list, lay_ints, sortX_ints, mPlF, mPlI, mRd, mPU, mPB, mFSet, mFNew, mNSet, mPApp, mPSetIx, mPPop, mMeth, mNew, isIns, cellO, mLstN, mAddN, mAppN, semX, mTold, mCallX, xRet, xExpr, xSet, mRaise, mM, isL, isS, mOrV, truD, mDNew, mDIn, mDGet, mDLen, mDPut, kyD, mNNew, mN1, mTake, mFnV, mCallF, mNIn, mNGet, mNPut, mNVals, mNList, nKs, mDGetD, mDList, mNNe, *])
theorem knocked_eq {z : Pz} (u : Int) : g_knocked [.sh z.d, .sh (.int u)] = some (.sh (.tuple [.bool (decide (z.r ≤ u)), .int (on z u false)]), [.sh z.d, .sh (.int u)]) := by
  unfold g_knocked m_knocked Pz.d on
  by_cases h : z.r ≤ u
  · rw [decide_eq_true h]
    walk_at "es"
  · rw [decide_eq_false h]
    walk_at "es"
theorem sgT_l (g : Bool) : (sgT g).length = 1 := by cases g <;> rfl
theorem sgT_cps (g : Bool) : cpsL (sgT g) = [sgn g] := by cases g <;> rfl
theorem rb_g {F : List Bn} (hn : (F.map bK).Nodup) {j : Nat} {e : Bn} (h : F[j]? = some e) {c2 c3 : C} : mNGet 0 (mPl 1) [bC F, .sh (kP e.q1 e.q2), c2, c3] = some (.sh e.v, [bC F, .sh (kP e.q1 e.q2), c2, c3]) := by
  have hx : idxN (bKs F) (kQ e.q1 e.q2) = some j := (idx_b F _ _).trans (bIx_at hn h)
  have hk := okKey_p e.q1 e.q2
  have hv : nVl (.ob (.dn (bKs F)) (bCs F)) j = some e.v := by
    have : (bCs F)[j]? = some (.sh e.v) := by unfold bCs; rw [List.getElem?_map, h]; rfl
    show (match (bCs F)[j]? with
      | some (.sh d) => some d
      | _ => none) = _
    rw [this]
  show mNGet 0 (mPl 1) [.ob (.dn (bKs F)) (bCs F), .sh (kP e.q1 e.q2), c2, c3] = some (.sh e.v, [.ob (.dn (bKs F)) (bCs F), .sh (kP e.q1 e.q2), c2, c3])
  generalize bKs F = KS at *
  generalize bCs F = CS at *
  generalize kP e.q1 e.q2 = Z at *
  simp [mNGet, nKs, mPl, bor, hk, hx, hv]
theorem rb_t {K : C} {Z V : PyData} {c2 c3 : C} (f : mNGet 0 (mPl 1) [K, .sh Z, c2, c3] = some (.sh V, [K, .sh Z, c2, c3])) : (mTst (mB (cmpD .IsNot) (mTm (mNGet 0 (mPl 1))) (mTm (mK .none)))) [K, .sh Z, c2, c3] = some (!isNon V, [K, .sh Z, c2, c3]) := by
  generalize mNGet 0 (mPl 1) = G at *
  have e : cmpD .IsNot V .none = some (.sh (.bool (!isNon V))) := by cases V <;> rfl
  generalize cmpD .IsNot = N at *
  generalize isNon V = b at *
  walk_at "es"
theorem rb_a {K : C} {Z A : PyData} {s : Str} {c2 c3 : C} (f : mNGet 0 (mPl 1) [K, .sh Z, c2, c3] = some (.sh (.tuple [A, .str s]), [K, .sh Z, c2, c3])) : (mAsg [1, 3] [0] (bTup [bNm 1, bNm 3]) (mNGet 0 (mPl 1))) [K, .sh Z, c2, c3] = some (.nx, [K, .sh A, c2, .sh (.str s)]) := by
  generalize mNGet 0 (mPl 1) = G at *
  walk_at "es"
theorem rb_s {K c1 : C} {s T : Str} (h : addD (.str s) (.str T) = some (.sh (.str (s ++ T)))) : (mSet [0] 2 (mB (binD .Add) (mPl 3) (mPl 2))) [K, c1, .sh (.str T), .sh (.str s)] = some (.nx, [K, c1, .sh (.str (s ++ T)), .sh (.str s)]) := by
  have e0 : binD .Add = addD := rfl
  rw [e0]
  generalize addD = A at *
  generalize s ++ T = W at *
  walk_at "es"
theorem row_back_eq {z y : Pz} {F : List Bn} (k : BInv z y F) (hF : F.length ≤ 3721) {t : Nat} {e : Bn} (he : F[t]? = some e) : ∃ T : Str, cpsL T = (e.w ++ [false]).map sgn ∧ g_row_back [bC F, .sh (kP e.q1 e.q2), .sh (.str "k")] = some (.sh (.str T), [bC F, .sh (kP e.q1 e.q2), .sh (.str "k")]) := by
  have main : Rt (g_row_back [bC F, .sh (kP e.q1 e.q2), .sh (.str "k")]) fun c cs => ∃ T : Str, cpsL T = (e.w ++ [false]).map sgn ∧ c = .sh (.str T) ∧ cs = [bC F, .sh (kP e.q1 e.q2), .sh (.str "k")] := by
    unfold g_row_back m_row_back
    apply rt_sem rfl
    apply wx_seq
    have hel := bw_len k t e he
    have htl := (List.getElem?_eq_some_iff.mp he).1
    apply wx_while (fun n ε => ∃ (e' : Bn) (s : List Bool) (T : Str) (c3 : C), F[n]? = some e' ∧ e.w = e'.w ++ s ∧ cpsL T = (s ++ [false]).map sgn ∧ ε = [bC F, .sh (kP e'.q1 e'.q2), .sh (.str T), c3]) t ⟨e, [], "k", _, he, by simp, rfl, rfl⟩
    rintro n ε ⟨e', s, T, c3, hn, hw, hT, rfl⟩
    have g := rb_g k.nd hn (c2 := .sh (.str T)) (c3 := c3)
    refine ⟨_, _, rb_t g, fun hf => ?_, fun ht => ?_⟩
    · have h0 : n = 0 := by
        cases n with
        | zero => rfl
        | succ n =>
          obtain ⟨j, e2, b, _, _, _, hv⟩ := k.par n e' hn
          rw [hv] at hf
          cases hf
      subst h0
      rw [k.st] at hn
      cases hn
      simp only [List.nil_append] at hw
      exact wx_rt (c := .sh (.str T)) (ε1 := [bC F, .sh (kP z.f y.f), .sh (.str T), c3]) rfl ⟨T, by rw [hw]; exact hT, rfl, rfl⟩
    · cases n with
      | zero =>
        rw [k.st] at hn
        cases hn
        cases ht
      | succ n =>
        obtain ⟨j, e2, b, hj, hj2, hw2, hv⟩ := k.par n e' hn
        rw [hv] at g
        apply wx_nx (rb_a g)
        have hTl := len_map hT
        have hsl : s.length ≤ 3721 := by
          have : e.w.length = e'.w.length + s.length := by rw [hw, List.length_append]
          omega
        have e1 := sgT_l b
        apply wx_nx (rb_s (add_str (by
          rw [List.length_append] at hTl
          simp at hTl
          omega)))
        refine wx_skip ⟨j, by omega, e2, b :: s, sgT b ++ T, _, hj2, by rw [hw, hw2]; simp, ?_, rfl⟩
        rw [cps_app, sgT_cps, hT]
        rfl
  obtain ⟨_, _, e2, T, hT, rfl, rfl⟩ := main
  exact ⟨T, hT, e2⟩
theorem pb_1 {z y : Pz} : (mSet [0, 1] 2 (mOp (Bf.f .max) (mCons (mTm (mB ixD (mPl 0) (mTm (mK (.int 2))))) (mCons (mTm (mB ixD (mPl 1) (mTm (mK (.int 2))))) (mNil))))) [.sh z.d, .sh y.d, .no, .no, .no, .no, .no, .no, .no, .no, .no] = some (.nx, [.sh z.d, .sh y.d, .sh (.int (if z.c < y.c then y.c else z.c)), .no, .no, .no, .no, .no, .no, .no, .no]) := by
  unfold Pz.d
  walk_at "es"
theorem pb_2 {Z Y : PyData} {m : Int} (h : ¬ 60 < m) : (mIf (mTst (mB (cmpD .Gt) (mPl 2) (mTm (mK (.int 60))))) (mSeq (mRaiseX "TooGreat" ["many", "most"] (mCons (mPl 2) (mCons (mTm (mK (.int 60))) (mNil)))) (mSkip)) (mSkip)) [.sh Z, .sh Y, .sh (.int m), .no, .no, .no, .no, .no, .no, .no, .no] = some (.nx, [.sh Z, .sh Y, .sh (.int m), .no, .no, .no, .no, .no, .no, .no, .no]) := by
  try generalize mRaiseX _ _ _ = RX at *
  try generalize mStuck = RX at *
  walk_at "es"
theorem pb_3 {z y : Pz} {c2 : C} : (mSet [0, 1] 3 (mN1 (mTup (mCons (mTm (mB ixD (mPl 0) (mTm (mK (.int 3))))) (mCons (mTm (mB ixD (mPl 1) (mTm (mK (.int 3))))) (mNil)))) (mK .none))) [.sh z.d, .sh y.d, c2, .no, .no, .no, .no, .no, .no, .no, .no] = some (.nx, [.sh z.d, .sh y.d, c2, bC [bSt z y], .no, .no, .no, .no, .no, .no, .no]) := by
  have e0 : (mTup (mCons (mTm (mB ixD (mPl 0) (mTm (mK (.int 3))))) (mCons (mTm (mB ixD (mPl 1) (mTm (mK (.int 3))))) (mNil)))) [.sh z.d, .sh y.d, c2, .no, .no, .no, .no, .no, .no, .no, .no] = some (.sh (kP z.f y.f), [.sh z.d, .sh y.d, c2, .no, .no, .no, .no, .no, .no, .no, .no]) := by
    unfold Pz.d
    walk_at "es"
  have e : (mN1 (mTup (mCons (mTm (mB ixD (mPl 0) (mTm (mK (.int 3))))) (mCons (mTm (mB ixD (mPl 1) (mTm (mK (.int 3))))) (mNil)))) (mK .none)) [.sh z.d, .sh y.d, c2, .no, .no, .no, .no, .no, .no, .no, .no] = some (bC [bSt z y], [.sh z.d, .sh y.d, c2, .no, .no, .no, .no, .no, .no, .no, .no]) := by
    have hk := okKey_p z.f y.f
    have hb : bC [bSt z y] = .ob (.dn [kP z.f y.f]) [.sh .none] := rfl
    rw [hb]
    generalize kP z.f y.f = Z at *
    simp [mN1, e0, cD, hk, mK]
  generalize mN1 _ _ = N at *
  generalize bC [bSt z y] = B at *
  generalize z.d = Z at *
  generalize y.d = Y at *
  clear e0
  walk_at "es"
theorem pb_4 {z y : Pz} {c2 c3 : C} : (mSet [0, 1] 4 (mLst (mCons (mTm (mTup (mCons (mTm (mB ixD (mPl 0) (mTm (mK (.int 3))))) (mCons (mTm (mB ixD (mPl 1) (mTm (mK (.int 3))))) (mNil))))) (mNil)))) [.sh z.d, .sh y.d, c2, c3, .no, .no, .no, .no, .no, .no, .no] = some (.nx, [.sh z.d, .sh y.d, c2, c3, .ls [kP z.f y.f], .no, .no, .no, .no, .no, .no]) := by
  unfold Pz.d
  walk_at "es"
theorem pb_t {c0 c1 c2 c3 c6 c7 c8 c9 c10 : C} {L : List PyData} {t : Int} (hl : L.length ≤ 16777216) : (mTst (mB (cmpD .Lt) (mPl 5) (mTm (mOp (Bf.f .len) (mCons (mPl 4) (mNil)))))) [c0, c1, c2, c3, .ls L, .sh (.int t), c6, c7, c8, c9, c10] = some (decide (t < (L.length : Int)), [c0, c1, c2, c3, .ls L, .sh (.int t), c6, c7, c8, c9, c10]) := by
  walk_at "es"
theorem pb_6 {c0 c1 c2 c3 c6 c7 c8 c9 c10 : C} {L : List PyData} {t : Int} {Z : PyData} (h : atI L t = some Z) : (mSet [0, 1] 6 (mB ixD (mPl 4) (mPl 5))) [c0, c1, c2, c3, .ls L, .sh (.int t), c6, c7, c8, c9, c10] = some (.nx, [c0, c1, c2, c3, .ls L, .sh (.int t), .sh Z, c7, c8, c9, c10]) := by
  walk_at "es"
theorem pb_7 {c0 c1 c2 c3 c4 c6 c7 c8 c9 c10 : C} {t : Int} : (mSet [0, 1] 5 (mB (binD .Add) (mPl 5) (mTm (mK (.int 1))))) [c0, c1, c2, c3, c4, .sh (.int t), c6, c7, c8, c9, c10] = some (.nx, [c0, c1, c2, c3, c4, .sh (.int (t + 1)), c6, c7, c8, c9, c10]) := by
  walk_at "es"
theorem pb_8 {z y : Pz} {c2 c3 c4 c5 c7 c8 c9 c10 : C} {a b : Int} (h7 : c7 = .no ∨ ∃ d, c7 = .sh d) (h8 : c8 = .no ∨ ∃ d, c8 = .sh d) : (mPar [0, 1] [7, 8] (mCons (mTm (mCall [true, true] g_knocked (mCons (mPl 0) (mCons (mTm (mB ixD (mPl 6) (mTm (mK (.int 0))))) (mNil))))) (mCons (mTm (mCall [true, true] g_knocked (mCons (mPl 1) (mCons (mTm (mB ixD (mPl 6) (mTm (mK (.int 1))))) (mNil))))) (mNil)))) [.sh z.d, .sh y.d, c2, c3, c4, c5, .sh (kP a b), c7, c8, c9, c10] = some (.nx, [.sh z.d, .sh y.d, c2, c3, c4, c5, .sh (kP a b), .sh (.tuple [.bool (decide (z.r ≤ a)), .int (on z a false)]), .sh (.tuple [.bool (decide (y.r ≤ b)), .int (on y b false)]), c9, c10]) := by
  have e1 := knocked_eq (z := z) a
  have e2 := knocked_eq (z := y) b
  generalize decide (z.r ≤ a) = A at *
  generalize decide (y.r ≤ b) = B at *
  generalize on z a false = A2 at *
  generalize on y b false = B2 at *
  generalize z.d = Z at *
  generalize y.d = Y at *
  generalize g_knocked = G at *
  rcases h7 with rfl | ⟨d7, rfl⟩ <;> rcases h8 with rfl | ⟨d8, rfl⟩ <;> walk_at "es"
theorem pb_9n {c0 c1 c2 c3 c4 c5 c6 c9 c10 : C} {a b : Bool} {u v : Int} (h : a = b) : (mIf (mTst (mB (cmpD .NotEq) (mTm (mB ixD (mPl 7) (mTm (mK (.int 0))))) (mTm (mB ixD (mPl 8) (mTm (mK (.int 0))))))) (mSeq (mRet (mCall [true, false, false] g_row_back (mCons (mPl 3) (mCons (mPl 6) (mCons (mTm (mK (.str "k"))) (mNil)))))) (mSkip)) (mSkip)) [c0, c1, c2, c3, c4, c5, c6, .sh (.tuple [.bool a, .int u]), .sh (.tuple [.bool b, .int v]), c9, c10] = some (.nx, [c0, c1, c2, c3, c4, c5, c6, .sh (.tuple [.bool a, .int u]), .sh (.tuple [.bool b, .int v]), c9, c10]) := by
  subst h
  cases a <;> walk_at "es"
theorem pb_9y {c0 c1 c2 c4 c5 c9 c10 : C} {a b : Bool} {u v : Int} {Z : PyData} {R : PyData} {ks : List PyData} {cs : List C} (h : a ≠ b) (e : g_row_back [.ob (.dn ks) cs, .sh Z, .sh (.str "k")] = some (.sh R, [.ob (.dn ks) cs, .sh Z, .sh (.str "k")])) : (mIf (mTst (mB (cmpD .NotEq) (mTm (mB ixD (mPl 7) (mTm (mK (.int 0))))) (mTm (mB ixD (mPl 8) (mTm (mK (.int 0))))))) (mSeq (mRet (mCall [true, false, false] g_row_back (mCons (mPl 3) (mCons (mPl 6) (mCons (mTm (mK (.str "k"))) (mNil)))))) (mSkip)) (mSkip)) [c0, c1, c2, .ob (.dn ks) cs, c4, c5, .sh Z, .sh (.tuple [.bool a, .int u]), .sh (.tuple [.bool b, .int v]), c9, c10] = some (.rt (.sh R), [c0, c1, c2, .ob (.dn ks) cs, c4, c5, .sh Z, .sh (.tuple [.bool a, .int u]), .sh (.tuple [.bool b, .int v]), c9, c10]) := by
  generalize g_row_back = G at *
  cases a <;> cases b <;> first | exact absurd rfl h | walk_at "es"
theorem pb_s {z y : Pz} {c2 c3 c4 c5 c9 c10 : C} {a b u v : Int} {p q : Bool} : (mSrc itemsD (mCons (mTm (mTup (mCons (mTm (mTup (mCons (mTm (mK (.str "a"))) (mCons (mTm (mTup (mCons (mTm (mCall [true, true] g_put_in (mCons (mPl 0) (mCons (mTm (mB ixD (mPl 6) (mTm (mK (.int 0))))) (mNil))))) (mCons (mTm (mCall [true, true] g_put_in (mCons (mPl 1) (mCons (mTm (mB ixD (mPl 6) (mTm (mK (.int 1))))) (mNil))))) (mNil))))) (mNil))))) (mCons (mTm (mTup (mCons (mTm (mK (.str "k"))) (mCons (mTm (mTup (mCons (mTm (mB ixD (mPl 7) (mTm (mK (.int 1))))) (mCons (mTm (mB ixD (mPl 8) (mTm (mK (.int 1))))) (mNil))))) (mNil))))) (mNil))))) mNil)) [.sh z.d, .sh y.d, c2, c3, c4, c5, .sh (kP a b), .sh (.tuple [.bool p, .int u]), .sh (.tuple [.bool q, .int v]), c9, c10] = some (([.tuple [.str "a", kP (pin z a) (pin y b)], .tuple [.str "k", kP u v]], []), [.sh z.d, .sh y.d, c2, c3, c4, c5, .sh (kP a b), .sh (.tuple [.bool p, .int u]), .sh (.tuple [.bool q, .int v]), c9, c10]) := by
  have e1 := put_in_eq z a
  have e2 := put_in_eq y b
  generalize pin z a = A at *
  generalize pin y b = B at *
  generalize z.d = Z at *
  generalize y.d = Y at *
  generalize g_put_in = G at *
  walk_at "es"
theorem pb_bn {Z H : PyData} {K : NestedKey} {KS L : List PyData} {CS : List C} {s : Str} (hk : okKey Z = some K) (hx : idxN KS K = none) (hl : CS.length < 16777216) (hl2 : L.length < 16777216) {c0 c1 c2 c5 c7 c8 : C} : (mIf (mTst (mNIn true 3 (mPl 10))) (mSeq (mNPut 3 (mTup (mCons (mPl 6) (mCons (mPl 9) (mNil)))) (mPl 10)) (mSeq (mApp 4 (mVar 10)) (mSkip))) (mSkip)) [c0, c1, c2, .ob (.dn KS) CS, .ls L, c5, .sh H, c7, c8, .sh (.str s), .sh Z] = some (.nx, [c0, c1, c2, .ob (.dn (KS ++ [Z])) (CS ++ [.sh (.tuple [H, .str s])]), .ls (L ++ [Z]), c5, .sh H, c7, c8, .sh (.str s), .sh Z]) := by
  walk_at "ed"
theorem pb_by {Z H : PyData} {K : NestedKey} {KS L : List PyData} {CS : List C} {s : Str} {j : Nat} (hk : okKey Z = some K) (hx : idxN KS K = some j) {c0 c1 c2 c5 c7 c8 : C} : (mIf (mTst (mNIn true 3 (mPl 10))) (mSeq (mNPut 3 (mTup (mCons (mPl 6) (mCons (mPl 9) (mNil)))) (mPl 10)) (mSeq (mApp 4 (mVar 10)) (mSkip))) (mSkip)) [c0, c1, c2, .ob (.dn KS) CS, .ls L, c5, .sh H, c7, c8, .sh (.str s), .sh Z] = some (.nx, [c0, c1, c2, .ob (.dn KS) CS, .ls L, c5, .sh H, c7, c8, .sh (.str s), .sh Z]) := by
  walk_at "ed"
theorem pb_b {F : List Bn} (hF : F.length < 16777216) {e : Bn} {z y : Pz} {g : Bool} {c0 c1 c2 c5 c7 c8 : C} : (mIf (mTst (mNIn true 3 (mPl 10))) (mSeq (mNPut 3 (mTup (mCons (mPl 6) (mCons (mPl 9) (mNil)))) (mPl 10)) (mSeq (mApp 4 (mVar 10)) (mSkip))) (mSkip)) [c0, c1, c2, bC F, .ls (bKs F), c5, .sh (kP e.q1 e.q2), c7, c8, .sh (.str (sgT g)), .sh (kP (on z e.q1 g) (on y e.q2 g))] = some (.nx, [c0, c1, c2, bC (addB F (kid z y e g)), .ls (bKs (addB F (kid z y e g))), c5, .sh (kP e.q1 e.q2), c7, c8, .sh (.str (sgT g)), .sh (kP (on z e.q1 g) (on y e.q2 g))]) := by
  have hk := okKey_p (on z e.q1 g) (on y e.q2 g)
  have hx := idx_b F (on z e.q1 g) (on y e.q2 g)
  cases hi : bIx F (on z e.q1 g) (on y e.q2 g) with
  | none =>
    have : addB F (kid z y e g) = F ++ [kid z y e g] := by
      unfold addB
      have : bIx F (kid z y e g).q1 (kid z y e g).q2 = none := hi
      rw [this]
    rw [this]
    have e1 : bKs (F ++ [kid z y e g]) = bKs F ++ [kP (on z e.q1 g) (on y e.q2 g)] := by
      unfold bKs
      rw [List.map_append]
      rfl
    have e2 : bCs (F ++ [kid z y e g]) = bCs F ++ [.sh (.tuple [kP e.q1 e.q2, .str (sgT g)])] := by
      unfold bCs
      rw [List.map_append]
      rfl
    show _ = some (Fl.nx, ([c0, c1, c2, .ob (.dn (bKs (F ++ [kid z y e g]))) (bCs (F ++ [kid z y e g])), .ls (bKs (F ++ [kid z y e g])), c5, .sh (kP e.q1 e.q2), c7, c8, .sh (.str (sgT g)), .sh (kP (on z e.q1 g) (on y e.q2 g))] : Cs))
    rw [e1, e2]
    exact pb_bn hk (hx.trans hi) (by unfold bCs; rw [List.length_map]; exact hF) (by unfold bKs; rw [List.length_map]; exact hF)
  | some j =>
    have : addB F (kid z y e g) = F := by
      unfold addB
      have : bIx F (kid z y e g).q1 (kid z y e g).q2 = some j := hi
      rw [this]
    rw [this]
    exact pb_by hk (hx.trans hi)
/-- what the pairs are gone through for -/
theorem parted_wx {z y : Pz} (hz : z.Ok) (hy : y.Ok) (cz : z.c ≤ 60) (cy : y.c ≤ 60) (J : Nat → List Bn → Prop) (hJ : ∀ t F, J t F → BInv z y F) (h0 : J 0 [bSt z y]) (hs : ∀ t F e, J t F → F[t]? = some e → misB z y e = false → J (t + 1) (stepB z y F e)) :
    ∃ R : PyData, ((R = .none ∧ ∃ F, J F.length F) ∨ ∃ (t : Nat) (F : List Bn) (e : Bn) (T : Str), J t F ∧ F[t]? = some e ∧ misB z y e = true ∧ cpsL T = (e.w ++ [false]).map sgn ∧ R = .str T) ∧ ∃ ε, m_parted_by [.sh z.d, .sh y.d, .no, .no, .no, .no, .no, .no, .no, .no, .no] = some (.rt (.sh R), ε) ∧ after [true, true] [.sh z.d, .sh y.d] ε = [.sh z.d, .sh y.d] := by
  have main : Wx (m_parted_by [.sh z.d, .sh y.d, .no, .no, .no, .no, .no, .no, .no, .no, .no]) fun f ε => ∃ R : PyData, f = .rt (.sh R) ∧ ((R = .none ∧ ∃ F, J F.length F) ∨ ∃ (t : Nat) (F : List Bn) (e : Bn) (T : Str), J t F ∧ F[t]? = some e ∧ misB z y e = true ∧ cpsL T = (e.w ++ [false]).map sgn ∧ R = .str T) ∧ after [true, true] [.sh z.d, .sh y.d] ε = [.sh z.d, .sh y.d] := by
    unfold m_parted_by
    apply wx_nx pb_1
    apply wx_nx (pb_2 (by split <;> omega))
    apply wx_nx pb_3
    apply wx_nx pb_4
    generalize C.sh (.int (if z.c < y.c then y.c else z.c)) = c2
    apply wx_nx (ε1 := [.sh z.d, .sh y.d, c2, bC [bSt z y], .ls (bKs [bSt z y]), .sh (.int 0), .no, .no, .no, .no, .no])
    · rfl
    apply wx_seq
    apply wx_while (fun n ε => ∃ (t : Nat) (F : List Bn) (c6 c7 c8 c9 c10 : C), n = 3721 - t ∧ t ≤ F.length ∧ J t F ∧ (c7 = .no ∨ ∃ d, c7 = .sh d) ∧ (c8 = .no ∨ ∃ d, c8 = .sh d) ∧ ε = [.sh z.d, .sh y.d, c2, bC F, .ls (bKs F), .sh (.int (t : Int)), c6, c7, c8, c9, c10]) 3721 ⟨0, [bSt z y], _, _, _, _, _, rfl, by simp, h0, .inl rfl, .inl rfl, rfl⟩
    rintro n ε ⟨t, F, c6, c7, c8, c9, c10, rfl, ht, hj, h7, h8, rfl⟩
    have k := hJ t F hj
    have hl := b_len hz hy cz cy k
    have hkl : (bKs F).length = F.length := by unfold bKs; rw [List.length_map]
    refine ⟨_, _, pb_t (by omega), fun hf => ?_, fun htr => ?_⟩
    · have hf2 : ¬ (t : Int) < ((bKs F).length : Int) := by simpa using hf
      have hte : t = F.length := by omega
      subst hte
      refine wx_rt (c := .sh .none) (ε1 := [.sh z.d, .sh y.d, c2, bC F, .ls (bKs F), .sh (.int (F.length : Int)), c6, c7, c8, c9, c10]) rfl ⟨.none, rfl, .inl ⟨rfl, F, hj⟩, rfl⟩
    · have hlt : (t : Int) < ((bKs F).length : Int) := by simpa using htr
      have hi : t < F.length := by omega
      obtain ⟨e, he⟩ : ∃ e, F[t]? = some e := ⟨_, List.getElem?_eq_getElem hi⟩
      have hat : atI (bKs F) (t : Int) = some (kP e.q1 e.q2) := by
        rw [atI_nat]
        unfold bKs
        rw [List.getElem?_map, he]
        rfl
      apply wx_nx (pb_6 hat)
      apply wx_nx pb_7
      apply wx_nx (pb_8 h7 h8)
      clear hat h7 h8
      cases hm : misB z y e with
      | true =>
        obtain ⟨T, hT, e2⟩ := row_back_eq k hl he
        have hne : decide (z.r ≤ e.q1) ≠ decide (y.r ≤ e.q2) := by
          unfold misB at hm
          simpa using hm
        exact wx_rt (pb_9y hne e2) ⟨.str T, rfl, .inr ⟨t, F, e, T, hj, he, hm, hT, rfl⟩, rfl⟩
      | false =>
        have heq : decide (z.r ≤ e.q1) = decide (y.r ≤ e.q2) := by
          unfold misB at hm
          simpa using hm
        apply wx_nx (pb_9n heq)
        apply wx_seq
        have hj2 := hs t F e hj he hm
        have k1 := addB_inv k he true
        have k2 := stepB_inv k he
        have l1 := b_len hz hy cz cy k1
        have l2 := b_len hz hy cz cy k2
        obtain ⟨c7, e7⟩ : ∃ c, C.sh (.tuple [.bool (decide (z.r ≤ e.q1)), .int (on z e.q1 false)]) = c := ⟨_, rfl⟩
        obtain ⟨c8, e8⟩ : ∃ c, C.sh (.tuple [.bool (decide (y.r ≤ e.q2)), .int (on y e.q2 false)]) = c := ⟨_, rfl⟩
        have hsrc := pb_s (z := z) (y := y) (c2 := c2) (c3 := bC F) (c4 := .ls (bKs F)) (c5 := .sh (.int ((t : Int) + 1))) (c9 := c9) (c10 := c10) (a := e.q1) (b := e.q2) (u := on z e.q1 false) (v := on y e.q2 false) (p := decide (z.r ≤ e.q1)) (q := decide (y.r ≤ e.q2))
        rw [e7, e8] at hsrc ⊢
        apply wx_for (ds := [.tuple [.str (sgT true), kP (on z e.q1 true) (on y e.q2 true)], .tuple [.str (sgT false), kP (on z e.q1 false) (on y e.q2 false)]]) (ws := []) (ε1 := [.sh z.d, .sh y.d, c2, bC F, .ls (bKs F), .sh (.int ((t : Int) + 1)), .sh (kP e.q1 e.q2), c7, c8, c9, c10]) fun i ε => ∃ c9 c10 : C, ε = [.sh z.d, .sh y.d, c2, bC (if i = 0 then F else if i = 1 then addB F (kid z y e true) else stepB z y F e), .ls (bKs (if i = 0 then F else if i = 1 then addB F (kid z y e true) else stepB z y F e)), .sh (.int ((t : Int) + 1)), .sh (kP e.q1 e.q2), c7, c8, c9, c10]
        · exact hsrc
        · rfl
        · exact ⟨_, _, rfl⟩
        · intro i ε _ j hj
          cases hj
        · rintro i d ε hd ⟨c9, c10, rfl⟩
          match i, hd with
          | 0, hd =>
            cases hd
            refine ⟨[.sh z.d, .sh y.d, c2, bC F, .ls (bKs F), .sh (.int ((t : Int) + 1)), .sh (kP e.q1 e.q2), c7, c8, .sh (.str (sgT true)), .sh (kP (on z e.q1 true) (on y e.q2 true))], rfl, ?_⟩
            apply wx_nx (pb_b (F := F) (e := e) (g := true) (by omega))
            exact wx_skip ⟨_, _, rfl⟩
          | 1, hd =>
            cases hd
            refine ⟨[.sh z.d, .sh y.d, c2, bC (addB F (kid z y e true)), .ls (bKs (addB F (kid z y e true))), .sh (.int ((t : Int) + 1)), .sh (kP e.q1 e.q2), c7, c8, .sh (.str (sgT false)), .sh (kP (on z e.q1 false) (on y e.q2 false))], rfl, ?_⟩
            apply wx_nx (pb_b (F := addB F (kid z y e true)) (e := e) (g := false) (by omega))
            exact wx_skip ⟨_, _, rfl⟩
        · rintro ε ⟨c9, c10, rfl⟩
          refine wx_skip ⟨3721 - (t + 1), by omega, t + 1, stepB z y F e, _, _, _, _, _, rfl, ?_, hj2, .inr ⟨_, e7.symm⟩, .inr ⟨_, e8.symm⟩, rfl⟩
          have : ∀ (A : List Bn) (x : Bn), A.length ≤ (addB A x).length := by
            intro A x
            unfold addB
            split
            · rw [List.length_append]; omega
            · exact Nat.le_refl _
          have h1 := this F (kid z y e true)
          have h2 := this (addB F (kid z y e true)) (kid z y e false)
          show t + 1 ≤ (addB (addB F (kid z y e true)) (kid z y e false)).length
          omega
  obtain ⟨f, ε, e, R, rfl, h1, h2⟩ := main
  exact ⟨R, h1, ε, e, h2⟩
end KW
namespace KW
open PySem PySem.Spec PyProof.Rows L2 L2.M
local macro_rules | `(tactic| walk_at "ev") => `(tactic| simp [semF, shared, after, mSeq, mSkip, mIf, mRet, mRetN, mRetV, mSet, mSetIx, mExpr, mB, mU, mTm, mPl, mK, mVar, mOp, mCons, mNil, bor, bors, mTst, mAndT, mOrT, mNotT, mAndE, mOrE, mNotE, mIfE, mIsi, isiD, mChn, chnL, cmpD, binD, addD, subD, mulD, modD, fdivD, powD, eqD, neD, ltD, leD, gtD, geD, isD, isnD, L2.M.isNon, negD, ixD, Bf.f, Bg.f, lenD, L2.M.intD, maxD, minD, repD, strD, gmaxD, gminD, sumD, sortD, anyD, allD, mCall, frz, fzO, lend, wb, mTup, mLst, fzs, cD, mAsg, bTup, bTps, mApp, tupD, lstD, mRev, revD, ofs_inj, ee_ii, ee_ss, ee_bb, ee_nn, ee_is, ee_si, ee_in, ee_ni, ee_tt, ee_ll, ee_maps, ee_0, ee_1, ee_2, ee_3, at_lit, at_nat, at_m1, at_m2, scD, emD, sizeLine_eq, ixN, sm_lit, mSrc, itemsD, plOf, rng1D, bNm, mSl, mPt, mNoP, slD, mPar, keepT, tmsO, setA, mFlow, zipX, enumX, itemsX, intsOf, ints_all, boolsOf, shaped_lay, lay_int, lay_bool, lay_none, lay_dict, lay_tup, lay_list, lay_ints, sortX_ints, mPlF, mPlI, mRd, mPU, mPB, mFSet, mFNew, mNSet, mPApp, mPSetIx, mPPop, mMeth, mNew, isIns, cellO, mLstN, mAddN, mAppN, semX, mTold, mCallX, xRet, xExpr, xSet, mRaise, mM, isL, isS, mOrV, truD])
local macro_rules | `(tactic| walk_at "es") => `(tactic| simp [semF, shared, after, mSeq, mSkip, mIf, mRet, mRetN, mRetV, mSet, mSetIx, mExpr, mB, mU, mTm, mPl, mK, mVar, mOp, mCons, mNil, bor, bors, mTst, mAndT, mOrT, mNotT, mAndE, mOrE, mNotE, mIfE, mIsi, isiD, mChn, chnL, cmpD, binD, addD, subD, mulD, modD, fdivD, powD, eqD, neD, ltD, leD, gtD, geD, isD, isnD, L2.M.isNon, negD, ixD, Bf.f, Bg.f, lenD, L2.M.intD, maxD, minD, repD, strD, gmaxD, gminD, sumD, sortD, anyD, allD, mCall, frz, fzO, lend, wb, mTup, mLst, fzs, cD, mAsg, bTup, bTps, mApp, tupD, lstD, mRev, revD, ofs_inj, ee_ii, ee_ss, ee_bb, ee_nn, ee_is, ee_si, ee_in, ee_ni, ee_tt, ee_ll, ee_maps, ee_0, ee_1, ee_2, ee_3, at_lit, at_nat, at_m1, at_m2, scD, emD, sizeLine_eq, ixN, sm_lit, mSrc, itemsD, plOf, rng1D, bNm, mSl, mPt, mNoP, slD, mPar, keepT, tmsO, setA, mFlow, zipX, enumX, itemsX, intsOf, ints_all, boolsOf, shaped_lay, lay_int, lay_bool, lay_none, lay_dict, lay_tup, lay_list, lay_ints, sortX_ints, mPlF, mPlI, mRd, mPU, mPB, mFSet, mFNew, mNSet, mPApp, mPSetIx, mPPop, mMeth, mNew, isIns, cellO, mLstN, mAddN, mAppN, semX, mTold, mCallX, xRet, xExpr, xSet, mRaise, mM, isL, isS, mOrV, truD, *])
local macro_rules | `(tactic| walk_at "el") => `(tactic| simp [semF, shared, after, mSeq, mSkip, mIf, mRet, mRetN, mRetV, mSet, mSetIx, mExpr, mB, mU, mTm, mPl, mK, mVar, mOp, mCons, mNil, bor, bors, mTst, mAndT, mOrT, mNotT, mAndE, mOrE, mNotE, mIfE, mIsi, isiD, mChn, chnL, cmpD, binD, addD, subD, mulD, modD, fdivD, powD, eqD, neD, ltD, leD, gtD, geD, isD, isnD, L2.M.isNon, negD, ixD, Bf.f, Bg.f, lenD, L2.M.intD, maxD, minD, repD, strD, gmaxD, gminD, sumD, sortD, anyD, allD, mCall, frz, fzO, lend, wb, mTup, mLst, fzs, cD, mAsg, bTup, bTps, mApp, tupD, lstD, mRev, revD, ofs_inj, ee_ii, ee_ss, ee_bb, ee_nn, ee_is, ee_si, ee_in, ee_ni, ee_tt, ee_ll, ee_maps, ee_0, ee_1, ee_2, ee_3, at_lit, at_nat, at_m1, at_m2, scD, emD, sizeLine_eq, ixN, sm_lit, mSrc, itemsD, plOf, rng1D, bNm, mSl, mPt, mNoP, slD, mPar, keepT, tmsO, setA, mFlow, zipX, enumX, itemsX, intsOf, ints_all, boolsOf, shaped_lay, lay_int, lay_bool, lay_none, lay_dict, lay_tup, lay_list, lay_ints, sortX_ints, mPlF, mPlI, mRd, mPU, mPB, mFSet, mFNew, mNSet, mPApp, mPSetIx, mPPop, mMeth, mNew, isIns, cellO, mLstN, mAddN, mAppN, semX, mTold, mCallX, xRet, xExpr, xSet, mRaise, mM, isL, isS, mOrV, truD, mLc, lcL, sameC, wipeC, restC, mYes, *])
local macro_rules | `(tactic| walk_at "ef") => `(tactic| simp [semF, shared, after, mSeq, mSkip, mIf, mRet, mRetN, mRetV, mSet, mSetIx, mExpr, mB, mU, mTm, mPl, mK, mVar, mOp, mCons, mNil, bor, bors, mTst, mAndT, mOrT, mNotT, mAndE, mOrE, mNotE, mIfE, mIsi, isiD, mChn, chnL, cmpD, binD, addD, subD, mulD, modD, fdivD, powD, eqD, neD, ltD, leD, gtD, geD, isD, isnD, L2.M.isNon, negD, ixD, Bf.f, Bg.f, lenD, L2.M.intD, maxD, minD, repD, strD, gmaxD, gminD, sumD, sortD, anyD, allD, mCall, frz, fzO, lend, wb, mTup, mLst, fzs, cD, mAsg, bTup, bTps, mApp, tupD, lstD, mRev, revD, ofs_inj, ee_ii, ee_ss, ee_bb, ee_nn, ee_is, ee_si, ee_in, ee_ni, ee_tt, ee_ll, ee_maps, ee_0, ee_1, ee_2, ee_3, at_lit, at_nat, at_m1, at_m2, scD, emD, sizeLine_eq, ixN, sm_lit, mSrc, itemsD, plOf, rng1D, bNm, mSl, mPt, mNoP, slD, mPar, keepT, tmsO, setA, mFlow, zipX, enumX, itemsX, intsOf, ints_all, boolsOf, shaped_lay, lay_int, lay_bool, lay_none, lay_dict, lay_tup, lay_list, lay_ints, sortX_ints, mPlF, mPlI, mRd, mPU, mPB, mFSet, mFNew, mNSet, mPApp, mPSetIx, mPPop, mMeth, mNew, isIns, cellO, mLstN, mAddN, mAppN, semX, mTold, mCallX, xRet, xExpr, xSet, mRaise, mM, isL, isS, mOrV, truD, mFor, forL, mLc, lcL, sameC, wipeC, restC, mYes, *])
local macro_rules | `(tactic| walk_at "rg") => `(tactic| (and_intros <;> grind))
local macro_rules | `(tactic| walk_at "nx") => `(tactic| (apply wx_nx; focus (walk_at "ev"; try first | exact ⟨rfl, rfl⟩ | rfl)))
local macro_rules | `(tactic| walk_at "ns") => `(tactic| (apply wx_nx; focus (walk_at "es"; try first | exact ⟨rfl, rfl⟩ | rfl)))
local macro_rules | `(tactic| walk_at "rt") => `(tactic| (apply wx_rt; focus (walk_at "ev"; try first | exact ⟨rfl, rfl⟩ | rfl)))
local macro_rules | `(tactic| walk_at "rs") => `(tactic| (apply wx_rt; focus (walk_at "es"; try first | exact ⟨rfl, rfl⟩ | rfl)))
local macro_rules | `(tactic| walk_at "ed") => `(tactic| simp [semF, shared, after, mSeq, mSkip, mIf, mRet, mRetN, mRetV, mSet, mSetIx, mExpr, mB, mU, mTm, mPl, mK, mVar, mOp, mCons, mNil, bor, bors, mTst, mAndT, mOrT, mNotT, mAndE, mOrE, mNotE, mIfE, mIsi, isiD, mChn, chnL, cmpD, binD, addD, subD, mulD, modD, fdivD, powD, eqD, neD, ltD, leD, gtD, geD, isD, isnD, L2.M.isNon, negD, ixD, Bf.f, Bg.f, lenD, L2.M.intD, maxD, minD, repD, strD, gmaxD, gminD, sumD, sortD, anyD, allD, mCall, frz, fzO, lend, wb, mTup, mLst, fzs, cD, mAsg, bTup, bTps, mApp, tupD, lstD, mRev, revD, ofs_inj, ee_ii, ee_ss, ee_bb, ee_nn, ee_is, ee_si, ee_in, ee_ni, ee_tt, ee_ll, ee_maps, ee_0, ee_1, ee_2, ee_3, at_lit, at_nat, at_m1, at_m2, scD, emD, sizeLine_eq, ixN, sm_lit, mSrc, itemsD, plOf, rng1D, bNm, mSl, mPt, mNoP, slD, mPar, keepT, tmsO, setA, mFlow, zipX, enumX, itemsX, intsOf, ints_all, boolsOf, shaped_lay, lay_int, lay_bool, lay_none, lay_dict, lay_tup, lay_list, lay_ints, sortX_ints, mPlF, mPlI, mRd, mPU, mPB, mFSet, mFNew, mNSet, mPApp, mPSetIx, mPPop, mMeth, mNew, isIns, cellO, mLstN, mAddN, mAppN, semX, mTold, mCallX, xRet, xExpr, xSet, mRaise, mM, isL, isS, mOrV, truD, mDNew, mDIn, mDGet, mDLen, mDPut, kyD, mNNew, mN1, mTake, mFnV, mCallF, mNIn, mNGet, mNPut, mNVals, mNList, nKs, mDGetD, mDList, mNNe, *])
theorem lt_ext : ∀ (a b s t : List Nat), a.length = b.length → a < b → a ++ s < b ++ t
  | [], [], _, _, _, h => absurd h (List.lt_irrefl _)
  | [], _ :: _, _, _, hl, _ => by simp at hl
  | _ :: _, [], _, _, hl, _ => by simp at hl
  | x :: a, y :: b, s, t, hl, h => by
    rw [List.cons_append, List.cons_append, List.cons_lt_cons_iff]
    rw [List.cons_lt_cons_iff] at h
    rcases h with h | ⟨h1, h2⟩
    · exact .inl h
    · exact .inr ⟨h1, lt_ext a b s t (by simpa using hl) h2⟩
theorem lt_snoc (x y : Nat) (h : x < y) : ∀ a : List Nat, a ++ [x] < a ++ [y]
  | [] => by
    rw [List.nil_append, List.nil_append, List.cons_lt_cons_iff]
    exact .inl h
  | z :: a => by
    rw [List.cons_append, List.cons_append, List.cons_lt_cons_iff]
    exact .inr ⟨rfl, lt_snoc x y h a⟩
def wlt (a b : List Bool) : Prop := a.map sgn < b.map sgn
theorem wlt_ext {a b : List Bool} (s t : List Bool) (hl : a.length = b.length) (h : wlt a b) : wlt (a ++ s) (b ++ t) := by
  unfold wlt at *
  rw [List.map_append, List.map_append]
  exact lt_ext _ _ _ _ (by simpa using hl) h
theorem wlt_snoc (a : List Bool) : wlt (a ++ [true]) (a ++ [false]) := by
  unfold wlt
  rw [List.map_append, List.map_append]
  exact lt_snoc 97 107 (by decide) _
theorem wlt_asymm {a b : List Bool} (h : wlt a b) : ¬ b.map sgn < a.map sgn := List.lt_asymm h
def txW (w : List Bool) : Str := ⟨(w.map sgn).toArray⟩
theorem txW_cps (w : List Bool) : cpsL (txW w) = w.map sgn := rfl
theorem txW_len (w : List Bool) : (txW w).length = w.length := len_map (txW_cps w)
theorem txW_of {T : Str} {w : List Bool} (h : cpsL T = w.map sgn) : T = txW w := str_ext h
theorem txW_add (w : List Bool) (g : Bool) : txW w ++ sgT g = txW (w ++ [g]) := by
  apply str_ext
  rw [cps_app, txW_cps, txW_cps, List.map_append]
  cases g <;> rfl
theorem minS_l (w : List Bool) (g : Bool) : minS "l" (txW (w ++ [g])) = txW (w ++ [g]) := by
  unfold minS
  rw [if_pos]
  show (w ++ [g]).map sgn < [108]
  cases w with
  | nil => cases g <;> (rw [show ∀ g, ([] ++ [g] : List Bool).map sgn = [sgn g] from fun _ => rfl, List.cons_lt_cons_iff]; exact .inl (by decide))
  | cons b w =>
    rw [List.cons_append, List.map_cons, List.cons_lt_cons_iff]
    left
    cases b <;> decide
theorem minS_old {a b : List Bool} (h : wlt a b) : minS (txW a) (txW b) = txW a := by
  unfold minS
  rw [if_neg]
  exact wlt_asymm h
theorem dataLt_str (a b : Str) : PySem.W.dataLt (.str a) (.str b) = decide (a.cps.toList < b.cps.toList) := by
  unfold PySem.W.dataLt
  simp only [PySem.W.keyToks]
  have e : itemLt (.inr a.cps.toList) (.inr b.cps.toList) = decide (a.cps.toList < b.cps.toList) := rfl
  have e0 : PyProof.Rows.lexLt itemOrd [] [] = false := rfl
  rw [PyProof.Rows.lex_cons, e0, Bool.and_false, Bool.or_false]
  exact e
theorem minD_first {x : Str} : ∀ {xs : List Str}, (∀ y ∈ xs, ¬ y.cps.toList < x.cps.toList) → PySem.W.minD (.str x) (xs.map .str) = .str x
  | [], _ => rfl
  | y :: xs, h => by
    have ih := minD_first (x := x) (xs := xs) fun z hz => h z (List.mem_cons_of_mem _ hz)
    unfold PySem.W.minD at ih ⊢
    rw [List.map_cons, List.foldl_cons, dataLt_str, decide_eq_false (h y List.mem_cons_self)]
    exact ih
def tKs (F : List Tr) : List PyData := F.map fun e => kP e.a e.b
def tdx (F : List Tr) (a b : Int) : Option Nat := F.findIdx? fun e => decide (e.a = a ∧ e.b = b)
theorem idx_t (F : List Tr) (a b : Int) : idxN (tKs F) (kQ a b) = tdx F a b := by
  unfold idxN tKs tdx
  rw [List.findIdx?_map]
  congr 1
  funext r
  show decide (nKey (kP r.a r.b) = some (kQ a b)) = _
  rw [nKey_p]
  by_cases c : r.a = a ∧ r.b = b
  · obtain ⟨rfl, rfl⟩ := c
    simp
  · have : ¬ kQ r.a r.b = kQ a b := fun e => c (kQ_inj e)
    simp only [Option.some.injEq, this, c, decide_false]
theorem tdx_tIx (F : List Tr) (a b : Int) : (tdx F a b).isSome = tIx F a b := by
  unfold tdx tIx
  rw [List.findIdx?_isSome]
abbrev tK (e : Tr) : Int × Int := (e.a, e.b)
theorem tdx_some {F : List Tr} {a b : Int} {j : Nat} (h : tdx F a b = some j) : ∃ e, F[j]? = some e ∧ e.a = a ∧ e.b = b := by
  obtain ⟨h1, h2, _⟩ := List.findIdx?_eq_some_iff_getElem.mp h
  have h2 := of_decide_eq_true h2
  exact ⟨F[j], List.getElem?_eq_getElem h1, h2.1, h2.2⟩
theorem tIx_mem {F : List Tr} {a b : Int} : tIx F a b = true ↔ (a, b) ∈ F.map tK := by
  unfold tIx
  rw [List.any_eq_true, List.mem_map]
  constructor
  · rintro ⟨e, he, q⟩
    have q := of_decide_eq_true q
    exact ⟨e, he, by show (_, _) = (_, _); rw [q.1, q.2]⟩
  · rintro ⟨e, he, q⟩
    have h1 := congrArg Prod.fst q
    have h2 := congrArg Prod.snd q
    simp only at h1 h2
    exact ⟨e, he, by simp [h1, h2]⟩
theorem tdx_at {F : List Tr} (hn : (F.map tK).Nodup) {j : Nat} {e : Tr} (h : F[j]? = some e) : tdx F e.a e.b = some j := by
  obtain ⟨hj, rfl⟩ := List.getElem?_eq_some_iff.mp h
  cases hi : tdx F F[j].a F[j].b with
  | none =>
    have : tIx F F[j].a F[j].b = true := tIx_mem.mpr (List.mem_map.mpr ⟨F[j], List.getElem_mem hj, rfl⟩)
    rw [← tdx_tIx, hi] at this
    cases this
  | some k =>
    obtain ⟨e, he, h1, h2⟩ := tdx_some hi
    have h3 : (F.map tK)[k]? = some (tK F[j]) := by
      rw [List.getElem?_map, he]
      show some (_, _) = some (_, _)
      rw [h1, h2]
    have h4 : (F.map tK)[j]? = some (tK F[j]) := by rw [List.getElem?_map, h]; rfl
    have := (List.getElem?_inj (by rw [List.length_map]; exact hj) hn).mp (h4.trans h3.symm)
    rw [this]
/-- what is put into the next level -/
def addL (F G : List Tr) (e : Tr) : List Tr := if tIx F e.a e.b = true then G else addT G e
theorem addL_eq (F G : List Tr) (e : Tr) : addT (F ++ G) e = F ++ addL F G e := by
  unfold addT addL
  have : tIx (F ++ G) e.a e.b = (tIx F e.a e.b || tIx G e.a e.b) := by unfold tIx; rw [List.any_append]
  rw [this]
  cases tIx F e.a e.b with
  | true => simp
  | false =>
    unfold addT
    cases tIx G e.a e.b with
    | true => simp
    | false => simp
structure TInv (z y : Pz) (F : List Tr) : Prop where
  nd : (F.map tK).Nodup
  bd : ∀ e ∈ F, (0 ≤ e.a ∧ e.a ≤ z.c) ∧ (0 ≤ e.b ∧ e.b ≤ y.c)
theorem tinv_add {z y : Pz} (hz : z.Ok) (hy : y.Ok) {F : List Tr} (k : TInv z y F) {e : Tr} (he : e ∈ F) (g : Bool) : TInv z y (addT F (kidT z y e g)) := by
  unfold addT
  split
  · exact k
  · rename_i q
    have hb := k.bd e he
    refine ⟨?_, ?_⟩
    · rw [List.map_append, List.nodup_append]
      refine ⟨k.nd, by simp, fun a ha b hb z => q (tIx_mem.mpr ?_)⟩
      have hb := List.mem_singleton.mp hb
      rw [z, hb] at ha
      exact ha
    · intro x hx
      rcases List.mem_append.mp hx with hx | hx
      · exact k.bd x hx
      · rw [List.mem_singleton.mp hx]
        exact ⟨on_b hz hb.1 g, on_b hy hb.2 g⟩
theorem tinv_len {z y : Pz} (cz : z.c ≤ 60) (cy : y.c ≤ 60) {F : List Tr} (k : TInv z y F) : F.length ≤ 3721 := by
  have h1 := keys_len (β := Unit) (E := F.map fun e => (e.a * 61 + e.b, ())) (n := 3721) (by
    rw [List.map_map]
    have nd := k.nd
    rw [List.Nodup, List.pairwise_map] at nd ⊢
    refine nd.imp_of_mem fun {a b} ha hb' hne q => hne ?_
    have h1 := k.bd a ha
    have h2 := k.bd b hb'
    have q : a.a * 61 + a.b = b.a * 61 + b.b := q
    have e1 : a.a = b.a := by omega
    have e2 : a.b = b.b := by omega
    show (_, _) = (_, _)
    rw [e1, e2]) (by
    intro x hx
    obtain ⟨e, he, rfl⟩ := List.mem_map.mp hx
    have := k.bd e he
    dsimp only
    omega)
  rwa [List.length_map] at h1
/-- one level, as the law has it -/
structure Lv (n : Nat) (L : List Tr) : Prop where
  o : L.Pairwise fun a b => wlt a.w b.w
  l : ∀ e ∈ L, e.w.length = n
/-- .. in the making -/
structure Mk (z y : Pz) (n : Nat) (F L G : List Tr) (i : Nat) (h : Bool) : Prop where
  t : TInv z y (F ++ G)
  o : G.Pairwise fun a b => wlt a.w b.w
  fr : ∀ x ∈ G, ∃ (j : Nat) (u : Tr) (g : Bool), L[j]? = some u ∧ x.w = u.w ++ [g] ∧ (j < i ∨ (j = i ∧ h = true ∧ g = true))
theorem mk_lt {z y : Pz} {n : Nat} {F L G : List Tr} {i : Nat} {h : Bool} (hL : Lv n L) (k : Mk z y n F L G i h) {e : Tr} (he : L[i]? = some e) {x : Tr} (hx : x ∈ G) : wlt x.w (e.w ++ [!h]) := by
  obtain ⟨j, u, g, hu, hw, hj⟩ := k.fr x hx
  rw [hw]
  rcases hj with hj | ⟨rfl, rfl, rfl⟩
  · obtain ⟨hi, rfl⟩ := List.getElem?_eq_some_iff.mp he
    obtain ⟨hj2, rfl⟩ := List.getElem?_eq_some_iff.mp hu
    exact wlt_ext _ _ (by rw [hL.l _ (List.getElem_mem hj2), hL.l _ (List.getElem_mem hi)]) (List.pairwise_iff_getElem.mp hL.o j i hj2 hi hj)
  · rw [hu] at he
    cases he
    exact wlt_snoc _
theorem mk_add {z y : Pz} (hz : z.Ok) (hy : y.Ok) {n : Nat} {F L G : List Tr} {i : Nat} {h : Bool} (hL : Lv n L) (k : Mk z y n F L G i h) {e : Tr} (he : L[i]? = some e) (hF : e ∈ F) : Mk z y n F L (addL F G (kidT z y e (!h))) (if h then i + 1 else i) (!h) := by
  have ht := tinv_add hz hy k.t (List.mem_append_left G hF) (!h)
  rw [addL_eq] at ht
  have hold : ∀ x ∈ G, ∃ (j : Nat) (u : Tr) (g : Bool), L[j]? = some u ∧ x.w = u.w ++ [g] ∧ (j < (if h then i + 1 else i) ∨ (j = (if h then i + 1 else i) ∧ (!h) = true ∧ g = true)) := by
    intro x hx
    obtain ⟨j, u, g, hu, hw, hj⟩ := k.fr x hx
    refine ⟨j, u, g, hu, hw, ?_⟩
    cases h with
    | true =>
      rcases hj with hj | hj
      · exact .inl (by show j < i + 1; omega)
      · exact .inl (by show j < i + 1; omega)
    | false =>
      rcases hj with hj | hj
      · exact .inl hj
      · cases hj.2.1
  have hnew : ∃ (j : Nat) (u : Tr) (g : Bool), L[j]? = some u ∧ (kidT z y e (!h)).w = u.w ++ [g] ∧ (j < (if h then i + 1 else i) ∨ (j = (if h then i + 1 else i) ∧ (!h) = true ∧ g = true)) := by
    refine ⟨i, e, !h, he, rfl, ?_⟩
    cases h with
    | true => exact .inl (by show i < i + 1; omega)
    | false => exact .inr ⟨rfl, rfl, rfl⟩
  refine ⟨ht, ?_, ?_⟩
  · unfold addL addT
    split
    · exact k.o
    · split
      · exact k.o
      · rw [List.pairwise_append]
        refine ⟨k.o, by simp, fun x hx v hv => ?_⟩
        rw [List.mem_singleton.mp hv]
        exact mk_lt hL k he hx
  · intro x hx
    unfold addL addT at hx
    split at hx
    · exact hold x hx
    · split at hx
      · exact hold x hx
      · rcases List.mem_append.mp hx with hx | hx
        · exact hold x hx
        · rw [List.mem_singleton.mp hx]
          exact hnew
theorem mk_lv {z y : Pz} {n : Nat} {F L G : List Tr} {i : Nat} (hL : Lv n L) (k : Mk z y n F L G i false) : Lv (n + 1) G := by
  refine ⟨k.o, fun x hx => ?_⟩
  obtain ⟨j, u, g, hu, hw, _⟩ := k.fr x hx
  rw [hw, List.length_append, hL.l u (List.mem_of_getElem? hu)]
  rfl
end KW
namespace KW
open PySem PySem.Spec PyProof.Rows L2 L2.M
local macro_rules | `(tactic| walk_at "ev") => `(tactic| simp [semF, shared, after, mSeq, mSkip, mIf, mRet, mRetN, mRetV, mSet, mSetIx, mExpr, mB, mU, mTm, mPl, mK, mVar, mOp, mCons, mNil, bor, bors, mTst, mAndT, mOrT, mNotT, mAndE, mOrE, mNotE, mIfE, mIsi, isiD, mChn, chnL, cmpD, binD, addD, subD, mulD, modD, fdivD, powD, eqD, neD, ltD, leD, gtD, geD, isD, isnD, L2.M.isNon, negD, ixD, Bf.f, Bg.f, lenD, L2.M.intD, maxD, minD, repD, strD, gmaxD, gminD, sumD, sortD, anyD, allD, mCall, frz, fzO, lend, wb, mTup, mLst, fzs, cD, mAsg, bTup, bTps, mApp, tupD, lstD, mRev, revD, ofs_inj, ee_ii, ee_ss, ee_bb, ee_nn, ee_is, ee_si, ee_in, ee_ni, ee_tt, ee_ll, ee_maps, ee_0, ee_1, ee_2, ee_3, at_lit, at_nat, at_m1, at_m2, scD, emD, sizeLine_eq, ixN, sm_lit, mSrc, itemsD, plOf, rng1D, bNm, mSl, mPt, mNoP, slD, mPar, keepT, tmsO, setA, mFlow, zipX, enumX, itemsX, intsOf, ints_all, boolsOf, shaped_lay, lay_int, lay_bool, lay_none, lay_dict, lay_tup, lay_list, lay_ints, sortX_ints, mPlF, mPlI, mRd, mPU, mPB, mFSet, mFNew, mNSet, mPApp, mPSetIx, mPPop, mMeth, mNew, isIns, cellO, mLstN, mAddN, mAppN, semX, mTold, mCallX, xRet, xExpr, xSet, mRaise, mM, isL, isS, mOrV, truD])
local macro_rules | `(tactic| walk_at "es") => `(tactic| simp [semF, shared, after, mSeq, mSkip, mIf, mRet, mRetN, mRetV, mSet, mSetIx, mExpr, mB, mU, mTm, mPl, mK, mVar, mOp, mCons, mNil, bor, bors, mTst, mAndT, mOrT, mNotT, mAndE, mOrE, mNotE, mIfE, mIsi, isiD, mChn, chnL, cmpD, binD, addD, subD, mulD, modD, fdivD, powD, eqD, neD, ltD, leD, gtD, geD, isD, isnD, L2.M.isNon, negD, ixD, Bf.f, Bg.f, lenD, L2.M.intD, maxD, minD, repD, strD, gmaxD, gminD, sumD, sortD, anyD, allD, mCall, frz, fzO, lend, wb, mTup, mLst, fzs, cD, mAsg, bTup, bTps, mApp, tupD, lstD, mRev, revD, ofs_inj, ee_ii, ee_ss, ee_bb, ee_nn, ee_is, ee_si, ee_in, ee_ni, ee_tt, ee_ll, ee_maps, ee_0, ee_1, ee_2, ee_3, at_lit, at_nat, at_m1, at_m2, scD, emD, sizeLine_eq, ixN, sm_lit, mSrc, itemsD, plOf, rng1D, bNm, mSl, mPt, mNoP, slD, mPar, keepT, tmsO, setA, mFlow, zipX, enumX, itemsX, intsOf, ints_all, boolsOf, shaped_lay, lay_int, lay_bool, lay_none, lay_dict, lay_tup, lay_list, lay_ints, sortX_ints, mPlF, mPlI, mRd, mPU, mPB, mFSet, mFNew, mNSet, mPApp, mPSetIx, mPPop, mMeth, mNew, isIns, cellO, mLstN, mAddN, mAppN, semX, mTold, mCallX, xRet, xExpr, xSet, mRaise, mM, isL, isS, mOrV, truD, *])
local macro_rules | `(tactic| walk_at "el") => `(tactic| simp [semF, shared, after, mSeq, mSkip, mIf, mRet, mRetN, mRetV, mSet, mSetIx, mExpr, mB, mU, mTm, mPl, mK, mVar, mOp, mCons, mNil, bor, bors, mTst, mAndT, mOrT, mNotT, mAndE, mOrE, mNotE, mIfE, mIsi, isiD, mChn, chnL, cmpD, binD, addD, subD, mulD, modD, fdivD, powD, eqD, neD, ltD, leD, gtD, geD, isD, isnD, L2.M.isNon, negD, ixD, Bf.f, Bg.f, lenD, L2.M.intD, maxD, minD, repD, strD, gmaxD, gminD, sumD, sortD, anyD, allD, mCall, frz, fzO, lend, wb, mTup, mLst, fzs, cD, mAsg, bTup, bTps, mApp, tupD, lstD, mRev, revD, ofs_inj, ee_ii, ee_ss, ee_bb, ee_nn, ee_is, ee_si, ee_in, ee_ni, ee_tt, ee_ll, ee_maps, ee_0, ee_1, ee_2, ee_3, at_lit, at_nat, at_m1, at_m2, scD, emD, sizeLine_eq, ixN, sm_lit, mSrc, itemsD, plOf, rng1D, bNm, mSl, mPt, mNoP, slD, mPar, keepT, tmsO, setA, mFlow, zipX, enumX, itemsX, intsOf, ints_all, boolsOf, shaped_lay, lay_int, lay_bool, lay_none, lay_dict, lay_tup, lay_list, lay_ints, sortX_ints, mPlF, mPlI, mRd, mPU, mPB, mFSet, mFNew, mNSet, mPApp, mPSetIx, mPPop, mMeth, mNew, isIns, cellO, mLstN, mAddN, mAppN, semX, mTold, mCallX, xRet, xExpr, xSet, mRaise, mM, isL, isS, mOrV, truD, mLc, lcL, sameC, wipeC, restC, mYes, *])
local macro_rules | `(tactic| walk_at "ef") => `(tactic| simp [semF, shared, after, mSeq, mSkip, mIf, mRet, mRetN, mRetV, mSet, mSetIx, mExpr, mB, mU, mTm, mPl, mK, mVar, mOp, mCons, mNil, bor, bors, mTst, mAndT, mOrT, mNotT, mAndE, mOrE, mNotE, mIfE, mIsi, isiD, mChn, chnL, cmpD, binD, addD, subD, mulD, modD, fdivD, powD, eqD, neD, ltD, leD, gtD, geD, isD, isnD, L2.M.isNon, negD, ixD, Bf.f, Bg.f, lenD, L2.M.intD, maxD, minD, repD, strD, gmaxD, gminD, sumD, sortD, anyD, allD, mCall, frz, fzO, lend, wb, mTup, mLst, fzs, cD, mAsg, bTup, bTps, mApp, tupD, lstD, mRev, revD, ofs_inj, ee_ii, ee_ss, ee_bb, ee_nn, ee_is, ee_si, ee_in, ee_ni, ee_tt, ee_ll, ee_maps, ee_0, ee_1, ee_2, ee_3, at_lit, at_nat, at_m1, at_m2, scD, emD, sizeLine_eq, ixN, sm_lit, mSrc, itemsD, plOf, rng1D, bNm, mSl, mPt, mNoP, slD, mPar, keepT, tmsO, setA, mFlow, zipX, enumX, itemsX, intsOf, ints_all, boolsOf, shaped_lay, lay_int, lay_bool, lay_none, lay_dict, lay_tup, lay_list, lay_ints, sortX_ints, mPlF, mPlI, mRd, mPU, mPB, mFSet, mFNew, mNSet, mPApp, mPSetIx, mPPop, mMeth, mNew, isIns, cellO, mLstN, mAddN, mAppN, semX, mTold, mCallX, xRet, xExpr, xSet, mRaise, mM, isL, isS, mOrV, truD, mFor, forL, mLc, lcL, sameC, wipeC, restC, mYes, *])
local macro_rules | `(tactic| walk_at "rg") => `(tactic| (and_intros <;> grind))
local macro_rules | `(tactic| walk_at "nx") => `(tactic| (apply wx_nx; focus (walk_at "ev"; try first | exact ⟨rfl, rfl⟩ | rfl)))
local macro_rules | `(tactic| walk_at "ns") => `(tactic| (apply wx_nx; focus (walk_at "es"; try first | exact ⟨rfl, rfl⟩ | rfl)))
local macro_rules | `(tactic| walk_at "rt") => `(tactic| (apply wx_rt; focus (walk_at "ev"; try first | exact ⟨rfl, rfl⟩ | rfl)))
local macro_rules | `(tactic| walk_at "rs") => `(tactic| (apply wx_rt; focus (walk_at "es"; try first | exact ⟨rfl, rfl⟩ | rfl)))
local macro_rules | `(tactic| walk_at "ed") => `(tactic| simp [semF, shared, after, mSeq, mSkip, mIf, mRet, mRetN, mRetV, mSet, mSetIx, mExpr, mB, mU, mTm, mPl, mK, mVar, mOp, mCons, mNil, bor, bors, mTst, mAndT, mOrT, mNotT, mAndE, mOrE, mNotE, mIfE, mIsi, isiD, mChn, chnL, cmpD, binD, addD, subD, mulD, modD, fdivD, powD, eqD, neD, ltD, leD, gtD, geD, isD, isnD, L2.M.isNon, negD, ixD, Bf.f, Bg.f, lenD, L2.M.intD, maxD, minD, repD, strD, gmaxD, gminD, sumD, sortD, anyD, allD, mCall, frz, fzO, lend, wb, mTup, mLst, fzs, cD, mAsg, bTup, bTps, mApp, tupD, lstD, mRev, revD, ofs_inj, ee_ii, ee_ss, ee_bb, ee_nn, ee_is, ee_si, ee_in, ee_ni, ee_tt, ee_ll, ee_maps, ee_0, ee_1, ee_2, ee_3, at_lit, at_nat, at_m1, at_m2, scD, emD, sizeLine_eq, ixN, sm_lit, mSrc, itemsD, plOf, rng1D, bNm, mSl, mPt, mNoP, slD, mPar, keepT, tmsO, setA, mFlow, zipX, enumX, itemsX, intsOf, ints_all, boolsOf, shaped_lay, lay_int, lay_bool, lay_none, lay_dict, lay_tup, lay_list, lay_ints, sortX_ints, mPlF, mPlI, mRd, mPU, mPB, mFSet, mFNew, mNSet, mPApp, mPSetIx, mPPop, mMeth, mNew, isIns, cellO, mLstN, mAddN, mAppN, semX, mTold, mCallX, xRet, xExpr, xSet, mRaise, mM, isL, isS, mOrV, truD, mDNew, mDIn, mDGet, mDLen, mDPut, kyD, mNNew, mN1, mTake, mFnV, mCallF, mNIn, mNGet, mNPut, mNVals, mNList, nKs, mDGetD, mDList, mNNe, *])
abbrev chD (c : Nat) : PyData := .str ⟨#[c]⟩
theorem ninSD_ch (c : Nat) (z : Str) : ninSD (chD c) (.str z) = some (.sh (.bool (!decide (c ∈ cpsL z)))) := rfl
theorem src_str {m : EM} {ε ε1 : Cs} {z : Str} (h : m ε = some (.sh (.str z), ε1)) : mSrc itemsD (mCons (mTm m) mNil) ε = some (((cpsL z).map chD, []), ε1) := src_f h rfl
end KW
namespace KW
open PySem PySem.Spec PyProof.Rows L2 L2.M
local macro_rules | `(tactic| walk_at "ev") => `(tactic| simp [semF, shared, after, mSeq, mSkip, mIf, mRet, mRetN, mRetV, mSet, mSetIx, mExpr, mB, mU, mTm, mPl, mK, mVar, mOp, mCons, mNil, bor, bors, mTst, mAndT, mOrT, mNotT, mAndE, mOrE, mNotE, mIfE, mIsi, isiD, mChn, chnL, cmpD, binD, addD, subD, mulD, modD, fdivD, powD, eqD, neD, ltD, leD, gtD, geD, isD, isnD, L2.M.isNon, negD, ixD, Bf.f, Bg.f, lenD, L2.M.intD, maxD, minD, repD, strD, gmaxD, gminD, sumD, sortD, anyD, allD, mCall, frz, fzO, lend, wb, mTup, mLst, fzs, cD, mAsg, bTup, bTps, mApp, tupD, lstD, mRev, revD, ofs_inj, ee_ii, ee_ss, ee_bb, ee_nn, ee_is, ee_si, ee_in, ee_ni, ee_tt, ee_ll, ee_maps, ee_0, ee_1, ee_2, ee_3, at_lit, at_nat, at_m1, at_m2, scD, emD, sizeLine_eq, ixN, sm_lit, mSrc, itemsD, plOf, rng1D, bNm, mSl, mPt, mNoP, slD, mPar, keepT, tmsO, setA, mFlow, zipX, enumX, itemsX, intsOf, ints_all, boolsOf, shaped_lay, lay_int, lay_bool, lay_none, lay_dict, lay_tup, lay_list, lay_ints, sortX_ints, mPlF, mPlI, mRd, mPU, mPB, mFSet, mFNew, mNSet, mPApp, mPSetIx, mPPop, mMeth, mNew, isIns, cellO, mLstN, mAddN, mAppN, semX, mTold, mCallX, xRet, xExpr, xSet, mRaise, mM, isL, isS, mOrV, truD])
local macro_rules | `(tactic| walk_at "es") => `(tactic| simp [semF, shared, after, mSeq, mSkip, mIf, mRet, mRetN, mRetV, mSet, mSetIx, mExpr, mB, mU, mTm, mPl, mK, mVar, mOp, mCons, mNil, bor, bors, mTst, mAndT, mOrT, mNotT, mAndE, mOrE, mNotE, mIfE, mIsi, isiD, mChn, chnL, cmpD, binD, addD, subD, mulD, modD, fdivD, powD, eqD, neD, ltD, leD, gtD, geD, isD, isnD, L2.M.isNon, negD, ixD, Bf.f, Bg.f, lenD, L2.M.intD, maxD, minD, repD, strD, gmaxD, gminD, sumD, sortD, anyD, allD, mCall, frz, fzO, lend, wb, mTup, mLst, fzs, cD, mAsg, bTup, bTps, mApp, tupD, lstD, mRev, revD, ofs_inj, ee_ii, ee_ss, ee_bb, ee_nn, ee_is, ee_si, ee_in, ee_ni, ee_tt, ee_ll, ee_maps, ee_0, ee_1, ee_2, ee_3, at_lit, at_nat, at_m1, at_m2, scD, emD, sizeLine_eq, ixN, sm_lit, mSrc, itemsD, plOf, rng1D, bNm, mSl, mPt, mNoP, slD, mPar, keepT, tmsO, setA, mFlow, zipX, enumX, itemsX, intsOf, ints_all, boolsOf, shaped_lay, lay_int, lay_bool, lay_none, lay_dict, lay_tup, lay_list, lay_ints, sortX_ints, mPlF, mPlI, mRd, mPU, mPB, mFSet, mFNew, mNSet, mPApp, mPSetIx, mPPop, mMeth, mNew, isIns, cellO, mLstN, mAddN, mAppN, semX, mTold, mCallX, xRet, xExpr, xSet, mRaise, mM, isL, isS, mOrV, truD, *])
local macro_rules | `(tactic| walk_at "el") => `(tactic| simp [semF, shared, after, mSeq, mSkip, mIf, mRet, mRetN, mRetV, mSet, mSetIx, mExpr, mB, mU, mTm, mPl, mK, mVar, mOp, mCons, mNil, bor, bors, mTst, mAndT, mOrT, mNotT, mAndE, mOrE, mNotE, mIfE, mIsi, isiD, mChn, chnL, cmpD, binD, addD, subD, mulD, modD, fdivD, powD, eqD, neD, ltD, leD, gtD, geD, isD, isnD, L2.M.isNon, negD, ixD, Bf.f, Bg.f, lenD, L2.M.intD, maxD, minD, repD, strD, gmaxD, gminD, sumD, sortD, anyD, allD, mCall, frz, fzO, lend, wb, mTup, mLst, fzs, cD, mAsg, bTup, bTps, mApp, tupD, lstD, mRev, revD, ofs_inj, ee_ii, ee_ss, ee_bb, ee_nn, ee_is, ee_si, ee_in, ee_ni, ee_tt, ee_ll, ee_maps, ee_0, ee_1, ee_2, ee_3, at_lit, at_nat, at_m1, at_m2, scD, emD, sizeLine_eq, ixN, sm_lit, mSrc, itemsD, plOf, rng1D, bNm, mSl, mPt, mNoP, slD, mPar, keepT, tmsO, setA, mFlow, zipX, enumX, itemsX, intsOf, ints_all, boolsOf, shaped_lay, lay_int, lay_bool, lay_none, lay_dict, lay_tup, lay_list, lay_ints, sortX_ints, mPlF, mPlI, mRd, mPU, mPB, mFSet, mFNew, mNSet, mPApp, mPSetIx, mPPop, mMeth, mNew, isIns, cellO, mLstN, mAddN, mAppN, semX, mTold, mCallX, xRet, xExpr, xSet, mRaise, mM, isL, isS, mOrV, truD, mLc, lcL, sameC, wipeC, restC, mYes, *])
local macro_rules | `(tactic| walk_at "ef") => `(tactic| simp [semF, shared, after, mSeq, mSkip, mIf, mRet, mRetN, mRetV, mSet, mSetIx, mExpr, mB, mU, mTm, mPl, mK, mVar, mOp, mCons, mNil, bor, bors, mTst, mAndT, mOrT, mNotT, mAndE, mOrE, mNotE, mIfE, mIsi, isiD, mChn, chnL, cmpD, binD, addD, subD, mulD, modD, fdivD, powD, eqD, neD, ltD, leD, gtD, geD, isD, isnD, L2.M.isNon, negD, ixD, Bf.f, Bg.f, lenD, L2.M.intD, maxD, minD, repD, strD, gmaxD, gminD, sumD, sortD, anyD, allD, mCall, frz, fzO, lend, wb, mTup, mLst, fzs, cD, mAsg, bTup, bTps, mApp, tupD, lstD, mRev, revD, ofs_inj, ee_ii, ee_ss, ee_bb, ee_nn, ee_is, ee_si, ee_in, ee_ni, ee_tt, ee_ll, ee_maps, ee_0, ee_1, ee_2, ee_3, at_lit, at_nat, at_m1, at_m2, scD, emD, sizeLine_eq, ixN, sm_lit, mSrc, itemsD, plOf, rng1D, bNm, mSl, mPt, mNoP, slD, mPar, keepT, tmsO, setA, mFlow, zipX, enumX, itemsX, intsOf, ints_all, boolsOf, shaped_lay, lay_int, lay_bool, lay_none, lay_dict, lay_tup, lay_list, lay_ints, sortX_ints, mPlF, mPlI, mRd, mPU, mPB, mFSet, mFNew, mNSet, mPApp, mPSetIx, mPPop, mMeth, mNew, isIns, cellO, mLstN, mAddN, mAppN, semX, mTold, mCallX, xRet, xExpr, xSet, mRaise, mM, isL, isS, mOrV, truD, mFor, forL, mLc, lcL, sameC, wipeC, restC, mYes, *])
local macro_rules | `(tactic| walk_at "rg") => `(tactic| (and_intros <;> grind))
local macro_rules | `(tactic| walk_at "nx") => `(tactic| (apply wx_nx; focus (walk_at "ev"; try first | exact ⟨rfl, rfl⟩ | rfl)))
local macro_rules | `(tactic| walk_at "ns") => `(tactic| (apply wx_nx; focus (walk_at "es"; try first | exact ⟨rfl, rfl⟩ | rfl)))
local macro_rules | `(tactic| walk_at "rt") => `(tactic| (apply wx_rt; focus (walk_at "ev"; try first | exact ⟨rfl, rfl⟩ | rfl)))
local macro_rules | `(tactic| walk_at "rs") => `(tactic| (apply wx_rt; focus (walk_at "es"; try first | exact ⟨rfl, rfl⟩ | rfl)))
local macro_rules | `(tactic| walk_at "ed") => `(tactic| simp [semF, shared, after, mSeq, mSkip, mIf, mRet, mRetN, mRetV, mSet, mSetIx, mExpr, mB, mU, mTm, mPl, mK, mVar, mOp, mCons, mNil, bor, bors, mTst, mAndT, mOrT, mNotT, mAndE, mOrE, mNotE, mIfE, mIsi, isiD, mChn, chnL, cmpD, binD, addD, subD, mulD, modD, fdivD, powD, eqD, neD, ltD, leD, gtD, geD, isD, isnD, L2.M.isNon, negD, ixD, Bf.f, Bg.f, lenD, L2.M.intD, maxD, minD, repD, strD, gmaxD, gminD, sumD, sortD, anyD, allD, mCall, frz, fzO, lend, wb, mTup, mLst, fzs, cD, mAsg, bTup, bTps, mApp, tupD, lstD, mRev, revD, ofs_inj, ee_ii, ee_ss, ee_bb, ee_nn, ee_is, ee_si, ee_in, ee_ni, ee_tt, ee_ll, ee_maps, ee_0, ee_1, ee_2, ee_3, at_lit, at_nat, at_m1, at_m2, scD, emD, sizeLine_eq, ixN, sm_lit, mSrc, itemsD, plOf, rng1D, bNm, mSl, mPt, mNoP, slD, mPar, keepT, tmsO, setA, mFlow, zipX, enumX, itemsX, intsOf, ints_all, boolsOf, shaped_lay, lay_int, lay_bool, lay_none, lay_dict, lay_tup, lay_list, lay_ints, sortX_ints, mPlF, mPlI, mRd, mPU, mPB, mFSet, mFNew, mNSet, mPApp, mPSetIx, mPPop, mMeth, mNew, isIns, cellO, mLstN, mAddN, mAppN, semX, mTold, mCallX, xRet, xExpr, xSet, mRaise, mM, isL, isS, mOrV, truD, mDNew, mDIn, mDGet, mDLen, mDPut, kyD, mNNew, mN1, mTake, mFnV, mCallF, mNIn, mNGet, mNPut, mNVals, mNList, nKs, mDGetD, mDList, mNNe, *])
theorem on_eq {z : Pz} (u : Int) (g : Bool) : g_law_on [.sh z.d, .sh (.int u), .sh (.str (sgT g))] = some (.sh (.int (on z u g)), [.sh z.d, .sh (.int u), .sh (.str (sgT g))]) := by
  unfold g_law_on m_law_on Pz.d on pin
  cases g with
  | true =>
    show semF _ _ _ [_, _, .sh (.str "a")] = some (_, [_, _, .sh (.str "a")])
    walk_at "es"
  | false =>
    show semF _ _ _ [_, _, .sh (.str "k")] = some (_, [_, _, .sh (.str "k")])
    by_cases h : z.r ≤ u <;> walk_at "es"
def tV (e : Tr) : PyData := .str (txW e.w)
def rO (L : List Tr) : C := .ob (.dn (tKs L)) (L.map fun e => .sh (tV e))
def rF (L : List Tr) : C := .fd (L.map fun e => (kP e.a e.b, tV e))
def sC (F : List Tr) : C := .ob (.dn (tKs F)) (F.map fun _ => .sh (.bool true))
theorem sh_1 {z y : Pz} : (mSet [0, 1] 2 (mN1 (mTup (mCons (mTm (mB ixD (mPl 0) (mTm (mK (.int 3))))) (mCons (mTm (mB ixD (mPl 1) (mTm (mK (.int 3))))) (mNil)))) (mK (.str "")))) [.sh z.d, .sh y.d, .no, .no, .no, .no, .no, .no, .no] = some (.nx, [.sh z.d, .sh y.d, rO [st0 z y], .no, .no, .no, .no, .no, .no]) := by
  have e0 : (mTup (mCons (mTm (mB ixD (mPl 0) (mTm (mK (.int 3))))) (mCons (mTm (mB ixD (mPl 1) (mTm (mK (.int 3))))) (mNil)))) [.sh z.d, .sh y.d, .no, .no, .no, .no, .no, .no, .no] = some (.sh (kP z.f y.f), [.sh z.d, .sh y.d, .no, .no, .no, .no, .no, .no, .no]) := by
    unfold Pz.d
    walk_at "es"
  have e : (mN1 (mTup (mCons (mTm (mB ixD (mPl 0) (mTm (mK (.int 3))))) (mCons (mTm (mB ixD (mPl 1) (mTm (mK (.int 3))))) (mNil)))) (mK (.str ""))) [.sh z.d, .sh y.d, .no, .no, .no, .no, .no, .no, .no] = some (rO [st0 z y], [.sh z.d, .sh y.d, .no, .no, .no, .no, .no, .no, .no]) := by
    have hk := okKey_p z.f y.f
    have hb : rO [st0 z y] = .ob (.dn [kP z.f y.f]) [.sh (.str "")] := rfl
    rw [hb]
    generalize kP z.f y.f = Z at *
    simp [mN1, e0, cD, hk, mK]
  generalize mN1 _ _ = N at *
  generalize rO [st0 z y] = B at *
  generalize z.d = Z at *
  generalize y.d = Y at *
  clear e0
  walk_at "es"
theorem sh_2 {z y : Pz} {c2 : C} : (mSet [0, 1] 3 (mN1 (mTup (mCons (mTm (mB ixD (mPl 0) (mTm (mK (.int 3))))) (mCons (mTm (mB ixD (mPl 1) (mTm (mK (.int 3))))) (mNil)))) (mK (.bool true)))) [.sh z.d, .sh y.d, c2, .no, .no, .no, .no, .no, .no] = some (.nx, [.sh z.d, .sh y.d, c2, sC [st0 z y], .no, .no, .no, .no, .no]) := by
  have e0 : (mTup (mCons (mTm (mB ixD (mPl 0) (mTm (mK (.int 3))))) (mCons (mTm (mB ixD (mPl 1) (mTm (mK (.int 3))))) (mNil)))) [.sh z.d, .sh y.d, c2, .no, .no, .no, .no, .no, .no] = some (.sh (kP z.f y.f), [.sh z.d, .sh y.d, c2, .no, .no, .no, .no, .no, .no]) := by
    unfold Pz.d
    walk_at "es"
  have e : mN1 (mTup (mCons (mTm (mB ixD (mPl 0) (mTm (mK (.int 3))))) (mCons (mTm (mB ixD (mPl 1) (mTm (mK (.int 3))))) (mNil)))) (mK (.bool true)) [.sh z.d, .sh y.d, c2, .no, .no, .no, .no, .no, .no] = some (sC [st0 z y], [.sh z.d, .sh y.d, c2, .no, .no, .no, .no, .no, .no]) := by
    have hk := okKey_p z.f y.f
    have hb : sC [st0 z y] = .ob (.dn [kP z.f y.f]) [.sh (.bool true)] := rfl
    rw [hb]
    generalize kP z.f y.f = Z at *
    simp [mN1, e0, cD, hk, mK]
  generalize mN1 _ _ = N at *
  generalize sC [st0 z y] = B at *
  generalize z.d = Z at *
  generalize y.d = Y at *
  clear e0
  walk_at "es"
theorem ks_emp (L : List Tr) : (tKs L).isEmpty = L.isEmpty := by cases L <;> rfl
theorem sh_t {r : C} {L : List Tr} (hr : r = rO L ∨ r = rF L) {c0 c1 c3 c4 c5 c6 c7 c8 : C} : mTst (mNNe 2) [c0, c1, r, c3, c4, c5, c6, c7, c8] = some (!L.isEmpty, [c0, c1, r, c3, c4, c5, c6, c7, c8]) := by
  have hk : nKs r = some (tKs L) := by
    rcases hr with rfl | rfl
    · rfl
    · show some ((L.map fun e => (kP e.a e.b, tV e)).map (·.1)) = _
      rw [List.map_map]
      rfl
  rw [← ks_emp]
  simp [mTst, mNNe, hk]
theorem cFs_v : ∀ L : List Tr, cFs (L.map fun e => C.sh (tV e)) = some (L.map tV)
  | [] => rfl
  | e :: L => by
    have := cFs_v L
    rw [List.map_cons, List.map_cons]
    unfold cFs
    rw [this]
    rfl
theorem src_r {r : C} {L : List Tr} (hr : r = rO L ∨ r = rF L) {ε : Cs} {i : Nat} (h : ε[i]? = some r) : mNSrc i ε = some ((tKs L, []), ε.set i (rF L)) := by
  rcases hr with rfl | rfl
  · unfold mNSrc
    rw [h]
    show (cFs (L.map fun e => C.sh (tV e))).map _ = _
    rw [cFs_v]
    show some ((tKs L, []), ε.set i (.fd ((tKs L).zip (L.map tV)))) = _
    have : (tKs L).zip (L.map tV) = L.map fun e => (kP e.a e.b, tV e) := by
      unfold tKs
      rw [List.zip_map']
    rw [this]
    rfl
  · unfold mNSrc
    rw [h]
    show some (((L.map fun e => (kP e.a e.b, tV e)).map (·.1), []), ε) = _
    rw [List.map_map]
    have : ε.set i (rF L) = ε := by
      obtain ⟨hi, he⟩ := List.getElem?_eq_some_iff.mp h
      rw [← he]
      exact List.set_getElem_self hi
    rw [this]
    rfl
theorem get_r {L : List Tr} (hn : (L.map tK).Nodup) {j : Nat} {e : Tr} (h : L[j]? = some e) {c0 c1 c3 c4 c6 c7 c8 : C} : mNGet 2 (mPl 5) [c0, c1, rF L, c3, c4, .sh (kP e.a e.b), c6, c7, c8] = some (.sh (tV e), [c0, c1, rF L, c3, c4, .sh (kP e.a e.b), c6, c7, c8]) := by
  have hx : idxN (tKs L) (kQ e.a e.b) = some j := (idx_t L _ _).trans (tdx_at hn h)
  have hk := okKey_p e.a e.b
  have hks : nKs (rF L) = some (tKs L) := by
    show some ((L.map fun e => (kP e.a e.b, tV e)).map (·.1)) = _
    rw [List.map_map]
    rfl
  have hv : nVl (rF L) j = some (tV e) := by
    show ((L.map fun e => (kP e.a e.b, tV e))[j]?).map (·.2) = _
    rw [List.getElem?_map, h]
    rfl
  generalize rF L = R at *
  generalize kP e.a e.b = Z at *
  simp [mNGet, hks, mPl, bor, hk, hx, hv]
theorem add_k {w : List Bool} (hw : w.length ≤ 10000) (g : Bool) : addD (.str (txW w)) (.str (sgT g)) = some (.sh (.str (txW (w ++ [g])))) := by
  rw [← txW_add]
  exact add_str (by rw [txW_len, sgT_l]; omega)
theorem sh_m {z y : Pz} {e : Tr} {c2 c3 c4 c6 c7 c8 : C} : (mTst (mB (cmpD .NotEq) (mTm (mB (cmpD .GtE) (mTm (mB ixD (mPl 5) (mTm (mK (.int 0))))) (mTm (mB ixD (mPl 0) (mTm (mK (.int 1))))))) (mTm (mB (cmpD .GtE) (mTm (mB ixD (mPl 5) (mTm (mK (.int 1))))) (mTm (mB ixD (mPl 1) (mTm (mK (.int 1))))))))) [.sh z.d, .sh y.d, c2, c3, c4, .sh (kP e.a e.b), c6, c7, c8] = some (misT z y e, [.sh z.d, .sh y.d, c2, c3, c4, .sh (kP e.a e.b), c6, c7, c8]) := by
  unfold misT Pz.d
  by_cases h1 : z.r ≤ e.a <;> by_cases h2 : y.r ≤ e.b <;> simp only [h1, h2, decide_true, decide_false] <;> walk_at "es"
theorem sh_x {L : List Tr} (hn : (L.map tK).Nodup) {j : Nat} {e : Tr} (h : L[j]? = some e) (hw : e.w.length ≤ 10000) {c0 c1 c3 c4 c6 c7 c8 : C} : (mB (binD .Add) (mTm (mNGet 2 (mPl 5))) (mTm (mK (.str "k")))) [c0, c1, rF L, c3, c4, .sh (kP e.a e.b), c6, c7, c8] = some (.sh (.str (txW (e.w ++ [false]))), [c0, c1, rF L, c3, c4, .sh (kP e.a e.b), c6, c7, c8]) := by
  have f := get_r hn h (c0 := c0) (c1 := c1) (c3 := c3) (c4 := c4) (c6 := c6) (c7 := c7) (c8 := c8)
  have a : addD (.str (txW e.w)) (.str "k") = some (.sh (.str (txW (e.w ++ [false])))) := add_k hw false
  unfold tV at f
  have e0 : binD .Add = addD := rfl
  rw [e0]
  generalize mNGet 2 (mPl 5) = G at *
  generalize addD = A at *
  generalize txW (e.w ++ [false]) = W at *
  generalize txW e.w = V at *
  generalize rF L = R at *
  generalize kP e.a e.b = Z at *
  clear h hn hw
  walk_at "es"
def fnd (z y : Pz) (L : List Tr) : List PyData := (L.filter (misT z y)).map fun e => .str (txW (e.w ++ [false]))
theorem sh_4 {z y : Pz} {r : C} {L : List Tr} (hr : r = rO L ∨ r = rF L) (hn : (L.map tK).Nodup) (hw : ∀ e ∈ L, e.w.length ≤ 10000) (hl : L.length ≤ 10000) {c3 c4 c5 c6 c7 c8 : C} : (mSet [0, 1] 4 (mLc (mNSrc 2) (bNm 5) (mTst (mB (cmpD .NotEq) (mTm (mB (cmpD .GtE) (mTm (mB ixD (mPl 5) (mTm (mK (.int 0))))) (mTm (mB ixD (mPl 0) (mTm (mK (.int 1))))))) (mTm (mB (cmpD .GtE) (mTm (mB ixD (mPl 5) (mTm (mK (.int 1))))) (mTm (mB ixD (mPl 1) (mTm (mK (.int 1))))))))) (mB (binD .Add) (mTm (mNGet 2 (mPl 5))) (mTm (mK (.str "k")))) [5])) [.sh z.d, .sh y.d, r, c3, c4, c5, c6, c7, c8] = some (.nx, [.sh z.d, .sh y.d, rF L, c3, .ls (fnd z y L), c5, c6, c7, c8]) := by
  have key : (mLc (mNSrc 2) (bNm 5) (mTst (mB (cmpD .NotEq) (mTm (mB (cmpD .GtE) (mTm (mB ixD (mPl 5) (mTm (mK (.int 0))))) (mTm (mB ixD (mPl 0) (mTm (mK (.int 1))))))) (mTm (mB (cmpD .GtE) (mTm (mB ixD (mPl 5) (mTm (mK (.int 1))))) (mTm (mB ixD (mPl 1) (mTm (mK (.int 1))))))))) (mB (binD .Add) (mTm (mNGet 2 (mPl 5))) (mTm (mK (.str "k")))) [5]) [.sh z.d, .sh y.d, r, c3, c4, c5, c6, c7, c8] = some (.ls (fnd z y L), [.sh z.d, .sh y.d, rF L, c3, c4, c5, c6, c7, c8]) := by
    refine mLc_encF (fun e : Tr => kP e.a e.b) (fun e => .str (txW (e.w ++ [false]))) (misT z y) (ws := []) (c0 := c5) (xs := L) (ε1 := [.sh z.d, .sh y.d, rF L, c3, c4, c5, c6, c7, c8]) (src_r hr rfl) rfl (fun e he => sh_m) (fun e he _ => ?_) (by rw [sizeLine_eq]; omega)
    obtain ⟨j, hj, hje⟩ := List.getElem_of_mem he
    exact ⟨_, sh_x hn (j := j) (by rw [List.getElem?_eq_getElem hj, hje]) (hw e he), rfl⟩
  generalize mLc _ _ _ _ _ = ML at *
  generalize fnd z y L = D at *
  generalize rF L = R at *
  generalize z.d = Z at *
  generalize y.d = Y at *
  clear hr hn hw hl
  walk_at "es"
theorem strs_lay (D : List Str) (h : ∀ s ∈ D, PyData.strOk s = true) : SeqAt.shaped (.list (D.map .str)) = true := by
  rw [shaped_lay, lay_list _ (by decide), List.all_map, List.all_eq_true]
  intro s hs
  simp [lay_str, h s hs]
theorem txW_ok (w : List Bool) : PyData.strOk (txW w) = true := strOk_iff.mpr (by
  intro c hc
  rw [txW_cps] at hc
  obtain ⟨g, _, rfl⟩ := List.mem_map.mp hc
  cases g <;> decide)
theorem ne_strs (D : List Str) (h : ∀ s ∈ D, PyData.strOk s = true) : cmpD .NotEq (.list (D.map .str)) (.list []) = some (.sh (.bool (!D.isEmpty))) := by
  have h1 := strs_lay D h
  have h2 : SeqAt.shaped (.list []) = true := by decide +kernel
  show neD _ _ = _
  unfold neD
  rw [if_pos (by rw [h1, h2]; simp), ee_ll]
  cases D with
  | nil => rfl
  | cons s D => rfl
theorem sh_5n {Z Y : PyData} {c2 c3 c5 c6 c7 c8 : C} : (mIf (mTst (mB (cmpD .NotEq) (mPl 4) (mTm (mLst (mNil))))) (mSeq (mRet (mOp minLD (mCons (mPl 4) (mNil)))) (mSkip)) (mSkip)) [.sh Z, .sh Y, c2, c3, .ls [], c5, c6, c7, c8] = some (.nx, [.sh Z, .sh Y, c2, c3, .ls [], c5, c6, c7, c8]) := by
  have h : cmpD .NotEq (.list []) (.list []) = some (.sh (.bool false)) := ne_strs [] (fun s hs => by cases hs)
  generalize cmpD .NotEq = N at *
  generalize minLD = M at *
  walk_at "es"
theorem sh_5y {Z Y V : PyData} {D : List PyData} {c2 c3 c5 c6 c7 c8 : C} (h : cmpD .NotEq (.list D) (.list []) = some (.sh (.bool true))) (hm : minLD [.list D] = some (.sh V)) : (mIf (mTst (mB (cmpD .NotEq) (mPl 4) (mTm (mLst (mNil))))) (mSeq (mRet (mOp minLD (mCons (mPl 4) (mNil)))) (mSkip)) (mSkip)) [.sh Z, .sh Y, c2, c3, .ls D, c5, c6, c7, c8] = some (.rt (.sh V), [.sh Z, .sh Y, c2, c3, .ls D, c5, c6, c7, c8]) := by
  generalize cmpD .NotEq = N at *
  generalize minLD = M at *
  walk_at "es"
theorem fnd_none {z y : Pz} {L : List Tr} (h : L.find? (misT z y) = none) : fnd z y L = [] := by
  unfold fnd
  rw [List.filter_eq_nil_iff.mpr, List.map_nil]
  intro a ha
  simpa using List.find?_eq_none.mp h a ha
theorem fnd_some {z y : Pz} {n : Nat} {L : List Tr} (hL : Lv n L) {e : Tr} (h : L.find? (misT z y) = some e) : cmpD .NotEq (.list (fnd z y L)) (.list []) = some (.sh (.bool true)) ∧ minLD [.list (fnd z y L)] = some (.sh (.str (txW (e.w ++ [false])))) := by
  obtain ⟨hm, A, B, rfl, hA⟩ := List.find?_eq_some_iff_append.mp h
  have hAf : A.filter (misT z y) = [] := by
    rw [List.filter_eq_nil_iff]
    intro a ha
    simpa using hA a ha
  have hf : fnd z y (A ++ e :: B) = ((e :: B.filter (misT z y)).map fun e => txW (e.w ++ [false])).map .str := by
    unfold fnd
    rw [List.filter_append, hAf, List.nil_append, List.filter_cons, if_pos hm, List.map_map]
    rfl
  rw [hf]
  have hok : ∀ s ∈ (e :: B.filter (misT z y)).map fun e => txW (e.w ++ [false]), PyData.strOk s = true := by
    intro s hs
    obtain ⟨x, _, rfl⟩ := List.mem_map.mp hs
    exact txW_ok _
  refine ⟨by rw [ne_strs _ hok]; rfl, ?_⟩
  have hsh := strs_lay _ hok
  have hst : strsB (((e :: B.filter (misT z y)).map fun e => txW (e.w ++ [false])).map PyData.str) = true := by
    unfold strsB
    rw [List.all_map, List.all_eq_true]
    intro s _
    rfl
  rw [List.map_cons, List.map_cons] at hsh hst ⊢
  show (if SeqAt.shaped _ = true ∧ strsB _ = true then some (C.sh (PySem.W.minD _ _)) else none) = _
  rw [if_pos ⟨hsh, hst⟩, minD_first]
  intro s hs
  obtain ⟨x, hx, rfl⟩ := List.mem_map.mp hs
  have hxB := (List.mem_filter.mp hx).1
  have ho := hL.o
  rw [List.pairwise_append] at ho
  have h1 := (List.pairwise_cons.mp ho.2.1).1 x hxB
  exact wlt_asymm (wlt_ext [false] [false] (by rw [hL.l e (by simp), hL.l x (by simp [hxB])]) h1)
end KW
namespace KW
open PySem PySem.Spec PyProof.Rows L2 L2.M
local macro_rules | `(tactic| walk_at "ev") => `(tactic| simp [semF, shared, after, mSeq, mSkip, mIf, mRet, mRetN, mRetV, mSet, mSetIx, mExpr, mB, mU, mTm, mPl, mK, mVar, mOp, mCons, mNil, bor, bors, mTst, mAndT, mOrT, mNotT, mAndE, mOrE, mNotE, mIfE, mIsi, isiD, mChn, chnL, cmpD, binD, addD, subD, mulD, modD, fdivD, powD, eqD, neD, ltD, leD, gtD, geD, isD, isnD, L2.M.isNon, negD, ixD, Bf.f, Bg.f, lenD, L2.M.intD, maxD, minD, repD, strD, gmaxD, gminD, sumD, sortD, anyD, allD, mCall, frz, fzO, lend, wb, mTup, mLst, fzs, cD, mAsg, bTup, bTps, mApp, tupD, lstD, mRev, revD, ofs_inj, ee_ii, ee_ss, ee_bb, ee_nn, ee_is, ee_si, ee_in, ee_ni, ee_tt, ee_ll, ee_maps, ee_0, ee_1, ee_2, ee_3, at_lit, at_nat, at_m1, at_m2, scD, emD, sizeLine_eq, ixN, sm_lit, mSrc, itemsD, plOf, rng1D, bNm, mSl, mPt, mNoP, slD, mPar, keepT, tmsO, setA, mFlow, zipX, enumX, itemsX, intsOf, ints_all, boolsOf, shaped_lay, lay_int, lay_bool, lay_none, lay_dict, lay_tup, lay_list, lay_ints, sortX_ints, mPlF, mPlI, mRd, mPU, mPB, mFSet, mFNew, mNSet, mPApp, mPSetIx, mPPop, mMeth, mNew, isIns, cellO, mLstN, mAddN, mAppN, semX, mTold, mCallX, xRet, xExpr, xSet, mRaise, mM, isL, isS, mOrV, truD])
local macro_rules | `(tactic| walk_at "es") => `(tactic| simp [semF, shared, after, mSeq, mSkip, mIf, mRet, mRetN, mRetV, mSet, mSetIx, mExpr, mB, mU, mTm, mPl, mK, mVar, mOp, mCons, mNil, bor, bors, mTst, mAndT, mOrT, mNotT, mAndE, mOrE, mNotE, mIfE, mIsi, isiD, mChn, chnL, cmpD, binD, addD, subD, mulD, modD, fdivD, powD, eqD, neD, ltD, leD, gtD, geD, isD, isnD, L2.M.isNon, negD, ixD, Bf.f, Bg.f, lenD, L2.M.intD, maxD, minD, repD, strD, gmaxD, gminD, sumD, sortD, anyD, allD, mCall, frz, fzO, lend, wb, mTup, mLst, fzs, cD, mAsg, bTup, bTps, mApp, tupD, lstD, mRev, revD, ofs_inj, ee_ii, ee_ss, ee_bb, ee_nn, ee_is, ee_si, ee_in, ee_ni, ee_tt, ee_ll, ee_maps, ee_0, ee_1, ee_2, ee_3, at_lit, at_nat, at_m1, at_m2, scD, emD, sizeLine_eq, ixN, sm_lit, mSrc, itemsD, plOf, rng1D, bNm, mSl, mPt, mNoP, slD, mPar, keepT, tmsO, setA, mFlow, zipX, enumX, itemsX, intsOf, ints_all, boolsOf, shaped_lay, lay_int, lay_bool, lay_none, lay_dict, lay_tup, lay_list, lay_ints, sortX_ints, mPlF, mPlI, mRd, mPU, mPB, mFSet, mFNew, mNSet, mPApp, mPSetIx, mPPop, mMeth, mNew, isIns, cellO, mLstN, mAddN, mAppN, semX, mTold, mCallX, xRet, xExpr, xSet, mRaise, mM, isL, isS, mOrV, truD, *])
local macro_rules | `(tactic| walk_at "el") => `(tactic| simp [semF, shared, after, mSeq, mSkip, mIf, mRet, mRetN, mRetV, mSet, mSetIx, mExpr, mB, mU, mTm, mPl, mK, mVar, mOp, mCons, mNil, bor, bors, mTst, mAndT, mOrT, mNotT, mAndE, mOrE, mNotE, mIfE, mIsi, isiD, mChn, chnL, cmpD, binD, addD, subD, mulD, modD, fdivD, powD, eqD, neD, ltD, leD, gtD, geD, isD, isnD, L2.M.isNon, negD, ixD, Bf.f, Bg.f, lenD, L2.M.intD, maxD, minD, repD, strD, gmaxD, gminD, sumD, sortD, anyD, allD, mCall, frz, fzO, lend, wb, mTup, mLst, fzs, cD, mAsg, bTup, bTps, mApp, tupD, lstD, mRev, revD, ofs_inj, ee_ii, ee_ss, ee_bb, ee_nn, ee_is, ee_si, ee_in, ee_ni, ee_tt, ee_ll, ee_maps, ee_0, ee_1, ee_2, ee_3, at_lit, at_nat, at_m1, at_m2, scD, emD, sizeLine_eq, ixN, sm_lit, mSrc, itemsD, plOf, rng1D, bNm, mSl, mPt, mNoP, slD, mPar, keepT, tmsO, setA, mFlow, zipX, enumX, itemsX, intsOf, ints_all, boolsOf, shaped_lay, lay_int, lay_bool, lay_none, lay_dict, lay_tup, lay_list, lay_ints, sortX_ints, mPlF, mPlI, mRd, mPU, mPB, mFSet, mFNew, mNSet, mPApp, mPSetIx, mPPop, mMeth, mNew, isIns, cellO, mLstN, mAddN, mAppN, semX, mTold, mCallX, xRet, xExpr, xSet, mRaise, mM, isL, isS, mOrV, truD, mLc, lcL, sameC, wipeC, restC, mYes, *])
local macro_rules | `(tactic| walk_at "ef") => `(tactic| simp [semF, shared, after, mSeq, mSkip, mIf, mRet, mRetN, mRetV, mSet, mSetIx, mExpr, mB, mU, mTm, mPl, mK, mVar, mOp, mCons, mNil, bor, bors, mTst, mAndT, mOrT, mNotT, mAndE, mOrE, mNotE, mIfE, mIsi, isiD, mChn, chnL, cmpD, binD, addD, subD, mulD, modD, fdivD, powD, eqD, neD, ltD, leD, gtD, geD, isD, isnD, L2.M.isNon, negD, ixD, Bf.f, Bg.f, lenD, L2.M.intD, maxD, minD, repD, strD, gmaxD, gminD, sumD, sortD, anyD, allD, mCall, frz, fzO, lend, wb, mTup, mLst, fzs, cD, mAsg, bTup, bTps, mApp, tupD, lstD, mRev, revD, ofs_inj, ee_ii, ee_ss, ee_bb, ee_nn, ee_is, ee_si, ee_in, ee_ni, ee_tt, ee_ll, ee_maps, ee_0, ee_1, ee_2, ee_3, at_lit, at_nat, at_m1, at_m2, scD, emD, sizeLine_eq, ixN, sm_lit, mSrc, itemsD, plOf, rng1D, bNm, mSl, mPt, mNoP, slD, mPar, keepT, tmsO, setA, mFlow, zipX, enumX, itemsX, intsOf, ints_all, boolsOf, shaped_lay, lay_int, lay_bool, lay_none, lay_dict, lay_tup, lay_list, lay_ints, sortX_ints, mPlF, mPlI, mRd, mPU, mPB, mFSet, mFNew, mNSet, mPApp, mPSetIx, mPPop, mMeth, mNew, isIns, cellO, mLstN, mAddN, mAppN, semX, mTold, mCallX, xRet, xExpr, xSet, mRaise, mM, isL, isS, mOrV, truD, mFor, forL, mLc, lcL, sameC, wipeC, restC, mYes, *])
local macro_rules | `(tactic| walk_at "rg") => `(tactic| (and_intros <;> grind))
local macro_rules | `(tactic| walk_at "nx") => `(tactic| (apply wx_nx; focus (walk_at "ev"; try first | exact ⟨rfl, rfl⟩ | rfl)))
local macro_rules | `(tactic| walk_at "ns") => `(tactic| (apply wx_nx; focus (walk_at "es"; try first | exact ⟨rfl, rfl⟩ | rfl)))
local macro_rules | `(tactic| walk_at "rt") => `(tactic| (apply wx_rt; focus (walk_at "ev"; try first | exact ⟨rfl, rfl⟩ | rfl)))
local macro_rules | `(tactic| walk_at "rs") => `(tactic| (apply wx_rt; focus (walk_at "es"; try first | exact ⟨rfl, rfl⟩ | rfl)))
local macro_rules | `(tactic| walk_at "ed") => `(tactic| simp [semF, shared, after, mSeq, mSkip, mIf, mRet, mRetN, mRetV, mSet, mSetIx, mExpr, mB, mU, mTm, mPl, mK, mVar, mOp, mCons, mNil, bor, bors, mTst, mAndT, mOrT, mNotT, mAndE, mOrE, mNotE, mIfE, mIsi, isiD, mChn, chnL, cmpD, binD, addD, subD, mulD, modD, fdivD, powD, eqD, neD, ltD, leD, gtD, geD, isD, isnD, L2.M.isNon, negD, ixD, Bf.f, Bg.f, lenD, L2.M.intD, maxD, minD, repD, strD, gmaxD, gminD, sumD, sortD, anyD, allD, mCall, frz, fzO, lend, wb, mTup, mLst, fzs, cD, mAsg, bTup, bTps, mApp, tupD, lstD, mRev, revD, ofs_inj, ee_ii, ee_ss, ee_bb, ee_nn, ee_is, ee_si, ee_in, ee_ni, ee_tt, ee_ll, ee_maps, ee_0, ee_1, ee_2, ee_3, at_lit, at_nat, at_m1, at_m2, scD, emD, sizeLine_eq, ixN, sm_lit, mSrc, itemsD, plOf, rng1D, bNm, mSl, mPt, mNoP, slD, mPar, keepT, tmsO, setA, mFlow, zipX, enumX, itemsX, intsOf, ints_all, boolsOf, shaped_lay, lay_int, lay_bool, lay_none, lay_dict, lay_tup, lay_list, lay_ints, sortX_ints, mPlF, mPlI, mRd, mPU, mPB, mFSet, mFNew, mNSet, mPApp, mPSetIx, mPPop, mMeth, mNew, isIns, cellO, mLstN, mAddN, mAppN, semX, mTold, mCallX, xRet, xExpr, xSet, mRaise, mM, isL, isS, mOrV, truD, mDNew, mDIn, mDGet, mDLen, mDPut, kyD, mNNew, mN1, mTake, mFnV, mCallF, mNIn, mNGet, mNPut, mNVals, mNList, nKs, mDGetD, mDList, mNNe, *])
theorem sh_6 {c0 c1 c2 c3 c4 c5 c6 c7 c8 : C} : (mSet [0, 1] 6 (mNNew)) [c0, c1, c2, c3, c4, c5, c6, c7, c8] = some (.nx, [c0, c1, c2, c3, c4, c5, rO [], c7, c8]) := rfl
theorem sh_8 {z y : Pz} {e : Tr} {g : Bool} {c2 c3 c4 c6 c8 : C} : (mSet [0, 1] 8 (mTup (mCons (mTm (mCall [true, true, true] g_law_on (mCons (mPl 0) (mCons (mTm (mB ixD (mPl 5) (mTm (mK (.int 0))))) (mCons (mPl 7) (mNil)))))) (mCons (mTm (mCall [true, true, true] g_law_on (mCons (mPl 1) (mCons (mTm (mB ixD (mPl 5) (mTm (mK (.int 1))))) (mCons (mPl 7) (mNil)))))) (mNil))))) [.sh z.d, .sh y.d, c2, c3, c4, .sh (kP e.a e.b), c6, .sh (.str (sgT g)), c8] = some (.nx, [.sh z.d, .sh y.d, c2, c3, c4, .sh (kP e.a e.b), c6, .sh (.str (sgT g)), .sh (kP (on z e.a g) (on y e.b g))]) := by
  have e1 := on_eq (z := z) e.a g
  have e2 := on_eq (z := y) e.b g
  generalize on z e.a g = A at *
  generalize on y e.b g = B at *
  generalize z.d = Z at *
  generalize y.d = Y at *
  generalize sgT g = S at *
  generalize g_law_on = G at *
  walk_at "es"
theorem in_s {F : List Tr} {a b : Int} {c0 c1 c2 c4 c5 c6 c7 : C} : mTst (mNIn true 3 (mPl 8)) [c0, c1, c2, sC F, c4, c5, c6, c7, .sh (kP a b)] = some (!tIx F a b, [c0, c1, c2, sC F, c4, c5, c6, c7, .sh (kP a b)]) := by
  have hk := okKey_p a b
  have hx := idx_t F a b
  have hi := tdx_tIx F a b
  have hks : nKs (sC F) = some (tKs F) := rfl
  rw [← hi, ← hx]
  generalize sC F = R at *
  generalize kP a b = Z at *
  simp [mTst, mNIn, hks, mPl, bor, hk]
theorem nks_O (G : List Tr) : nKs (rO G) = some (tKs G) := rfl
theorem gd_n {G : List Tr} {a b : Int} (h : tdx G a b = none) {c0 c1 c2 c3 c4 c5 c7 : C} : mNGetD 6 (mVar 8) (mK (.str "l")) [c0, c1, c2, c3, c4, c5, rO G, c7, .sh (kP a b)] = some (.sh (.str "l"), [c0, c1, c2, c3, c4, c5, rO G, c7, .sh (kP a b)]) := by
  have hk := okKey_p a b
  have hx := (idx_t G a b).trans h
  have hks := nks_O G
  generalize rO G = R at *
  generalize kP a b = Z at *
  simp [mNGetD, hks, mVar, mK, hk, hx]
theorem gd_s {G : List Tr} {a b : Int} {j : Nat} {x : Tr} (h : tdx G a b = some j) (hj : G[j]? = some x) {c0 c1 c2 c3 c4 c5 c7 : C} : mNGetD 6 (mVar 8) (mK (.str "l")) [c0, c1, c2, c3, c4, c5, rO G, c7, .sh (kP a b)] = some (.sh (tV x), [c0, c1, c2, c3, c4, c5, rO G, c7, .sh (kP a b)]) := by
  have hk := okKey_p a b
  have hx := (idx_t G a b).trans h
  have hks := nks_O G
  have hv : nVl (rO G) j = some (tV x) := by
    have : (G.map fun e => C.sh (tV e))[j]? = some (.sh (tV x)) := by rw [List.getElem?_map, hj]; rfl
    show (match (G.map fun e => C.sh (tV e))[j]? with
      | some (.sh d) => some d
      | _ => none) = _
    rw [this]
  generalize rO G = R at *
  generalize kP a b = Z at *
  simp [mNGetD, hks, mVar, mK, hk, hx, hv]
theorem sh_m2 {R Z S D : C} {k m : Str} {s W : Str} {P : PyData} (g1 : mNGetD 6 (mVar 8) (mK (.str "l")) [c0, c1, R, S, c4, .sh P, D, .sh (.str s), Z] = some (.sh (.str k), [c0, c1, R, S, c4, .sh P, D, .sh (.str s), Z])) (g2 : mNGet 2 (mPl 5) [c0, c1, R, S, c4, .sh P, D, .sh (.str s), Z] = some (.sh (.str m), [c0, c1, R, S, c4, .sh P, D, .sh (.str s), Z])) (a : addD (.str m) (.str s) = some (.sh (.str W))) : (mOp minSD (mCons (mTm (mNGetD 6 (mVar 8) (mK (.str "l")))) (mCons (mTm (mB (binD .Add) (mTm (mNGet 2 (mPl 5))) (mPl 7))) (mNil)))) [c0, c1, R, S, c4, .sh P, D, .sh (.str s), Z] = some (.sh (.str (minS k W)), [c0, c1, R, S, c4, .sh P, D, .sh (.str s), Z]) := by
  have e0 : binD .Add = addD := rfl
  have e1 : minSD [.str k, .str W] = some (.sh (.str (minS k W))) := rfl
  rw [e0]
  generalize mNGetD 6 (mVar 8) (mK (.str "l")) = G1 at *
  generalize mNGet 2 (mPl 5) = G2 at *
  generalize addD = A at *
  generalize minSD = M at *
  generalize minS k W = U at *
  walk_at "es"
theorem put_n {G : List Tr} {x : Tr} (h : tdx G x.a x.b = none) (hl : G.length < 16777216) {m : EM} {c0 c1 c2 c3 c4 c5 c7 : C} (hm : m [c0, c1, c2, c3, c4, c5, rO G, c7, .sh (kP x.a x.b)] = some (.sh (tV x), [c0, c1, c2, c3, c4, c5, rO G, c7, .sh (kP x.a x.b)])) : mNPut 6 m (mPl 8) [c0, c1, c2, c3, c4, c5, rO G, c7, .sh (kP x.a x.b)] = some (.nx, [c0, c1, c2, c3, c4, c5, rO (G ++ [x]), c7, .sh (kP x.a x.b)]) := by
  have hk := okKey_p x.a x.b
  have hx := (idx_t G x.a x.b).trans h
  have hz : (G.map fun e => C.sh (tV e)).length < sizeLine := by rw [List.length_map, sizeLine_eq]; exact hl
  have e : rO (G ++ [x]) = .ob (.dn (tKs G ++ [kP x.a x.b])) ((G.map fun e => C.sh (tV e)) ++ [.sh (tV x)]) := by
    unfold rO tKs
    rw [List.map_append, List.map_append]
    rfl
  rw [e]
  have e2 : rO G = .ob (.dn (tKs G)) (G.map fun e => C.sh (tV e)) := rfl
  rw [e2] at hm ⊢
  generalize (G.map fun e => C.sh (tV e)) = CS at *
  generalize tKs G = KS at *
  generalize kP x.a x.b = Z at *
  simp [mNPut, hm, mPl, bor, hk, hx, hz]
theorem put_s {G : List Tr} {a b : Int} {j : Nat} {x : Tr} (h : tdx G a b = some j) (hj : G[j]? = some x) (hl : G.length < 16777216) {m : EM} {c0 c1 c2 c3 c4 c5 c7 : C} (hm : m [c0, c1, c2, c3, c4, c5, rO G, c7, .sh (kP a b)] = some (.sh (tV x), [c0, c1, c2, c3, c4, c5, rO G, c7, .sh (kP a b)])) : mNPut 6 m (mPl 8) [c0, c1, c2, c3, c4, c5, rO G, c7, .sh (kP a b)] = some (.nx, [c0, c1, c2, c3, c4, c5, rO G, c7, .sh (kP a b)]) := by
  have hk := okKey_p a b
  have hx := (idx_t G a b).trans h
  have hz : (G.map fun e => C.sh (tV e)).length < sizeLine := by rw [List.length_map, sizeLine_eq]; exact hl
  have hset : (G.map fun e => C.sh (tV e)).set j (.sh (tV x)) = (G.map fun e => C.sh (tV e)) := by
    have hg : (G.map fun e => C.sh (tV e))[j]? = some (.sh (tV x)) := by rw [List.getElem?_map, hj]; rfl
    obtain ⟨hi, he⟩ := List.getElem?_eq_some_iff.mp hg
    rw [← he]
    exact List.set_getElem_self hi
  have e2 : rO G = .ob (.dn (tKs G)) (G.map fun e => C.sh (tV e)) := rfl
  rw [e2] at hm ⊢
  generalize (G.map fun e => C.sh (tV e)) = CS at *
  generalize tKs G = KS at *
  generalize kP a b = Z at *
  simp [mNPut, hm, mPl, bor, hk, hx, hz, hset]
theorem sh_no {c0 c1 c2 c3 c4 c5 c6 c7 c8 : C} (h : mTst (mNIn true 3 (mPl 8)) [c0, c1, c2, c3, c4, c5, c6, c7, c8] = some (false, [c0, c1, c2, c3, c4, c5, c6, c7, c8])) : (mIf (mTst (mNIn true 3 (mPl 8))) (mSeq (mNPut 6 (mOp minSD (mCons (mTm (mNGetD 6 (mVar 8) (mK (.str "l")))) (mCons (mTm (mB (binD .Add) (mTm (mNGet 2 (mPl 5))) (mPl 7))) (mNil)))) (mPl 8)) (mSkip)) (mSkip)) [c0, c1, c2, c3, c4, c5, c6, c7, c8] = some (.nx, [c0, c1, c2, c3, c4, c5, c6, c7, c8]) := by
  generalize mTst (mNIn true 3 (mPl 8)) = T at *
  generalize mNPut _ _ _ = P at *
  simp [mIf, h, mSkip]
theorem sh_yes {c0 c1 c2 c3 c4 c5 c6 c7 c8 d : C} (h : mTst (mNIn true 3 (mPl 8)) [c0, c1, c2, c3, c4, c5, c6, c7, c8] = some (true, [c0, c1, c2, c3, c4, c5, c6, c7, c8])) (hp : (mNPut 6 (mOp minSD (mCons (mTm (mNGetD 6 (mVar 8) (mK (.str "l")))) (mCons (mTm (mB (binD .Add) (mTm (mNGet 2 (mPl 5))) (mPl 7))) (mNil)))) (mPl 8)) [c0, c1, c2, c3, c4, c5, c6, c7, c8] = some (.nx, [c0, c1, c2, c3, c4, c5, d, c7, c8])) : (mIf (mTst (mNIn true 3 (mPl 8))) (mSeq (mNPut 6 (mOp minSD (mCons (mTm (mNGetD 6 (mVar 8) (mK (.str "l")))) (mCons (mTm (mB (binD .Add) (mTm (mNGet 2 (mPl 5))) (mPl 7))) (mNil)))) (mPl 8)) (mSkip)) (mSkip)) [c0, c1, c2, c3, c4, c5, c6, c7, c8] = some (.nx, [c0, c1, c2, c3, c4, c5, d, c7, c8]) := by
  generalize mTst (mNIn true 3 (mPl 8)) = T at *
  generalize mNPut _ _ _ = P at *
  simp [mIf, h, hp, mSkip, mSeq]
/-- one sign of one pair -/
theorem sh_if {z y : Pz} (hz : z.Ok) (hy : y.Ok) {n : Nat} {F L G : List Tr} {i : Nat} {h : Bool} (hL : Lv n L) (hn : n ≤ 9000) (hnd : (L.map tK).Nodup) (k : Mk z y n F L G i h) (hG : G.length < 16777216) {e : Tr} (he : L[i]? = some e) {c4 : C} : (mIf (mTst (mNIn true 3 (mPl 8))) (mSeq (mNPut 6 (mOp minSD (mCons (mTm (mNGetD 6 (mVar 8) (mK (.str "l")))) (mCons (mTm (mB (binD .Add) (mTm (mNGet 2 (mPl 5))) (mPl 7))) (mNil)))) (mPl 8)) (mSkip)) (mSkip)) [.sh z.d, .sh y.d, rF L, sC F, c4, .sh (kP e.a e.b), rO G, .sh (.str (sgT (!h))), .sh (kP (on z e.a (!h)) (on y e.b (!h)))] = some (.nx, [.sh z.d, .sh y.d, rF L, sC F, c4, .sh (kP e.a e.b), rO (addL F G (kidT z y e (!h))), .sh (.str (sgT (!h))), .sh (kP (on z e.a (!h)) (on y e.b (!h)))]) := by
  have hin := in_s (F := F) (a := on z e.a (!h)) (b := on y e.b (!h)) (c0 := .sh z.d) (c1 := .sh y.d) (c2 := rF L) (c4 := c4) (c5 := .sh (kP e.a e.b)) (c6 := rO G) (c7 := .sh (.str (sgT (!h))))
  have hlen := hL.l e (List.mem_of_getElem? he)
  unfold addL
  show _ = some (Fl.nx, ([.sh z.d, .sh y.d, rF L, sC F, c4, .sh (kP e.a e.b), rO (if tIx F (on z e.a (!h)) (on y e.b (!h)) = true then G else addT G (kidT z y e (!h))), .sh (.str (sgT (!h))), .sh (kP (on z e.a (!h)) (on y e.b (!h)))] : Cs))
  cases q : tIx F (on z e.a (!h)) (on y e.b (!h)) with
  | true =>
    rw [q] at hin
    rw [if_pos rfl]
    exact sh_no hin
  | false =>
    rw [q] at hin
    rw [if_neg (by simp)]
    have g2 := get_r hnd he (c0 := .sh z.d) (c1 := .sh y.d) (c3 := sC F) (c4 := c4) (c6 := rO G) (c7 := .sh (.str (sgT (!h)))) (c8 := .sh (kP (on z e.a (!h)) (on y e.b (!h))))
    have a := add_k (w := e.w) (by omega) (!h)
    cases hd : tdx G (on z e.a (!h)) (on y e.b (!h)) with
    | none =>
      have hti : tIx G (kidT z y e (!h)).a (kidT z y e (!h)).b = false := by
        have := tdx_tIx G (on z e.a (!h)) (on y e.b (!h))
        rw [hd] at this
        exact this.symm
      have : addT G (kidT z y e (!h)) = G ++ [kidT z y e (!h)] := by
        unfold addT
        rw [hti]
        simp
      rw [this]
      have g1 := gd_n hd (c0 := .sh z.d) (c1 := .sh y.d) (c2 := rF L) (c3 := sC F) (c4 := c4) (c5 := .sh (kP e.a e.b)) (c7 := .sh (.str (sgT (!h))))
      have mm := sh_m2 g1 g2 a
      rw [minS_l] at mm
      exact sh_yes hin (put_n (x := kidT z y e (!h)) hd hG mm)
    | some j =>
      have hti : tIx G (kidT z y e (!h)).a (kidT z y e (!h)).b = true := by
        have := tdx_tIx G (on z e.a (!h)) (on y e.b (!h))
        rw [hd] at this
        exact this.symm
      have : addT G (kidT z y e (!h)) = G := by
        unfold addT
        rw [hti]
        simp
      rw [this]
      obtain ⟨x, hx, _, _⟩ := tdx_some hd
      have g1 := gd_s hd hx (c0 := .sh z.d) (c1 := .sh y.d) (c2 := rF L) (c3 := sC F) (c4 := c4) (c5 := .sh (kP e.a e.b)) (c7 := .sh (.str (sgT (!h))))
      have mm := sh_m2 g1 g2 a
      rw [minS_old (mk_lt hL k he (List.mem_of_getElem? hx))] at mm
      exact sh_yes hin (put_s hd hx hG mm)
theorem seen_put {F : List Tr} {x : Tr} (h : tdx F x.a x.b = none) (hl : F.length < 16777216) {c0 c1 c2 c4 c5 c6 c7 : C} : mNPut 3 (mK (.bool true)) (mPl 8) [c0, c1, c2, sC F, c4, c5, c6, c7, .sh (kP x.a x.b)] = some (.nx, [c0, c1, c2, sC (F ++ [x]), c4, c5, c6, c7, .sh (kP x.a x.b)]) := by
  have hk := okKey_p x.a x.b
  have hx := (idx_t F x.a x.b).trans h
  have hz : (F.map fun _ => C.sh (.bool true)).length < sizeLine := by rw [List.length_map, sizeLine_eq]; exact hl
  have e : sC (F ++ [x]) = .ob (.dn (tKs F ++ [kP x.a x.b])) ((F.map fun _ => C.sh (.bool true)) ++ [.sh (.bool true)]) := by
    unfold sC tKs
    rw [List.map_append, List.map_append]
    rfl
  rw [e]
  have e2 : sC F = .ob (.dn (tKs F)) (F.map fun _ => C.sh (.bool true)) := rfl
  rw [e2]
  generalize (F.map fun _ => C.sh (.bool true)) = CS at *
  generalize tKs F = KS at *
  generalize kP x.a x.b = Z at *
  simp [mNPut, mK, mPl, bor, hk, hx, hz]
theorem tdx_new {F G : List Tr} {i : Nat} {x : Tr} (hn : ((F ++ G).map tK).Nodup) (hx : G[i]? = some x) : tdx (F ++ G.take i) x.a x.b = none := by
  cases hd : tdx (F ++ G.take i) x.a x.b with
  | none => rfl
  | some j =>
    exfalso
    obtain ⟨u, hu, h1, h2⟩ := tdx_some hd
    obtain ⟨hi, hxe⟩ := List.getElem?_eq_some_iff.mp hx
    have e1 : F ++ G = (F ++ G.take i) ++ (x :: G.drop (i + 1)) := by
      rw [List.append_assoc, ← hxe, ← List.drop_eq_getElem_cons hi, List.take_append_drop]
    rw [e1, List.map_append, List.nodup_append] at hn
    refine hn.2.2 (tK u) (List.mem_map.mpr ⟨u, List.mem_of_getElem? hu, rfl⟩) (tK x) (by simp) ?_
    show (_, _) = (_, _)
    rw [h1, h2]
theorem sh_mv {G : List Tr} {c0 c1 c2 c3 c4 c5 c7 c8 : C} : (mSet [0, 1] 2 (mTake 6)) [c0, c1, c2, c3, c4, c5, rF G, c7, c8] = some (.nx, [c0, c1, rF G, c3, c4, c5, .no, c7, c8]) := rfl
end KW
namespace KW
open PySem PySem.Spec PyProof.Rows L2 L2.M
local macro_rules | `(tactic| walk_at "ev") => `(tactic| simp [semF, shared, after, mSeq, mSkip, mIf, mRet, mRetN, mRetV, mSet, mSetIx, mExpr, mB, mU, mTm, mPl, mK, mVar, mOp, mCons, mNil, bor, bors, mTst, mAndT, mOrT, mNotT, mAndE, mOrE, mNotE, mIfE, mIsi, isiD, mChn, chnL, cmpD, binD, addD, subD, mulD, modD, fdivD, powD, eqD, neD, ltD, leD, gtD, geD, isD, isnD, L2.M.isNon, negD, ixD, Bf.f, Bg.f, lenD, L2.M.intD, maxD, minD, repD, strD, gmaxD, gminD, sumD, sortD, anyD, allD, mCall, frz, fzO, lend, wb, mTup, mLst, fzs, cD, mAsg, bTup, bTps, mApp, tupD, lstD, mRev, revD, ofs_inj, ee_ii, ee_ss, ee_bb, ee_nn, ee_is, ee_si, ee_in, ee_ni, ee_tt, ee_ll, ee_maps, ee_0, ee_1, ee_2, ee_3, at_lit, at_nat, at_m1, at_m2, scD, emD, sizeLine_eq, ixN, sm_lit, mSrc, itemsD, plOf, rng1D, bNm, mSl, mPt, mNoP, slD, mPar, keepT, tmsO, setA, mFlow, zipX, enumX, itemsX, intsOf, ints_all, boolsOf, shaped_lay, lay_int, lay_bool, lay_none, lay_dict, lay_tup, lay_list, lay_ints, sortX_ints, mPlF, mPlI, mRd, mPU, mPB, mFSet, mFNew, mNSet, mPApp, mPSetIx, mPPop, mMeth, mNew, isIns, cellO, mLstN, mAddN, mAppN, semX, mTold, mCallX, xRet, xExpr, xSet, mRaise, mM, isL, isS, mOrV, truD])
local macro_rules | `(tactic| walk_at "es") => `(tactic| simp [semF, shared, after, mSeq, mSkip, mIf, mRet, mRetN, mRetV, mSet, mSetIx, mExpr, mB, mU, mTm, mPl, mK, mVar, mOp, mCons, mNil, bor, bors, mTst, mAndT, mOrT, mNotT, mAndE, mOrE, mNotE, mIfE, mIsi, isiD, mChn, chnL, cmpD, binD, addD, subD, mulD, modD, fdivD, powD, eqD, neD, ltD, leD, gtD, geD, isD, isnD, L2.M.isNon, negD, ixD, Bf.f, Bg.f, lenD, L2.M.intD, maxD, minD, repD, strD, gmaxD, gminD, sumD, sortD, anyD, allD, mCall, frz, fzO, lend, wb, mTup, mLst, fzs, cD, mAsg, bTup, bTps, mApp, tupD, lstD, mRev, revD, ofs_inj, ee_ii, ee_ss, ee_bb, ee_nn, ee_is, ee_si, ee_in, ee_ni, ee_tt, ee_ll, ee_maps, ee_0, ee_1, ee_2, ee_3, at_lit, at_nat, at_m1, at_m2, scD, emD, sizeLine_eq, ixN, sm_lit, mSrc, itemsD, plOf, rng1D, bNm, mSl, mPt, mNoP, slD, mPar, keepT, tmsO, setA, mFlow, zipX, enumX, itemsX, intsOf, ints_all, boolsOf, shaped_lay, lay_int, lay_bool, lay_none, lay_dict, lay_tup, lay_list, lay_ints, sortX_ints, mPlF, mPlI, mRd, mPU, mPB, mFSet, mFNew, mNSet, mPApp, mPSetIx, mPPop, mMeth, mNew, isIns, cellO, mLstN, mAddN, mAppN, semX, mTold, mCallX, xRet, xExpr, xSet, mRaise, mM, isL, isS, mOrV, truD, *])
local macro_rules | `(tactic| walk_at "el") => `(tactic| simp [semF, shared, after, mSeq, mSkip, mIf, mRet, mRetN, mRetV, mSet, mSetIx, mExpr, mB, mU, mTm, mPl, mK, mVar, mOp, mCons, mNil, bor, bors, mTst, mAndT, mOrT, mNotT, mAndE, mOrE, mNotE, mIfE, mIsi, isiD, mChn, chnL, cmpD, binD, addD, subD, mulD, modD, fdivD, powD, eqD, neD, ltD, leD, gtD, geD, isD, isnD, L2.M.isNon, negD, ixD, Bf.f, Bg.f, lenD, L2.M.intD, maxD, minD, repD, strD, gmaxD, gminD, sumD, sortD, anyD, allD, mCall, frz, fzO, lend, wb, mTup, mLst, fzs, cD, mAsg, bTup, bTps, mApp, tupD, lstD, mRev, revD, ofs_inj, ee_ii, ee_ss, ee_bb, ee_nn, ee_is, ee_si, ee_in, ee_ni, ee_tt, ee_ll, ee_maps, ee_0, ee_1, ee_2, ee_3, at_lit, at_nat, at_m1, at_m2, scD, emD, sizeLine_eq, ixN, sm_lit, mSrc, itemsD, plOf, rng1D, bNm, mSl, mPt, mNoP, slD, mPar, keepT, tmsO, setA, mFlow, zipX, enumX, itemsX, intsOf, ints_all, boolsOf, shaped_lay, lay_int, lay_bool, lay_none, lay_dict, lay_tup, lay_list, lay_ints, sortX_ints, mPlF, mPlI, mRd, mPU, mPB, mFSet, mFNew, mNSet, mPApp, mPSetIx, mPPop, mMeth, mNew, isIns, cellO, mLstN, mAddN, mAppN, semX, mTold, mCallX, xRet, xExpr, xSet, mRaise, mM, isL, isS, mOrV, truD, mLc, lcL, sameC, wipeC, restC, mYes, *])
local macro_rules | `(tactic| walk_at "ef") => `(tactic| simp [semF, shared, after, mSeq, mSkip, mIf, mRet, mRetN, mRetV, mSet, mSetIx, mExpr, mB, mU, mTm, mPl, mK, mVar, mOp, mCons, mNil, bor, bors, mTst, mAndT, mOrT, mNotT, mAndE, mOrE, mNotE, mIfE, mIsi, isiD, mChn, chnL, cmpD, binD, addD, subD, mulD, modD, fdivD, powD, eqD, neD, ltD, leD, gtD, geD, isD, isnD, L2.M.isNon, negD, ixD, Bf.f, Bg.f, lenD, L2.M.intD, maxD, minD, repD, strD, gmaxD, gminD, sumD, sortD, anyD, allD, mCall, frz, fzO, lend, wb, mTup, mLst, fzs, cD, mAsg, bTup, bTps, mApp, tupD, lstD, mRev, revD, ofs_inj, ee_ii, ee_ss, ee_bb, ee_nn, ee_is, ee_si, ee_in, ee_ni, ee_tt, ee_ll, ee_maps, ee_0, ee_1, ee_2, ee_3, at_lit, at_nat, at_m1, at_m2, scD, emD, sizeLine_eq, ixN, sm_lit, mSrc, itemsD, plOf, rng1D, bNm, mSl, mPt, mNoP, slD, mPar, keepT, tmsO, setA, mFlow, zipX, enumX, itemsX, intsOf, ints_all, boolsOf, shaped_lay, lay_int, lay_bool, lay_none, lay_dict, lay_tup, lay_list, lay_ints, sortX_ints, mPlF, mPlI, mRd, mPU, mPB, mFSet, mFNew, mNSet, mPApp, mPSetIx, mPPop, mMeth, mNew, isIns, cellO, mLstN, mAddN, mAppN, semX, mTold, mCallX, xRet, xExpr, xSet, mRaise, mM, isL, isS, mOrV, truD, mFor, forL, mLc, lcL, sameC, wipeC, restC, mYes, *])
local macro_rules | `(tactic| walk_at "rg") => `(tactic| (and_intros <;> grind))
local macro_rules | `(tactic| walk_at "nx") => `(tactic| (apply wx_nx; focus (walk_at "ev"; try first | exact ⟨rfl, rfl⟩ | rfl)))
local macro_rules | `(tactic| walk_at "ns") => `(tactic| (apply wx_nx; focus (walk_at "es"; try first | exact ⟨rfl, rfl⟩ | rfl)))
local macro_rules | `(tactic| walk_at "rt") => `(tactic| (apply wx_rt; focus (walk_at "ev"; try first | exact ⟨rfl, rfl⟩ | rfl)))
local macro_rules | `(tactic| walk_at "rs") => `(tactic| (apply wx_rt; focus (walk_at "es"; try first | exact ⟨rfl, rfl⟩ | rfl)))
local macro_rules | `(tactic| walk_at "ed") => `(tactic| simp [semF, shared, after, mSeq, mSkip, mIf, mRet, mRetN, mRetV, mSet, mSetIx, mExpr, mB, mU, mTm, mPl, mK, mVar, mOp, mCons, mNil, bor, bors, mTst, mAndT, mOrT, mNotT, mAndE, mOrE, mNotE, mIfE, mIsi, isiD, mChn, chnL, cmpD, binD, addD, subD, mulD, modD, fdivD, powD, eqD, neD, ltD, leD, gtD, geD, isD, isnD, L2.M.isNon, negD, ixD, Bf.f, Bg.f, lenD, L2.M.intD, maxD, minD, repD, strD, gmaxD, gminD, sumD, sortD, anyD, allD, mCall, frz, fzO, lend, wb, mTup, mLst, fzs, cD, mAsg, bTup, bTps, mApp, tupD, lstD, mRev, revD, ofs_inj, ee_ii, ee_ss, ee_bb, ee_nn, ee_is, ee_si, ee_in, ee_ni, ee_tt, ee_ll, ee_maps, ee_0, ee_1, ee_2, ee_3, at_lit, at_nat, at_m1, at_m2, scD, emD, sizeLine_eq, ixN, sm_lit, mSrc, itemsD, plOf, rng1D, bNm, mSl, mPt, mNoP, slD, mPar, keepT, tmsO, setA, mFlow, zipX, enumX, itemsX, intsOf, ints_all, boolsOf, shaped_lay, lay_int, lay_bool, lay_none, lay_dict, lay_tup, lay_list, lay_ints, sortX_ints, mPlF, mPlI, mRd, mPU, mPB, mFSet, mFNew, mNSet, mPApp, mPSetIx, mPPop, mMeth, mNew, isIns, cellO, mLstN, mAddN, mAppN, semX, mTold, mCallX, xRet, xExpr, xSet, mRaise, mM, isL, isS, mOrV, truD, mDNew, mDIn, mDGet, mDLen, mDPut, kyD, mNNew, mN1, mTake, mFnV, mCallF, mNIn, mNGet, mNPut, mNVals, mNList, nKs, mDGetD, mDList, mNNe, *])
theorem chars_ak : itemsD [.str "ak"] = some [.str (sgT true), .str (sgT false)] := rfl
theorem levT_snoc {z y : Pz} (F A : List Tr) (e : Tr) : levT z y F (A ++ [e]) = stepT z y (levT z y F A) e := by
  unfold levT
  rw [List.foldl_append]
  rfl
/-- one level gone through -/
theorem sh_level {z y : Pz} (hz : z.Ok) (hy : y.Ok) (cz : z.c ≤ 60) (cy : y.c ≤ 60) {n : Nat} {F L : List Tr} (hL : Lv n L) (hn : n ≤ 9000) (hF : TInv z y F) (hsub : ∀ e ∈ L, e ∈ F) (hnd : (L.map tK).Nodup) {c4 c5 c7 c8 : C} {Q : Fl → Cs → Prop} (hq : ∀ G c5 c7 c8, levT z y F L = F ++ G → Mk z y n F L G L.length false → Q .nx [.sh z.d, .sh y.d, rF L, sC F, c4, c5, rO G, c7, c8]) : Wx ((mFor [0, 1] (mNSrc 2) (bNm 5) (mSeq (mFor [0, 1] (mSrc itemsD (mCons (mTm (mK (.str "ak"))) mNil)) (bNm 7) (mSeq (mSet [0, 1] 8 (mTup (mCons (mTm (mCall [true, true, true] g_law_on (mCons (mPl 0) (mCons (mTm (mB ixD (mPl 5) (mTm (mK (.int 0))))) (mCons (mPl 7) (mNil)))))) (mCons (mTm (mCall [true, true, true] g_law_on (mCons (mPl 1) (mCons (mTm (mB ixD (mPl 5) (mTm (mK (.int 1))))) (mCons (mPl 7) (mNil)))))) (mNil))))) (mSeq (mIf (mTst (mNIn true 3 (mPl 8))) (mSeq (mNPut 6 (mOp minSD (mCons (mTm (mNGetD 6 (mVar 8) (mK (.str "l")))) (mCons (mTm (mB (binD .Add) (mTm (mNGet 2 (mPl 5))) (mPl 7))) (mNil)))) (mPl 8)) (mSkip)) (mSkip)) (mSkip)))) (mSkip))) [.sh z.d, .sh y.d, rF L, sC F, c4, c5, rO [], c7, c8]) Q := by
  have hks : (tKs L).length = L.length := by unfold tKs; rw [List.length_map]
  apply wx_for (ds := tKs L) (ws := []) (ε1 := [.sh z.d, .sh y.d, rF L, sC F, c4, c5, rO [], c7, c8]) fun i ε => ∃ (G : List Tr) (c5 c7 c8 : C), levT z y F (L.take i) = F ++ G ∧ Mk z y n F L G i false ∧ ε = [.sh z.d, .sh y.d, rF L, sC F, c4, c5, rO G, c7, c8]
  · exact src_r (.inr rfl) rfl
  · rfl
  · exact ⟨[], _, _, _, by simp [levT], ⟨by simpa using hF, by simp, fun x hx => by cases hx⟩, rfl⟩
  · intro i ε _ j hj
    cases hj
  · rintro i d ε hd ⟨G, c5, c7, c8, hG, k, rfl⟩
    unfold tKs at hd
    rw [List.getElem?_map] at hd
    obtain ⟨e, he, rfl⟩ := Option.map_eq_some_iff.mp hd
    obtain ⟨hi, hie⟩ := List.getElem?_eq_some_iff.mp he
    have heF := hsub e (List.mem_of_getElem? he)
    have k1 := mk_add hz hy hL k he heF
    have k2 := mk_add hz hy hL k1 he heF
    have l0 := tinv_len cz cy k.t
    have l1 := tinv_len cz cy k1.t
    rw [List.length_append] at l0 l1
    refine ⟨[.sh z.d, .sh y.d, rF L, sC F, c4, .sh (kP e.a e.b), rO G, c7, c8], rfl, ?_⟩
    apply wx_seq
    apply wx_for (ds := [.str (sgT true), .str (sgT false)]) (ws := []) (ε1 := [.sh z.d, .sh y.d, rF L, sC F, c4, .sh (kP e.a e.b), rO G, c7, c8]) fun j ε => ∃ c7 c8 : C, ε = [.sh z.d, .sh y.d, rF L, sC F, c4, .sh (kP e.a e.b), rO (if j = 0 then G else if j = 1 then addL F G (kidT z y e true) else addL F (addL F G (kidT z y e true)) (kidT z y e false)), c7, c8]
    · exact src_f (d := .str "ak") rfl chars_ak
    · rfl
    · exact ⟨_, _, rfl⟩
    · intro j ε _ j2 hj
      cases hj
    · rintro j d ε hd2 ⟨c7, c8, rfl⟩
      match j, hd2 with
      | 0, hd2 =>
        cases hd2
        refine ⟨[.sh z.d, .sh y.d, rF L, sC F, c4, .sh (kP e.a e.b), rO G, .sh (.str (sgT true)), c8], rfl, ?_⟩
        apply wx_nx sh_8
        apply wx_nx (sh_if hz hy hL hn hnd k (by omega) he)
        exact wx_skip ⟨_, _, rfl⟩
      | 1, hd2 =>
        cases hd2
        refine ⟨[.sh z.d, .sh y.d, rF L, sC F, c4, .sh (kP e.a e.b), rO (addL F G (kidT z y e true)), .sh (.str (sgT false)), c8], rfl, ?_⟩
        apply wx_nx sh_8
        apply wx_nx (sh_if hz hy hL hn hnd k1 (by omega) he)
        exact wx_skip ⟨_, _, rfl⟩
    · rintro ε ⟨c7, c8, rfl⟩
      refine wx_skip ⟨addL F (addL F G (kidT z y e true)) (kidT z y e false), _, _, _, ?_, k2, rfl⟩
      rw [List.take_succ_eq_append_getElem hi, hie, levT_snoc, hG]
      unfold stepT
      rw [addL_eq, addL_eq]
  · rintro ε ⟨G, c5, c7, c8, hG, k, rfl⟩
    rw [hks] at hG k
    rw [List.take_length] at hG
    exact hq G c5 c7 c8 hG k
def resD : Option (List Bool) → PyData
  | none => .none
  | some w => .str (txW w)
theorem shortest_eq {z y : Pz} (hz : z.Ok) (hy : y.Ok) (cz : z.c ≤ 60) (cy : y.c ≤ 60) : ∃ r, Res z y [st0 z y] [st0 z y] r ∧ g_law_shortest [.sh z.d, .sh y.d] = some (.sh (resD r), [.sh z.d, .sh y.d]) := by
  have main : Rt (g_law_shortest [.sh z.d, .sh y.d]) fun c cs => ∃ r, Res z y [st0 z y] [st0 z y] r ∧ c = .sh (resD r) ∧ cs = [.sh z.d, .sh y.d] := by
    unfold g_law_shortest m_law_shortest
    apply rt_sem rfl
    apply wx_nx sh_1
    apply wx_nx sh_2
    apply wx_seq
    have k0 : TInv z y ([] ++ [st0 z y]) := by
      refine ⟨by simp, ?_⟩
      intro e he
      rw [List.nil_append] at he
      rw [List.mem_singleton.mp he]
      exact ⟨⟨hz.f0, hz.f1⟩, ⟨hy.f0, hy.f1⟩⟩
    have l0 : Lv 0 [st0 z y] := ⟨by simp, fun e he => by rw [List.mem_singleton.mp he]; rfl⟩
    apply wx_while (fun m ε => ∃ (B L : List Tr) (n : Nat) (r c4 c5 c7 c8 : C), m = 3722 - B.length ∧ (r = rO L ∨ r = rF L) ∧ TInv z y (B ++ L) ∧ Lv n L ∧ n ≤ B.length ∧ (∀ q, Res z y (B ++ L) L q → Res z y [st0 z y] [st0 z y] q) ∧ ε = [.sh z.d, .sh y.d, r, sC (B ++ L), c4, c5, .no, c7, c8]) 3722 ⟨[], [st0 z y], 0, _, _, _, _, _, rfl, .inl rfl, k0, l0, Nat.le_refl _, fun q h => h, rfl⟩
    rintro m ε ⟨B, L, n, r, c4, c5, c7, c8, rfl, hr, k, hL, hnB, hres, rfl⟩
    have hBL := tinv_len cz cy k
    rw [List.length_append] at hBL
    refine ⟨_, _, sh_t hr, fun hf => ?_, fun htr => ?_⟩
    · have : L = [] := by
        cases L with
        | nil => rfl
        | cons x L => cases hf
      subst this
      exact wx_rt (c := .sh .none) (ε1 := [.sh z.d, .sh y.d, r, sC (B ++ []), c4, c5, .no, c7, c8]) rfl ⟨none, hres _ (.nil _), rfl, rfl⟩
    · have hne : L ≠ [] := by
        rintro rfl
        cases htr
      have hnd : (L.map tK).Nodup := by
        have := k.nd
        rw [List.map_append, List.nodup_append] at this
        exact this.2.1
      apply wx_nx (sh_4 hr hnd (fun e he => by rw [hL.l e he]; omega) (by omega))
      cases hfd : L.find? (misT z y) with
      | some e =>
        obtain ⟨f1, f2⟩ := fnd_some hL hfd
        exact wx_rt (sh_5y f1 f2) ⟨some (e.w ++ [false]), hres _ (.hit _ _ e hfd), rfl, rfl⟩
      | none =>
        rw [fnd_none hfd]
        apply wx_nx sh_5n
        apply wx_nx sh_6
        apply wx_seq
        refine sh_level hz hy cz cy hL (by omega) k (fun e he => List.mem_append_right _ he) hnd fun G c5 c7 c8 hG km => ?_
        apply wx_seq
        have hGl := tinv_len cz cy km.t
        rw [List.length_append, List.length_append] at hGl
        apply wx_for (ds := tKs G) (ws := []) (ε1 := [.sh z.d, .sh y.d, rF L, sC (B ++ L), .ls [], c5, rF G, c7, c8]) fun i ε => ∃ c8 : C, ε = [.sh z.d, .sh y.d, rF L, sC ((B ++ L) ++ G.take i), .ls [], c5, rF G, c7, c8]
        · exact src_r (.inl rfl) rfl
        · rfl
        · exact ⟨c8, by rw [List.take_zero, List.append_nil]⟩
        · intro i ε _ j hj
          cases hj
        · rintro i d ε hd ⟨c8, rfl⟩
          unfold tKs at hd
          rw [List.getElem?_map] at hd
          obtain ⟨x, hx, rfl⟩ := Option.map_eq_some_iff.mp hd
          obtain ⟨hi, hxe⟩ := List.getElem?_eq_some_iff.mp hx
          refine ⟨[.sh z.d, .sh y.d, rF L, sC ((B ++ L) ++ G.take i), .ls [], c5, rF G, c7, .sh (kP x.a x.b)], rfl, ?_⟩
          apply wx_nx (seen_put (x := x) (tdx_new km.t.nd hx) (by
            rw [List.length_append, List.length_append, List.length_take]
            omega))
          refine wx_skip ⟨.sh (kP x.a x.b), ?_⟩
          rw [List.take_succ_eq_append_getElem hi, hxe, ← List.append_assoc]
        · rintro ε ⟨c8, rfl⟩
          have hks : (tKs G).length = G.length := by unfold tKs; rw [List.length_map]
          rw [hks, List.take_length]
          apply wx_nx sh_mv
          have hpos : 0 < L.length := List.length_pos_iff.mpr hne
          refine wx_skip ⟨3722 - (B ++ L).length, by rw [List.length_append]; omega, B ++ L, G, n + 1, _, _, _, _, _, rfl, .inr rfl, km.t, mk_lv hL km, by rw [List.length_append]; omega, fun q h => hres q (.next _ _ _ hfd hne ?_), rfl⟩
          rw [hG, List.drop_left]
          exact h
  obtain ⟨_, _, e, r, h, rfl, rfl⟩ := main
  exact ⟨r, h, e⟩
theorem parted_res {z y : Pz} (hz : z.Ok) (hy : y.Ok) (cz : z.c ≤ 60) (cy : y.c ≤ 60) {r : Option (List Bool)} (h : Res z y [st0 z y] [st0 z y] r) : ∃ ε, m_parted_by [.sh z.d, .sh y.d, .no, .no, .no, .no, .no, .no, .no, .no, .no] = some (.rt (.sh (resD r)), ε) ∧ after [true, true] [.sh z.d, .sh y.d] ε = [.sh z.d, .sh y.d] := by
  obtain ⟨R, hR, ε, e, ha⟩ := parted_wx hz hy cz cy (LInv z y) (fun t F k => k.b) (linv0 z y) (fun t F e k he hm => linv_step k he hm)
  refine ⟨ε, ?_, ha⟩
  rw [e]
  rcases hR with ⟨rfl, F, k⟩ | ⟨t, F, x, T, k, hx, hm, hT, rfl⟩
  · rw [h.det (linv_none k)]
    rfl
  · rw [h.det (linv_hit k hx hm), txW_of hT]
    rfl
end KW
namespace KW
open PySem PySem.Spec PyProof.Rows L2 L2.M
local macro_rules | `(tactic| walk_at "ev") => `(tactic| simp [semF, shared, after, mSeq, mSkip, mIf, mRet, mRetN, mRetV, mSet, mSetIx, mExpr, mB, mU, mTm, mPl, mK, mVar, mOp, mCons, mNil, bor, bors, mTst, mAndT, mOrT, mNotT, mAndE, mOrE, mNotE, mIfE, mIsi, isiD, mChn, chnL, cmpD, binD, addD, subD, mulD, modD, fdivD, powD, eqD, neD, ltD, leD, gtD, geD, isD, isnD, L2.M.isNon, negD, ixD, Bf.f, Bg.f, lenD, L2.M.intD, maxD, minD, repD, strD, gmaxD, gminD, sumD, sortD, anyD, allD, mCall, frz, fzO, lend, wb, mTup, mLst, fzs, cD, mAsg, bTup, bTps, mApp, tupD, lstD, mRev, revD, ofs_inj, ee_ii, ee_ss, ee_bb, ee_nn, ee_is, ee_si, ee_in, ee_ni, ee_tt, ee_ll, ee_maps, ee_0, ee_1, ee_2, ee_3, at_lit, at_nat, at_m1, at_m2, scD, emD, sizeLine_eq, ixN, sm_lit, mSrc, itemsD, plOf, rng1D, bNm, mSl, mPt, mNoP, slD, mPar, keepT, tmsO, setA, mFlow, zipX, enumX, itemsX, intsOf, ints_all, boolsOf, shaped_lay, lay_int, lay_bool, lay_none, lay_dict, lay_tup, lay_list, lay_ints, sortX_ints, mPlF, mPlI, mRd, mPU, mPB, mFSet, mFNew, mNSet, mPApp, mPSetIx, mPPop, mMeth, mNew, isIns, cellO, mLstN, mAddN, mAppN, semX, mTold, mCallX, xRet, xExpr, xSet, mRaise, mM, isL, isS, mOrV, truD])
local macro_rules | `(tactic| walk_at "es") => `(tactic| simp [semF, shared, after, mSeq, mSkip, mIf, mRet, mRetN, mRetV, mSet, mSetIx, mExpr, mB, mU, mTm, mPl, mK, mVar, mOp, mCons, mNil, bor, bors, mTst, mAndT, mOrT, mNotT, mAndE, mOrE, mNotE, mIfE, mIsi, isiD, mChn, chnL, cmpD, binD, addD, subD, mulD, modD, fdivD, powD, eqD, neD, ltD, leD, gtD, geD, isD, isnD, L2.M.isNon, negD, ixD, Bf.f, Bg.f, lenD, L2.M.intD, maxD, minD, repD, strD, gmaxD, gminD, sumD, sortD, anyD, allD, mCall, frz, fzO, lend, wb, mTup, mLst, fzs, cD, mAsg, bTup, bTps, mApp, tupD, lstD, mRev, revD, ofs_inj, ee_ii, ee_ss, ee_bb, ee_nn, ee_is, ee_si, ee_in, ee_ni, ee_tt, ee_ll, ee_maps, ee_0, ee_1, ee_2, ee_3, at_lit, at_nat, at_m1, at_m2, scD, emD, sizeLine_eq, ixN, sm_lit, mSrc, itemsD, plOf, rng1D, bNm, mSl, mPt, mNoP, slD, mPar, keepT, tmsO, setA, mFlow, zipX, enumX, itemsX, intsOf, ints_all, boolsOf, shaped_lay, lay_int, lay_bool, lay_none, lay_dict, lay_tup, lay_list, lay_ints, sortX_ints, mPlF, mPlI, mRd, mPU, mPB, mFSet, mFNew, mNSet, mPApp, mPSetIx, mPPop, mMeth, mNew, isIns, cellO, mLstN, mAddN, mAppN, semX, mTold, mCallX, xRet, xExpr, xSet, mRaise, mM, isL, isS, mOrV, truD, *])
local macro_rules | `(tactic| walk_at "el") => `(tactic| simp [semF, shared, after, mSeq, mSkip, mIf, mRet, mRetN, mRetV, mSet, mSetIx, mExpr, mB, mU, mTm, mPl, mK, mVar, mOp, mCons, mNil, bor, bors, mTst, mAndT, mOrT, mNotT, mAndE, mOrE, mNotE, mIfE, mIsi, isiD, mChn, chnL, cmpD, binD, addD, subD, mulD, modD, fdivD, powD, eqD, neD, ltD, leD, gtD, geD, isD, isnD, L2.M.isNon, negD, ixD, Bf.f, Bg.f, lenD, L2.M.intD, maxD, minD, repD, strD, gmaxD, gminD, sumD, sortD, anyD, allD, mCall, frz, fzO, lend, wb, mTup, mLst, fzs, cD, mAsg, bTup, bTps, mApp, tupD, lstD, mRev, revD, ofs_inj, ee_ii, ee_ss, ee_bb, ee_nn, ee_is, ee_si, ee_in, ee_ni, ee_tt, ee_ll, ee_maps, ee_0, ee_1, ee_2, ee_3, at_lit, at_nat, at_m1, at_m2, scD, emD, sizeLine_eq, ixN, sm_lit, mSrc, itemsD, plOf, rng1D, bNm, mSl, mPt, mNoP, slD, mPar, keepT, tmsO, setA, mFlow, zipX, enumX, itemsX, intsOf, ints_all, boolsOf, shaped_lay, lay_int, lay_bool, lay_none, lay_dict, lay_tup, lay_list, lay_ints, sortX_ints, mPlF, mPlI, mRd, mPU, mPB, mFSet, mFNew, mNSet, mPApp, mPSetIx, mPPop, mMeth, mNew, isIns, cellO, mLstN, mAddN, mAppN, semX, mTold, mCallX, xRet, xExpr, xSet, mRaise, mM, isL, isS, mOrV, truD, mLc, lcL, sameC, wipeC, restC, mYes, *])
local macro_rules | `(tactic| walk_at "ef") => `(tactic| simp [semF, shared, after, mSeq, mSkip, mIf, mRet, mRetN, mRetV, mSet, mSetIx, mExpr, mB, mU, mTm, mPl, mK, mVar, mOp, mCons, mNil, bor, bors, mTst, mAndT, mOrT, mNotT, mAndE, mOrE, mNotE, mIfE, mIsi, isiD, mChn, chnL, cmpD, binD, addD, subD, mulD, modD, fdivD, powD, eqD, neD, ltD, leD, gtD, geD, isD, isnD, L2.M.isNon, negD, ixD, Bf.f, Bg.f, lenD, L2.M.intD, maxD, minD, repD, strD, gmaxD, gminD, sumD, sortD, anyD, allD, mCall, frz, fzO, lend, wb, mTup, mLst, fzs, cD, mAsg, bTup, bTps, mApp, tupD, lstD, mRev, revD, ofs_inj, ee_ii, ee_ss, ee_bb, ee_nn, ee_is, ee_si, ee_in, ee_ni, ee_tt, ee_ll, ee_maps, ee_0, ee_1, ee_2, ee_3, at_lit, at_nat, at_m1, at_m2, scD, emD, sizeLine_eq, ixN, sm_lit, mSrc, itemsD, plOf, rng1D, bNm, mSl, mPt, mNoP, slD, mPar, keepT, tmsO, setA, mFlow, zipX, enumX, itemsX, intsOf, ints_all, boolsOf, shaped_lay, lay_int, lay_bool, lay_none, lay_dict, lay_tup, lay_list, lay_ints, sortX_ints, mPlF, mPlI, mRd, mPU, mPB, mFSet, mFNew, mNSet, mPApp, mPSetIx, mPPop, mMeth, mNew, isIns, cellO, mLstN, mAddN, mAppN, semX, mTold, mCallX, xRet, xExpr, xSet, mRaise, mM, isL, isS, mOrV, truD, mFor, forL, mLc, lcL, sameC, wipeC, restC, mYes, *])
local macro_rules | `(tactic| walk_at "rg") => `(tactic| (and_intros <;> grind))
local macro_rules | `(tactic| walk_at "nx") => `(tactic| (apply wx_nx; focus (walk_at "ev"; try first | exact ⟨rfl, rfl⟩ | rfl)))
local macro_rules | `(tactic| walk_at "ns") => `(tactic| (apply wx_nx; focus (walk_at "es"; try first | exact ⟨rfl, rfl⟩ | rfl)))
local macro_rules | `(tactic| walk_at "rt") => `(tactic| (apply wx_rt; focus (walk_at "ev"; try first | exact ⟨rfl, rfl⟩ | rfl)))
local macro_rules | `(tactic| walk_at "rs") => `(tactic| (apply wx_rt; focus (walk_at "es"; try first | exact ⟨rfl, rfl⟩ | rfl)))
local macro_rules | `(tactic| walk_at "ed") => `(tactic| simp [semF, shared, after, mSeq, mSkip, mIf, mRet, mRetN, mRetV, mSet, mSetIx, mExpr, mB, mU, mTm, mPl, mK, mVar, mOp, mCons, mNil, bor, bors, mTst, mAndT, mOrT, mNotT, mAndE, mOrE, mNotE, mIfE, mIsi, isiD, mChn, chnL, cmpD, binD, addD, subD, mulD, modD, fdivD, powD, eqD, neD, ltD, leD, gtD, geD, isD, isnD, L2.M.isNon, negD, ixD, Bf.f, Bg.f, lenD, L2.M.intD, maxD, minD, repD, strD, gmaxD, gminD, sumD, sortD, anyD, allD, mCall, frz, fzO, lend, wb, mTup, mLst, fzs, cD, mAsg, bTup, bTps, mApp, tupD, lstD, mRev, revD, ofs_inj, ee_ii, ee_ss, ee_bb, ee_nn, ee_is, ee_si, ee_in, ee_ni, ee_tt, ee_ll, ee_maps, ee_0, ee_1, ee_2, ee_3, at_lit, at_nat, at_m1, at_m2, scD, emD, sizeLine_eq, ixN, sm_lit, mSrc, itemsD, plOf, rng1D, bNm, mSl, mPt, mNoP, slD, mPar, keepT, tmsO, setA, mFlow, zipX, enumX, itemsX, intsOf, ints_all, boolsOf, shaped_lay, lay_int, lay_bool, lay_none, lay_dict, lay_tup, lay_list, lay_ints, sortX_ints, mPlF, mPlI, mRd, mPU, mPB, mFSet, mFNew, mNSet, mPApp, mPSetIx, mPPop, mMeth, mNew, isIns, cellO, mLstN, mAddN, mAppN, semX, mTold, mCallX, xRet, xExpr, xSet, mRaise, mM, isL, isS, mOrV, truD, mDNew, mDIn, mDGet, mDLen, mDPut, kyD, mNNew, mN1, mTake, mFnV, mCallF, mNIn, mNGet, mNPut, mNVals, mNList, nKs, mDGetD, mDList, mNNe, *])
theorem sgT_c (g : Bool) : (PyData.str ⟨#[sgn g]⟩) = .str (sgT g) := by cases g <;> rfl
theorem wd_a {z : Pz} {T fs c4 : C} {u : Int} : (mIf (mTst (mB (cmpD .Eq) (mPl 5) (mTm (mK (.str "a"))))) (mSeq (mSet [0, 1] 2 (mCall [true, true] g_put_in (mCons (mPl 0) (mCons (mPl 2) (mNil))))) (mSkip)) (mSeq (mIf (mTst (mB (cmpD .GtE) (mPl 2) (mTm (mB ixD (mPl 0) (mTm (mK (.int 1))))))) (mSeq (mSet [0, 1] 2 (mB (binD .Sub) (mPl 2) (mTm (mB ixD (mPl 0) (mTm (mK (.int 1))))))) (mSkip)) (mSeq (mApp 3 (mVar 4)) (mSkip))) (mSkip))) [.sh z.d, T, .sh (.int u), fs, c4, .sh (.str "a")] = some (.nx, [.sh z.d, T, .sh (.int (pin z u)), fs, c4, .sh (.str "a")]) := by
  have e := put_in_eq z u
  generalize pin z u = v at *
  generalize z.d = Z at *
  generalize g_put_in = G at *
  walk_at "es"
theorem wd_k {p r q f u : Int} (h : r ≤ u) {T fs c4 : C} : (mIf (mTst (mB (cmpD .Eq) (mPl 5) (mTm (mK (.str "a"))))) (mSeq (mSet [0, 1] 2 (mCall [true, true] g_put_in (mCons (mPl 0) (mCons (mPl 2) (mNil))))) (mSkip)) (mSeq (mIf (mTst (mB (cmpD .GtE) (mPl 2) (mTm (mB ixD (mPl 0) (mTm (mK (.int 1))))))) (mSeq (mSet [0, 1] 2 (mB (binD .Sub) (mPl 2) (mTm (mB ixD (mPl 0) (mTm (mK (.int 1))))))) (mSkip)) (mSeq (mApp 3 (mVar 4)) (mSkip))) (mSkip))) [.sh (.tuple [.int p, .int r, .int q, .int f]), T, .sh (.int u), fs, c4, .sh (.str "k")] = some (.nx, [.sh (.tuple [.int p, .int r, .int q, .int f]), T, .sh (.int (u - r)), fs, c4, .sh (.str "k")]) := by
  generalize g_put_in = G at *
  walk_at "es"
theorem wd_n {p r q f u i : Int} (h : ¬ r ≤ u) {T : C} {L : List PyData} (hl : L.length < 16777216) : (mIf (mTst (mB (cmpD .Eq) (mPl 5) (mTm (mK (.str "a"))))) (mSeq (mSet [0, 1] 2 (mCall [true, true] g_put_in (mCons (mPl 0) (mCons (mPl 2) (mNil))))) (mSkip)) (mSeq (mIf (mTst (mB (cmpD .GtE) (mPl 2) (mTm (mB ixD (mPl 0) (mTm (mK (.int 1))))))) (mSeq (mSet [0, 1] 2 (mB (binD .Sub) (mPl 2) (mTm (mB ixD (mPl 0) (mTm (mK (.int 1))))))) (mSkip)) (mSeq (mApp 3 (mVar 4)) (mSkip))) (mSkip))) [.sh (.tuple [.int p, .int r, .int q, .int f]), T, .sh (.int u), .ls L, .sh (.int i), .sh (.str "k")] = some (.nx, [.sh (.tuple [.int p, .int r, .int q, .int f]), T, .sh (.int u), .ls (L ++ [.int i]), .sh (.int i), .sh (.str "k")]) := by
  generalize g_put_in = G at *
  walk_at "es"
theorem wd_step {z : Pz} {T : C} {u i : Int} {L : List Int} (hl : L.length < 16777216) (g : Bool) : (mIf (mTst (mB (cmpD .Eq) (mPl 5) (mTm (mK (.str "a"))))) (mSeq (mSet [0, 1] 2 (mCall [true, true] g_put_in (mCons (mPl 0) (mCons (mPl 2) (mNil))))) (mSkip)) (mSeq (mIf (mTst (mB (cmpD .GtE) (mPl 2) (mTm (mB ixD (mPl 0) (mTm (mK (.int 1))))))) (mSeq (mSet [0, 1] 2 (mB (binD .Sub) (mPl 2) (mTm (mB ixD (mPl 0) (mTm (mK (.int 1))))))) (mSkip)) (mSeq (mApp 3 (mVar 4)) (mSkip))) (mSkip))) [.sh z.d, T, .sh (.int u), .ls (L.map .int), .sh (.int i), .sh (.str (sgT g))] = some (.nx, [.sh z.d, T, .sh (.int (on z u g)), .ls ((L ++ if g = false ∧ u < z.r then [i] else []).map .int), .sh (.int i), .sh (.str (sgT g))]) := by
  cases g with
  | true =>
    rw [if_neg (by simp), List.append_nil]
    exact wd_a
  | false =>
    by_cases q : z.r ≤ u
    · rw [if_neg (by omega), List.append_nil]
      have : on z u false = u - z.r := by unfold on; simp [q]
      rw [this]
      exact wd_k q
    · rw [if_pos ⟨rfl, by omega⟩, List.map_append]
      have : on z u false = u := by unfold on; simp [q]
      rw [this]
      exact wd_n q (by simpa using hl)
theorem walked_eq {z : Pz} {T : Str} {bs : List Bool} (h : cpsL T = bs.map sgn) (hl : bs.length ≤ 100000) : g_walked [.sh z.d, .sh (.str T)] = some (.sh (.tuple [.int (en z z.f bs), .list ((unp z 0 z.f bs).map .int)]), [.sh z.d, .sh (.str T)]) := by
  apply rt_eq
  unfold g_walked m_walked
  apply rt_sem rfl
  apply wx_nx (ε1 := [.sh z.d, .sh (.str T), .sh (.int z.f), .no, .no, .no])
  · rfl
  apply wx_nx (ε1 := [.sh z.d, .sh (.str T), .sh (.int z.f), .ls [], .no, .no])
  · rfl
  apply wx_seq
  apply wx_for (ds := enumFrom 0 (T.cps.toList.map chD0)) (ws := []) (ε1 := [.sh z.d, .sh (.str T), .sh (.int z.f), .ls [], .no, .no]) fun i ε => ∃ c4 c5 : C, ε = [.sh z.d, .sh (.str T), .sh (.int (en z z.f (bs.take i))), .ls ((unp z 0 z.f (bs.take i)).map .int), c4, c5]
  · rfl
  · rfl
  · exact ⟨_, _, rfl⟩
  · intro i ε _ j hj
    cases hj
  · rintro i d ε hd ⟨c4, c5, rfl⟩
    have hc : T.cps.toList = bs.map sgn := h
    rw [enum_get, hc, List.map_map, List.getElem?_map] at hd
    obtain ⟨x, hx, rfl⟩ := Option.map_eq_some_iff.mp hd
    obtain ⟨g, hg, rfl⟩ := Option.map_eq_some_iff.mp hx
    obtain ⟨hi, rfl⟩ := List.getElem?_eq_some_iff.mp hg
    have hul := unp_len z (bs.take i) 0 z.f
    rw [List.length_take] at hul
    have e1 : en z z.f (bs.take (i + 1)) = on z (en z z.f (bs.take i)) bs[i] := by
      rw [List.take_succ_eq_append_getElem hi]
      show List.foldl _ _ _ = _
      rw [List.foldl_append]
      rfl
    have e2 : unp z 0 z.f (bs.take (i + 1)) = unp z 0 z.f (bs.take i) ++ if bs[i] = false ∧ en z z.f (bs.take i) < z.r then [((0 + i : Nat) : Int)] else [] := by
      rw [List.take_succ_eq_append_getElem hi, unp_app, unp, unp, List.append_nil, List.length_take]
      have : (0 : Int) + ((min i bs.length : Nat) : Int) = ((0 + i : Nat) : Int) := by omega
      rw [this]
    rw [e1, e2]
    have ec : (chD0 ∘ sgn) bs[i] = .str (sgT bs[i]) := sgT_c bs[i]
    rw [ec]
    clear e1 e2 ec hd hx hg hc h
    generalize en z z.f (bs.take i) = u at *
    generalize bs[i] = g at *
    generalize unp z 0 z.f (bs.take i) = L at *
    refine ⟨[.sh z.d, .sh (.str T), .sh (.int u), .ls (L.map .int), .sh (.int ((0 + i : Nat) : Int)), .sh (.str (sgT g))], rfl, ?_⟩
    apply wx_nx (wd_step (by omega) g)
    exact wx_skip ⟨_, _, rfl⟩
  · rintro ε ⟨c4, c5, rfl⟩
    have hle : bs.take (enumFrom 0 (T.cps.toList.map chD0)).length = bs := by
      apply List.take_of_length_le
      rw [enum_len, List.length_map]
      have : T.cps.toList = bs.map sgn := h
      rw [this, List.length_map]
      exact Nat.le_refl _
    rw [hle]
    exact wx_rt (c := .sh (.tuple [.int (en z z.f bs), .list ((unp z 0 z.f bs).map .int)])) (ε1 := [.sh z.d, .sh (.str T), .sh (.int (en z z.f bs)), .sh (.list ((unp z 0 z.f bs).map .int)), c4, c5]) rfl ⟨rfl, rfl⟩
end KW
namespace KW
open PySem PySem.Spec PyProof.Rows L2 L2.M
local macro_rules | `(tactic| walk_at "ev") => `(tactic| simp [semF, shared, after, mSeq, mSkip, mIf, mRet, mRetN, mRetV, mSet, mSetIx, mExpr, mB, mU, mTm, mPl, mK, mVar, mOp, mCons, mNil, bor, bors, mTst, mAndT, mOrT, mNotT, mAndE, mOrE, mNotE, mIfE, mIsi, isiD, mChn, chnL, cmpD, binD, addD, subD, mulD, modD, fdivD, powD, eqD, neD, ltD, leD, gtD, geD, isD, isnD, L2.M.isNon, negD, ixD, Bf.f, Bg.f, lenD, L2.M.intD, maxD, minD, repD, strD, gmaxD, gminD, sumD, sortD, anyD, allD, mCall, frz, fzO, lend, wb, mTup, mLst, fzs, cD, mAsg, bTup, bTps, mApp, tupD, lstD, mRev, revD, ofs_inj, ee_ii, ee_ss, ee_bb, ee_nn, ee_is, ee_si, ee_in, ee_ni, ee_tt, ee_ll, ee_maps, ee_0, ee_1, ee_2, ee_3, at_lit, at_nat, at_m1, at_m2, scD, emD, sizeLine_eq, ixN, sm_lit, mSrc, itemsD, plOf, rng1D, bNm, mSl, mPt, mNoP, slD, mPar, keepT, tmsO, setA, mFlow, zipX, enumX, itemsX, intsOf, ints_all, boolsOf, shaped_lay, lay_int, lay_bool, lay_none, lay_dict, lay_tup, lay_list, lay_ints, sortX_ints, mPlF, mPlI, mRd, mPU, mPB, mFSet, mFNew, mNSet, mPApp, mPSetIx, mPPop, mMeth, mNew, isIns, cellO, mLstN, mAddN, mAppN, semX, mTold, mCallX, xRet, xExpr, xSet, mRaise, mM, isL, isS, mOrV, truD])
local macro_rules | `(tactic| walk_at "es") => `(tactic| simp [semF, shared, after, mSeq, mSkip, mIf, mRet, mRetN, mRetV, mSet, mSetIx, mExpr, mB, mU, mTm, mPl, mK, mVar, mOp, mCons, mNil, bor, bors, mTst, mAndT, mOrT, mNotT, mAndE, mOrE, mNotE, mIfE, mIsi, isiD, mChn, chnL, cmpD, binD, addD, subD, mulD, modD, fdivD, powD, eqD, neD, ltD, leD, gtD, geD, isD, isnD, L2.M.isNon, negD, ixD, Bf.f, Bg.f, lenD, L2.M.intD, maxD, minD, repD, strD, gmaxD, gminD, sumD, sortD, anyD, allD, mCall, frz, fzO, lend, wb, mTup, mLst, fzs, cD, mAsg, bTup, bTps, mApp, tupD, lstD, mRev, revD, ofs_inj, ee_ii, ee_ss, ee_bb, ee_nn, ee_is, ee_si, ee_in, ee_ni, ee_tt, ee_ll, ee_maps, ee_0, ee_1, ee_2, ee_3, at_lit, at_nat, at_m1, at_m2, scD, emD, sizeLine_eq, ixN, sm_lit, mSrc, itemsD, plOf, rng1D, bNm, mSl, mPt, mNoP, slD, mPar, keepT, tmsO, setA, mFlow, zipX, enumX, itemsX, intsOf, ints_all, boolsOf, shaped_lay, lay_int, lay_bool, lay_none, lay_dict, lay_tup, lay_list, lay_ints, sortX_ints, mPlF, mPlI, mRd, mPU, mPB, mFSet, mFNew, mNSet, mPApp, mPSetIx, mPPop, mMeth, mNew, isIns, cellO, mLstN, mAddN, mAppN, semX, mTold, mCallX, xRet, xExpr, xSet, mRaise, mM, isL, isS, mOrV, truD, *])
local macro_rules | `(tactic| walk_at "el") => `(tactic| simp [semF, shared, after, mSeq, mSkip, mIf, mRet, mRetN, mRetV, mSet, mSetIx, mExpr, mB, mU, mTm, mPl, mK, mVar, mOp, mCons, mNil, bor, bors, mTst, mAndT, mOrT, mNotT, mAndE, mOrE, mNotE, mIfE, mIsi, isiD, mChn, chnL, cmpD, binD, addD, subD, mulD, modD, fdivD, powD, eqD, neD, ltD, leD, gtD, geD, isD, isnD, L2.M.isNon, negD, ixD, Bf.f, Bg.f, lenD, L2.M.intD, maxD, minD, repD, strD, gmaxD, gminD, sumD, sortD, anyD, allD, mCall, frz, fzO, lend, wb, mTup, mLst, fzs, cD, mAsg, bTup, bTps, mApp, tupD, lstD, mRev, revD, ofs_inj, ee_ii, ee_ss, ee_bb, ee_nn, ee_is, ee_si, ee_in, ee_ni, ee_tt, ee_ll, ee_maps, ee_0, ee_1, ee_2, ee_3, at_lit, at_nat, at_m1, at_m2, scD, emD, sizeLine_eq, ixN, sm_lit, mSrc, itemsD, plOf, rng1D, bNm, mSl, mPt, mNoP, slD, mPar, keepT, tmsO, setA, mFlow, zipX, enumX, itemsX, intsOf, ints_all, boolsOf, shaped_lay, lay_int, lay_bool, lay_none, lay_dict, lay_tup, lay_list, lay_ints, sortX_ints, mPlF, mPlI, mRd, mPU, mPB, mFSet, mFNew, mNSet, mPApp, mPSetIx, mPPop, mMeth, mNew, isIns, cellO, mLstN, mAddN, mAppN, semX, mTold, mCallX, xRet, xExpr, xSet, mRaise, mM, isL, isS, mOrV, truD, mLc, lcL, sameC, wipeC, restC, mYes, *])
local macro_rules | `(tactic| walk_at "ef") => `(tactic| simp [semF, shared, after, mSeq, mSkip, mIf, mRet, mRetN, mRetV, mSet, mSetIx, mExpr, mB, mU, mTm, mPl, mK, mVar, mOp, mCons, mNil, bor, bors, mTst, mAndT, mOrT, mNotT, mAndE, mOrE, mNotE, mIfE, mIsi, isiD, mChn, chnL, cmpD, binD, addD, subD, mulD, modD, fdivD, powD, eqD, neD, ltD, leD, gtD, geD, isD, isnD, L2.M.isNon, negD, ixD, Bf.f, Bg.f, lenD, L2.M.intD, maxD, minD, repD, strD, gmaxD, gminD, sumD, sortD, anyD, allD, mCall, frz, fzO, lend, wb, mTup, mLst, fzs, cD, mAsg, bTup, bTps, mApp, tupD, lstD, mRev, revD, ofs_inj, ee_ii, ee_ss, ee_bb, ee_nn, ee_is, ee_si, ee_in, ee_ni, ee_tt, ee_ll, ee_maps, ee_0, ee_1, ee_2, ee_3, at_lit, at_nat, at_m1, at_m2, scD, emD, sizeLine_eq, ixN, sm_lit, mSrc, itemsD, plOf, rng1D, bNm, mSl, mPt, mNoP, slD, mPar, keepT, tmsO, setA, mFlow, zipX, enumX, itemsX, intsOf, ints_all, boolsOf, shaped_lay, lay_int, lay_bool, lay_none, lay_dict, lay_tup, lay_list, lay_ints, sortX_ints, mPlF, mPlI, mRd, mPU, mPB, mFSet, mFNew, mNSet, mPApp, mPSetIx, mPPop, mMeth, mNew, isIns, cellO, mLstN, mAddN, mAppN, semX, mTold, mCallX, xRet, xExpr, xSet, mRaise, mM, isL, isS, mOrV, truD, mFor, forL, mLc, lcL, sameC, wipeC, restC, mYes, *])
local macro_rules | `(tactic| walk_at "rg") => `(tactic| (and_intros <;> grind))
local macro_rules | `(tactic| walk_at "nx") => `(tactic| (apply wx_nx; focus (walk_at "ev"; try first | exact ⟨rfl, rfl⟩ | rfl)))
local macro_rules | `(tactic| walk_at "ns") => `(tactic| (apply wx_nx; focus (walk_at "es"; try first | exact ⟨rfl, rfl⟩ | rfl)))
local macro_rules | `(tactic| walk_at "rt") => `(tactic| (apply wx_rt; focus (walk_at "ev"; try first | exact ⟨rfl, rfl⟩ | rfl)))
local macro_rules | `(tactic| walk_at "rs") => `(tactic| (apply wx_rt; focus (walk_at "es"; try first | exact ⟨rfl, rfl⟩ | rfl)))
local macro_rules | `(tactic| walk_at "ed") => `(tactic| simp [semF, shared, after, mSeq, mSkip, mIf, mRet, mRetN, mRetV, mSet, mSetIx, mExpr, mB, mU, mTm, mPl, mK, mVar, mOp, mCons, mNil, bor, bors, mTst, mAndT, mOrT, mNotT, mAndE, mOrE, mNotE, mIfE, mIsi, isiD, mChn, chnL, cmpD, binD, addD, subD, mulD, modD, fdivD, powD, eqD, neD, ltD, leD, gtD, geD, isD, isnD, L2.M.isNon, negD, ixD, Bf.f, Bg.f, lenD, L2.M.intD, maxD, minD, repD, strD, gmaxD, gminD, sumD, sortD, anyD, allD, mCall, frz, fzO, lend, wb, mTup, mLst, fzs, cD, mAsg, bTup, bTps, mApp, tupD, lstD, mRev, revD, ofs_inj, ee_ii, ee_ss, ee_bb, ee_nn, ee_is, ee_si, ee_in, ee_ni, ee_tt, ee_ll, ee_maps, ee_0, ee_1, ee_2, ee_3, at_lit, at_nat, at_m1, at_m2, scD, emD, sizeLine_eq, ixN, sm_lit, mSrc, itemsD, plOf, rng1D, bNm, mSl, mPt, mNoP, slD, mPar, keepT, tmsO, setA, mFlow, zipX, enumX, itemsX, intsOf, ints_all, boolsOf, shaped_lay, lay_int, lay_bool, lay_none, lay_dict, lay_tup, lay_list, lay_ints, sortX_ints, mPlF, mPlI, mRd, mPU, mPB, mFSet, mFNew, mNSet, mPApp, mPSetIx, mPPop, mMeth, mNew, isIns, cellO, mLstN, mAddN, mAppN, semX, mTold, mCallX, xRet, xExpr, xSet, mRaise, mM, isL, isS, mOrV, truD, mDNew, mDIn, mDGet, mDLen, mDPut, kyD, mNNew, mN1, mTake, mFnV, mCallF, mNIn, mNGet, mNPut, mNVals, mNList, nKs, mDGetD, mDList, mNNe, *])
theorem cut_cps (T : Str) (lo hi : Option Int) : cpsL (cutS T lo hi) = L2.M.cutL (cpsL T) lo hi := by
  have e : cpsL (cutS T lo hi) = ((cpsL T).drop (HT.sIx T.length 0 lo)).take (HT.sIx T.length T.length hi - HT.sIx T.length 0 lo) := rfl
  rw [e]
  unfold L2.M.cutL
  rw [len_cps]
theorem is_row_eq {T : Str} {bs : List Bool} (h : cpsL T = bs.map sgn) (hl : bs.length ≤ 100000) : g_is_row [.sh (.str T)] = some (.sh (.bool true), [.sh (.str T)]) := by
  have hlen : T.length = bs.length := len_map h
  have key : mLc (mSrc itemsD (mCons (mTm (mVar 0)) mNil)) (bNm 1) (mTst (mB ninSD (mPl 1) (mTm (mK (.str "ak"))))) (mVar 1) [1] [.sh (.str T), .no] = some (.ls (((cpsL T).filter fun c => !decide (c ∈ cpsL "ak")).map chD), [.sh (.str T), .no]) := by
    refine mLc_encF chD chD (fun c => !decide (c ∈ cpsL "ak")) (ws := []) (c0 := .no) (src_str rfl) rfl (fun c hc => ?_) (fun c hc _ => ⟨.sh (chD c), rfl, rfl⟩) ?_
    · have e := ninSD_ch c "ak"
      generalize ninSD = N at *
      generalize chD c = d at *
      generalize (!decide (c ∈ cpsL "ak")) = v at *
      clear h
      walk_at "es"
    · rw [len_cps, sizeLine_eq]
      omega
  have hf : ((cpsL T).filter fun c => !decide (c ∈ cpsL "ak")) = [] := by
    rw [List.filter_eq_nil_iff]
    intro c hc
    rw [h] at hc
    obtain ⟨g, _, rfl⟩ := List.mem_map.mp hc
    cases g <;> decide +kernel
  rw [hf, List.map_nil] at key
  unfold g_is_row m_is_row
  generalize mLc _ _ _ _ _ = ML at *
  clear hf h hlen
  walk_at "es"
theorem pa_1 {Z Y : PyData} {T : Str} (hl : T.length ≤ 16777216) (e : g_is_row [.sh (.str T)] = some (.sh (.bool true), [.sh (.str T)])) (h : cutS T (some (-1)) none = "k") : (mIf (mOrT (mNotT (mTst (mCall [true] g_is_row (mCons (mPl 2) (mNil))))) (mTst (mB (cmpD .NotEq) (mTm (mSl (mPl 2) (mPt (mTm (mU negD (mTm (mK (.int 1)))))) (mNoP))) (mTm (mK (.str "k")))))) (mSeq (mRet (mK (.bool false))) (mSkip)) (mSkip)) [.sh Z, .sh Y, .sh (.str T), .no] = some (.nx, [.sh Z, .sh Y, .sh (.str T), .no]) := by
  have hl2 : T.length ≤ sizeLine := by rw [sizeLine_eq]; exact hl
  generalize g_is_row = G at *
  walk_at "es"
theorem pa_2 {Z Y : PyData} {T : Str} {n : Int} (hl : T.length ≤ 16777216) (h : (T.length : Int) = n + 1) : (mSet [0, 1, 2] 3 (mB (binD .Sub) (mTm (mOp (Bf.f .len) (mCons (mPl 2) (mNil)))) (mTm (mK (.int 1))))) [.sh Z, .sh Y, .sh (.str T), .no] = some (.nx, [.sh Z, .sh Y, .sh (.str T), .sh (.int n)]) := by
  have : n = (T.length : Int) - 1 := by omega
  subst this
  clear h
  walk_at "es"
theorem pa_3 {Z Y T : PyData} {n u v : Int} {L M : List PyData} {a b : Bool} (e1 : g_walked [.sh Z, .sh T] = some (.sh (.tuple [.int u, .list L]), [.sh Z, .sh T])) (e2 : g_walked [.sh Y, .sh T] = some (.sh (.tuple [.int v, .list M]), [.sh Y, .sh T])) (h1 : cmpD .In (.int n) (.list L) = some (.sh (.bool a))) (h2 : cmpD .In (.int n) (.list M) = some (.sh (.bool b))) : (mRet (mB (cmpD .NotEq) (mTm (mB (cmpD .In) (mPl 3) (mTm (mB ixD (mTm (mCall [true, true] g_walked (mCons (mPl 0) (mCons (mPl 2) (mNil))))) (mTm (mK (.int 1))))))) (mTm (mB (cmpD .In) (mPl 3) (mTm (mB ixD (mTm (mCall [true, true] g_walked (mCons (mPl 1) (mCons (mPl 2) (mNil))))) (mTm (mK (.int 1))))))))) [.sh Z, .sh Y, .sh T, .sh (.int n)] = some (.rt (.sh (.bool (a != b))), [.sh Z, .sh Y, .sh T, .sh (.int n)]) := by
  generalize g_walked = G at *
  generalize cmpD .In = I at *
  cases a <;> cases b <;> walk_at "es"
theorem last_in {z : Pz} {w : List Bool} : decide ((w.length : Int) ∈ unp z 0 z.f (w ++ [false])) = decide (en z z.f w < z.r) := by
  rw [unp_sn, decide_eq_decide, List.mem_append]
  constructor
  · rintro (h | h)
    · have := unp_lt z w 0 z.f _ h
      omega
    · split at h
      · rename_i q
        exact q.2
      · cases h
  · intro h
    right
    rw [if_pos ⟨rfl, h⟩]
    simp
theorem parts_eq {z y : Pz} {T : Str} {w : List Bool} (hT : cpsL T = (w ++ [false]).map sgn) (hl : w.length ≤ 99999) : g_parts [.sh z.d, .sh y.d, .sh (.str T)] = some (.sh (.bool (decide (en z z.f w < z.r) != decide (en y y.f w < y.r))), [.sh z.d, .sh y.d, .sh (.str T)]) := by
  have hTl := len_map hT
  rw [List.length_append, List.length_singleton] at hTl
  have hc : cutS T (some (-1)) none = "k" := by
    apply str_ext
    rw [cut_cps, hT, List.map_append]
    exact cut_last _ _
  apply rt_eq
  unfold g_parts m_parts
  apply rt_sem rfl
  apply wx_nx (pa_1 (by omega) (is_row_eq hT (by simp; omega)) hc)
  apply wx_nx (pa_2 (n := (w.length : Int)) (by omega) (by omega))
  have i1 := in_ints (unp z 0 z.f (w ++ [false])) (w.length : Int)
  have i2 := in_ints (unp y 0 y.f (w ++ [false])) (w.length : Int)
  rw [last_in] at i1 i2
  exact wx_rt (pa_3 (walked_eq (z := z) hT (by simp; omega)) (walked_eq (z := y) hT (by simp; omega)) i1 i2) ⟨rfl, rfl⟩
end KW
namespace KW
open PySem PySem.Spec PyProof.Rows L2 L2.M
local macro_rules | `(tactic| walk_at "ev") => `(tactic| simp [semF, shared, after, mSeq, mSkip, mIf, mRet, mRetN, mRetV, mSet, mSetIx, mExpr, mB, mU, mTm, mPl, mK, mVar, mOp, mCons, mNil, bor, bors, mTst, mAndT, mOrT, mNotT, mAndE, mOrE, mNotE, mIfE, mIsi, isiD, mChn, chnL, cmpD, binD, addD, subD, mulD, modD, fdivD, powD, eqD, neD, ltD, leD, gtD, geD, isD, isnD, L2.M.isNon, negD, ixD, Bf.f, Bg.f, lenD, L2.M.intD, maxD, minD, repD, strD, gmaxD, gminD, sumD, sortD, anyD, allD, mCall, frz, fzO, lend, wb, mTup, mLst, fzs, cD, mAsg, bTup, bTps, mApp, tupD, lstD, mRev, revD, ofs_inj, ee_ii, ee_ss, ee_bb, ee_nn, ee_is, ee_si, ee_in, ee_ni, ee_tt, ee_ll, ee_maps, ee_0, ee_1, ee_2, ee_3, at_lit, at_nat, at_m1, at_m2, scD, emD, sizeLine_eq, ixN, sm_lit, mSrc, itemsD, plOf, rng1D, bNm, mSl, mPt, mNoP, slD, mPar, keepT, tmsO, setA, mFlow, zipX, enumX, itemsX, intsOf, ints_all, boolsOf, shaped_lay, lay_int, lay_bool, lay_none, lay_dict, lay_tup, lay_list, lay_ints, sortX_ints, mPlF, mPlI, mRd, mPU, mPB, mFSet, mFNew, mNSet, mPApp, mPSetIx, mPPop, mMeth, mNew, isIns, cellO, mLstN, mAddN, mAppN, semX, mTold, mCallX, xRet, xExpr, xSet, mRaise, mM, isL, isS, mOrV, truD])
local macro_rules | `(tactic| walk_at "es") => `(tactic| simp [semF, shared, after, mSeq, mSkip, mIf, mRet, mRetN, mRetV, mSet, mSetIx, mExpr, mB, mU, mTm, mPl, mK, mVar, mOp, mCons, mNil, bor, bors, mTst, mAndT, mOrT, mNotT, mAndE, mOrE, mNotE, mIfE, mIsi, isiD, mChn, chnL, cmpD, binD, addD, subD, mulD, modD, fdivD, powD, eqD, neD, ltD, leD, gtD, geD, isD, isnD, L2.M.isNon, negD, ixD, Bf.f, Bg.f, lenD, L2.M.intD, maxD, minD, repD, strD, gmaxD, gminD, sumD, sortD, anyD, allD, mCall, frz, fzO, lend, wb, mTup, mLst, fzs, cD, mAsg, bTup, bTps, mApp, tupD, lstD, mRev, revD, ofs_inj, ee_ii, ee_ss, ee_bb, ee_nn, ee_is, ee_si, ee_in, ee_ni, ee_tt, ee_ll, ee_maps, ee_0, ee_1, ee_2, ee_3, at_lit, at_nat, at_m1, at_m2, scD, emD, sizeLine_eq, ixN, sm_lit, mSrc, itemsD, plOf, rng1D, bNm, mSl, mPt, mNoP, slD, mPar, keepT, tmsO, setA, mFlow, zipX, enumX, itemsX, intsOf, ints_all, boolsOf, shaped_lay, lay_int, lay_bool, lay_none, lay_dict, lay_tup, lay_list, lay_ints, sortX_ints, mPlF, mPlI, mRd, mPU, mPB, mFSet, mFNew, mNSet, mPApp, mPSetIx, mPPop, mMeth, mNew, isIns, cellO, mLstN, mAddN, mAppN, semX, mTold, mCallX, xRet, xExpr, xSet, mRaise, mM, isL, isS, mOrV, truD, *])
local macro_rules | `(tactic| walk_at "el") => `(tactic| simp [semF, shared, after, mSeq, mSkip, mIf, mRet, mRetN, mRetV, mSet, mSetIx, mExpr, mB, mU, mTm, mPl, mK, mVar, mOp, mCons, mNil, bor, bors, mTst, mAndT, mOrT, mNotT, mAndE, mOrE, mNotE, mIfE, mIsi, isiD, mChn, chnL, cmpD, binD, addD, subD, mulD, modD, fdivD, powD, eqD, neD, ltD, leD, gtD, geD, isD, isnD, L2.M.isNon, negD, ixD, Bf.f, Bg.f, lenD, L2.M.intD, maxD, minD, repD, strD, gmaxD, gminD, sumD, sortD, anyD, allD, mCall, frz, fzO, lend, wb, mTup, mLst, fzs, cD, mAsg, bTup, bTps, mApp, tupD, lstD, mRev, revD, ofs_inj, ee_ii, ee_ss, ee_bb, ee_nn, ee_is, ee_si, ee_in, ee_ni, ee_tt, ee_ll, ee_maps, ee_0, ee_1, ee_2, ee_3, at_lit, at_nat, at_m1, at_m2, scD, emD, sizeLine_eq, ixN, sm_lit, mSrc, itemsD, plOf, rng1D, bNm, mSl, mPt, mNoP, slD, mPar, keepT, tmsO, setA, mFlow, zipX, enumX, itemsX, intsOf, ints_all, boolsOf, shaped_lay, lay_int, lay_bool, lay_none, lay_dict, lay_tup, lay_list, lay_ints, sortX_ints, mPlF, mPlI, mRd, mPU, mPB, mFSet, mFNew, mNSet, mPApp, mPSetIx, mPPop, mMeth, mNew, isIns, cellO, mLstN, mAddN, mAppN, semX, mTold, mCallX, xRet, xExpr, xSet, mRaise, mM, isL, isS, mOrV, truD, mLc, lcL, sameC, wipeC, restC, mYes, *])
local macro_rules | `(tactic| walk_at "ef") => `(tactic| simp [semF, shared, after, mSeq, mSkip, mIf, mRet, mRetN, mRetV, mSet, mSetIx, mExpr, mB, mU, mTm, mPl, mK, mVar, mOp, mCons, mNil, bor, bors, mTst, mAndT, mOrT, mNotT, mAndE, mOrE, mNotE, mIfE, mIsi, isiD, mChn, chnL, cmpD, binD, addD, subD, mulD, modD, fdivD, powD, eqD, neD, ltD, leD, gtD, geD, isD, isnD, L2.M.isNon, negD, ixD, Bf.f, Bg.f, lenD, L2.M.intD, maxD, minD, repD, strD, gmaxD, gminD, sumD, sortD, anyD, allD, mCall, frz, fzO, lend, wb, mTup, mLst, fzs, cD, mAsg, bTup, bTps, mApp, tupD, lstD, mRev, revD, ofs_inj, ee_ii, ee_ss, ee_bb, ee_nn, ee_is, ee_si, ee_in, ee_ni, ee_tt, ee_ll, ee_maps, ee_0, ee_1, ee_2, ee_3, at_lit, at_nat, at_m1, at_m2, scD, emD, sizeLine_eq, ixN, sm_lit, mSrc, itemsD, plOf, rng1D, bNm, mSl, mPt, mNoP, slD, mPar, keepT, tmsO, setA, mFlow, zipX, enumX, itemsX, intsOf, ints_all, boolsOf, shaped_lay, lay_int, lay_bool, lay_none, lay_dict, lay_tup, lay_list, lay_ints, sortX_ints, mPlF, mPlI, mRd, mPU, mPB, mFSet, mFNew, mNSet, mPApp, mPSetIx, mPPop, mMeth, mNew, isIns, cellO, mLstN, mAddN, mAppN, semX, mTold, mCallX, xRet, xExpr, xSet, mRaise, mM, isL, isS, mOrV, truD, mFor, forL, mLc, lcL, sameC, wipeC, restC, mYes, *])
local macro_rules | `(tactic| walk_at "rg") => `(tactic| (and_intros <;> grind))
local macro_rules | `(tactic| walk_at "nx") => `(tactic| (apply wx_nx; focus (walk_at "ev"; try first | exact ⟨rfl, rfl⟩ | rfl)))
local macro_rules | `(tactic| walk_at "ns") => `(tactic| (apply wx_nx; focus (walk_at "es"; try first | exact ⟨rfl, rfl⟩ | rfl)))
local macro_rules | `(tactic| walk_at "rt") => `(tactic| (apply wx_rt; focus (walk_at "ev"; try first | exact ⟨rfl, rfl⟩ | rfl)))
local macro_rules | `(tactic| walk_at "rs") => `(tactic| (apply wx_rt; focus (walk_at "es"; try first | exact ⟨rfl, rfl⟩ | rfl)))
local macro_rules | `(tactic| walk_at "ed") => `(tactic| simp [semF, shared, after, mSeq, mSkip, mIf, mRet, mRetN, mRetV, mSet, mSetIx, mExpr, mB, mU, mTm, mPl, mK, mVar, mOp, mCons, mNil, bor, bors, mTst, mAndT, mOrT, mNotT, mAndE, mOrE, mNotE, mIfE, mIsi, isiD, mChn, chnL, cmpD, binD, addD, subD, mulD, modD, fdivD, powD, eqD, neD, ltD, leD, gtD, geD, isD, isnD, L2.M.isNon, negD, ixD, Bf.f, Bg.f, lenD, L2.M.intD, maxD, minD, repD, strD, gmaxD, gminD, sumD, sortD, anyD, allD, mCall, frz, fzO, lend, wb, mTup, mLst, fzs, cD, mAsg, bTup, bTps, mApp, tupD, lstD, mRev, revD, ofs_inj, ee_ii, ee_ss, ee_bb, ee_nn, ee_is, ee_si, ee_in, ee_ni, ee_tt, ee_ll, ee_maps, ee_0, ee_1, ee_2, ee_3, at_lit, at_nat, at_m1, at_m2, scD, emD, sizeLine_eq, ixN, sm_lit, mSrc, itemsD, plOf, rng1D, bNm, mSl, mPt, mNoP, slD, mPar, keepT, tmsO, setA, mFlow, zipX, enumX, itemsX, intsOf, ints_all, boolsOf, shaped_lay, lay_int, lay_bool, lay_none, lay_dict, lay_tup, lay_list, lay_ints, sortX_ints, mPlF, mPlI, mRd, mPU, mPB, mFSet, mFNew, mNSet, mPApp, mPSetIx, mPPop, mMeth, mNew, isIns, cellO, mLstN, mAddN, mAppN, semX, mTold, mCallX, xRet, xExpr, xSet, mRaise, mM, isL, isS, mOrV, truD, mDNew, mDIn, mDGet, mDLen, mDPut, kyD, mNNew, mN1, mTake, mFnV, mCallF, mNIn, mNGet, mNPut, mNVals, mNList, nKs, mDGetD, mDList, mNNe, *])
def pV (z y : Pz) (w : List Bool) : Bool := decide (z.r ≤ en z z.f w) != decide (y.r ≤ en y y.f w)
theorem pV_lt (z y : Pz) (w : List Bool) : (decide (en z z.f w < z.r) != decide (en y y.f w < y.r)) = pV z y w := by
  unfold pV
  by_cases h1 : z.r ≤ en z z.f w <;> by_cases h2 : y.r ≤ en y y.f w
  · have h3 : ¬ en z z.f w < z.r := by omega
    have h4 : ¬ en y y.f w < y.r := by omega
    simp [h1, h2, h3, h4]
  · have h3 : ¬ en z z.f w < z.r := by omega
    have h4 : en y y.f w < y.r := by omega
    simp [h1, h2, h3, h4]
  · have h3 : en z z.f w < z.r := by omega
    have h4 : ¬ en y y.f w < y.r := by omega
    simp [h1, h2, h3, h4]
  · have h3 : en z z.f w < z.r := by omega
    have h4 : en y y.f w < y.r := by omega
    simp [h1, h2, h3, h4]
theorem pV_sw (z y : Pz) (w : List Bool) : pV y z w = pV z y w := by
  unfold pV
  cases decide (z.r ≤ en z z.f w) <;> cases decide (y.r ≤ en y y.f w) <;> rfl
/-- what a thing says -/
inductive Say : PyData → Option (List Bool) → Prop
  | not (d : PyData) : isiD .str d = false → Say d none
  | odd (T : Str) : ((cpsL T).filter fun c => !decide (c ∈ cpsL "ak")) ≠ [] → Say (.str T) none
  | row (T : Str) (bs : List Bool) : cpsL T = bs.map sgn → Say (.str T) (some bs)
theorem say_any (d : PyData) : ∃ o, Say d o := by
  by_cases h : isiD .str d = true
  · cases d with
    | str T =>
      by_cases q : ((cpsL T).filter fun c => !decide (c ∈ cpsL "ak")) = []
      · have hall : ∀ c ∈ cpsL T, c = 97 ∨ c = 107 := by
          intro c hc
          have := List.filter_eq_nil_iff.mp q c hc
          have h2 : c ∈ cpsL "ak" := by simpa using this
          have e : cpsL "ak" = [97, 107] := rfl
          rw [e] at h2
          simpa using h2
        refine ⟨some ((cpsL T).map fun c => decide (c = 97)), .row T _ ?_⟩
        rw [List.map_map]
        refine (List.map_congr_left (g := id) fun c hc => ?_).trans (List.map_id _) |>.symm
        rcases hall c hc with rfl | rfl <;> rfl
      · exact ⟨none, .odd T q⟩
    | _ => cases h
  · exact ⟨none, .not d (by simpa using h)⟩
def sayV (z y : Pz) : Option (List Bool) → Bool
  | none => false
  | some bs => if bs.getLast? = some false then pV z y bs.dropLast else false
theorem sayV_sw (z y : Pz) (o : Option (List Bool)) : sayV y z o = sayV z y o := by
  cases o with
  | none => rfl
  | some bs =>
    show (if _ then pV y z _ else false) = (if _ then pV z y _ else false)
    rw [pV_sw]
theorem flt_lc {T : Str} {c1 : C} (hl : T.length ≤ 100000) : mLc (mSrc itemsD (mCons (mTm (mVar 0)) mNil)) (bNm 1) (mTst (mB ninSD (mPl 1) (mTm (mK (.str "ak"))))) (mVar 1) [1] [.sh (.str T), c1] = some (.ls (((cpsL T).filter fun c => !decide (c ∈ cpsL "ak")).map chD), [.sh (.str T), c1]) := by
  refine mLc_encF chD chD (fun c => !decide (c ∈ cpsL "ak")) (ws := []) (c0 := c1) (src_str rfl) rfl (fun c hc => ?_) (fun c hc _ => ⟨.sh (chD c), rfl, rfl⟩) ?_
  · have e := ninSD_ch c "ak"
    generalize ninSD = N at *
    generalize chD c = d at *
    generalize (!decide (c ∈ cpsL "ak")) = v at *
    walk_at "es"
  · rw [len_cps, sizeLine_eq]
    omega
theorem eq_nil_ls {D : List Str} (hk : ∀ s ∈ D, PyData.strOk s = true) (h : D ≠ []) : eqD (.list (D.map .str)) (.list []) = some (.sh (.bool false)) := by
  have h1 := strs_lay D hk
  have h2 : SeqAt.shaped (.list []) = true := by decide +kernel
  unfold eqD
  rw [if_pos (by rw [h1, h2]; simp), ee_ll]
  cases D with
  | nil => exact absurd rfl h
  | cons x L => rfl
theorem ne_nil_ls {D : List Str} (hk : ∀ s ∈ D, PyData.strOk s = true) (h : D ≠ []) : neD (.list (D.map .str)) (.list []) = some (.sh (.bool true)) := by
  have := ne_strs D hk
  have e : (!D.isEmpty) = true := by
    cases D with
    | nil => exact absurd rfl h
    | cons x L => rfl
  rw [e] at this
  exact this
theorem flt_strs (T : Str) (q : Nat → Bool) : ((cpsL T).filter q).map chD = (((cpsL T).filter q).map fun c => (⟨#[c]⟩ : Str)).map .str := by
  rw [List.map_map]
  rfl
theorem flt_ok {T : Str} (h : PyData.strOk T = true) (q : Nat → Bool) : ∀ s ∈ ((cpsL T).filter q).map fun c => (⟨#[c]⟩ : Str), PyData.strOk s = true := by
  intro s hs
  obtain ⟨c, hc, rfl⟩ := List.mem_map.mp hs
  have := strOk_iff.mp h c (List.mem_filter.mp hc).1
  exact strOk_iff.mpr (by
    intro d hd
    have : d = c := by simpa [cpsL] using hd
    rw [this]
    assumption)
theorem is_row_odd {T : Str} (hk : PyData.strOk T = true) (hl : T.length ≤ 100000) (h : ((cpsL T).filter fun c => !decide (c ∈ cpsL "ak")) ≠ []) : g_is_row [.sh (.str T)] = some (.sh (.bool false), [.sh (.str T)]) := by
  have key := flt_lc (c1 := .no) hl
  have he : cmpD .Eq (.list (((cpsL T).filter fun c => !decide (c ∈ cpsL "ak")).map chD)) (.list []) = some (.sh (.bool false)) := by
    rw [flt_strs]
    exact eq_nil_ls (flt_ok hk _) (by simpa using h)
  unfold g_is_row m_is_row
  generalize (((cpsL T).filter fun c => !decide (c ∈ cpsL "ak")).map chD) = L at *
  generalize mLc _ _ _ _ _ = ML at *
  generalize cmpD .Eq = E at *
  clear h
  walk_at "es"
theorem is_row_not {d : PyData} (h : isiD .str d = false) : g_is_row [.sh d] = some (.sh (.bool false), [.sh d]) := by
  unfold g_is_row m_is_row
  generalize mLc _ _ _ _ _ = ML at *
  cases d with
  | str z => exact absurd h (by simp [isiD])
  | _ => clear h; walk_at "es"
theorem pa_not {Z Y d : PyData} (h : g_is_row [.sh d] = some (.sh (.bool false), [.sh d])) : g_parts [.sh Z, .sh Y, .sh d] = some (.sh (.bool false), [.sh Z, .sh Y, .sh d]) := by
  unfold g_parts m_parts
  generalize g_is_row = G at *
  generalize g_walked = W at *
  walk_at "es"
theorem pa_end {Z Y : PyData} {T U : Str} (hl : T.length ≤ 16777216) (e : g_is_row [.sh (.str T)] = some (.sh (.bool true), [.sh (.str T)])) (h : cutS T (some (-1)) none = U) (hn : cmpD .NotEq (.str U) (.str "k") = some (.sh (.bool true))) : g_parts [.sh Z, .sh Y, .sh (.str T)] = some (.sh (.bool false), [.sh Z, .sh Y, .sh (.str T)]) := by
  have hl2 : T.length ≤ sizeLine := by rw [sizeLine_eq]; exact hl
  unfold g_parts m_parts
  generalize g_is_row = G at *
  generalize g_walked = W at *
  generalize cmpD .NotEq = N at *
  walk_at "es"
theorem parts_any {z y : Pz} {d : PyData} {o : Option (List Bool)} (s : Say d o) (hl : ∀ T, d = .str T → T.length ≤ 90000 ∧ PyData.strOk T = true) : g_parts [.sh z.d, .sh y.d, .sh d] = some (.sh (.bool (sayV z y o)), [.sh z.d, .sh y.d, .sh d]) := by
  cases s with
  | not _ h => exact pa_not (is_row_not h)
  | odd T h => exact pa_not (is_row_odd (hl T rfl).2 (by have := (hl T rfl).1; omega) h)
  | row T bs h =>
    have hT := (hl T rfl).1
    have hTl := len_map h
    rcases List.eq_nil_or_concat bs with e | ⟨w, g, e⟩
    · subst e
      refine pa_end (U := "") (by omega) (is_row_eq h (by simp)) ?_ rfl
      apply str_ext
      rw [cut_cps, h]
      rfl
    · rw [List.concat_eq_append] at e
      subst e
      rw [List.length_append, List.length_singleton] at hTl
      have hs : sayV z y (some (w ++ [g])) = if g then false else pV z y w := by
        show (if (w ++ [g]).getLast? = some false then pV z y (w ++ [g]).dropLast else false) = _
        rw [List.getLast?_concat, List.dropLast_concat]
        cases g <;> simp
      rw [hs]
      cases g with
      | true =>
        refine pa_end (U := "a") (by omega) (is_row_eq h (by simp; omega)) ?_ rfl
        apply str_ext
        rw [cut_cps, h, List.map_append]
        exact cut_last _ _
      | false =>
        rw [parts_eq h (by omega), pV_lt]
        rfl
end KW
namespace KW
open PySem PySem.Spec PyProof.Rows L2 L2.M
local macro_rules | `(tactic| walk_at "ev") => `(tactic| simp [semF, shared, after, mSeq, mSkip, mIf, mRet, mRetN, mRetV, mSet, mSetIx, mExpr, mB, mU, mTm, mPl, mK, mVar, mOp, mCons, mNil, bor, bors, mTst, mAndT, mOrT, mNotT, mAndE, mOrE, mNotE, mIfE, mIsi, isiD, mChn, chnL, cmpD, binD, addD, subD, mulD, modD, fdivD, powD, eqD, neD, ltD, leD, gtD, geD, isD, isnD, L2.M.isNon, negD, ixD, Bf.f, Bg.f, lenD, L2.M.intD, maxD, minD, repD, strD, gmaxD, gminD, sumD, sortD, anyD, allD, mCall, frz, fzO, lend, wb, mTup, mLst, fzs, cD, mAsg, bTup, bTps, mApp, tupD, lstD, mRev, revD, ofs_inj, ee_ii, ee_ss, ee_bb, ee_nn, ee_is, ee_si, ee_in, ee_ni, ee_tt, ee_ll, ee_maps, ee_0, ee_1, ee_2, ee_3, at_lit, at_nat, at_m1, at_m2, scD, emD, sizeLine_eq, ixN, sm_lit, mSrc, itemsD, plOf, rng1D, bNm, mSl, mPt, mNoP, slD, mPar, keepT, tmsO, setA, mFlow, zipX, enumX, itemsX, intsOf, ints_all, boolsOf, shaped_lay, lay_int, lay_bool, lay_none, lay_dict, lay_tup, lay_list, lay_ints, sortX_ints, mPlF, mPlI, mRd, mPU, mPB, mFSet, mFNew, mNSet, mPApp, mPSetIx, mPPop, mMeth, mNew, isIns, cellO, mLstN, mAddN, mAppN, semX, mTold, mCallX, xRet, xExpr, xSet, mRaise, mM, isL, isS, mOrV, truD])
local macro_rules | `(tactic| walk_at "es") => `(tactic| simp [semF, shared, after, mSeq, mSkip, mIf, mRet, mRetN, mRetV, mSet, mSetIx, mExpr, mB, mU, mTm, mPl, mK, mVar, mOp, mCons, mNil, bor, bors, mTst, mAndT, mOrT, mNotT, mAndE, mOrE, mNotE, mIfE, mIsi, isiD, mChn, chnL, cmpD, binD, addD, subD, mulD, modD, fdivD, powD, eqD, neD, ltD, leD, gtD, geD, isD, isnD, L2.M.isNon, negD, ixD, Bf.f, Bg.f, lenD, L2.M.intD, maxD, minD, repD, strD, gmaxD, gminD, sumD, sortD, anyD, allD, mCall, frz, fzO, lend, wb, mTup, mLst, fzs, cD, mAsg, bTup, bTps, mApp, tupD, lstD, mRev, revD, ofs_inj, ee_ii, ee_ss, ee_bb, ee_nn, ee_is, ee_si, ee_in, ee_ni, ee_tt, ee_ll, ee_maps, ee_0, ee_1, ee_2, ee_3, at_lit, at_nat, at_m1, at_m2, scD, emD, sizeLine_eq, ixN, sm_lit, mSrc, itemsD, plOf, rng1D, bNm, mSl, mPt, mNoP, slD, mPar, keepT, tmsO, setA, mFlow, zipX, enumX, itemsX, intsOf, ints_all, boolsOf, shaped_lay, lay_int, lay_bool, lay_none, lay_dict, lay_tup, lay_list, lay_ints, sortX_ints, mPlF, mPlI, mRd, mPU, mPB, mFSet, mFNew, mNSet, mPApp, mPSetIx, mPPop, mMeth, mNew, isIns, cellO, mLstN, mAddN, mAppN, semX, mTold, mCallX, xRet, xExpr, xSet, mRaise, mM, isL, isS, mOrV, truD, *])
local macro_rules | `(tactic| walk_at "el") => `(tactic| simp [semF, shared, after, mSeq, mSkip, mIf, mRet, mRetN, mRetV, mSet, mSetIx, mExpr, mB, mU, mTm, mPl, mK, mVar, mOp, mCons, mNil, bor, bors, mTst, mAndT, mOrT, mNotT, mAndE, mOrE, mNotE, mIfE, mIsi, isiD, mChn, chnL, cmpD, binD, addD, subD, mulD, modD, fdivD, powD, eqD, neD, ltD, leD, gtD, geD, isD, isnD, L2.M.isNon, negD, ixD, Bf.f, Bg.f, lenD, L2.M.intD, maxD, minD, repD, strD, gmaxD, gminD, sumD, sortD, anyD, allD, mCall, frz, fzO, lend, wb, mTup, mLst, fzs, cD, mAsg, bTup, bTps, mApp, tupD, lstD, mRev, revD, ofs_inj, ee_ii, ee_ss, ee_bb, ee_nn, ee_is, ee_si, ee_in, ee_ni, ee_tt, ee_ll, ee_maps, ee_0, ee_1, ee_2, ee_3, at_lit, at_nat, at_m1, at_m2, scD, emD, sizeLine_eq, ixN, sm_lit, mSrc, itemsD, plOf, rng1D, bNm, mSl, mPt, mNoP, slD, mPar, keepT, tmsO, setA, mFlow, zipX, enumX, itemsX, intsOf, ints_all, boolsOf, shaped_lay, lay_int, lay_bool, lay_none, lay_dict, lay_tup, lay_list, lay_ints, sortX_ints, mPlF, mPlI, mRd, mPU, mPB, mFSet, mFNew, mNSet, mPApp, mPSetIx, mPPop, mMeth, mNew, isIns, cellO, mLstN, mAddN, mAppN, semX, mTold, mCallX, xRet, xExpr, xSet, mRaise, mM, isL, isS, mOrV, truD, mLc, lcL, sameC, wipeC, restC, mYes, *])
local macro_rules | `(tactic| walk_at "ef") => `(tactic| simp [semF, shared, after, mSeq, mSkip, mIf, mRet, mRetN, mRetV, mSet, mSetIx, mExpr, mB, mU, mTm, mPl, mK, mVar, mOp, mCons, mNil, bor, bors, mTst, mAndT, mOrT, mNotT, mAndE, mOrE, mNotE, mIfE, mIsi, isiD, mChn, chnL, cmpD, binD, addD, subD, mulD, modD, fdivD, powD, eqD, neD, ltD, leD, gtD, geD, isD, isnD, L2.M.isNon, negD, ixD, Bf.f, Bg.f, lenD, L2.M.intD, maxD, minD, repD, strD, gmaxD, gminD, sumD, sortD, anyD, allD, mCall, frz, fzO, lend, wb, mTup, mLst, fzs, cD, mAsg, bTup, bTps, mApp, tupD, lstD, mRev, revD, ofs_inj, ee_ii, ee_ss, ee_bb, ee_nn, ee_is, ee_si, ee_in, ee_ni, ee_tt, ee_ll, ee_maps, ee_0, ee_1, ee_2, ee_3, at_lit, at_nat, at_m1, at_m2, scD, emD, sizeLine_eq, ixN, sm_lit, mSrc, itemsD, plOf, rng1D, bNm, mSl, mPt, mNoP, slD, mPar, keepT, tmsO, setA, mFlow, zipX, enumX, itemsX, intsOf, ints_all, boolsOf, shaped_lay, lay_int, lay_bool, lay_none, lay_dict, lay_tup, lay_list, lay_ints, sortX_ints, mPlF, mPlI, mRd, mPU, mPB, mFSet, mFNew, mNSet, mPApp, mPSetIx, mPPop, mMeth, mNew, isIns, cellO, mLstN, mAddN, mAppN, semX, mTold, mCallX, xRet, xExpr, xSet, mRaise, mM, isL, isS, mOrV, truD, mFor, forL, mLc, lcL, sameC, wipeC, restC, mYes, *])
local macro_rules | `(tactic| walk_at "rg") => `(tactic| (and_intros <;> grind))
local macro_rules | `(tactic| walk_at "nx") => `(tactic| (apply wx_nx; focus (walk_at "ev"; try first | exact ⟨rfl, rfl⟩ | rfl)))
local macro_rules | `(tactic| walk_at "ns") => `(tactic| (apply wx_nx; focus (walk_at "es"; try first | exact ⟨rfl, rfl⟩ | rfl)))
local macro_rules | `(tactic| walk_at "rt") => `(tactic| (apply wx_rt; focus (walk_at "ev"; try first | exact ⟨rfl, rfl⟩ | rfl)))
local macro_rules | `(tactic| walk_at "rs") => `(tactic| (apply wx_rt; focus (walk_at "es"; try first | exact ⟨rfl, rfl⟩ | rfl)))
local macro_rules | `(tactic| walk_at "ed") => `(tactic| simp [semF, shared, after, mSeq, mSkip, mIf, mRet, mRetN, mRetV, mSet, mSetIx, mExpr, mB, mU, mTm, mPl, mK, mVar, mOp, mCons, mNil, bor, bors, mTst, mAndT, mOrT, mNotT, mAndE, mOrE, mNotE, mIfE, mIsi, isiD, mChn, chnL, cmpD, binD, addD, subD, mulD, modD, fdivD, powD, eqD, neD, ltD, leD, gtD, geD, isD, isnD, L2.M.isNon, negD, ixD, Bf.f, Bg.f, lenD, L2.M.intD, maxD, minD, repD, strD, gmaxD, gminD, sumD, sortD, anyD, allD, mCall, frz, fzO, lend, wb, mTup, mLst, fzs, cD, mAsg, bTup, bTps, mApp, tupD, lstD, mRev, revD, ofs_inj, ee_ii, ee_ss, ee_bb, ee_nn, ee_is, ee_si, ee_in, ee_ni, ee_tt, ee_ll, ee_maps, ee_0, ee_1, ee_2, ee_3, at_lit, at_nat, at_m1, at_m2, scD, emD, sizeLine_eq, ixN, sm_lit, mSrc, itemsD, plOf, rng1D, bNm, mSl, mPt, mNoP, slD, mPar, keepT, tmsO, setA, mFlow, zipX, enumX, itemsX, intsOf, ints_all, boolsOf, shaped_lay, lay_int, lay_bool, lay_none, lay_dict, lay_tup, lay_list, lay_ints, sortX_ints, mPlF, mPlI, mRd, mPU, mPB, mFSet, mFNew, mNSet, mPApp, mPSetIx, mPPop, mMeth, mNew, isIns, cellO, mLstN, mAddN, mAppN, semX, mTold, mCallX, xRet, xExpr, xSet, mRaise, mM, isL, isS, mOrV, truD, mDNew, mDIn, mDGet, mDLen, mDPut, kyD, mNNew, mN1, mTake, mFnV, mCallF, mNIn, mNGet, mNPut, mNVals, mNList, nKs, mDGetD, mDList, mNNe, *])
theorem lp_not {Z Y d : PyData} (h : isiD .str d = false) : (mIf (mOrT (mNotT (mTst (mIsi .str (mPl 2)))) (mOrT (mTst (mB (cmpD .Eq) (mPl 2) (mTm (mK (.str ""))))) (mTst (mB (cmpD .NotEq) (mTm (mLc (mSrc itemsD (mCons (mTm (mVar 2)) mNil)) (bNm 3) (mTst (mB ninSD (mPl 3) (mTm (mK (.str "ak"))))) (mVar 3) [3])) (mTm (mLst (mNil))))))) (mSeq (mRet (mK (.bool false))) (mSkip)) (mSkip)) [.sh Z, .sh Y, .sh d, .no, .no] = some (.rt (.sh (.bool false)), [.sh Z, .sh Y, .sh d, .no, .no]) := by
  generalize mLc _ _ _ _ _ = ML at *
  cases d with
  | str z => exact absurd h (by simp [isiD])
  | _ => clear h; walk_at "es"
theorem lp_emp {Z Y : PyData} {T : Str} (he : cmpD .Eq (.str T) (.str "") = some (.sh (.bool true))) : (mIf (mOrT (mNotT (mTst (mIsi .str (mPl 2)))) (mOrT (mTst (mB (cmpD .Eq) (mPl 2) (mTm (mK (.str ""))))) (mTst (mB (cmpD .NotEq) (mTm (mLc (mSrc itemsD (mCons (mTm (mVar 2)) mNil)) (bNm 3) (mTst (mB ninSD (mPl 3) (mTm (mK (.str "ak"))))) (mVar 3) [3])) (mTm (mLst (mNil))))))) (mSeq (mRet (mK (.bool false))) (mSkip)) (mSkip)) [.sh Z, .sh Y, .sh (.str T), .no, .no] = some (.rt (.sh (.bool false)), [.sh Z, .sh Y, .sh (.str T), .no, .no]) := by
  generalize mLc _ _ _ _ _ = ML at *
  generalize cmpD .Eq = E at *
  walk_at "es"
theorem lp_lst {Z Y : PyData} {T : Str} {L : List PyData} {b : Bool} (k : (mLc (mSrc itemsD (mCons (mTm (mVar 2)) mNil)) (bNm 3) (mTst (mB ninSD (mPl 3) (mTm (mK (.str "ak"))))) (mVar 3) [3]) [.sh Z, .sh Y, .sh (.str T), .no, .no] = some (.ls L, [.sh Z, .sh Y, .sh (.str T), .no, .no])) (he : cmpD .Eq (.str T) (.str "") = some (.sh (.bool false))) (hn : cmpD .NotEq (.list L) (.list []) = some (.sh (.bool b))) : (mIf (mOrT (mNotT (mTst (mIsi .str (mPl 2)))) (mOrT (mTst (mB (cmpD .Eq) (mPl 2) (mTm (mK (.str ""))))) (mTst (mB (cmpD .NotEq) (mTm (mLc (mSrc itemsD (mCons (mTm (mVar 2)) mNil)) (bNm 3) (mTst (mB ninSD (mPl 3) (mTm (mK (.str "ak"))))) (mVar 3) [3])) (mTm (mLst (mNil))))))) (mSeq (mRet (mK (.bool false))) (mSkip)) (mSkip)) [.sh Z, .sh Y, .sh (.str T), .no, .no] = some (if b then .rt (.sh (.bool false)) else .nx, [.sh Z, .sh Y, .sh (.str T), .no, .no]) := by
  generalize mLc _ _ _ _ _ = ML at *
  generalize cmpD .Eq = E at *
  generalize cmpD .NotEq = N at *
  cases b <;> walk_at "es"
theorem flt_lc2 {Z Y : PyData} {T : Str} (hl : T.length ≤ 100000) : (mLc (mSrc itemsD (mCons (mTm (mVar 2)) mNil)) (bNm 3) (mTst (mB ninSD (mPl 3) (mTm (mK (.str "ak"))))) (mVar 3) [3]) [.sh Z, .sh Y, .sh (.str T), .no, .no] = some (.ls (((cpsL T).filter fun c => !decide (c ∈ cpsL "ak")).map chD), [.sh Z, .sh Y, .sh (.str T), .no, .no]) := by
  refine mLc_encF chD chD (fun c => !decide (c ∈ cpsL "ak")) (ws := []) (c0 := .no) (src_str rfl) rfl (fun c hc => ?_) (fun c hc _ => ⟨.sh (chD c), rfl, rfl⟩) ?_
  · have e := ninSD_ch c "ak"
    generalize ninSD = N at *
    generalize chD c = d at *
    generalize (!decide (c ∈ cpsL "ak")) = v at *
    walk_at "es"
  · rw [len_cps, sizeLine_eq]
    omega
theorem lp_4 {z y : Pz} {d c3 c4 : C} : (mSet [0, 1, 2] 4 (mLst (mCons (mTm (mB ixD (mPl 0) (mTm (mK (.int 3))))) (mCons (mTm (mB ixD (mPl 1) (mTm (mK (.int 3))))) (mNil))))) [.sh z.d, .sh y.d, d, c3, c4] = some (.nx, [.sh z.d, .sh y.d, d, c3, .ls [.int z.f, .int y.f]]) := by
  unfold Pz.d
  walk_at "es"
theorem lp_5 {z y : Pz} {d : C} {a b : Int} {g : Bool} : (mSet [0, 1, 2] 4 (mLst (mCons (mTm (mCall [true, true, true] g_law_on (mCons (mPl 0) (mCons (mTm (mB ixD (mPl 4) (mTm (mK (.int 0))))) (mCons (mPl 3) (mNil)))))) (mCons (mTm (mCall [true, true, true] g_law_on (mCons (mPl 1) (mCons (mTm (mB ixD (mPl 4) (mTm (mK (.int 1))))) (mCons (mPl 3) (mNil)))))) (mNil))))) [.sh z.d, .sh y.d, d, .sh (.str (sgT g)), .ls [.int a, .int b]] = some (.nx, [.sh z.d, .sh y.d, d, .sh (.str (sgT g)), .ls [.int (on z a g), .int (on y b g)]]) := by
  have e1 := on_eq (z := z) a g
  have e2 := on_eq (z := y) b g
  generalize on z a g = A at *
  generalize on y b g = B at *
  generalize z.d = Z at *
  generalize y.d = Y at *
  generalize sgT g = S at *
  generalize g_law_on = G at *
  walk_at "es"
theorem lp_6 {z y : Pz} {T : Str} {c3 : C} {a b : Int} {g : Bool} (hl : T.length ≤ 16777216) (ht : T.cps.toList.getLast? = some (sgn g)) : (mRet (mAndE (mB (cmpD .Eq) (mTm (mB ixD (mPl 2) (mTm (mU negD (mTm (mK (.int 1))))))) (mTm (mK (.str "k")))) (mB (cmpD .NotEq) (mTm (mB (cmpD .GtE) (mTm (mB ixD (mPl 4) (mTm (mK (.int 0))))) (mTm (mB ixD (mPl 0) (mTm (mK (.int 1))))))) (mTm (mB (cmpD .GtE) (mTm (mB ixD (mPl 4) (mTm (mK (.int 1))))) (mTm (mB ixD (mPl 1) (mTm (mK (.int 1)))))))))) [.sh z.d, .sh y.d, .sh (.str T), c3, .ls [.int a, .int b]] = some (.rt (.sh (.bool (if g then false else decide (z.r ≤ a) != decide (y.r ≤ b)))), [.sh z.d, .sh y.d, .sh (.str T), c3, .ls [.int a, .int b]]) := by
  have hl2 : T.length ≤ sizeLine := by rw [sizeLine_eq]; exact hl
  have he : cmpD .Eq (.str ⟨#[sgn g]⟩) (.str "k") = some (.sh (.bool (!g))) := by cases g <;> rfl
  unfold Pz.d
  generalize cmpD .Eq = E at *
  generalize sgn g = s at *
  cases g with
  | true => walk_at "es"
  | false =>
    by_cases h1 : z.r ≤ a <;> by_cases h2 : y.r ≤ b <;> simp only [h1, h2, decide_true, decide_false] <;> walk_at "es"
theorem eq_emp (T : Str) : cmpD .Eq (.str T) (.str "") = some (.sh (.bool (decide (T = "")))) := by
  show eqD _ _ = _
  unfold eqD
  rw [if_pos (by rfl)]
  simp [PyData.eqv, Bool.beq_eq_decide_eq]
theorem law_parts_any {z y : Pz} {d : PyData} {o : Option (List Bool)} (s : Say d o) (hl : ∀ T, d = .str T → T.length ≤ 90000 ∧ PyData.strOk T = true) : g_law_parts [.sh z.d, .sh y.d, .sh d] = some (.sh (.bool (sayV z y o)), [.sh z.d, .sh y.d, .sh d]) := by
  apply rt_eq
  unfold g_law_parts m_law_parts
  apply rt_sem rfl
  cases s with
  | not _ h => exact wx_rt (lp_not h) ⟨rfl, rfl⟩
  | odd T h =>
    have hT := hl T rfl
    have hne : ¬ T = "" := by
      rintro rfl
      exact h rfl
    have he := eq_emp T
    rw [decide_eq_false hne] at he
    have hn : cmpD .NotEq (.list (((cpsL T).filter fun c => !decide (c ∈ cpsL "ak")).map chD)) (.list []) = some (.sh (.bool true)) := by
      rw [flt_strs]
      exact ne_nil_ls (flt_ok hT.2 _) (by simpa using h)
    exact wx_rt (lp_lst (flt_lc2 (by omega)) he hn) ⟨rfl, rfl⟩
  | row T bs h =>
    have hT := (hl T rfl).1
    have hTl := len_map h
    rcases List.eq_nil_or_concat bs with e | ⟨w, g, e⟩
    · subst e
      have : T = "" := str_ext h
      subst this
      have he := eq_emp ""
      rw [decide_eq_true rfl] at he
      exact wx_rt (lp_emp he) ⟨rfl, rfl⟩
    · rw [List.concat_eq_append] at e
      subst e
      rw [List.length_append, List.length_singleton] at hTl
      have hs : sayV z y (some (w ++ [g])) = if g then false else pV z y w := by
        show (if (w ++ [g]).getLast? = some false then pV z y (w ++ [g]).dropLast else false) = _
        rw [List.getLast?_concat, List.dropLast_concat]
        cases g <;> simp
      rw [hs]
      have hne : ¬ T = "" := by
        rintro rfl
        have : (("" : Str)).length = 0 := rfl
        omega
      have he := eq_emp T
      rw [decide_eq_false hne] at he
      have hf : ((cpsL T).filter fun c => !decide (c ∈ cpsL "ak")) = [] := by
        rw [List.filter_eq_nil_iff]
        intro c hc
        rw [h] at hc
        obtain ⟨g, _, rfl⟩ := List.mem_map.mp hc
        cases g <;> decide +kernel
      have k := flt_lc2 (Z := z.d) (Y := y.d) (T := T) (by omega)
      rw [hf, List.map_nil] at k
      have hn : cmpD .NotEq (.list []) (.list []) = some (.sh (.bool false)) := ne_strs [] (fun s hs => by cases hs)
      apply wx_nx (lp_lst k he hn)
      apply wx_nx lp_4
      have hS : cpsL (cutS T none (some (-1))) = w.map sgn := by
        rw [cut_cps, h, cut_to1, List.map_append, List.map_singleton, List.dropLast_concat]
      apply wx_seq
      apply wx_for (ds := w.map fun g => PyData.str (sgT g)) (ws := []) (ε1 := [.sh z.d, .sh y.d, .sh (.str T), .no, .ls [.int z.f, .int y.f]]) fun i ε => ∃ c3 : C, ε = [.sh z.d, .sh y.d, .sh (.str T), c3, .ls [.int (en z z.f (w.take i)), .int (en y y.f (w.take i))]]
      · refine src_f (d := .str (cutS T none (some (-1)))) ?_ ?_
        · have hl2 : T.length ≤ sizeLine := by rw [sizeLine_eq]; omega
          have hl3 : T.length ≤ 16777216 := by omega
          generalize z.d = Z
          generalize y.d = Y
          generalize z.f = a
          generalize y.f = b
          generalize hcs : cutS T none (some (-1)) = S at *
          clear h hl hne he hf k hn hS hs hTl hT
          walk_at "es"
        · rw [chars_items, hS, List.map_map]
          congr 1
          refine List.map_congr_left fun g _ => ?_
          exact sgT_c g
      · rfl
      · exact ⟨_, rfl⟩
      · intro i ε _ j hj
        cases hj
      · rintro i d ε hd ⟨c3, rfl⟩
        rw [List.getElem?_map] at hd
        obtain ⟨b, hb, rfl⟩ := Option.map_eq_some_iff.mp hd
        obtain ⟨hi, hib⟩ := List.getElem?_eq_some_iff.mp hb
        have e1 : ∀ (p : Pz) (u : Int), en p u (w.take (i + 1)) = on p (en p u (w.take i)) b := by
          intro p u
          rw [List.take_succ_eq_append_getElem hi, hib]
          show List.foldl _ _ _ = _
          rw [List.foldl_append]
          rfl
        refine ⟨[.sh z.d, .sh y.d, .sh (.str T), .sh (.str (sgT b)), .ls [.int (en z z.f (w.take i)), .int (en y y.f (w.take i))]], rfl, ?_⟩
        apply wx_nx lp_5
        exact wx_skip ⟨_, by rw [e1, e1]⟩
      · rintro ε ⟨c3, rfl⟩
        rw [List.length_map, List.take_length]
        have ht : T.cps.toList.getLast? = some (sgn g) := by
          have : T.cps.toList = (w ++ [g]).map sgn := h
          rw [this, List.map_append, List.map_singleton, List.getLast?_concat]
        exact wx_rt (lp_6 (by omega) ht) ⟨rfl, rfl⟩
end KW
namespace KW
open PySem PySem.Spec PyProof.Rows L2 L2.M
local macro_rules | `(tactic| walk_at "ev") => `(tactic| simp [semF, shared, after, mSeq, mSkip, mIf, mRet, mRetN, mRetV, mSet, mSetIx, mExpr, mB, mU, mTm, mPl, mK, mVar, mOp, mCons, mNil, bor, bors, mTst, mAndT, mOrT, mNotT, mAndE, mOrE, mNotE, mIfE, mIsi, isiD, mChn, chnL, cmpD, binD, addD, subD, mulD, modD, fdivD, powD, eqD, neD, ltD, leD, gtD, geD, isD, isnD, L2.M.isNon, negD, ixD, Bf.f, Bg.f, lenD, L2.M.intD, maxD, minD, repD, strD, gmaxD, gminD, sumD, sortD, anyD, allD, mCall, frz, fzO, lend, wb, mTup, mLst, fzs, cD, mAsg, bTup, bTps, mApp, tupD, lstD, mRev, revD, ofs_inj, ee_ii, ee_ss, ee_bb, ee_nn, ee_is, ee_si, ee_in, ee_ni, ee_tt, ee_ll, ee_maps, ee_0, ee_1, ee_2, ee_3, at_lit, at_nat, at_m1, at_m2, scD, emD, sizeLine_eq, ixN, sm_lit, mSrc, itemsD, plOf, rng1D, bNm, mSl, mPt, mNoP, slD, mPar, keepT, tmsO, setA, mFlow, zipX, enumX, itemsX, intsOf, ints_all, boolsOf, shaped_lay, lay_int, lay_bool, lay_none, lay_dict, lay_tup, lay_list, lay_ints, sortX_ints, mPlF, mPlI, mRd, mPU, mPB, mFSet, mFNew, mNSet, mPApp, mPSetIx, mPPop, mMeth, mNew, isIns, cellO, mLstN, mAddN, mAppN, semX, mTold, mCallX, xRet, xExpr, xSet, mRaise, mM, isL, isS, mOrV, truD])
local macro_rules | `(tactic| walk_at "es") => `(tactic| simp [semF, shared, after, mSeq, mSkip, mIf, mRet, mRetN, mRetV, mSet, mSetIx, mExpr, mB, mU, mTm, mPl, mK, mVar, mOp, mCons, mNil, bor, bors, mTst, mAndT, mOrT, mNotT, mAndE, mOrE, mNotE, mIfE, mIsi, isiD, mChn, chnL, cmpD, binD, addD, subD, mulD, modD, fdivD, powD, eqD, neD, ltD, leD, gtD, geD, isD, isnD, L2.M.isNon, negD, ixD, Bf.f, Bg.f, lenD, L2.M.intD, maxD, minD, repD, strD, gmaxD, gminD, sumD, sortD, anyD, allD, mCall, frz, fzO, lend, wb, mTup, mLst, fzs, cD, mAsg, bTup, bTps, mApp, tupD, lstD, mRev, revD, ofs_inj, ee_ii, ee_ss, ee_bb, ee_nn, ee_is, ee_si, ee_in, ee_ni, ee_tt, ee_ll, ee_maps, ee_0, ee_1, ee_2, ee_3, at_lit, at_nat, at_m1, at_m2, scD, emD, sizeLine_eq, ixN, sm_lit, mSrc, itemsD, plOf, rng1D, bNm, mSl, mPt, mNoP, slD, mPar, keepT, tmsO, setA, mFlow, zipX, enumX, itemsX, intsOf, ints_all, boolsOf, shaped_lay, lay_int, lay_bool, lay_none, lay_dict, lay_tup, lay_list, lay_ints, sortX_ints, mPlF, mPlI, mRd, mPU, mPB, mFSet, mFNew, mNSet, mPApp, mPSetIx, mPPop, mMeth, mNew, isIns, cellO, mLstN, mAddN, mAppN, semX, mTold, mCallX, xRet, xExpr, xSet, mRaise, mM, isL, isS, mOrV, truD, *])
local macro_rules | `(tactic| walk_at "el") => `(tactic| simp [semF, shared, after, mSeq, mSkip, mIf, mRet, mRetN, mRetV, mSet, mSetIx, mExpr, mB, mU, mTm, mPl, mK, mVar, mOp, mCons, mNil, bor, bors, mTst, mAndT, mOrT, mNotT, mAndE, mOrE, mNotE, mIfE, mIsi, isiD, mChn, chnL, cmpD, binD, addD, subD, mulD, modD, fdivD, powD, eqD, neD, ltD, leD, gtD, geD, isD, isnD, L2.M.isNon, negD, ixD, Bf.f, Bg.f, lenD, L2.M.intD, maxD, minD, repD, strD, gmaxD, gminD, sumD, sortD, anyD, allD, mCall, frz, fzO, lend, wb, mTup, mLst, fzs, cD, mAsg, bTup, bTps, mApp, tupD, lstD, mRev, revD, ofs_inj, ee_ii, ee_ss, ee_bb, ee_nn, ee_is, ee_si, ee_in, ee_ni, ee_tt, ee_ll, ee_maps, ee_0, ee_1, ee_2, ee_3, at_lit, at_nat, at_m1, at_m2, scD, emD, sizeLine_eq, ixN, sm_lit, mSrc, itemsD, plOf, rng1D, bNm, mSl, mPt, mNoP, slD, mPar, keepT, tmsO, setA, mFlow, zipX, enumX, itemsX, intsOf, ints_all, boolsOf, shaped_lay, lay_int, lay_bool, lay_none, lay_dict, lay_tup, lay_list, lay_ints, sortX_ints, mPlF, mPlI, mRd, mPU, mPB, mFSet, mFNew, mNSet, mPApp, mPSetIx, mPPop, mMeth, mNew, isIns, cellO, mLstN, mAddN, mAppN, semX, mTold, mCallX, xRet, xExpr, xSet, mRaise, mM, isL, isS, mOrV, truD, mLc, lcL, sameC, wipeC, restC, mYes, *])
local macro_rules | `(tactic| walk_at "ef") => `(tactic| simp [semF, shared, after, mSeq, mSkip, mIf, mRet, mRetN, mRetV, mSet, mSetIx, mExpr, mB, mU, mTm, mPl, mK, mVar, mOp, mCons, mNil, bor, bors, mTst, mAndT, mOrT, mNotT, mAndE, mOrE, mNotE, mIfE, mIsi, isiD, mChn, chnL, cmpD, binD, addD, subD, mulD, modD, fdivD, powD, eqD, neD, ltD, leD, gtD, geD, isD, isnD, L2.M.isNon, negD, ixD, Bf.f, Bg.f, lenD, L2.M.intD, maxD, minD, repD, strD, gmaxD, gminD, sumD, sortD, anyD, allD, mCall, frz, fzO, lend, wb, mTup, mLst, fzs, cD, mAsg, bTup, bTps, mApp, tupD, lstD, mRev, revD, ofs_inj, ee_ii, ee_ss, ee_bb, ee_nn, ee_is, ee_si, ee_in, ee_ni, ee_tt, ee_ll, ee_maps, ee_0, ee_1, ee_2, ee_3, at_lit, at_nat, at_m1, at_m2, scD, emD, sizeLine_eq, ixN, sm_lit, mSrc, itemsD, plOf, rng1D, bNm, mSl, mPt, mNoP, slD, mPar, keepT, tmsO, setA, mFlow, zipX, enumX, itemsX, intsOf, ints_all, boolsOf, shaped_lay, lay_int, lay_bool, lay_none, lay_dict, lay_tup, lay_list, lay_ints, sortX_ints, mPlF, mPlI, mRd, mPU, mPB, mFSet, mFNew, mNSet, mPApp, mPSetIx, mPPop, mMeth, mNew, isIns, cellO, mLstN, mAddN, mAppN, semX, mTold, mCallX, xRet, xExpr, xSet, mRaise, mM, isL, isS, mOrV, truD, mFor, forL, mLc, lcL, sameC, wipeC, restC, mYes, *])
local macro_rules | `(tactic| walk_at "rg") => `(tactic| (and_intros <;> grind))
local macro_rules | `(tactic| walk_at "nx") => `(tactic| (apply wx_nx; focus (walk_at "ev"; try first | exact ⟨rfl, rfl⟩ | rfl)))
local macro_rules | `(tactic| walk_at "ns") => `(tactic| (apply wx_nx; focus (walk_at "es"; try first | exact ⟨rfl, rfl⟩ | rfl)))
local macro_rules | `(tactic| walk_at "rt") => `(tactic| (apply wx_rt; focus (walk_at "ev"; try first | exact ⟨rfl, rfl⟩ | rfl)))
local macro_rules | `(tactic| walk_at "rs") => `(tactic| (apply wx_rt; focus (walk_at "es"; try first | exact ⟨rfl, rfl⟩ | rfl)))
local macro_rules | `(tactic| walk_at "ed") => `(tactic| simp [semF, shared, after, mSeq, mSkip, mIf, mRet, mRetN, mRetV, mSet, mSetIx, mExpr, mB, mU, mTm, mPl, mK, mVar, mOp, mCons, mNil, bor, bors, mTst, mAndT, mOrT, mNotT, mAndE, mOrE, mNotE, mIfE, mIsi, isiD, mChn, chnL, cmpD, binD, addD, subD, mulD, modD, fdivD, powD, eqD, neD, ltD, leD, gtD, geD, isD, isnD, L2.M.isNon, negD, ixD, Bf.f, Bg.f, lenD, L2.M.intD, maxD, minD, repD, strD, gmaxD, gminD, sumD, sortD, anyD, allD, mCall, frz, fzO, lend, wb, mTup, mLst, fzs, cD, mAsg, bTup, bTps, mApp, tupD, lstD, mRev, revD, ofs_inj, ee_ii, ee_ss, ee_bb, ee_nn, ee_is, ee_si, ee_in, ee_ni, ee_tt, ee_ll, ee_maps, ee_0, ee_1, ee_2, ee_3, at_lit, at_nat, at_m1, at_m2, scD, emD, sizeLine_eq, ixN, sm_lit, mSrc, itemsD, plOf, rng1D, bNm, mSl, mPt, mNoP, slD, mPar, keepT, tmsO, setA, mFlow, zipX, enumX, itemsX, intsOf, ints_all, boolsOf, shaped_lay, lay_int, lay_bool, lay_none, lay_dict, lay_tup, lay_list, lay_ints, sortX_ints, mPlF, mPlI, mRd, mPU, mPB, mFSet, mFNew, mNSet, mPApp, mPSetIx, mPPop, mMeth, mNew, isIns, cellO, mLstN, mAddN, mAppN, semX, mTold, mCallX, xRet, xExpr, xSet, mRaise, mM, isL, isS, mOrV, truD, mDNew, mDIn, mDGet, mDLen, mDPut, kyD, mNNew, mN1, mTake, mFnV, mCallF, mNIn, mNGet, mNPut, mNVals, mNList, nKs, mDGetD, mDList, mNNe, *])
@[simp] theorem next_eq (s : Int) : g_law_next [.sh (.int s)] = some (.sh (.int (nxt s)), [.sh (.int s)]) := by
  have h1 : sm ((s + 7919) % 2147483647) := ⟨by omega, by omega⟩
  unfold g_law_next m_law_next nxt
  walk_at "es"
theorem cell_eq (ns : List Int) (k : Nat) : g_law_cell_at [.sh (.list (ns.map PyData.int)), .sh (.int k)] = some (.sh (.int (ns.getD k 0)), [.sh (.list (ns.map PyData.int)), .sh (.int k)]) := by
  unfold g_law_cell_at m_law_cell_at
  by_cases h : k < ns.length
  · walk_at "es"
  · walk_at "es"
@[simp] theorem cell0_eq (ns : List Int) : g_law_cell_at [.sh (.list (ns.map PyData.int)), .sh (.int 0)] = some (.sh (.int (ns.getD 0 0)), [.sh (.list (ns.map PyData.int)), .sh (.int 0)]) := cell_eq ns 0
@[simp] theorem pen_eq (x : Int) : g_law_pen_of [.sh (.int x)] = some (.ls (penL (pnOf x)), [.sh (.int x)]) := by
  unfold g_law_pen_of m_law_pen_of pnOf penL
  walk_at "es"
@[simp] theorem draw_eq (p : Pn) (n : Int) (h0 : 0 < n) (h1 : sm n) : g_law_draw [.ls (penL p), .sh (.int n)] = some (.sh (.int (dr p n)), [.ls (penL (dn p n)), .sh (.int n)]) := by
  unfold g_law_draw m_law_draw dr dn penL
  by_cases hb : p.b = 1
  · by_cases hl : 0 < p.l
    · walk_at "es"
    · walk_at "es"
  · walk_at "es"
/-- the cells that a law goes through: the script's first ones -/
theorem cells_int (ns : List Int) (k : Int) (d : PyData) (h : d ∈ (PyData.int (ns.getD 0 0)) :: (L2.M.cutL ns (some 1) (some k)).map PyData.int) : ∃ x, d = .int x := by
  simp only [List.mem_cons, List.mem_map] at h
  rcases h with h | ⟨y, _, h⟩
  · exact ⟨_, h⟩
  · exact ⟨_, h.symm⟩
end KW
namespace KW
open PySem PySem.Spec PyProof.Rows L2 L2.M
local macro_rules | `(tactic| walk_at "ev") => `(tactic| simp [semF, shared, after, mSeq, mSkip, mIf, mRet, mRetN, mRetV, mSet, mSetIx, mExpr, mB, mU, mTm, mPl, mK, mVar, mOp, mCons, mNil, bor, bors, mTst, mAndT, mOrT, mNotT, mAndE, mOrE, mNotE, mIfE, mIsi, isiD, mChn, chnL, cmpD, binD, addD, subD, mulD, modD, fdivD, powD, eqD, neD, ltD, leD, gtD, geD, isD, isnD, L2.M.isNon, negD, ixD, Bf.f, Bg.f, lenD, L2.M.intD, maxD, minD, repD, strD, gmaxD, gminD, sumD, sortD, anyD, allD, mCall, frz, fzO, lend, wb, mTup, mLst, fzs, cD, mAsg, bTup, bTps, mApp, tupD, lstD, mRev, revD, ofs_inj, ee_ii, ee_ss, ee_bb, ee_nn, ee_is, ee_si, ee_in, ee_ni, ee_tt, ee_ll, ee_maps, ee_0, ee_1, ee_2, ee_3, at_lit, at_nat, at_m1, at_m2, scD, emD, sizeLine_eq, ixN, sm_lit, mSrc, itemsD, plOf, rng1D, bNm, mSl, mPt, mNoP, slD, mPar, keepT, tmsO, setA, mFlow, zipX, enumX, itemsX, intsOf, ints_all, boolsOf, shaped_lay, lay_int, lay_bool, lay_none, lay_dict, lay_tup, lay_list, lay_ints, sortX_ints, mPlF, mPlI, mRd, mPU, mPB, mFSet, mFNew, mNSet, mPApp, mPSetIx, mPPop, mMeth, mNew, isIns, cellO, mLstN, mAddN, mAppN, semX, mTold, mCallX, xRet, xExpr, xSet, mRaise, mM, isL, isS, mOrV, truD])
local macro_rules | `(tactic| walk_at "es") => `(tactic| simp [semF, shared, after, mSeq, mSkip, mIf, mRet, mRetN, mRetV, mSet, mSetIx, mExpr, mB, mU, mTm, mPl, mK, mVar, mOp, mCons, mNil, bor, bors, mTst, mAndT, mOrT, mNotT, mAndE, mOrE, mNotE, mIfE, mIsi, isiD, mChn, chnL, cmpD, binD, addD, subD, mulD, modD, fdivD, powD, eqD, neD, ltD, leD, gtD, geD, isD, isnD, L2.M.isNon, negD, ixD, Bf.f, Bg.f, lenD, L2.M.intD, maxD, minD, repD, strD, gmaxD, gminD, sumD, sortD, anyD, allD, mCall, frz, fzO, lend, wb, mTup, mLst, fzs, cD, mAsg, bTup, bTps, mApp, tupD, lstD, mRev, revD, ofs_inj, ee_ii, ee_ss, ee_bb, ee_nn, ee_is, ee_si, ee_in, ee_ni, ee_tt, ee_ll, ee_maps, ee_0, ee_1, ee_2, ee_3, at_lit, at_nat, at_m1, at_m2, scD, emD, sizeLine_eq, ixN, sm_lit, mSrc, itemsD, plOf, rng1D, bNm, mSl, mPt, mNoP, slD, mPar, keepT, tmsO, setA, mFlow, zipX, enumX, itemsX, intsOf, ints_all, boolsOf, shaped_lay, lay_int, lay_bool, lay_none, lay_dict, lay_tup, lay_list, lay_ints, sortX_ints, mPlF, mPlI, mRd, mPU, mPB, mFSet, mFNew, mNSet, mPApp, mPSetIx, mPPop, mMeth, mNew, isIns, cellO, mLstN, mAddN, mAppN, semX, mTold, mCallX, xRet, xExpr, xSet, mRaise, mM, isL, isS, mOrV, truD, *])
local macro_rules | `(tactic| walk_at "el") => `(tactic| simp [semF, shared, after, mSeq, mSkip, mIf, mRet, mRetN, mRetV, mSet, mSetIx, mExpr, mB, mU, mTm, mPl, mK, mVar, mOp, mCons, mNil, bor, bors, mTst, mAndT, mOrT, mNotT, mAndE, mOrE, mNotE, mIfE, mIsi, isiD, mChn, chnL, cmpD, binD, addD, subD, mulD, modD, fdivD, powD, eqD, neD, ltD, leD, gtD, geD, isD, isnD, L2.M.isNon, negD, ixD, Bf.f, Bg.f, lenD, L2.M.intD, maxD, minD, repD, strD, gmaxD, gminD, sumD, sortD, anyD, allD, mCall, frz, fzO, lend, wb, mTup, mLst, fzs, cD, mAsg, bTup, bTps, mApp, tupD, lstD, mRev, revD, ofs_inj, ee_ii, ee_ss, ee_bb, ee_nn, ee_is, ee_si, ee_in, ee_ni, ee_tt, ee_ll, ee_maps, ee_0, ee_1, ee_2, ee_3, at_lit, at_nat, at_m1, at_m2, scD, emD, sizeLine_eq, ixN, sm_lit, mSrc, itemsD, plOf, rng1D, bNm, mSl, mPt, mNoP, slD, mPar, keepT, tmsO, setA, mFlow, zipX, enumX, itemsX, intsOf, ints_all, boolsOf, shaped_lay, lay_int, lay_bool, lay_none, lay_dict, lay_tup, lay_list, lay_ints, sortX_ints, mPlF, mPlI, mRd, mPU, mPB, mFSet, mFNew, mNSet, mPApp, mPSetIx, mPPop, mMeth, mNew, isIns, cellO, mLstN, mAddN, mAppN, semX, mTold, mCallX, xRet, xExpr, xSet, mRaise, mM, isL, isS, mOrV, truD, mLc, lcL, sameC, wipeC, restC, mYes, *])
local macro_rules | `(tactic| walk_at "ef") => `(tactic| simp [semF, shared, after, mSeq, mSkip, mIf, mRet, mRetN, mRetV, mSet, mSetIx, mExpr, mB, mU, mTm, mPl, mK, mVar, mOp, mCons, mNil, bor, bors, mTst, mAndT, mOrT, mNotT, mAndE, mOrE, mNotE, mIfE, mIsi, isiD, mChn, chnL, cmpD, binD, addD, subD, mulD, modD, fdivD, powD, eqD, neD, ltD, leD, gtD, geD, isD, isnD, L2.M.isNon, negD, ixD, Bf.f, Bg.f, lenD, L2.M.intD, maxD, minD, repD, strD, gmaxD, gminD, sumD, sortD, anyD, allD, mCall, frz, fzO, lend, wb, mTup, mLst, fzs, cD, mAsg, bTup, bTps, mApp, tupD, lstD, mRev, revD, ofs_inj, ee_ii, ee_ss, ee_bb, ee_nn, ee_is, ee_si, ee_in, ee_ni, ee_tt, ee_ll, ee_maps, ee_0, ee_1, ee_2, ee_3, at_lit, at_nat, at_m1, at_m2, scD, emD, sizeLine_eq, ixN, sm_lit, mSrc, itemsD, plOf, rng1D, bNm, mSl, mPt, mNoP, slD, mPar, keepT, tmsO, setA, mFlow, zipX, enumX, itemsX, intsOf, ints_all, boolsOf, shaped_lay, lay_int, lay_bool, lay_none, lay_dict, lay_tup, lay_list, lay_ints, sortX_ints, mPlF, mPlI, mRd, mPU, mPB, mFSet, mFNew, mNSet, mPApp, mPSetIx, mPPop, mMeth, mNew, isIns, cellO, mLstN, mAddN, mAppN, semX, mTold, mCallX, xRet, xExpr, xSet, mRaise, mM, isL, isS, mOrV, truD, mFor, forL, mLc, lcL, sameC, wipeC, restC, mYes, *])
local macro_rules | `(tactic| walk_at "rg") => `(tactic| (and_intros <;> grind))
local macro_rules | `(tactic| walk_at "nx") => `(tactic| (apply wx_nx; focus (walk_at "ev"; try first | exact ⟨rfl, rfl⟩ | rfl)))
local macro_rules | `(tactic| walk_at "ns") => `(tactic| (apply wx_nx; focus (walk_at "es"; try first | exact ⟨rfl, rfl⟩ | rfl)))
local macro_rules | `(tactic| walk_at "rt") => `(tactic| (apply wx_rt; focus (walk_at "ev"; try first | exact ⟨rfl, rfl⟩ | rfl)))
local macro_rules | `(tactic| walk_at "rs") => `(tactic| (apply wx_rt; focus (walk_at "es"; try first | exact ⟨rfl, rfl⟩ | rfl)))
local macro_rules | `(tactic| walk_at "ed") => `(tactic| simp [semF, shared, after, mSeq, mSkip, mIf, mRet, mRetN, mRetV, mSet, mSetIx, mExpr, mB, mU, mTm, mPl, mK, mVar, mOp, mCons, mNil, bor, bors, mTst, mAndT, mOrT, mNotT, mAndE, mOrE, mNotE, mIfE, mIsi, isiD, mChn, chnL, cmpD, binD, addD, subD, mulD, modD, fdivD, powD, eqD, neD, ltD, leD, gtD, geD, isD, isnD, L2.M.isNon, negD, ixD, Bf.f, Bg.f, lenD, L2.M.intD, maxD, minD, repD, strD, gmaxD, gminD, sumD, sortD, anyD, allD, mCall, frz, fzO, lend, wb, mTup, mLst, fzs, cD, mAsg, bTup, bTps, mApp, tupD, lstD, mRev, revD, ofs_inj, ee_ii, ee_ss, ee_bb, ee_nn, ee_is, ee_si, ee_in, ee_ni, ee_tt, ee_ll, ee_maps, ee_0, ee_1, ee_2, ee_3, at_lit, at_nat, at_m1, at_m2, scD, emD, sizeLine_eq, ixN, sm_lit, mSrc, itemsD, plOf, rng1D, bNm, mSl, mPt, mNoP, slD, mPar, keepT, tmsO, setA, mFlow, zipX, enumX, itemsX, intsOf, ints_all, boolsOf, shaped_lay, lay_int, lay_bool, lay_none, lay_dict, lay_tup, lay_list, lay_ints, sortX_ints, mPlF, mPlI, mRd, mPU, mPB, mFSet, mFNew, mNSet, mPApp, mPSetIx, mPPop, mMeth, mNew, isIns, cellO, mLstN, mAddN, mAppN, semX, mTold, mCallX, xRet, xExpr, xSet, mRaise, mM, isL, isS, mOrV, truD, mDNew, mDIn, mDGet, mDLen, mDPut, kyD, mNNew, mN1, mTake, mFnV, mCallF, mNIn, mNGet, mNPut, mNVals, mNList, nKs, mDGetD, mDList, mNNe, *])
theorem sm_1 {P P2 : List PyData} {m v : Int} (f : g_law_draw [.ls P, .sh (.int (m + 1))] = some (.sh (.int v), [.ls P2, .sh (.int (m + 1))])) : (mSet [0, 1] 2 (mCall [true, true] g_law_draw (mCons (mPl 0) (mCons (mTm (mB (binD .Add) (mPl 1) (mTm (mK (.int 1))))) (mNil))))) [.ls P, .sh (.int m), .no, .no] = some (.nx, [.ls P2, .sh (.int m), .sh (.int v), .no]) := by
  generalize g_law_draw = G at *
  walk_at "es"
theorem sm_2 {P P2 P3 : List PyData} {m v a b : Int} (f1 : g_law_draw [.ls P, .sh (.int 9)] = some (.sh (.int a), [.ls P2, .sh (.int 9)])) (f2 : g_law_draw [.ls P2, .sh (.int 9)] = some (.sh (.int b), [.ls P3, .sh (.int 9)])) : (mSet [0, 1] 3 (mTup (mCons (mTm (mCall [true, true] g_law_draw (mCons (mPl 0) (mCons (mTm (mK (.int 9))) (mNil))))) (mCons (mTm (mB (binD .Add) (mTm (mK (.int 1))) (mTm (mCall [true, true] g_law_draw (mCons (mPl 0) (mCons (mTm (mK (.int 9))) (mNil))))))) (mCons (mPl 2) (mNil)))))) [.ls P, .sh (.int m), .sh (.int v), .no] = some (.nx, [.ls P3, .sh (.int m), .sh (.int v), .sh (.tuple [.int a, .int (1 + b), .int v])]) := by
  generalize g_law_draw = G at *
  walk_at "es"
theorem sm_3 {P P2 P3 : List PyData} {m v a b x w f : Int} (f1 : g_law_draw [.ls P, .sh (.int (v + 1))] = some (.sh (.int x), [.ls P2, .sh (.int (v + 1))])) (f2 : g_law_draw [.ls P2, .sh (.int 3)] = some (.sh (.int w), [.ls P3, .sh (.int 3)])) (h : atI ([.int 0, .int v, .int x] : List PyData) w = some (.int f)) : (mRet (mB (binD .Add) (mPl 3) (mTm (mTup (mCons (mTm (mB ixD (mTm (mLst (mCons (mTm (mK (.int 0))) (mCons (mPl 2) (mCons (mTm (mCall [true, true] g_law_draw (mCons (mPl 0) (mCons (mTm (mB (binD .Add) (mPl 2) (mTm (mK (.int 1))))) (mNil))))) (mNil)))))) (mTm (mCall [true, true] g_law_draw (mCons (mPl 0) (mCons (mTm (mK (.int 3))) (mNil))))))) (mNil)))))) [.ls P, .sh (.int m), .sh (.int v), .sh (.tuple [.int a, .int b, .int v])] = some (.rt (.sh (.tuple [.int a, .int b, .int v, .int f])), [.ls P3, .sh (.int m), .sh (.int v), .sh (.tuple [.int a, .int b, .int v])]) := by
  generalize g_law_draw = G at *
  walk_at "es"
theorem f_b {v x f : Int} {p : Pn} (h0 : 0 ≤ v) (h1 : 0 ≤ x ∧ x < v + 1) (e : gt [0, v, x] (dr p 3) = f) : 0 ≤ f ∧ f ≤ v := by
  rw [← e]
  exact gd3 (P := fun f => 0 ≤ f ∧ f ≤ v) ⟨by omega, by omega, by omega⟩
theorem law_small_eq (p : Pn) {m : Int} (hm : 0 ≤ m ∧ m ≤ 1000) : Rt (g_law_small [.ls (penL p), .sh (.int m)]) fun c cs => ∃ (z : Pz) (q : Pn), z.Ok ∧ z.c ≤ m ∧ z.p ≤ 8 ∧ z.r ≤ 9 ∧ c = .sh z.d ∧ cs = [.ls (penL q), .sh (.int m)] := by
  unfold g_law_small m_law_small
  apply rt_sem rfl
  have d1 := draw_eq p (m + 1) (by omega) ⟨by omega, by omega⟩
  have v1 := dr_ab p (m + 1) (by omega)
  apply wx_nx (sm_1 d1)
  generalize dr p (m + 1) = v at *
  generalize dn p (m + 1) = p1 at *
  have d2 := draw_eq p1 9 (by decide) ⟨by decide, by decide⟩
  have v2 := dr_ab p1 9 (by decide)
  have d3 := draw_eq (dn p1 9) 9 (by decide) ⟨by decide, by decide⟩
  have v3 := dr_ab (dn p1 9) 9 (by decide)
  apply wx_nx (sm_2 d2 d3)
  generalize dr (dn p1 9) 9 = b at *
  generalize dr p1 9 = a at *
  generalize dn (dn p1 9) 9 = p2 at *
  have d4 := draw_eq p2 (v + 1) (by omega) ⟨by omega, by omega⟩
  have v4 := dr_ab p2 (v + 1) (by omega)
  generalize dr p2 (v + 1) = x at *
  generalize dn p2 (v + 1) = p3 at *
  have d5 := draw_eq p3 3 (by decide) ⟨by decide, by decide⟩
  generalize hf : gt [0, v, x] (dr p3 3) = f
  have hfb := f_b (by omega) v4 hf
  refine wx_rt (sm_3 d4 d5 (by rw [← hf]; exact pkd3)) ⟨⟨a, 1 + b, v, f⟩, _, ⟨by dsimp only; omega, by dsimp only; omega, by dsimp only; omega, by dsimp only; omega, by dsimp only; omega, by dsimp only; omega, by dsimp only; omega⟩, by dsimp only; omega, by dsimp only; omega, by dsimp only; omega, rfl, rfl⟩
end KW
namespace KW
open PySem PySem.Spec PyProof.Rows L2 L2.M
local macro_rules | `(tactic| walk_at "ev") => `(tactic| simp [semF, shared, after, mSeq, mSkip, mIf, mRet, mRetN, mRetV, mSet, mSetIx, mExpr, mB, mU, mTm, mPl, mK, mVar, mOp, mCons, mNil, bor, bors, mTst, mAndT, mOrT, mNotT, mAndE, mOrE, mNotE, mIfE, mIsi, isiD, mChn, chnL, cmpD, binD, addD, subD, mulD, modD, fdivD, powD, eqD, neD, ltD, leD, gtD, geD, isD, isnD, L2.M.isNon, negD, ixD, Bf.f, Bg.f, lenD, L2.M.intD, maxD, minD, repD, strD, gmaxD, gminD, sumD, sortD, anyD, allD, mCall, frz, fzO, lend, wb, mTup, mLst, fzs, cD, mAsg, bTup, bTps, mApp, tupD, lstD, mRev, revD, ofs_inj, ee_ii, ee_ss, ee_bb, ee_nn, ee_is, ee_si, ee_in, ee_ni, ee_tt, ee_ll, ee_maps, ee_0, ee_1, ee_2, ee_3, at_lit, at_nat, at_m1, at_m2, scD, emD, sizeLine_eq, ixN, sm_lit, mSrc, itemsD, plOf, rng1D, bNm, mSl, mPt, mNoP, slD, mPar, keepT, tmsO, setA, mFlow, zipX, enumX, itemsX, intsOf, ints_all, boolsOf, shaped_lay, lay_int, lay_bool, lay_none, lay_dict, lay_tup, lay_list, lay_ints, sortX_ints, mPlF, mPlI, mRd, mPU, mPB, mFSet, mFNew, mNSet, mPApp, mPSetIx, mPPop, mMeth, mNew, isIns, cellO, mLstN, mAddN, mAppN, semX, mTold, mCallX, xRet, xExpr, xSet, mRaise, mM, isL, isS, mOrV, truD])
local macro_rules | `(tactic| walk_at "es") => `(tactic| simp [semF, shared, after, mSeq, mSkip, mIf, mRet, mRetN, mRetV, mSet, mSetIx, mExpr, mB, mU, mTm, mPl, mK, mVar, mOp, mCons, mNil, bor, bors, mTst, mAndT, mOrT, mNotT, mAndE, mOrE, mNotE, mIfE, mIsi, isiD, mChn, chnL, cmpD, binD, addD, subD, mulD, modD, fdivD, powD, eqD, neD, ltD, leD, gtD, geD, isD, isnD, L2.M.isNon, negD, ixD, Bf.f, Bg.f, lenD, L2.M.intD, maxD, minD, repD, strD, gmaxD, gminD, sumD, sortD, anyD, allD, mCall, frz, fzO, lend, wb, mTup, mLst, fzs, cD, mAsg, bTup, bTps, mApp, tupD, lstD, mRev, revD, ofs_inj, ee_ii, ee_ss, ee_bb, ee_nn, ee_is, ee_si, ee_in, ee_ni, ee_tt, ee_ll, ee_maps, ee_0, ee_1, ee_2, ee_3, at_lit, at_nat, at_m1, at_m2, scD, emD, sizeLine_eq, ixN, sm_lit, mSrc, itemsD, plOf, rng1D, bNm, mSl, mPt, mNoP, slD, mPar, keepT, tmsO, setA, mFlow, zipX, enumX, itemsX, intsOf, ints_all, boolsOf, shaped_lay, lay_int, lay_bool, lay_none, lay_dict, lay_tup, lay_list, lay_ints, sortX_ints, mPlF, mPlI, mRd, mPU, mPB, mFSet, mFNew, mNSet, mPApp, mPSetIx, mPPop, mMeth, mNew, isIns, cellO, mLstN, mAddN, mAppN, semX, mTold, mCallX, xRet, xExpr, xSet, mRaise, mM, isL, isS, mOrV, truD, *])
local macro_rules | `(tactic| walk_at "el") => `(tactic| simp [semF, shared, after, mSeq, mSkip, mIf, mRet, mRetN, mRetV, mSet, mSetIx, mExpr, mB, mU, mTm, mPl, mK, mVar, mOp, mCons, mNil, bor, bors, mTst, mAndT, mOrT, mNotT, mAndE, mOrE, mNotE, mIfE, mIsi, isiD, mChn, chnL, cmpD, binD, addD, subD, mulD, modD, fdivD, powD, eqD, neD, ltD, leD, gtD, geD, isD, isnD, L2.M.isNon, negD, ixD, Bf.f, Bg.f, lenD, L2.M.intD, maxD, minD, repD, strD, gmaxD, gminD, sumD, sortD, anyD, allD, mCall, frz, fzO, lend, wb, mTup, mLst, fzs, cD, mAsg, bTup, bTps, mApp, tupD, lstD, mRev, revD, ofs_inj, ee_ii, ee_ss, ee_bb, ee_nn, ee_is, ee_si, ee_in, ee_ni, ee_tt, ee_ll, ee_maps, ee_0, ee_1, ee_2, ee_3, at_lit, at_nat, at_m1, at_m2, scD, emD, sizeLine_eq, ixN, sm_lit, mSrc, itemsD, plOf, rng1D, bNm, mSl, mPt, mNoP, slD, mPar, keepT, tmsO, setA, mFlow, zipX, enumX, itemsX, intsOf, ints_all, boolsOf, shaped_lay, lay_int, lay_bool, lay_none, lay_dict, lay_tup, lay_list, lay_ints, sortX_ints, mPlF, mPlI, mRd, mPU, mPB, mFSet, mFNew, mNSet, mPApp, mPSetIx, mPPop, mMeth, mNew, isIns, cellO, mLstN, mAddN, mAppN, semX, mTold, mCallX, xRet, xExpr, xSet, mRaise, mM, isL, isS, mOrV, truD, mLc, lcL, sameC, wipeC, restC, mYes, *])
local macro_rules | `(tactic| walk_at "ef") => `(tactic| simp [semF, shared, after, mSeq, mSkip, mIf, mRet, mRetN, mRetV, mSet, mSetIx, mExpr, mB, mU, mTm, mPl, mK, mVar, mOp, mCons, mNil, bor, bors, mTst, mAndT, mOrT, mNotT, mAndE, mOrE, mNotE, mIfE, mIsi, isiD, mChn, chnL, cmpD, binD, addD, subD, mulD, modD, fdivD, powD, eqD, neD, ltD, leD, gtD, geD, isD, isnD, L2.M.isNon, negD, ixD, Bf.f, Bg.f, lenD, L2.M.intD, maxD, minD, repD, strD, gmaxD, gminD, sumD, sortD, anyD, allD, mCall, frz, fzO, lend, wb, mTup, mLst, fzs, cD, mAsg, bTup, bTps, mApp, tupD, lstD, mRev, revD, ofs_inj, ee_ii, ee_ss, ee_bb, ee_nn, ee_is, ee_si, ee_in, ee_ni, ee_tt, ee_ll, ee_maps, ee_0, ee_1, ee_2, ee_3, at_lit, at_nat, at_m1, at_m2, scD, emD, sizeLine_eq, ixN, sm_lit, mSrc, itemsD, plOf, rng1D, bNm, mSl, mPt, mNoP, slD, mPar, keepT, tmsO, setA, mFlow, zipX, enumX, itemsX, intsOf, ints_all, boolsOf, shaped_lay, lay_int, lay_bool, lay_none, lay_dict, lay_tup, lay_list, lay_ints, sortX_ints, mPlF, mPlI, mRd, mPU, mPB, mFSet, mFNew, mNSet, mPApp, mPSetIx, mPPop, mMeth, mNew, isIns, cellO, mLstN, mAddN, mAppN, semX, mTold, mCallX, xRet, xExpr, xSet, mRaise, mM, isL, isS, mOrV, truD, mFor, forL, mLc, lcL, sameC, wipeC, restC, mYes, *])
local macro_rules | `(tactic| walk_at "rg") => `(tactic| (and_intros <;> grind))
local macro_rules | `(tactic| walk_at "nx") => `(tactic| (apply wx_nx; focus (walk_at "ev"; try first | exact ⟨rfl, rfl⟩ | rfl)))
local macro_rules | `(tactic| walk_at "ns") => `(tactic| (apply wx_nx; focus (walk_at "es"; try first | exact ⟨rfl, rfl⟩ | rfl)))
local macro_rules | `(tactic| walk_at "rt") => `(tactic| (apply wx_rt; focus (walk_at "ev"; try first | exact ⟨rfl, rfl⟩ | rfl)))
local macro_rules | `(tactic| walk_at "rs") => `(tactic| (apply wx_rt; focus (walk_at "es"; try first | exact ⟨rfl, rfl⟩ | rfl)))
local macro_rules | `(tactic| walk_at "ed") => `(tactic| simp [semF, shared, after, mSeq, mSkip, mIf, mRet, mRetN, mRetV, mSet, mSetIx, mExpr, mB, mU, mTm, mPl, mK, mVar, mOp, mCons, mNil, bor, bors, mTst, mAndT, mOrT, mNotT, mAndE, mOrE, mNotE, mIfE, mIsi, isiD, mChn, chnL, cmpD, binD, addD, subD, mulD, modD, fdivD, powD, eqD, neD, ltD, leD, gtD, geD, isD, isnD, L2.M.isNon, negD, ixD, Bf.f, Bg.f, lenD, L2.M.intD, maxD, minD, repD, strD, gmaxD, gminD, sumD, sortD, anyD, allD, mCall, frz, fzO, lend, wb, mTup, mLst, fzs, cD, mAsg, bTup, bTps, mApp, tupD, lstD, mRev, revD, ofs_inj, ee_ii, ee_ss, ee_bb, ee_nn, ee_is, ee_si, ee_in, ee_ni, ee_tt, ee_ll, ee_maps, ee_0, ee_1, ee_2, ee_3, at_lit, at_nat, at_m1, at_m2, scD, emD, sizeLine_eq, ixN, sm_lit, mSrc, itemsD, plOf, rng1D, bNm, mSl, mPt, mNoP, slD, mPar, keepT, tmsO, setA, mFlow, zipX, enumX, itemsX, intsOf, ints_all, boolsOf, shaped_lay, lay_int, lay_bool, lay_none, lay_dict, lay_tup, lay_list, lay_ints, sortX_ints, mPlF, mPlI, mRd, mPU, mPB, mFSet, mFNew, mNSet, mPApp, mPSetIx, mPPop, mMeth, mNew, isIns, cellO, mLstN, mAddN, mAppN, semX, mTold, mCallX, xRet, xExpr, xSet, mRaise, mM, isL, isS, mOrV, truD, mDNew, mDIn, mDGet, mDLen, mDPut, kyD, mNNew, mN1, mTake, mFnV, mCallF, mNIn, mNGet, mNPut, mNVals, mNList, nKs, mDGetD, mDList, mNNe, *])
theorem pr_1 {P P2 P3 : List PyData} {u v : Int} (f1 : g_law_draw [.ls P, .sh (.int 4)] = some (.sh (.int u), [.ls P2, .sh (.int 4)])) (f2 : g_law_draw [.ls P2, .sh (.int 4)] = some (.sh (.int v), [.ls P3, .sh (.int 4)])) : (mPar [0] [1, 2] (mCons (mTm (mCall [true, true] g_law_draw (mCons (mPl 0) (mCons (mTm (mK (.int 4))) (mNil))))) (mCons (mTm (mCall [true, true] g_law_draw (mCons (mPl 0) (mCons (mTm (mK (.int 4))) (mNil))))) (mNil)))) [.ls P, .no, .no, .no, .no, .no] = some (.nx, [.ls P3, .sh (.int u), .sh (.int v), .no, .no, .no]) := by
  generalize g_law_draw = G at *
  walk_at "es"
theorem pr_2 {P P2 P3 : List PyData} {c1 c2 : C} {u m : Int} {Z : PyData} (f1 : g_law_draw [.ls P, .sh (.int 3)] = some (.sh (.int u), [.ls P2, .sh (.int 3)])) (h : atI ([.int 12, .int 60, .int 62] : List PyData) u = some (.int m)) (f2 : g_law_small [.ls P2, .sh (.int m)] = some (.sh Z, [.ls P3, .sh (.int m)])) : (mSet [0] 3 (mCall [true, true] g_law_small (mCons (mPl 0) (mCons (mTm (mB ixD (mTm (mLst (mCons (mTm (mK (.int 12))) (mCons (mTm (mK (.int 60))) (mCons (mTm (mK (.int 62))) (mNil)))))) (mTm (mCall [true, true] g_law_draw (mCons (mPl 0) (mCons (mTm (mK (.int 3))) (mNil))))))) (mNil))))) [.ls P, c1, c2, .no, .no, .no] = some (.nx, [.ls P3, c1, c2, .sh Z, .no, .no]) := by
  generalize g_law_draw = G at *
  generalize g_law_small = G2 at *
  walk_at "es"
theorem pr_30 {c0 c2 : C} {Z : PyData} : (mIf (mTst (mB (cmpD .Eq) (mPl 1) (mTm (mK (.int 0))))) (mSeq (mRet (mTup (mCons (mPl 3) (mCons (mPl 3) (mNil))))) (mSkip)) (mSkip)) [c0, .sh (.int 0), c2, .sh Z, .no, .no] = some (.rt (.sh (.tuple [Z, Z])), [c0, .sh (.int 0), c2, .sh Z, .no, .no]) := by
  walk_at "es"
theorem pr_3n {c0 c2 : C} {Z : PyData} {w : Int} (h : ¬ w = 0) : (mIf (mTst (mB (cmpD .Eq) (mPl 1) (mTm (mK (.int 0))))) (mSeq (mRet (mTup (mCons (mPl 3) (mCons (mPl 3) (mNil))))) (mSkip)) (mSkip)) [c0, .sh (.int w), c2, .sh Z, .no, .no] = some (.nx, [c0, .sh (.int w), c2, .sh Z, .no, .no]) := by
  walk_at "es"
theorem pr_5 {P P2 P3 : List PyData} {c1 c2 : C} {u m : Int} {Z W : PyData} (f1 : g_law_draw [.ls P, .sh (.int 3)] = some (.sh (.int u), [.ls P2, .sh (.int 3)])) (h : atI ([.int 12, .int 60, .int 62] : List PyData) u = some (.int m)) (f2 : g_law_small [.ls P2, .sh (.int m)] = some (.sh W, [.ls P3, .sh (.int m)])) : (mRet (mTup (mCons (mPl 3) (mCons (mTm (mCall [true, true] g_law_small (mCons (mPl 0) (mCons (mTm (mB ixD (mTm (mLst (mCons (mTm (mK (.int 12))) (mCons (mTm (mK (.int 60))) (mCons (mTm (mK (.int 62))) (mNil)))))) (mTm (mCall [true, true] g_law_draw (mCons (mPl 0) (mCons (mTm (mK (.int 3))) (mNil))))))) (mNil))))) (mNil))))) [.ls P, c1, c2, .sh Z, .no, .no] = some (.rt (.sh (.tuple [Z, W])), [.ls P3, c1, c2, .sh Z, .no, .no]) := by
  generalize g_law_draw = G at *
  generalize g_law_small = G2 at *
  walk_at "es"
theorem pr_a0 {P P2 : List PyData} {c1 c5 : C} {p r c f u : Int} (f1 : g_law_draw [.ls P, .sh (.int 2)] = some (.sh (.int u), [.ls P2, .sh (.int 2)])) (su : sm u) : (mSet [0] 4 (mOp (Bf.f .max) (mCons (mTm (mOp (Bf.f .int) (mCons (mTm (mB (cmpD .Eq) (mPl 2) (mTm (mK (.int 1))))) (mNil)))) (mCons (mTm (mB (binD .Sub) (mTm (mB (binD .Add) (mTm (mB ixD (mPl 3) (mPl 2))) (mTm (mK (.int 1))))) (mTm (mB (binD .Mult) (mTm (mK (.int 2))) (mTm (mCall [true, true] g_law_draw (mCons (mPl 0) (mCons (mTm (mK (.int 2))) (mNil))))))))) (mNil))))) [.ls P, c1, .sh (.int 0), .sh (.tuple [.int p, .int r, .int c, .int f]), .no, c5] = some (.nx, [.ls P2, c1, .sh (.int 0), .sh (.tuple [.int p, .int r, .int c, .int f]), .sh (.int (if 0 < p + 1 - 2 * u then p + 1 - 2 * u else 0)), c5]) := by
  generalize g_law_draw = G at *
  have s2 : sm 2 := by decide
  have e : ∀ a b : Int, subD (.int a) (.int b) = some (.sh (.int (a - b))) := fun _ _ => rfl
  generalize hx : p + 1 - 2 * u = x at *
  walk_at "es"
theorem pr_b0 {c0 c1 : C} {p r c f t : Int} : (mSet [0] 5 (mB (binD .Add) (mTm (mB (binD .Add) (mTm (mSl (mPl 3) (mNoP) (mPt (mPl 2)))) (mTm (mTup (mCons (mPl 4) (mNil)))))) (mTm (mSl (mPl 3) (mPt (mTm (mB (binD .Add) (mPl 2) (mTm (mK (.int 1)))))) (mNoP))))) [c0, c1, .sh (.int 0), .sh (.tuple [.int p, .int r, .int c, .int f]), .sh (.int t), .no] = some (.nx, [c0, c1, .sh (.int 0), .sh (.tuple [.int p, .int r, .int c, .int f]), .sh (.int t), .sh (.tuple [.int t, .int r, .int c, .int f])]) := by
  have h1 : L2.M.cutL ([.int p, .int r, .int c, .int f] : List PyData) none (some 0) = [] := rfl
  have h2 : L2.M.cutL ([.int p, .int r, .int c, .int f] : List PyData) (some 1) none = [.int r, .int c, .int f] := rfl
  walk_at "es"
theorem pr_a1 {P P2 : List PyData} {c1 c5 : C} {p r c f u : Int} (f1 : g_law_draw [.ls P, .sh (.int 2)] = some (.sh (.int u), [.ls P2, .sh (.int 2)])) (su : sm u) : (mSet [0] 4 (mOp (Bf.f .max) (mCons (mTm (mOp (Bf.f .int) (mCons (mTm (mB (cmpD .Eq) (mPl 2) (mTm (mK (.int 1))))) (mNil)))) (mCons (mTm (mB (binD .Sub) (mTm (mB (binD .Add) (mTm (mB ixD (mPl 3) (mPl 2))) (mTm (mK (.int 1))))) (mTm (mB (binD .Mult) (mTm (mK (.int 2))) (mTm (mCall [true, true] g_law_draw (mCons (mPl 0) (mCons (mTm (mK (.int 2))) (mNil))))))))) (mNil))))) [.ls P, c1, .sh (.int 1), .sh (.tuple [.int p, .int r, .int c, .int f]), .no, c5] = some (.nx, [.ls P2, c1, .sh (.int 1), .sh (.tuple [.int p, .int r, .int c, .int f]), .sh (.int (if 1 < r + 1 - 2 * u then r + 1 - 2 * u else 1)), c5]) := by
  generalize g_law_draw = G at *
  have s2 : sm 2 := by decide
  have e : ∀ a b : Int, subD (.int a) (.int b) = some (.sh (.int (a - b))) := fun _ _ => rfl
  generalize hx : r + 1 - 2 * u = x at *
  walk_at "es"
theorem pr_b1 {c0 c1 : C} {p r c f t : Int} : (mSet [0] 5 (mB (binD .Add) (mTm (mB (binD .Add) (mTm (mSl (mPl 3) (mNoP) (mPt (mPl 2)))) (mTm (mTup (mCons (mPl 4) (mNil)))))) (mTm (mSl (mPl 3) (mPt (mTm (mB (binD .Add) (mPl 2) (mTm (mK (.int 1)))))) (mNoP))))) [c0, c1, .sh (.int 1), .sh (.tuple [.int p, .int r, .int c, .int f]), .sh (.int t), .no] = some (.nx, [c0, c1, .sh (.int 1), .sh (.tuple [.int p, .int r, .int c, .int f]), .sh (.int t), .sh (.tuple [.int p, .int t, .int c, .int f])]) := by
  have h1 : L2.M.cutL ([.int p, .int r, .int c, .int f] : List PyData) none (some 1) = [.int p] := rfl
  have h2 : L2.M.cutL ([.int p, .int r, .int c, .int f] : List PyData) (some 2) none = [.int c, .int f] := rfl
  walk_at "es"
theorem pr_a2 {P P2 : List PyData} {c1 c5 : C} {p r c f u : Int} (f1 : g_law_draw [.ls P, .sh (.int 2)] = some (.sh (.int u), [.ls P2, .sh (.int 2)])) (su : sm u) : (mSet [0] 4 (mOp (Bf.f .max) (mCons (mTm (mOp (Bf.f .int) (mCons (mTm (mB (cmpD .Eq) (mPl 2) (mTm (mK (.int 1))))) (mNil)))) (mCons (mTm (mB (binD .Sub) (mTm (mB (binD .Add) (mTm (mB ixD (mPl 3) (mPl 2))) (mTm (mK (.int 1))))) (mTm (mB (binD .Mult) (mTm (mK (.int 2))) (mTm (mCall [true, true] g_law_draw (mCons (mPl 0) (mCons (mTm (mK (.int 2))) (mNil))))))))) (mNil))))) [.ls P, c1, .sh (.int 2), .sh (.tuple [.int p, .int r, .int c, .int f]), .no, c5] = some (.nx, [.ls P2, c1, .sh (.int 2), .sh (.tuple [.int p, .int r, .int c, .int f]), .sh (.int (if 0 < c + 1 - 2 * u then c + 1 - 2 * u else 0)), c5]) := by
  generalize g_law_draw = G at *
  have s2 : sm 2 := by decide
  have e : ∀ a b : Int, subD (.int a) (.int b) = some (.sh (.int (a - b))) := fun _ _ => rfl
  generalize hx : c + 1 - 2 * u = x at *
  walk_at "es"
theorem pr_b2 {c0 c1 : C} {p r c f t : Int} : (mSet [0] 5 (mB (binD .Add) (mTm (mB (binD .Add) (mTm (mSl (mPl 3) (mNoP) (mPt (mPl 2)))) (mTm (mTup (mCons (mPl 4) (mNil)))))) (mTm (mSl (mPl 3) (mPt (mTm (mB (binD .Add) (mPl 2) (mTm (mK (.int 1)))))) (mNoP))))) [c0, c1, .sh (.int 2), .sh (.tuple [.int p, .int r, .int c, .int f]), .sh (.int t), .no] = some (.nx, [c0, c1, .sh (.int 2), .sh (.tuple [.int p, .int r, .int c, .int f]), .sh (.int t), .sh (.tuple [.int p, .int r, .int t, .int f])]) := by
  have h1 : L2.M.cutL ([.int p, .int r, .int c, .int f] : List PyData) none (some 2) = [.int p, .int r] := rfl
  have h2 : L2.M.cutL ([.int p, .int r, .int c, .int f] : List PyData) (some 3) none = [.int f] := rfl
  walk_at "es"
theorem pr_a3 {P P2 : List PyData} {c1 c5 : C} {p r c f u : Int} (f1 : g_law_draw [.ls P, .sh (.int 2)] = some (.sh (.int u), [.ls P2, .sh (.int 2)])) (su : sm u) : (mSet [0] 4 (mOp (Bf.f .max) (mCons (mTm (mOp (Bf.f .int) (mCons (mTm (mB (cmpD .Eq) (mPl 2) (mTm (mK (.int 1))))) (mNil)))) (mCons (mTm (mB (binD .Sub) (mTm (mB (binD .Add) (mTm (mB ixD (mPl 3) (mPl 2))) (mTm (mK (.int 1))))) (mTm (mB (binD .Mult) (mTm (mK (.int 2))) (mTm (mCall [true, true] g_law_draw (mCons (mPl 0) (mCons (mTm (mK (.int 2))) (mNil))))))))) (mNil))))) [.ls P, c1, .sh (.int 3), .sh (.tuple [.int p, .int r, .int c, .int f]), .no, c5] = some (.nx, [.ls P2, c1, .sh (.int 3), .sh (.tuple [.int p, .int r, .int c, .int f]), .sh (.int (if 0 < f + 1 - 2 * u then f + 1 - 2 * u else 0)), c5]) := by
  generalize g_law_draw = G at *
  have s2 : sm 2 := by decide
  have e : ∀ a b : Int, subD (.int a) (.int b) = some (.sh (.int (a - b))) := fun _ _ => rfl
  generalize hx : f + 1 - 2 * u = x at *
  walk_at "es"
theorem pr_b3 {c0 c1 : C} {p r c f t : Int} : (mSet [0] 5 (mB (binD .Add) (mTm (mB (binD .Add) (mTm (mSl (mPl 3) (mNoP) (mPt (mPl 2)))) (mTm (mTup (mCons (mPl 4) (mNil)))))) (mTm (mSl (mPl 3) (mPt (mTm (mB (binD .Add) (mPl 2) (mTm (mK (.int 1)))))) (mNoP))))) [c0, c1, .sh (.int 3), .sh (.tuple [.int p, .int r, .int c, .int f]), .sh (.int t), .no] = some (.nx, [c0, c1, .sh (.int 3), .sh (.tuple [.int p, .int r, .int c, .int f]), .sh (.int t), .sh (.tuple [.int p, .int r, .int c, .int t])]) := by
  have h1 : L2.M.cutL ([.int p, .int r, .int c, .int f] : List PyData) none (some 3) = [.int p, .int r, .int c] := rfl
  have h2 : L2.M.cutL ([.int p, .int r, .int c, .int f] : List PyData) (some 4) none = [] := rfl
  walk_at "es"
theorem pr_c {c0 c1 c2 c4 : C} {Z : PyData} {p r c f : Int} : (mRet (mTup (mCons (mPl 3) (mCons (mTm (mB (binD .Add) (mTm (mSl (mPl 5) (mNoP) (mPt (mTm (mK (.int 3)))))) (mTm (mTup (mCons (mTm (mOp (Bf.f .min) (mCons (mTm (mB ixD (mPl 5) (mTm (mK (.int 2))))) (mCons (mTm (mB ixD (mPl 5) (mTm (mK (.int 3))))) (mNil))))) (mNil)))))) (mNil))))) [c0, c1, c2, .sh Z, c4, .sh (.tuple [.int p, .int r, .int c, .int f])] = some (.rt (.sh (.tuple [Z, .tuple [.int p, .int r, .int c, .int (if f < c then f else c)]])), [c0, c1, c2, .sh Z, c4, .sh (.tuple [.int p, .int r, .int c, .int f])]) := by
  have h1 : L2.M.cutL ([.int p, .int r, .int c, .int f] : List PyData) none (some 3) = [.int p, .int r, .int c] := rfl
  walk_at "es"
theorem pr_t {c0 c2 : C} {Z : PyData} : mTst (mB (cmpD .Eq) (mPl 1) (mTm (mK (.int 1)))) [c0, .sh (.int 1), c2, .sh Z, .no, .no] = some (true, [c0, .sh (.int 1), c2, .sh Z, .no, .no]) := by
  walk_at "ev"
theorem pr_tn {c0 c2 : C} {Z : PyData} {w : Int} (h : ¬ w = 1) : mTst (mB (cmpD .Eq) (mPl 1) (mTm (mK (.int 1)))) [c0, .sh (.int w), c2, .sh Z, .no, .no] = some (false, [c0, .sh (.int w), c2, .sh Z, .no, .no]) := by
  walk_at "es"
theorem law_pair_eq (p : Pn) : Rt (g_law_pair [.ls (penL p)]) fun c cs => ∃ (z y : Pz) (q : Pn), z.Ok ∧ y.Ok ∧ z.c ≤ 63 ∧ y.c ≤ 63 ∧ c = .sh (.tuple [z.d, y.d]) ∧ cs = [.ls (penL q)] := by
  unfold g_law_pair m_law_pair
  apply rt_sem rfl
  have d1 := draw_eq p 4 (by decide) ⟨by decide, by decide⟩
  have v1 := dr_ab p 4 (by decide)
  generalize dr p 4 = w at *
  generalize dn p 4 = p1 at *
  have d2 := draw_eq p1 4 (by decide) ⟨by decide, by decide⟩
  have v2 := dr_ab p1 4 (by decide)
  generalize dr p1 4 = k at *
  generalize dn p1 4 = p2 at *
  apply wx_nx (pr_1 d1 d2)
  clear d1 d2
  have d3 := draw_eq p2 3 (by decide) ⟨by decide, by decide⟩
  have h3 : 0 ≤ gt [12, 60, 62] (dr p2 3) ∧ gt [12, 60, 62] (dr p2 3) ≤ 62 := gd3 (P := fun v => 0 ≤ v ∧ v ≤ 62) (by decide)
  obtain ⟨_, _, e4, z, p4, hz, hz1, hz2, hz3, rfl, rfl⟩ := law_small_eq (dn p2 3) (m := gt [12, 60, 62] (dr p2 3)) (by omega)
  apply wx_nx (pr_2 d3 pkd3 e4)
  clear d3 e4
  generalize gt [12, 60, 62] (dr p2 3) = m at *
  by_cases hw : w = 0
  · subst hw
    exact wx_rt pr_30 ⟨z, z, p4, hz, hz, by omega, by omega, rfl, rfl⟩
  · apply wx_nx (pr_3n hw)
    by_cases hw1 : w = 1
    · subst hw1
      have d5 := draw_eq p4 2 (by decide) ⟨by decide, by decide⟩
      have v5 := dr_ab p4 2 (by decide)
      generalize dr p4 2 = u at *
      generalize dn p4 2 = p5 at *
      have su : sm u := ⟨by omega, by omega⟩
      have p0 := hz.p0
      have r0 := hz.r0
      have f0 := hz.f0
      have f1 := hz.f1
      refine wx_ifs pr_t (fun _ => ?_) (fun h => by cases h)
      have hk : k = 0 ∨ k = 1 ∨ k = 2 ∨ k = 3 := by omega
      rcases hk with rfl | rfl | rfl | rfl
      · have a := pr_a0 (c1 := .sh (.int 1)) (c5 := .no) (p := z.p) (r := z.r) (c := z.c) (f := z.f) d5 su
        obtain ⟨t, ht⟩ : ∃ t, (if 0 < z.p + 1 - 2 * u then z.p + 1 - 2 * u else 0) = t := ⟨_, rfl⟩
        rw [ht] at a
        have tb : 0 ≤ t ∧ t ≤ z.p + 1 := by
          rw [← ht]
          split <;> omega
        apply wx_in
        apply wx_nx a
        apply wx_in
        apply wx_nx (pr_b0 (p := z.p) (r := z.r) (c := z.c) (f := z.f) (t := t))
        apply wx_in
        refine wx_rt pr_c ⟨z, ⟨t, z.r, z.c, (if z.f < z.c then z.f else z.c)⟩, p5, hz, ⟨by dsimp only; omega, by dsimp only; omega, by dsimp only; omega, by dsimp only; omega, by dsimp only; split <;> omega, by dsimp only; split <;> omega, by dsimp only; omega⟩, by omega, by dsimp only; omega, rfl, rfl⟩
      · have a := pr_a1 (c1 := .sh (.int 1)) (c5 := .no) (p := z.p) (r := z.r) (c := z.c) (f := z.f) d5 su
        obtain ⟨t, ht⟩ : ∃ t, (if 1 < z.r + 1 - 2 * u then z.r + 1 - 2 * u else 1) = t := ⟨_, rfl⟩
        rw [ht] at a
        have tb : 1 ≤ t ∧ t ≤ z.r + 1 := by
          rw [← ht]
          split <;> omega
        apply wx_in
        apply wx_nx a
        apply wx_in
        apply wx_nx (pr_b1 (p := z.p) (r := z.r) (c := z.c) (f := z.f) (t := t))
        apply wx_in
        refine wx_rt pr_c ⟨z, ⟨z.p, t, z.c, (if z.f < z.c then z.f else z.c)⟩, p5, hz, ⟨by dsimp only; omega, by dsimp only; omega, by dsimp only; omega, by dsimp only; omega, by dsimp only; split <;> omega, by dsimp only; split <;> omega, by dsimp only; omega⟩, by omega, by dsimp only; omega, rfl, rfl⟩
      · have a := pr_a2 (c1 := .sh (.int 1)) (c5 := .no) (p := z.p) (r := z.r) (c := z.c) (f := z.f) d5 su
        obtain ⟨t, ht⟩ : ∃ t, (if 0 < z.c + 1 - 2 * u then z.c + 1 - 2 * u else 0) = t := ⟨_, rfl⟩
        rw [ht] at a
        have tb : 0 ≤ t ∧ t ≤ z.c + 1 := by
          rw [← ht]
          split <;> omega
        apply wx_in
        apply wx_nx a
        apply wx_in
        apply wx_nx (pr_b2 (p := z.p) (r := z.r) (c := z.c) (f := z.f) (t := t))
        apply wx_in
        refine wx_rt pr_c ⟨z, ⟨z.p, z.r, t, (if z.f < t then z.f else t)⟩, p5, hz, ⟨by dsimp only; omega, by dsimp only; omega, by dsimp only; omega, by dsimp only; omega, by dsimp only; split <;> omega, by dsimp only; split <;> omega, by dsimp only; omega⟩, by omega, by dsimp only; omega, rfl, rfl⟩
      · have a := pr_a3 (c1 := .sh (.int 1)) (c5 := .no) (p := z.p) (r := z.r) (c := z.c) (f := z.f) d5 su
        obtain ⟨t, ht⟩ : ∃ t, (if 0 < z.f + 1 - 2 * u then z.f + 1 - 2 * u else 0) = t := ⟨_, rfl⟩
        rw [ht] at a
        have tb : 0 ≤ t ∧ t ≤ z.f + 1 := by
          rw [← ht]
          split <;> omega
        apply wx_in
        apply wx_nx a
        apply wx_in
        apply wx_nx (pr_b3 (p := z.p) (r := z.r) (c := z.c) (f := z.f) (t := t))
        apply wx_in
        refine wx_rt pr_c ⟨z, ⟨z.p, z.r, z.c, (if t < z.c then t else z.c)⟩, p5, hz, ⟨by dsimp only; omega, by dsimp only; omega, by dsimp only; omega, by dsimp only; omega, by dsimp only; split <;> omega, by dsimp only; split <;> omega, by dsimp only; omega⟩, by omega, by dsimp only; omega, rfl, rfl⟩
    · refine wx_ifs (pr_tn hw1) (fun h => by cases h) (fun _ => ?_)
      apply wx_sk
      have d5 := draw_eq p4 3 (by decide) ⟨by decide, by decide⟩
      have h5 : 0 ≤ gt [12, 60, 62] (dr p4 3) ∧ gt [12, 60, 62] (dr p4 3) ≤ 62 := gd3 (P := fun v => 0 ≤ v ∧ v ≤ 62) (by decide)
      obtain ⟨_, _, e6, y, p6, hy, hy1, _, _, rfl, rfl⟩ := law_small_eq (dn p4 3) (m := gt [12, 60, 62] (dr p4 3)) (by omega)
      refine wx_rt (pr_5 d5 pkd3 e6) ⟨z, y, p6, hz, hy, by omega, by omega, rfl, rfl⟩
end KW
namespace KW
open PySem PySem.Spec PyProof.Rows L2 L2.M
local macro_rules | `(tactic| walk_at "ev") => `(tactic| simp [semF, shared, after, mSeq, mSkip, mIf, mRet, mRetN, mRetV, mSet, mSetIx, mExpr, mB, mU, mTm, mPl, mK, mVar, mOp, mCons, mNil, bor, bors, mTst, mAndT, mOrT, mNotT, mAndE, mOrE, mNotE, mIfE, mIsi, isiD, mChn, chnL, cmpD, binD, addD, subD, mulD, modD, fdivD, powD, eqD, neD, ltD, leD, gtD, geD, isD, isnD, L2.M.isNon, negD, ixD, Bf.f, Bg.f, lenD, L2.M.intD, maxD, minD, repD, strD, gmaxD, gminD, sumD, sortD, anyD, allD, mCall, frz, fzO, lend, wb, mTup, mLst, fzs, cD, mAsg, bTup, bTps, mApp, tupD, lstD, mRev, revD, ofs_inj, ee_ii, ee_ss, ee_bb, ee_nn, ee_is, ee_si, ee_in, ee_ni, ee_tt, ee_ll, ee_maps, ee_0, ee_1, ee_2, ee_3, at_lit, at_nat, at_m1, at_m2, scD, emD, sizeLine_eq, ixN, sm_lit, mSrc, itemsD, plOf, rng1D, bNm, mSl, mPt, mNoP, slD, mPar, keepT, tmsO, setA, mFlow, zipX, enumX, itemsX, intsOf, ints_all, boolsOf, shaped_lay, lay_int, lay_bool, lay_none, lay_dict, lay_tup, lay_list, lay_ints, sortX_ints, mPlF, mPlI, mRd, mPU, mPB, mFSet, mFNew, mNSet, mPApp, mPSetIx, mPPop, mMeth, mNew, isIns, cellO, mLstN, mAddN, mAppN, semX, mTold, mCallX, xRet, xExpr, xSet, mRaise, mM, isL, isS, mOrV, truD])
local macro_rules | `(tactic| walk_at "es") => `(tactic| simp [semF, shared, after, mSeq, mSkip, mIf, mRet, mRetN, mRetV, mSet, mSetIx, mExpr, mB, mU, mTm, mPl, mK, mVar, mOp, mCons, mNil, bor, bors, mTst, mAndT, mOrT, mNotT, mAndE, mOrE, mNotE, mIfE, mIsi, isiD, mChn, chnL, cmpD, binD, addD, subD, mulD, modD, fdivD, powD, eqD, neD, ltD, leD, gtD, geD, isD, isnD, L2.M.isNon, negD, ixD, Bf.f, Bg.f, lenD, L2.M.intD, maxD, minD, repD, strD, gmaxD, gminD, sumD, sortD, anyD, allD, mCall, frz, fzO, lend, wb, mTup, mLst, fzs, cD, mAsg, bTup, bTps, mApp, tupD, lstD, mRev, revD, ofs_inj, ee_ii, ee_ss, ee_bb, ee_nn, ee_is, ee_si, ee_in, ee_ni, ee_tt, ee_ll, ee_maps, ee_0, ee_1, ee_2, ee_3, at_lit, at_nat, at_m1, at_m2, scD, emD, sizeLine_eq, ixN, sm_lit, mSrc, itemsD, plOf, rng1D, bNm, mSl, mPt, mNoP, slD, mPar, keepT, tmsO, setA, mFlow, zipX, enumX, itemsX, intsOf, ints_all, boolsOf, shaped_lay, lay_int, lay_bool, lay_none, lay_dict, lay_tup, lay_list, lay_ints, sortX_ints, mPlF, mPlI, mRd, mPU, mPB, mFSet, mFNew, mNSet, mPApp, mPSetIx, mPPop, mMeth, mNew, isIns, cellO, mLstN, mAddN, mAppN, semX, mTold, mCallX, xRet, xExpr, xSet, mRaise, mM, isL, isS, mOrV, truD, *])
local macro_rules | `(tactic| walk_at "el") => `(tactic| simp [semF, shared, after, mSeq, mSkip, mIf, mRet, mRetN, mRetV, mSet, mSetIx, mExpr, mB, mU, mTm, mPl, mK, mVar, mOp, mCons, mNil, bor, bors, mTst, mAndT, mOrT, mNotT, mAndE, mOrE, mNotE, mIfE, mIsi, isiD, mChn, chnL, cmpD, binD, addD, subD, mulD, modD, fdivD, powD, eqD, neD, ltD, leD, gtD, geD, isD, isnD, L2.M.isNon, negD, ixD, Bf.f, Bg.f, lenD, L2.M.intD, maxD, minD, repD, strD, gmaxD, gminD, sumD, sortD, anyD, allD, mCall, frz, fzO, lend, wb, mTup, mLst, fzs, cD, mAsg, bTup, bTps, mApp, tupD, lstD, mRev, revD, ofs_inj, ee_ii, ee_ss, ee_bb, ee_nn, ee_is, ee_si, ee_in, ee_ni, ee_tt, ee_ll, ee_maps, ee_0, ee_1, ee_2, ee_3, at_lit, at_nat, at_m1, at_m2, scD, emD, sizeLine_eq, ixN, sm_lit, mSrc, itemsD, plOf, rng1D, bNm, mSl, mPt, mNoP, slD, mPar, keepT, tmsO, setA, mFlow, zipX, enumX, itemsX, intsOf, ints_all, boolsOf, shaped_lay, lay_int, lay_bool, lay_none, lay_dict, lay_tup, lay_list, lay_ints, sortX_ints, mPlF, mPlI, mRd, mPU, mPB, mFSet, mFNew, mNSet, mPApp, mPSetIx, mPPop, mMeth, mNew, isIns, cellO, mLstN, mAddN, mAppN, semX, mTold, mCallX, xRet, xExpr, xSet, mRaise, mM, isL, isS, mOrV, truD, mLc, lcL, sameC, wipeC, restC, mYes, *])
local macro_rules | `(tactic| walk_at "ef") => `(tactic| simp [semF, shared, after, mSeq, mSkip, mIf, mRet, mRetN, mRetV, mSet, mSetIx, mExpr, mB, mU, mTm, mPl, mK, mVar, mOp, mCons, mNil, bor, bors, mTst, mAndT, mOrT, mNotT, mAndE, mOrE, mNotE, mIfE, mIsi, isiD, mChn, chnL, cmpD, binD, addD, subD, mulD, modD, fdivD, powD, eqD, neD, ltD, leD, gtD, geD, isD, isnD, L2.M.isNon, negD, ixD, Bf.f, Bg.f, lenD, L2.M.intD, maxD, minD, repD, strD, gmaxD, gminD, sumD, sortD, anyD, allD, mCall, frz, fzO, lend, wb, mTup, mLst, fzs, cD, mAsg, bTup, bTps, mApp, tupD, lstD, mRev, revD, ofs_inj, ee_ii, ee_ss, ee_bb, ee_nn, ee_is, ee_si, ee_in, ee_ni, ee_tt, ee_ll, ee_maps, ee_0, ee_1, ee_2, ee_3, at_lit, at_nat, at_m1, at_m2, scD, emD, sizeLine_eq, ixN, sm_lit, mSrc, itemsD, plOf, rng1D, bNm, mSl, mPt, mNoP, slD, mPar, keepT, tmsO, setA, mFlow, zipX, enumX, itemsX, intsOf, ints_all, boolsOf, shaped_lay, lay_int, lay_bool, lay_none, lay_dict, lay_tup, lay_list, lay_ints, sortX_ints, mPlF, mPlI, mRd, mPU, mPB, mFSet, mFNew, mNSet, mPApp, mPSetIx, mPPop, mMeth, mNew, isIns, cellO, mLstN, mAddN, mAppN, semX, mTold, mCallX, xRet, xExpr, xSet, mRaise, mM, isL, isS, mOrV, truD, mFor, forL, mLc, lcL, sameC, wipeC, restC, mYes, *])
local macro_rules | `(tactic| walk_at "rg") => `(tactic| (and_intros <;> grind))
local macro_rules | `(tactic| walk_at "nx") => `(tactic| (apply wx_nx; focus (walk_at "ev"; try first | exact ⟨rfl, rfl⟩ | rfl)))
local macro_rules | `(tactic| walk_at "ns") => `(tactic| (apply wx_nx; focus (walk_at "es"; try first | exact ⟨rfl, rfl⟩ | rfl)))
local macro_rules | `(tactic| walk_at "rt") => `(tactic| (apply wx_rt; focus (walk_at "ev"; try first | exact ⟨rfl, rfl⟩ | rfl)))
local macro_rules | `(tactic| walk_at "rs") => `(tactic| (apply wx_rt; focus (walk_at "es"; try first | exact ⟨rfl, rfl⟩ | rfl)))
local macro_rules | `(tactic| walk_at "ed") => `(tactic| simp [semF, shared, after, mSeq, mSkip, mIf, mRet, mRetN, mRetV, mSet, mSetIx, mExpr, mB, mU, mTm, mPl, mK, mVar, mOp, mCons, mNil, bor, bors, mTst, mAndT, mOrT, mNotT, mAndE, mOrE, mNotE, mIfE, mIsi, isiD, mChn, chnL, cmpD, binD, addD, subD, mulD, modD, fdivD, powD, eqD, neD, ltD, leD, gtD, geD, isD, isnD, L2.M.isNon, negD, ixD, Bf.f, Bg.f, lenD, L2.M.intD, maxD, minD, repD, strD, gmaxD, gminD, sumD, sortD, anyD, allD, mCall, frz, fzO, lend, wb, mTup, mLst, fzs, cD, mAsg, bTup, bTps, mApp, tupD, lstD, mRev, revD, ofs_inj, ee_ii, ee_ss, ee_bb, ee_nn, ee_is, ee_si, ee_in, ee_ni, ee_tt, ee_ll, ee_maps, ee_0, ee_1, ee_2, ee_3, at_lit, at_nat, at_m1, at_m2, scD, emD, sizeLine_eq, ixN, sm_lit, mSrc, itemsD, plOf, rng1D, bNm, mSl, mPt, mNoP, slD, mPar, keepT, tmsO, setA, mFlow, zipX, enumX, itemsX, intsOf, ints_all, boolsOf, shaped_lay, lay_int, lay_bool, lay_none, lay_dict, lay_tup, lay_list, lay_ints, sortX_ints, mPlF, mPlI, mRd, mPU, mPB, mFSet, mFNew, mNSet, mPApp, mPSetIx, mPPop, mMeth, mNew, isIns, cellO, mLstN, mAddN, mAppN, semX, mTold, mCallX, xRet, xExpr, xSet, mRaise, mM, isL, isS, mOrV, truD, mDNew, mDIn, mDGet, mDLen, mDPut, kyD, mNNew, mN1, mTake, mFnV, mCallF, mNIn, mNGet, mNPut, mNVals, mNList, nKs, mDGetD, mDList, mNNe, *])
def tl (ps : List Str) : Nat := (ps.map (·.length)).sum
theorem join_ok2 {n m : Nat} {b : Str} {ps : List Str} (hb : ∀ c ∈ cpsL b, c < 1114112) (h : ∀ p ∈ ps, ∀ c ∈ cpsL p, c < 1114112) (h1 : tl ps ≤ n) (h2 : ps.length * b.length ≤ m) : Tx (n + m) (Str.join b ps) := by
  refine ⟨fun c hc => ?_, ?_⟩
  · rcases (mem_join b c ps).mp hc with ⟨t, ht, hc⟩ | ⟨_, hc⟩
    · exact h t ht c hc
    · exact hb c hc
  · have h3 := StrLaws.join_length_le b ps
    have : (ps.map (·.length)).sum = tl ps := rfl
    omega
theorem joinD_eq {a : Str} {ps : List Str} (h : tl ps + ps.length * a.length ≤ 16777216) : joinD [.str a, .list (ps.map .str)] = some (.sh (.str (Str.join a ps))) := by
  have e : joinOf a (ps.map .str) = some (.sh (.str (Str.join a ps))) := by
    unfold joinOf
    rw [strs_all]
    have h' : (ps.map (·.length)).sum + ps.length * a.length ≤ 16777216 := h
    simp only [if_pos h', join_eq]
  exact e
end KW
namespace KW
open PySem PySem.Spec PyProof.Rows L2 L2.M
local macro_rules | `(tactic| walk_at "ev") => `(tactic| simp [semF, shared, after, mSeq, mSkip, mIf, mRet, mRetN, mRetV, mSet, mSetIx, mExpr, mB, mU, mTm, mPl, mK, mVar, mOp, mCons, mNil, bor, bors, mTst, mAndT, mOrT, mNotT, mAndE, mOrE, mNotE, mIfE, mIsi, isiD, mChn, chnL, cmpD, binD, addD, subD, mulD, modD, fdivD, powD, eqD, neD, ltD, leD, gtD, geD, isD, isnD, L2.M.isNon, negD, ixD, Bf.f, Bg.f, lenD, L2.M.intD, maxD, minD, repD, strD, gmaxD, gminD, sumD, sortD, anyD, allD, mCall, frz, fzO, lend, wb, mTup, mLst, fzs, cD, mAsg, bTup, bTps, mApp, tupD, lstD, mRev, revD, ofs_inj, ee_ii, ee_ss, ee_bb, ee_nn, ee_is, ee_si, ee_in, ee_ni, ee_tt, ee_ll, ee_maps, ee_0, ee_1, ee_2, ee_3, at_lit, at_nat, at_m1, at_m2, scD, emD, sizeLine_eq, ixN, sm_lit, mSrc, itemsD, plOf, rng1D, bNm, mSl, mPt, mNoP, slD, mPar, keepT, tmsO, setA, mFlow, zipX, enumX, itemsX, intsOf, ints_all, boolsOf, shaped_lay, lay_int, lay_bool, lay_none, lay_dict, lay_tup, lay_list, lay_ints, sortX_ints, mPlF, mPlI, mRd, mPU, mPB, mFSet, mFNew, mNSet, mPApp, mPSetIx, mPPop, mMeth, mNew, isIns, cellO, mLstN, mAddN, mAppN, semX, mTold, mCallX, xRet, xExpr, xSet, mRaise, mM, isL, isS, mOrV, truD])
local macro_rules | `(tactic| walk_at "es") => `(tactic| simp [semF, shared, after, mSeq, mSkip, mIf, mRet, mRetN, mRetV, mSet, mSetIx, mExpr, mB, mU, mTm, mPl, mK, mVar, mOp, mCons, mNil, bor, bors, mTst, mAndT, mOrT, mNotT, mAndE, mOrE, mNotE, mIfE, mIsi, isiD, mChn, chnL, cmpD, binD, addD, subD, mulD, modD, fdivD, powD, eqD, neD, ltD, leD, gtD, geD, isD, isnD, L2.M.isNon, negD, ixD, Bf.f, Bg.f, lenD, L2.M.intD, maxD, minD, repD, strD, gmaxD, gminD, sumD, sortD, anyD, allD, mCall, frz, fzO, lend, wb, mTup, mLst, fzs, cD, mAsg, bTup, bTps, mApp, tupD, lstD, mRev, revD, ofs_inj, ee_ii, ee_ss, ee_bb, ee_nn, ee_is, ee_si, ee_in, ee_ni, ee_tt, ee_ll, ee_maps, ee_0, ee_1, ee_2, ee_3, at_lit, at_nat, at_m1, at_m2, scD, emD, sizeLine_eq, ixN, sm_lit, mSrc, itemsD, plOf, rng1D, bNm, mSl, mPt, mNoP, slD, mPar, keepT, tmsO, setA, mFlow, zipX, enumX, itemsX, intsOf, ints_all, boolsOf, shaped_lay, lay_int, lay_bool, lay_none, lay_dict, lay_tup, lay_list, lay_ints, sortX_ints, mPlF, mPlI, mRd, mPU, mPB, mFSet, mFNew, mNSet, mPApp, mPSetIx, mPPop, mMeth, mNew, isIns, cellO, mLstN, mAddN, mAppN, semX, mTold, mCallX, xRet, xExpr, xSet, mRaise, mM, isL, isS, mOrV, truD, *])
local macro_rules | `(tactic| walk_at "el") => `(tactic| simp [semF, shared, after, mSeq, mSkip, mIf, mRet, mRetN, mRetV, mSet, mSetIx, mExpr, mB, mU, mTm, mPl, mK, mVar, mOp, mCons, mNil, bor, bors, mTst, mAndT, mOrT, mNotT, mAndE, mOrE, mNotE, mIfE, mIsi, isiD, mChn, chnL, cmpD, binD, addD, subD, mulD, modD, fdivD, powD, eqD, neD, ltD, leD, gtD, geD, isD, isnD, L2.M.isNon, negD, ixD, Bf.f, Bg.f, lenD, L2.M.intD, maxD, minD, repD, strD, gmaxD, gminD, sumD, sortD, anyD, allD, mCall, frz, fzO, lend, wb, mTup, mLst, fzs, cD, mAsg, bTup, bTps, mApp, tupD, lstD, mRev, revD, ofs_inj, ee_ii, ee_ss, ee_bb, ee_nn, ee_is, ee_si, ee_in, ee_ni, ee_tt, ee_ll, ee_maps, ee_0, ee_1, ee_2, ee_3, at_lit, at_nat, at_m1, at_m2, scD, emD, sizeLine_eq, ixN, sm_lit, mSrc, itemsD, plOf, rng1D, bNm, mSl, mPt, mNoP, slD, mPar, keepT, tmsO, setA, mFlow, zipX, enumX, itemsX, intsOf, ints_all, boolsOf, shaped_lay, lay_int, lay_bool, lay_none, lay_dict, lay_tup, lay_list, lay_ints, sortX_ints, mPlF, mPlI, mRd, mPU, mPB, mFSet, mFNew, mNSet, mPApp, mPSetIx, mPPop, mMeth, mNew, isIns, cellO, mLstN, mAddN, mAppN, semX, mTold, mCallX, xRet, xExpr, xSet, mRaise, mM, isL, isS, mOrV, truD, mLc, lcL, sameC, wipeC, restC, mYes, *])
local macro_rules | `(tactic| walk_at "ef") => `(tactic| simp [semF, shared, after, mSeq, mSkip, mIf, mRet, mRetN, mRetV, mSet, mSetIx, mExpr, mB, mU, mTm, mPl, mK, mVar, mOp, mCons, mNil, bor, bors, mTst, mAndT, mOrT, mNotT, mAndE, mOrE, mNotE, mIfE, mIsi, isiD, mChn, chnL, cmpD, binD, addD, subD, mulD, modD, fdivD, powD, eqD, neD, ltD, leD, gtD, geD, isD, isnD, L2.M.isNon, negD, ixD, Bf.f, Bg.f, lenD, L2.M.intD, maxD, minD, repD, strD, gmaxD, gminD, sumD, sortD, anyD, allD, mCall, frz, fzO, lend, wb, mTup, mLst, fzs, cD, mAsg, bTup, bTps, mApp, tupD, lstD, mRev, revD, ofs_inj, ee_ii, ee_ss, ee_bb, ee_nn, ee_is, ee_si, ee_in, ee_ni, ee_tt, ee_ll, ee_maps, ee_0, ee_1, ee_2, ee_3, at_lit, at_nat, at_m1, at_m2, scD, emD, sizeLine_eq, ixN, sm_lit, mSrc, itemsD, plOf, rng1D, bNm, mSl, mPt, mNoP, slD, mPar, keepT, tmsO, setA, mFlow, zipX, enumX, itemsX, intsOf, ints_all, boolsOf, shaped_lay, lay_int, lay_bool, lay_none, lay_dict, lay_tup, lay_list, lay_ints, sortX_ints, mPlF, mPlI, mRd, mPU, mPB, mFSet, mFNew, mNSet, mPApp, mPSetIx, mPPop, mMeth, mNew, isIns, cellO, mLstN, mAddN, mAppN, semX, mTold, mCallX, xRet, xExpr, xSet, mRaise, mM, isL, isS, mOrV, truD, mFor, forL, mLc, lcL, sameC, wipeC, restC, mYes, *])
local macro_rules | `(tactic| walk_at "rg") => `(tactic| (and_intros <;> grind))
local macro_rules | `(tactic| walk_at "nx") => `(tactic| (apply wx_nx; focus (walk_at "ev"; try first | exact ⟨rfl, rfl⟩ | rfl)))
local macro_rules | `(tactic| walk_at "ns") => `(tactic| (apply wx_nx; focus (walk_at "es"; try first | exact ⟨rfl, rfl⟩ | rfl)))
local macro_rules | `(tactic| walk_at "rt") => `(tactic| (apply wx_rt; focus (walk_at "ev"; try first | exact ⟨rfl, rfl⟩ | rfl)))
local macro_rules | `(tactic| walk_at "rs") => `(tactic| (apply wx_rt; focus (walk_at "es"; try first | exact ⟨rfl, rfl⟩ | rfl)))
local macro_rules | `(tactic| walk_at "ed") => `(tactic| simp [semF, shared, after, mSeq, mSkip, mIf, mRet, mRetN, mRetV, mSet, mSetIx, mExpr, mB, mU, mTm, mPl, mK, mVar, mOp, mCons, mNil, bor, bors, mTst, mAndT, mOrT, mNotT, mAndE, mOrE, mNotE, mIfE, mIsi, isiD, mChn, chnL, cmpD, binD, addD, subD, mulD, modD, fdivD, powD, eqD, neD, ltD, leD, gtD, geD, isD, isnD, L2.M.isNon, negD, ixD, Bf.f, Bg.f, lenD, L2.M.intD, maxD, minD, repD, strD, gmaxD, gminD, sumD, sortD, anyD, allD, mCall, frz, fzO, lend, wb, mTup, mLst, fzs, cD, mAsg, bTup, bTps, mApp, tupD, lstD, mRev, revD, ofs_inj, ee_ii, ee_ss, ee_bb, ee_nn, ee_is, ee_si, ee_in, ee_ni, ee_tt, ee_ll, ee_maps, ee_0, ee_1, ee_2, ee_3, at_lit, at_nat, at_m1, at_m2, scD, emD, sizeLine_eq, ixN, sm_lit, mSrc, itemsD, plOf, rng1D, bNm, mSl, mPt, mNoP, slD, mPar, keepT, tmsO, setA, mFlow, zipX, enumX, itemsX, intsOf, ints_all, boolsOf, shaped_lay, lay_int, lay_bool, lay_none, lay_dict, lay_tup, lay_list, lay_ints, sortX_ints, mPlF, mPlI, mRd, mPU, mPB, mFSet, mFNew, mNSet, mPApp, mPSetIx, mPPop, mMeth, mNew, isIns, cellO, mLstN, mAddN, mAppN, semX, mTold, mCallX, xRet, xExpr, xSet, mRaise, mM, isL, isS, mOrV, truD, mDNew, mDIn, mDGet, mDLen, mDPut, kyD, mNNew, mN1, mTake, mFnV, mCallF, mNIn, mNGet, mNPut, mNVals, mNList, nKs, mDGetD, mDList, mNNe, *])
def Tg (d : PyData) : Prop := ∀ T, d = .str T → T.length ≤ 90000 ∧ PyData.strOk T = true
theorem tg_tx {B : Nat} {T : Str} (h : Tx B T) (hB : B ≤ 90000) : Tg (.str T) := fun U e => by
  cases e
  exact ⟨by have := h.len; omega, h.strOk⟩
theorem odd_eq (p : Pn) : Rt (g_law_odd [.ls (penL p)]) fun c cs => ∃ d q, Tg d ∧ c = .sh d ∧ cs = [.ls (penL q)] := by
  unfold g_law_odd m_law_odd
  apply rt_sem rfl
  walk_at "nx"
  generalize hL : (PyData.none :: _) = L
  have hl : L.length = 16 := by
    subst hL
    rfl
  have hs : ∀ d ∈ L, Tg d := by
    subst hL
    intro d hd T e
    subst e
    simp only [List.mem_cons, List.not_mem_nil, or_false, PyData.str.injEq, reduceCtorEq, false_or, or_false] at hd
    rcases hd with rfl | rfl | rfl <;> exact ⟨by decide +kernel, by decide +kernel⟩
  obtain ⟨d, hm, hd⟩ := at_dr (xs := L) (p := p) (n := 16) (by decide) (by omega)
  replace hm := Hid.mk (hs d hm)
  clear hL hs
  apply wx_rt (c := .sh d) (ε1 := [.ls (penL (dn p 16)), .ls L])
  · walk_at "es"
  exact ⟨d, _, hm.get, rfl, rfl⟩
theorem ix_sg {v : Int} (h0 : 0 ≤ v) (h1 : v < 5) : ∃ s : Str, Tx 1 s ∧ ixD (.str "akA \n") (.int v) = some (.sh (.str s)) := by
  have : v = 0 ∨ v = 1 ∨ v = 2 ∨ v = 3 ∨ v = 4 := by omega
  rcases this with rfl | rfl | rfl | rfl | rfl
  · exact ⟨"a", tx_lit (by decide +kernel), rfl⟩
  · exact ⟨"k", tx_lit (by decide +kernel), rfl⟩
  · exact ⟨"A", tx_lit (by decide +kernel), rfl⟩
  · exact ⟨" ", tx_lit (by decide +kernel), rfl⟩
  · exact ⟨"\n", tx_lit (by decide +kernel), rfl⟩
theorem th_1 {P P2 P3 : List PyData} {R s : Str} {n a v : Int} (hl : R.length ≤ 16777216) (hn : (R.length : Int) + 1 = n) (f1 : g_law_draw [.ls P, .sh (.int n)] = some (.sh (.int a), [.ls P2, .sh (.int n)])) (f2 : g_law_draw [.ls P2, .sh (.int 5)] = some (.sh (.int v), [.ls P3, .sh (.int 5)])) (h : ixD (.str "akA \n") (.int v) = some (.sh (.str s))) : (mPar [0, 1] [2, 3] (mCons (mTm (mCall [true, true] g_law_draw (mCons (mPl 0) (mCons (mTm (mB (binD .Add) (mTm (mOp (Bf.f .len) (mCons (mPl 1) (mNil)))) (mTm (mK (.int 1))))) (mNil))))) (mCons (mTm (mB ixD (mTm (mK (.str "akA \n"))) (mTm (mCall [true, true] g_law_draw (mCons (mPl 0) (mCons (mTm (mK (.int 5))) (mNil))))))) (mNil)))) [.ls P, .sh (.str R), .no, .no, .no, .no, .no] = some (.nx, [.ls P3, .sh (.str R), .sh (.int a), .sh (.str s), .no, .no, .no]) := by
  subst hn
  generalize g_law_draw = G at *
  generalize ixD = I at *
  walk_at "es"
theorem ix_ak (g : Bool) : ixD (.str "ak") (.int (if g then 0 else 1)) = some (.sh (.str (sgT g))) := by cases g <;> rfl
theorem th_e {c1 c2 c3 c4 c5 c6 : C} {P P2 : List PyData} {v : Int} {d : PyData} (f : g_law_draw [.ls P, .sh (.int 2)] = some (.sh (.int v), [.ls P2, .sh (.int 2)])) (h : ixD (.str "ak") (.int v) = some (.sh d)) : (mB ixD (mTm (mK (.str "ak"))) (mTm (mCall [true, true] g_law_draw (mCons (mPl 0) (mCons (mTm (mK (.int 2))) (mNil)))))) [.ls P, c1, c2, c3, c4, c5, c6] = some (.sh d, [.ls P2, c1, c2, c3, c4, c5, c6]) := by
  generalize g_law_draw = G at *
  generalize ixD = I at *
  walk_at "es"
theorem th_s {c1 c2 c3 c4 c5 c6 : C} {P P2 : List PyData} {n : Int} (f : g_law_draw [.ls P, .sh (.int 20)] = some (.sh (.int n), [.ls P2, .sh (.int 20)])) (h0 : 0 ≤ n) (h1 : n ≤ 1000) : (mSrc rng1D (mCons (mTm (mCall [true, true] g_law_draw (mCons (mPl 0) (mCons (mTm (mK (.int 20))) (mNil))))) (mNil))) [.ls P, c1, c2, c3, c4, c5, c6] = some ((rangeD 0 1 n.toNat, []), [.ls P2, c1, c2, c3, c4, c5, c6]) := by
  have h4 : rng1D [.int n] = some (rangeD 0 1 n.toNat) := rng_nat0 n (by omega) ⟨by omega, by omega⟩
  refine src_f (d := .int n) ?_ h4
  clear h4 h0 h1
  generalize g_law_draw = G at *
  walk_at "es"
theorem dr_lc (p : Pn) (c1 c2 c3 c4 c6 : C) : ∃ (bs : List Bool) (q : Pn), bs.length ≤ 100 ∧ (mLc (mSrc rng1D (mCons (mTm (mCall [true, true] g_law_draw (mCons (mPl 0) (mCons (mTm (mK (.int 20))) (mNil))))) (mNil))) (bNm 5) (mYes) (mB ixD (mTm (mK (.str "ak"))) (mTm (mCall [true, true] g_law_draw (mCons (mPl 0) (mCons (mTm (mK (.int 2))) (mNil)))))) [5]) [.ls (penL p), c1, c2, c3, c4, .no, c6] = some (.ls (bs.map fun g => .str (sgT g)), [.ls (penL q), c1, c2, c3, c4, .no, c6]) := by
  have d1 := draw_eq p 20 (by decide) ⟨by decide, by decide⟩
  have v1 := dr_ab p 20 (by decide)
  have hs := th_s (c1 := c1) (c2 := c2) (c3 := c3) (c4 := c4) (c5 := .no) (c6 := c6) d1 v1.1 (by omega)
  generalize dr p 20 = n at *
  generalize dn p 20 = p1 at *
  have hl : (rangeD 0 1 n.toNat).length = n.toNat := by simp [rangeD]
  obtain ⟨out, ε2, e, bs, q, rfl, hlen, rfl⟩ := lc_rule (elt := (mB ixD (mTm (mK (.str "ak"))) (mTm (mCall [true, true] g_law_draw (mCons (mPl 0) (mCons (mTm (mK (.int 2))) (mNil))))))) (bind := bNm 5) (tests := mYes) (own := [5]) (fun i out ε2 => ∃ (bs : List Bool) (q : Pn), out = bs.map (fun g => PyData.str (sgT g)) ∧ bs.length = i ∧ ε2 = [.ls (penL q), c1, c2, c3, c4, .no, c6]) hs rfl ⟨[], p1, rfl, rfl, rfl⟩ (fun _ _ _ _ j hj => by cases hj) (by rw [hl, sizeLine_eq]; omega) (by
    rintro i d out ε2 hd ⟨bs, q, rfl, hlen, rfl⟩
    have d2 := draw_eq q 2 (by decide) ⟨by decide, by decide⟩
    have v2 := dr_ab q 2 (by decide)
    obtain ⟨g, hg⟩ : ∃ g : Bool, dr q 2 = if g then 0 else 1 := by
      by_cases z : dr q 2 = 0
      · exact ⟨true, z⟩
      · exact ⟨false, by show _ = (1 : Int); omega⟩
    have ix := ix_ak g
    rw [← hg] at ix
    refine ⟨[.ls (penL q), c1, c2, c3, c4, .sh d, c6], true, _, rfl, rfl, fun h => (by cases h), fun _ => ⟨.sh (.str (sgT g)), .str (sgT g), [.ls (penL (dn q 2)), c1, c2, c3, c4, .sh d, c6], th_e d2 ix, rfl, bs ++ [g], dn q 2, by simp, by simp [hlen], rfl⟩⟩)
  exact ⟨bs, q, by omega, e⟩
theorem tl_sg (bs : List Bool) : tl (bs.map sgT) = bs.length := by
  induction bs with
  | nil => rfl
  | cons g bs ih =>
    have := sgT_l g
    simp only [tl, List.map_cons, List.sum_cons, List.length_cons] at ih ⊢
    omega
theorem join_tx (bs : List Bool) (hl : bs.length ≤ 100) : ∃ T : Str, Tx 100 T ∧ joinD [.str "", .list (bs.map fun g => .str (sgT g))] = some (.sh (.str T)) := by
  have e := joinD_eq (a := "") (ps := bs.map sgT) (by
    rw [tl_sg, List.length_map]
    have : ("" : Str).length = 0 := rfl
    rw [this]
    omega)
  rw [List.map_map] at e
  have t := join_ok2 (n := 100) (m := 0) (b := "") (ps := bs.map sgT) (fun c hc => by cases hc) (fun p hp c hc => by
    obtain ⟨g, _, rfl⟩ := List.mem_map.mp hp
    rw [sgT_cps] at hc
    rw [List.mem_singleton.mp hc]
    cases g <;> decide) (by rw [tl_sg]; exact hl) (by
    have : ("" : Str).length = 0 := rfl
    rw [this]
    omega)
  exact ⟨_, t, e⟩
theorem th_2 {c1 c2 c3 : C} {P P2 L : List PyData} {T U : Str} (k : (mLc (mSrc rng1D (mCons (mTm (mCall [true, true] g_law_draw (mCons (mPl 0) (mCons (mTm (mK (.int 20))) (mNil))))) (mNil))) (bNm 5) (mYes) (mB ixD (mTm (mK (.str "ak"))) (mTm (mCall [true, true] g_law_draw (mCons (mPl 0) (mCons (mTm (mK (.int 2))) (mNil)))))) [5]) [.ls P, c1, c2, c3, .no, .no, .no] = some (.ls L, [.ls P2, c1, c2, c3, .no, .no, .no])) (e : joinD [.str "", .list L] = some (.sh (.str T))) (a : addD (.str T) (.str "k") = some (.sh (.str U))) : (mSet [0, 1] 4 (mB (binD .Add) (mTm (mM joinD isS (mTm (mK (.str ""))) (mCons (mTm (mLc (mSrc rng1D (mCons (mTm (mCall [true, true] g_law_draw (mCons (mPl 0) (mCons (mTm (mK (.int 20))) (mNil))))) (mNil))) (bNm 5) (mYes) (mB ixD (mTm (mK (.str "ak"))) (mTm (mCall [true, true] g_law_draw (mCons (mPl 0) (mCons (mTm (mK (.int 2))) (mNil)))))) [5])) (mNil)))) (mTm (mK (.str "k"))))) [.ls P, c1, c2, c3, .no, .no, .no] = some (.nx, [.ls P2, c1, c2, c3, .sh (.str U), .no, .no]) := by
  have e0 : binD .Add = addD := rfl
  rw [e0]
  generalize mLc _ _ _ _ _ = ML at *
  generalize joinD = J at *
  generalize addD = A at *
  walk_at "es"
theorem th_3 {c0 c4 : C} {R s A B B2 X1 X2 X3 X4 X5 : Str} {a : Int} (hl : R.length ≤ 16777216) (hA : cutS R none (some a) = A) (hB : cutS R (some a) none = B) (hB2 : cutS R (some (a + 1)) none = B2) (k1 : addD (.str A) (.str s) = some (.sh (.str X1))) (k2 : addD (.str X1) (.str B) = some (.sh (.str X2))) (k3 : addD (.str A) (.str B2) = some (.sh (.str X3))) (k4 : addD (.str X1) (.str B2) = some (.sh (.str X4))) (k5 : addD (.str R) (.str "k") = some (.sh (.str X5))) : (mSet [0, 1] 6 (mLst (mCons (mPl 1) (mCons (mTm (mB (binD .Add) (mTm (mB (binD .Add) (mTm (mSl (mPl 1) (mNoP) (mPt (mPl 2)))) (mPl 3))) (mTm (mSl (mPl 1) (mPt (mPl 2)) (mNoP))))) (mCons (mTm (mB (binD .Add) (mTm (mSl (mPl 1) (mNoP) (mPt (mPl 2)))) (mTm (mSl (mPl 1) (mPt (mTm (mB (binD .Add) (mPl 2) (mTm (mK (.int 1)))))) (mNoP))))) (mCons (mTm (mB (binD .Add) (mTm (mB (binD .Add) (mTm (mSl (mPl 1) (mNoP) (mPt (mPl 2)))) (mPl 3))) (mTm (mSl (mPl 1) (mPt (mTm (mB (binD .Add) (mPl 2) (mTm (mK (.int 1)))))) (mNoP))))) (mCons (mTm (mB (binD .Add) (mPl 1) (mTm (mK (.str "k"))))) (mNil)))))))) [c0, .sh (.str R), .sh (.int a), .sh (.str s), c4, .no, .no] = some (.nx, [c0, .sh (.str R), .sh (.int a), .sh (.str s), c4, .no, .ls [.str R, .str X2, .str X3, .str X4, .str X5]]) := by
  have hl2 : R.length ≤ sizeLine := by rw [sizeLine_eq]; exact hl
  have e0 : binD .Add = addD := rfl
  have e1 : ∀ x y : Int, addD (.int x) (.int y) = some (.sh (.int (x + y))) := fun _ _ => rfl
  rw [e0]
  generalize addD = AD at *
  walk_at "es"
theorem th_4 {c2 c3 : C} {P P2 : List PyData} {R D E X6 X7 V S : Str} {o : PyData} {F CH : List PyData} (hF : F.length = 5) (hlD : D.length ≤ 16777216) (k6 : addD (.str R) (.str "ak") = some (.sh (.str X6))) (hE : cutS D none (some (-1)) = E) (k7 : addD (.str E) (.str "a") = some (.sh (.str X7))) (h1 : lstSD [.str R] = some (.ls CH)) (h2 : g_law_odd [.ls P] = some (.sh o, [.ls P2])) (h3 : revSD (.str R) = some (.sh (.str V))) (h4 : smul3D (.str R) (.int 3) = some (.sh (.str S))) : (mRet (mB (binD .Add) (mPl 6) (mTm (mLst (mCons (mTm (mB (binD .Add) (mPl 1) (mTm (mK (.str "ak"))))) (mCons (mPl 4) (mCons (mTm (mB (binD .Add) (mTm (mSl (mPl 4) (mNoP) (mPt (mTm (mU negD (mTm (mK (.int 1)))))))) (mTm (mK (.str "a"))))) (mCons (mTm (mK (.str ""))) (mCons (mTm (mOp lstSD (mCons (mPl 1) (mNil)))) (mCons (mTm (mCall [true] g_law_odd (mCons (mPl 0) (mNil)))) (mCons (mTm (mRevS (mPl 1))) (mCons (mTm (mB smul3D (mPl 1) (mTm (mK (.int 3))))) (mNil))))))))))))) [.ls P, .sh (.str R), c2, c3, .sh (.str D), .no, .ls F] = some (.rt (.ls (F ++ [.str X6, .str D, .str X7, .str "", .list CH, o, .str V, .str S])), [.ls P2, .sh (.str R), c2, c3, .sh (.str D), .no, .ls F]) := by
  have hl2 : D.length ≤ sizeLine := by rw [sizeLine_eq]; exact hlD
  have e0 : binD .Add = addD := rfl
  have e1 : addD (.list F) (.list [.str X6, .str D, .str X7, .str "", .list CH, o, .str V, .str S]) = some (.ls (F ++ [.str X6, .str D, .str X7, .str "", .list CH, o, .str V, .str S])) := by
    show (if _ then _ else _) = _
    rw [if_pos]
    rw [hF, sizeLine_eq]
    simp
  rw [e0]
  unfold mRevS
  generalize addD = AD at *
  generalize lstSD = LS at *
  generalize g_law_odd = G at *
  generalize revSD = RV at *
  generalize smul3D = SM at *
  walk_at "es"
theorem add_tx {A B : Nat} {x y : Str} (h : Tx A x) (k : Tx B y) (hl : A + B ≤ 16777216) : addD (.str x) (.str y) = some (.sh (.str (x ++ y))) := add_str (by have := h.len; have := k.len; omega)
theorem rev_tx {B : Nat} {z : Str} (h : Tx B z) : Tx B (revS z) := by
  have e : cpsL (revS z) = (cpsL z).reverse := rfl
  refine ⟨fun c hc => h.ok c (by rw [e] at hc; exact List.mem_reverse.mp hc), ?_⟩
  rw [← len_cps, e, List.length_reverse, len_cps]
  exact h.len
theorem rep_tx {B : Nat} {z : Str} (h : Tx B z) (n : Nat) : Tx (n * B) (repS z n) := by
  have e : cpsL (repS z n) = (List.replicate n (cpsL z)).flatten := repS_cps _ _
  refine ⟨fun c hc => ?_, ?_⟩
  · rw [e] at hc
    obtain ⟨l, hl, hc⟩ := List.mem_flatten.mp hc
    rw [(List.mem_replicate.mp hl).2] at hc
    exact h.ok c hc
  · rw [← len_cps, e, List.length_flatten, List.map_replicate, List.sum_replicate_nat, len_cps]
    exact Nat.mul_le_mul_left n h.len
theorem things_eq (p : Pn) {R : Str} (h : Tx 10000 R) : Rt (g_law_things [.ls (penL p), .sh (.str R)]) fun c cs => ∃ (D : List PyData) (q : Pn), D.length ≤ 100 ∧ (∀ d ∈ D, Tg d) ∧ c = .ls D ∧ cs = [.ls (penL q), .sh (.str R)] := by
  unfold g_law_things m_law_things
  apply rt_sem rfl
  have hR := h.len
  have d1 := draw_eq p ((R.length : Int) + 1) (by omega) ⟨by omega, by omega⟩
  have v1 := dr_ab p ((R.length : Int) + 1) (by omega)
  generalize dr p ((R.length : Int) + 1) = a at *
  generalize dn p ((R.length : Int) + 1) = p1 at *
  have d2 := draw_eq p1 5 (by decide) ⟨by decide, by decide⟩
  have v2 := dr_ab p1 5 (by decide)
  generalize dr p1 5 = v at *
  generalize dn p1 5 = p2 at *
  obtain ⟨s, hs, hix⟩ := ix_sg v2.1 v2.2
  apply wx_nx (th_1 (by omega) rfl d1 d2 hix)
  clear d1 d2 hix
  obtain ⟨bs, p3, hbl, k⟩ := dr_lc p2 (.sh (.str R)) (.sh (.int a)) (.sh (.str s)) .no .no
  obtain ⟨T, hT, ej⟩ := join_tx bs hbl
  have tk : Tx 1 "k" := tx_lit (by decide +kernel)
  have ta : Tx 1 "a" := tx_lit (by decide +kernel)
  have tak : Tx 2 "ak" := tx_lit (by decide +kernel)
  have te : Tx 0 "" := tx_lit (by decide +kernel)
  have hD := tx_app hT tk
  apply wx_nx (th_2 k ej (add_tx hT tk (by decide)))
  clear k ej
  have hA := tx_cut h none (some a)
  have hB := tx_cut h (some a) none
  have hB2 := tx_cut h (some (a + 1)) none
  have x1 := tx_app hA hs
  have x2 := tx_app x1 hB
  have x3 := tx_app hA hB2
  have x4 := tx_app x1 hB2
  have x5 := tx_app h tk
  apply wx_nx (th_3 (by omega) rfl rfl rfl (add_tx hA hs (by decide)) (add_tx x1 hB (by decide)) (add_tx hA hB2 (by decide)) (add_tx x1 hB2 (by decide)) (add_tx h tk (by decide)))
  obtain ⟨_, _, eo, o, p4, ho, rfl, rfl⟩ := odd_eq p3
  have hE := tx_cut hD none (some (-1))
  have x6 := tx_app h tak
  have x7 := tx_app hE ta
  have h1 : lstSD [.str R] = some (.ls (R.cps.toList.map fun c => .str ⟨#[c]⟩)) := by
    show (if _ then _ else _) = _
    rw [if_pos (by rw [sizeLine_eq]; omega)]
  have h3 : revSD (.str R) = some (.sh (.str (revS R))) := by
    show (if _ then _ else _) = _
    rw [if_pos (by rw [sizeLine_eq]; omega)]
  have h4 : smul3D (.str R) (.int 3) = some (.sh (.str (repS R 3))) := by
    show (if _ then _ else _) = _
    rw [if_pos ⟨by decide, by decide, hR⟩]
    rfl
  have hDl := hD.len
  refine wx_rt (th_4 rfl (by omega) (add_tx h tak (by decide)) rfl (add_tx hE ta (by decide)) h1 eo h3 h4) ⟨_, p4, ?_, ?_, rfl, rfl⟩
  · simp
  · have hv := rev_tx h
    have hr := rep_tx h 3
    intro d hd
    simp only [List.cons_append, List.nil_append, List.mem_cons, List.not_mem_nil, or_false] at hd
    rcases hd with rfl | rfl | rfl | rfl | rfl | rfl | rfl | rfl | rfl | rfl | rfl | rfl | rfl
    · exact tg_tx h (by decide)
    · exact tg_tx x2 (by decide)
    · exact tg_tx x3 (by decide)
    · exact tg_tx x4 (by decide)
    · exact tg_tx x5 (by decide)
    · exact tg_tx x6 (by decide)
    · exact tg_tx hD (by decide)
    · exact tg_tx x7 (by decide)
    · exact tg_tx te (by decide)
    · intro T e
      cases e
    · exact ho
    · exact tg_tx hv (by decide)
    · exact tg_tx hr (by decide)
end KW
namespace KW
open PySem PySem.Spec PyProof.Rows L2 L2.M
local macro_rules | `(tactic| walk_at "ev") => `(tactic| simp [semF, shared, after, mSeq, mSkip, mIf, mRet, mRetN, mRetV, mSet, mSetIx, mExpr, mB, mU, mTm, mPl, mK, mVar, mOp, mCons, mNil, bor, bors, mTst, mAndT, mOrT, mNotT, mAndE, mOrE, mNotE, mIfE, mIsi, isiD, mChn, chnL, cmpD, binD, addD, subD, mulD, modD, fdivD, powD, eqD, neD, ltD, leD, gtD, geD, isD, isnD, L2.M.isNon, negD, ixD, Bf.f, Bg.f, lenD, L2.M.intD, maxD, minD, repD, strD, gmaxD, gminD, sumD, sortD, anyD, allD, mCall, frz, fzO, lend, wb, mTup, mLst, fzs, cD, mAsg, bTup, bTps, mApp, tupD, lstD, mRev, revD, ofs_inj, ee_ii, ee_ss, ee_bb, ee_nn, ee_is, ee_si, ee_in, ee_ni, ee_tt, ee_ll, ee_maps, ee_0, ee_1, ee_2, ee_3, at_lit, at_nat, at_m1, at_m2, scD, emD, sizeLine_eq, ixN, sm_lit, mSrc, itemsD, plOf, rng1D, bNm, mSl, mPt, mNoP, slD, mPar, keepT, tmsO, setA, mFlow, zipX, enumX, itemsX, intsOf, ints_all, boolsOf, shaped_lay, lay_int, lay_bool, lay_none, lay_dict, lay_tup, lay_list, lay_ints, sortX_ints, mPlF, mPlI, mRd, mPU, mPB, mFSet, mFNew, mNSet, mPApp, mPSetIx, mPPop, mMeth, mNew, isIns, cellO, mLstN, mAddN, mAppN, semX, mTold, mCallX, xRet, xExpr, xSet, mRaise, mM, isL, isS, mOrV, truD])
local macro_rules | `(tactic| walk_at "es") => `(tactic| simp [semF, shared, after, mSeq, mSkip, mIf, mRet, mRetN, mRetV, mSet, mSetIx, mExpr, mB, mU, mTm, mPl, mK, mVar, mOp, mCons, mNil, bor, bors, mTst, mAndT, mOrT, mNotT, mAndE, mOrE, mNotE, mIfE, mIsi, isiD, mChn, chnL, cmpD, binD, addD, subD, mulD, modD, fdivD, powD, eqD, neD, ltD, leD, gtD, geD, isD, isnD, L2.M.isNon, negD, ixD, Bf.f, Bg.f, lenD, L2.M.intD, maxD, minD, repD, strD, gmaxD, gminD, sumD, sortD, anyD, allD, mCall, frz, fzO, lend, wb, mTup, mLst, fzs, cD, mAsg, bTup, bTps, mApp, tupD, lstD, mRev, revD, ofs_inj, ee_ii, ee_ss, ee_bb, ee_nn, ee_is, ee_si, ee_in, ee_ni, ee_tt, ee_ll, ee_maps, ee_0, ee_1, ee_2, ee_3, at_lit, at_nat, at_m1, at_m2, scD, emD, sizeLine_eq, ixN, sm_lit, mSrc, itemsD, plOf, rng1D, bNm, mSl, mPt, mNoP, slD, mPar, keepT, tmsO, setA, mFlow, zipX, enumX, itemsX, intsOf, ints_all, boolsOf, shaped_lay, lay_int, lay_bool, lay_none, lay_dict, lay_tup, lay_list, lay_ints, sortX_ints, mPlF, mPlI, mRd, mPU, mPB, mFSet, mFNew, mNSet, mPApp, mPSetIx, mPPop, mMeth, mNew, isIns, cellO, mLstN, mAddN, mAppN, semX, mTold, mCallX, xRet, xExpr, xSet, mRaise, mM, isL, isS, mOrV, truD, *])
local macro_rules | `(tactic| walk_at "el") => `(tactic| simp [semF, shared, after, mSeq, mSkip, mIf, mRet, mRetN, mRetV, mSet, mSetIx, mExpr, mB, mU, mTm, mPl, mK, mVar, mOp, mCons, mNil, bor, bors, mTst, mAndT, mOrT, mNotT, mAndE, mOrE, mNotE, mIfE, mIsi, isiD, mChn, chnL, cmpD, binD, addD, subD, mulD, modD, fdivD, powD, eqD, neD, ltD, leD, gtD, geD, isD, isnD, L2.M.isNon, negD, ixD, Bf.f, Bg.f, lenD, L2.M.intD, maxD, minD, repD, strD, gmaxD, gminD, sumD, sortD, anyD, allD, mCall, frz, fzO, lend, wb, mTup, mLst, fzs, cD, mAsg, bTup, bTps, mApp, tupD, lstD, mRev, revD, ofs_inj, ee_ii, ee_ss, ee_bb, ee_nn, ee_is, ee_si, ee_in, ee_ni, ee_tt, ee_ll, ee_maps, ee_0, ee_1, ee_2, ee_3, at_lit, at_nat, at_m1, at_m2, scD, emD, sizeLine_eq, ixN, sm_lit, mSrc, itemsD, plOf, rng1D, bNm, mSl, mPt, mNoP, slD, mPar, keepT, tmsO, setA, mFlow, zipX, enumX, itemsX, intsOf, ints_all, boolsOf, shaped_lay, lay_int, lay_bool, lay_none, lay_dict, lay_tup, lay_list, lay_ints, sortX_ints, mPlF, mPlI, mRd, mPU, mPB, mFSet, mFNew, mNSet, mPApp, mPSetIx, mPPop, mMeth, mNew, isIns, cellO, mLstN, mAddN, mAppN, semX, mTold, mCallX, xRet, xExpr, xSet, mRaise, mM, isL, isS, mOrV, truD, mLc, lcL, sameC, wipeC, restC, mYes, *])
local macro_rules | `(tactic| walk_at "ef") => `(tactic| simp [semF, shared, after, mSeq, mSkip, mIf, mRet, mRetN, mRetV, mSet, mSetIx, mExpr, mB, mU, mTm, mPl, mK, mVar, mOp, mCons, mNil, bor, bors, mTst, mAndT, mOrT, mNotT, mAndE, mOrE, mNotE, mIfE, mIsi, isiD, mChn, chnL, cmpD, binD, addD, subD, mulD, modD, fdivD, powD, eqD, neD, ltD, leD, gtD, geD, isD, isnD, L2.M.isNon, negD, ixD, Bf.f, Bg.f, lenD, L2.M.intD, maxD, minD, repD, strD, gmaxD, gminD, sumD, sortD, anyD, allD, mCall, frz, fzO, lend, wb, mTup, mLst, fzs, cD, mAsg, bTup, bTps, mApp, tupD, lstD, mRev, revD, ofs_inj, ee_ii, ee_ss, ee_bb, ee_nn, ee_is, ee_si, ee_in, ee_ni, ee_tt, ee_ll, ee_maps, ee_0, ee_1, ee_2, ee_3, at_lit, at_nat, at_m1, at_m2, scD, emD, sizeLine_eq, ixN, sm_lit, mSrc, itemsD, plOf, rng1D, bNm, mSl, mPt, mNoP, slD, mPar, keepT, tmsO, setA, mFlow, zipX, enumX, itemsX, intsOf, ints_all, boolsOf, shaped_lay, lay_int, lay_bool, lay_none, lay_dict, lay_tup, lay_list, lay_ints, sortX_ints, mPlF, mPlI, mRd, mPU, mPB, mFSet, mFNew, mNSet, mPApp, mPSetIx, mPPop, mMeth, mNew, isIns, cellO, mLstN, mAddN, mAppN, semX, mTold, mCallX, xRet, xExpr, xSet, mRaise, mM, isL, isS, mOrV, truD, mFor, forL, mLc, lcL, sameC, wipeC, restC, mYes, *])
local macro_rules | `(tactic| walk_at "rg") => `(tactic| (and_intros <;> grind))
local macro_rules | `(tactic| walk_at "nx") => `(tactic| (apply wx_nx; focus (walk_at "ev"; try first | exact ⟨rfl, rfl⟩ | rfl)))
local macro_rules | `(tactic| walk_at "ns") => `(tactic| (apply wx_nx; focus (walk_at "es"; try first | exact ⟨rfl, rfl⟩ | rfl)))
local macro_rules | `(tactic| walk_at "rt") => `(tactic| (apply wx_rt; focus (walk_at "ev"; try first | exact ⟨rfl, rfl⟩ | rfl)))
local macro_rules | `(tactic| walk_at "rs") => `(tactic| (apply wx_rt; focus (walk_at "es"; try first | exact ⟨rfl, rfl⟩ | rfl)))
local macro_rules | `(tactic| walk_at "ed") => `(tactic| simp [semF, shared, after, mSeq, mSkip, mIf, mRet, mRetN, mRetV, mSet, mSetIx, mExpr, mB, mU, mTm, mPl, mK, mVar, mOp, mCons, mNil, bor, bors, mTst, mAndT, mOrT, mNotT, mAndE, mOrE, mNotE, mIfE, mIsi, isiD, mChn, chnL, cmpD, binD, addD, subD, mulD, modD, fdivD, powD, eqD, neD, ltD, leD, gtD, geD, isD, isnD, L2.M.isNon, negD, ixD, Bf.f, Bg.f, lenD, L2.M.intD, maxD, minD, repD, strD, gmaxD, gminD, sumD, sortD, anyD, allD, mCall, frz, fzO, lend, wb, mTup, mLst, fzs, cD, mAsg, bTup, bTps, mApp, tupD, lstD, mRev, revD, ofs_inj, ee_ii, ee_ss, ee_bb, ee_nn, ee_is, ee_si, ee_in, ee_ni, ee_tt, ee_ll, ee_maps, ee_0, ee_1, ee_2, ee_3, at_lit, at_nat, at_m1, at_m2, scD, emD, sizeLine_eq, ixN, sm_lit, mSrc, itemsD, plOf, rng1D, bNm, mSl, mPt, mNoP, slD, mPar, keepT, tmsO, setA, mFlow, zipX, enumX, itemsX, intsOf, ints_all, boolsOf, shaped_lay, lay_int, lay_bool, lay_none, lay_dict, lay_tup, lay_list, lay_ints, sortX_ints, mPlF, mPlI, mRd, mPU, mPB, mFSet, mFNew, mNSet, mPApp, mPSetIx, mPPop, mMeth, mNew, isIns, cellO, mLstN, mAddN, mAppN, semX, mTold, mCallX, xRet, xExpr, xSet, mRaise, mM, isL, isS, mOrV, truD, mDNew, mDIn, mDGet, mDLen, mDPut, kyD, mNNew, mN1, mTake, mFnV, mCallF, mNIn, mNGet, mNPut, mNVals, mNList, nKs, mDGetD, mDList, mNNe, *])
abbrev xG6 (m : Int) : Xn := ⟨"TooGreat", [("most", .int 60), ("many", .int m)]⟩
theorem pb_x {Z Y : PyData} {m : Int} (hm : 60 < m) : (mIf (mTst (mB (cmpD .Gt) (mPl 2) (mTm (mK (.int 60))))) (mSeq (mRaiseX "TooGreat" ["many", "most"] (mCons (mPl 2) (mCons (mTm (mK (.int 60))) (mNil)))) (mSkip)) (mSkip)) [.sh Z, .sh Y, .sh (.int m), .no, .no, .no, .no, .no, .no, .no, .no] = some (.xc (xG6 m), [.sh Z, .sh Y, .sh (.int m), .no, .no, .no, .no, .no, .no, .no, .no]) := by
  have e : (mRaiseX "TooGreat" ["many", "most"] (mCons (mPl 2) (mCons (mTm (mK (.int 60))) (mNil)))) [.sh Z, .sh Y, .sh (.int m), .no, .no, .no, .no, .no, .no, .no, .no] = some (.xc (xG6 m), [.sh Z, .sh Y, .sh (.int m), .no, .no, .no, .no, .no, .no, .no, .no]) := by
    simp [mRaiseX, mCons, mPl, mTm, mK, mNil, bors, bor, L2.M.scal, cD, plOf, scD, tmsO]
  generalize mRaiseX _ _ _ = RX at *
  generalize xG6 m = X at *
  walk_at "es"
def mxc (z y : Pz) : Int := if z.c < y.c then y.c else z.c
theorem mxc_sw (z y : Pz) : mxc y z = mxc z y := by
  unfold mxc
  split <;> split <;> omega
theorem parted_great {z y : Pz} (h : 60 < mxc z y) : g_parted_by [.sh z.d, .sh y.d] = some (.inr (xG6 (mxc z y)), [.sh z.d, .sh y.d]) := by
  unfold g_parted_by m_parted_by
  refine rx_sem rfl ?_
  apply wx_nx pb_1
  refine wx_fl (pb_x h) (by simp) ?_
  exact ⟨rfl, rfl⟩
theorem parted_few {z y : Pz} (hz : z.Ok) (hy : y.Ok) (cz : z.c ≤ 60) (cy : y.c ≤ 60) {r : Option (List Bool)} (h : Res z y [st0 z y] [st0 z y] r) : g_parted_by [.sh z.d, .sh y.d] = some (.inl (.sh (resD r)), [.sh z.d, .sh y.d]) := by
  obtain ⟨ε, e, ha⟩ := parted_res hz hy cz cy h
  unfold g_parted_by
  exact rx_sem rfl (wx_val e ⟨rfl, ha⟩)
theorem ref_G6 (m : Int) : ref_law_refusal (xG6 m) = some (.tuple [.str "great", .int m, .int 60]) := by
  unfold ref_law_refusal
  rw [if_pos ⟨_, _, rfl⟩]
  rfl
theorem td_in {Z Y v : PyData} (e : g_parted_by [.sh Z, .sh Y] = some (.inl (.sh v), [.sh Z, .sh Y])) : g_law_told [.sh Z, .sh Y] = some (.sh v, [.sh Z, .sh Y]) := by
  unfold g_law_told m_law_told
  generalize g_parted_by = G at *
  walk_at "es"
theorem td_out {Z Y v : PyData} {x : Xn} (e : g_parted_by [.sh Z, .sh Y] = some (.inr x, [.sh Z, .sh Y])) (hx : ref_law_refusal x = some v) : g_law_told [.sh Z, .sh Y] = some (.sh v, [.sh Z, .sh Y]) := by
  unfold g_law_told m_law_told
  generalize g_parted_by = G at *
  generalize ref_law_refusal = F at *
  walk_at "es"
theorem lw_2 {sc c1 c5 c6 c7 c8 c3 c4 : C} {P P2 : List PyData} {Z Y : PyData} (f : g_law_pair [.ls P] = some (.sh (.tuple [Z, Y]), [.ls P2])) : (mAsg [3, 4] [] (bTup [bNm 3, bNm 4]) (mCall [true] g_law_pair (mCons (mPl 2) (mNil)))) [sc, c1, .ls P, c3, c4, c5, c6, c7, c8] = some (.nx, [sc, c1, .ls P2, .sh Z, .sh Y, c5, c6, c7, c8]) := by
  generalize g_law_pair = G at *
  walk_at "es"
theorem lw_3 {sc c1 c2 c5 c6 c7 c8 : C} {z y : Pz} : (mSet [] 5 (mOp (Bf.f .max) (mCons (mTm (mB ixD (mPl 3) (mTm (mK (.int 2))))) (mCons (mTm (mB ixD (mPl 4) (mTm (mK (.int 2))))) (mNil))))) [sc, c1, c2, .sh z.d, .sh y.d, c5, c6, c7, c8] = some (.nx, [sc, c1, c2, .sh z.d, .sh y.d, .sh (.int (mxc z y)), c6, c7, c8]) := by
  unfold Pz.d mxc
  walk_at "es"
theorem lw_4g {sc c1 c2 c6 c7 c8 : C} {Z Y : PyData} {m : Int} (h : 60 < m) : (mSet [] 6 (mIfE (mTst (mB (cmpD .Gt) (mPl 5) (mTm (mK (.int 60))))) (mTup (mCons (mTm (mK (.str "great"))) (mCons (mPl 5) (mCons (mTm (mK (.int 60))) (mNil))))) (mCall [true, true] g_law_shortest (mCons (mPl 3) (mCons (mPl 4) (mNil)))))) [sc, c1, c2, .sh Z, .sh Y, .sh (.int m), c6, c7, c8] = some (.nx, [sc, c1, c2, .sh Z, .sh Y, .sh (.int m), .sh (.tuple [.str "great", .int m, .int 60]), c7, c8]) := by
  generalize g_law_shortest = G at *
  walk_at "es"
theorem lw_4f {sc c1 c2 c6 c7 c8 : C} {Z Y D : PyData} {m : Int} (h : ¬ 60 < m) (f : g_law_shortest [.sh Z, .sh Y] = some (.sh D, [.sh Z, .sh Y])) : (mSet [] 6 (mIfE (mTst (mB (cmpD .Gt) (mPl 5) (mTm (mK (.int 60))))) (mTup (mCons (mTm (mK (.str "great"))) (mCons (mPl 5) (mCons (mTm (mK (.int 60))) (mNil))))) (mCall [true, true] g_law_shortest (mCons (mPl 3) (mCons (mPl 4) (mNil)))))) [sc, c1, c2, .sh Z, .sh Y, .sh (.int m), c6, c7, c8] = some (.nx, [sc, c1, c2, .sh Z, .sh Y, .sh (.int m), .sh D, c7, c8]) := by
  generalize g_law_shortest = G at *
  walk_at "es"
theorem lw_5 {sc c1 c2 c5 c7 c8 : C} {Z Y D : PyData} (e1 : g_law_told [.sh Z, .sh Y] = some (.sh D, [.sh Z, .sh Y])) (e2 : g_law_told [.sh Y, .sh Z] = some (.sh D, [.sh Y, .sh Z])) {S : Str} (rp : reprG [.list [D, D, D]] = some (.sh (.str S))) : (mIf (mTst (mB (cmpD .NotEq) (mTm (mOp reprG (mCons (mTm (mLst (mCons (mTm (mCall [true, true] g_law_told (mCons (mPl 3) (mCons (mPl 4) (mNil))))) (mCons (mTm (mCall [true, true] g_law_told (mCons (mPl 4) (mCons (mPl 3) (mNil))))) (mCons (mTm (mCall [true, true] g_law_told (mCons (mPl 3) (mCons (mPl 4) (mNil))))) (mNil)))))) (mNil)))) (mTm (mOp reprG (mCons (mTm (mB (binD .Mult) (mTm (mLst (mCons (mPl 6) (mNil)))) (mTm (mK (.int 3))))) (mNil)))))) (mSeq (mRet (mK (.bool false))) (mSkip)) (mSkip)) [sc, c1, c2, .sh Z, .sh Y, c5, .sh D, c7, c8] = some (.nx, [sc, c1, c2, .sh Z, .sh Y, c5, .sh D, c7, c8]) := by
  have hm : mulD (.list [D]) (.int 3) = some (.ls [D, D, D]) := by
    show (if -(2 ^ 63) ≤ (3 : Int) ∧ (3 : Int) < 2 ^ 63 ∧ [D].length * (3 : Int).toNat ≤ sizeLine then some (C.ls (List.replicate (3 : Int).toNat [D]).flatten) else none) = _
    rw [if_pos ⟨by decide, by decide, by rw [sizeLine_eq]; simp⟩]
    rfl
  have e0 : binD .Mult = mulD := rfl
  rw [e0]
  generalize mulD = M at *
  generalize g_law_told = G at *
  generalize reprG = R at *
  walk_at "es"
theorem lw_6s {sc c1 c3 c4 c5 c7 c8 : C} {P P2 L : List PyData} {T : Str} (f : g_law_things [.ls P, .sh (.str T)] = some (.ls L, [.ls P2, .sh (.str T)])) : (mSrc itemsD (mCons (mTm (mCall [true, true] g_law_things (mCons (mPl 2) (mCons (mTm (mIfE (mTst (mIsi .str (mPl 6))) (mVar 6) (mK (.str "ak")))) (mNil))))) mNil)) [sc, c1, .ls P, c3, c4, c5, .sh (.str T), c7, c8] = some ((L, []), [sc, c1, .ls P2, c3, c4, c5, .sh (.str T), c7, c8]) := by
  generalize g_law_things = G at *
  walk_at "es"
theorem lw_6n {sc c1 c3 c4 c5 c7 c8 : C} {P P2 L : List PyData} {D : PyData} (hD : isiD .str D = false) (f : g_law_things [.ls P, .sh (.str "ak")] = some (.ls L, [.ls P2, .sh (.str "ak")])) : (mSrc itemsD (mCons (mTm (mCall [true, true] g_law_things (mCons (mPl 2) (mCons (mTm (mIfE (mTst (mIsi .str (mPl 6))) (mVar 6) (mK (.str "ak")))) (mNil))))) mNil)) [sc, c1, .ls P, c3, c4, c5, .sh D, c7, c8] = some ((L, []), [sc, c1, .ls P2, c3, c4, c5, .sh D, c7, c8]) := by
  generalize g_law_things = G at *
  cases D with
  | str z => exact absurd hD (by simp [isiD])
  | _ => clear hD; walk_at "es"
theorem lw_7 {sc c1 c2 c5 c6 c8 : C} {Z Y d : PyData} {b : Bool} (e : g_law_parts [.sh Z, .sh Y, .sh d] = some (.sh (.bool b), [.sh Z, .sh Y, .sh d])) : (mSet [] 8 (mCall [true, true, true] g_law_parts (mCons (mPl 3) (mCons (mPl 4) (mCons (mPl 7) (mNil)))))) [sc, c1, c2, .sh Z, .sh Y, c5, c6, .sh d, c8] = some (.nx, [sc, c1, c2, .sh Z, .sh Y, c5, c6, .sh d, .sh (.bool b)]) := by
  generalize g_law_parts = G at *
  walk_at "es"
theorem lw_8 {sc c1 c2 c5 c6 : C} {Z Y d : PyData} {b : Bool} (e1 : g_parts [.sh Z, .sh Y, .sh d] = some (.sh (.bool b), [.sh Z, .sh Y, .sh d])) (e2 : g_parts [.sh Y, .sh Z, .sh d] = some (.sh (.bool b), [.sh Y, .sh Z, .sh d])) {S : Str} (rp : reprG [.list [.bool b, .bool b]] = some (.sh (.str S))) : (mIf (mTst (mB (cmpD .NotEq) (mTm (mOp reprG (mCons (mTm (mLst (mCons (mTm (mCall [true, true, true] g_parts (mCons (mPl 3) (mCons (mPl 4) (mCons (mPl 7) (mNil)))))) (mCons (mTm (mCall [true, true, true] g_parts (mCons (mPl 4) (mCons (mPl 3) (mCons (mPl 7) (mNil)))))) (mNil))))) (mNil)))) (mTm (mOp reprG (mCons (mTm (mLst (mCons (mPl 8) (mCons (mPl 8) (mNil))))) (mNil)))))) (mSeq (mRet (mK (.bool false))) (mSkip)) (mSkip)) [sc, c1, c2, .sh Z, .sh Y, c5, c6, .sh d, .sh (.bool b)] = some (.nx, [sc, c1, c2, .sh Z, .sh Y, c5, c6, .sh d, .sh (.bool b)]) := by
  generalize g_parts = G at *
  generalize reprG = R at *
  walk_at "es"
theorem rp_bb (b : Bool) : reprG [.list [.bool b, .bool b]] = some (.sh (.str (PyData.list [.bool b, .bool b]).shown)) :=
  reprG_eq (shw_lst (k := 2) (n := 5) (shw_cons (shw_bool 2 b) (shw_cons (shw_bool 2 b) shw_nil))) (by decide) (by rw [sizeLine_eq]; simp)
theorem shw_tx {B : Nat} {z : Str} (h : Tx B z) (k : Nat) : Shw k (10 * B + 2) (.str z) := by
  refine shw_str k h.strOk ?_
  have h1 := PySem.StrLaws.reprText_len z (fun c hc => Nat.lt_trans (h.ok c hc) (by decide))
  have h2 := h.len
  omega
theorem rp_3 {D : PyData} (h : Shw 3 100002 D) : reprG [.list [D, D, D]] = some (.sh (.str (PyData.list [D, D, D]).shown)) :=
  reprG_eq (shw_lst (k := 3) (n := 100002) (shw_cons h (shw_cons h (shw_cons h shw_nil)))) (by decide) (by rw [sizeLine_eq]; simp)
theorem txW_tx {w : List Bool} (hl : w.length ≤ 10000) : Tx 10000 (txW w) := ⟨by
  intro c hc
  rw [txW_cps] at hc
  obtain ⟨g, _, rfl⟩ := List.mem_map.mp hc
  cases g <;> decide, by rw [txW_len]; exact hl⟩
/-- what the row's length is -/
theorem res_len {z y : Pz} (hz : z.Ok) (hy : y.Ok) (cz : z.c ≤ 60) (cy : y.c ≤ 60) {r : Option (List Bool)} (h : Res z y [st0 z y] [st0 z y] r) : ∀ w, r = some w → w.length ≤ 10000 := by
  obtain ⟨R, hR, _⟩ := parted_wx hz hy cz cy (LInv z y) (fun t F k => k.b) (linv0 z y) (fun t F e k he hm => linv_step k he hm)
  rcases hR with ⟨rfl, F, k⟩ | ⟨t, F, x, T, k, hx, hm, hT, rfl⟩
  · rw [h.det (linv_none k)]
    intro w e
    cases e
  · rw [h.det (linv_hit k hx hm)]
    intro w e
    cases e
    have h1 := bw_len k.b t x hx
    have h2 := b_len hz hy cz cy k.b
    have h3 := (List.getElem?_eq_some_iff.mp hx).1
    rw [List.length_append, List.length_singleton]
    omega
def okD (D : PyData) : Prop := Shw 3 100002 D ∧ (isiD .str D = false ∨ ∃ T, D = .str T ∧ Tx 10000 T)
theorem due_eq {z y : Pz} (hz : z.Ok) (hy : y.Ok) (bz : z.c ≤ 63) (by_ : y.c ≤ 63) {sc c1 c2 c6 c7 c8 : C} : ∃ D : PyData, okD D ∧ (mSet [] 6 (mIfE (mTst (mB (cmpD .Gt) (mPl 5) (mTm (mK (.int 60))))) (mTup (mCons (mTm (mK (.str "great"))) (mCons (mPl 5) (mCons (mTm (mK (.int 60))) (mNil))))) (mCall [true, true] g_law_shortest (mCons (mPl 3) (mCons (mPl 4) (mNil)))))) [sc, c1, c2, .sh z.d, .sh y.d, .sh (.int (mxc z y)), c6, c7, c8] = some (.nx, [sc, c1, c2, .sh z.d, .sh y.d, .sh (.int (mxc z y)), .sh D, c7, c8]) ∧ g_law_told [.sh z.d, .sh y.d] = some (.sh D, [.sh z.d, .sh y.d]) ∧ g_law_told [.sh y.d, .sh z.d] = some (.sh D, [.sh y.d, .sh z.d]) := by
  by_cases hg : 60 < mxc z y
  · have e1 := td_out (parted_great hg) (ref_G6 _)
    have e2 := td_out (parted_great (z := y) (y := z) (by rw [mxc_sw]; exact hg)) (ref_G6 _)
    rw [mxc_sw] at e2
    have hb : mxc z y ≤ 63 := by
      unfold mxc
      split <;> omega
    refine ⟨_, ⟨?_, .inl rfl⟩, lw_4g hg, e1, e2⟩
    exact (shw_tup (k := 2) (n := 20) (ds := [.str "great", .int (mxc z y), .int 60]) (shw_cons (shw_str 2 (by decide +kernel) (by decide +kernel)) (shw_cons (shw_i20 2 (by omega) (by omega)) (shw_cons (shw_i20 2 (by decide) (by decide)) shw_nil)))).mono (by decide) (by simp)
  · have hc : z.c ≤ 60 ∧ y.c ≤ 60 := by
      unfold mxc at hg
      split at hg <;> omega
    obtain ⟨r, hr, e⟩ := shortest_eq hz hy hc.1 hc.2
    have e1 := td_in (parted_few hz hy hc.1 hc.2 hr)
    have e2 := td_in (parted_few hy hz hc.2 hc.1 hr.swap0)
    have hl := res_len hz hy hc.1 hc.2 hr
    refine ⟨resD r, ?_, lw_4f hg e, e1, e2⟩
    cases r with
    | none => exact ⟨(shw_none 3).mono (by decide) (by decide), .inl rfl⟩
    | some w =>
      have t := txW_tx (hl w rfl)
      exact ⟨shw_tx t 3, .inr ⟨_, rfl, t⟩⟩
theorem law_true (ns : List Int) (hl : ns.length ≤ 63) : ∃ cs', semF [false] 9 m_law [.sh (.list (ns.map PyData.int))] = some (.sh (.bool true), cs') := by
  have main : Rt (semF [false] 9 m_law [.sh (.list (ns.map PyData.int))]) fun c _ => c = .sh (.bool true) := by
    unfold m_law
    apply rt_sem rfl
    apply wx_seq
    apply wx_each (ds := (PyData.int (ns.getD 0 0)) :: (L2.M.cutL ns (some 1) (some 3)).map PyData.int) (ε1 := [.sh (.list (ns.map PyData.int)), .no, .no, .no, .no, .no, .no, .no, .no]) fun ε => ∃ c1 c2 c3 c4 c5 c6 c7 c8, ε = [.sh (.list (ns.map PyData.int)), c1, c2, c3, c4, c5, c6, c7, c8]
    · have hz := cut_len ns (some 1) (some 3)
      have h6 : 1 + (L2.M.cutL ns (some 1) (some 3)).length ≤ 16777216 := by omega
      have h7 : (L2.M.cutL ns (some 1) (some 3)).length + 1 ≤ 16777216 := by omega
      have h8 : (L2.M.cutL ns (some 1) (some 3)).length ≤ 16777215 := by omega
      have h9 := @cut_map
      walk_at "es"
    · exact ⟨_, _, _, _, _, _, _, _, rfl⟩
    · rintro d ε hd ⟨c1, c2, c3, c4, c5, c6, c7, c8, rfl⟩
      obtain ⟨x, rfl⟩ := cells_int ns 3 d hd
      clear hd hl
      generalize hsc : C.sh (PyData.list (ns.map PyData.int)) = sc
      clear hsc
      refine ⟨_, rfl, ?_⟩
      walk_at "nx"
      obtain ⟨_, _, e1, z, y, q, hz, hy, bz, by_, rfl, rfl⟩ := law_pair_eq (pnOf x)
      apply wx_nx (lw_2 e1)
      apply wx_nx lw_3
      obtain ⟨D, hD, e2, t1, t2⟩ := due_eq hz hy bz by_ (sc := sc) (c1 := .sh (.int x)) (c2 := .ls (penL q)) (c6 := c6) (c7 := c7) (c8 := c8)
      apply wx_nx e2
      apply wx_nx (lw_5 t1 t2 (rp_3 hD.1))
      clear e1 e2 t1 t2
      generalize C.sh (.int (mxc z y)) = c5
      have hsrc : ∃ (L : List PyData) (q2 : Pn), (∀ d ∈ L, Tg d) ∧ (mSrc itemsD (mCons (mTm (mCall [true, true] g_law_things (mCons (mPl 2) (mCons (mTm (mIfE (mTst (mIsi .str (mPl 6))) (mVar 6) (mK (.str "ak")))) (mNil))))) mNil)) [sc, .sh (.int x), .ls (penL q), .sh z.d, .sh y.d, c5, .sh D, c7, c8] = some ((L, []), [sc, .sh (.int x), .ls (penL q2), .sh z.d, .sh y.d, c5, .sh D, c7, c8]) := by
        rcases hD.2 with h | ⟨T, rfl, hT⟩
        · obtain ⟨_, _, e, L, q2, hL, hTg, rfl, rfl⟩ := things_eq q (R := "ak") (tx_lit (by decide +kernel))
          exact ⟨L, q2, hTg, lw_6n h e⟩
        · obtain ⟨_, _, e, L, q2, hL, hTg, rfl, rfl⟩ := things_eq q hT
          exact ⟨L, q2, hTg, lw_6s e⟩
      obtain ⟨L, q2, hTg, hs⟩ := hsrc
      apply wx_seq
      apply wx_each (ds := L) (ε1 := [sc, .sh (.int x), .ls (penL q2), .sh z.d, .sh y.d, c5, .sh D, c7, c8]) fun ε => ∃ c7 c8, ε = [sc, .sh (.int x), .ls (penL q2), .sh z.d, .sh y.d, c5, .sh D, c7, c8]
      · exact hs
      · exact ⟨_, _, rfl⟩
      · rintro d ε hd ⟨c7, c8, rfl⟩
        refine ⟨[sc, .sh (.int x), .ls (penL q2), .sh z.d, .sh y.d, c5, .sh D, .sh d, c8], rfl, ?_⟩
        obtain ⟨o, ho⟩ := say_any d
        have hg : ∀ T, d = .str T → T.length ≤ 90000 ∧ PyData.strOk T = true := hTg d hd
        have p1 := parts_any (z := z) (y := y) ho hg
        have p2 := parts_any (z := y) (y := z) ho hg
        have p3 := law_parts_any (z := z) (y := y) ho hg
        rw [sayV_sw] at p2
        apply wx_nx (lw_7 p3)
        apply wx_nx (lw_8 p1 p2 (rp_bb _))
        exact wx_skip ⟨_, _, rfl⟩
      · rintro ε ⟨c7, c8, rfl⟩
        exact wx_skip ⟨_, _, _, _, _, _, _, _, rfl⟩
    rintro ε ⟨c1, c2, c3, c4, c5, c6, c7, c8, rfl⟩
    apply wx_rt
    · walk_at "ev"
      exact ⟨rfl, rfl⟩
    exact rfl
  obtain ⟨c, cs, e, rfl⟩ := main
  exact ⟨cs, e⟩
end KW
namespace KW
open PySem PySem.Spec PyProof.Rows L2 L2.M
abbrev R : PySem.W.OpenRow := PySem.W.OpenLaw.row PySem.Challenge.rw_knockpurse_k36_rows_that_part_purses
abbrev hk : PySem.W.Hook := hookY 4 fa fn (csA)
def ob (s : PySem.W.SharedT) : Bool × He.AlD := obsYG 4 fa fn csA (HandSHeadRun.getT s)
theorem ob_eq (s : PySem.W.SharedT) : ob s = hk.obs s.abs := obsYG_eq (HandSHeadRun.getT_eq s)
theorem run (w : World) : HandSHeadRun.RunEq R (PySem.W.view R.prog [32]) hk ob 8000 ["put_in", "walked", "knocked", "is_row", "parts", "row_back", "parted_by", "_law_cell_at", "_law_next", "_law_pen_of", "_law_draw", "_law_small", "_law_odd", "_law_refusal", "_law_pair", "_law_on", "_law_shortest", "_law_parts", "_law_told", "_law_things", "MOST_PARTED", "KnockError", "NoBeat", "NoStep", "NoNumber", "NoLine", "NoStory", "NoText", "TooGreat"] w := by
  intro os
  kernel_rfl
end KW
open PySem PySem.W PySem.Calls PyProof.Rows
theorem PySem.Challenge.cw_knockpurse_k36_rows_that_part_purses_holds : PySem.Challenge.rw_knockpurse_k36_rows_that_part_purses.Holds := by
  w_on; o_law
  refine HandSHeadRun.head_any (r := OpenLaw.row PySem.Challenge.rw_knockpurse_k36_rows_that_part_purses) (q := view (OpenLaw.row PySem.Challenge.rw_knockpurse_k36_rows_that_part_purses).prog [32]) (H := KW.hk) (ob := KW.ob) (M := 8000) (loose := ["put_in", "walked", "knocked", "is_row", "parts", "row_back", "parted_by", "_law_cell_at", "_law_next", "_law_pen_of", "_law_draw", "_law_small", "_law_odd", "_law_refusal", "_law_pair", "_law_on", "_law_shortest", "_law_parts", "_law_told", "_law_things", "MOST_PARTED", "KnockError", "NoBeat", "NoStep", "NoNumber", "NoLine", "NoStory", "NoText", "TooGreat"]) (d := HandSHeadRun.topDef (OpenLaw.row PySem.Challenge.rw_knockpurse_k36_rows_that_part_purses).prog 32) (kwd := []) KW.ob_eq
    (by kernel_rfl) (fun s => by kernel_rfl) KW.run (by kernel_rfl) (by kernel_rfl) (by kernel_rfl) (by rfl) (by first | assumption | decide +kernel) (by decide +kernel) ⟨rfl, rfl, rfl, rfl, rfl, by decide +kernel⟩ ?hw ?hc
  case hw => w_witness2
  case hc =>
    refine L2.M.walkG (l := PySem.Challenge.rw_knockpurse_k36_rows_that_part_purses) (n := 63) (k := 5) (x := "_law_script") rfl (by decide) (by kernel_rfl) ⟨⟨rfl, by decide, by decide⟩, rfl⟩ ?F
    intro w mg fa h Y G hmg0
    obtain ⟨K, KX, c, cc⟩ := Y
    have hmg : mg ("law" : PySem.Str) = some (.ref fa) := by
      have e : (HandSHeadRun.topDef (OpenLaw.row PySem.Challenge.rw_knockpurse_k36_rows_that_part_purses).prog 32).name = ("law" : PySem.Str) := by kernel_rfl
      rw [← e]
      exact hmg0
    obtain ⟨fd, hb, hF⟩ := L2.M.topG (P := (PySem.Challenge.rw_knockpurse_k36_rows_that_part_purses).prog) (w := w) ⟨h, KX, G, c⟩ 20 20 (k := 4) (m := KW.m_law) rfl rfl rfl KW.pl_law KW.sc_law hmg (fun base => KW.bd_law ⟨h, KX, G, c⟩ cc)
    exact ⟨K, fd, _, KX, hb, fun H a ns hl O hS => L2.M.sp_law O hS (KW.law_true ns hl), hF⟩
