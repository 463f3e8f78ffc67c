import PyProof.Rows.All
import Wide.All
import OpenK.AllK
import Wide.FinOn
import KE.KStateDown
import HandS.Base
import HandS.Call
import HandS.Ends
import HandS.More
import HandS.Words
import HandS.WordsExc
import HandS.Defaults
import HandS.Head0
import HandS.Head1
import HandS.Head2
import HandS.HeadEnd
import HandS.HeadHook1
import HandS.HeadHook2
import HandS.ForMost
import HandS.IsInst
import KE.KDictKeyed
import HandS.TupAny
import HandS.TupMul
import HandS.Style
import HandS.Wide
import HandS.Deep
import HandS.SortInts
import HandS.RaiseMore
import HandS.WideBits
import KE.KEqNest
import HandS.Walk
import HandS.ExcCtx
import HandS.Dict
import HandS.Zip
import KE.GoesEnum
import KE.KSortTupG
import HandS.TupSets
import HandS.Conv
import HandS.TryOnly
import HandS.Small
import HandS.ExcIs
import HandS.ExcField
import HandS.HotCalls
import HandS.ExcInit
import HandS.Flow
import HandS.SetFor
import HandS.Rev
import HandS.WordsDict
import HandS.Iter
import KE.KDictLaw
import KE.KDictCopyH
import KE.KDictDisplayH
import KE.DataCmp
import KE.DataMinMax
import KE.SortData
import KE.KDictPairs
import HandS.Text
import HandS.Steps
import HandS.Replace
import HandS.ReplaceLit
import HandS.ReplaceDef
import KE.KEqDict
import PyProof.SeqIndex
import HandS.DeepEq
import PyProof.NeKinds
import KE.KDictList
import Flt.Ops
import PyProof.ListStr
import KE.KIntText
import PySem.Challenge.RW_knockpurse_k70_whole_beat_by_beat_alike
set_option Elab.async false
set_option linter.all false
set_option maxRecDepth 100000
set_option maxHeartbeats 0
namespace L2.M
open PySem PySem.Spec PyProof.Rows
abbrev D := PyData
def keyD : Key → D
  | .inl i => .int i
  | .inr x => .str x
/-- a tuple, known to have no dict of its own -/
def HdT (F : Hp) (a : Addr) (xs : List V) : Prop := ∃ o : Obj, o.dict = none ∧ F a = some (.frz o (.tup xs))
theorem HdT.sq {K : PySem.W.Frag} {F : Hp} {a : Addr} {xs : List V} (h : HdT F a xs) : SqT K F a xs := by
  obtain ⟨o, _, h⟩ := h
  exact .inl (.inr ⟨o, h⟩)
theorem HdT.mono {F F' : Hp} {a : Addr} {xs : List V} (e : Same F F') (h : HdT F a xs) : HdT F' a xs := by
  obtain ⟨o, h1, h⟩ := h
  exact ⟨o, h1, e _ _ h⟩
mutual
def Rep (K : PySem.W.Frag) (F : Hp) : V → D → Prop
  | v, .none => v = .non
  | v, .bool b => v = .bl b
  | v, .int i => v = .int i
  | v, .str x => v = .str x
  | v, .list ds => ∃ a vs, v = .ref a ∧ SqL K F a vs ∧ Reps K F vs ds
  | v, .tuple ds => ∃ a vs, v = .ref a ∧ HdT F a vs ∧ Reps K F vs ds
  | v, .dict kds => ∃ a kvs, v = .ref a ∧ F a = some (.dK kvs) ∧ RepKs K F kvs kds
def Reps (K : PySem.W.Frag) (F : Hp) : List V → List D → Prop
  | vs, [] => vs = []
  | vs, d :: ds => ∃ v r, vs = v :: r ∧ Rep K F v d ∧ Reps K F r ds
def RepKs (K : PySem.W.Frag) (F : Hp) : List (Key × V) → List (D × D) → Prop
  | kvs, [] => kvs = []
  | kvs, (k, d) :: kds => ∃ key v r, kvs = (key, v) :: r ∧ k = keyD key ∧ Rep K F v d ∧ RepKs K F r kds
end
theorem sameL {K : PySem.W.Frag} {H H' : Hp} {a : Addr} {xs : List V} (e : Same H H') (h : SqL K H a xs) : SqL K H' a xs := e.seq h
theorem sameT {K : PySem.W.Frag} {H H' : Hp} {a : Addr} {xs : List V} (e : Same H H') (h : SqT K H a xs) : SqT K H' a xs := by
  rcases h with (h | ⟨o, h⟩) | h
  · exact .inl (.inl (e _ _ h))
  · exact .inl (.inr ⟨o, e _ _ h⟩)
  · exact .inr h
section
variable {K : PySem.W.Frag} {F F' : Hp}
mutual
theorem Rep.mono (e : Same F F') : ∀ (d : D) (v : V), Rep K F v d → Rep K F' v d
  | .none, v, h => h
  | .bool b, v, h => h
  | .int b, v, h => h
  | .str b, v, h => h
  | .list ds, v, ⟨a, vs, h1, h2, h3⟩ => ⟨a, vs, h1, sameL e h2, Reps.mono e ds vs h3⟩
  | .tuple ds, v, ⟨a, vs, h1, h2, h3⟩ => ⟨a, vs, h1, h2.mono e, Reps.mono e ds vs h3⟩
  | .dict kds, v, ⟨a, vs, h1, h2, h3⟩ => ⟨a, vs, h1, e _ _ h2, RepKs.mono e kds vs h3⟩
theorem Reps.mono (e : Same F F') : ∀ (ds : List D) (vs : List V), Reps K F vs ds → Reps K F' vs ds
  | [], vs, h => h
  | d :: ds, vs, ⟨v, r, h1, h2, h3⟩ => ⟨v, r, h1, Rep.mono e d v h2, Reps.mono e ds r h3⟩
theorem RepKs.mono (e : Same F F') : ∀ (ds : List (D × D)) (vs : List (Key × V)), RepKs K F vs ds → RepKs K F' vs ds
  | [], vs, h => h
  | (k, d) :: ds, vs, ⟨key, v, r, h1, h0, h2, h3⟩ => ⟨key, v, r, h1, h0, Rep.mono e d v h2, RepKs.mono e ds r h3⟩
end
theorem Reps.length : ∀ {ds : List D} {vs : List V}, Reps K F vs ds → vs.length = ds.length
  | [], vs, h => by cases (show vs = [] from h); rfl
  | d :: ds, vs, ⟨v, r, h1, h2, h3⟩ => by subst h1; simp [Reps.length h3]
theorem Reps.get : ∀ {ds : List D} {vs : List V} {i : Nat} {d : D}, Reps K F vs ds → ds[i]? = some d → ∃ v, vs[i]? = some v ∧ Rep K F v d
  | [], vs, i, d, h, e => by simp at e
  | d :: ds, vs, 0, d', ⟨v, r, h1, h2, h3⟩, e => by
    simp at e; subst e; subst h1; exact ⟨v, rfl, h2⟩
  | d :: ds, vs, i + 1, d', ⟨v, r, h1, h2, h3⟩, e => by
    subst h1
    obtain ⟨v', e1, e2⟩ := Reps.get (i := i) h3 (by simpa using e)
    exact ⟨v', by simpa using e1, e2⟩
theorem Reps.append : ∀ {ds es : List D} {vs ws : List V}, Reps K F vs ds → Reps K F ws es → Reps K F (vs ++ ws) (ds ++ es)
  | [], es, vs, ws, h, g => by cases (show vs = [] from h); exact g
  | d :: ds, es, vs, ws, ⟨v, r, h1, h2, h3⟩, g => by subst h1; exact ⟨v, r ++ ws, rfl, h2, Reps.append h3 g⟩
theorem Reps.one {v : V} {d : D} (h : Rep K F v d) : Reps K F [v] [d] := ⟨v, [], rfl, h, rfl⟩
theorem Reps.take : ∀ {ds : List D} {vs : List V} (n : Nat), Reps K F vs ds → Reps K F (vs.take n) (ds.take n)
  | _, _, 0, _ => by simp [Reps]
  | [], vs, n + 1, h => by cases (show vs = [] from h); simp [Reps]
  | d :: ds, vs, n + 1, ⟨v, r, h1, h2, h3⟩ => by subst h1; exact ⟨v, _, rfl, h2, Reps.take n h3⟩
theorem Reps.drop : ∀ {ds : List D} {vs : List V} (n : Nat), Reps K F vs ds → Reps K F (vs.drop n) (ds.drop n)
  | _, _, 0, h => h
  | [], vs, n + 1, h => by cases (show vs = [] from h); simp [Reps]
  | d :: ds, vs, n + 1, ⟨v, r, h1, h2, h3⟩ => by subst h1; exact Reps.drop n h3
theorem Reps.set {v : V} {d : D} (g : Rep K F v d) : ∀ {ds : List D} {vs : List V} (n : Nat), Reps K F vs ds → Reps K F (vs.set n v) (ds.set n d)
  | [], vs, n, h => by cases (show vs = [] from h); simp [Reps]
  | d' :: ds, vs, 0, ⟨v', r, h1, h2, h3⟩ => by subst h1; exact ⟨v, r, rfl, g, h3⟩
  | d' :: ds, vs, n + 1, ⟨v', r, h1, h2, h3⟩ => by subst h1; exact ⟨v', _, rfl, h2, Reps.set g n h3⟩
theorem Reps.reverse : ∀ {ds : List D} {vs : List V}, Reps K F vs ds → Reps K F vs.reverse ds.reverse
  | [], vs, h => by cases (show vs = [] from h); simp [Reps]
  | d :: ds, vs, ⟨v, r, h1, h2, h3⟩ => by
    subst h1
    rw [List.reverse_cons, List.reverse_cons]
    exact Reps.append (Reps.reverse h3) (Reps.one h2)
theorem Reps.replicate {ds : List D} {vs : List V} (h : Reps K F vs ds) : ∀ n : Nat, Reps K F (List.replicate n vs).flatten (List.replicate n ds).flatten
  | 0 => by simp [Reps]
  | n + 1 => by
    rw [List.replicate_succ, List.replicate_succ, List.flatten_cons, List.flatten_cons]
    exact Reps.append h (Reps.replicate h n)
end
inductive Kd where
  | ls | ins (cls : Str) (fs : List Str) | dn (ks : List D)
/-- an error on its way: its class by its name, its fields -/
structure Xn where
  cls : Str
  as : List (Str × D)
inductive C where
  | no | sh (d : D) | ls (ds : List D) | dc (k : Nat) (kvs : List (D × D)) | ob (k : Kd) (cs : List C)
  | px (a : Addr) (cls : Value) (d : Option Addr) (x : Xn)
  | fn (x : Str) | fd (kds : List (D × D)) | fk (kds : List (D × D))
abbrev Cs := List C
/-- what is written once and for all: the program's fragment, the world -/
abbrev Ek := PySem.W.Frag × World
abbrev _root_.L2.Cx.E (X : Cx) : Ek := (X.K, X.w)
mutual
def nKey : D → Option NestedKey
  | .none => some .none
  | .bool b => some (.num (if b = true then 1 else 0))
  | .int i => some (.num i)
  | .str x => some (.text x)
  | .tuple ds => (nKeys ds).map .tup
  | _ => none
def nKeys : List D → Option (List NestedKey)
  | [] => some []
  | d :: ds => match nKey d, nKeys ds with
    | some k, some ks => some (k :: ks)
    | _, _ => none
end
abbrev NEnt := NestedKey × Addr
def nkE (w : World) (x : NEnt × Value) : DictEntry := ⟨x.1.1.hash w, .ref x.1.2, x.2⟩
/-- a dict whose keys are tuples, nested, told by its object -/
def nkO (w : World) (a : Addr) (xs : List (NEnt × V)) : HO := .ext fun h => xs.length ≤ sizeLine ∧ (a == sysModules) = false ∧ ∃ vs : List (NEnt × Value), Paired (fun (p : NEnt × V) (q : NEnt × Value) => p.1 = q.1 ∧ RelV p.2 q.2) xs vs ∧ ∃ o es ep, h.get? a = some o ∧ o.ExactDict ∧ o.data = .dict es ep ∧ es.toList = vs.map (nkE w) ∧ (xs.map (·.1.1)).Nodup
def KeysN (K : PySem.W.Frag) (F : Hp) : List NEnt → List D → Prop
  | bs, [] => bs = []
  | bs, k :: ks => ∃ b r, bs = b :: r ∧ nKey k = some b.1 ∧ b.1.depth ≤ 8 ∧ Rep K F (.ref b.2) k ∧ KeysN K F r ks
def RepX (K : Ek) (F : Hp) (cls : Value) (d : Option Addr) (x : Xn) : Prop := cls = .ref (He.ga K.1 x.cls) ∧ ((x.as = [] ∧ d = none) ∨ ∃ dx fs, d = some dx ∧ F dx = some (.xd fs) ∧ fs.map (·.1) = x.as.map (·.1) ∧ Reps K.1 F (fs.map (·.2)) (x.as.map (·.2)))
def RepTs (K : PySem.W.Frag) (F : Hp) : List (List Key × V) → List (D × D) → Prop
  | kvs, [] => kvs = []
  | kvs, (k, d) :: kds => ∃ key v r, kvs = (key, v) :: r ∧ k = .tuple (key.map keyD) ∧ Rep K F v d ∧ RepTs K F r kds
/-- a dict of one's own -/
def DcAt (K : PySem.W.Frag) (F H : Hp) (a : Addr) : Nat → List (D × D) → Prop
  | 0, kds => ∃ kvs, H a = some (.dK kvs) ∧ RepKs K F kvs kds
  | 1, kds => ∃ kvs, H a = some (.dT kvs) ∧ RepTs K F kvs kds
  | _, _ => False
def ObAt (K : Ek) (F H : Hp) (a : Addr) (vs : List V) : Kd → Prop
  | .ls => H a = some (.lst vs)
  | .ins x fs => ∃ dx, H a = some (.ins (He.ga K.1 x) dx (fs.zip vs)) ∧ fs.length = vs.length ∧ fs.Nodup
  | .dn ks => ∃ bs : List NEnt, H a = some (nkO K.2 a (bs.zip vs)) ∧ bs.length = vs.length ∧ KeysN K.1 F bs ks ∧ (bs.map (·.1)).Nodup
def Kd.pl : Kd → Prop
  | .dn _ => False
  | _ => True
/-- .. of a thing with places -/
def ObP (K : Ek) (H : Hp) (a : Addr) (vs : List V) : Kd → Prop
  | .ls => H a = some (.lst vs)
  | .ins x fs => ∃ dx, H a = some (.ins (He.ga K.1 x) dx (fs.zip vs)) ∧ fs.length = vs.length ∧ fs.Nodup
  | .dn _ => False
theorem ObP.at {K : Ek} {F H : Hp} {a : Addr} {vs : List V} : ∀ {k : Kd}, ObP K H a vs k → ObAt K F H a vs k
  | .ls, h => h
  | .ins _ _, h => h
  | .dn _, h => h.elim
theorem ObP.pl {K : Ek} {H : Hp} {a : Addr} {vs : List V} : ∀ {k : Kd}, ObP K H a vs k → k.pl
  | .ls, h => trivial
  | .ins _ _, h => trivial
  | .dn _, h => h.elim
theorem ObAt.p {K : Ek} {F H : Hp} {a : Addr} {vs : List V} : ∀ {k : Kd}, k.pl → ObAt K F H a vs k → ObP K H a vs k
  | .ls, _, h => h
  | .ins _ _, _, h => h
  | .dn _, h, _ => h.elim
theorem ObP.frame {K : Ek} {H H' : Hp} {a : Addr} {vs : List V} (h' : H' a = H a) : ∀ {k : Kd}, ObP K H a vs k → ObP K H' a vs k
  | .ls, h => h'.trans h
  | .ins _ _, ⟨dx, h2, h3⟩ => ⟨dx, h'.trans h2, h3⟩
  | .dn _, h => h.elim
/-- a dict with nested keys that is changed no more -/
def FdAt (K : Ek) (F : Hp) (a : Addr) (kds : List (D × D)) : Prop := ∃ od bs vs, F a = some (.frz od (nkO K.2 a (bs.zip vs))) ∧ bs.length = vs.length ∧ KeysN K.1 F bs (kds.map (·.1)) ∧ Reps K.1 F vs (kds.map (·.2))
/-- a dict whose keys are numbers and texts that is changed no more -/
def FkAt (K : Ek) (F : Hp) (a : Addr) (kds : List (D × D)) : Prop := ∃ od kvs, F a = some (.frz od (.dK kvs)) ∧ RepKs K.1 F kvs kds
mutual
/-- a cell is held: the addresses that are its own -/
def RpC (K : Ek) (F H : Hp) : Option V → C → List Addr → Prop
  | o, .no, A => A = []
  | o, .sh d, A => A = [] ∧ ∃ v, o = some v ∧ Rep K.1 F v d
  | o, .ls ds, A => ∃ a vs, o = some (.ref a) ∧ A = [a] ∧ H a = some (.lst vs) ∧ Reps K.1 F vs ds
  | o, .dc k kds, A => ∃ a, o = some (.ref a) ∧ A = [a] ∧ DcAt K.1 F H a k kds
  | o, .px a cls d x, A => A = [] ∧ o = some (.ref a) ∧ RepX K F cls d x
  | o, .fn x, A => A = [] ∧ o = some (.ref (He.ga K.1 x))
  | o, .fd kds, A => A = [] ∧ ∃ a, o = some (.ref a) ∧ FdAt K F a kds
  | o, .fk kds, A => A = [] ∧ ∃ a, o = some (.ref a) ∧ FkAt K F a kds
  | o, .ob k cs, A => ∃ a vs fs, o = some (.ref a) ∧ A = a :: fs.flatten ∧ ObAt K F H a vs k ∧ RpCs K F H (vs.map some) cs fs
def RpCs (K : Ek) (F H : Hp) : List (Option V) → List C → List (List Addr) → Prop
  | os, [], fs => os = [] ∧ fs = []
  | os, c :: cs, fs => ∃ o r f fr, os = o :: r ∧ fs = f :: fr ∧ RpC K F H o c f ∧ RpCs K F H r cs fr
end
section
variable {K : Ek} {F F' H H' : Hp}
theorem RepTs.mono (e : Same F F') : ∀ (ds : List (D × D)) (vs : List (List Key × V)), RepTs K.1 F vs ds → RepTs K.1 F' vs ds
  | [], vs, h => h
  | (k, d) :: ds, vs, ⟨key, v, r, h1, h0, h2, h3⟩ => ⟨key, v, r, h1, h0, Rep.mono e d v h2, RepTs.mono e ds r h3⟩
theorem RepX.mono {cls : Value} {d : Option Addr} {x : Xn} (e : Same F F') (h : RepX K F cls d x) : RepX K F' cls d x := by
  obtain ⟨h1, h2 | ⟨dx, fs, h2, h3, h4, h5⟩⟩ := h
  · exact ⟨h1, .inl h2⟩
  · exact ⟨h1, .inr ⟨dx, fs, h2, e _ _ h3, h4, Reps.mono e _ _ h5⟩⟩
theorem DcAt.frame (e : Same F F') {a : Addr} (h' : H' a = H a) : ∀ {k : Nat} {kds : List (D × D)}, DcAt K.1 F H a k kds → DcAt K.1 F' H' a k kds
  | 0, kds, ⟨kvs, h1, h2⟩ => ⟨kvs, h'.trans h1, RepKs.mono e _ _ h2⟩
  | 1, kds, ⟨kvs, h1, h2⟩ => ⟨kvs, h'.trans h1, RepTs.mono e _ _ h2⟩
  | _ + 2, kds, h => h
theorem DcAt.live {a : Addr} : ∀ {k : Nat} {kds : List (D × D)}, DcAt K.1 F H a k kds → H a ≠ none
  | 0, kds, ⟨kvs, h1, h2⟩ => by rw [h1]; exact fun z => nomatch z
  | 1, kds, ⟨kvs, h1, h2⟩ => by rw [h1]; exact fun z => nomatch z
  | _ + 2, kds, h => h.elim
theorem KeysN.mono (e : Same F F') : ∀ {ks : List D} {bs : List NEnt}, KeysN K.1 F bs ks → KeysN K.1 F' bs ks
  | [], bs, h => h
  | k :: ks, bs, ⟨b, r, h1, h2, h3, h4, h5⟩ => ⟨b, r, h1, h2, h3, Rep.mono e _ _ h4, KeysN.mono e h5⟩
theorem ObAt.frame (e : Same F F') {a : Addr} {vs : List V} (h' : H' a = H a) : ∀ {k : Kd}, ObAt K F H a vs k → ObAt K F' H' a vs k
  | .ls, h => h'.trans h
  | .ins _ _, ⟨dx, h2, h3⟩ => ⟨dx, h'.trans h2, h3⟩
  | .dn _, ⟨bs, h2, h3, h4, h5⟩ => ⟨bs, h'.trans h2, h3, h4.mono (K := K) e, h5⟩
theorem ObAt.live {a : Addr} {vs : List V} : ∀ {k : Kd}, ObAt K F H a vs k → H a ≠ none
  | .ls, h => by rw [show H a = _ from h]; exact fun z => nomatch z
  | .ins _ _, ⟨dx, h2, h3⟩ => by rw [h2]; exact fun z => nomatch z
  | .dn _, ⟨bs, h2, _⟩ => by rw [h2]; exact fun z => nomatch z
theorem FkAt.mono (e : Same F F') {a : Addr} {kds : List (D × D)} (h : FkAt K F a kds) : FkAt K F' a kds := by
  obtain ⟨od, kvs, h1, h2⟩ := h
  exact ⟨od, kvs, e _ _ h1, RepKs.mono e _ _ h2⟩
theorem FdAt.mono (e : Same F F') {a : Addr} {kds : List (D × D)} (h : FdAt K F a kds) : FdAt K F' a kds := by
  obtain ⟨od, bs, vs, h1, h2, h3, h4⟩ := h
  exact ⟨od, bs, vs, e _ _ h1, h2, h3.mono (K := K) e, Reps.mono e _ _ h4⟩
mutual
theorem RpC.frame (e : Same F F') : ∀ {c : C} {o : Option V} {A : List Addr}, (∀ b ∈ A, H' b = H b) → RpC K F H o c A → RpC K F' H' o c A
  | .no, o, A, k, h => h
  | .sh d, o, A, k, ⟨h1, v, h2, h3⟩ => ⟨h1, v, h2, Rep.mono e _ _ h3⟩
  | .ls ds, o, A, k, ⟨a, vs, h1, h2, h3, h4⟩ => ⟨a, vs, h1, h2, (k a (by rw [h2]; exact List.mem_cons_self)).trans h3, Reps.mono e _ _ h4⟩
  | .dc n kds, o, A, k, ⟨a, h1, h2, h3⟩ => ⟨a, h1, h2, DcAt.frame e (k a (by rw [h2]; exact List.mem_cons_self)) h3⟩
  | .px a cls d x, o, A, k, ⟨h1, h2, h3⟩ => ⟨h1, h2, h3.mono e⟩
  | .fn x, o, A, k, h => h
  | .fd kds, o, A, k, ⟨h1, a, h2, h3⟩ => ⟨h1, a, h2, h3.mono e⟩
  | .fk kds, o, A, k, ⟨h1, a, h2, h3⟩ => ⟨h1, a, h2, h3.mono e⟩
  | .ob n cs, o, A, k, ⟨a, vs, fs, h1, h2, h3, h4⟩ => ⟨a, vs, fs, h1, h2, ObAt.frame e (k a (by rw [h2]; exact List.mem_cons_self)) h3, RpCs.frame e (fun b hb => k b (by rw [h2]; exact List.mem_cons_of_mem _ hb)) h4⟩
theorem RpCs.frame (e : Same F F') : ∀ {cs : List C} {os : List (Option V)} {fs : List (List Addr)}, (∀ b ∈ fs.flatten, H' b = H b) → RpCs K F H os cs fs → RpCs K F' H' os cs fs
  | [], os, fs, k, h => h
  | c :: cs, os, fs, k, ⟨o, r, f, fr, h1, h2, h3, h4⟩ => ⟨o, r, f, fr, h1, h2, RpC.frame e (fun b hb => k b (by rw [h2]; simp [hb])) h3, RpCs.frame e (fun b hb => k b (by rw [h2, List.flatten_cons]; exact List.mem_append_right _ hb)) h4⟩
end
mutual
theorem RpC.live : ∀ {c : C} {o : Option V} {A : List Addr}, RpC K F H o c A → ∀ b ∈ A, H b ≠ none
  | .no, o, A, h, b, hb => by rw [show A = [] from h] at hb; cases hb
  | .sh d, o, A, ⟨h1, _⟩, b, hb => by rw [h1] at hb; cases hb
  | .ls ds, o, A, ⟨a, vs, h1, h2, h3, h4⟩, b, hb => by
    rw [h2] at hb
    obtain rfl := List.mem_singleton.mp hb
    rw [h3]; exact fun z => nomatch z
  | .dc n kds, o, A, ⟨a, h1, h2, h3⟩, b, hb => by
    rw [h2] at hb
    obtain rfl := List.mem_singleton.mp hb
    exact h3.live (K := K)
  | .px a cls d x, o, A, ⟨h1, _⟩, b, hb => by rw [h1] at hb; cases hb
  | .fn x, o, A, ⟨h1, _⟩, b, hb => by rw [h1] at hb; cases hb
  | .fd kds, o, A, ⟨h1, _⟩, b, hb => by rw [h1] at hb; cases hb
  | .fk kds, o, A, ⟨h1, _⟩, b, hb => by rw [h1] at hb; cases hb
  | .ob n cs, o, A, ⟨a, vs, fs, h1, h2, h3, h4⟩, b, hb => by
    rw [h2] at hb
    rcases List.mem_cons.mp hb with rfl | hb
    · exact h3.live
    · exact RpCs.live h4 b hb
theorem RpCs.live : ∀ {cs : List C} {os : List (Option V)} {fs : List (List Addr)}, RpCs K F H os cs fs → ∀ b ∈ fs.flatten, H b ≠ none
  | [], os, fs, ⟨_, h⟩, b, hb => by rw [h] at hb; cases hb
  | c :: cs, os, fs, ⟨o, r, f, fr, h1, h2, h3, h4⟩, b, hb => by
    rw [h2, List.flatten_cons] at hb
    rcases List.mem_append.mp hb with hb | hb
    · exact RpC.live h3 b hb
    · exact RpCs.live h4 b hb
end
theorem RpCs.len : ∀ {cs : List C} {os : List (Option V)} {fs : List (List Addr)}, RpCs K F H os cs fs → os.length = cs.length ∧ fs.length = cs.length
  | [], os, fs, ⟨h1, h2⟩ => by rw [h1, h2]; exact ⟨rfl, rfl⟩
  | c :: cs, os, fs, ⟨o, r, f, fr, h1, h2, h3, h4⟩ => by
    obtain ⟨e1, e2⟩ := h4.len
    rw [h1, h2]
    simp [e1, e2]
theorem RpCs.get : ∀ {cs : List C} {os : List (Option V)} {fs : List (List Addr)} {i : Nat} {c : C}, RpCs K F H os cs fs → cs[i]? = some c → ∃ o f, os[i]? = some o ∧ fs[i]? = some f ∧ RpC K F H o c f
  | [], os, fs, i, c, h, e => by simp at e
  | c :: cs, os, fs, 0, c', ⟨o, r, f, fr, h1, h2, h3, h4⟩, e => by
    simp at e; subst e h1 h2
    exact ⟨o, f, rfl, rfl, h3⟩
  | c :: cs, os, fs, i + 1, c', ⟨o, r, f, fr, h1, h2, h3, h4⟩, e => by
    subst h1 h2
    obtain ⟨o', f', e1, e2, e3⟩ := h4.get (by simpa using e)
    exact ⟨o', f', by simpa using e1, by simpa using e2, e3⟩
/-- a place rewritten -/
theorem RpCs.set {o : Option V} {c : C} {f : List Addr} (h0 : RpC K F H o c f) : ∀ {cs : List C} {os : List (Option V)} {fs : List (List Addr)} (i : Nat), RpCs K F H os cs fs → RpCs K F H (os.set i o) (cs.set i c) (fs.set i f)
  | [], os, fs, i, ⟨h1, h2⟩ => by rw [h1, h2]; exact ⟨rfl, rfl⟩
  | c' :: cs, os, fs, 0, ⟨o', r, f', fr, h1, h2, h3, h4⟩ => by rw [h1, h2]; exact ⟨o, r, f, fr, rfl, rfl, h0, h4⟩
  | c' :: cs, os, fs, i + 1, ⟨o', r, f', fr, h1, h2, h3, h4⟩ => by rw [h1, h2]; exact ⟨o', _, f', _, rfl, rfl, h3, RpCs.set h0 i h4⟩
theorem RpCs.append : ∀ {cs cs' : List C} {os os' : List (Option V)} {fs fs' : List (List Addr)}, RpCs K F H os cs fs → RpCs K F H os' cs' fs' → RpCs K F H (os ++ os') (cs ++ cs') (fs ++ fs')
  | [], cs', os, os', fs, fs', ⟨h1, h2⟩, g => by rw [h1, h2]; exact g
  | c :: cs, cs', os, os', fs, fs', ⟨o, r, f, fr, h1, h2, h3, h4⟩, g => by rw [h1, h2]; exact ⟨o, _, f, _, rfl, rfl, h3, h4.append g⟩
theorem RpCs.nos (n : Nat) (os : List (Option V)) (h : os.length = n) : RpCs K F H os (List.replicate n .no) (List.replicate n []) := by
  induction n generalizing os with
  | zero => exact ⟨List.length_eq_zero_iff.mp h, rfl⟩
  | succ n ih =>
    cases os with
    | nil => cases h
    | cons o r => exact ⟨o, r, [], _, rfl, rfl, rfl, ih r (by simpa using h)⟩
end
theorem flat_set {fs : List (List Addr)} {i : Nat} {f : List Addr} {b : Addr} (h : b ∈ (fs.set i f).flatten) : b ∈ f ∨ ∃ (j : Nat) (g : List Addr), j ≠ i ∧ fs[j]? = some g ∧ b ∈ g := by
  obtain ⟨g, hg, hb⟩ := List.mem_flatten.mp h
  obtain ⟨j, hj⟩ := List.mem_iff_getElem?.mp hg
  by_cases e : j = i
  · subst e
    by_cases hl : j < fs.length
    · rw [List.getElem?_set_self hl] at hj; cases hj; exact .inl hb
    · rw [List.getElem?_eq_none (by simpa using hl)] at hj; cases hj
  · rw [List.getElem?_set_ne (Ne.symm e)] at hj
    exact .inr ⟨j, g, e, hj, hb⟩
theorem flat_get {fs : List (List Addr)} {i : Nat} {f : List Addr} {b : Addr} (h : fs[i]? = some f) (hb : b ∈ f) : b ∈ fs.flatten := List.mem_flatten.mpr ⟨f, List.mem_of_getElem? h, hb⟩
theorem nodup_apart : ∀ {fs : List (List Addr)}, fs.flatten.Nodup → ∀ {i j : Nat} {f g : List Addr} {b : Addr}, fs[i]? = some f → fs[j]? = some g → b ∈ f → b ∈ g → i = j
  | [], _, i, j, f, g, b, h, _, _, _ => by simp at h
  | e :: fs, n, i, j, f, g, b, h1, h2, h3, h4 => by
    rw [List.flatten_cons, List.nodup_append] at n
    obtain ⟨n1, n2, n3⟩ := n
    cases i with
    | zero =>
      simp at h1; subst h1
      cases j with
      | zero => rfl
      | succ j => exact absurd rfl (n3 b h3 b (flat_get (by simpa using h2) h4))
    | succ i =>
      cases j with
      | zero =>
        simp at h2; subst h2
        exact absurd rfl (n3 b h4 b (flat_get (by simpa using h1) h3))
      | succ j => exact congrArg (· + 1) (nodup_apart n2 (by simpa using h1) (by simpa using h2) h3 h4)
theorem nodup_get : ∀ {fs : List (List Addr)} {i : Nat} {f : List Addr}, fs.flatten.Nodup → fs[i]? = some f → f.Nodup
  | [], i, f, _, h => by simp at h
  | e :: fs, 0, f, n, h => by
    simp at h; subst h
    rw [List.flatten_cons, List.nodup_append] at n
    exact n.1
  | e :: fs, i + 1, f, n, h => by
    rw [List.flatten_cons, List.nodup_append] at n
    exact nodup_get n.2.1 (by simpa using h)
theorem nodup_set {f : List Addr} (nf : f.Nodup) : ∀ {fs : List (List Addr)} {i : Nat}, fs.flatten.Nodup → (∀ (j : Nat) (g : List Addr), j ≠ i → fs[j]? = some g → ∀ b ∈ f, b ∉ g) → (fs.set i f).flatten.Nodup
  | [], i, n, h => by simp
  | e :: fs, 0, n, h => by
    rw [List.flatten_cons, List.nodup_append] at n
    show (f :: fs).flatten.Nodup
    rw [List.flatten_cons, List.nodup_append]
    refine ⟨nf, n.2.1, fun a ha b hb z => ?_⟩
    subst z
    obtain ⟨g, hg, hb⟩ := List.mem_flatten.mp hb
    obtain ⟨j, hj⟩ := List.mem_iff_getElem?.mp hg
    exact h (j + 1) g (by simp) (by simpa using hj) a ha hb
  | e :: fs, i + 1, n, h => by
    rw [List.flatten_cons, List.nodup_append] at n
    obtain ⟨n1, n2, n3⟩ := n
    show (e :: fs.set i f).flatten.Nodup
    rw [List.flatten_cons, List.nodup_append]
    refine ⟨n1, nodup_set nf n2 fun j g hj hg b hb => h (j + 1) g (by simpa using hj) (by simpa using hg) b hb, fun a ha b hb z => ?_⟩
    subst z
    rcases flat_set hb with hb | ⟨j, g, hj, hg, hb⟩
    · exact h 0 e (by simp) rfl a hb ha
    · exact n3 a ha a (flat_get hg hb) rfl
abbrev Tms := List (V × C)
structure Sep (K : Ek) (F R H : Hp) (σ : St) (ε : Cs) (T : Tms) : Prop where
  sub : Same F H
  rs : Same R H
  dis : ∀ b, F b ≠ none → R b = none
  ex : ∃ fs gs, RpCs K F H σ ε fs ∧ RpCs K F H (T.map fun p => some p.1) (T.map (·.2)) gs ∧ (fs.flatten ++ gs.flatten).Nodup ∧ ∀ b ∈ fs.flatten ++ gs.flatten, F b = none ∧ R b = none
section
variable {K : Ek} {F R H F' R' H' : Hp} {σ σ' : St} {ε ε' : Cs} {T T' : Tms} {v w : V} {c c' : C} {i : Nat} {d : D}
theorem Sep.len (s : Sep K F R H σ ε T) : σ.length = ε.length := by
  obtain ⟨_, _, _, ⟨fs, gs, h1, _⟩⟩ := s
  exact h1.len.1
/-- a temporary is dropped -/
theorem Sep.drop (s : Sep K F R H σ ε ((v, c) :: T)) : Sep K F R H σ ε T := by
  obtain ⟨a1, a2, a3, ⟨fs, gs, h1, ⟨o, r, f, fr, e1, e2, h2, h3⟩, n, m⟩⟩ := s
  subst e2
  obtain ⟨-, rfl⟩ := List.cons.inj e1
  have sl : ∀ b, b ∈ fs.flatten ++ fr.flatten → b ∈ fs.flatten ++ (f :: fr).flatten := fun b hb => by
    simp only [List.flatten_cons, List.mem_append] at hb ⊢
    rcases hb with hb | hb
    · exact .inl hb
    · exact .inr (.inr hb)
  refine ⟨a1, a2, a3, fs, fr, h1, h3, ?_, fun b hb => m b (sl b hb)⟩
  rw [List.flatten_cons, List.nodup_append] at n
  obtain ⟨n1, n2, n3⟩ := n
  rw [List.nodup_append] at n2
  rw [List.nodup_append]
  exact ⟨n1, n2.2.1, fun a ha b hb => n3 a ha b (List.mem_append_right _ hb)⟩
theorem Sep.drops : ∀ (T0 : Tms), Sep K F R H σ ε (T0 ++ T) → Sep K F R H σ ε T
  | [], s => s
  | (_, _) :: T0, s => Sep.drops T0 s.drop
/-- a temporary of no own addresses -/
theorem Sep.addSh (s : Sep K F R H σ ε T) (r : Rep K.1 F v d) : Sep K F R H σ ε ((v, .sh d) :: T) := by
  obtain ⟨a1, a2, a3, ⟨fs, gs, h1, h2, n, m⟩⟩ := s
  exact ⟨a1, a2, a3, fs, [] :: gs, h1, ⟨_, _, _, _, rfl, rfl, ⟨rfl, v, rfl, r⟩, h2⟩, by simpa using n, by simpa using m⟩
/-- the cell of a slot, read -/
theorem Sep.cell (s : Sep K F R H σ ε T) (h : ε[i]? = some c) : ∃ o f, σ[i]? = some o ∧ RpC K F H o c f := by
  obtain ⟨a1, a2, a3, ⟨fs, gs, h1, h2, n, m⟩⟩ := s
  obtain ⟨o, f, e1, e2, e3⟩ := h1.get h
  exact ⟨o, f, e1, e3⟩
theorem Sep.sh (s : Sep K F R H σ ε T) (h : ε[i]? = some (.sh d)) : ∃ v, σ[i]? = some (some v) ∧ Rep K.1 F v d := by
  obtain ⟨o, f, e1, _, v, rfl, r⟩ := s.cell h
  exact ⟨v, e1, r⟩
theorem Sep.lst {ds : List D} (s : Sep K F R H σ ε T) (h : ε[i]? = some (.ls ds)) : ∃ a vs, σ[i]? = some (some (.ref a)) ∧ H a = some (.lst vs) ∧ Reps K.1 F vs ds := by
  obtain ⟨o, f, e1, a, vs, rfl, _, h1, h2⟩ := s.cell h
  exact ⟨a, vs, e1, h1, h2⟩
theorem Sep.val (s : Sep K F R H σ ε T) (h : ε[i]? = some c) (hn : c ≠ .no) : ∃ v, σ[i]? = some (some v) := by
  obtain ⟨o, f, e1, h1⟩ := s.cell h
  cases c with
  | no => exact absurd rfl hn
  | sh d => obtain ⟨_, v, rfl, _⟩ := h1; exact ⟨v, e1⟩
  | ls d => obtain ⟨a, vs, rfl, _⟩ := h1; exact ⟨_, e1⟩
  | dc k d => obtain ⟨a, rfl, _⟩ := h1; exact ⟨_, e1⟩
  | ob k d => obtain ⟨a, vs, fs, rfl, _⟩ := h1; exact ⟨_, e1⟩
  | px _ _ _ _ => obtain ⟨_, rfl, _⟩ := h1; exact ⟨_, e1⟩
  | fn _ => obtain ⟨_, rfl⟩ := h1; exact ⟨_, e1⟩
  | fd _ => obtain ⟨_, _, rfl, _⟩ := h1; exact ⟨_, e1⟩
  | fk _ => obtain ⟨_, _, rfl, _⟩ := h1; exact ⟨_, e1⟩
/-- a slot's cell is dropped -/
theorem Sep.dropAt (s : Sep K F R H σ ε T) (i : Nat) : Sep K F R H σ (ε.set i .no) T := by
  obtain ⟨a1, a2, a3, ⟨fs, gs, h1, h2, n, m⟩⟩ := s
  by_cases hi : i < ε.length
  · obtain ⟨o, f, e1, e2, e3⟩ := h1.get (List.getElem?_eq_getElem hi)
    have h1' := RpCs.set (o := o) (c := .no) (f := []) (K := K) (F := F) (H := H) rfl i h1
    have eo : σ.set i o = σ := by
      apply List.ext_getElem?
      intro j
      by_cases e : j = i
      · subst e
        rw [List.getElem?_set_self (by rw [h1.len.1]; exact hi), e1]
      · rw [List.getElem?_set_ne (Ne.symm e)]
    rw [eo] at h1'
    have sl : ∀ b, b ∈ (fs.set i []).flatten → b ∈ fs.flatten := fun b hb => by
      rcases flat_set hb with hb | ⟨j, g, _, hg, hb⟩
      · cases hb
      · exact flat_get hg hb
    rw [List.nodup_append] at n
    obtain ⟨n1, n2, n3⟩ := n
    refine ⟨a1, a2, a3, fs.set i [], gs, h1', h2, ?_, fun b hb => m b ?_⟩
    · rw [List.nodup_append]
      exact ⟨nodup_set (by simp) n1 (fun _ _ _ _ b hb => by cases hb), n2, fun a ha b hb => n3 a (sl a ha) b hb⟩
    · rcases List.mem_append.mp hb with hb | hb
      · exact List.mem_append_left _ (sl b hb)
      · exact List.mem_append_right _ hb
  · rw [List.set_eq_of_length_le (by omega)]
    exact ⟨a1, a2, a3, fs, gs, h1, h2, n, m⟩
/-- a slot's cell is taken out -/
theorem Sep.take (s : Sep K F R H σ ε T) (h : ε[i]? = some c) (hv : σ[i]? = some (some v)) : Sep K F R H σ (ε.set i .no) ((v, c) :: T) := by
  obtain ⟨a1, a2, a3, ⟨fs, gs, h1, h2, n, m⟩⟩ := s
  obtain ⟨o, f, e1, e2, e3⟩ := h1.get h
  rw [hv] at e1
  cases e1
  have hi : i < ε.length := (List.getElem?_eq_some_iff.mp h).1
  have h1' := RpCs.set (o := some v) (c := .no) (f := []) (K := K) (F := F) (H := H) rfl i h1
  have eo : σ.set i (some v) = σ := by
    apply List.ext_getElem?
    intro j
    by_cases e : j = i
    · subst e
      rw [List.getElem?_set_self (by rw [h1.len.1]; exact hi), hv]
    · rw [List.getElem?_set_ne (Ne.symm e)]
  rw [eo] at h1'
  have sl : ∀ b, b ∈ (fs.set i []).flatten → b ∈ fs.flatten ∧ b ∉ f := fun b hb => by
    rcases flat_set hb with hb | ⟨j, g, hj, hg, hb⟩
    · cases hb
    · refine ⟨flat_get hg hb, fun z => hj ?_⟩
      exact nodup_apart (List.nodup_append.mp n).1 hg e2 hb z
  rw [List.nodup_append] at n
  obtain ⟨n1, n2, n3⟩ := n
  refine ⟨a1, a2, a3, fs.set i [], f :: gs, h1', ⟨_, _, _, _, rfl, rfl, e3, h2⟩, ?_, fun b hb => m b ?_⟩
  · rw [List.flatten_cons, List.nodup_append, List.nodup_append]
    refine ⟨nodup_set (by simp) n1 (fun _ _ _ _ b hb => by cases hb), ⟨nodup_get n1 e2, n2, fun a ha b hb => n3 a (flat_get e2 ha) b hb⟩, fun a ha b hb z => ?_⟩
    subst z
    obtain ⟨k1, k2⟩ := sl a ha
    rcases List.mem_append.mp hb with hb | hb
    · exact k2 hb
    · exact n3 a k1 a hb rfl
  · simp only [List.flatten_cons, List.mem_append] at hb ⊢
    rcases hb with hb | hb | hb
    · exact .inl (sl b hb).1
    · exact .inl (flat_get e2 hb)
    · exact .inr hb
/-- a temporary is stored to a slot (the slot's value is v from then on) -/
theorem Sep.store (s : Sep K F R H σ ε ((v, c) :: T)) (i : Nat) : Sep K F R H (σ.set i (some v)) (ε.set i c) T := by
  obtain ⟨a1, a2, a3, ⟨fs, gs, h1, ⟨o, r, f, fr, e1, e2, h2, h3⟩, n, m⟩⟩ := s
  subst e2
  obtain ⟨rfl, rfl⟩ := List.cons.inj e1
  have h1' := RpCs.set h2 i h1
  rw [List.flatten_cons, List.nodup_append, List.nodup_append] at n
  obtain ⟨n1, ⟨n2, n4, n5⟩, n3⟩ := n
  refine ⟨a1, a2, a3, fs.set i f, fr, h1', h3, ?_, fun b hb => m b ?_⟩
  · rw [List.nodup_append]
    refine ⟨nodup_set n2 n1 fun j g hj hg b hb hg2 => n3 b (flat_get hg hg2) b (List.mem_append_left _ hb) rfl, n4, fun a ha b hb z => ?_⟩
    subst z
    rcases flat_set ha with ha | ⟨j, g, hj, hg, ha⟩
    · exact n5 a ha a hb rfl
    · exact n3 a (flat_get hg ha) a (List.mem_append_right _ hb) rfl
  · simp only [List.flatten_cons, List.mem_append] at hb ⊢
    rcases hb with hb | hb
    · rcases flat_set hb with hb | ⟨j, g, hj, hg, hb⟩
      · exact .inr (.inl hb)
      · exact .inl (flat_get hg hb)
    · exact .inr (.inr hb)
theorem set_same {α : Type} {xs : List α} {i : Nat} {x : α} (h : xs[i]? = some x) : xs.set i x = xs := by
  apply List.ext_getElem?
  intro j
  by_cases e : j = i
  · subst e
    rw [List.getElem?_set_self (List.getElem?_eq_some_iff.mp h).1, h]
  · rw [List.getElem?_set_ne (Ne.symm e)]
/-- .. where the slot's value is v already -/
theorem Sep.put (s : Sep K F R H σ ε ((v, c) :: T)) (hv : σ[i]? = some (some v)) : Sep K F R H σ (ε.set i c) T := by
  have := s.store i
  rwa [set_same hv] at this
theorem Sep.copy (s : Sep K F R H σ ε T) (h : ε[i]? = some (.sh d)) (hv : σ[i]? = some (some v)) : Sep K F R H σ ε ((v, .sh d) :: T) := by
  obtain ⟨w, e, r⟩ := s.sh h
  rw [hv] at e
  cases e
  exact s.addSh r
theorem Sep.repT (s : Sep K F R H σ ε ((v, .sh d) :: T)) : Rep K.1 F v d := by
  obtain ⟨a1, a2, a3, ⟨fs, gs, h1, ⟨o, r, f, fr, e1, e2, ⟨_, w, e3, h2⟩, h3⟩, n, m⟩⟩ := s
  obtain ⟨rfl, rfl⟩ := List.cons.inj e1
  cases e3
  exact h2
theorem Sep.headT (s : Sep K F R H σ ε ((v, c) :: T)) : ∃ f, RpC K F H (some v) c f ∧ ∀ b ∈ f, F b = none ∧ R b = none := by
  obtain ⟨a1, a2, a3, ⟨fs, gs, h1, ⟨o, r, f, fr, e1, e2, h2, h3⟩, n, m⟩⟩ := s
  obtain ⟨rfl, rfl⟩ := List.cons.inj e1
  exact ⟨f, h2, fun b hb => m b (by rw [e2]; simp [hb])⟩
/-- a temporary waits aside while all else goes on -/
theorem Sep.hide (s : Sep K F R H σ ε ((v, c) :: T)) : ∃ R1, Same R R1 ∧ Sep K F R1 H σ ε T ∧ ∀ F' H' σ' ε' T', Same F F' → Sep K F' R1 H' σ' ε' T' → Sep K F' R H' σ' ε' ((v, c) :: T') := by
  obtain ⟨a1, a2, a3, ⟨fs, gs, h1, ⟨o, r, f, fr, e1, e2, h2, h3⟩, n, m⟩⟩ := s
  subst e2
  obtain ⟨rfl, rfl⟩ := List.cons.inj e1
  let R1 : Hp := fun b => if b ∈ f then H b else R b
  have i1 : ∀ {b}, b ∈ f → R1 b = H b := fun {b} hb => if_pos hb
  have i2 : ∀ {b}, b ∉ f → R1 b = R b := fun {b} hb => if_neg hb
  have fin : ∀ b, b ∈ f → F b = none ∧ R b = none := fun b hb => m b (by simp [hb])
  have lv := RpC.live h2
  have sR : Same R R1 := fun b u e => by
    rw [i2 fun z => by rw [(fin b z).2] at e; cases e]; exact e
  rw [List.flatten_cons, List.nodup_append, List.nodup_append] at n
  obtain ⟨n1, ⟨n2, n4, n5⟩, n3⟩ := n
  refine ⟨R1, sR, ⟨a1, fun b u e => ?_, fun b hb => ?_, fs, fr, h1, h3, ?_, fun b hb => ?_⟩, fun F' H' σ' ε' T' fm s' => ?_⟩
  · by_cases q : b ∈ f
    · rw [i1 q] at e; exact e
    · rw [i2 q] at e; exact a2 b u e
  · rw [i2 fun z => hb (fin b z).1]; exact a3 b hb
  · rw [List.nodup_append]
    exact ⟨n1, n4, fun a ha b hb => n3 a ha b (List.mem_append_right _ hb)⟩
  · have q : b ∉ f := fun z => by
      rcases List.mem_append.mp hb with hb | hb
      · exact n3 b hb b (List.mem_append_left _ z) rfl
      · exact n5 b z b hb rfl
    rw [i2 q]
    refine m b ?_
    simp only [List.flatten_cons, List.mem_append] at hb ⊢
    rcases hb with hb | hb
    · exact .inl hb
    · exact .inr (.inr hb)
  · obtain ⟨b1, b2, b3, ⟨fs', gs', k1, k2, n', m'⟩⟩ := s'
    have live' : ∀ b, b ∈ f → R1 b ≠ none := fun b hb => by rw [i1 hb]; exact lv b hb
    have heq : ∀ b ∈ f, H' b = H b := fun b hb => by
      cases q : H b with
      | none => exact absurd q (lv b hb)
      | some u => exact b2 b u ((i1 hb).trans q)
    have fF : ∀ b ∈ f, F' b = none := fun b hb => by
      by_cases q : F' b = none
      · exact q
      · exact absurd (b3 b q) (live' b hb)
    have nf : ∀ b, b ∈ fs'.flatten ++ gs'.flatten → b ∉ f := fun b hb z => live' b z (m' b hb).2
    refine ⟨b1, fun b u e => b2 b u (sR b u e), fun b hb => ?_, fs', f :: gs', k1, ⟨_, _, _, _, rfl, rfl, RpC.frame fm heq h2, k2⟩, ?_, fun b hb => ?_⟩
    · have z := b3 b hb
      cases q : R b with
      | none => rfl
      | some u => rw [sR b u q] at z; cases z
    · rw [List.flatten_cons]
      rw [List.nodup_append] at n' ⊢
      rw [List.nodup_append]
      refine ⟨n'.1, ⟨n2, n'.2.1, fun a ha b hb z => nf b (List.mem_append_right _ hb) (z ▸ ha)⟩, fun a ha b hb z => ?_⟩
      rcases List.mem_append.mp hb with hb | hb
      · exact nf a (List.mem_append_left _ ha) (z ▸ hb)
      · exact n'.2.2 a ha b hb z
    · simp only [List.flatten_cons, List.mem_append] at hb
      rcases hb with hb | hb | hb
      · obtain ⟨z1, z2⟩ := m' b (List.mem_append_left _ hb)
        rw [i2 (nf b (List.mem_append_left _ hb))] at z2
        exact ⟨z1, z2⟩
      · exact ⟨fF b hb, (fin b hb).2⟩
      · obtain ⟨z1, z2⟩ := m' b (List.mem_append_right _ hb)
        rw [i2 (nf b (List.mem_append_right _ hb))] at z2
        exact ⟨z1, z2⟩
/-- the slots wait aside: the temporaries are a frame of their own -/
theorem Sep.enter (s : Sep K F R H σ ε T) : ∃ R1, Sep K F R1 H (T.map fun p => some p.1) (T.map (·.2)) [] ∧ ∀ F' H' cs' T', Same F F' → Sep K F' R1 H' (T.map fun p => some p.1) cs' T' → Sep K F' R H' σ ε ((T.map (·.1)).zip cs' ++ T') := by
  obtain ⟨a1, a2, a3, ⟨fs, gs, h1, h2, n, m⟩⟩ := s
  let f := fs.flatten
  let R1 : Hp := fun b => if b ∈ f then H b else R b
  have i1 : ∀ {b}, b ∈ f → R1 b = H b := fun {b} hb => if_pos hb
  have i2 : ∀ {b}, b ∉ f → R1 b = R b := fun {b} hb => if_neg hb
  have fin : ∀ b, b ∈ f → F b = none ∧ R b = none := fun b hb => m b (List.mem_append_left _ hb)
  have lv := RpCs.live h1
  have sR : Same R R1 := fun b u e => by
    rw [i2 fun z => by rw [(fin b z).2] at e; cases e]; exact e
  rw [List.nodup_append] at n
  obtain ⟨n1, n2, n3⟩ := n
  refine ⟨R1, ⟨a1, fun b u e => ?_, fun b hb => ?_, gs, [], h2, ⟨rfl, rfl⟩, by simpa using n2, fun b hb => ?_⟩, fun F' H' cs' T' fm s' => ?_⟩
  · by_cases q : b ∈ f
    · rw [i1 q] at e; exact e
    · rw [i2 q] at e; exact a2 b u e
  · rw [i2 fun z => hb (fin b z).1]; exact a3 b hb
  · have hb : b ∈ gs.flatten := by simpa using hb
    rw [i2 fun z => n3 b z b hb rfl]
    exact m b (List.mem_append_right _ hb)
  · obtain ⟨b1, b2, b3, ⟨fs', gs', k1, k2, n', m'⟩⟩ := s'
    have live' : ∀ b, b ∈ f → R1 b ≠ none := fun b hb => by rw [i1 hb]; exact lv b hb
    have heq : ∀ b ∈ fs.flatten, H' b = H b := fun b hb => by
      cases q : H b with
      | none => exact absurd q (lv b hb)
      | some u => exact b2 b u ((i1 hb).trans q)
    have fF : ∀ b ∈ f, F' b = none := fun b hb => by
      by_cases q : F' b = none
      · exact q
      · exact absurd (b3 b q) (live' b hb)
    have nf : ∀ b, b ∈ fs'.flatten ++ gs'.flatten → b ∉ f := fun b hb z => live' b z (m' b hb).2
    have lc : (T.map (·.1)).length = cs'.length := by
      have := k1.len.1
      simpa using this
    have ez1 : ((T.map (·.1)).zip cs').map (fun p => some p.1) = T.map fun p => some p.1 := by
      rw [show (fun p : V × C => some p.1) = (fun x => some x) ∘ (fun p : V × C => p.1) from rfl, ← List.map_map, List.map_fst_zip (by omega), List.map_map]
    have ez2 : ((T.map (·.1)).zip cs').map (·.2) = cs' := List.map_snd_zip (by omega)
    refine ⟨b1, fun b u e => b2 b u (sR b u e), fun b hb => ?_, fs, fs' ++ gs', RpCs.frame fm heq h1, ?_, ?_, fun b hb => ?_⟩
    · have z := b3 b hb
      cases q : R b with
      | none => rfl
      | some u => rw [sR b u q] at z; cases z
    · rw [List.map_append, List.map_append, ez1, ez2]
      exact k1.append k2
    · rw [List.flatten_append, List.nodup_append]
      exact ⟨n1, n', fun a ha b hb z => nf b hb (z ▸ ha)⟩
    · rw [List.flatten_append] at hb
      rcases List.mem_append.mp hb with hb | hb
      · exact ⟨fF b hb, (fin b hb).2⟩
      · obtain ⟨z1, z2⟩ := m' b hb
        rw [i2 (nf b hb)] at z2
        exact ⟨z1, z2⟩
end
end L2.M
namespace L2.M
open PySem PySem.Spec PyProof.Rows
def cD : C → Option D
  | .sh d => some d
  | .ls ds => some (.list ds)
  | _ => none
/-- a result of an operation, read where it came to -/
def RepC (K : PySem.W.Frag) (F H : Hp) (v : V) : C → Prop
  | .sh d => Rep K F v d
  | .ls ds => ∃ a vs, v = .ref a ∧ H a = some (.lst vs) ∧ F a = none ∧ Reps K F vs ds
  | _ => False
/-- what a pure operation leaves -/
structure Grow (K : PySem.W.Frag) (F H F' H' : Hp) (v : V) (c : C) : Prop where
  fm : Same F F'
  hm : Same H H'
  sub : Same F' H'
  ff : ∀ b, F b = none → F' b ≠ none → H b = none
  rep : RepC K F' H' v c
  new : ∀ (ds : List D) (a : Addr), c = .ls ds → v = .ref a → H a = none
/-- a heap that grew -/
structure Grw (F H F' H' : Hp) : Prop where
  fm : Same F F'
  hm : Same H H'
  sub : Same F' H'
  ff : ∀ b, F b = none → F' b ≠ none → H b = none
theorem Grow.grw {K : PySem.W.Frag} {F H F' H' : Hp} {v : V} {c : C} (g : Grow K F H F' H' v c) : Grw F H F' H' := ⟨g.fm, g.hm, g.sub, g.ff⟩
theorem Grw.refl {F H : Hp} (s : Same F H) : Grw F H F H := ⟨Same.refl F, Same.refl H, s, fun b h h' => absurd h h'⟩
theorem Grw.laid {F H : Hp} (s : Same F H) {p : Addr} {u : HO} (hp : H p = none) : Grw F H (upd F p u) (upd H p u) := by
  have fp : F p = none := s.free hp
  refine ⟨fun b x e => by rw [upd_ne (ne_of_none e fp)]; exact e, fun b x e => by rw [upd_ne (ne_of_none e hp)]; exact e, fun b x e => ?_, fun b h h' => ?_⟩
  · by_cases hb : b = p
    · subst hb; rw [upd_same] at e ⊢; exact e
    · rw [upd_ne hb] at e ⊢; exact s b x e
  · by_cases hb : b = p
    · subst hb; exact hp
    · rw [upd_ne hb] at h'; exact absurd h h'
section
variable {K : Ek} {F R H F' R' H' : Hp} {σ σ' : St} {ε ε' : Cs} {T T' T1 : Tms} {v w : V} {c c' : C} {i : Nat} {d : D}
theorem Sep.grow (s : Sep K F R H σ ε T) (g : Grw F H F' H') : Sep K F' R H' σ ε T := by
  obtain ⟨a1, a2, a3, ⟨fs, gs, h1, h2, n, m⟩⟩ := s
  have l1 := RpCs.live h1
  have l2 := RpCs.live h2
  have eq : ∀ b, H b ≠ none → H' b = H b := fun b hb => by
    cases q : H b with
    | none => exact absurd q hb
    | some u => exact g.hm b u q
  refine ⟨g.sub, a2.trans g.hm, fun b hb => ?_, fs, gs, RpCs.frame g.fm (fun b hb => eq b (l1 b hb)) h1, RpCs.frame g.fm (fun b hb => eq b (l2 b hb)) h2, n, fun b hb => ⟨?_, (m b hb).2⟩⟩
  · by_cases q : F b = none
    · exact a2.free (g.ff b q hb)
    · exact a3 b q
  · by_cases q : F' b = none
    · exact q
    · have z := g.ff b (m b hb).1 q
      rcases List.mem_append.mp hb with hb | hb
      · exact absurd z (l1 b hb)
      · exact absurd z (l2 b hb)
/-- what some temporaries hold, and what they may become -/
theorem Sep.opens (s : Sep K F R H σ ε (T1 ++ T)) : ∃ gs, RpCs K F H (T1.map fun p => some p.1) (T1.map (·.2)) gs ∧ gs.flatten.Nodup ∧ (∀ b ∈ gs.flatten, F b = none) ∧
    ∀ v c H' f, RpC K F H' (some v) c f → f.Nodup → (∀ b ∈ f, b ∈ gs.flatten ∨ H b = none) → (∀ b u, b ∉ gs.flatten → H b = some u → H' b = some u) → Sep K F R H' σ ε ((v, c) :: T) := by
  obtain ⟨a1, a2, a3, ⟨fs, gs, h1, h2, n, m⟩⟩ := s
  have split : ∀ (T1 : Tms) {gs : List (List Addr)}, RpCs K F H ((T1 ++ T).map fun p => some p.1) ((T1 ++ T).map (·.2)) gs → ∃ g1 g2, gs = g1 ++ g2 ∧ RpCs K F H (T1.map fun p => some p.1) (T1.map (·.2)) g1 ∧ RpCs K F H (T.map fun p => some p.1) (T.map (·.2)) g2 := by
    intro T1
    induction T1 with
    | nil => intro gs h; exact ⟨[], gs, rfl, ⟨rfl, rfl⟩, h⟩
    | cons x T1 ih =>
      intro gs h
      obtain ⟨o, r, f, fr, e1, e2, h3, h4⟩ := h
      obtain ⟨rfl, rfl⟩ := List.cons.inj e1
      obtain ⟨g1, g2, e3, h5, h6⟩ := ih h4
      exact ⟨f :: g1, g2, by rw [e2, e3]; rfl, ⟨_, _, _, _, rfl, rfl, h3, h5⟩, h6⟩
  obtain ⟨g1, g2, rfl, h3, h4⟩ := split T1 h2
  rw [List.flatten_append] at n m
  rw [List.nodup_append, List.nodup_append] at n
  obtain ⟨n1, ⟨n2, n4, n5⟩, n3⟩ := n
  refine ⟨g1, h3, n2, fun b hb => (m b (by simp [List.mem_append, hb])).1, fun v c H' f k1 k2 k3 k4 => ?_⟩
  have l1 := RpCs.live h1
  have l4 := RpCs.live h4
  have eq1 : ∀ b ∈ fs.flatten, H' b = H b := fun b hb => by
    cases q : H b with
    | none => exact absurd q (l1 b hb)
    | some u => exact k4 b u (fun z => n3 b hb b (List.mem_append_left _ z) rfl) q
  have eq2 : ∀ b ∈ g2.flatten, H' b = H b := fun b hb => by
    cases q : H b with
    | none => exact absurd q (l4 b hb)
    | some u => exact k4 b u (fun z => n5 b z b hb rfl) q
  have fin : ∀ b ∈ g1.flatten, F b = none ∧ R b = none := fun b hb => m b (by simp [List.mem_append, hb])
  refine ⟨fun b u e => k4 b u (fun z => by rw [(fin b z).1] at e; cases e) (a1 b u e), fun b u e => k4 b u (fun z => by rw [(fin b z).2] at e; cases e) (a2 b u e), a3, fs, f :: g2, RpCs.frame (Same.refl F) eq1 h1,
    ⟨_, _, _, _, rfl, rfl, k1, RpCs.frame (Same.refl F) eq2 h4⟩, ?_, fun b hb => ?_⟩
  · rw [List.flatten_cons, List.nodup_append, List.nodup_append]
    refine ⟨n1, ⟨k2, n4, fun a ha b hb z => ?_⟩, fun a ha b hb z => ?_⟩
    · subst z
      rcases k3 a ha with q | q
      · exact n5 a q a hb rfl
      · exact l4 a hb q
    · subst z
      rcases List.mem_append.mp hb with hb | hb
      · rcases k3 a hb with q | q
        · exact n3 a ha a (List.mem_append_left _ q) rfl
        · exact l1 a ha q
      · exact n3 a ha a (List.mem_append_right _ hb) rfl
  · simp only [List.flatten_cons, List.mem_append] at hb
    rcases hb with hb | hb | hb
    · exact m b (List.mem_append_left _ hb)
    · rcases k3 b hb with q | q
      · exact fin b q
      · exact ⟨a1.free q, a2.free q⟩
    · exact m b (List.mem_append_right _ (List.mem_append_right _ hb))
/-- some temporaries become one thing -/
theorem Sep.change (s : Sep K F R H σ ε (T1 ++ T)) (k : ∀ gs, RpCs K F H (T1.map fun p => some p.1) (T1.map (·.2)) gs → gs.flatten.Nodup → (∀ b ∈ gs.flatten, F b = none) → ∃ f, RpC K F H' (some v) c f ∧ f.Nodup ∧ (∀ b ∈ f, b ∈ gs.flatten ∨ H b = none) ∧ ∀ b u, b ∉ gs.flatten → H b = some u → H' b = some u) :
    Sep K F R H' σ ε ((v, c) :: T) := by
  obtain ⟨gs, g1, g2, g3, g4⟩ := s.opens
  obtain ⟨f, k1, k2, k3, k4⟩ := k gs g1 g2 g3
  exact g4 _ _ _ f k1 k2 k3 k4
/-- a new list -/
theorem Sep.newL (s : Sep K F R H σ ε T) {p : Addr} {vs : List V} {ds : List D} (hp : H p = none) (r : Reps K.1 F vs ds) : Sep K F R (upd H p (.lst vs)) σ ε ((.ref p, .ls ds) :: T) :=
  Sep.change (T1 := []) s fun gs h n _ => ⟨[p], ⟨p, vs, rfl, rfl, upd_same, r⟩, by simp, fun b hb => .inr (by rw [List.mem_singleton.mp hb]; exact hp), fun b u _ e => by rw [upd_ne (ne_of_none e hp)]; exact e⟩
theorem Sep.hd {a : Addr} {ds : List D} (s : Sep K F R H σ ε ((.ref a, .ls ds) :: T)) : ∃ vs, H a = some (.lst vs) ∧ Reps K.1 F vs ds ∧ F a = none := by
  obtain ⟨f, ⟨b, vs, e1, e2, e3, e4⟩, m⟩ := s.headT
  cases e1
  exact ⟨vs, e3, e4, (m a (by rw [e2]; exact List.mem_cons_self)).1⟩
theorem Sep.hdL {ds : List D} (s : Sep K F R H σ ε ((v, .ls ds) :: T)) : ∃ a vs, v = .ref a ∧ H a = some (.lst vs) ∧ F a = none ∧ Reps K.1 F vs ds := by
  obtain ⟨f, ⟨b, vs, e1, e2, e3, e4⟩, m⟩ := s.headT
  cases e1
  exact ⟨b, vs, rfl, e3, (m b (by rw [e2]; exact List.mem_cons_self)).1, e4⟩
/-- an own list rewritten -/
theorem Sep.wr {a : Addr} {ds es : List D} {ws : List V} (s : Sep K F R H σ ε ((.ref a, .ls ds) :: T)) (r : Reps K.1 F ws es) : Sep K F R (upd H a (.lst ws)) σ ε ((.ref a, .ls es) :: T) :=
  Sep.change (T1 := [(.ref a, .ls ds)]) s fun gs h n _ => by
    obtain ⟨o, r0, f, fr, e1, e2, ⟨b, vs, e3, e4, e5, e6⟩, h4⟩ := h
    obtain ⟨rfl, rfl⟩ := List.cons.inj e1
    cases e3
    have ha : a ∈ gs.flatten := by rw [e2, e4]; simp
    exact ⟨[a], ⟨a, ws, rfl, rfl, upd_same, r⟩, by simp, fun b hb => .inl (by rw [List.mem_singleton.mp hb]; exact ha), fun b u hb e => by rw [upd_ne (by rintro rfl; exact hb ha)]; exact e⟩
/-- what is held becomes frozen -/
theorem Sep.freeze (s : Sep K F R H σ ε ((v, c) :: T)) (h : cD c = some d) : ∃ F', Same F F' ∧ Rep K.1 F' v d ∧ Sep K F' R H σ ε T := by
  obtain ⟨a1, a2, a3, ⟨fs, gs, h1, ⟨o, r, f, fr, e1, e2, h2, h3⟩, n, m⟩⟩ := s
  subst e2
  obtain ⟨rfl, rfl⟩ := List.cons.inj e1
  let F' : Hp := fun b => if b ∈ f then H b else F b
  have i1 : ∀ {b}, b ∈ f → F' b = H b := fun {b} hb => if_pos hb
  have i2 : ∀ {b}, b ∉ f → F' b = F b := fun {b} hb => if_neg hb
  have fin : ∀ b, b ∈ f → F b = none ∧ R b = none := fun b hb => m b (by simp [hb])
  have fm : Same F F' := fun b u e => by
    rw [i2 fun z => by rw [(fin b z).1] at e; cases e]; exact e
  rw [List.flatten_cons, List.nodup_append, List.nodup_append] at n
  obtain ⟨n1, ⟨n2, n4, n5⟩, n3⟩ := n
  refine ⟨F', fm, ?_, ⟨fun b u e => ?_, a2, fun b hb => ?_, fs, fr, RpCs.frame fm (fun _ _ => rfl) h1, RpCs.frame fm (fun _ _ => rfl) h3, ?_, fun b hb => ?_⟩⟩
  · cases c with
    | no => cases h
    | sh d' =>
      cases h
      obtain ⟨_, w, e, q⟩ := h2
      cases e
      exact Rep.mono fm _ _ q
    | ls ds =>
      cases h
      obtain ⟨a, vs, e, e3, e4, e5⟩ := h2
      cases e
      exact ⟨a, vs, rfl, .inl (.inl ((i1 (by rw [e3]; exact List.mem_cons_self)).trans e4)), Reps.mono fm _ _ e5⟩
    | dc k kds => cases h
    | ob k cs => cases h
    | px _ _ _ _ => cases h
    | fn _ => cases h
    | fd _ => cases h
    | fk _ => cases h
  · by_cases q : b ∈ f
    · rw [i1 q] at e; exact e
    · rw [i2 q] at e; exact a1 b u e
  · by_cases q : b ∈ f
    · exact (fin b q).2
    · rw [i2 q] at hb; exact a3 b hb
  · rw [List.nodup_append]
    exact ⟨n1, n4, fun a ha b hb => n3 a ha b (List.mem_append_right _ hb)⟩
  · have q : b ∉ f := fun z => by
      rcases List.mem_append.mp hb with hb | hb
      · exact n3 b hb b (List.mem_append_left _ z) rfl
      · exact n5 b z b hb rfl
    rw [i2 q]
    refine m b ?_
    simp only [List.flatten_cons, List.mem_append] at hb ⊢
    rcases hb with hb | hb
    · exact .inl hb
    · exact .inr (.inr hb)
/-- a slot's cell frozen -/
theorem Sep.freezeAt (s : Sep K F R H σ ε T) (h : ε[i]? = some c) (hd : cD c = some d) : ∃ F' v, Same F F' ∧ σ[i]? = some (some v) ∧ Rep K.1 F' v d ∧ Sep K F' R H σ (ε.set i (.sh d)) T := by
  obtain ⟨v, hv⟩ := s.val h (by rintro rfl; cases hd)
  obtain ⟨F', fm, r, s'⟩ := (s.take h hv).freeze hd
  have := (s'.addSh r).put hv
  rw [List.set_set] at this
  exact ⟨F', v, fm, hv, r, this⟩
/-- a pure operation's result is held -/
theorem Sep.res (s : Sep K F R H σ ε T) (g : Grow K.1 F H F' H' v c) : Sep K F' R H' σ ε ((v, c) :: T) := by
  have s' := s.grow g.grw
  cases c with
  | no => exact g.rep.elim
  | sh d => exact s'.addSh g.rep
  | ls ds =>
    obtain ⟨a, vs, rfl, h1, h2, h3⟩ := g.rep
    have hn := g.new ds a rfl rfl
    -- the rest does not hold a
    obtain ⟨a1, a2, a3, ⟨fs, gs, k1, k2, n, m⟩⟩ := s
    obtain ⟨b1, b2, b3, ⟨fs', gs', k1', k2', n', m'⟩⟩ := s'
    have eq : ∀ b, H b ≠ none → H' b = H b := fun b hb => by
      cases q : H b with
      | none => exact absurd q hb
      | some u => exact g.hm b u q
    have q1 := RpCs.frame g.fm (fun b hb => eq b (RpCs.live k1 b hb)) k1
    have q2 := RpCs.frame g.fm (fun b hb => eq b (RpCs.live k2 b hb)) k2
    have na1 : a ∉ fs.flatten := fun z => RpCs.live k1 a z hn
    have na2 : a ∉ gs.flatten := fun z => RpCs.live k2 a z hn
    have fF : ∀ b, b ∈ fs.flatten ++ gs.flatten → F' b = none := fun b hb => by
      by_cases q : F' b = none
      · exact q
      · have z := g.ff b (m b hb).1 q
        rcases List.mem_append.mp hb with hb | hb
        · exact absurd z (RpCs.live k1 b hb)
        · exact absurd z (RpCs.live k2 b hb)
    refine ⟨b1, b2, b3, fs, [a] :: gs, q1, ⟨_, _, _, _, rfl, rfl, ⟨a, vs, rfl, rfl, h1, h3⟩, q2⟩, ?_, fun b hb => ?_⟩
    · rw [List.nodup_append] at n
      rw [List.flatten_cons, List.nodup_append, List.nodup_append]
      refine ⟨n.1, ⟨by simp, n.2.1, fun x hx y hy z => na2 (by rw [← List.mem_singleton.mp hx, z]; exact hy)⟩, fun x hx y hy z => ?_⟩
      subst z
      rcases List.mem_append.mp hy with hy | hy
      · exact na1 (by rw [← List.mem_singleton.mp hy]; exact hx)
      · exact n.2.2 x hx x hy rfl
    · simp only [List.flatten_cons, List.mem_append, List.mem_singleton] at hb
      rcases hb with hb | rfl | hb
      · exact ⟨fF b (List.mem_append_left _ hb), (m b (List.mem_append_left _ hb)).2⟩
      · exact ⟨h2, a2.free hn⟩
      · exact ⟨fF b (List.mem_append_right _ hb), (m b (List.mem_append_right _ hb)).2⟩
  | dc k kds => exact g.rep.elim
  | ob k cs => exact g.rep.elim
  | px _ _ _ _ => exact g.rep.elim
  | fn _ => exact g.rep.elim
  | fd _ => exact g.rep.elim
  | fk _ => exact g.rep.elim
end
abbrev EM := Cs → Option (C × Cs)
def tE (K : Ek) (m : EM) : TE := fun σ H Q => ∃ F R ε c ε', Sep K F R H σ ε [] ∧ m ε = some (c, ε') ∧ ∀ v F' H', Same F F' → Sep K F' R H' σ ε' [(v, c)] → Q v H'
/-- an operand: the object that a slot names (read when the operation is done), or a value of its own -/
inductive Opd where
  | pl (i : Nat) | tm (c : C)
inductive OpV (σ : St) : List V → List Opd → Prop where
  | nil : OpV σ [] []
  | pl {i : Nat} {v : V} {vs : List V} {os : List Opd} : σ[i]? = some (some v) → OpV σ vs os → OpV σ (v :: vs) (.pl i :: os)
  | tm {c : C} {v : V} {vs : List V} {os : List Opd} : OpV σ vs os → OpV σ (v :: vs) (.tm c :: os)
theorem OpV.len {σ : St} {vs : List V} {os : List Opd} (h : OpV σ vs os) : vs.length = os.length := by
  induction h with
  | nil => rfl
  | pl _ _ ih => simp [ih]
  | tm _ ih => simp [ih]
def tmO : List Opd → List V → Tms
  | .tm c :: os, v :: vs => (v, c) :: tmO os vs
  | .pl _ :: os, _ :: vs => tmO os vs
  | _, _ => []
abbrev OM := Cs → Option (Opd × Cs)
abbrev AM := Cs → Option (List Opd × Cs)
def tO (K : Ek) (m : OM) : TE := fun σ H Q => ∃ F R ε o ε', Sep K F R H σ ε [] ∧ m ε = some (o, ε') ∧ ∀ v F' H', Same F F' → OpV σ [v] [o] → Sep K F' R H' σ ε' (tmO [o] [v]) → Q v H'
def tA (K : Ek) (m : AM) : TA := fun σ H Q => ∃ F R ε os ε', Sep K F R H σ ε [] ∧ m ε = some (os, ε') ∧ ∀ vs F' H', Same F F' → OpV σ vs os → Sep K F' R H' σ ε' (tmO os vs) → Q vs H'
def mNil : AM := fun ε => some ([], ε)
def mCons (m : OM) (r : AM) : AM := fun ε => do
  let (o, ε1) ← m ε
  let (os, ε2) ← r ε1
  some (o :: os, ε2)
theorem tA_nil {K : Ek} {σ : St} {H : Hp} {Q : List V → Hp → Prop} (h : tA K mNil σ H Q) : tNil σ H Q := by
  obtain ⟨F, R, ε, os, ε', o, e, q⟩ := h
  cases e
  exact q [] F H (Same.refl F) .nil o
theorem tA_cons {K : Ek} {m : OM} {r : AM} {σ : St} {H : Hp} {Q : List V → Hp → Prop} (h : tA K (mCons m r) σ H Q) : tCons (tO K m) (tA K r) σ H Q := by
  obtain ⟨F, R, ε, os, ε', o, e, q⟩ := h
  unfold mCons at e
  cases e1 : m ε with
  | none => rw [e1] at e; cases e
  | some p =>
    obtain ⟨o1, ε1⟩ := p
    rw [e1] at e
    cases e2 : r ε1 with
    | none => simp [e2] at e
    | some p2 =>
      obtain ⟨os2, ε2⟩ := p2
      simp [e2] at e
      obtain ⟨rfl, rfl⟩ := e
      refine ⟨F, R, ε, o1, ε1, o, e1, fun v F1 H1 fm1 v1 s1 => ?_⟩
      cases v1 with
      | pl hv _ => exact ⟨F1, R, ε1, os2, ε2, s1, e2, fun vs F2 H2 fm2 v2 s2 => q (v :: vs) F2 H2 (fm1.trans fm2) (.pl hv v2) s2⟩
      | tm _ =>
        obtain ⟨R1, _, s1', back⟩ := s1.hide
        exact ⟨F1, R1, ε1, os2, ε2, s1', e2, fun vs F2 H2 fm2 v2 s2 => q (v :: vs) F2 H2 (fm1.trans fm2) (.tm v2) (back F2 H2 σ ε2 _ fm2 s2)⟩
def bor (ε : Cs) : Opd → Option D
  | .pl i => match ε[i]? with
    | some (.sh d) => some d
    | some (.ls ds) => some (.list ds)
    | _ => none
  | .tm (.sh d) => some d
  | .tm (.ls ds) => some (.list ds)
  | .tm _ => none
def bors (ε : Cs) : List Opd → Option (List D)
  | [] => some []
  | o :: os => do
    let d ← bor ε o
    let ds ← bors ε os
    some (d :: ds)
def RepB (K : PySem.W.Frag) (F H : Hp) (v : V) (d : D) : Prop := Rep K F v d ∨ ∃ a ws ds, v = .ref a ∧ d = .list ds ∧ H a = some (.lst ws) ∧ Reps K F ws ds
inductive RepBs (K : PySem.W.Frag) (F H : Hp) : List V → List D → Prop where
  | nil : RepBs K F H [] []
  | cons {v : V} {d : D} {vs : List V} {ds : List D} : RepB K F H v d → RepBs K F H vs ds → RepBs K F H (v :: vs) (d :: ds)
section
variable {K : Ek} {F R H : Hp} {σ : St} {ε : Cs} {T : Tms}
theorem Sep.repB_pl {i : Nat} {d : D} {v : V} (s : Sep K F R H σ ε T) (hv : σ[i]? = some (some v)) (e1 : bor ε (.pl i) = some d) : RepB K.1 F H v d := by
  unfold bor at e1
  cases e3 : ε[i]? with
  | none => simp [e3] at e1
  | some c =>
    cases c with
    | no => simp [e3] at e1
    | sh d' =>
      simp [e3] at e1
      subst e1
      obtain ⟨w, h1, h2⟩ := s.sh e3
      rw [hv] at h1
      cases h1
      exact .inl h2
    | ls es =>
      simp [e3] at e1
      subst e1
      obtain ⟨a, ws, h1, h2, h4⟩ := s.lst e3
      rw [hv] at h1
      cases h1
      exact .inr ⟨a, ws, es, rfl, rfl, h2, h4⟩
    | dc _ _ => simp [e3] at e1
    | ob _ _ => simp [e3] at e1
    | px _ _ _ _ => simp [e3] at e1
    | fn _ => simp [e3] at e1
    | fd _ => simp [e3] at e1
    | fk _ => simp [e3] at e1
theorem Sep.repB_tm {c : C} {d : D} {v : V} (s : Sep K F R H σ ε ((v, c) :: T)) (e1 : bor ε (.tm c) = some d) : RepB K.1 F H v d := by
  cases c with
  | no => cases e1
  | sh d' => cases e1; exact .inl s.repT
  | ls es =>
    cases e1
    obtain ⟨a, vs, rfl, h1, h2, h3⟩ := s.hdL
    exact .inr ⟨a, vs, es, rfl, rfl, h1, h3⟩
  | dc _ _ => cases e1
  | ob _ _ => cases e1
  | px _ _ _ _ => cases e1
  | fn _ => cases e1
  | fd _ => cases e1
  | fk _ => cases e1
theorem bors_ok : ∀ {os : List Opd} {vs : List V} {T : Tms} {ds : List D}, Sep K F R H σ ε (tmO os vs ++ T) → OpV σ vs os → bors ε os = some ds → RepBs K.1 F H vs ds
  | [], vs, T, ds, s, h, e => by
    cases h
    cases e
    exact .nil
  | o :: os, vs, T, ds, s, h, e => by
    unfold bors at e
    cases e1 : bor ε o with
    | none => simp [e1] at e
    | some d =>
      cases e2 : bors ε os with
      | none => simp [e1, e2] at e
      | some ds2 =>
        simp [e1, e2] at e
        subst e
        cases h with
        | pl hv h2 => exact .cons (s.repB_pl hv e1) (bors_ok s h2 e2)
        | tm h2 => exact .cons (s.repB_tm e1) (bors_ok s.drop h2 e2)
end
/-- an operation by its table: f tells its answer, r is what the hand layer asks -/
def FnB (K : PySem.W.Frag) (f : List D → Option C) (r : List V → Hp → VK → Prop) : Prop :=
  ∀ F H vs ds c Q, Same F H → RepBs K F H vs ds → f ds = some c → (∀ v F' H', Grow K F H F' H' v c → Q v H') → r vs H Q
def mOp (f : List D → Option C) (ma : AM) : EM := fun ε => do
  let (os, ε1) ← ma ε
  let ds ← bors ε1 os
  let c ← f ds
  some (c, ε1)
theorem op_sem {K : Ek} {f : List D → Option C} {r : List V → Hp → VK → Prop} (hf : FnB K.1 f r) {ma : AM} {σ : St} {H : Hp} {Q : VK} (h : tE K (mOp f ma) σ H Q) : tA K ma σ H (fun vs H' => r vs H' Q) := by
  obtain ⟨F, R, ε, c, ε', o, e, q⟩ := h
  unfold mOp at e
  cases e1 : ma ε with
  | none => simp [e1] at e
  | some p =>
    obtain ⟨os, ε1⟩ := p
    cases e2 : bors ε1 os with
    | none => simp [e1, e2] at e
    | some ds =>
      cases e3 : f ds with
      | none => simp [e1, e2, e3] at e
      | some c' =>
        simp [e1, e2, e3] at e
        obtain ⟨rfl, rfl⟩ := e
        refine ⟨F, R, ε, os, ε1, o, e1, fun vs F1 H1 fm1 v1 s1 => ?_⟩
        rw [← List.append_nil (tmO os vs)] at s1
        refine hf F1 H1 vs ds c' Q s1.sub (bors_ok s1 v1 e2) e3 fun v F2 H2 g => ?_
        exact q v F2 H2 (fm1.trans g.fm) ((s1.drops _).res g)
end L2.M
namespace L2.M
open PySem PySem.Spec PyProof.Rows
section
variable {X : Cx} {e : Expr} {t t' : TE}
theorem _root_.L2.PE.weak (h : PE X e t) (w : ∀ σ H Q, t' σ H Q → t σ H Q) : PE X e t' := ⟨fun pins s σ H Q I q => h.run pins s σ H Q I (w σ H Q q)⟩
theorem _root_.L2.PT.weak {t t' : TT} (h : PT X e t) (w : ∀ σ H Q, t' σ H Q → t σ H Q) : PT X e t' := ⟨fun pins s σ H Q I q => h.run pins s σ H Q I (w σ H Q q)⟩
theorem _root_.L2.PW.weak {t t' : TT} (h : PW X e t) (w : ∀ σ H Q, t' σ H Q → t σ H Q) : PW X e t' := ⟨fun wh pins s σ H Q I q => h.run wh pins s σ H Q I (w σ H Q q)⟩
theorem _root_.L2.PA.weak {es : List Expr} {t t' : TA} (h : PA X es t) (w : ∀ σ H Q, t' σ H Q → t σ H Q) : PA X es t' := ⟨fun pos pins s σ H Q I q => h.run pos pins s σ H Q I (w σ H Q q)⟩
end
theorem tO_mono {K : Ek} {m : OM} {σ : St} {H : Hp} {Q Q' : VK} (h : tO K m σ H Q) (w : ∀ v H', Q v H' → Q' v H') : tO K m σ H Q' := by
  obtain ⟨F, R, ε, o, ε', a, b, c⟩ := h
  exact ⟨F, R, ε, o, ε', a, b, fun v F' H' fm s r => w _ _ (c v F' H' fm s r)⟩
theorem tA_mono {K : Ek} {m : AM} {σ : St} {H : Hp} {Q Q' : List V → Hp → Prop} (h : tA K m σ H Q) (w : ∀ v H', Q v H' → Q' v H') : tA K m σ H Q' := by
  obtain ⟨F, R, ε, o, ε', a, b, c⟩ := h
  exact ⟨F, R, ε, o, ε', a, b, fun v F' H' fm s r => w _ _ (c v F' H' fm s r)⟩
def mK (d : D) : EM := fun ε => some (.sh d, ε)
theorem tE_k {K : Ek} {d : D} {v : V} (r : ∀ F, Rep K.1 F v d) {σ : St} {H : Hp} {Q : VK} (h : tE K (mK d) σ H Q) : tC v σ H Q := by
  obtain ⟨F, R, ε, c, ε', o, e, q⟩ := h
  cases e
  exact q v F H (Same.refl F) (o.addSh (r F))
section
variable {X : Cx} {pos : Pos} {j : Nat}
theorem me_int {i : Int} : PE X (.Constant (.int i) j pos) (tE X.E (mK (.int i))) := pe_int.weak fun _ _ _ => tE_k (d := .int i) (v := .int i) fun _ => by simp [Rep]
theorem me_str {i : Str} : PE X (.Constant (.str i) j pos) (tE X.E (mK (.str i))) := pe_str.weak fun _ _ _ => tE_k (d := .str i) (v := .str i) fun _ => by simp [Rep]
theorem me_bl {i : Bool} : PE X (.Constant (.bool i) j pos) (tE X.E (mK (.bool i))) := pe_bl.weak fun _ _ _ => tE_k (d := .bool i) (v := .bl i) fun _ => by simp [Rep]
theorem me_non : PE X (.Constant .none j pos) (tE X.E (mK .none)) := pe_non.weak fun _ _ _ => tE_k (d := .none) (v := .non) fun _ => by simp [Rep]
end
def mPl (i : Nat) : OM := fun ε => match ε[i]? with
  | some (.sh _) => some (.pl i, ε)
  | some (.ls _) => some (.pl i, ε)
  | some (.dc _ _) => some (.pl i, ε)
  | some (.ob _ _) => some (.pl i, ε)
  | some (.px _ _ _ _) => some (.pl i, ε)
  | some (.fn _) => some (.pl i, ε)
  | some (.fd _) => some (.pl i, ε)
  | some (.fk _) => some (.pl i, ε)
  | _ => none
theorem mPl_eq {i : Nat} {ε ε' : Cs} {o : Opd} (h : mPl i ε = some (o, ε')) : o = .pl i ∧ ε' = ε ∧ ∃ c, ε[i]? = some c ∧ c ≠ .no := by
  unfold mPl at h
  split at h
  · rename_i hh; cases h; exact ⟨rfl, rfl, _, hh, fun z => nomatch z⟩
  · rename_i hh; cases h; exact ⟨rfl, rfl, _, hh, fun z => nomatch z⟩
  · rename_i hh; cases h; exact ⟨rfl, rfl, _, hh, fun z => nomatch z⟩
  · rename_i hh; cases h; exact ⟨rfl, rfl, _, hh, fun z => nomatch z⟩
  · rename_i hh; cases h; exact ⟨rfl, rfl, _, hh, fun z => nomatch z⟩
  · rename_i hh; cases h; exact ⟨rfl, rfl, _, hh, fun z => nomatch z⟩
  · rename_i hh; cases h; exact ⟨rfl, rfl, _, hh, fun z => nomatch z⟩
  · rename_i hh; cases h; exact ⟨rfl, rfl, _, hh, fun z => nomatch z⟩
  · cases h
theorem mo_name {X : Cx} {i : Nat} {x : Str} {pos : Pos} (h : PE X (.Name x pos) (tVar i)) : PE X (.Name x pos) (tO X.E (mPl i)) := h.weak fun σ H Q q => by
  obtain ⟨F, R, ε, o, ε', s, e, q⟩ := q
  obtain ⟨rfl, rfl, c, hc, hn⟩ := mPl_eq e
  obtain ⟨v, hv⟩ := s.val hc hn
  exact ⟨v, hv, q v F H (Same.refl F) (.pl hv .nil) s⟩
/-- a name as a value: an owned list is frozen -/
def mVar (i : Nat) : EM := fun ε => match ε[i]? with
  | some (.sh d) => some (.sh d, ε)
  | some (.ls ds) => some (.sh (.list ds), ε.set i (.sh (.list ds)))
  | _ => none
theorem Sep.frzVal {K : Ek} {F R H : Hp} {σ : St} {ε : Cs} {i : Nat} {c : C} {d : D} (s : Sep K F R H σ ε []) (h : ε[i]? = some c) (hd : cD c = some d) {Q : VK} (q : ∀ v F' H', Same F F' → Sep K F' R H' σ (ε.set i (.sh d)) [(v, .sh d)] → Q v H') : ∃ v, σ[i]? = some (some v) ∧ Q v H := by
  obtain ⟨F', v, fm, hv, r, s'⟩ := s.freezeAt h hd
  exact ⟨v, hv, q v F' H fm (s'.addSh r)⟩
theorem me_name {X : Cx} {i : Nat} {x : Str} {pos : Pos} (h : PE X (.Name x pos) (tVar i)) : PE X (.Name x pos) (tE X.E (mVar i)) := h.weak fun σ H Q q => by
  obtain ⟨F, R, ε, c, ε', s, e, q⟩ := q
  unfold mVar at e
  split at e
  · rename_i d hd
    cases e
    obtain ⟨v, h1, h2⟩ := s.sh hd
    exact ⟨v, h1, q v F H (Same.refl F) (s.addSh h2)⟩
  · rename_i ds hd
    cases e
    exact s.frzVal hd rfl q
  · cases e
def mTm (m : EM) : OM := fun ε => do
  let (c, ε1) ← m ε
  some (.tm c, ε1)
theorem tO_tm {K : Ek} {m : EM} {σ : St} {H : Hp} {Q : VK} (h : tO K (mTm m) σ H Q) : tE K m σ H Q := by
  obtain ⟨F, R, ε, o, ε', s, e, q⟩ := h
  unfold mTm at e
  cases e1 : m ε with
  | none => simp [e1] at e
  | some p =>
    obtain ⟨c, ε1⟩ := p
    simp [e1] at e
    obtain ⟨rfl, rfl⟩ := e
    exact ⟨F, R, ε, c, ε1, s, e1, fun v F' H' fm p => q v F' H' fm (.tm .nil) p⟩
theorem mo_tm {X : Cx} {e : Expr} {m : EM} (h : PE X e (tE X.E m)) : PE X e (tO X.E (mTm m)) := h.weak fun _ _ _ => tO_tm
def fzO : Opd → Cs → Option (D × Cs)
  | .pl i, ε => match ε[i]? with
    | some (.sh d) => some (d, ε)
    | some (.ls ds) => some (.list ds, ε.set i (.sh (.list ds)))
    | _ => none
  | .tm (.sh d), ε => some (d, ε)
  | .tm (.ls ds), ε => some (.list ds, ε)
  | .tm _, _ => none
def fzs : List Opd → Cs → Option (List D × Cs)
  | [], ε => some ([], ε)
  | o :: os, ε => do
    let (d, ε1) ← fzO o ε
    let (ds, ε2) ← fzs os ε1
    some (d :: ds, ε2)
section
variable {K : Ek} {F R H : Hp} {σ : St} {ε ε' : Cs} {T : Tms}
theorem fzO_pl {i : Nat} {v : V} {d : D} (s : Sep K F R H σ ε T) (hv : σ[i]? = some (some v)) (e : fzO (.pl i) ε = some (d, ε')) : ∃ F', Same F F' ∧ Rep K.1 F' v d ∧ Sep K F' R H σ ε' T := by
  have own : ∀ {c : C}, ε[i]? = some c → cD c = some d → ε' = ε.set i (.sh d) → ∃ F', Same F F' ∧ Rep K.1 F' v d ∧ Sep K F' R H σ ε' T := fun {c} h1 h2 h3 => by
    obtain ⟨F', w, fm, hw, r, s'⟩ := s.freezeAt h1 h2
    rw [hv] at hw
    cases hw
    exact ⟨F', fm, r, h3 ▸ s'⟩
  unfold fzO at e
  simp only at e
  split at e
  · rename_i d' hd
    cases e
    obtain ⟨w, h1, h2⟩ := s.sh hd
    rw [hv] at h1
    cases h1
    exact ⟨F, Same.refl F, h2, s⟩
  · rename_i ds hd
    cases e
    exact own hd rfl rfl
  · cases e
theorem fzO_tm {c : C} {v : V} {d : D} (s : Sep K F R H σ ε ((v, c) :: T)) (e : fzO (.tm c) ε = some (d, ε')) : ε' = ε ∧ ∃ F', Same F F' ∧ Rep K.1 F' v d ∧ Sep K F' R H σ ε T := by
  have h : cD c = some d ∧ ε' = ε := by
    unfold fzO at e
    split at e
    · rename_i h; cases h
    · rename_i h; cases h; cases e; exact ⟨rfl, rfl⟩
    · rename_i h; cases h; cases e; exact ⟨rfl, rfl⟩
    · cases e
  exact ⟨h.2, s.freeze h.1⟩
end
theorem fzs_ok {K : Ek} {R H : Hp} {σ : St} {T : Tms} : ∀ {os : List Opd} {vs : List V} {F : Hp} {ε ε' : Cs} {ds : List D}, Sep K F R H σ ε (tmO os vs ++ T) → OpV σ vs os → fzs os ε = some (ds, ε') → ∃ F', Same F F' ∧ Reps K.1 F' vs ds ∧ Sep K F' R H σ ε' T
  | [], vs, F, ε, ε', ds, s, h, e => by
    cases h
    cases e
    exact ⟨F, Same.refl F, rfl, s⟩
  | o :: os, vs, F, ε, ε', ds, s, h, e => by
    unfold fzs at e
    cases e1 : fzO o ε with
    | none => simp [e1] at e
    | some p =>
      obtain ⟨d, ε1⟩ := p
      cases e2 : fzs os ε1 with
      | none => simp [e1, e2] at e
      | some p2 =>
        obtain ⟨ds2, ε2⟩ := p2
        simp [e1, e2] at e
        obtain ⟨rfl, rfl⟩ := e
        cases h with
        | @pl _ v vs' _ hv h2 =>
          obtain ⟨F1, fm1, r1, s1⟩ := fzO_pl s hv e1
          obtain ⟨F2, fm2, r2, s2⟩ := fzs_ok (os := os) (vs := vs') s1 h2 e2
          exact ⟨F2, fm1.trans fm2, ⟨_, _, rfl, Rep.mono fm2 _ _ r1, r2⟩, s2⟩
        | tm h2 =>
          obtain ⟨rfl, F1, fm1, r1, s1⟩ := fzO_tm s e1
          obtain ⟨F2, fm2, r2, s2⟩ := fzs_ok s1 h2 e2
          exact ⟨F2, fm1.trans fm2, ⟨_, _, rfl, Rep.mono fm2 _ _ r1, r2⟩, s2⟩
def lend : List Opd → Cs → Option (List C × Cs)
  | [], ε => some ([], ε)
  | .pl i :: os, ε => match ε[i]? with
    | some (.sh d) => do
      let (cs, ε1) ← lend os ε
      some (.sh d :: cs, ε1)
    | some .no => none
    | none => none
    | some c => do
      let (cs, ε1) ← lend os (ε.set i .no)
      some (c :: cs, ε1)
  | .tm c :: os, ε => do
    let (cs, ε1) ← lend os ε
    some (c :: cs, ε1)
theorem lend_ok {K : Ek} {F H : Hp} {σ : St} {T : Tms} : ∀ {os : List Opd} {vs : List V} {R : Hp} {ε ε' : Cs} {cs : List C}, Sep K F R H σ ε (tmO os vs ++ T) → OpV σ vs os → lend os ε = some (cs, ε') → Sep K F R H σ ε' (vs.zip cs ++ T) ∧ cs.length = os.length
  | [], vs, R, ε, ε', cs, s, h, e => by
    cases h
    cases e
    exact ⟨s, rfl⟩
  | .tm c :: os, vs, R, ε, ε', cs, s, h, e => by
    unfold lend at e
    cases e2 : lend os ε with
    | none => simp [e2] at e
    | some p =>
      obtain ⟨cs2, ε2⟩ := p
      simp [e2] at e
      obtain ⟨rfl, rfl⟩ := e
      cases h with
      | tm h2 =>
        obtain ⟨R1, _, s1, back⟩ := s.hide
        obtain ⟨s2, l2⟩ := lend_ok s1 h2 e2
        exact ⟨back F H σ ε2 _ (Same.refl F) s2, by simp [l2]⟩
  | .pl i :: os, vs, R, ε, ε', cs, s, h, e => by
    cases h with
    | @pl _ v vs' _ hv h2 =>
      have fin : ∀ {c : C} {ε1 : Cs}, Sep K F R H σ ε1 ((v, c) :: (tmO os vs' ++ T)) → (do let (cs, ε2) ← lend os ε1; some (c :: cs, ε2)) = some (cs, ε') → Sep K F R H σ ε' ((v :: vs').zip cs ++ T) ∧ cs.length = (Opd.pl i :: os).length := fun {c ε1} s1 e => by
        cases e2 : lend os ε1 with
        | none => simp [e2] at e
        | some p =>
          obtain ⟨cs2, ε2⟩ := p
          simp [e2] at e
          obtain ⟨rfl, rfl⟩ := e
          obtain ⟨R1, _, s2, back⟩ := s1.hide
          obtain ⟨s3, l3⟩ := lend_ok s2 h2 e2
          exact ⟨back F H σ ε2 _ (Same.refl F) s3, by simp [l3]⟩
      unfold lend at e
      cases hc : ε[i]? with
      | none => simp [hc] at e
      | some c =>
        cases c with
        | no => simp [hc] at e
        | sh d => exact fin (s.copy hc hv) (by simpa [hc] using e)
        | ls ds => exact fin (s.take hc hv) (by simpa [hc] using e)
        | dc k ds => exact fin (s.take hc hv) (by simpa [hc] using e)
        | ob k ds => exact fin (s.take hc hv) (by simpa [hc] using e)
        | px _ _ _ _ => exact fin (s.take hc hv) (by simpa [hc] using e)
        | fn _ => exact fin (s.take hc hv) (by simpa [hc] using e)
        | fd _ => exact fin (s.take hc hv) (by simpa [hc] using e)
        | fk _ => exact fin (s.take hc hv) (by simpa [hc] using e)
def tTupH (t : TA) : TE := fun σ H Q => t σ H fun xs H1 => xs.length ≤ sizeLine ∧ ∀ (p : Addr) (o : Obj), o.dict = none → H1 p = none → Q (.ref p) (upd H1 p (.frz o (.tup xs)))
/-- a tuple is laid, known to have no dict -/
theorem pe_tupH {X : Cx} {es : List Expr} {t : TA} {x1 : Nat} {pos : Pos} (h : PA X es t) : PE X (.Tuple es x1 pos) (tTupH t) := by
  refine ⟨fun pins s σ H Q I hq => ?_⟩
  refine wpAny_Tuple_spliced (thn (h.run pos pins s σ H _ I hq) fun us s1 ⟨xs, H1, I1, r, z, q⟩ => ⟨by rw [← r.length]; exact z, ?_⟩)
  have hf : H1 s1.heap.objs.size = none := I1.hok.fresh (Nat.le_refl _)
  refine ⟨.ref s1.heap.objs.size, upd H1 s1.heap.objs.size (.frz { cls := .type "tuple", data := .seq us.toArray } (.tup xs)), I1.laid (t' := s1.toks) (fun b u e => Heap.get?_push_of_some _ e) (Nat.le_refl _) ?_, rfl, q _ _ rfl hf⟩
  exact ⟨Heap.get?_push_size _ rfl, z, us, r, IsTup.new _ _⟩
def mTup (ma : AM) : EM := fun ε => do
  let (os, ε1) ← ma ε
  let (ds, ε2) ← fzs os ε1
  if ds.length ≤ sizeLine then some (.sh (.tuple ds), ε2) else none
def mLst (ma : AM) : EM := fun ε => do
  let (os, ε1) ← ma ε
  let (ds, ε2) ← fzs os ε1
  if ds.length ≤ sizeLine then some (.ls ds, ε2) else none
/-- a list of own things -/
def mLstN (ma : AM) : EM := fun ε => do
  let (os, ε1) ← ma ε
  let (cs, ε2) ← lend os ε1
  if cs.length ≤ sizeLine then some (.ob .ls cs, ε2) else none
theorem tE_tup {K : Ek} {ma : AM} {σ : St} {H : Hp} {Q : VK} (h : tE K (mTup ma) σ H Q) : tTupH (tA K ma) σ H Q := by
  obtain ⟨F, R, ε, c, ε', s, e, q⟩ := h
  unfold mTup at e
  cases e1 : ma ε with
  | none => simp [e1] at e
  | some p =>
    obtain ⟨os, ε1⟩ := p
    cases e2 : fzs os ε1 with
    | none => simp [e1, e2] at e
    | some p2 =>
      obtain ⟨ds, ε2⟩ := p2
      simp [e1, e2] at e
      obtain ⟨hl, rfl, rfl⟩ := e
      refine ⟨F, R, ε, os, ε1, s, e1, fun vs F1 H1 fm1 v1 s1 => ?_⟩
      rw [← List.append_nil (tmO os vs)] at s1
      obtain ⟨F2, fm2, r2, s2⟩ := fzs_ok s1 v1 e2
      refine ⟨by rw [r2.length]; exact hl, fun p o ho hp => ?_⟩
      have g := Grw.laid (u := .frz o (.tup vs)) s2.sub hp
      exact q _ _ _ ((fm1.trans fm2).trans g.fm) ((s2.grow g).addSh ⟨p, vs, rfl, ⟨o, ho, upd_same⟩, Reps.mono g.fm _ _ r2⟩)
theorem tE_lst {K : Ek} {ma : AM} {σ : St} {H : Hp} {Q : VK} (h : tE K (mLst ma) σ H Q) : tLst (tA K ma) σ H Q := by
  obtain ⟨F, R, ε, c, ε', s, e, q⟩ := h
  unfold mLst at e
  cases e1 : ma ε with
  | none => simp [e1] at e
  | some p =>
    obtain ⟨os, ε1⟩ := p
    cases e2 : fzs os ε1 with
    | none => simp [e1, e2] at e
    | some p2 =>
      obtain ⟨ds, ε2⟩ := p2
      simp [e1, e2] at e
      obtain ⟨hl, rfl, rfl⟩ := e
      refine ⟨F, R, ε, os, ε1, s, e1, fun vs F1 H1 fm1 v1 s1 => ?_⟩
      rw [← List.append_nil (tmO os vs)] at s1
      obtain ⟨F2, fm2, r2, s2⟩ := fzs_ok s1 v1 e2
      refine ⟨by rw [r2.length]; exact hl, fun p hp => ?_⟩
      exact q _ _ _ (fm1.trans fm2) (s2.newL hp r2)
section
variable {X : Cx} {es : List Expr} {m : AM} {pos : Pos} {k : Nat}
theorem me_tup (h : PA X es (tA X.E m)) : PE X (.Tuple es k pos) (tE X.E (mTup m)) := (pe_tupH h).weak fun _ _ _ => tE_tup
theorem me_lst (h : PA X es (tA X.E m)) : PE X (.List es pos) (tE X.E (mLst m)) := (pe_lst h).weak fun _ _ _ => tE_lst
theorem ma_nil : PA X [] (tA X.E mNil) := pa_nil.weak fun _ _ _ => tA_nil
end
def mU (f : D → Option C) (a : OM) : EM := fun ε => do
  let (o1, ε1) ← a ε
  let d1 ← bor ε1 o1
  let c ← f d1
  some (c, ε1)
def mB (f : D → D → Option C) (a b : OM) : EM := fun ε => do
  let (o1, ε1) ← a ε
  let (o2, ε2) ← b ε1
  let d1 ← bor ε2 o1
  let d2 ← bor ε2 o2
  let c ← f d1 d2
  some (c, ε2)
def Fn1 (K : PySem.W.Frag) (f : D → Option C) (r : V → Hp → VK → Prop) : Prop :=
  ∀ F H x d c Q, Same F H → RepB K F H x d → f d = some c → (∀ v F' H', Grow K F H F' H' v c → Q v H') → r x H Q
def Fn2 (K : PySem.W.Frag) (f : D → D → Option C) (r : V → V → Hp → VK → Prop) : Prop :=
  ∀ F H x y d e c Q, Same F H → RepB K F H x d → RepB K F H y e → f d e = some c → (∀ v F' H', Grow K F H F' H' v c → Q v H') → r x y H Q
def lf1 (f : D → Option C) : List D → Option C | [a] => f a | _ => none
def lf2 (f : D → D → Option C) : List D → Option C | [a, b] => f a b | _ => none
theorem mU_eq (f : D → Option C) (a : OM) : mU f a = mOp (lf1 f) (mCons a mNil) := by
  funext ε
  unfold mU mOp mCons mNil
  cases a ε with
  | none => rfl
  | some p =>
    obtain ⟨o, ε1⟩ := p
    simp [bors]
    cases bor ε1 o <;> rfl
theorem mB_eq (f : D → D → Option C) (a b : OM) : mB f a b = mOp (lf2 f) (mCons a (mCons b mNil)) := by
  funext ε
  unfold mB mOp mCons mNil
  cases a ε with
  | none => rfl
  | some p =>
    obtain ⟨o, ε1⟩ := p
    cases hb : b ε1 with
    | none => simp [hb]
    | some p2 =>
      obtain ⟨o2, ε2⟩ := p2
      simp [hb, bors]
      cases bor ε2 o <;> simp
      cases bor ε2 o2 <;> rfl
theorem RepBs.one {K : PySem.W.Frag} {F H : Hp} {vs : List V} {d : D} (h : RepBs K F H vs [d]) : ∃ x, vs = [x] ∧ RepB K F H x d := by
  cases h with
  | cons h t => cases t; exact ⟨_, rfl, h⟩
theorem RepBs.two {K : PySem.W.Frag} {F H : Hp} {vs : List V} {d e : D} (h : RepBs K F H vs [d, e]) : ∃ x y, vs = [x, y] ∧ RepB K F H x d ∧ RepB K F H y e := by
  cases h with
  | cons h t =>
    obtain ⟨y, rfl, h2⟩ := t.one
    exact ⟨_, y, rfl, h, h2⟩
theorem tE_u {K : Ek} {f : D → Option C} {r : V → Hp → VK → Prop} (hf : Fn1 K.1 f r) {a : OM} {σ : St} {H : Hp} {Q : VK} (h : tE K (mU f a) σ H Q) : tO K a σ H fun x H1 => r x H1 Q := by
  rw [mU_eq] at h
  have hB : FnB K.1 (lf1 f) (fun vs H Q => ∃ x, vs = [x] ∧ r x H Q) := by
    intro F H vs ds c Q s hr e q
    match ds, e with
    | [d], e =>
      obtain ⟨x, rfl, h1⟩ := hr.one
      exact ⟨x, rfl, hf F H x d c Q s h1 e q⟩
  have := tA_cons (op_sem hB h)
  refine tO_mono this fun v H' h2 => ?_
  have h3 := tA_nil h2
  obtain ⟨x, e, h4⟩ := h3
  cases e
  exact h4
theorem tE_b {K : Ek} {f : D → D → Option C} {r : R2} (hf : Fn2 K.1 f r) {a b : OM} {σ : St} {H : Hp} {Q : VK} (h : tE K (mB f a b) σ H Q) : tOp r (tO K a) (tO K b) σ H Q := by
  rw [mB_eq] at h
  have hB : FnB K.1 (lf2 f) (fun vs H Q => ∃ x y, vs = [x, y] ∧ r x y H Q) := by
    intro F H vs ds c Q s hr e q
    match ds, e with
    | [d, d2], e =>
      obtain ⟨x, y, rfl, h1, h2⟩ := hr.two
      exact ⟨x, y, rfl, hf F H x y d d2 c Q s h1 h2 e q⟩
  have := tA_cons (op_sem hB h)
  refine tO_mono this fun v H' h2 => ?_
  refine tO_mono (tA_cons h2) fun w H'' h3 => ?_
  have h4 := tA_nil h3
  obtain ⟨x, y, e, h5⟩ := h4
  cases e
  exact h5
section
variable {X : Cx} {a b : Expr} {ma mb : OM} {pos : Pos}
theorem me_bin {op : Operator} {f : D → D → Option C} {r : R2} (ho : OpR X (binaryOp op) r) (hf : Fn2 X.K f r) (ha : PE X a (tO X.E ma)) (hb : PE X b (tO X.E mb)) : PE X (.BinOp a op b pos) (tE X.E (mB f ma mb)) :=
  (pe_op ho ha hb).weak fun _ _ _ => tE_b hf
theorem me_un {op : UnaryOp} {f : D → Option C} {r : V → Hp → VK → Prop} (ho : UnR X (unaryOp op) r) (hf : Fn1 X.K f r) (ha : PE X a (tO X.E ma)) : PE X (.UnaryOp op a pos) (tE X.E (mU f ma)) :=
  (pe_un ho ha).weak fun _ _ _ => tE_u hf
theorem me_cmp {op : CmpOp} {f : D → D → Option C} {r : R2} (ho : OpR X (compareOp op) r) (hf : Fn2 X.K f r) (ha : PE X a (tO X.E ma)) (hb : PE X b (tO X.E mb)) (hm : behindInMarks op b = false) : PE X (.Compare a [op] [b] pos) (tE X.E (mB f ma mb)) :=
  (pe_cmpR ho ha hb hm).weak fun _ _ _ => tE_b hf
theorem me_ix {f : D → D → Option C} {r : R2} (ho : IxR X r) (hf : Fn2 X.K f r) (ha : PE X a (tO X.E ma)) (hb : PE X b (tO X.E mb)) (hs : PlainIx b) : PE X (.Subscript a b pos) (tE X.E (mB f ma mb)) :=
  (pe_ix ho ha hb hs).weak fun _ _ _ => tE_b hf
end
section
variable {X : Cx} {e : Expr} {es : List Expr} {m : AM} {x : Str} {p pos : Pos} {id T : String} {r : List V → Hp → VK → Prop} {f : List D → Option C}
theorem me_callB (hc : CallR X (.builtin id) r) (hf : FnB X.K f r) (hg : Gl X x) (hm : X.mg x = none) (hv : bootBuiltins x = some (.builtin id)) (ha : PA X (e :: es) (tA X.E m)) (hn : x ≠ "__name__") (hdb : (x == ("__debug__" : Str)) = false)
    (he : starEach (e :: es) X.env = (false, eval e X.env) :: starEach es X.env) (hpl : (backTo pos (starEach es X.env)).any (·.1) = false) : PE X (.Call (.Name x p) (e :: es) [] pos) (tE X.E (mOp f m)) :=
  (pe_callB hc hg hm hv ha hn hdb he hpl).weak fun _ _ _ h => op_sem hf h
theorem me_callTy (hc : CallR X (.type T) r) (hf : FnB X.K f r) (hg : Gl X x) (hm : X.mg x = none) (hv : bootBuiltins x = some (.type T)) (ha : PA X (e :: es) (tA X.E m)) (hn : x ≠ "__name__") (hdb : (x == ("__debug__" : Str)) = false)
    (he : starEach (e :: es) X.env = (false, eval e X.env) :: starEach es X.env) (hpl : (backTo pos (starEach es X.env)).any (·.1) = false) : PE X (.Call (.Name x p) (e :: es) [] pos) (tE X.E (mOp f m)) :=
  (pe_callTy hc hg hm hv ha hn hdb he hpl).weak fun _ _ _ h => op_sem hf h
end
end L2.M
namespace L2.M
open PySem PySem.Spec PyProof.Rows
abbrev TM := Cs → Option (Bool × Cs)
def tT (K : Ek) (m : TM) : TT := fun σ H Q => ∃ F R ε b ε', Sep K F R H σ ε [] ∧ m ε = some (b, ε') ∧ ∀ F' H', Same F F' → Sep K F' R H' σ ε' [] → Q b H'
def mTst (m : EM) : TM := fun ε => match m ε with
  | some (.sh (.bool b), ε') => some (b, ε')
  | _ => none
theorem Sep.boolT {K : Ek} {F R H : Hp} {σ : St} {ε : Cs} {T : Tms} {v : V} {b : Bool} (s : Sep K F R H σ ε ((v, .sh (.bool b)) :: T)) : v = .bl b := by
  have r := s.repT
  simpa only [Rep] using r
theorem Sep.addB {K : Ek} {F R H : Hp} {σ : St} {ε : Cs} {T : Tms} (s : Sep K F R H σ ε T) (b : Bool) : Sep K F R H σ ε ((.bl b, .sh (.bool b)) :: T) := s.addSh (by simp only [Rep])
section
variable {K : Ek} {σ : St} {H : Hp}
theorem tE_tst {m : EM} {Q : Bool → Hp → Prop} (h : tT K (mTst m) σ H Q) : tE K m σ H (fun x H' => ∃ k, x = .bl k ∧ Q k H') := by
  obtain ⟨F, R, ε, b, ε', o, e, q⟩ := h
  unfold mTst at e
  split at e
  · rename_i b' ε1 hm
    cases e
    exact ⟨F, R, ε, _, ε', o, hm, fun v F' H' fm p => ⟨b, p.boolT, q F' H' fm p.drop⟩⟩
  · cases e
end
section
variable {X : Cx} {a b e : Expr} {ma mb : OM} {m : EM} {pos : Pos} {rest : List Expr}
theorem mt_val (h : PE X e (tE X.E m)) (he : ∀ whole, isTrue e X.env whole = (do let v ← whole; standAt e.pos; holding [v] (truthy v))) : PT X e (tT X.E (mTst m)) :=
  (pt_val h he).weak fun _ _ _ => tE_tst
theorem mt_cmp {op : CmpOp} {f : D → D → Option C} {r : R2} (ho : OpR X (compareOp op) r) (hf : Fn2 X.K f r) (ha : PE X a (tO X.E ma)) (hb : PE X b (tO X.E mb)) (hm : behindInMarks op b = false) : PT X (.Compare a [op] [b] pos) (tT X.E (mTst (mB f ma mb))) :=
  (pt_cmpR ho ha hb hm).weak fun _ _ _ h => tE_b hf (tE_tst h)
def mNotT (m : TM) : TM := fun ε => do
  let (b, ε1) ← m ε
  some (!b, ε1)
def mAndT (m n : TM) : TM := fun ε => do
  let (b, ε1) ← m ε
  if b then n ε1 else some (false, ε1)
def mOrT (m n : TM) : TM := fun ε => do
  let (b, ε1) ← m ε
  if b then some (true, ε1) else n ε1
theorem tT_bind {K : Ek} {m : TM} {n : Bool → TM} {σ : St} {H : Hp} {Q : Bool → Hp → Prop} (h : tT K (fun ε => do let (b, ε1) ← m ε; n b ε1) σ H Q) : tT K m σ H fun b H1 => tT K (n b) σ H1 Q := by
  obtain ⟨F, R, ε, c, ε', o, e, q⟩ := h
  cases e1 : m ε with
  | none => simp [e1] at e
  | some p =>
    obtain ⟨b, ε1⟩ := p
    simp [e1] at e
    exact ⟨F, R, ε, b, ε1, o, e1, fun F1 H1 fm1 s1 => ⟨F1, R, ε1, c, ε', s1, e, fun F2 H2 fm2 s2 => q F2 H2 (fm1.trans fm2) s2⟩⟩
theorem tT_pure {K : Ek} {b : Bool} {σ : St} {H : Hp} {Q : Bool → Hp → Prop} (h : tT K (fun ε => some (b, ε)) σ H Q) : Q b H := by
  obtain ⟨F, R, ε, c, ε', o, e, q⟩ := h
  cases e
  exact q F H (Same.refl F) o
theorem tT_mono {K : Ek} {m : TM} {σ : St} {H : Hp} {Q Q' : Bool → Hp → Prop} (h : tT K m σ H Q) (w : ∀ v H', Q v H' → Q' v H') : tT K m σ H Q' := by
  obtain ⟨F, R, ε, o, ε', a, b, c⟩ := h
  exact ⟨F, R, ε, o, ε', a, b, fun F' H' fm s => w _ _ (c F' H' fm s)⟩
theorem mt_not {m : TM} (h : PT X e (tT X.E m)) : PT X (.UnaryOp .Not e pos) (tT X.E (mNotT m)) := (pt_not h).weak fun σ H Q q =>
  tT_mono (tT_bind (n := fun b ε => some (!b, ε)) q) fun _ _ z => tT_pure z
theorem mt_and {m n : TM} (h : PT X a (tT X.E m)) (g : PW X (.BoolOp .And (b :: rest) pos) (tT X.E n)) : PW X (.BoolOp .And (a :: b :: rest) pos) (tT X.E (mAndT m n)) := (pw_and h g).weak fun σ H Q q =>
  tT_mono (tT_bind (n := fun b ε => if b then n ε else some (false, ε)) q) fun b _ z => by
    cases b with
    | true => rw [if_pos rfl]; exact z
    | false => rw [if_neg Bool.false_ne_true]; exact tT_pure z
theorem mt_or {m n : TM} (h : PT X a (tT X.E m)) (g : PW X (.BoolOp .Or (b :: rest) pos) (tT X.E n)) : PW X (.BoolOp .Or (a :: b :: rest) pos) (tT X.E (mOrT m n)) := (pw_or h g).weak fun σ H Q q =>
  tT_mono (tT_bind (n := fun b ε => if b then some (true, ε) else n ε) q) fun b _ z => by
    cases b with
    | true => rw [if_pos rfl]; exact tT_pure z
    | false => rw [if_neg Bool.false_ne_true]; exact z
theorem mt_and1 {m : TM} (h : PT X a (tT X.E m)) : PW X (.BoolOp .And [a] pos) (tT X.E m) := pw_and1 h
theorem mt_or1 {m : TM} (h : PT X a (tT X.E m)) : PW X (.BoolOp .Or [a] pos) (tT X.E m) := pw_or1 h
def mNotE (m : EM) : EM := fun ε => match m ε with
  | some (.sh (.bool b), ε1) => some (.sh (.bool (!b)), ε1)
  | _ => none
def mAndE (m n : EM) : EM := fun ε => match m ε with
  | some (.sh (.bool true), ε1) => n ε1
  | some (.sh (.bool false), ε1) => some (.sh (.bool false), ε1)
  | _ => none
def mOrE (m n : EM) : EM := fun ε => match m ε with
  | some (.sh (.bool true), ε1) => some (.sh (.bool true), ε1)
  | some (.sh (.bool false), ε1) => n ε1
  | _ => none
def mIfE (t : TM) (m n : EM) : EM := fun ε => do
  let (b, ε1) ← t ε
  if b then m ε1 else n ε1
theorem me_not (h : PE X e (tE X.E m)) : PE X (.UnaryOp .Not e pos) (tE X.E (mNotE m)) := (pe_not h).weak fun σ H Q q => by
  obtain ⟨F, R, ε, c, ε', o, e, q⟩ := q
  unfold mNotE at e
  split at e
  · rename_i b ε1 hm
    cases e
    exact ⟨F, R, ε, _, ε', o, hm, fun v F' H' fm p => ⟨b, p.boolT, q _ F' H' fm (p.drop.addB _)⟩⟩
  · cases e
theorem me_and {n : EM} (h : PE X a (tE X.E m)) (g : PE X (.BoolOp .And (b :: rest) pos) (tE X.E n)) : PE X (.BoolOp .And (a :: b :: rest) pos) (tE X.E (mAndE m n)) := (pe_and h g).weak fun σ H Q q => by
  obtain ⟨F, R, ε, c, ε', o, e, q⟩ := q
  unfold mAndE at e
  split at e
  · rename_i ε1 hm
    refine ⟨F, R, ε, _, ε1, o, hm, fun v F' H' fm p => ⟨true, p.boolT, ?_⟩⟩
    rw [if_pos rfl]
    exact ⟨F', R, ε1, c, ε', p.drop, e, fun w F2 H2 fm2 p2 => q w F2 H2 (fm.trans fm2) p2⟩
  · rename_i ε1 hm
    cases e
    refine ⟨F, R, ε, _, ε', o, hm, fun v F' H' fm p => ⟨false, p.boolT, ?_⟩⟩
    rw [if_neg Bool.false_ne_true]
    exact q _ F' H' fm (p.drop.addB _)
  · cases e
theorem me_one {op : BoolOp} (h : PE X a (tE X.E m)) : PE X (.BoolOp op [a] pos) (tE X.E m) := pe_one h
theorem me_ife {c : Expr} {t : TM} {n : EM} (hc : PT X c (tT X.E t)) (h : PE X a (tE X.E m)) (g : PE X b (tE X.E n)) : PE X (.IfExp c a b pos) (tE X.E (mIfE t m n)) := (pe_ifExp hc h g).weak fun σ H Q q => by
  obtain ⟨F, R, ε, c, ε', o, e, q⟩ := q
  unfold mIfE at e
  cases e1 : t ε with
  | none => simp [e1] at e
  | some p =>
    obtain ⟨k, ε1⟩ := p
    simp [e1] at e
    refine ⟨F, R, ε, k, ε1, o, e1, fun F1 H1 fm1 s1 => ?_⟩
    cases k with
    | true =>
      rw [if_pos rfl]
      simp at e
      exact ⟨F1, R, ε1, c, ε', s1, e, fun w F2 H2 fm2 p2 => q w F2 H2 (fm1.trans fm2) p2⟩
    | false =>
      rw [if_neg Bool.false_ne_true]
      simp at e
      exact ⟨F1, R, ε1, c, ε', s1, e, fun w F2 H2 fm2 p2 => q w F2 H2 (fm1.trans fm2) p2⟩
end
abbrev GM := List C → Option (C × List C)
def spOf (K : Ek) (np : Nat) (g : GM) : Sp := fun vs H Q _ => vs.length = np ∧ ∃ F R cs c cs', Sep K F R H (vs.map some) cs [] ∧ g cs = some (c, cs') ∧ ∀ v F' H', Same F F' → Sep K F' R H' (vs.map some) cs' [(v, c)] → Q v H'
def frz : List Bool → List Opd → Cs → Option (List Opd × Cs)
  | [], [], ε => some ([], ε)
  | true :: bs, o :: os, ε => do
    let (os', ε1) ← frz bs os ε
    some (o :: os', ε1)
  | false :: bs, o :: os, ε => do
    let (d, ε1) ← fzO o ε
    let (os', ε2) ← frz bs os ε1
    some (.tm (.sh d) :: os', ε2)
  | _, _, _ => none
def wb : List Opd → List C → Cs → Cs
  | .pl i :: os, c :: cs, ε => wb os cs (ε.set i c)
  | .tm _ :: os, _ :: cs, ε => wb os cs ε
  | _, _, ε => ε
def mCall (io : List Bool) (g : GM) (ma : AM) : EM := fun ε => do
  let (os, ε1) ← ma ε
  let (os2, ε2) ← frz io os ε1
  let (cs, ε3) ← lend os2 ε2
  let (c, cs') ← g cs
  some (c, wb os2 cs' ε3)
theorem frz_ok {K : Ek} {H : Hp} {σ : St} {T : Tms} : ∀ {bs : List Bool} {os os2 : List Opd} {vs : List V} {F R : Hp} {ε ε' : Cs}, Sep K F R H σ ε (tmO os vs ++ T) → OpV σ vs os → frz bs os ε = some (os2, ε') →
    ∃ F', Same F F' ∧ Sep K F' R H σ ε' (tmO os2 vs ++ T) ∧ OpV σ vs os2 ∧ os2.length = bs.length
  | [], [], os2, vs, F, R, ε, ε', s, h, e => by
    cases h
    cases e
    exact ⟨F, Same.refl F, s, .nil, rfl⟩
  | true :: bs, o :: os, os2, vs, F, R, ε, ε', s, h, e => by
    unfold frz at e
    cases e1 : frz bs os ε with
    | none => simp [e1] at e
    | some p =>
      obtain ⟨os', ε1⟩ := p
      simp [e1] at e
      obtain ⟨rfl, rfl⟩ := e
      cases h with
      | @pl _ v vs' _ hv h2 =>
        obtain ⟨F', fm, s', v', l'⟩ := frz_ok (os := os) (vs := vs') s h2 e1
        exact ⟨F', fm, s', .pl hv v', by simp [l']⟩
      | @tm c v vs' _ h2 =>
        obtain ⟨R1, _, s1, back⟩ := Sep.hide (T := tmO os vs' ++ T) s
        obtain ⟨F', fm, s', v', l'⟩ := frz_ok s1 h2 e1
        exact ⟨F', fm, back F' H σ ε1 _ fm s', .tm v', by simp [l']⟩
  | false :: bs, o :: os, os2, vs, F, R, ε, ε', s, h, e => by
    unfold frz at e
    cases e1 : fzO o ε with
    | none => simp [e1] at e
    | some p =>
      obtain ⟨d, ε1⟩ := p
      cases e2 : frz bs os ε1 with
      | none => simp [e1, e2] at e
      | some p2 =>
        obtain ⟨os', ε2⟩ := p2
        simp [e1, e2] at e
        obtain ⟨rfl, rfl⟩ := e
        cases h with
        | @pl _ v vs' _ hv h2 =>
          obtain ⟨F1, fm1, r1, s1⟩ := fzO_pl s hv e1
          obtain ⟨F2, fm2, s2, v2, l2⟩ := frz_ok (os := os) (vs := vs') s1 h2 e2
          exact ⟨F2, fm1.trans fm2, s2.addSh (Rep.mono fm2 _ _ r1), .tm v2, by simp [l2]⟩
        | @tm c v vs' _ h2 =>
          obtain ⟨rfl, F1, fm1, r1, s1⟩ := fzO_tm (T := tmO os vs' ++ T) s e1
          obtain ⟨F2, fm2, s2, v2, l2⟩ := frz_ok s1 h2 e2
          exact ⟨F2, fm1.trans fm2, s2.addSh (Rep.mono fm2 _ _ r1), .tm v2, by simp [l2]⟩
  | [], _ :: _, _, _, _, _, _, _, _, _, e => by simp [frz] at e
  | true :: _, [], _, _, _, _, _, _, _, _, e => by simp [frz] at e
  | false :: _, [], _, _, _, _, _, _, _, _, e => by simp [frz] at e
theorem wb_ok {K : Ek} {F R H : Hp} {σ : St} {T : Tms} : ∀ {os : List Opd} {vs : List V} {cs : List C} {ε : Cs}, Sep K F R H σ ε (vs.zip cs ++ T) → OpV σ vs os → cs.length = os.length → Sep K F R H σ (wb os cs ε) T
  | [], vs, cs, ε, s, h, l => by
    cases h
    cases cs with
    | nil => exact s
    | cons _ _ => cases l
  | o :: os, vs, [], ε, s, h, l => by cases l
  | o :: os, vs, c :: cs, ε, s, h, l => by
    cases h with
    | pl hv h2 =>
      unfold wb
      exact wb_ok (Sep.put s hv) h2 (by simpa using l)
    | tm h2 =>
      unfold wb
      exact wb_ok (Sep.drop s) h2 (by simpa using l)
theorem zip_snd {α β : Type} {xs : List α} {ys : List β} (h : ys.length = xs.length) : (xs.zip ys).map (·.2) = ys := List.map_snd_zip (by omega)
theorem zip_fst {α β : Type} {xs : List α} {ys : List β} (h : ys.length = xs.length) : (xs.zip ys).map (·.1) = xs := List.map_fst_zip (by omega)
theorem zip_fsts {β : Type} {xs : List V} {ys : List β} (h : ys.length = xs.length) : (xs.zip ys).map (fun p => some p.1) = xs.map some := by
  rw [show (fun p : V × β => some p.1) = (fun x => some x) ∘ (fun p : V × β => p.1) from rfl, ← List.map_map, zip_fst h]
/-- the callee's frame, and the way back -/
theorem call_sep {K : Ek} {F R H : Hp} {σ : St} {ε3 : Cs} {os : List Opd} {vs : List V} {cs : List C} (s : Sep K F R H σ ε3 (vs.zip cs)) (ho : OpV σ vs os) (hl : cs.length = os.length) :
    ∃ R1, Sep K F R1 H (vs.map some) cs [] ∧ ∀ F' H' cs' T', Same F F' → Sep K F' R1 H' (vs.map some) cs' T' → Sep K F' R H' σ (wb os cs' ε3) T' := by
  have lv := ho.len
  obtain ⟨R1, s1, back⟩ := s.enter
  rw [zip_fsts (by omega), zip_snd (by omega)] at s1
  refine ⟨R1, s1, fun F' H' cs' T' fm s' => ?_⟩
  have lc : cs'.length = vs.length := by have := s'.len; simp at this; omega
  have := back F' H' cs' T' fm (by rw [zip_fsts (by omega)]; exact s')
  rw [zip_fst (by omega)] at this
  exact wb_ok this ho (by omega)
theorem tE_call {K : Ek} {np : Nat} {g : GM} {io : List Bool} {ma : AM} {σ : St} {H : Hp} {Q : VK} (hio : io.length = np) (h : tE K (mCall io g ma) σ H Q) : tCall (spOf K np g) [] E0 (tA K ma) σ H Q := by
  obtain ⟨F, R, ε, c, ε', ok, e, q⟩ := h
  unfold mCall at e
  cases e1 : ma ε with
  | none => simp [e1] at e
  | some p =>
    obtain ⟨os, ε1⟩ := p
    cases e2 : frz io os ε1 with
    | none => simp [e1, e2] at e
    | some p2 =>
      obtain ⟨os2, ε2⟩ := p2
      cases e3 : lend os2 ε2 with
      | none => simp [e1, e2, e3] at e
      | some p3 =>
        obtain ⟨cs, ε3⟩ := p3
        cases e4 : g cs with
        | none => simp [e1, e2, e3, e4] at e
        | some p4 =>
          obtain ⟨c', cs'⟩ := p4
          simp [e1, e2, e3, e4] at e
          obtain ⟨rfl, rfl⟩ := e
          refine ⟨F, R, ε, os, ε1, ok, e1, fun vs F1 H1 fm1 v1 s1 => ?_⟩
          rw [← List.append_nil (tmO os vs)] at s1
          obtain ⟨F2, fm2, s2, v2, l2⟩ := frz_ok s1 v1 e2
          obtain ⟨s3, l3⟩ := lend_ok s2 v2 e3
          rw [List.append_nil] at s3
          obtain ⟨R1, s4, back⟩ := call_sep s3 v2 l3
          refine ⟨by rw [List.append_nil, v2.len, l2]; exact hio, F2, R1, cs, c', cs', by rw [List.append_nil]; exact s4, e4, fun v F' H' fm p => ?_⟩
          rw [List.append_nil] at p
          exact q v F' H' ((fm1.trans fm2).trans fm) (back F' H' cs' _ fm p)
end L2.M
namespace L2.M
open PySem PySem.Spec PyProof.Rows
section
variable {K : PySem.W.Frag} {F H : Hp} {x : V}
theorem rb_non (h : RepB K F H x .none) : x = .non := by
  rcases h with h | ⟨_, _, _, _, h, _⟩
  · simpa only [Rep] using h
  · cases h
theorem rb_bool {b : Bool} (h : RepB K F H x (.bool b)) : x = .bl b := by
  rcases h with h | ⟨_, _, _, _, h, _⟩
  · simpa only [Rep] using h
  · cases h
theorem rb_int {i : Int} (h : RepB K F H x (.int i)) : x = .int i := by
  rcases h with h | ⟨_, _, _, _, h, _⟩
  · simpa only [Rep] using h
  · cases h
theorem rb_str {i : Str} (h : RepB K F H x (.str i)) : x = .str i := by
  rcases h with h | ⟨_, _, _, _, h, _⟩
  · simpa only [Rep] using h
  · cases h
theorem rb_tup {ds : List D} (s : Same F H) (h : RepB K F H x (.tuple ds)) : ∃ a vs, x = .ref a ∧ HdT F a vs ∧ SqT K H a vs ∧ Reps K F vs ds := by
  rcases h with ⟨a, vs, h1, h2, h3⟩ | ⟨_, _, _, _, h, _⟩
  · exact ⟨a, vs, h1, h2, (h2.mono s).sq, h3⟩
  · cases h
theorem rb_lst {ds : List D} (s : Same F H) (h : RepB K F H x (.list ds)) : ∃ a vs, x = .ref a ∧ SqL K H a vs ∧ Reps K F vs ds := by
  rcases h with ⟨a, vs, h1, h2, h3⟩ | ⟨a, ws, es, h1, h2, h3, h4⟩
  · exact ⟨a, vs, h1, sameL s h2, h3⟩
  · cases h2
    exact ⟨a, ws, h1, .inl (.inl h3), h4⟩
theorem rb_dct {kds : List (D × D)} (s : Same F H) (h : RepB K F H x (.dict kds)) : ∃ a kvs, x = .ref a ∧ H a = some (.dK kvs) ∧ RepKs K F kvs kds := by
  rcases h with ⟨a, vs, h1, h2, h3⟩ | ⟨_, _, _, _, h, _⟩
  · exact ⟨a, vs, h1, s _ _ h2, h3⟩
  · cases h
mutual
theorem Rep.dp (s : Same F H) : ∀ (d : D) (v : V), Rep K F v d → PyData.canLay0 d = true → Dp K H v d
  | .none, v, h, _ => by simp only [Rep] at h; subst h; exact .non
  | .bool b, v, h, _ => by simp only [Rep] at h; subst h; exact .bl b
  | .int b, v, h, _ => by simp only [Rep] at h; subst h; exact .int b
  | .str b, v, h, _ => by simp only [Rep] at h; subst h; exact .str b
  | .list ds, v, ⟨a, vs, h1, h2, h3⟩, hc => by subst h1; exact .lst (sameL s h2) (Reps.dp s ds vs h3 (by simpa [PyData.canLay0] using hc))
  | .tuple ds, v, ⟨a, vs, h1, h2, h3⟩, hc => by subst h1; exact .tup (h2.mono s).sq (Reps.dp s ds vs h3 (by simpa [PyData.canLay0] using hc))
  | .dict kds, v, _, hc => by simp [PyData.canLay0] at hc
theorem Reps.dp (s : Same F H) : ∀ (ds : List D) (vs : List V), Reps K F vs ds → PyData.canLayAll0 ds = true → DpAll K H vs ds
  | [], vs, h, _ => by cases (show vs = [] from h); exact .nil
  | d :: ds, vs, ⟨v, r, h1, h2, h3⟩, hc => by
    subst h1
    simp only [PyData.canLayAll0, Bool.and_eq_true] at hc
    exact .cons (Rep.dp s d v h2 hc.1) (Reps.dp s ds r h3 hc.2)
end
theorem rb_dp {d : D} (s : Same F H) (h : RepB K F H x d) (hc : PyData.canLay0 d = true) : Dp K H x d := by
  rcases h with h | ⟨a, ws, ds, h1, h2, h3, h4⟩
  · exact Rep.dp s d x h hc
  · subst h1 h2
    exact .lst (.inl (.inl h3)) (Reps.dp s ds ws h4 (by simpa [PyData.canLay0] using hc))
end
theorem list_mulW (l : Addr) (items : Array Value) (n : Nat) (x : Int) (u : Tok) (dd : Option Addr) (sl : Array (Option Value)) (hc0 : ¬(!Builtin.List.listFitsIndex x) = true) (hc1 : ¬items.size * x.toNat > (2 ^ 63 - 1) / 8) (hc2 : ¬Builtin.List.listTooLong (items.size * x.toNat) = true) :
    Meets (Builtin.«list.__mul__» ⟨[.ref l, .int x u], []⟩) (fun _ R s => s.heap.get? l = some { cls := .type "list", dict := dd, data := .seq items n, slots := sl } ∧ R (.ok (.ret (Value.ref s.heap.objs.size))) { s with heap := s.heap.push { cls := Value.type "list", data := Data.seq (List.foldl (fun x1 x2 => x1 ++ x2) #[] (List.replicate (if items.isEmpty = true then 0 else x.toNat) items)) }, toks := s.toks }) :=
  .of_wp fun prog w A R s h => by
    obtain ⟨hp, g, d, tk, os⟩ := s; obtain ⟨hl, h⟩ := h
    have hsz := AutoListH.joined_fits hc2
    wp_walk using wpAny_loadPart' hl; refine wpAny_ite_false (decide_eq_false (Nat.not_lt.mpr hsz)) ?_; wp_walk using wpAny_loadPart' hl; exact ⟨_, rfl, h⟩
theorem int_rmulW (a : Int) (t : Tok) (l : Addr) (items : Array Value) (n : Nat) (dd : Option Addr) (sl : Array (Option Value)) :
    Meets (Builtin.«int.__rmul__» ⟨[.int a t, .ref l], []⟩) (fun _ R s => s.heap.get? l = some { cls := .type "list", dict := dd, data := .seq items n, slots := sl } ∧ R (.ok (.ret Value.notImplemented)) s) :=
  .of_wp fun prog w A R s h => by obtain ⟨hp, g, d, tk, os⟩ := s; obtain ⟨hl, h⟩ := h; wp_walk using wpAny_loadPart' hl; exact ⟨_, rfl, h⟩
section
variable {K : PySem.W.Frag} {F H : Hp} {Q : VK}
theorem gv {v : V} {d : D} (s : Same F H) (r : Rep K F v d) (q : ∀ v F' H', Grow K F H F' H' v (.sh d) → Q v H') : Q v H :=
  q v F H ⟨Same.refl F, Same.refl H, s, fun b h h' => absurd h h', r, fun _ _ z => nomatch z⟩
theorem g_int {i : Int} (s : Same F H) (q : ∀ v F' H', Grow K F H F' H' v (.sh (.int i)) → Q v H') : Q (.int i) H := gv s (by simp only [Rep]) q
theorem g_bool {i : Bool} (s : Same F H) (q : ∀ v F' H', Grow K F H F' H' v (.sh (.bool i)) → Q v H') : Q (.bl i) H := gv s (by simp only [Rep]) q
theorem g_str {i : Str} (s : Same F H) (q : ∀ v F' H', Grow K F H F' H' v (.sh (.str i)) → Q v H') : Q (.str i) H := gv s (by simp only [Rep]) q
theorem g_tup {vs : List V} {ds : List D} (s : Same F H) (r : Reps K F vs ds) (q : ∀ v F' H', Grow K F H F' H' v (.sh (.tuple ds)) → Q v H') : ∀ (p : Addr) (o : Obj), o.dict = none → H p = none → Q (.ref p) (upd H p (.frz o (.tup vs))) := fun p o ho hp => by
  have g := Grw.laid (u := .frz o (.tup vs)) s hp
  exact q (.ref p) _ _ ⟨g.fm, g.hm, g.sub, g.ff, ⟨p, vs, rfl, ⟨o, ho, upd_same⟩, Reps.mono g.fm _ _ r⟩, fun _ _ z => nomatch z⟩
theorem g_lst {vs : List V} {ds : List D} (s : Same F H) (r : Reps K F vs ds) (q : ∀ v F' H', Grow K F H F' H' v (.ls ds) → Q v H') : ∀ p, H p = none → Q (.ref p) (upd H p (.lst vs)) := fun p hp => by
  have hm : Same H (upd H p (.lst vs)) := fun b x e => by rw [upd_ne (ne_of_none e hp)]; exact e
  exact q (.ref p) F _ ⟨Same.refl F, hm, s.trans hm, fun b h h' => absurd h h', ⟨p, vs, rfl, upd_same, s.free hp, r⟩, fun ds a _ z => by cases z; exact hp⟩
end
section
variable {X : Cx}
/-- a tuple laid behind an operation, known to have no dict -/
theorem laidH {pins : List (Addr × Obj)} {σ : St} {H : Hp} {s : Shared} {Q : VK} {ys : List V} {us : List Value} (I : Inv X pins σ H s) (r : Vals ys us) (hz : ys.length ≤ sizeLine) (q : ∀ (p : Addr) (o : Obj), o.dict = none → H p = none → Q (.ref p) (upd H p (.frz o (.tup ys)))) : EP X pins σ Q (.ref s.heap.objs.size) { s with heap := s.heap.push { cls := .type "tuple", data := .seq us.toArray } } := by
  refine ⟨.ref s.heap.objs.size, _, I.laid (t' := s.toks) (o := .frz { cls := .type "tuple", data := .seq us.toArray } (.tup ys)) (fun b ob q => Heap.get?_push_of_some _ q) (Nat.le_refl _) ?_, rfl, q _ _ rfl (I.hok.fresh (Nat.le_refl _))⟩
  exact ⟨Heap.get?_push_size _ rfl, hz, us, r, IsTup.new _ _⟩
def rCatH (K : PySem.W.Frag) : R2 := fun x y H Q => ∃ a b xs ys, x = .ref a ∧ y = .ref b ∧ SqT K H a xs ∧ SqT K H b ys ∧ xs.length + ys.length ≤ sizeLine ∧
  (xs = [] → Q (.ref b) H) ∧ (xs ≠ [] → ys = [] → Q (.ref a) H) ∧ (xs ≠ [] → ys ≠ [] → ∀ (p : Addr) (o : Obj), o.dict = none → H p = none → Q (.ref p) (upd H p (.frz o (.tup (xs ++ ys)))))
theorem op_catH : OpR X (binaryOp .Add) (rCatH X.K) := by
  rintro pins s σ H x y v u Q I rx ry ⟨a, b, xs, ys, rfl, rfl, ha, hb, hz, q0, q1, q2⟩
  cases rx
  cases ry
  obtain ⟨its, r1, p1, _⟩ := I.tuple ha
  obtain ⟨its2, r2, p2, _⟩ := I.tuple hb
  by_cases hx : xs = []
  · subst hx
    cases r1
    exact cat_tup0 p1 p2 ⟨.ref b, H, I, rfl, q0 rfl⟩
  · refine HT.cat_tup p1 p2 (fun z => hx (r1.nil_iff.mp z)) (fun z => ⟨.ref a, H, I, rfl, q1 hx (r2.nil_iff.mp z)⟩) (fun z => ?_) (by rw [← r1.length, ← r2.length]; exact hz)
    exact laidH I (r1.append r2) (by rw [List.length_append]; exact hz) (q2 hx fun w => z (r2.nil_iff.mpr w))
def rRepH (K : PySem.W.Frag) : R2 := fun x y H Q => ∃ l k xs, x = .ref l ∧ y = .int k ∧ SqT K H l xs ∧ xs ≠ [] ∧ 2 ≤ k ∧ k ≤ 1000 ∧ xs.length ≤ 1000 ∧ ∀ (p : Addr) (o : Obj), o.dict = none → H p = none → Q (.ref p) (upd H p (.frz o (.tup (List.replicate k.toNat xs).flatten)))
theorem op_repH : OpR X (binaryOp .Mult) (rRepH X.K) := by
  rintro pins s σ H x y v u Q I rx ry ⟨l, k, xs, rfl, rfl, hT, hne, h1, h2, hz, q⟩
  cases rx
  obtain ⟨t, rfl⟩ := ry
  obtain ⟨its, r, ⟨⟨cls, dd, data, sl⟩, ho, hc, n, hd⟩, hs⟩ := I.tuple hT
  cases (show cls = .type "tuple" from hc)
  cases (show data = .seq its.toArray n from hd)
  have le : its.length = xs.length := r.length.symm
  have hn : its ≠ [] := fun e => hne (r.nil_iff.mp e)
  have e0 : its.toArray.isEmpty = false := by cases its <;> simp_all
  have e1 : ((its.toArray.size : Nat) : Int) * k ≤ 1000000 := by
    rw [List.size_toArray, le]
    have : ((xs.length : Nat) : Int) * k ≤ 1000 * k := Int.mul_le_mul_of_nonneg_right (by omega) (by omega)
    omega
  have e2 : k.toNat * xs.length ≤ 1000 * 1000 := Nat.mul_le_mul (by omega) hz
  have b0 : (decide (k < -(2 ^ 63)) || decide (k ≥ 2 ^ 63)) = false := by simp; omega
  have b1 : (its.toArray.isEmpty || k == 1) = false := by rw [e0]; simp; omega
  have b2 : (decide (k ≤ 0) || its.toArray.isEmpty) = false := by rw [e0]; simp; omega
  have b3 : Builtin.Tuple.tupleTooMany (((its.toArray.size : Nat) : Int) * k) = false := by
    unfold Builtin.Tuple.tupleTooMany
    rw [sizeLine_eq]
    exact decide_eq_false (by omega)
  have z1 : (List.replicate k.toNat its).flatten.length ≤ sizeLine := by
    rw [PyProof.Rows.lm_len_rep_flat, le, sizeLine_eq]
    omega
  have z2 : (List.replicate k.toNat xs).flatten.length ≤ sizeLine := by
    rw [PyProof.Rows.lm_len_rep_flat, sizeLine_eq]
    omega
  have tis : s.TypeIs (.ref l) "tuple" := ⟨_, ho, rfl⟩
  refine wpAny_binaryOp_repeat_ref (T := "tuple") (U := "int") (by decide) tis (fun s' => typeIs_int s' k t) noFill_tuple_mul F.fills_int_mul F.slot_int_rmul repeat_tuple F.slot_int_index.lookup
    (call_meets F.slot_int_rmul (typeIs_int s k t) F.entry_int_rmul (F.args_int_rmul_2 _ _) (int_rmul_tuple k t l its.toArray n dd sl)
      ⟨ho, rfl, tis, call_meets F.slot_tuple_mul tis F.entry_tuple_mul (F.args_tuple_mul_2 _ _) (tuple_mulW l its.toArray n dd sl k t b0 b1 b2 (by omega) b3 (by rw [size_rep, List.size_toArray]; exact z1)) ⟨ho, ?_⟩⟩)
  rw [size_rep]
  exact laidH I (r.rep k.toNat) z2 q
def rCatL (K : PySem.W.Frag) : R2 := fun x y H Q => ∃ l b xs zs, x = .ref l ∧ y = .ref b ∧ SqL K H l xs ∧ SqL K H b zs ∧ xs.length + zs.length ≤ sizeLine ∧ ∀ p, H p = none → Q (.ref p) (upd H p (.lst (xs ++ zs)))
theorem op_catL : OpR X (binaryOp .Add) (rCatL X.K) := by
  intro pins s σ H x y v u Q I rx ry h
  obtain ⟨l, b, xs, zs, rfl, rfl, hH, hB, hz, q⟩ := h
  cases rx
  cases ry
  obtain ⟨its, r, ⟨o, n, e, hc, hd, hq⟩, _⟩ := I.list hH
  obtain ⟨its2, r2, ⟨o2, n2, e2, hc2, hd2, hq2⟩, _⟩ := I.list hB
  have hl := r.length
  have hl2 := r2.length
  obtain ⟨cls, dd, data, sl⟩ := o
  obtain ⟨cls2, dd2, data2, sl2⟩ := o2
  simp only at hc hd hq hc2 hd2 hq2
  subst hc hd hq hc2 hd2 hq2
  refine concat_meets ⟨_, e, rfl⟩ ⟨_, e2, rfl⟩ noFill_list_add seq_list_add F.slot_list_add F.entry_list_add (F.args_list_add_2 _ _) (list_addW l b its.toArray its2.toArray n n2 none none sl sl2 (by rw [List.size_toArray, List.size_toArray]; omega)) ⟨e, e2, ?_⟩
  have ea : its.toArray ++ its2.toArray = (its ++ its2).toArray := by simp
  rw [ea]
  exact ⟨.ref _, _, I.lnew (t' := s.toks) (r.append r2) (by rw [List.length_append]; omega), rfl, q _ I.fresh⟩
end
theorem OpR.no {X : Cx} {f : Value → Value → Sem Value} : OpR X f (fun _ _ _ _ => False) := fun _ _ _ _ _ _ _ _ _ _ _ _ h => h.elim
theorem CallR.no {X : Cx} {f : Value} : CallR X f (fun _ _ _ => False) := fun _ _ _ _ _ _ _ _ _ h => h.elim
def sm (i : Int) : Prop := -(2 ^ 200) < i ∧ i < 2 ^ 200
instance (i : Int) : Decidable (sm i) := inferInstanceAs (Decidable (_ ∧ _))
theorem sm_lit {i : Int} (h1 : -(2 ^ 200) < i) (h2 : i < 2 ^ 200) : sm i := ⟨h1, h2⟩
theorem log2_le {i : Int} (h1 : -(2 ^ 200) < i) (h2 : i < 2 ^ 200) : i.natAbs.log2 < 200 := by
  by_cases hz : i.natAbs = 0
  · rw [hz]; decide
  · exact (Nat.log2_lt hz).mpr (by omega)
def addD : D → D → Option C
  | .int i, .int j => some (.sh (.int (i + j)))
  | .str a, .str b => if a.length + b.length ≤ sizeLine then some (.sh (.str (a ++ b))) else none
  | .list a, .list b => if a.length + b.length ≤ sizeLine then some (.ls (a ++ b)) else none
  | .tuple a, .tuple b => if a.length + b.length ≤ sizeLine then some (.sh (.tuple (a ++ b))) else none
  | _, _ => none
def subD : D → D → Option C
  | .int i, .int j => some (.sh (.int (i - j)))
  | _, _ => none
def mulD : D → D → Option C
  | .int i, .int j => if sm i ∧ sm j then some (.sh (.int (i * j))) else none
  | .list a, .int k => if -(2 ^ 63) ≤ k ∧ k < 2 ^ 63 ∧ a.length * k.toNat ≤ sizeLine then some (.ls (List.replicate k.toNat a).flatten) else none
  | .tuple a, .int k => if (0 < a.length ∧ 2 ≤ k ∧ k ≤ 1000 ∧ a.length ≤ 1000) ∨ (-(2 ^ 63) ≤ k ∧ k < 2 ^ 63 ∧ (a.length = 0 ∨ k ≤ 1)) then some (.sh (.tuple (List.replicate k.toNat a).flatten)) else none
  | _, _ => none
def fdivD : D → D → Option C
  | .int i, .int j => if 0 < j ∧ sm j then some (.sh (.int (i / j))) else none
  | _, _ => none
def modD : D → D → Option C
  | .int i, .int j => if 0 < j then some (.sh (.int (i % j))) else none
  | _, _ => none
def powD : D → D → Option C
  | .int i, .int j => if 0 ≤ j ∧ j ≤ 1000000 ∧ i.natAbs < 2 ^ 64 then some (.sh (.int (i ^ j.toNat))) else none
  | _, _ => none
def shlD : D → D → Option C
  | .int i, .int j => if 0 ≤ j ∧ j ≤ 1000000 ∧ i.natAbs < 2 ^ 64 then some (.sh (.int (i * 2 ^ j.toNat))) else none
  | _, _ => none
def shrD : D → D → Option C
  | .int i, .int j => if 0 ≤ j then some (.sh (.int (i / 2 ^ j.toNat))) else none
  | _, _ => none
def andD : D → D → Option C
  | .int i, .int j => some (.sh (.int (Builtin.bitAnd i j)))
  | _, _ => none
def orD : D → D → Option C
  | .int i, .int j => some (.sh (.int (Builtin.bitOr i j)))
  | _, _ => none
def binD : Operator → D → D → Option C
  | .Add => addD
  | .Sub => subD
  | .Mult => mulD
  | .FloorDiv => fdivD
  | .Mod => modD
  | .Pow => powD
  | .LShift => shlD
  | .RShift => shrD
  | .BitAnd => andD
  | .BitOr => orD
  | _ => fun _ _ => none
section
variable {X : Cx}
/-- an operator on whole numbers -/
theorem ints_ok {f : Value → Value → Sem Value} {C0 : Int → Int → Prop} {g : Int → Int → Int} (h : OpR X f (rI C0 fun i j => .int (g i j))) {t : D → D → Option C}
    (ht : ∀ d e c, t d e = some c → ∃ i j, d = .int i ∧ e = .int j ∧ C0 i j ∧ c = .sh (.int (g i j))) : ∃ r, OpR X f r ∧ Fn2 X.K t r := by
  refine ⟨_, h, fun F H x y d e c Q s h1 h2 he q => ?_⟩
  obtain ⟨i, j, rfl, rfl, hc, rfl⟩ := ht d e c he
  exact ⟨i, j, rb_int h1, rb_int h2, hc, g_int s q⟩
theorem ints_ok0 {f : Value → Value → Sem Value} {g : Int → Int → Int} (h : OpR X f (rI0 fun i j => .int (g i j))) {t : D → D → Option C}
    (ht : ∀ d e c, t d e = some c → ∃ i j, d = .int i ∧ e = .int j ∧ c = .sh (.int (g i j))) : ∃ r, OpR X f r ∧ Fn2 X.K t r := by
  refine ⟨_, h, fun F H x y d e c Q s h1 h2 he q => ?_⟩
  obtain ⟨i, j, rfl, rfl, rfl⟩ := ht d e c he
  exact ⟨i, j, rb_int h1, rb_int h2, g_int s q⟩
theorem add_ok : ∃ r, OpR X (binaryOp .Add) r ∧ Fn2 X.K addD r := by
  refine ⟨_, op_add.or (op_add_str.or (op_catL.or op_catH)), fun F H x y d e c Q s h1 h2 he q => ?_⟩
  unfold addD at he
  split at he
  · cases he
    exact .inl ⟨_, _, rb_int h1, rb_int h2, g_int s q⟩
  · split at he
    · cases he
      exact .inr (.inl ⟨_, _, rb_str h1, rb_str h2, by assumption, g_str s q⟩)
    · cases he
  · split at he
    · rename_i hl
      cases he
      obtain ⟨a, vs, rfl, g1, g2⟩ := rb_lst s h1
      obtain ⟨b, ws, rfl, k1, k2⟩ := rb_lst s h2
      refine .inr (.inr (.inl ⟨a, b, vs, ws, rfl, rfl, g1, k1, by rw [g2.length, k2.length]; exact hl, g_lst s (g2.append k2) q⟩))
    · cases he
  · split at he
    · rename_i hl
      cases he
      obtain ⟨a, vs, rfl, g0, g1, g2⟩ := rb_tup s h1
      obtain ⟨b, ws, rfl, k0, k1, k2⟩ := rb_tup s h2
      refine .inr (.inr (.inr ⟨a, b, vs, ws, rfl, rfl, g1, k1, by rw [g2.length, k2.length]; exact hl, fun e => ?_, fun _ e => ?_, fun _ _ => g_tup s (g2.append k2) q⟩))
      · subst e
        have hz := g2.length
        have e2 : _ = [] := List.eq_nil_of_length_eq_zero hz.symm
        rw [e2] at q
        exact gv s (d := .tuple _) ⟨b, ws, rfl, k0, k2⟩ q
      · subst e
        have hz := k2.length
        have e2 : _ = [] := List.eq_nil_of_length_eq_zero hz.symm
        rw [e2, List.append_nil] at q
        exact gv s (d := .tuple _) ⟨a, vs, rfl, g0, g2⟩ q
    · cases he
  · cases he
def rRepL (K : PySem.W.Frag) : R2 := fun x y H Q => ∃ l k xs, x = .ref l ∧ y = .int k ∧ SqL K H l xs ∧ -(2 ^ 63) ≤ k ∧ k < 2 ^ 63 ∧ xs.length * k.toNat ≤ sizeLine ∧ ∀ p, H p = none → Q (.ref p) (upd H p (.lst (List.replicate k.toNat xs).flatten))
theorem op_repL : OpR X (binaryOp .Mult) (rRepL X.K) := by
  intro pins s σ H x y v u Q I rx ry h
  obtain ⟨l, k, xs, rfl, rfl, hH, h1, h2, hz, q⟩ := h
  cases rx
  obtain ⟨t, rfl⟩ := ry
  obtain ⟨its, r, ⟨o, n, e, hc, hd, hq⟩, _⟩ := I.list hH
  have hl := r.length
  obtain ⟨cls, dd, data, sl⟩ := o
  simp only at hc hd hq
  subst hc hd hq
  have hlen : its.toArray.size * k.toNat ≤ sizeLine := by rw [List.size_toArray, ← hl]; exact hz
  have hcap : ¬ its.toArray.size * k.toNat > (2 ^ 63 - 1) / 8 := by
    have : (sizeLine : Nat) ≤ (2 ^ 63 - 1) / 8 := by decide
    omega
  have hfit : ¬ (!Builtin.List.listFitsIndex k) = true := by
    rw [fitsIndex_both h1 h2]
    exact Bool.false_ne_true
  have hlong : ¬ Builtin.List.listTooLong (its.toArray.size * k.toNat) = true := by
    rw [notLongL hlen]
    exact Bool.false_ne_true
  have hnew : List.foldl (fun x1 x2 => x1 ++ x2) #[] (List.replicate (if its.toArray.isEmpty = true then 0 else k.toNat) its.toArray) = (List.replicate k.toNat its).flatten.toArray := by
    have f0 : ∀ m : Nat, List.foldl (fun x1 x2 => x1 ++ x2) #[] (List.replicate m its.toArray) = (List.replicate m its).flatten.toArray := fun m => by
      have := foldl_rep its m []
      rw [List.nil_append] at this
      exact this
    rw [f0]
    cases its with
    | nil => simp
    | cons a r' => rw [if_neg (by simp)]
  refine wpAny_binaryOp_repeat_ref (T := "list") (U := "int") (by decide) ⟨_, e, rfl⟩ (fun s' => typeIs_int s' k t) noFill_list_mul F.fills_int_mul F.slot_int_rmul repeat_list F.slot_int_index.lookup
    (call_meets F.slot_int_rmul (typeIs_int s k t) F.entry_int_rmul (F.args_int_rmul_2 _ _) (int_rmulW k t l its.toArray n none sl)
      ⟨e, rfl, ⟨_, e, rfl⟩, call_meets F.slot_list_mul ⟨_, e, rfl⟩ F.entry_list_mul (F.args_list_mul_2 _ _) (list_mulW l its.toArray n k t none sl hfit hcap hlong) ⟨e, ?_⟩⟩)
  rw [hnew]
  exact ⟨.ref _, _, I.lnew (t' := s.toks) (r.rep k.toNat) (by rw [PyProof.Rows.lm_len_rep_flat, Nat.mul_comm]; exact hz), rfl, q _ I.fresh⟩
theorem int2 {t : D → D → Option C} (hno : ∀ d e, (∀ i j, d = .int i → e = .int j → False) → t d e = none) {P : Int → Int → C → Prop} (hi : ∀ i j c, t (.int i) (.int j) = some c → P i j c) : ∀ d e c, t d e = some c → ∃ i j, d = .int i ∧ e = .int j ∧ P i j c := by
  intro d e c h
  by_cases hd : ∃ i, d = .int i
  · obtain ⟨i, rfl⟩ := hd
    by_cases he : ∃ j, e = .int j
    · obtain ⟨j, rfl⟩ := he
      exact ⟨i, j, rfl, rfl, hi i j c h⟩
    · rw [hno _ _ fun i' j _ z => he ⟨j, z⟩] at h
      cases h
  · rw [hno _ _ fun i j z _ => hd ⟨i, z⟩] at h
    cases h
theorem tuple_mul1 (l : Addr) (items : Array Value) (n : Nat) (dd : Option Addr) (sl : Array (Option Value)) (x : Int) (u : Tok) (c0 : (decide (x < -(2 ^ 63)) || decide (x ≥ 2 ^ 63)) = false) (c1 : (items.isEmpty || x == 1) = true) :
    Meets (Builtin.«tuple.__mul__» ⟨[.ref l, .int x u], []⟩) (fun _ R s => s.heap.get? l = some { cls := .type "tuple", dict := dd, data := .seq items n, slots := sl } ∧ R (.ok (.ret (Value.ref l))) s) := .of_wp fun prog w A R ⟨hp, g, d, tk, os⟩ ⟨hl, h⟩ => by
  have f1 := AutoSeq1.idx_int; wp_walk using wpAny_loadPart' hl
  repeat (first | (refine wpAny_ite_false (decide_eq_false (by rw [c0]; decide)) ?_; wp_walk using wpAny_loadPart' hl) | (refine wpAny_ite_true (decide_eq_true c1) ?_; wp_walk using wpAny_loadPart' hl))
  exact ⟨_, rfl, h⟩
theorem tuple_mul0 (l : Addr) (items : Array Value) (n : Nat) (dd : Option Addr) (sl : Array (Option Value)) (x : Int) (u : Tok) (c0 : (decide (x < -(2 ^ 63)) || decide (x ≥ 2 ^ 63)) = false) (c1 : (items.isEmpty || x == 1) = false) (c2 : (decide (x ≤ 0) || items.isEmpty) = true) :
    Meets (Builtin.«tuple.__mul__» ⟨[.ref l, .int x u], []⟩) (fun _ R s => s.heap.get? l = some { cls := .type "tuple", dict := dd, data := .seq items n, slots := sl } ∧ R (.ok (.ret (Value.ref s.heap.objs.size))) { s with heap := s.heap.push { cls := Value.type "tuple", data := Data.seq #[] } }) := .of_wp fun prog w A R ⟨hp, g, d, tk, os⟩ ⟨hl, h⟩ => by
  have f1 := AutoSeq1.idx_int; wp_walk using wpAny_loadPart' hl
  repeat (first | (refine wpAny_ite_false (decide_eq_false (by rw [c0]; decide)) ?_; wp_walk using wpAny_loadPart' hl) | (refine wpAny_ite_false (decide_eq_false (by rw [c1]; decide)) ?_; wp_walk using wpAny_loadPart' hl) | (refine wpAny_ite_true (decide_eq_true c2) ?_; wp_walk using wpAny_loadPart' hl))
  exact ⟨_, rfl, h⟩
def rRepT1 (K : PySem.W.Frag) : R2 := fun x y H Q => ∃ l k xs, x = .ref l ∧ y = .int k ∧ SqT K H l xs ∧ -(2 ^ 63) ≤ k ∧ k < 2 ^ 63 ∧ ((xs = [] ∨ k = 1) ∧ Q (.ref l) H ∨ xs ≠ [] ∧ k ≤ 0 ∧ ∀ (p : Addr) (o : Obj), o.dict = none → H p = none → Q (.ref p) (upd H p (.frz o (.tup []))))
theorem op_repT1 {X : Cx} : OpR X (binaryOp .Mult) (rRepT1 X.K) := by
  rintro pins s σ H x y v u Q I rx ry ⟨l, k, xs, rfl, rfl, hT, k0, k1, q⟩
  cases rx
  obtain ⟨t, rfl⟩ := ry
  obtain ⟨its, r, ⟨⟨cls, dd, data, sl⟩, ho, hc, n, hd⟩, hs⟩ := I.tuple hT
  cases (show cls = .type "tuple" from hc)
  cases (show data = .seq its.toArray n from hd)
  have le : its.length = xs.length := r.length.symm
  have b0 : (decide (k < -(2 ^ 63)) || decide (k ≥ 2 ^ 63)) = false := by simp; omega
  have tis : s.TypeIs (.ref l) "tuple" := ⟨_, ho, rfl⟩
  have road := fun (Q0 : Value → Shared → Prop) (E : Value → Shared → Prop) (m : wpAny (model X.prog X.w) X.A (call (.builtin "tuple.__mul__") [.ref l, .int k t]) Q0 E s) => wpAny_binaryOp_repeat_ref (T := "tuple") (U := "int") (by decide) tis (fun s' => typeIs_int s' k t) noFill_tuple_mul F.fills_int_mul F.slot_int_rmul repeat_tuple F.slot_int_index.lookup
    (call_meets F.slot_int_rmul (typeIs_int s k t) F.entry_int_rmul (F.args_int_rmul_2 _ _) (int_rmul_tuple k t l its.toArray n dd sl) ⟨ho, rfl, tis, m⟩)
  rcases q with ⟨hx, q⟩ | ⟨hx, hk, q⟩
  · have c1 : (its.toArray.isEmpty || k == 1) = true := by
      rcases hx with rfl | rfl
      · have : its = [] := List.eq_nil_of_length_eq_zero (by simpa using le)
        subst this
        rfl
      · simp
    exact road _ _ (call_meets F.slot_tuple_mul tis F.entry_tuple_mul (F.args_tuple_mul_2 _ _) (tuple_mul1 l its.toArray n dd sl k t b0 c1) ⟨ho, .ref l, H, I, rfl, q⟩)
  · have ne : its ≠ [] := by
      rintro rfl
      exact hx (List.eq_nil_of_length_eq_zero (by simpa using le.symm))
    have c1 : (its.toArray.isEmpty || k == 1) = false := by
      cases its with
      | nil => exact absurd rfl ne
      | cons a as => simp; omega
    have c2 : (decide (k ≤ 0) || its.toArray.isEmpty) = true := by simp [hk]
    refine road _ _ (call_meets F.slot_tuple_mul tis F.entry_tuple_mul (F.args_tuple_mul_2 _ _) (tuple_mul0 l its.toArray n dd sl k t b0 c1 c2) ⟨ho, laidH (us := []) I .nil (by simp) q⟩)
theorem mul_ok : ∃ r, OpR X (binaryOp .Mult) r ∧ Fn2 X.K mulD r := by
  refine ⟨_, op_mulW.or (op_repL.or (op_repH.or op_repT1)), fun F H x y d e c Q s h1 h2 he q => ?_⟩
  unfold mulD at he
  split at he
  · split at he
    · cases he
      rename_i hb
      exact .inl ⟨_, _, rb_int h1, rb_int h2, by have a := log2_le hb.1.1 hb.1.2; have b := log2_le hb.2.1 hb.2.2; show _ < _; omega, g_int s q⟩
    · cases he
  · split at he
    · rename_i hk
      cases he
      obtain ⟨a, vs, rfl, g1, g2⟩ := rb_lst s h1
      exact .inr (.inl ⟨a, _, vs, rfl, rb_int h2, g1, hk.1, hk.2.1, by rw [g2.length]; exact hk.2.2, g_lst s (Reps.replicate g2 _) q⟩)
    · cases he
  · split at he
    · rename_i hk
      cases he
      obtain ⟨a, vs, rfl, gF, g1, g2⟩ := rb_tup s h1
      have le := g2.length
      rcases hk with hk | ⟨k0, k1, hk⟩
      · refine .inr (.inr (.inl ⟨a, _, vs, rfl, rb_int h2, g1, ?_, hk.2.1, hk.2.2.1, by rw [le]; exact hk.2.2.2, g_tup s (Reps.replicate g2 _) q⟩))
        rintro rfl
        have := hk.1
        simp at le
        omega
      · refine .inr (.inr (.inr ⟨a, _, vs, rfl, rb_int h2, g1, k0, k1, ?_⟩))
        rename_i as z
        by_cases e : vs = [] ∨ z = 1
        · refine .inl ⟨e, ?_⟩
          have e2 : (List.replicate z.toNat as).flatten = as := by
            rcases e with rfl | rfl
            · have : as = [] := List.eq_nil_of_length_eq_zero (by simpa using le.symm)
              subst this
              simp
            · simp
          rw [e2] at q
          exact gv (d := .tuple as) s (show Rep X.K F (.ref a) (.tuple as) from ⟨a, vs, rfl, gF, g2⟩) q
        · simp only [not_or] at e
          have hz : z ≤ 0 := by
            rcases hk with hk | hk
            · exact absurd (List.eq_nil_of_length_eq_zero (by omega)) e.1
            · have := e.2
              omega
          have e2 : (List.replicate z.toNat as).flatten = [] := by
            have : z.toNat = 0 := by omega
            rw [this]
            simp
          rw [e2] at q
          exact .inr ⟨e.1, hz, g_tup (vs := []) (ds := []) s (by simp [Reps]) q⟩
    · cases he
  · cases he
theorem bin_ok (op : Operator) : ∃ r, OpR X (binaryOp op) r ∧ Fn2 X.K (binD op) r := by
  have no : ∀ op', binD op' = (fun _ _ => none) → ∃ r, OpR X (binaryOp op') r ∧ Fn2 X.K (binD op') r := fun op' h => ⟨_, OpR.no, fun F H x y d e c Q s _ _ he _ => by rw [h] at he; cases he⟩
  cases op with
  | Add => exact add_ok
  | Sub => exact ints_ok0 op_sub (int2 (fun d e h => by cases d <;> cases e <;> first | rfl | exact (h _ _ rfl rfl).elim) fun i j c h => by cases h; rfl)
  | Mult => exact mul_ok
  | FloorDiv => exact ints_ok op_fdivW (int2 (fun d e h => by cases d <;> cases e <;> first | rfl | exact (h _ _ rfl rfl).elim) fun i j c h => by
      simp only [binD, fdivD] at h
      split at h
      · rename_i hb
        cases h
        exact ⟨⟨hb.1, by have := log2_le hb.2.1 hb.2.2; omega⟩, rfl⟩
      · cases h)
  | Mod => exact ints_ok op_mod (int2 (fun d e h => by cases d <;> cases e <;> first | rfl | exact (h _ _ rfl rfl).elim) fun i j c h => by
      simp only [binD, modD] at h
      split at h
      · cases h; exact ⟨by assumption, rfl⟩
      · cases h)
  | Pow => exact ints_ok op_pow (int2 (fun d e h => by cases d <;> cases e <;> first | rfl | exact (h _ _ rfl rfl).elim) fun i j c h => by
      simp only [binD, powD] at h
      split at h
      · cases h; exact ⟨by assumption, rfl⟩
      · cases h)
  | LShift => exact ints_ok op_shl (int2 (fun d e h => by cases d <;> cases e <;> first | rfl | exact (h _ _ rfl rfl).elim) fun i j c h => by
      simp only [binD, shlD] at h
      split at h
      · cases h; exact ⟨by assumption, rfl⟩
      · cases h)
  | RShift => exact ints_ok op_shr (int2 (fun d e h => by cases d <;> cases e <;> first | rfl | exact (h _ _ rfl rfl).elim) fun i j c h => by
      simp only [binD, shrD] at h
      split at h
      · cases h; exact ⟨by assumption, rfl⟩
      · cases h)
  | BitAnd => exact ints_ok0 op_and (int2 (fun d e h => by cases d <;> cases e <;> first | rfl | exact (h _ _ rfl rfl).elim) fun i j c h => by cases h; rfl)
  | BitOr => exact ints_ok0 op_or (int2 (fun d e h => by cases d <;> cases e <;> first | rfl | exact (h _ _ rfl rfl).elim) fun i j c h => by cases h; rfl)
  | BitXor => exact no _ rfl
  | Div => exact no _ rfl
  | MatMult => exact no _ rfl
end
end L2.M
namespace L2.M
open PySem PySem.Spec PyProof.Rows
def scD : D → D → Bool
  | .none, .none => true
  | .none, .int _ => true
  | .none, .bool _ => true
  | .none, .str _ => true
  | .int _, .none => true
  | .int _, .int _ => true
  | .int _, .str _ => true
  | .bool _, .none => true
  | .bool _, .bool _ => true
  | .bool _, .str _ => true
  | .str _, .none => true
  | .str _, .int _ => true
  | .str _, .bool _ => true
  | .str _, .str _ => true
  | _, _ => false
/-- two tuples, one of them empty -/
def emD : D → D → Bool
  | .tuple ds, .tuple es => ds.isEmpty || es.isEmpty
  | _, _ => false
def eqD : D → D → Option C := fun d e => if scD d e || emD d e || (SeqAt.shaped d && SeqAt.shaped e) then some (.sh (.bool (PyData.eqv d e))) else none
def neD : D → D → Option C := fun d e => if scD d e || (SeqAt.shaped d && SeqAt.shaped e) then some (.sh (.bool (!PyData.eqv d e))) else none
def ltD : D → D → Option C
  | .int i, .int j => some (.sh (.bool (decide (i < j))))
  | .str i, .str j => some (.sh (.bool (decide (i.cps.toList < j.cps.toList))))
  | _, _ => none
def leD : D → D → Option C
  | .int i, .int j => some (.sh (.bool (decide (i ≤ j))))
  | _, _ => none
def gtD : D → D → Option C
  | .int i, .int j => some (.sh (.bool (decide (j < i))))
  | _, _ => none
def geD : D → D → Option C
  | .int i, .int j => some (.sh (.bool (decide (j ≤ i))))
  | _, _ => none
def isNon : D → Bool
  | .none => true
  | _ => false
def isD : D → D → Option C
  | d, .none => some (.sh (.bool (isNon d)))
  | .bool a, .bool b => some (.sh (.bool (decide (a = b))))
  | _, _ => none
def isnD : D → D → Option C
  | d, .none => some (.sh (.bool (!isNon d)))
  | .bool a, .bool b => some (.sh (.bool (!decide (a = b))))
  | _, _ => none
def inD : D → D → Option C := fun d e => match e with
  | .list ds => if SeqAt.shaped d && SeqAt.shaped (.list ds) then some (.sh (.bool (ds.any fun z => PyData.eqv z d))) else none
  | .tuple ds => if SeqAt.shaped d && SeqAt.shaped (.tuple ds) then some (.sh (.bool (ds.any fun z => PyData.eqv z d))) else none
  | _ => none
def ninD : D → D → Option C := fun d e => match e with
  | .list ds => if SeqAt.shaped d && SeqAt.shaped (.list ds) then some (.sh (.bool (!ds.any fun z => PyData.eqv z d))) else none
  | .tuple ds => if SeqAt.shaped d && SeqAt.shaped (.tuple ds) then some (.sh (.bool (!ds.any fun z => PyData.eqv z d))) else none
  | _ => none
def cmpD : CmpOp → D → D → Option C
  | .Eq => eqD
  | .NotEq => neD
  | .Lt => ltD
  | .LtE => leD
  | .Gt => gtD
  | .GtE => geD
  | .Is => isD
  | .IsNot => isnD
  | .In => inD
  | .NotIn => ninD
section
variable {X : Cx}
theorem isNon_ok {K : PySem.W.Frag} {F H : Hp} {x : V} {d : D} (h : RepB K F H x d) : decide (x = .non) = isNon d := by
  cases d with
  | none => rw [rb_non h]; rfl
  | bool b => rw [rb_bool h]; rfl
  | int b => rw [rb_int h]; rfl
  | str b => rw [rb_str h]; rfl
  | list b =>
    rcases h with ⟨a, vs, rfl, _⟩ | ⟨a, ws, es, rfl, _⟩ <;> rfl
  | tuple b =>
    rcases h with ⟨a, vs, rfl, _⟩ | ⟨a, ws, es, rfl, _⟩ <;> rfl
  | dict b =>
    rcases h with ⟨a, vs, rfl, _⟩ | ⟨a, ws, es, rfl, _⟩ <;> rfl
theorem sc_ok {K : PySem.W.Frag} {F H : Hp} {x y : V} {d e : D} (h1 : RepB K F H x d) (h2 : RepB K F H y e) (h : scD d e = true) : scal x y = true ∧ decide (x = y) = PyData.eqv d e := by
  have sb : ∀ {x : V} {d : D}, RepB K F H x d → (d = .none → x = .non) ∧ (∀ i, d = .int i → x = .int i) ∧ (∀ i, d = .bool i → x = .bl i) ∧ ∀ i, d = .str i → x = .str i := fun {x d} h =>
    ⟨fun e => rb_non (e ▸ h), fun i e => rb_int (e ▸ h), fun i e => rb_bool (e ▸ h), fun i e => rb_str (e ▸ h)⟩
  obtain ⟨a1, a2, a3, a4⟩ := sb h1
  obtain ⟨b1, b2, b3, b4⟩ := sb h2
  cases d <;> cases e <;> (try cases h) <;> first
    | (rw [a1 rfl, b1 rfl]; exact ⟨rfl, rfl⟩)
    | (rw [a1 rfl, b2 _ rfl]; exact ⟨rfl, rfl⟩)
    | (rw [a1 rfl, b3 _ rfl]; exact ⟨rfl, rfl⟩)
    | (rw [a1 rfl, b4 _ rfl]; exact ⟨rfl, rfl⟩)
    | (rw [a2 _ rfl, b1 rfl]; exact ⟨rfl, rfl⟩)
    | (rw [a2 _ rfl, b2 _ rfl]; exact ⟨rfl, by simp only [PyData.eqv]; exact dec_int⟩)
    | (rw [a2 _ rfl, b4 _ rfl]; exact ⟨rfl, rfl⟩)
    | (rw [a3 _ rfl, b1 rfl]; exact ⟨rfl, rfl⟩)
    | (rw [a3 _ rfl, b3 _ rfl]; exact ⟨rfl, by simp only [PyData.eqv]; exact dec_bl⟩)
    | (rw [a3 _ rfl, b4 _ rfl]; exact ⟨rfl, rfl⟩)
    | (rw [a4 _ rfl, b1 rfl]; exact ⟨rfl, rfl⟩)
    | (rw [a4 _ rfl, b2 _ rfl]; exact ⟨rfl, rfl⟩)
    | (rw [a4 _ rfl, b3 _ rfl]; exact ⟨rfl, rfl⟩)
    | (rw [a4 _ rfl, b4 _ rfl]; exact ⟨rfl, by simp only [PyData.eqv]; exact dec_str⟩)
def rEqE (K : PySem.W.Frag) : R2 := fun x y H Q => ∃ l b xs ys, x = .ref l ∧ y = .ref b ∧ SqT K H l xs ∧ SqT K H b ys ∧ (xs = [] ∨ ys = []) ∧ Q (.bl (xs.isEmpty && ys.isEmpty)) H
theorem op_eqE (hu : X.A.units + 64 < cLine) : OpR X (compareOp .Eq) (rEqE X.K) := by
  rintro pins s σ H x y v u Q I rx ry ⟨l, b, xs, ys, rfl, rfl, h1, h2, he, q⟩
  cases rx
  cases ry
  obtain ⟨is, r1, p1, _⟩ := I.tuple h1
  obtain ⟨js, r2, p2, _⟩ := I.tuple h2
  have l1 := r1.length
  have l2 := r2.length
  refine PySem.W.eq_tuplesT (n := 0) (e := fun _ => true) p1 p2 (fun j a c => ?_) (by omega) ⟨.bl (xs.isEmpty && ys.isEmpty), H, I, ?_, q⟩
  · exfalso
    simp at a c
    rcases he with rfl | rfl
    · simp at l1; omega
    · simp at l2; omega
  · have : ((List.range (min is.toArray.size js.toArray.size)).all (fun _ => true) && is.toArray.size == js.toArray.size) = (xs.isEmpty && ys.isEmpty) := by
      rcases he with rfl | rfl
      · have : is = [] := List.eq_nil_of_length_eq_zero (by simpa using l1.symm)
        subst this
        cases ys with
        | nil =>
          have : js = [] := List.eq_nil_of_length_eq_zero (by simpa using l2.symm)
          subst this
          rfl
        | cons y ys =>
          cases js with
          | nil => simp at l2
          | cons z zs => simp
      · have : js = [] := List.eq_nil_of_length_eq_zero (by simpa using l2.symm)
        subst this
        cases xs with
        | nil =>
          have : is = [] := List.eq_nil_of_length_eq_zero (by simpa using l1.symm)
          subst this
          rfl
        | cons y ys =>
          cases is with
          | nil => simp at l1
          | cons z zs => simp
    rw [this]
    exact rfl
theorem em_ok {K : PySem.W.Frag} {F H : Hp} {x y : V} {d e : D} (s : Same F H) (h1 : RepB K F H x d) (h2 : RepB K F H y e) (h : emD d e = true) : ∃ l b xs ys, x = .ref l ∧ y = .ref b ∧ SqT K H l xs ∧ SqT K H b ys ∧ (xs = [] ∨ ys = []) ∧ (xs.isEmpty && ys.isEmpty) = PyData.eqv d e := by
  have main : ∀ ds es : List D, d = .tuple ds → e = .tuple es → (ds = [] ∨ es = []) → ∃ l b xs ys, x = .ref l ∧ y = .ref b ∧ SqT K H l xs ∧ SqT K H b ys ∧ (xs = [] ∨ ys = []) ∧ (xs.isEmpty && ys.isEmpty) = PyData.eqv d e := by
    rintro ds es rfl rfl hh
    obtain ⟨a, vs, rfl, _, g1, r1⟩ := rb_tup s h1
    obtain ⟨b, ws, rfl, _, g2, r2⟩ := rb_tup s h2
    have l1 := r1.length
    have l2 := r2.length
    refine ⟨a, b, vs, ws, rfl, rfl, g1, g2, ?_, ?_⟩
    · rcases hh with rfl | rfl
      · exact .inl (List.eq_nil_of_length_eq_zero (by simpa using l1))
      · exact .inr (List.eq_nil_of_length_eq_zero (by simpa using l2))
    · have e1 : vs.isEmpty = ds.isEmpty := by cases vs <;> cases ds <;> simp_all
      have e2 : ws.isEmpty = es.isEmpty := by cases ws <;> cases es <;> simp_all
      rw [e1, e2]
      simp only [PyData.eqv]
      rcases hh with rfl | rfl
      · cases es <;> simp [PyData.eqvAll]
      · cases ds <;> simp [PyData.eqvAll]
  match d, e, h with
  | .tuple ds, .tuple es, h => exact main _ _ rfl rfl (by simpa [emD] using h)
theorem eq_ok (hu : X.A.units + 64 < cLine) : ∃ r, OpR X (compareOp .Eq) r ∧ Fn2 X.K eqD r := by
  refine ⟨_, (op_eqD hu).or ((op_eqE hu).or op_eq), fun F H x y d e c Q s h1 h2 he q => ?_⟩
  unfold eqD at he
  split at he
  · rename_i h
    simp only [Bool.or_eq_true, Bool.and_eq_true] at h
    cases he
    rcases h with (h | h) | h
    · obtain ⟨k1, k2⟩ := sc_ok h1 h2 h
      refine .inr (.inr ⟨k1, ?_⟩)
      rw [k2]
      exact g_bool s q
    · obtain ⟨l, b, xs, ys, rfl, rfl, g1, g2, g3, g4⟩ := em_ok s h1 h2 h
      refine .inr (.inl ⟨l, b, xs, ys, rfl, rfl, g1, g2, g3, ?_⟩)
      rw [g4]
      exact g_bool s q
    · exact .inl ⟨d, e, rb_dp s h1 (SeqAt.canLay_of_shaped h.1), rb_dp s h2 (SeqAt.canLay_of_shaped h.2), h.1, h.2, g_bool s q⟩
  · cases he
theorem ne_ok (hu : X.A.units + 64 < cLine) : ∃ r, OpR X (compareOp .NotEq) r ∧ Fn2 X.K neD r := by
  refine ⟨_, (op_neD hu).or op_ne, fun F H x y d e c Q s h1 h2 he q => ?_⟩
  unfold neD at he
  split at he
  · rename_i h
    simp only [Bool.or_eq_true, Bool.and_eq_true] at h
    cases he
    rcases h with h | h
    · obtain ⟨k1, k2⟩ := sc_ok h1 h2 h
      refine .inr ⟨k1, ?_⟩
      rw [k2]
      exact g_bool s q
    · exact .inl ⟨d, e, rb_dp s h1 (SeqAt.canLay_of_shaped h.1), rb_dp s h2 (SeqAt.canLay_of_shaped h.2), h.1, h.2, g_bool s q⟩
  · cases he
theorem lt_ok : ∃ r, OpR X (compareOp .Lt) r ∧ Fn2 X.K ltD r := by
  refine ⟨_, op_lt.or op_lt_str, fun F H x y d e c Q s h1 h2 he q => ?_⟩
  unfold ltD at he
  split at he
  · cases he; exact .inl ⟨_, _, rb_int h1, rb_int h2, g_bool s q⟩
  · cases he; exact .inr ⟨_, _, rb_str h1, rb_str h2, g_bool s q⟩
  · cases he
theorem is_ok : ∃ r, OpR X (compareOp .Is) r ∧ Fn2 X.K isD r := by
  refine ⟨_, op_isN.or op_isBl, fun F H x y d e c Q s h1 h2 he q => ?_⟩
  unfold isD at he
  split at he
  · cases he
    refine .inl ⟨rb_non h2, ?_⟩
    rw [isNon_ok h1]
    exact g_bool s q
  · cases he
    exact .inr ⟨_, _, rb_bool h1, rb_bool h2, g_bool s q⟩
  · cases he
theorem isn_ok : ∃ r, OpR X (compareOp .IsNot) r ∧ Fn2 X.K isnD r := by
  refine ⟨_, op_notN.or op_notBl, fun F H x y d e c Q s h1 h2 he q => ?_⟩
  unfold isnD at he
  split at he
  · cases he
    refine .inl ⟨rb_non h2, ?_⟩
    rw [isNon_ok h1]
    exact g_bool s q
  · cases he
    exact .inr ⟨_, _, rb_bool h1, rb_bool h2, g_bool s q⟩
  · cases he
def rAnyIn (K : PySem.W.Frag) : R2 := fun x y H Q => ∃ d ds, Dp K H x d ∧ (Dp K H y (.list ds) ∨ Dp K H y (.tuple ds)) ∧ SeqAt.shaped d = true ∧ (SeqAt.shaped (.list ds) = true ∨ SeqAt.shaped (.tuple ds) = true) ∧ Q (.bl (ds.any fun z => PyData.eqv z d)) H
theorem op_anyIn (hu : X.A.units + 65 < cLine) : OpR X (compareOp .In) (rAnyIn X.K) := by
  intro pins s σ H x y v u Q I rx ry h
  obtain ⟨d, ds, hd, he, sd, se, q⟩ := h
  obtain ⟨as, r1⟩ := Dp.reads I d x v hd rx
  have sa : PyData.canLayAll0 ds = true := se.elim (fun h => SeqAt.canLay_of_shaped h) (fun h => SeqAt.canLay_of_shaped h)
  rcases he with he | he
  · obtain ⟨bs, r2⟩ := Dp.reads I (.list ds) y u he ry
    exact SeqAt.in_list_reads r2 r1 sa (SeqAt.canLay_of_shaped sd) (room_in_shaped sd hu) ⟨.bl _, H, I, rfl, q⟩
  · obtain ⟨bs, r2⟩ := Dp.reads I (.tuple ds) y u he ry
    exact SeqAt.in_tuple_reads r2 r1 sa (SeqAt.canLay_of_shaped sd) (room_in_shaped sd hu) ⟨.bl _, H, I, rfl, q⟩
theorem in_ok (hu : X.A.units + 65 < cLine) : ∃ r, OpR X (compareOp .In) r ∧ Fn2 X.K inD r := by
  refine ⟨_, op_anyIn hu, fun F H x y d e c Q s h1 h2 he q => ?_⟩
  unfold inD at he
  split at he
  · split at he
    · rename_i h
      simp only [Bool.and_eq_true] at h
      cases he
      exact ⟨d, _, rb_dp s h1 (SeqAt.canLay_of_shaped h.1), .inl (rb_dp s h2 (SeqAt.canLay_of_shaped h.2)), h.1, .inl h.2, g_bool s q⟩
    · cases he
  · split at he
    · rename_i h
      simp only [Bool.and_eq_true] at h
      cases he
      exact ⟨d, _, rb_dp s h1 (SeqAt.canLay_of_shaped h.1), .inr (rb_dp s h2 (SeqAt.canLay_of_shaped h.2)), h.1, .inr h.2, g_bool s q⟩
    · cases he
  · cases he
def rAnyNotIn (K : PySem.W.Frag) : R2 := fun x y H Q => ∃ d ds, Dp K H x d ∧ (Dp K H y (.list ds) ∨ Dp K H y (.tuple ds)) ∧ SeqAt.shaped d = true ∧ (SeqAt.shaped (.list ds) = true ∨ SeqAt.shaped (.tuple ds) = true) ∧ Q (.bl (!ds.any fun z => PyData.eqv z d)) H
theorem op_anyNotIn (hu : X.A.units + 65 < cLine) : OpR X (compareOp .NotIn) (rAnyNotIn X.K) := by
  intro pins s σ H x y v u Q I rx ry h
  obtain ⟨d, ds, hd, he, sd, se, q⟩ := h
  obtain ⟨as, r1⟩ := Dp.reads I d x v hd rx
  have sa : PyData.canLayAll0 ds = true := se.elim (fun h => SeqAt.canLay_of_shaped h) (fun h => SeqAt.canLay_of_shaped h)
  rcases he with he | he
  · obtain ⟨bs, r2⟩ := Dp.reads I (.list ds) y u he ry
    exact SeqAt.notIn_list_reads r2 r1 sa (SeqAt.canLay_of_shaped sd) (room_in_shaped sd hu) ⟨.bl _, H, I, rfl, q⟩
  · obtain ⟨bs, r2⟩ := Dp.reads I (.tuple ds) y u he ry
    exact SeqAt.notIn_tuple_reads r2 r1 sa (SeqAt.canLay_of_shaped sd) (room_in_shaped sd hu) ⟨.bl _, H, I, rfl, q⟩
theorem nin_ok (hu : X.A.units + 65 < cLine) : ∃ r, OpR X (compareOp .NotIn) r ∧ Fn2 X.K ninD r := by
  refine ⟨_, op_anyNotIn hu, fun F H x y d e c Q s h1 h2 he q => ?_⟩
  unfold ninD at he
  split at he
  · split at he
    · rename_i h
      simp only [Bool.and_eq_true] at h
      cases he
      exact ⟨d, _, rb_dp s h1 (SeqAt.canLay_of_shaped h.1), .inl (rb_dp s h2 (SeqAt.canLay_of_shaped h.2)), h.1, .inl h.2, g_bool s q⟩
    · cases he
  · split at he
    · rename_i h
      simp only [Bool.and_eq_true] at h
      cases he
      exact ⟨d, _, rb_dp s h1 (SeqAt.canLay_of_shaped h.1), .inr (rb_dp s h2 (SeqAt.canLay_of_shaped h.2)), h.1, .inr h.2, g_bool s q⟩
    · cases he
  · cases he
theorem bools_ok {f : Value → Value → Sem Value} {g : Int → Int → Bool} (h : OpR X f (rI0 fun i j => .bl (g i j))) {t : D → D → Option C}
    (ht : ∀ d e c, t d e = some c → ∃ i j, d = .int i ∧ e = .int j ∧ c = .sh (.bool (g i j))) : ∃ r, OpR X f r ∧ Fn2 X.K t r := by
  refine ⟨_, h, fun F H x y d e c Q s h1 h2 he q => ?_⟩
  obtain ⟨i, j, rfl, rfl, rfl⟩ := ht d e c he
  exact ⟨i, j, rb_int h1, rb_int h2, g_bool s q⟩
theorem cmp_ok (hu : X.A.units + 65 < cLine) (op : CmpOp) : ∃ r, OpR X (compareOp op) r ∧ Fn2 X.K (cmpD op) r := by
  have hu' : X.A.units + 64 < cLine := by omega
  cases op with
  | Eq => exact eq_ok hu'
  | NotEq => exact ne_ok hu'
  | Lt => exact lt_ok
  | LtE => exact bools_ok op_le (int2 (fun d e h => by cases d <;> cases e <;> first | rfl | exact (h _ _ rfl rfl).elim) fun i j c h => by cases h; rfl)
  | Gt => exact bools_ok op_gt (int2 (fun d e h => by cases d <;> cases e <;> first | rfl | exact (h _ _ rfl rfl).elim) fun i j c h => by cases h; rfl)
  | GtE => exact bools_ok op_ge (int2 (fun d e h => by cases d <;> cases e <;> first | rfl | exact (h _ _ rfl rfl).elim) fun i j c h => by cases h; rfl)
  | Is => exact is_ok
  | IsNot => exact isn_ok
  | In => exact in_ok hu
  | NotIn => exact nin_ok hu
def negD : D → Option C
  | .int i => some (.sh (.int (-i)))
  | _ => none
theorem neg_ok : ∃ r, UnR X (unaryOp .USub) r ∧ Fn1 X.K negD r := by
  refine ⟨_, un_neg, fun F H x d c Q s h1 he q => ?_⟩
  unfold negD at he
  split at he
  · cases he; exact ⟨_, rb_int h1, g_int s q⟩
  · cases he
def ixD : D → D → Option C
  | .list ds, .int i => (atI ds i).map .sh
  | .tuple ds, .int i => (atI ds i).map .sh
  | .str z, .int i => if z.length ≤ sizeLine then (atI z.cps.toList i).map fun c => .sh (.str ⟨#[c]⟩) else none
  | _, _ => none
theorem Reps.atI {K : PySem.W.Frag} {F : Hp} {vs : List V} {ds : List D} {i : Int} {d : D} (h : Reps K F vs ds) (e : L2.atI ds i = some d) : ∃ v, L2.atI vs i = some v ∧ Rep K F v d := by
  unfold L2.atI at e ⊢
  rw [h.length]
  cases e1 : ixN ds.length i with
  | none => rw [e1] at e; cases e
  | some j =>
    rw [e1] at e
    exact h.get e
theorem ix_ok : ∃ r, IxR X r ∧ Fn2 X.K ixD r := by
  refine ⟨_, ix_seq, fun F H x y d e c Q s h1 h2 he q => ?_⟩
  unfold ixD at he
  split at he
  · simp only [Option.map_eq_some_iff] at he
    obtain ⟨d, hd, rfl⟩ := he
    obtain ⟨a, vs, rfl, g1, g2⟩ := rb_lst s h1
    rename_i ds i
    have hg : ∃ v, L2.atI vs i = some v ∧ Q v H := by
      obtain ⟨v, e1, e2⟩ := g2.atI hd
      exact ⟨v, e1, gv s e2 q⟩
    obtain ⟨v, e1, e2⟩ := hg
    exact .inl ⟨a, vs, _, v, rfl, rb_int h2, g1, e1, e2⟩
  · simp only [Option.map_eq_some_iff] at he
    obtain ⟨d, hd, rfl⟩ := he
    obtain ⟨a, vs, rfl, g0, g1, g2⟩ := rb_tup s h1
    obtain ⟨v, e1, e2⟩ := g2.atI hd
    exact .inr (.inl ⟨a, vs, _, v, rfl, rb_int h2, g1, e1, gv s e2 q⟩)
  · split at he
    · simp only [Option.map_eq_some_iff] at he
      obtain ⟨d, hd, rfl⟩ := he
      exact .inr (.inr ⟨_, _, _, rb_str h1, rb_int h2, by assumption, hd, g_str s q⟩)
    · cases he
  · cases he
def cutL {α : Type} (xs : List α) (lo hi : Option Int) : List α := (xs.drop (HT.sIx xs.length 0 lo)).take (HT.sIx xs.length xs.length hi - HT.sIx xs.length 0 lo)
def slD : D → Option Int → Option Int → Option C
  | .list ds, lo, hi => some (.ls (cutL ds lo hi))
  | .tuple ds, lo, hi => some (.sh (.tuple (cutL ds lo hi)))
  | .str z, lo, hi => if z.length ≤ sizeLine then some (.sh (.str (cutS z lo hi))) else none
  | _, _, _ => none
abbrev PM := Cs → Option (Option Int × Cs)
def mNoP : PM := fun ε => some (none, ε)
def mPt (m : OM) : PM := fun ε => do
  let (o, ε1) ← m ε
  let d ← bor ε1 o
  match d with
    | .int i => some (some i, ε1)
    | _ => none
def tP (K : Ek) (m : PM) : TO := fun σ H Q => ∃ F R ε o ε', Sep K F R H σ ε [] ∧ m ε = some (o, ε') ∧ ∀ F' H', Same F F' → Sep K F' R H' σ ε' [] → Q o H'
theorem _root_.L2.PO.weak {e : Option Expr} {t t' : TO} (h : PO X e t) (w : ∀ σ H Q, t' σ H Q → t σ H Q) : PO X e t' := ⟨fun pins s σ H Q I q => h.run pins s σ H Q I (w σ H Q q)⟩
theorem mp_none : PO X none (tP X.E mNoP) := po_none.weak fun σ H Q h => by
  obtain ⟨F, R, ε, o, ε', ok, e, q⟩ := h
  cases e
  exact q F H (Same.refl F) ok
theorem mp_some {e : Expr} {m : OM} (h : PE X e (tO X.E m)) : PO X (some e) (tP X.E (mPt m)) := (po_some h).weak fun σ H Q h => by
  obtain ⟨F, R, ε, o, ε', ok, e, q⟩ := h
  unfold mPt at e
  cases e1 : m ε with
  | none => simp [e1] at e
  | some p =>
    obtain ⟨o1, ε1⟩ := p
    cases e2 : bor ε1 o1 with
    | none => simp [e1, e2] at e
    | some d =>
      simp only [e1, e2, Option.bind_eq_bind, Option.bind_some] at e
      split at e
      · rename_i i
        cases e
        refine ⟨F, R, ε, o1, _, ok, e1, fun v F1 H1 fm1 v1 s1 => ?_⟩
        have hb : bors ε' [o1] = some [.int i] := by simp [bors, e2]
        rw [← List.append_nil (tmO [o1] [v])] at s1
        obtain ⟨x, ex, rx⟩ := (bors_ok s1 v1 hb).one
        cases ex
        exact ⟨i, rb_int rx, q F1 H1 fm1 (s1.drops _)⟩
      · cases e
/-- the value is looked at behind the parts: it must be frozen, or a list of its own -/
def mSl (m : OM) (lo hi : PM) : EM := fun ε => do
  let (o, ε1) ← m ε
  let (l, ε2) ← lo ε1
  let (h, ε3) ← hi ε2
  let d ← bor ε3 o
  let c ← slD d l h
  some (c, ε3)
theorem Reps.cut {K : PySem.W.Frag} {F : Hp} {vs : List V} {ds : List D} (h : Reps K F vs ds) (lo hi : Option Int) : Reps K F (cutV vs lo hi) (cutL ds lo hi) := by
  unfold cutV cutL
  rw [h.length]
  exact Reps.take _ (Reps.drop _ h)
theorem cut_whole {α : Type} {xs : List α} {lo hi : Option Int} (h : HT.sIx xs.length 0 lo = 0 ∧ HT.sIx xs.length xs.length hi = xs.length) : cutL xs lo hi = xs := by
  unfold cutL
  rw [h.1, h.2]
  simp
def rSlH (K : PySem.W.Frag) : V → Option Int → Option Int → Hp → VK → Prop := fun x lo hi H Q => ∃ a xs, x = .ref a ∧ SqT K H a xs ∧
  (HT.sIx xs.length 0 lo = 0 ∧ HT.sIx xs.length xs.length hi = xs.length → Q (.ref a) H) ∧ (¬ (HT.sIx xs.length 0 lo = 0 ∧ HT.sIx xs.length xs.length hi = xs.length) → ∀ (p : Addr) (o : Obj), o.dict = none → H p = none → Q (.ref p) (upd H p (.frz o (.tup (cutV xs lo hi)))))
theorem sl_tupH : SlR X (rSlH X.K) := by
  rintro pins s σ H x v vl vu lo hi sl Q I rx hs pl pu ⟨a, xs, rfl, hx, q1, q2⟩
  cases rx
  obtain ⟨its, r, ht, hz⟩ := I.tuple hx
  have le : its.toArray.size = xs.length := by rw [List.size_toArray]; exact r.length.symm
  refine ⟨"tuple", _, PyProof.Rows.slot_tuple_getitem.lookup, ht.typeIs, ?_⟩
  by_cases hw : HT.sIx xs.length 0 lo = 0 ∧ HT.sIx xs.length xs.length hi = xs.length
  · exact getItem_tuple_whole ht hs pl pu (by rw [le]; exact hw) ⟨.ref a, H, I, rfl, q1 hw⟩
  · refine HT.getItem_tuple_cut ht hs pl pu (by rw [le]; exact hw) ?_ (by rw [le]; exact hz)
    rw [le]
    exact laidH I ((r.drop (HT.sIx xs.length 0 lo)).take (HT.sIx xs.length xs.length hi - HT.sIx xs.length 0 lo)) (Nat.le_trans (cutV_length xs lo hi) hz) (q2 hw)
def slR (K : PySem.W.Frag) : V → Option Int → Option Int → Hp → VK → Prop := fun x lo hi H Q => rSlL K x lo hi H Q ∨ rSlH K x lo hi H Q ∨ rSlS x lo hi H Q
theorem sl_fn {K : PySem.W.Frag} {F H : Hp} {x : V} {d : D} {c : C} {lo hi : Option Int} {Q : VK} (s : Same F H) (h1 : RepB K F H x d) (he : slD d lo hi = some c) (q : ∀ v F' H', Grow K F H F' H' v c → Q v H') : slR K x lo hi H Q := by
  unfold slD at he
  split at he
  · cases he
    obtain ⟨a, vs, rfl, g1, g2⟩ := rb_lst s h1
    exact .inl ⟨a, vs, rfl, g1, g_lst s (g2.cut _ _) q⟩
  · cases he
    obtain ⟨a, vs, rfl, g0, g1, g2⟩ := rb_tup s h1
    refine .inr (.inl ⟨a, vs, rfl, g1, fun hw => ?_, fun _ => g_tup s (g2.cut _ _) q⟩)
    rw [g2.length] at hw
    rw [cut_whole hw] at q
    exact gv s (d := .tuple _) ⟨a, vs, rfl, g0, g2⟩ q
  · split at he
    · cases he
      exact .inr (.inr ⟨_, rb_str h1, by assumption, g_str s q⟩)
    · cases he
  · cases he
/-- the operands wait aside -/
theorem Sep.hides {K : Ek} {H : Hp} {σ : St} {ε : Cs} : ∀ {T0 : Tms} {F R : Hp}, Sep K F R H σ ε T0 → ∃ R1, Sep K F R1 H σ ε [] ∧ ∀ F' H' σ' ε' T', Same F F' → Sep K F' R1 H' σ' ε' T' → Sep K F' R H' σ' ε' (T0 ++ T')
  | [], F, R, s => ⟨R, s, fun F' H' σ' ε' T' _ s' => s'⟩
  | (v, c) :: T0, F, R, s => by
    obtain ⟨R1, _, s1, b1⟩ := s.hide
    obtain ⟨R2, s2, b2⟩ := Sep.hides s1
    exact ⟨R2, s2, fun F' H' σ' ε' T' fm s' => b1 F' H' σ' ε' _ fm (b2 F' H' σ' ε' T' fm s')⟩
theorem me_slice {e : Expr} {lo hi : Option Expr} {m : OM} {ml mh : PM} {p2 pos : Pos} (he : PE X e (tO X.E m)) (hl : PO X lo (tP X.E ml)) (hh : PO X hi (tP X.E mh)) : PE X (.Subscript e (.Slice lo hi none p2) pos) (tE X.E (mSl m ml mh)) :=
  (pe_slice (sl_list.or (sl_tupH.or sl_str)) he hl hh).weak fun σ H Q h => by
    obtain ⟨F, R, ε, c, ε', ok, e, q⟩ := h
    unfold mSl at e
    cases e1 : m ε with
    | none => simp [e1] at e
    | some p =>
      obtain ⟨o, ε1⟩ := p
      cases e2 : ml ε1 with
      | none => simp [e1, e2] at e
      | some p2 =>
        obtain ⟨l, ε2⟩ := p2
        cases e3 : mh ε2 with
        | none => simp [e1, e2, e3] at e
        | some p3 =>
          obtain ⟨u, ε3⟩ := p3
          cases e4 : bor ε3 o with
          | none => simp [e1, e2, e3, e4] at e
          | some d =>
            cases e5 : slD d l u with
            | none => simp [e1, e2, e3, e4, e5] at e
            | some c' =>
              simp [e1, e2, e3, e4, e5] at e
              obtain ⟨rfl, rfl⟩ := e
              refine ⟨F, R, ε, o, ε1, ok, e1, fun v F1 H1 fm1 v1 s1 => ?_⟩
              obtain ⟨R1, s1', back⟩ := s1.hides
              refine ⟨F1, R1, ε1, l, ε2, s1', e2, fun F2 H2 fm2 s2 => ⟨F2, R1, ε2, u, ε3, s2, e3, fun F3 H3 fm3 s3 => ?_⟩⟩
              have s3' := back F3 H3 σ ε3 [] (fm2.trans fm3) s3
              have hb : bors ε3 [o] = some [d] := by simp [bors, e4]
              obtain ⟨x, ex, rx⟩ := (bors_ok s3' v1 hb).one
              cases ex
              refine sl_fn s3'.sub rx e5 fun w F4 H4 g => ?_
              exact q w F4 H4 (((fm1.trans fm2).trans fm3).trans g.fm) ((s3'.drops _).res g)
def lenD : List D → Option C
  | [.list ds] => some (.sh (.int ds.length))
  | [.tuple ds] => some (.sh (.int ds.length))
  | [.str z] => if z.length ≤ sizeLine then some (.sh (.int z.length)) else none
  | _ => none
theorem len_ok : ∃ r, CallR X (.builtin "len") r ∧ FnB X.K lenD r := by
  refine ⟨_, call_len, fun F H vs ds c Q s hr he q => ?_⟩
  match ds, he, hr with
  | [.list ds], he, hr =>
    cases he
    obtain ⟨x, rfl, h1⟩ := hr.one
    obtain ⟨a, vs, rfl, g1, g2⟩ := rb_lst s h1
    refine ⟨_, ds.length, rfl, .inl ⟨vs, g1, g2.length.symm⟩, g_int s q⟩
  | [.tuple ds], he, hr =>
    cases he
    obtain ⟨x, rfl, h1⟩ := hr.one
    obtain ⟨a, vs, rfl, g0, g1, g2⟩ := rb_tup s h1
    refine ⟨_, ds.length, rfl, .inr ⟨vs, g1, g2.length.symm⟩, g_int s q⟩
  | [.str z], he, hr =>
    simp only [lenD] at he
    split at he
    · rename_i hz
      cases he
      obtain ⟨x, rfl, h1⟩ := hr.one
      rw [rb_str h1]
      exact ⟨_, z.length, rfl, ⟨hz, rfl⟩, g_int s q⟩
    · cases he
def intD : List D → Option C
  | [.int i] => some (.sh (.int i))
  | [.bool k] => some (.sh (.int (if k then 1 else 0)))
  | _ => none
theorem int_ok : ∃ r, CallR X (.type "int") r ∧ FnB X.K intD r := by
  refine ⟨_, call_int1, fun F H vs ds c Q s hr he q => ?_⟩
  match ds, he, hr with
  | [.int i], he, hr =>
    cases he
    obtain ⟨x, rfl, h1⟩ := hr.one
    rw [rb_int h1]
    exact .inl ⟨i, rfl, g_int s q⟩
  | [.bool k], he, hr =>
    cases he
    obtain ⟨x, rfl, h1⟩ := hr.one
    rw [rb_bool h1]
    exact .inr ⟨k, rfl, g_int s q⟩
def maxD : List D → Option C
  | [.int i, .int j] => some (.sh (.int (if j > i then j else i)))
  | _ => none
theorem max_ok (hc : X.calm = true) : ∃ r, CallR X (.builtin "max") r ∧ FnB X.K maxD r := by
  refine ⟨_, call_max2 hc, fun F H vs ds c Q s hr he q => ?_⟩
  match ds, he, hr with
  | [.int i, .int j], he, hr =>
    cases he
    obtain ⟨x, y, rfl, h1, h2⟩ := hr.two
    rw [rb_int h1, rb_int h2]
    exact ⟨i, j, rfl, g_int s q⟩
def minD : List D → Option C
  | [.int i, .int j] => some (.sh (.int (if j < i then j else i)))
  | _ => none
theorem min_ok (hc : X.calm = true) : ∃ r, CallR X (.builtin "min") r ∧ FnB X.K minD r := by
  refine ⟨_, call_min2 hc, fun F H vs ds c Q s hr he q => ?_⟩
  match ds, he, hr with
  | [.int i, .int j], he, hr =>
    cases he
    obtain ⟨x, y, rfl, h1, h2⟩ := hr.two
    rw [rb_int h1, rb_int h2]
    exact ⟨i, j, rfl, g_int s q⟩
def absD : List D → Option C
  | [.int i] => some (.sh (.int (if i < 0 then -i else i)))
  | _ => none
theorem abs_ok : ∃ r, CallR X (.builtin "abs") r ∧ FnB X.K absD r := by
  refine ⟨_, call_abs, fun F H vs ds c Q s hr he q => ?_⟩
  match ds, he, hr with
  | [.int i], he, hr =>
    cases he
    obtain ⟨x, rfl, h1⟩ := hr.one
    rw [rb_int h1]
    exact ⟨i, rfl, g_int s q⟩
def tupD : List D → Option C
  | [.list ds] => some (.sh (.tuple ds))
  | [.tuple ds] => some (.sh (.tuple ds))
  | _ => none
theorem call_tupleH : CallR X (.type "tuple") (fun xs H Q => ∃ p ys, xs = [.ref p] ∧ ((SqL X.K H p ys ∧ ∀ (l : Addr) (o : Obj), o.dict = none → H l = none → Q (.ref l) (upd H l (.frz o (.tup ys)))) ∨ (SqT X.K H p ys ∧ Q (.ref p) H))) := by
  rintro pins s σ H xs us Q I r ⟨p, ys, rfl, h⟩
  obtain ⟨u, rfl, rx⟩ := vals1 r
  cases rx
  rcases h with ⟨hq, q⟩ | ⟨hq, q⟩
  · obtain ⟨its, r', pl, hz⟩ := I.list hq
    have le := r'.length
    refine call_tuple_list pl.isList (fun h' kp => ?_) (by simp only [List.size_toArray] <;> omega)
    have I1 : Inv X pins σ H { s with heap := h' } := I.kept (t' := s.toks) kp
    exact laidH I1 r' hz q
  · obtain ⟨its, r', pl, hz⟩ := I.tuple hq
    exact call_tuple_same pl ⟨.ref p, H, I, rfl, q⟩
theorem tup_ok : ∃ r, CallR X (.type "tuple") r ∧ FnB X.K tupD r := by
  refine ⟨_, call_tupleH, fun F H vs ds c Q s hr he q => ?_⟩
  match ds, he, hr with
  | [.list ds], he, hr =>
    cases he
    obtain ⟨x, rfl, h1⟩ := hr.one
    obtain ⟨a, vs, rfl, g1, g2⟩ := rb_lst s h1
    exact ⟨a, vs, rfl, .inl ⟨g1, g_tup s g2 q⟩⟩
  | [.tuple ds], he, hr =>
    cases he
    obtain ⟨x, rfl, h1⟩ := hr.one
    obtain ⟨a, vs, rfl, g0, g1, g2⟩ := rb_tup s h1
    exact ⟨a, vs, rfl, .inr ⟨g1, gv s (d := .tuple _) ⟨a, vs, rfl, g0, g2⟩ q⟩⟩
def lstD : List D → Option C
  | [.list ds] => some (.ls ds)
  | [.tuple ds] => some (.ls ds)
  | _ => none
theorem lst_ok : ∃ r, CallR X (.type "list") r ∧ FnB X.K lstD r := by
  refine ⟨_, call_list_of, fun F H vs ds c Q s hr he q => ?_⟩
  match ds, he, hr with
  | [.list ds], he, hr =>
    cases he
    obtain ⟨x, rfl, h1⟩ := hr.one
    obtain ⟨a, vs, rfl, g1, g2⟩ := rb_lst s h1
    exact ⟨a, vs, rfl, .inl g1, g_lst s g2 q⟩
  | [.tuple ds], he, hr =>
    cases he
    obtain ⟨x, rfl, h1⟩ := hr.one
    obtain ⟨a, vs, rfl, g0, g1, g2⟩ := rb_tup s h1
    exact ⟨a, vs, rfl, .inr g1, g_lst s g2 q⟩
def repD : List D → Option C
  | [.none] => some (.sh (.str "None"))
  | [.bool b] => some (.sh (.str (if b then "True" else "False")))
  | [.int i] => if sm i then some (.sh (.str (toString i))) else none
  | _ => none
theorem rep_ok : ∃ r, CallR X (.builtin "repr") r ∧ FnB X.K repD r := by
  refine ⟨fun xs H Q => (xs = [.non] ∧ Q (.str "None") H) ∨ (∃ b, xs = [.bl b] ∧ Q (.str (if b then "True" else "False")) H) ∨ (∃ i, xs = [.int i] ∧ i.natAbs.log2 < 1920 ∧ Q (.str (toString i)) H), ?_, fun F H vs ds c Q s hr he q => ?_⟩
  · intro pins s σ H xs us Q I r h
    rcases h with ⟨rfl, q⟩ | ⟨b, rfl, q⟩ | ⟨i, rfl, hz, q⟩
    · obtain ⟨u, rfl, h⟩ := vals1 r
      cases h
      exact PySem.P.repr_of_none ⟨.str _, H, I.tok _, ⟨_, rfl⟩, q⟩
    · obtain ⟨u, rfl, h⟩ := vals1 r
      cases h
      exact PySem.P.repr_of_bool ⟨.str _, H, I.tok _, ⟨_, rfl⟩, q⟩
    · obtain ⟨u, rfl, t, rfl⟩ := vals1 r
      exact PySem.P.repr_of_int hz ⟨.str _, H, I.tok _, ⟨_, rfl⟩, q⟩
  match ds, he, hr with
  | [.none], he, hr =>
    cases he
    obtain ⟨x, rfl, h1⟩ := hr.one
    rw [rb_non h1]
    exact .inl ⟨rfl, g_str s q⟩
  | [.bool b], he, hr =>
    cases he
    obtain ⟨x, rfl, h1⟩ := hr.one
    rw [rb_bool h1]
    exact .inr (.inl ⟨b, rfl, g_str s q⟩)
  | [.int i], he, hr =>
    simp only [repD] at he
    split at he
    · rename_i hz
      cases he
      obtain ⟨x, rfl, h1⟩ := hr.one
      rw [rb_int h1]
      exact .inr (.inr ⟨i, rfl, by have := log2_le hz.1 hz.2; omega, g_str s q⟩)
    · cases he
end
end L2.M
namespace L2.M
open PySem PySem.Spec PyProof.Rows
abbrev BM := D → Cs → Option Cs
def bNm (i : Nat) : BM := fun d ε => if i < ε.length then some (ε.set i (.sh d)) else none
def bTps : List BM → List D → Cs → Option Cs
  | [], [], ε => some ε
  | b :: bs, d :: ds, ε => do
    let ε1 ← b d ε
    bTps bs ds ε1
  | _, _, _ => none
def bTup (bs : List BM) : BM := fun d ε => match d with
  | .tuple ds => if ds.length = bs.length then bTps bs ds ε else none
  | _ => none
/-- what a target leaves: the slots but S stay -/
structure Bnd (K : Ek) (F R H : Hp) (S : Nat → Prop) (σ : St) (ε : Cs) (H' : Hp) (σ' : St) (ε' : Cs) : Prop where
  sep : Sep K F R H' σ' ε' []
  st : ∀ i : Nat, ¬ S i → σ'[i]? = σ[i]?
  ln : σ'.length = σ.length
def Gd (K : Ek) (g : TG) (b : BM) (S : Nat → Prop) : Prop :=
  ∀ F R H σ ε x d ε' (Q : St → Hp → Prop), Sep K F R H σ ε [] → Rep K.1 F x d → b d ε = some ε' → (∀ H' σ', Bnd K F R H S σ ε H' σ' ε' → Q σ' H') → g x σ H Q
def Gds (K : Ek) (g : TGs) (b : List D → Cs → Option Cs) (S : Nat → Prop) : Prop :=
  ∀ F R H σ ε xs ds ε' (Q : St → Hp → Prop), Sep K F R H σ ε [] → Reps K.1 F xs ds → b ds ε = some ε' → (∀ H' σ', Bnd K F R H S σ ε H' σ' ε' → Q σ' H') → g xs σ H Q
section
variable {K : Ek} {F R H H1 H2 : Hp} {σ σ1 σ2 : St} {ε ε1 ε2 : Cs} {S S' : Nat → Prop}
theorem Bnd.trans (a : Bnd K F R H S σ ε H1 σ1 ε1) (b : Bnd K F R H1 S σ1 ε1 H2 σ2 ε2) : Bnd K F R H S σ ε H2 σ2 ε2 :=
  ⟨b.sep, fun i h => (b.st i h).trans (a.st i h), b.ln.trans a.ln⟩
theorem Bnd.imp (a : Bnd K F R H S σ ε H1 σ1 ε1) (h : ∀ i, S i → S' i) : Bnd K F R H S' σ ε H1 σ1 ε1 := ⟨a.sep, fun i n => a.st i fun z => n (h i z), a.ln⟩
theorem gd_name {i : Nat} : Gd K (gName i) (bNm i) (· = i) := by
  intro F R H σ ε x d ε' Q o r e q
  unfold bNm at e
  split at e
  · cases e
    exact q H _ ⟨(o.addSh r).store i, fun j h => List.getElem?_set_ne (Ne.symm h), by simp⟩
  · cases e
theorem gds_nil : Gds K gNil (bTps []) (fun _ => False) := by
  intro F R H σ ε xs ds ε' Q o r e q
  cases ds with
  | nil =>
    cases e
    exact ⟨r, q H σ ⟨o, fun _ _ => rfl, rfl⟩⟩
  | cons _ _ => simp [bTps] at e
theorem gds_cons {t : TG} {u : TGs} {b : BM} {bs : List BM} (h1 : Gd K t b S) (h2 : Gds K u (bTps bs) S') : Gds K (gCons t u) (bTps (b :: bs)) (fun i => S i ∨ S' i) := by
  intro F R H σ ε xs ds ε' Q o r e q
  cases ds with
  | nil => simp [bTps] at e
  | cons d ds =>
    obtain ⟨v, vr, rfl, r1, r2⟩ := r
    unfold bTps at e
    cases e1 : b d ε with
    | none => simp [e1] at e
    | some ε1 =>
      simp [e1] at e
      refine ⟨v, vr, rfl, h1 F R H σ ε v d ε1 _ o r1 e1 fun H1 σ1 b1 => ?_⟩
      exact h2 F R H1 σ1 ε1 vr ds ε' Q b1.sep r2 e fun H2 σ2 b2 => q H2 σ2 ((b1.imp fun _ z => .inl z).trans (b2.imp fun _ z => .inr z))
theorem gd_tup {t : TGs} {bs : List BM} {n : Nat} (hn : n = bs.length) (h : Gds K t (bTps bs) S) : Gd K (gTup K.1 n t) (bTup bs) S := by
  intro F R H σ ε x d ε' Q o r e q
  unfold bTup at e
  split at e
  · rename_i ds
    split at e
    · rename_i hl
      obtain ⟨a, vs, rfl, h1, h2⟩ := r
      exact ⟨a, vs, rfl, sameT o.sub h1.sq, by rw [h2.length, hl, hn], h F R H σ ε vs ds ε' Q o h2 e q⟩
    · cases e
  · cases e
end
def Src (K : Ek) (F R H : Hp) (σ : St) (ε : Cs) (J : It) (ds : List D) (ws : List Nat) : Prop :=
  ∃ G Y, Walk J ds.length G Y ∧ ∀ F2 H2 σ2 ε2, Same F F2 → Sep K F2 R H2 σ2 ε2 [] → (∀ i ∈ ws, σ2[i]? = σ[i]? ∧ ε2[i]? = ε[i]?) →
    G H2 ∧ ∀ i x H3, i < ds.length → Y i H2 x H3 → ∃ F3 d, ds[i]? = some d ∧ Rep K.1 F3 x d ∧ Grw F2 H2 F3 H3
/-- what waits aside comes back -/
def Back (K : Ek) (F R1 R : Hp) : Prop := ∀ F' H' σ' ε' T', Same F F' → Sep K F' R1 H' σ' ε' T' → Sep K F' R H' σ' ε' T'
abbrev SM := Cs → Option ((List D × List Nat) × Cs)
def tI (K : Ek) (m : SM) : TI := fun σ H Q => ∃ F R ε ds ws ε', Sep K F R H σ ε [] ∧ m ε = some ((ds, ws), ε') ∧ ∀ F' R' H' J, Same F F' → Sep K F' R' H' σ ε' [] → Back K F' R' R → Src K F' R' H' σ ε' J ds ws → Q J H'
def plOf : List Opd → List Nat
  | [] => []
  | .pl i :: os => i :: plOf os
  | .tm _ :: os => plOf os
def mSrc (kind : List D → Option (List D)) (ma : AM) : SM := fun ε => do
  let (os, ε1) ← ma ε
  let ds ← bors ε1 os
  let out ← kind ds
  some ((out, plOf os), ε1)
/-- the operands, looked at later -/
def Later (K : Ek) (F R : Hp) (σ : St) (ε : Cs) (ws : List Nat) (vs : List V) (ds : List D) : Prop := ∀ F2 H2 σ2 ε2, Same F F2 → Sep K F2 R H2 σ2 ε2 [] → (∀ i ∈ ws, σ2[i]? = σ[i]? ∧ ε2[i]? = ε[i]?) → RepBs K.1 F2 H2 vs ds
theorem opv_to {σ σ2 : St} : ∀ {os : List Opd} {vs : List V}, OpV σ vs os → (∀ i ∈ plOf os, σ2[i]? = σ[i]?) → OpV σ2 vs os
  | [], vs, h, k => by cases h; exact .nil
  | _ :: os, vs, h, k => by
    cases h with
    | pl hv h2 => exact .pl ((k _ (by simp [plOf])).trans hv) (opv_to h2 fun i hi => k i (by simp [plOf, hi]))
    | tm h2 => exact .tm (opv_to h2 k)
theorem bors_to {ε ε2 : Cs} : ∀ {os : List Opd} {ds : List D}, bors ε os = some ds → (∀ i ∈ plOf os, ε2[i]? = ε[i]?) → bors ε2 os = some ds
  | [], ds, h, k => h
  | o :: os, ds, h, k => by
    unfold bors at h ⊢
    have e1 : bor ε2 o = bor ε o := by
      cases o with
      | pl i => simp only [bor, k i (by simp [plOf])]
      | tm c => cases c <;> rfl
    have hk : ∀ i ∈ plOf os, ε2[i]? = ε[i]? := fun i hi => k i (by
      cases o with
      | pl j => simp [plOf, hi]
      | tm c => exact hi)
    rw [e1]
    cases e2 : bor ε o with
    | none => simp [e2] at h
    | some d =>
      cases e3 : bors ε os with
      | none => simp [e2, e3] at h
      | some ds2 =>
        rw [bors_to e3 hk]
        simpa [e2, e3] using h
theorem later_ok {K : Ek} {F R H : Hp} {σ : St} {ε : Cs} {os : List Opd} {vs : List V} {ds : List D} (s : Sep K F R H σ ε (tmO os vs)) (h : OpV σ vs os) (e : bors ε os = some ds) :
    ∃ R1, Sep K F R1 H σ ε [] ∧ Back K F R1 R ∧ Later K F R1 σ ε (plOf os) vs ds := by
  obtain ⟨R1, s1, back⟩ := s.hides
  refine ⟨R1, s1, fun F' H' σ' ε' T' fm s' => (back F' H' σ' ε' T' fm s').drops _, fun F2 H2 σ2 ε2 fm s2 k => ?_⟩
  exact bors_ok (back F2 H2 σ2 ε2 [] fm s2) (opv_to h fun i hi => (k i hi).1) (bors_to e fun i hi => (k i hi).2)
def itemsD : List D → Option (List D)
  | [.list ds] => some ds
  | [.tuple ds] => some ds
  | [.str z] => some (z.cps.toList.map fun c => .str ⟨#[c]⟩)
  | _ => none
def rangeD (lo c : Int) (n : Nat) : List D := (List.range n).map fun i => PyData.int (lo + (i : Nat) * c)
def rng1D : List D → Option (List D)
  | [.int j] => if -(2 ^ 62) ≤ j ∧ j < 2 ^ 62 then some (rangeD 0 1 j.toNat) else none
  | _ => none
def rng2D : List D → Option (List D)
  | [.int i, .int j] => if -(2 ^ 62) ≤ i ∧ i < 2 ^ 62 ∧ -(2 ^ 62) ≤ j ∧ j < 2 ^ 62 then some (rangeD i 1 (j - i).toNat) else none
  | _ => none
theorem _root_.L2.PI.or {X : Cx} {tg e : Expr} {w1 w2 : TI} (a : PI X tg e w1) (b : PI X tg e w2) : PI X tg e (fun σ H R => w1 σ H R ∨ w2 σ H R) :=
  ⟨fun pins s σ H R I h => h.elim (a.run pins s σ H R I) (b.run pins s σ H R I)⟩
theorem _root_.L2.PI.weak {X : Cx} {tg e : Expr} {w1 w2 : TI} (a : PI X tg e w1) (h : ∀ σ H R, w2 σ H R → w1 σ H R) : PI X tg e w2 := ⟨fun pins s σ H R I q => a.run pins s σ H R I (h σ H R q)⟩
theorem src_parts {K : Ek} {kind : List D → Option (List D)} {ma : AM} {σ : St} {H : Hp} {Q : It → Hp → Prop} (h : tI K (mSrc kind ma) σ H Q) : tA K ma σ H fun vs H1 => ∃ F R ε ws ds out, Sep K F R H1 σ ε [] ∧ Later K F R σ ε ws vs ds ∧ kind ds = some out ∧
    ∀ F' H' J, Same F F' → Sep K F' R H' σ ε [] → Src K F' R H' σ ε J out ws → Q J H' := by
  obtain ⟨F, R, ε, ds, ws, ε', o, e, q⟩ := h
  unfold mSrc at e
  cases e1 : ma ε with
  | none => simp [e1] at e
  | some p =>
    obtain ⟨os, ε1⟩ := p
    cases e2 : bors ε1 os with
    | none => simp [e1, e2] at e
    | some ds' =>
      cases e3 : kind ds' with
      | none => simp [e1, e2, e3] at e
      | some out =>
        simp [e1, e2, e3] at e
        obtain ⟨⟨rfl, rfl⟩, rfl⟩ := e
        refine ⟨F, R, ε, os, ε1, o, e1, fun vs F1 H1 fm1 v1 s1 => ?_⟩
        obtain ⟨R1, s2, bk, lt⟩ := later_ok s1 v1 e2
        exact ⟨F1, R1, ε1, plOf os, ds', out, s2, lt, e3, fun F' H' J fm s' sr => q F' R1 H' J (fm1.trans fm) s' (fun F2 H2 σ2 ε2 T2 fm2 => bk F2 H2 σ2 ε2 T2 (fm.trans fm2)) sr⟩
theorem Later.now {K : Ek} {F R H : Hp} {σ : St} {ε : Cs} {ws : List Nat} {vs : List V} {ds : List D} (l : Later K F R σ ε ws vs ds) (s : Sep K F R H σ ε []) : RepBs K.1 F H vs ds := l F H σ ε (Same.refl F) s fun _ _ => ⟨rfl, rfl⟩
theorem walkL {K : PySem.W.Frag} {a : Addr} {n : Nat} : Walk (Itl K a) n (fun H => ∃ vs, SqL K H a vs ∧ vs.length = n) (fun i H x H' => H' = H ∧ ∀ vs, SqL K H a vs → vs[i]? = some x) :=
  ⟨fun i _ hi ⟨vs, q, e⟩ => ⟨vs, vs[i]'(by omega), q, by simp [show i < vs.length by omega]⟩, fun _ ⟨vs, q, e⟩ => ⟨vs, q, by omega⟩, fun _ _ _ _ _ _ y => y⟩
theorem RepBs.inj1 {K : PySem.W.Frag} {F H : Hp} {x : V} {d : D} (h : RepBs K F H [x] [d]) : RepB K F H x d := by
  cases h with
  | cons h _ => exact h
section
variable {X : Cx} {tg e : Expr} {m : OM} {ma : AM}
/-- for x in e, e a list, a tuple or a text -/
theorem mi_any (h : PE X e (tO X.E m)) : PI X tg e (tI X.E (mSrc itemsD (mCons m mNil))) := by
  refine ((pi_list h).or ((pi_tup h).or (pi_str h))).weak fun σ H Q q => ?_
  -- the data of the operand is told ahead
  obtain ⟨F0, R0, ε0, ds0, ws0, ε0', s0, e0, q0⟩ := q
  unfold mSrc mCons mNil at e0
  cases em : m ε0 with
  | none => simp [em] at e0
  | some p =>
    obtain ⟨o0, εm⟩ := p
    cases eb : bor εm o0 with
    | none => simp [em, bors, eb] at e0
    | some d =>
      cases ek : itemsD [d] with
      | none => simp [em, bors, eb, ek] at e0
      | some out =>
        simp [em, bors, eb, ek] at e0
        obtain ⟨⟨rfl, rfl⟩, rfl⟩ := e0
        have hb : bors εm [o0] = some [d] := by simp [bors, eb]
        have go : ∀ v F' H', Same F0 F' → OpV σ [v] [o0] → Sep X.E F' R0 H' σ εm (tmO [o0] [v]) → ∃ R1, Sep X.E F' R1 H' σ εm [] ∧ Later X.E F' R1 σ εm (plOf [o0]) [v] [d] ∧ ∀ J, Src X.E F' R1 H' σ εm J out (plOf [o0]) → Q J H' := fun v F' H' fm v1 s1 => by
          obtain ⟨R1, s2, bk, lt⟩ := later_ok s1 v1 hb
          exact ⟨R1, s2, lt, fun J sr => q0 F' R1 H' J fm s2 bk sr⟩
        match d, ek with
        | .list ds, ek =>
          cases ek
          refine .inl ⟨F0, R0, ε0, o0, εm, s0, em, fun v F1 H1 fm1 v1 s1 => ?_⟩
          obtain ⟨R1, s2, lt, q3⟩ := go v F1 H1 fm1 v1 s1
          obtain ⟨a, vs, rfl, g1, g2⟩ := rb_lst s2.sub (lt.now s2).inj1
          refine ⟨a, rfl, ⟨vs, g1⟩, q3 _ ⟨_, _, walkL, fun F2 H2 σ2 ε2 fm2 s3 hw => ?_⟩⟩
          obtain ⟨a', us, ea, k1, k2⟩ := rb_lst s3.sub (lt F2 H2 σ2 ε2 fm2 s3 hw).inj1
          cases ea
          refine ⟨⟨us, k1, k2.length⟩, fun i x H3 hi y => ?_⟩
          obtain ⟨rfl, y⟩ := y
          obtain ⟨w, j1, j2⟩ := k2.get (List.getElem?_eq_getElem hi)
          rw [y us k1] at j1
          cases j1
          exact ⟨F2, _, List.getElem?_eq_getElem hi, j2, Grw.refl s3.sub⟩
        | .tuple ds, ek =>
          cases ek
          refine .inr (.inl ⟨F0, R0, ε0, o0, εm, s0, em, fun v F1 H1 fm1 v1 s1 => ?_⟩)
          obtain ⟨R1, s2, lt, q3⟩ := go v F1 H1 fm1 v1 s1
          obtain ⟨a, vs, rfl, h2, _, h3⟩ := rb_tup s2.sub (lt.now s2).inj1
          refine ⟨a, rfl, ⟨vs, sameT s2.sub h2.sq⟩, q3 _ ⟨_, _, (show Walk (Itt X.K a) out.length (fun H => SqT X.K H a vs) (YAt vs) by rw [← h3.length]; exact walk_tup), fun F2 H2 σ2 ε2 fm2 s3 hw => ?_⟩⟩
          refine ⟨sameT s3.sub (sameT fm2 h2.sq), fun i x H3 hi y => ?_⟩
          obtain ⟨rfl, y⟩ := y
          obtain ⟨w, k1, k2⟩ := h3.get (List.getElem?_eq_getElem hi)
          rw [y] at k1
          cases k1
          exact ⟨F2, _, List.getElem?_eq_getElem hi, Rep.mono fm2 _ _ k2, Grw.refl s3.sub⟩
        | .str z, ek =>
          cases ek
          refine .inr (.inr ⟨F0, R0, ε0, o0, εm, s0, em, fun v F1 H1 fm1 v1 s1 => ?_⟩)
          obtain ⟨R1, s2, lt, q3⟩ := go v F1 H1 fm1 v1 s1
          refine ⟨z, rb_str (lt.now s2).inj1, q3 _ ⟨_, _, (show Walk (Its z) (z.cps.toList.map fun c => PyData.str ⟨#[c]⟩).length _ _ by rw [List.length_map, Array.length_toList]; exact walk_str), fun F2 H2 σ2 ε2 fm2 s3 hw => ?_⟩⟩
          refine ⟨trivial, fun i x H3 hi y => ?_⟩
          obtain ⟨rfl, c, y1, rfl⟩ := y
          refine ⟨F2, .str ⟨#[c]⟩, ?_, by simp [Rep], Grw.refl s3.sub⟩
          rw [List.getElem?_map, Array.getElem?_toList, y1]
          rfl
theorem src_range {K : Ek} {F R H : Hp} {σ : St} {ε : Cs} {lo : Int} {n : Nat} {ws : List Nat} : Src K F R H σ ε (Itr lo n) (rangeD lo 1 n) ws := by
  refine ⟨_, _, (show Walk (Itr lo n) (rangeD lo 1 n).length (fun _ => True) (YFn fun i => .int (lo + i)) by simp only [rangeD, List.length_map, List.length_range]; exact walk_range), fun F2 H2 σ2 ε2 fm2 s2 _ => ⟨trivial, fun i x H3 hi y => ?_⟩⟩
  obtain ⟨rfl, rfl⟩ := y
  refine ⟨F2, .int (lo + i), ?_, by simp [Rep], Grw.refl s2.sub⟩
  simp only [rangeD, List.length_map, List.length_range] at hi
  simp [rangeD, hi]
theorem mi_range1 {a : Expr} {p pos : Pos} (hg : Gl X "range") (hm : X.mg "range" = none) (ha : PA X [a] (tA X.E ma)) (hs : starEach [a] X.env = [(false, eval a X.env)]) : PI X tg (.Call (.Name "range" p) [a] [] pos) (tI X.E (mSrc rng1D ma)) := by
  refine (pi_range1 hg hm ha hs).weak fun σ H Q q => tA_mono (src_parts q) fun vs H1 h => ?_
  obtain ⟨F, R, ε, ws, ds, out, s, lt, ek, q⟩ := h
  have rb := lt.now s
  match ds, ek, rb with
  | [.int j], ek, rb =>
    simp only [rng1D] at ek
    split at ek
    · rename_i hj
      cases ek
      obtain ⟨x, rfl, h1⟩ := rb.one
      exact ⟨j, by rw [rb_int h1], hj.1, hj.2, q F H1 _ (Same.refl F) s src_range⟩
    · cases ek
theorem mi_range2 {a b : Expr} {p pos : Pos} (hg : Gl X "range") (hm : X.mg "range" = none) (ha : PA X [a, b] (tA X.E ma)) (hs : starEach [a, b] X.env = [(false, eval a X.env), (false, eval b X.env)]) (hs2 : starEach [b] X.env = [(false, eval b X.env)]) :
    PI X tg (.Call (.Name "range" p) [a, b] [] pos) (tI X.E (mSrc rng2D ma)) := by
  refine (pi_range2 hg hm ha hs hs2).weak fun σ H Q q => tA_mono (src_parts q) fun vs H1 h => ?_
  obtain ⟨F, R, ε, ws, ds, out, s, lt, ek, q⟩ := h
  have rb := lt.now s
  match ds, ek, rb with
  | [.int i, .int j], ek, rb =>
    simp only [rng2D] at ek
    split at ek
    · rename_i hj
      cases ek
      obtain ⟨x, y, rfl, h1, h2⟩ := rb.two
      exact ⟨i, j, by rw [rb_int h1, rb_int h2], hj, q F H1 _ (Same.refl F) s src_range⟩
    · cases ek
end
end L2.M
namespace L2.M
open PySem PySem.Spec PyProof.Rows
def wipeC (ε : Cs) : List Nat → Cs
  | [] => ε
  | v :: vs => (wipeC ε vs).set v .no
def restC (ε ε1 : Cs) : List Nat → Cs
  | [] => ε
  | v :: vs => match ε1[v]? with
    | some c => (restC ε ε1 vs).set v c
    | none => restC ε ε1 vs
def sameC (ws : List Nat) (ε0 ε : Cs) : Prop := ∀ i ∈ ws, ε[i]? = ε0[i]?
open Classical in
noncomputable def lcL (ws : List Nat) (ε0 : Cs) (bind : BM) (tests : TM) (elt : EM) (own : List Nat) : List D → Nat → Cs → Option (List D × Cs)
  | [], _, ε => if sameC ws ε0 ε then some ([], ε) else none
  | d :: ds, n, ε => if sameC ws ε0 ε then do
      let ε1 ← bind d ε
      let (b, ε2) ← tests ε1
      if b then do
        let (c, ε3) ← elt ε2
        let e ← cD c
        if n < sizeLine then do
          let (r, ε4) ← lcL ws ε0 bind tests elt own ds (n + 1) (wipeC ε3 own)
          some (e :: r, ε4)
        else none
      else lcL ws ε0 bind tests elt own ds n (wipeC ε2 own)
    else none
noncomputable def mLc (src : SM) (bind : BM) (tests : TM) (elt : EM) (own : List Nat) : EM := fun ε => do
  let ((ds, ws), ε1) ← src ε
  if ws.all (fun i => !own.contains i) then do
    let (out, ε2) ← lcL ws ε1 bind tests elt own ds 0 (wipeC ε1 own)
    some (.ls out, restC ε2 ε1 own)
  else none
def mYes : TM := fun ε => some (true, ε)
section
variable {K : Ek} {F R H H' : Hp} {σ : St} {ε : Cs} {T : Tms} {v : V} {c : C} {a : Addr}
theorem rpcs_sh : ∀ {ds : List D} {vs : List V}, Reps K.1 F vs ds → RpCs K F H (vs.map some) (ds.map .sh) (List.replicate ds.length [])
  | [], vs, h => by cases (show vs = [] from h); exact ⟨rfl, rfl⟩
  | d :: ds, vs, ⟨v, r, h1, h2, h3⟩ => by
    subst h1
    exact ⟨some v, r.map some, [], _, rfl, rfl, ⟨rfl, v, rfl, h2⟩, rpcs_sh h3⟩
theorem flat_rep (n : Nat) : (List.replicate n ([] : List Addr)).flatten = [] := by
  induction n with
  | zero => rfl
  | succ n ih => rw [List.replicate_succ, List.flatten_cons, ih]; rfl
theorem rpcs_sh' : ∀ {ds : List D} {vs : List V} {fs : List (List Addr)}, RpCs K F H (vs.map some) (ds.map .sh) fs → Reps K.1 F vs ds ∧ fs.flatten = []
  | [], vs, fs, ⟨h1, h2⟩ => by
    rw [h2]
    exact ⟨show vs = [] by simpa using h1, rfl⟩
  | d :: ds, vs, fs, ⟨o, r, f, fr, h1, h2, ⟨h3, w, h4, h5⟩, h6⟩ => by
    cases vs with
    | nil => cases h1
    | cons v vs =>
      obtain ⟨rfl, rfl⟩ := List.cons.inj h1
      cases h4
      obtain ⟨k1, k2⟩ := rpcs_sh' h6
      exact ⟨⟨_, vs, rfl, h5, k1⟩, by rw [h2, List.flatten_cons, h3, k2]; rfl⟩
theorem rpc_toN {ds : List D} {o : Option V} {A : List Addr} (h : RpC K F H o (.ls ds) A) : RpC K F H o (.ob .ls (ds.map .sh)) A := by
  obtain ⟨a, vs, h1, h2, h3, h4⟩ := h
  exact ⟨a, vs, _, h1, by rw [flat_rep]; exact h2, h3, rpcs_sh h4⟩
theorem rpc_ofN {ds : List D} {o : Option V} {A : List Addr} (h : RpC K F H o (.ob .ls (ds.map .sh)) A) : RpC K F H o (.ls ds) A := by
  obtain ⟨a, vs, fs, h1, h2, h3, h4⟩ := h
  obtain ⟨k1, k2⟩ := rpcs_sh' h4
  exact ⟨a, vs, h1, by rw [h2, k2], h3, k1⟩
/-- a temporary's cell told otherwise -/
theorem Sep.recell {c' : C} (s : Sep K F R H σ ε ((v, c) :: T)) (h : ∀ A, RpC K F H (some v) c A → RpC K F H (some v) c' A) : Sep K F R H σ ε ((v, c') :: T) :=
  Sep.change (T1 := [(v, c)]) s fun gs k n _ => by
    obtain ⟨o, r, f, fr, e1, e2, k1, k2, k3⟩ := k
    obtain ⟨rfl, rfl⟩ := List.cons.inj e1
    subst e2 k3
    have e : ([f] : List (List Addr)).flatten = f := by simp
    rw [e] at n ⊢
    exact ⟨f, h f k1, n, fun b hb => .inl hb, fun b u _ e => e⟩
/-- one thing more in a list of own things -/
theorem Sep.appN {acc : List C} (s : Sep K F R H σ ε ((v, c) :: (.ref a, .ob .ls acc) :: T)) : ∃ ws, H a = some (.lst ws) ∧ ws.length = acc.length ∧ Sep K F R (upd H a (.lst (ws ++ [v]))) σ ε ((.ref a, .ob .ls (acc ++ [c])) :: T) := by
  obtain ⟨f0, ⟨a0, ws, fs0, e0, _, h0, r0⟩, _⟩ := s.drop.headT
  cases e0
  have h0 : H a = some (.lst ws) := h0
  refine ⟨ws, h0, by simpa using r0.len.1, ?_⟩
  refine Sep.change (T1 := [(v, c), (.ref a, .ob .ls acc)]) s fun gs k n _ => ?_
  obtain ⟨o, r, f, fr, e1, e2, k1, o', r', f', fr', e1', e2', k2, k3, k4⟩ := k
  obtain ⟨rfl, rfl⟩ := List.cons.inj e1
  obtain ⟨rfl, rfl⟩ := List.cons.inj e1'
  subst e2' e2 k4
  obtain ⟨b, us, fs, g1, g2, g3, g4⟩ := k2
  cases g1
  have g3 : H a = some (.lst us) := g3
  rw [h0] at g3
  cases g3
  have e : ([f, f'] : List (List Addr)).flatten = f ++ a :: fs.flatten := by simp [g2]
  rw [e] at n ⊢
  rw [List.nodup_append] at n
  obtain ⟨n1, n2, n3⟩ := n
  rw [List.nodup_cons] at n2
  have m1 : ∀ b ∈ f, b ≠ a := fun b hb => n3 b hb a List.mem_cons_self
  have m2 : ∀ b ∈ fs.flatten, b ≠ a := fun b hb z => n2.1 (z ▸ hb)
  refine ⟨a :: (fs ++ [f]).flatten, ⟨a, ws ++ [v], fs ++ [f], rfl, rfl, upd_same, ?_⟩, ?_, fun b hb => ?_, fun b u hb e => ?_⟩
  · rw [List.map_append]
    refine RpCs.append (RpCs.frame (Same.refl F) (fun b hb => upd_ne (m2 b hb)) g4) ⟨some v, [], f, [], rfl, rfl, RpC.frame (Same.refl F) (fun b hb => upd_ne (m1 b hb)) k1, rfl, rfl⟩
  · rw [List.flatten_append, List.nodup_cons, List.nodup_append]
    refine ⟨fun z => ?_, n2.2, by simpa using n1, fun x hx y hy z => ?_⟩
    · rcases List.mem_append.mp z with z | z
      · exact n2.1 z
      · exact m1 a (by simpa using z) rfl
    · have hy : y ∈ f := by simpa using hy
      exact n3 y hy x (List.mem_cons_of_mem _ hx) z.symm
  · left
    simp only [List.mem_cons, List.flatten_append, List.mem_append, List.flatten_cons, List.flatten_nil, List.append_nil] at hb ⊢
    rcases hb with hb | hb | hb
    · exact .inr (.inl hb)
    · exact .inr (.inr hb)
    · exact .inl hb
  · rw [upd_ne]
    · exact e
    · rintro rfl
      exact hb (by simp)
end
section
variable {K : Ek} {F R H : Hp} {σ : St} {ε : Cs} {T : Tms}
/-- a slot of which nothing is told may hold anything -/
theorem Sep.free (s : Sep K F R H σ ε T) {i : Nat} (h : ε[i]? = some .no) (o : Option V) : Sep K F R H (σ.set i o) ε T := by
  obtain ⟨a1, a2, a3, ⟨fs, gs, h1, h2, n, m⟩⟩ := s
  obtain ⟨o', f, e1, e2, e3⟩ := h1.get h
  have h1' := RpCs.set (o := o) (c := .no) (f := f) (K := K) (F := F) (H := H) e3 i h1
  rw [set_same h, set_same e2] at h1'
  exact ⟨a1, a2, a3, fs, gs, h1', h2, n, m⟩
theorem Sep.wipe1 (s : Sep K F R H σ ε T) (i : Nat) : Sep K F R H (σ.set i none) (ε.set i .no) T := by
  by_cases hi : i < ε.length
  · exact (s.dropAt i).free (by rw [List.getElem?_set_self hi]) none
  · have l := s.len
    rw [List.set_eq_of_length_le (by omega), List.set_eq_of_length_le (by omega)]
    exact s
theorem Sep.wipe (s : Sep K F R H σ ε T) : ∀ own : List Nat, Sep K F R H (L2.wipe σ own) (wipeC ε own) T
  | [] => s
  | i :: own => by
    unfold L2.wipe wipeC
    exact (Sep.wipe s own).wipe1 i
theorem Sep.hideAt (s : Sep K F R H σ ε []) (i : Nat) : ∃ R1, Sep K F R1 H (σ.set i none) (ε.set i .no) [] ∧ ∀ F' H' ε2 T', ε2.length = ε.length → Same F F' → Sep K F' R1 H' (σ.set i none) ε2 T' → Sep K F' R H' σ (match ε[i]? with | some c => ε2.set i c | none => ε2) T' := by
  have l := s.len
  cases hc : ε[i]? with
  | none =>
    have hi : ε.length ≤ i := List.getElem?_eq_none_iff.mp hc
    refine ⟨R, s.wipe1 i, fun F' H' ε2 T' _ fm s' => ?_⟩
    rw [List.set_eq_of_length_le (by omega)] at s'
    exact s'
  | some c =>
    have hi : i < ε.length := (List.getElem?_eq_some_iff.mp hc).1
    by_cases hn : c = .no
    · subst hn
      refine ⟨R, s.wipe1 i, fun F' H' ε2 T' l2 fm s' => ?_⟩
      have := (s'.dropAt i).free (i := i) (by rw [List.getElem?_set_self (by omega)]) σ[i]
      rw [List.set_set, set_same (List.getElem?_eq_getElem (by omega))] at this
      exact this
    · obtain ⟨v, hv⟩ := s.val hc hn
      obtain ⟨R1, _, s1, back⟩ := (s.take hc hv).hide
      refine ⟨R1, s1.free (by rw [List.getElem?_set_self hi]) none, fun F' H' ε2 T' l2 fm s' => ?_⟩
      have h1 := (s'.dropAt i).free (i := i) (by rw [List.getElem?_set_self (by omega)]) (some v)
      rw [List.set_set, set_same hv] at h1
      have h2 := (back F' H' _ _ _ fm h1).put hv
      rw [List.set_set] at h2
      exact h2
end
theorem wipe_get (σ : St) (i : Nat) : ∀ vs : List Nat, (wipe σ vs)[i]? = if i ∈ vs ∧ i < σ.length then some none else σ[i]?
  | [] => by simp [wipe]
  | v :: vs => by
    unfold wipe
    by_cases e : v = i
    · subst e
      by_cases h : v < σ.length
      · rw [List.getElem?_set_self (by rw [wipe_length]; exact h)]
        simp [h]
      · rw [List.getElem?_eq_none (by rw [List.length_set, wipe_length]; omega), if_neg (by simp [h]), List.getElem?_eq_none (by omega)]
    · rw [List.getElem?_set_ne e, wipe_get σ i vs]
      have : (i ∈ v :: vs) = (i ∈ vs) := by simp [Ne.symm e]
      simp only [this]
theorem wipeC_length (ε : Cs) : ∀ vs : List Nat, (wipeC ε vs).length = ε.length
  | [] => rfl
  | v :: vs => by unfold wipeC; rw [List.length_set, wipeC_length ε vs]
theorem wipeC_get (ε : Cs) (i : Nat) : ∀ vs : List Nat, (wipeC ε vs)[i]? = if i ∈ vs ∧ i < ε.length then some .no else ε[i]?
  | [] => by simp [wipeC]
  | v :: vs => by
    unfold wipeC
    by_cases e : v = i
    · subst e
      by_cases h : v < ε.length
      · rw [List.getElem?_set_self (by rw [wipeC_length]; exact h)]
        simp [h]
      · rw [List.getElem?_eq_none (by rw [List.length_set, wipeC_length]; omega), if_neg (by simp [h]), List.getElem?_eq_none (by omega)]
    · rw [List.getElem?_set_ne e, wipeC_get ε i vs]
      have : (i ∈ v :: vs) = (i ∈ vs) := by simp [Ne.symm e]
      simp only [this]
theorem restC_length (ε ε1 : Cs) : ∀ vs : List Nat, (restC ε ε1 vs).length = ε.length
  | [] => rfl
  | v :: vs => by
    unfold restC
    split
    · rw [List.length_set, restC_length ε ε1 vs]
    · exact restC_length ε ε1 vs
theorem restC_get (ε ε1 : Cs) (hl : ε.length = ε1.length) (i : Nat) : ∀ vs : List Nat, (restC ε ε1 vs)[i]? = if i ∈ vs then ε1[i]? else ε[i]?
  | [] => by simp [restC]
  | v :: vs => by
    unfold restC
    by_cases e : v = i
    · subst e
      split
      · rename_i c hc
        have hv : v < ε1.length := (List.getElem?_eq_some_iff.mp hc).1
        rw [List.getElem?_set_self (by rw [restC_length, hl]; exact hv)]
        simp [hc]
      · rename_i hc
        have hv : ¬ v < ε1.length := fun z => by rw [List.getElem?_eq_getElem z] at hc; cases hc
        rw [List.getElem?_eq_none (by rw [restC_length]; omega)]
        simp [hc]
    · have : (i ∈ v :: vs) = (i ∈ vs) := by simp [Ne.symm e]
      split
      · rw [List.getElem?_set_ne e, restC_get ε ε1 hl i vs]
        simp only [this]
      · rw [restC_get ε ε1 hl i vs]
        simp only [this]
section
variable {K : Ek} {F R H : Hp} {σ σ' : St} {ε ε1 : Cs} {T : Tms} {own : List Nat}
theorem Sep.hideOwn (s : Sep K F R H σ ε1 []) : ∀ own : List Nat, ∃ R1, Sep K F R1 H (L2.wipe σ own) (wipeC ε1 own) [] ∧ ∀ F' H' ε2 T', ε2.length = ε1.length → Same F F' → Sep K F' R1 H' (L2.wipe σ own) ε2 T' → Sep K F' R H' σ (restC ε2 ε1 own) T'
  | [] => ⟨R, s, fun F' H' ε2 T' _ _ s' => s'⟩
  | v :: vs => by
    obtain ⟨R1, s1, b1⟩ := Sep.hideOwn s vs
    obtain ⟨R2, s2, b2⟩ := s1.hideAt v
    refine ⟨R2, s2, fun F' H' ε2 T' l2 fm s' => ?_⟩
    have h1 := b2 F' H' ε2 T' (by rw [wipeC_length]; exact l2) fm s'
    have h2 := b1 F' H' _ T' (by split <;> simp [l2]) fm h1
    have e : restC (match (wipeC ε1 vs)[v]? with | some c => ε2.set v c | none => ε2) ε1 vs = restC ε2 ε1 (v :: vs) := by
      apply List.ext_getElem?
      intro j
      rw [restC_get _ _ (by split <;> simp [l2]), restC_get _ _ l2]
      by_cases hj : j ∈ vs
      · rw [if_pos hj, if_pos (by simp [hj])]
      · rw [if_neg hj]
        by_cases e : j = v
        · subst e
          rw [if_pos List.mem_cons_self, wipeC_get, if_neg fun z => hj z.1]
          cases q : ε1[j]? with
          | none =>
            have : ε1.length ≤ j := List.getElem?_eq_none_iff.mp q
            simp only
            exact List.getElem?_eq_none (by omega)
          | some c =>
            have : j < ε1.length := (List.getElem?_eq_some_iff.mp q).1
            simp only
            rw [List.getElem?_set_self (by omega)]
        · rw [if_neg (by simp [e, hj])]
          split
          · rw [List.getElem?_set_ne (Ne.symm e)]
          · rfl
    rw [e] at h2
    exact h2
theorem wipe_of_bnd {S : Nat → Prop} (hS : ∀ i, S i → i ∈ own) (h : ∀ i : Nat, ¬ S i → σ'[i]? = σ[i]?) (hl : σ'.length = σ.length) : L2.wipe σ' own = L2.wipe σ own := by
  apply List.ext_getElem?
  intro i
  rw [wipe_get, wipe_get, hl]
  by_cases hi : i ∈ own ∧ i < σ.length
  · rw [if_pos hi, if_pos hi]
  · rw [if_neg hi, if_neg hi]
    by_cases hs : S i
    · have := hS i hs
      have hn : ¬ i < σ.length := fun z => hi ⟨this, z⟩
      rw [List.getElem?_eq_none (by omega), List.getElem?_eq_none (by omega)]
    · exact h i hs
theorem wipe_wipe (σ : St) (own : List Nat) : L2.wipe (L2.wipe σ own) own = L2.wipe σ own := by
  apply List.ext_getElem?
  intro i
  rw [wipe_get, wipe_length, wipe_get]
  split <;> rfl
end
open Classical in
/-- .. by what becomes of an element -/
noncomputable def lcG (k : C → Option C) (ws : List Nat) (ε0 : Cs) (bind : BM) (tests : TM) (elt : EM) (own : List Nat) : List D → Nat → Cs → Option (List C × Cs)
  | [], _, ε => if sameC ws ε0 ε then some ([], ε) else none
  | d :: ds, n, ε => if sameC ws ε0 ε then do
      let ε1 ← bind d ε
      let (b, ε2) ← tests ε1
      if b then do
        let (c, ε3) ← elt ε2
        let e ← k c
        if n < sizeLine then do
          let (r, ε4) ← lcG k ws ε0 bind tests elt own ds (n + 1) (wipeC ε3 own)
          some (e :: r, ε4)
        else none
      else lcG k ws ε0 bind tests elt own ds n (wipeC ε2 own)
    else none
def frzC (c : C) : Option C := (cD c).map C.sh
theorem lcL_G {ws : List Nat} {ε0 : Cs} {bind : BM} {tests : TM} {elt : EM} {own : List Nat} : ∀ {ds : List D} {n : Nat} {ε : Cs} {out : List D} {ε' : Cs}, lcL ws ε0 bind tests elt own ds n ε = some (out, ε') → lcG frzC ws ε0 bind tests elt own ds n ε = some (out.map .sh, ε')
  | [], n, ε, out, ε', h => by
    unfold lcL at h
    unfold lcG
    split at h
    · rename_i hs
      cases h
      rw [if_pos hs]
      rfl
    · cases h
  | d :: ds, n, ε, out, ε', h => by
    unfold lcL at h
    unfold lcG
    split at h
    · rename_i hs
      rw [if_pos hs]
      cases e1 : bind d ε with
      | none => simp [e1] at h
      | some ε1 =>
        simp only [e1, Option.bind_eq_bind, Option.bind_some] at h ⊢
        cases e2 : tests ε1 with
        | none => simp [e2] at h
        | some p =>
          obtain ⟨b, ε2⟩ := p
          simp only [e2, Option.bind_some] at h ⊢
          cases b with
          | false =>
            simp only [Bool.false_eq_true, if_false] at h ⊢
            exact lcL_G h
          | true =>
            simp only [if_true] at h ⊢
            cases e3 : elt ε2 with
            | none => simp [e3] at h
            | some p3 =>
              obtain ⟨c, ε3⟩ := p3
              simp only [e3, Option.bind_some] at h ⊢
              cases e4 : cD c with
              | none => simp [e4] at h
              | some e =>
                simp only [e4, Option.bind_some] at h
                simp only [frzC, e4, Option.map_some, Option.bind_some]
                split at h
                · rename_i hn
                  rw [if_pos hn]
                  cases e5 : lcL ws ε0 bind tests elt own ds (n + 1) (wipeC ε3 own) with
                  | none => simp [e5] at h
                  | some p5 =>
                    obtain ⟨r, ε4⟩ := p5
                    simp [e5] at h
                    obtain ⟨rfl, rfl⟩ := h
                    rw [lcL_G e5]
                    rfl
                · cases h
    · cases h
/-- what may become of an element -/
def KpC (K : Ek) (k : C → Option C) : Prop := ∀ F R H σ ε T v c c', Sep K F R H σ ε ((v, c) :: T) → k c = some c' → ∃ F', Same F F' ∧ Sep K F' R H σ ε ((v, c') :: T)
theorem kp_frz {K : Ek} : KpC K frzC := fun F R H σ ε T v c c' s h => by
  unfold frzC at h
  cases e : cD c with
  | none => simp [e] at h
  | some d =>
    simp [e] at h
    subst h
    obtain ⟨F', fm, r, s'⟩ := s.freeze e
    exact ⟨F', fm, s'.addSh r⟩
section
variable {K : Ek}
theorem tE_lcG {k : C → Option C} (hk : KpC K k) {src : SM} {bind : BM} {tests : TM} {elt : EM} {own : List Nat} {g : TG} {S : Nat → Prop} (hg : Gd K g bind S) (hS : ∀ i, S i → i ∈ own) {σ : St} {H : Hp} {Q : VK}
    (h : ∃ F R ε ds ws ε1 out ε2, Sep K F R H σ ε [] ∧ src ε = some ((ds, ws), ε1) ∧ (∀ i ∈ ws, i ∉ own) ∧ lcG k ws ε1 bind tests elt own ds 0 (wipeC ε1 own) = some (out, ε2) ∧ ∀ v F' H', Same F F' → Sep K F' R H' σ (restC ε2 ε1 own) [(v, .ob .ls out)] → Q v H') :
    tLc (tI K src) g (tT K tests) (tE K elt) own σ H Q := by
  obtain ⟨F, R, ε, ds, ws, ε1, out, ε2, o, e1, hws, e2, q⟩ := h
  refine ⟨F, R, ε, ds, ws, ε1, o, e1, fun F1 R1 H1 J fm1 s1 bk sr Da hDa => ?_⟩
  obtain ⟨G, Y, w, hw⟩ := sr
  obtain ⟨R2, s2, bk2⟩ := s1.hideOwn own
  -- the walked thing is looked at from within: all of R1 stands in what R2 holds
  have look : ∀ {F2 H2 ε2' T'}, ε2'.length = ε1.length → Same F1 F2 → Sep K F2 R2 H2 (L2.wipe σ own) ε2' T' → (∀ i ∈ ws, ε2'[i]? = ε1[i]?) → G H2 ∧ ∀ i x H3, i < ds.length → Y i H2 x H3 → ∃ F3 d, ds[i]? = some d ∧ Rep K.1 F3 x d ∧ Grw F2 H2 F3 H3 := by
    intro F2 H2 ε2' T' l2 fm s' hq
    have s3 := (bk2 F2 H2 ε2' T' l2 fm s')
    have s4 : Sep K F2 R1 H2 σ (restC ε2' ε1 own) [] := by
      have := Sep.drops (T := []) T' (by simpa using s3)
      exact this
    refine hw F2 H2 σ _ fm s4 fun i hi => ⟨rfl, ?_⟩
    rw [restC_get _ _ l2, if_neg (hws i hi)]
    exact hq i hi
  refine lc_it w (fun i H2 => ∃ F2 ε2' acc rest, Same F1 F2 ∧ ε2'.length = ε1.length ∧ Sep K F2 R2 H2 (L2.wipe σ own) ε2' [(.ref Da, .ob .ls acc)] ∧ lcG k ws ε1 bind tests elt own (ds.drop i) acc.length ε2' = some (rest, ε2) ∧ acc ++ rest = out) ?_ ?_ ?_ ?_
  · -- the start
    refine ⟨F1, wipeC ε1 own, [], out, Same.refl F1, wipeC_length _ _, ?_, e2, rfl⟩
    exact (s2.newL (vs := []) (ds := []) hDa rfl).recell fun A h => rpc_toN h
  · -- what is walked stands
    rintro i H2 _ ⟨F2, ε2', acc, rest, fm, l2, s3, C1, C2⟩
    have hsame : sameC ws ε1 ε2' := by
      cases hd : ds.drop i with
      | nil =>
        rw [hd] at C1
        unfold lcG at C1
        split at C1
        · assumption
        · cases C1
      | cons d r =>
        rw [hd] at C1
        unfold lcG at C1
        split at C1
        · assumption
        · cases C1
    exact (look l2 fm s3 hsame).1
  · -- one turn
    rintro i x H2 H3 hi ⟨F2, ε2', acc, rest, fm, l2, s3, C1, C2⟩ y
    have hd : ds.drop i = ds[i] :: ds.drop (i + 1) := by rw [List.drop_eq_getElem_cons hi]
    rw [hd] at C1
    unfold lcG at C1
    split at C1
    · rename_i hsame
      obtain ⟨_, hy⟩ := look l2 fm s3 hsame
      obtain ⟨F3, d, hdi, rd, gr⟩ := hy i x H3 hi y
      rw [List.getElem?_eq_getElem hi] at hdi
      cases hdi
      have s4 := s3.grow gr
      obtain ⟨R3, _, s5, b5⟩ := s4.hide
      have fm3 := fm.trans gr.fm
      cases eb : bind ds[i] ε2' with
      | none => simp [eb] at C1
      | some εb =>
        refine hg F3 R3 H3 _ ε2' x _ εb _ s5 rd eb fun H4 σ2 bd => ?_
        have hwp : L2.wipe σ2 own = L2.wipe σ own := by rw [wipe_of_bnd hS bd.st bd.ln, wipe_wipe]
        refine ⟨hwp, ?_⟩
        have lb : εb.length = ε1.length := by rw [← bd.sep.len, bd.ln, s5.len]; exact l2
        cases et : tests εb with
        | none => simp [eb, et] at C1
        | some pt =>
          obtain ⟨b, εt⟩ := pt
          refine ⟨F3, R3, εb, b, εt, bd.sep, et, fun F5 H5 fm5 s6 => ?_⟩
          have lt : εt.length = ε1.length := by rw [← s6.len, bd.sep.len]; exact lb
          simp only [eb, et, Option.bind_eq_bind, Option.bind_some] at C1
          cases b with
          | false =>
            simp only [Bool.false_eq_true, if_false] at C1 ⊢
            have s7 := s6.wipe own
            rw [hwp] at s7
            exact ⟨F5, wipeC εt own, acc, rest, fm3.trans fm5, by rw [wipeC_length]; exact lt, b5 F5 H5 _ _ _ fm5 s7, C1, C2⟩
          | true =>
            simp only [if_true] at C1 ⊢
            cases ee : elt εt with
            | none => simp [ee] at C1
            | some pe =>
              obtain ⟨ce, εe⟩ := pe
              refine ⟨F5, R3, εt, ce, εe, s6, ee, fun v F6 H6 fm6 s7 => ?_⟩
              have le : εe.length = ε1.length := by rw [← s7.len, s6.len]; exact lt
              simp only [ee, Option.bind_some] at C1
              cases ec : k ce with
              | none => simp [ec] at C1
              | some c' =>
                simp only [ec, Option.bind_some] at C1
                split at C1
                · rename_i hsz
                  cases er : lcG k ws ε1 bind tests elt own (ds.drop (i + 1)) (acc.length + 1) (wipeC εe own) with
                  | none => simp [er] at C1
                  | some pr =>
                    obtain ⟨rr, εr⟩ := pr
                    simp [er] at C1
                    obtain ⟨rfl, rfl⟩ := C1
                    obtain ⟨F7, fm7, s8⟩ := hk _ _ _ _ _ _ _ _ _ s7 ec
                    have s9 := s8.wipe own
                    rw [hwp] at s9
                    -- the element waits aside while the list is fetched
                    have s10 : Sep K F7 R2 H6 (L2.wipe σ own) (wipeC εe own) ((v, c') :: (.ref Da, .ob .ls acc) :: []) := by
                      have := b5 F7 H6 _ _ [(v, c')] (fm5.trans (fm6.trans fm7)) s9
                      obtain ⟨a1, a2, a3, ⟨fs, gs, h1, ⟨o1, r1, f1, fr1, e1, e2, k1, ⟨o2, r2, f2, fr2, e3, e4, k2, k3, k4⟩⟩, n, m⟩⟩ := this
                      obtain ⟨rfl, rfl⟩ := List.cons.inj e1
                      obtain ⟨rfl, rfl⟩ := List.cons.inj e3
                      subst e2 e4 k4
                      have ef : ([f1, f2] : List (List Addr)).flatten = f1 ++ f2 := by simp
                      have ef2 : ([f2, f1] : List (List Addr)).flatten = f2 ++ f1 := by simp
                      rw [ef] at n m
                      refine ⟨a1, a2, a3, fs, [f2, f1], h1, ⟨_, _, _, _, rfl, rfl, k2, ⟨_, _, _, _, rfl, rfl, k1, rfl, rfl⟩⟩, ?_, fun b hb => m b ?_⟩
                      · rw [ef2]
                        rw [List.nodup_append, List.nodup_append] at n ⊢
                        refine ⟨n.1, ⟨n.2.1.2.1, n.2.1.1, fun a ha b hb => Ne.symm (n.2.1.2.2 b hb a ha)⟩, fun a ha b hb => n.2.2 a ha b ?_⟩
                        simp only [List.mem_append] at hb ⊢
                        exact hb.symm
                      · rw [ef2] at hb
                        simp only [List.mem_append] at hb ⊢
                        rcases hb with hb | hb | hb
                        · exact .inl hb
                        · exact .inr (.inr hb)
                        · exact .inr (.inl hb)
                    obtain ⟨ws', g1, g2, s11⟩ := s10.appN
                    refine ⟨ws', g1, by omega, F7, wipeC εe own, acc ++ [c'], rr, (fm3.trans fm5).trans (fm6.trans fm7), by rw [wipeC_length]; exact le, s11, by rw [List.length_append]; exact er, by simpa using C2⟩
                · cases C1
    · cases C1
  · -- the end
    rintro H2 ⟨F2, ε2', acc, rest, fm, l2, s3, C1, C2⟩
    rw [List.drop_length] at C1
    unfold lcG at C1
    split at C1
    · cases C1
      rw [List.append_nil] at C2
      subst C2
      exact q _ F2 H2 (fm1.trans fm) (bk F2 H2 σ _ _ fm (bk2 F2 H2 ε2 _ l2 fm s3))
    · cases C1
theorem tE_lc {src : SM} {bind : BM} {tests : TM} {elt : EM} {own : List Nat} {g : TG} {S : Nat → Prop} (hg : Gd K g bind S) (hS : ∀ i, S i → i ∈ own) {σ : St} {H : Hp} {Q : VK} (h : tE K (mLc src bind tests elt own) σ H Q) :
    tLc (tI K src) g (tT K tests) (tE K elt) own σ H Q := by
  obtain ⟨F, R, ε, c, ε', o, e, q⟩ := h
  unfold mLc at e
  cases e1 : src ε with
  | none => simp [e1] at e
  | some p =>
    obtain ⟨⟨ds, ws⟩, ε1⟩ := p
    simp only [e1, Option.bind_eq_bind, Option.bind_some] at e
    split at e
    · rename_i hws
      cases e2 : lcL ws ε1 bind tests elt own ds 0 (wipeC ε1 own) with
      | none => simp [e2] at e
      | some p2 =>
        obtain ⟨out, ε2⟩ := p2
        simp [e2] at e
        obtain ⟨rfl, rfl⟩ := e
        exact tE_lcG kp_frz hg hS ⟨F, R, ε, ds, ws, ε1, _, ε2, o, e1, by simpa using hws, lcL_G e2, fun v F' H' fm s => q v F' H' fm (s.recell fun A h => rpc_ofN h)⟩
    · cases e
end
end L2.M
namespace L2.M
open PySem PySem.Spec PyProof.Rows
abbrev Xw := Value → Option Addr → St → Hp → Prop
inductive Fl where
  | nx | bk | ct | rt (c : C) | xc (x : Xn)
abbrev XM := Cs → Option (Fl × Cs)
/-- the slots in io stay -/
structure StS (io : List Nat) (σ σ' : St) : Prop where
  st : ∀ i ∈ io, σ'[i]? = σ[i]?
  ln : σ'.length = σ.length
theorem StS.refl {io : List Nat} (σ : St) : StS io σ σ := ⟨fun _ _ => rfl, rfl⟩
theorem StS.trans {io : List Nat} {σ σ1 σ2 : St} (a : StS io σ σ1) (b : StS io σ1 σ2) : StS io σ σ2 := ⟨fun i h => (b.st i h).trans (a.st i h), b.ln.trans a.ln⟩
theorem StS.imp {io io' : List Nat} {σ σ1 : St} (a : StS io' σ σ1) (h : ∀ i ∈ io, i ∈ io') : StS io σ σ1 := ⟨fun i hi => a.st i (h i hi), a.ln⟩
theorem StS.set {io : List Nat} {σ : St} {i : Nat} {o : Option V} (h : i ∉ io) : StS io σ (σ.set i o) := ⟨fun j hj => List.getElem?_set_ne (by rintro rfl; exact h hj), by simp⟩
theorem Bnd.sts {K : Ek} {F R H H1 : Hp} {S : Nat → Prop} {σ σ1 : St} {ε ε1 : Cs} {io : List Nat} (b : Bnd K F R H S σ ε H1 σ1 ε1) (h : ∀ i, S i → i ∉ io) : StS io σ σ1 := ⟨fun i hi => b.st i fun z => h i z hi, b.ln⟩
def Fin (K : Ek) (R : Hp) (De : Ends) (W : Xw) (F' H' : Hp) (σ' : St) (ε' : Cs) : Fl → Prop
  | .nx => Sep K F' R H' σ' ε' [] → De.nx σ' H'
  | .bk => Sep K F' R H' σ' ε' [] → De.bk σ' H'
  | .ct => Sep K F' R H' σ' ε' [] → De.ct σ' H'
  | .rt c => ∀ v, Sep K F' R H' σ' ε' [(v, c)] → De.rt v H'
  | .xc x => ∀ cls d, Sep K F' R H' σ' ε' [] → RepX K F' cls d x → W cls d σ' H'
def tS (K : Ek) (W : Xw) (io : List Nat) (m : XM) : TS := fun De σ H => ∃ F R ε f ε', Sep K F R H σ ε [] ∧ m ε = some (f, ε') ∧ ∀ F' H' σ', Same F F' → StS io σ σ' → Fin K R De W F' H' σ' ε' f
theorem Fin.back {K : Ek} {F1 R R1 : Hp} {De : Ends} {W : Xw} {F' H' : Hp} {σ' : St} {ε' : Cs} {f : Fl} (bk : Back K F1 R1 R) (fm : Same F1 F') (h : Fin K R De W F' H' σ' ε' f) : Fin K R1 De W F' H' σ' ε' f := by
  cases f with
  | nx => exact fun s => h (bk F' H' σ' ε' [] fm s)
  | bk => exact fun s => h (bk F' H' σ' ε' [] fm s)
  | ct => exact fun s => h (bk F' H' σ' ε' [] fm s)
  | rt c => exact fun v s => h v (bk F' H' σ' ε' _ fm s)
  | xc x => exact fun cls d s => h cls d (bk F' H' σ' ε' _ fm s)
def mSkip : XM := fun ε => some (.nx, ε)
def mSeq (m n : XM) : XM := fun ε => match m ε with
  | some (.nx, ε1) => n ε1
  | r => r
section
variable {X : Cx} {W : Xw} {io : List Nat} {st : Stmt} {rest : List Stmt} {m n : XM} {e : Expr} {pos : Pos}
theorem ms_nil : PSs X [] (tS X.E W io mSkip) := ⟨fun pins s σ H De I h => by
  obtain ⟨F, R, ε, f, ε', o, e, q⟩ := h
  cases e
  exact pss_nil.run pins s σ H De I (q F H σ (Same.refl F) (StS.refl σ) o)⟩
theorem ms_cons (h1 : PS X st (tS X.E W io m)) (h2 : PSs X rest (tS X.E W io n)) : PSs X (st :: rest) (tS X.E W io (mSeq m n)) := ⟨fun pins s σ H De I h => by
  obtain ⟨F, R, ε, f, ε', o, e, q⟩ := h
  refine (pss_cons h1 h2).run pins s σ H De I ?_
  unfold mSeq at e
  split at e
  · rename_i ε1 e1
    exact ⟨F, R, ε, .nx, ε1, o, e1, fun F1 H1 σ1 fm1 t1 s1 => ⟨F1, R, ε1, f, ε', s1, e, fun F2 H2 σ2 fm2 t2 => q F2 H2 σ2 (fm1.trans fm2) (t1.trans t2)⟩⟩
  · rename_i r hr
    refine ⟨F, R, ε, f, ε', o, e, fun F1 H1 σ1 fm1 t1 => ?_⟩
    have := q F1 H1 σ1 fm1 t1
    cases f with
    | nx => exact (hr ε' e).elim
    | _ => exact this⟩
def mFlow (f : Fl) : XM := fun ε => some (f, ε)
/-- a statement that is not come to -/
def mStuck : XM := fun _ => none
theorem ms_never : PS X st (tS X.E W io mStuck) := ⟨fun pins s σ H De I h => by
  obtain ⟨F, R, ε, f, ε', o, e, q⟩ := h
  cases e⟩
theorem _root_.L2.PS.weak {t t' : TS} (h : PS X st t) (w : ∀ De σ H, t' De σ H → t De σ H) : PS X st t' := ⟨fun pins s σ H De I q => h.run pins s σ H De I (w De σ H q)⟩
def mExpr (m : EM) : XM := fun ε => do
  let (_, ε1) ← m ε
  some (.nx, ε1)
theorem ms_expr {m : EM} (he : PE X e (tE X.E m)) (hs : swapsWith e none pos.line X.env = pure false) : PS X (.Expr e pos) (tS X.E W io (mExpr m)) := (ps_expr he hs).weak fun De σ H h => by
  obtain ⟨F, R, ε, f, ε', o, e, q⟩ := h
  unfold mExpr at e
  cases e1 : m ε with
  | none => simp [e1] at e
  | some p =>
    obtain ⟨c, ε1⟩ := p
    simp [e1] at e
    obtain ⟨rfl, rfl⟩ := e
    exact ⟨F, R, ε, c, ε1, o, e1, fun v F1 H1 fm p => q F1 H1 σ fm (StS.refl σ) p.drop⟩
def mRet (m : EM) : XM := fun ε => do
  let (c, ε1) ← m ε
  some (.rt c, ε1)
theorem ms_ret {m : EM} (he : PE X e (tE X.E m)) : PS X (.Return (some e) pos) (tS X.E W io (mRet m)) := (ps_ret he).weak fun De σ H h => by
  obtain ⟨F, R, ε, f, ε', o, e, q⟩ := h
  unfold mRet at e
  cases e1 : m ε with
  | none => simp [e1] at e
  | some p =>
    obtain ⟨c, ε1⟩ := p
    simp [e1] at e
    obtain ⟨rfl, rfl⟩ := e
    exact ⟨F, R, ε, c, ε1, o, e1, fun v F1 H1 fm p => q F1 H1 σ fm (StS.refl σ) v p⟩
def mRetN : XM := fun ε => some (.rt (.sh .none), ε)
/-- return name: an own thing is handed out -/
def mRetV (io : List Nat) (i : Nat) : XM := fun ε => match ε[i]? with
  | some (.sh d) => some (.rt (.sh d), ε)
  | some (.ls ds) => if io.contains i then some (.rt (.sh (.list ds)), ε.set i (.sh (.list ds))) else some (.rt (.ls ds), ε.set i .no)
  | some (.dc k ds) => some (.rt (.dc k ds), ε.set i .no)
  | some (.ob k cs) => some (.rt (.ob k cs), ε.set i .no)
  | _ => none
theorem ms_retV {i : Nat} {x : Str} {p : Pos} (h : PE X (.Name x p) (tVar i)) : PS X (.Return (some (.Name x p)) pos) (tS X.E W io (mRetV io i)) := (ps_ret h).weak fun De σ H h => by
  obtain ⟨F, R, ε, f, ε', o, e, q⟩ := h
  have mv : ∀ {c : C}, ε[i]? = some c → c ≠ .no → f = .rt c → ε' = ε.set i .no → ∃ v, σ[i]? = some (some v) ∧ De.rt v H := fun {c} h1 h2 h3 h4 => by
    obtain ⟨v, hv⟩ := o.val h1 h2
    subst h3 h4
    exact ⟨v, hv, q F H σ (Same.refl F) (StS.refl σ) v (o.take h1 hv)⟩
  unfold mRetV at e
  split at e
  · rename_i d hd
    cases e
    obtain ⟨v, h1, h2⟩ := o.sh hd
    exact ⟨v, h1, q F H σ (Same.refl F) (StS.refl σ) v (o.addSh h2)⟩
  · rename_i ds hd
    split at e
    · cases e
      exact o.frzVal hd rfl fun v F' H' fm s => q F' H' σ fm (StS.refl σ) v s
    · cases e
      exact mv hd (fun z => nomatch z) rfl rfl
  · rename_i hd
    cases e
    exact mv hd (fun z => nomatch z) rfl rfl
  · rename_i hd
    cases e
    exact mv hd (fun z => nomatch z) rfl rfl
  · cases e
def mIf (t : TM) (m n : XM) : XM := fun ε => do
  let (b, ε1) ← t ε
  if b then m ε1 else n ε1
theorem ms_if {c : Expr} {a b : List Stmt} {t : TM} (hc : PT X c (tT X.E t)) (ha : PSs X a (tS X.E W io m)) (hb : PSs X b (tS X.E W io n)) : PS X (.If c a b pos) (tS X.E W io (mIf t m n)) := (ps_if hc ha hb).weak fun De σ H h => by
  obtain ⟨F, R, ε, f, ε', o, e, q⟩ := h
  unfold mIf at e
  cases e1 : t ε with
  | none => simp [e1] at e
  | some p =>
    obtain ⟨k, ε1⟩ := p
    simp [e1] at e
    refine ⟨F, R, ε, k, ε1, o, e1, fun F1 H1 fm1 s1 => ?_⟩
    cases k with
    | true =>
      simp at e
      exact iteT ⟨F1, R, ε1, f, ε', s1, e, fun F2 H2 σ2 fm2 t2 => q F2 H2 σ2 (fm1.trans fm2) t2⟩
    | false =>
      simp at e
      exact iteF ⟨F1, R, ε1, f, ε', s1, e, fun F2 H2 σ2 fm2 t2 => q F2 H2 σ2 (fm1.trans fm2) t2⟩
def mSet (io : List Nat) (i : Nat) (m : EM) : XM := fun ε => do
  let (c, ε1) ← m ε
  if i < ε1.length ∧ i ∉ io then some (.nx, ε1.set i c) else none
theorem tS_set {K : Ek} {i : Nat} {m : EM} {De : Ends} {σ : St} {H : Hp} (h : tS K W io (mSet io i m) De σ H) : tAsg (tE K m) (gName i) De σ H := by
  obtain ⟨F, R, ε, f, ε', o, e, q⟩ := h
  unfold mSet at e
  cases e1 : m ε with
  | none => simp [e1] at e
  | some p =>
    obtain ⟨c, ε1⟩ := p
    simp [e1] at e
    obtain ⟨⟨hi, hio⟩, rfl, rfl⟩ := e
    exact ⟨F, R, ε, c, ε1, o, e1, fun v F1 H1 fm p => q F1 H1 _ fm (StS.set hio) (p.store i)⟩
theorem ms_set {i : Nat} {x : Str} {m : EM} {p : Pos} (hN : X.N.Nodup) (hi : X.N[i]? = some x) (hx : Loc X.env.scope x) (he : PE X e (tE X.E m)) (hs : swapsWith e (some (.Name x p)) pos.line X.env = pure false) (hf : X.fn x = true ∨ X.env.scope.names.lookup x = some .local) :
    PS X (.Assign [.Name x p] e pos) (tS X.E W io (mSet io i m)) := (ps_set hN hi hx he hs hf).weak fun De σ H h => tS_set h
/-- a target of several names: the value is frozen data -/
def mAsg (ts io : List Nat) (b : BM) (m : EM) : XM := fun ε => do
  let (c, ε1) ← m ε
  let d ← (match c with | .sh d => some d | _ => none)
  let ε2 ← b d ε1
  if ts.all (fun i => !io.contains i) then some (.nx, ε2) else none
theorem tS_asg {K : Ek} {ts : List Nat} {b : BM} {g : TG} {m : EM} (hg : Gd K g b (· ∈ ts)) {De : Ends} {σ : St} {H : Hp} (h : tS K W io (mAsg ts io b m) De σ H) : tAsg (tE K m) g De σ H := by
  obtain ⟨F, R, ε, f, ε', o, e, q⟩ := h
  unfold mAsg at e
  cases e1 : m ε with
  | none => simp [e1] at e
  | some p =>
    obtain ⟨c, ε1⟩ := p
    cases c with
    | sh d =>
      cases e2 : b d ε1 with
      | none => simp [e1, e2] at e
      | some ε2 =>
        simp only [e1, e2, Option.bind_eq_bind, Option.bind_some] at e
        split at e
        · rename_i hts
          cases e
          have hts : ∀ i ∈ ts, i ∉ io := by simpa using hts
          refine ⟨F, R, ε, .sh d, ε1, o, e1, fun v F1 H1 fm p => ?_⟩
          refine hg F1 R H1 σ ε1 v d ε' _ p.drop p.repT e2 fun H2 σ2 bd => ?_
          exact q F1 H2 σ2 fm (bd.sts hts) bd.sep
        · cases e
    | no => simp [e1] at e
    | ls ds => simp [e1] at e
    | dc k ds => simp [e1] at e
    | ob k ds => simp [e1] at e
    | px _ _ _ _ => simp [e1] at e
    | fn _ => simp [e1] at e
    | fd _ => simp [e1] at e
    | fk _ => simp [e1] at e
theorem ms_asg {tg : Expr} {ts : List Nat} {b : BM} {g : TG} {m : EM} (hg : Gd X.E g b (· ∈ ts)) (he : PE X e (tE X.E m)) (hp : PG X tg g) (hs : swapsWithSole [tg] e pos.line X.env = pure false) (hw : swappedStores [tg] e X.env = pure none)
    (h1 : (assignEach [tg] X.env).map (·.2) = [assign tg X.env]) : PS X (.Assign [tg] e pos) (tS X.E W io (mAsg ts io b m)) := (ps_asg he hp hs hw h1).weak fun De σ H h => tS_asg hg h
end
section
variable {K : Ek} {F R H : Hp} {σ : St} {ε : Cs} {T : Tms}
/-- an own list in a slot: what stands there, and how it is rewritten -/
theorem Sep.atL {i : Nat} {ds : List D} (s : Sep K F R H σ ε T) (h : ε[i]? = some (.ls ds)) : ∃ a vs, σ[i]? = some (some (.ref a)) ∧ H a = some (.lst vs) ∧ Reps K.1 F vs ds ∧ ∀ ws es, Reps K.1 F ws es → Sep K F R (upd H a (.lst ws)) σ (ε.set i (.ls es)) T := by
  obtain ⟨a, vs, h1, h2, h3⟩ := s.lst h
  refine ⟨a, vs, h1, h2, h3, fun ws es r => ?_⟩
  have := ((s.take h h1).wr r).put h1
  rw [List.set_set] at this
  exact this
end
/-- xs.append(e) -/
def mApp (i : Nat) (m : EM) : XM := fun ε => match ε[i]? with
  | some (.ls _) => do
    let (c, ε1) ← m ε
    let d ← cD c
    match ε1[i]? with
      | some (.ls xs) => if xs.length < sizeLine then some (.nx, ε1.set i (.ls (xs ++ [d]))) else none
      | _ => none
  | _ => none
/-- .. to a list of own things -/
def mAppN (i : Nat) (m : EM) : XM := fun ε => match ε[i]? with
  | some (.ob .ls _) => do
    let (c, ε1) ← m ε
    match ε1[i]? with
      | some (.ob .ls cs) => if cs.length < sizeLine then some (.nx, ε1.set i (.ob .ls (cs ++ [c]))) else none
      | _ => none
  | _ => none
section
variable {X : Cx} {W : Xw} {io : List Nat} {pos : Pos}
theorem ms_app {i : Nat} {m : EM} {e : Expr} {x : Str} {p p2 p3 : Pos} (hv : PE X (.Name x p) (tVar i)) (he : PE X e (tE X.E m))
    (hbm : ∀ {to : TE} {t : TA}, PE X (.Name x p) to → PA X [e] t → PE X (.Call (.Attribute (.Name x p) "append" p2) [e] [] p3) (tBM X.K "list" rAppend to t)) (hst : starEach [e] X.env = [(false, eval e X.env)])
    (hs : swapsWith (.Call (.Attribute (.Name x p) "append" p2) [e] [] p3) none pos.line X.env = pure false) : PS X (.Expr (.Call (.Attribute (.Name x p) "append" p2) [e] [] p3) pos) (tS X.E W io (mApp i m)) :=
  (ps_expr (hbm hv (pa_cons he pa_nil hst)) hs).weak fun De σ H h => by
    obtain ⟨F, R, ε, f, ε', o, e, q⟩ := h
    unfold mApp at e
    split at e
    · rename_i xs0 hx0
      cases e1 : m ε with
      | none => simp [e1] at e
      | some p =>
        obtain ⟨c, ε1⟩ := p
        cases ec : cD c with
        | none => simp [e1, ec] at e
        | some d =>
          simp only [e1, ec, Option.bind_eq_bind, Option.bind_some] at e
          split at e
          · rename_i xs hx
            split at e
            · rename_i hl
              cases e
              obtain ⟨a, vs, h1, h2, h3⟩ := o.lst hx0
              refine ⟨_, h1, .inl ⟨rfl, vs, .inl (.inl h2)⟩, F, R, ε, c, ε1, o, e1, fun v F1 H1 fm p => ?_⟩
              obtain ⟨F2, fm2, r2, s2⟩ := p.freeze ec
              obtain ⟨a', vs', g1, g2, g4, wr⟩ := s2.atL hx
              rw [h1] at g1
              cases g1
              refine ⟨a, vs', v, rfl, rfl, g2, by rw [g4.length]; exact hl, ?_⟩
              exact q F2 _ σ (fm.trans fm2) (StS.refl σ) (wr _ _ (g4.append (Reps.one r2)))
            · cases e
          · cases e
    · cases e
/-- xs[k] = e -/
def mSetIx (i : Nat) (m : EM) (ix : OM) : XM := fun ε => do
  let (c, ε1) ← m ε
  let d ← cD c
  match ε1[i]? with
  | some (.ls _) => do
    let (p, ε2) ← ix ε1
    let k ← bor ε2 p
    match k, ε2[i]? with
      | .int k, some (.ls xs) => do
        let j ← ixN xs.length k
        some (.nx, ε2.set i (.ls (xs.set j d)))
      | _, _ => none
  | _ => none
theorem ms_setIx {i : Nat} {m : EM} {ix : OM} {e k : Expr} {x : Str} {p p2 : Pos} (hv : PE X (.Name x p) (tVar i)) (he : PE X e (tE X.E m)) (hk : PE X k (tO X.E ix))
    (ha : ∀ v, assign (.Subscript (.Name x p) k p2) X.env v = (do
      let ov ← holding [v] (eval (.Name x p) X.env)
      let iv ← holding [v, ov] (eval k X.env)
      standAt p2
      holding [v, ov, iv] (setItem ov iv v)
      release [v, ov, iv] []))
    (hs : swapsWithSole [.Subscript (.Name x p) k p2] e pos.line X.env = pure false) (hw : swappedStores [.Subscript (.Name x p) k p2] e X.env = pure none)
    (h1 : (assignEach [.Subscript (.Name x p) k p2] X.env).map (·.2) = [assign (.Subscript (.Name x p) k p2) X.env]) : PS X (.Assign [.Subscript (.Name x p) k p2] e pos) (tS X.E W io (mSetIx i m ix)) :=
  (ps_asg he (pg_sub hv hk set_list ha) hs hw h1).weak fun De σ H h => by
    obtain ⟨F, R, ε, f, ε', o, e, q⟩ := h
    unfold mSetIx at e
    cases e1 : m ε with
    | none => simp [e1] at e
    | some p =>
      obtain ⟨c, ε1⟩ := p
      cases ec : cD c with
      | none => simp [e1, ec] at e
      | some d =>
        simp only [e1, ec, Option.bind_eq_bind, Option.bind_some] at e
        split at e
        · rename_i xs0 hx0
          cases e2 : ix ε1 with
          | none => simp [e2] at e
          | some p2 =>
            obtain ⟨p, ε2⟩ := p2
            cases e3 : bor ε2 p with
            | none => simp [e2, e3] at e
            | some kd =>
              simp only [e2, e3, Option.bind_some] at e
              split at e
              · rename_i k xs hx
                cases e4 : ixN xs.length k with
                | none => simp [e4] at e
                | some j =>
                  simp [e4] at e
                  obtain ⟨rfl, rfl⟩ := e
                  refine ⟨F, R, ε, c, ε1, o, e1, fun v F1 H1 fm1 p1 => ?_⟩
                  obtain ⟨F2, fm2, r2, s2⟩ := p1.freeze ec
                  obtain ⟨w, hw⟩ := s2.val hx0 fun z => nomatch z
                  refine ⟨w, hw, F2, R, ε1, p, ε2, s2, e2, fun kv F3 H3 fm3 v3 s3 => ?_⟩
                  rw [← List.append_nil (tmO [p] [kv])] at s3
                  have rb := bors_ok (ds := [.int k]) s3 v3 (by simp [bors, e3])
                  obtain ⟨x', ex, hx'⟩ := rb.one
                  cases ex
                  rw [rb_int hx']
                  obtain ⟨a, vs, g1, g2, g4, wr⟩ := (s3.drops _).atL hx
                  rw [hw] at g1
                  cases g1
                  refine ⟨a, vs, k, j, rfl, rfl, g2, by rw [g4.length]; exact e4, ?_⟩
                  exact q F3 _ σ ((fm1.trans fm2).trans fm3) (StS.refl σ) (wr _ _ (Reps.set (Rep.mono fm3 _ _ r2) j g4))
              · cases e
        · cases e
def whileN (t : TM) (b : XM) : Nat → XM
  | 0, _ => none
  | n + 1, ε => do
    let (k, ε1) ← t ε
    if k then do
      let (f, ε2) ← b ε1
      match f with
        | .nx => whileN t b n ε2
        | .ct => whileN t b n ε2
        | .bk => some (.nx, ε2)
        | .rt c => some (.rt c, ε2)
        | .xc x => some (.xc x, ε2)
    else some (.nx, ε1)
theorem whileN_succ {t : TM} {b : XM} : ∀ {n : Nat} {ε : Cs} {r : Fl × Cs}, whileN t b n ε = some r → whileN t b (n + 1) ε = some r
  | 0, ε, r, h => by cases h
  | n + 1, ε, r, h => by
    unfold whileN at h ⊢
    cases e1 : t ε with
    | none => simp [e1] at h
    | some p =>
      obtain ⟨k, ε1⟩ := p
      simp only [e1, Option.bind_eq_bind, Option.bind_some] at h ⊢
      cases k with
      | false => exact h
      | true =>
        simp only [if_true] at h ⊢
        cases e2 : b ε1 with
        | none => simp [e2] at h
        | some p2 =>
          obtain ⟨f, ε2⟩ := p2
          simp only [e2, Option.bind_some] at h ⊢
          cases f with
          | nx => exact whileN_succ h
          | ct => exact whileN_succ h
          | bk => exact h
          | rt c => exact h
          | xc x => exact h
theorem whileN_le {t : TM} {b : XM} {n m : Nat} {ε : Cs} {r : Fl × Cs} (h : whileN t b n ε = some r) (hm : n ≤ m) : whileN t b m ε = some r := by
  induction hm with
  | refl => exact h
  | step _ ih => exact whileN_succ ih
open Classical in
noncomputable def mWhile (t : TM) (b : XM) : XM := fun ε => if h : ∃ n, (whileN t b n ε).isSome then whileN t b h.choose ε else none
theorem mWhile_of {t : TM} {b : XM} {n : Nat} {ε : Cs} {r : Fl × Cs} (h : whileN t b n ε = some r) : mWhile t b ε = some r := by
  have hx : ∃ n, (whileN t b n ε).isSome := ⟨n, by rw [h]; rfl⟩
  unfold mWhile
  rw [dif_pos hx]
  obtain ⟨r', hr⟩ := Option.isSome_iff_exists.mp hx.choose_spec
  have h1 := whileN_le h (Nat.le_max_left n hx.choose)
  have h2 := whileN_le hr (Nat.le_max_right n hx.choose)
  rw [hr, ← h1, h2]
theorem mWhile_to {t : TM} {b : XM} {ε : Cs} {r : Fl × Cs} (h : mWhile t b ε = some r) : ∃ n, whileN t b n ε = some r := by
  unfold mWhile at h
  split at h
  · exact ⟨_, h⟩
  · cases h
theorem ms_while {c : Expr} {body : List Stmt} {t : TM} {b : XM} (hp : PassesOwn (model X.prog X.w) X.A X.env X.xe) (hc : PT X c (tT X.E t)) (hb : PSs X body (tS X.E W io b)) : PS X (.While c body [] pos) (tS X.E W io (mWhile t b)) :=
  (ps_while hp hc hb).weak fun De σ H h => by
    obtain ⟨F, R, ε, f, ε', o, e, q⟩ := h
    obtain ⟨n, e⟩ := mWhile_to e
    refine ⟨fun n σ2 H2 => ∃ F2 ε2, Same F F2 ∧ StS io σ σ2 ∧ Sep X.E F2 R H2 σ2 ε2 [] ∧ whileN t b n ε2 = some (f, ε'), ⟨n, F, ε, Same.refl F, StS.refl σ, o, e⟩, ?_⟩
    rintro n σ2 H2 ⟨F2, ε2, fm2, t2, s2, e2⟩
    cases n with
    | zero => cases e2
    | succ n =>
      unfold whileN at e2
      cases e3 : t ε2 with
      | none => simp [e3] at e2
      | some p =>
        obtain ⟨k, ε3⟩ := p
        simp only [e3, Option.bind_eq_bind, Option.bind_some] at e2
        refine ⟨F2, R, ε2, k, ε3, s2, e3, fun F3 H3 fm3 s3 => ?_⟩
        cases k with
        | false =>
          simp only [Bool.false_eq_true, if_false] at e2
          cases e2
          exact iteF (q F3 H3 σ2 (fm2.trans fm3) t2 s3)
        | true =>
          simp only [if_true] at e2
          refine iteT ⟨fun σ' H' => ∃ F4 ε4, Same F F4 ∧ StS io σ σ' ∧ Sep X.E F4 R H' σ' ε4 [] ∧ whileN t b n ε4 = some (f, ε'), fun σ' H' hN => ⟨n, Nat.lt_succ_self n, hN⟩, ?_⟩
          cases e4 : b ε3 with
          | none => simp [e4] at e2
          | some p4 =>
            obtain ⟨g, ε4⟩ := p4
            simp only [e4, Option.bind_some] at e2
            refine ⟨F3, R, ε3, g, ε4, s3, e4, fun F4 H4 σ4 fm4 t4 => ?_⟩
            have fm := (fm2.trans fm3).trans fm4
            have tt := t2.trans t4
            cases g with
            | nx => exact fun s4 => ⟨F4, ε4, fm, tt, s4, e2⟩
            | ct => exact fun s4 => ⟨F4, ε4, fm, tt, s4, e2⟩
            | bk => cases e2; exact fun s4 => q F4 H4 σ4 fm tt s4
            | rt c => cases e2; exact q F4 H4 σ4 fm tt
            | xc x => cases e2; exact q F4 H4 σ4 fm tt
open Classical in
noncomputable def forL (ws : List Nat) (ε0 : Cs) (bind : BM) (body : XM) : List M.D → XM
  | [], ε => if sameC ws ε0 ε then some (.nx, ε) else none
  | d :: ds, ε => if sameC ws ε0 ε then do
      let ε1 ← bind d ε
      let (f, ε2) ← body ε1
      match f with
        | .nx => forL ws ε0 bind body ds ε2
        | .ct => forL ws ε0 bind body ds ε2
        | .bk => some (.nx, ε2)
        | .rt c => some (.rt c, ε2)
        | .xc x => some (.xc x, ε2)
    else none
noncomputable def mFor (io' : List Nat) (src : SM) (bind : BM) (body : XM) : XM := fun ε => do
  let ((ds, ws), ε1) ← src ε
  if ws.all (fun i => io'.contains i) then forL ws ε1 bind body ds ε1 else none
theorem ms_for {iter tg : Expr} {body : List Stmt} {io' ts : List Nat} {src : SM} {g : TG} {bind : BM} {b : XM} (hp : PassesOwn (model X.prog X.w) X.A X.env X.xe) (hc : X.calm = true) (hi : PI X tg iter (tI X.E src)) (hg : PG X tg g) (hgd : Gd X.E g bind (· ∈ ts))
    (hb : PSs X body (tS X.E W io' b)) (hio : ∀ i ∈ io, i ∈ io') (hts : ∀ i ∈ ts, i ∉ io') (hs : ∀ x, foldedSetIterable iter X.env x = pure x) : PS X (.For tg iter body [] pos) (tS X.E W io (mFor io' src bind b)) :=
  (ps_for hp hc hi hg hb hs).weak fun De σ H h => by
    obtain ⟨F, R, ε, f, ε', o, e, q⟩ := h
    unfold mFor at e
    cases e1 : src ε with
    | none => simp [e1] at e
    | some p =>
      obtain ⟨⟨ds, ws⟩, ε1⟩ := p
      simp only [e1, Option.bind_eq_bind, Option.bind_some] at e
      split at e
      · rename_i hws
        have hws : ∀ i ∈ ws, i ∈ io' := by simpa using hws
        refine ⟨F, R, ε, ds, ws, ε1, o, e1, fun F1 R1 H1 J fm1 s1 bk sr => ?_⟩
        obtain ⟨G, Y, w, hw⟩ := sr
        have same : ∀ {l : List M.D} {ε2 : Cs} {r : Fl × Cs}, forL ws ε1 bind b l ε2 = some r → sameC ws ε1 ε2 := fun {l ε2 r} h => by
          cases l with
          | nil =>
            unfold forL at h
            split at h
            · assumption
            · cases h
          | cons d l =>
            unfold forL at h
            split at h
            · assumption
            · cases h
        have q1 : ∀ F' H' σ', Same F1 F' → StS io' σ σ' → Fin X.E R1 De W F' H' σ' ε' f := fun F' H' σ' fm t => (q F' H' σ' (fm1.trans fm) (t.imp hio)).back bk fm
        refine for_it w (fun i σ2 H2 => ∃ F2 ε2, Same F1 F2 ∧ StS io' σ σ2 ∧ Sep X.E F2 R1 H2 σ2 ε2 [] ∧ forL ws ε1 bind b (ds.drop i) ε2 = some (f, ε')) ⟨F1, ε1, Same.refl F1, StS.refl σ, s1, e⟩ ?_ ?_ ?_
        · rintro i σ2 H2 _ ⟨F2, ε2, fm2, t2, s2, C1⟩
          exact (hw F2 H2 σ2 ε2 fm2 s2 fun j hj => ⟨t2.st j (hws j hj), same C1 j hj⟩).1
        · rintro i x σ2 H2 H3 hi ⟨F2, ε2, fm2, t2, s2, C1⟩ y
          obtain ⟨_, hy⟩ := hw F2 H2 σ2 ε2 fm2 s2 fun j hj => ⟨t2.st j (hws j hj), same C1 j hj⟩
          obtain ⟨F3, d, hdi, rd, gr⟩ := hy i x H3 hi y
          rw [List.getElem?_eq_getElem hi] at hdi
          cases hdi
          have s3 := s2.grow gr
          have hd : ds.drop i = ds[i] :: ds.drop (i + 1) := by rw [List.drop_eq_getElem_cons hi]
          rw [hd] at C1
          unfold forL at C1
          split at C1
          · cases eb : bind ds[i] ε2 with
            | none => simp [eb] at C1
            | some εb =>
              refine hgd F3 R1 H3 σ2 ε2 x _ εb _ s3 rd eb fun H4 σ4 bd => ?_
              have t4 := t2.trans (bd.sts (io := io') fun j hj => hts j hj)
              simp only [eb, Option.bind_eq_bind, Option.bind_some] at C1
              cases e5 : b εb with
              | none => simp [e5] at C1
              | some p5 =>
                obtain ⟨g, ε5⟩ := p5
                simp only [e5, Option.bind_some] at C1
                refine ⟨F3, R1, εb, g, ε5, bd.sep, e5, fun F5 H5 σ5 fm5 t5 => ?_⟩
                have fm := (fm2.trans gr.fm).trans fm5
                have tt := t4.trans t5
                cases g with
                | nx => exact fun s5 => ⟨F5, ε5, fm, tt, s5, C1⟩
                | ct => exact fun s5 => ⟨F5, ε5, fm, tt, s5, C1⟩
                | bk => cases C1; exact fun s5 => q1 F5 H5 σ5 fm tt s5
                | rt c => cases C1; exact q1 F5 H5 σ5 fm tt
                | xc x => cases C1; exact q1 F5 H5 σ5 fm tt
          · cases C1
        · rintro σ2 H2 ⟨F2, ε2, fm2, t2, s2, C1⟩
          rw [List.drop_length] at C1
          unfold forL at C1
          split at C1
          · cases C1
            exact q1 F2 H2 σ2 fm2 t2 s2
          · cases C1
      · cases e
end
end L2.M
namespace L2.M
open PySem PySem.Spec PyProof.Rows
def chnL : Opd → List ((D → D → Option C) × OM) → EM
  | _, [], _ => none
  | o, [(f, m)], ε => do
    let (p, ε1) ← m ε
    let d ← bor ε1 o
    let e ← bor ε1 p
    let c ← f d e
    some (c, ε1)
  | o, (f, m) :: x :: l, ε => do
    let (p, ε1) ← m ε
    let d ← bor ε1 o
    let e ← bor ε1 p
    match f d e with
      | some (.sh (.bool true)) => chnL p (x :: l) ε1
      | some (.sh (.bool false)) => some (.sh (.bool false), ε1)
      | _ => none
def mChn (m : OM) (l : List ((D → D → Option C) × OM)) : EM := fun ε => do
  let (o, ε1) ← m ε
  chnL o l ε1
inductive Chn (X : Cx) : List CmpOp → List Expr → List ((D → D → Option C) × OM) → Prop where
  | one {op : CmpOp} {e : Expr} {f : D → D → Option C} {m : OM} {r : R2} : OpR X (compareOp op) r → Fn2 X.K f r → PE X e (tO X.E m) → Chn X [op] [e] [(f, m)]
  | cons {op : CmpOp} {e : Expr} {f : D → D → Option C} {m : OM} {r : R2} {op' : CmpOp} {ops : List CmpOp} {e' : Expr} {es : List Expr} {x : (D → D → Option C) × OM} {l : List ((D → D → Option C) × OM)} :
      OpR X (compareOp op) r → Fn2 X.K f r → PE X e (tO X.E m) → Chn X (op' :: ops) (e' :: es) (x :: l) → Chn X (op :: op' :: ops) (e :: e' :: es) ((f, m) :: x :: l)
section
variable {X : Cx}
/-- two operands, the first one waiting while the second is reckoned -/
structure Two (X : Cx) (F R H : Hp) (σ : St) (ε : Cs) (x : V) (o : Opd) : Prop where
  ov : OpV σ [x] [o]
  sep : Sep X.E F R H σ ε (tmO [o] [x])
theorem Two.borne {F R H : Hp} {σ : St} {ε : Cs} {x : V} {o : Opd} {d : D} (t : Two X F R H σ ε x o) (e : bor ε o = some d) : RepB X.K F H x d := by
  have s := t.sep
  rw [← List.append_nil (tmO [o] [x])] at s
  exact (bors_ok s t.ov (by simp [bors, e])).inj1
/-- behind the second operand -/
theorem Two.next {F R H : Hp} {σ : St} {ε ε1 : Cs} {x : V} {o p : Opd} {m : OM} (t : Two X F R H σ ε x o) (em : m ε = some (p, ε1)) {Q : VK}
    (k : ∀ y F1 H1, Same F F1 → Two X F1 R H1 σ ε1 x o → (∀ F2 H2, Same F1 F2 → Sep X.E F2 R H2 σ ε1 (tmO [o] [x] ++ tmO [p] [y]) → Two X F2 R H2 σ ε1 y p) → OpV σ [y] [p] → Sep X.E F1 R H1 σ ε1 (tmO [o] [x] ++ tmO [p] [y]) → Q y H1) : tO X.E m σ H Q := by
  obtain ⟨R1, s1, bk⟩ := t.sep.hides
  refine ⟨F, R1, ε, p, ε1, s1, em, fun y F1 H1 fm vy sy => ?_⟩
  have s2 := bk F1 H1 σ ε1 _ fm sy
  refine k y F1 H1 fm ⟨t.ov, ?_⟩ (fun F2 H2 fm2 s3 => ⟨vy, s3.drops _⟩) vy s2
  have s3 := s1.grow (Grw.refl s1.sub)
  -- the first one alone
  have ov := t.ov
  cases o with
  | pl i => exact Sep.drops (T := []) (tmO [p] [y]) (by simpa [tmO] using s2)
  | tm c =>
    obtain ⟨R2, _, s4, bk2⟩ := Sep.hide (T := tmO [p] [y]) s2
    exact bk2 F1 H1 σ ε1 [] (Same.refl F1) (Sep.drops (T := []) (tmO [p] [y]) (by simpa using s4))
theorem chn_run : ∀ {ops : List CmpOp} {es : List Expr} {l : List ((D → D → Option C) × OM)}, Chn X ops es l → ∀ {pins : List (Addr × Obj)} {s : Shared} {σ : St} {F R H : Hp} {ε : Cs} {o : Opd} {x : V} {v : Value} {c : C} {ε' : Cs} {pos : Pos} {Q : VK}, Two X F R H σ ε x o →
    Inv X pins σ H s → RelV x v → chnL o l ε = some (c, ε') → (∀ w F' H', Same F F' → Sep X.E F' R H' σ ε' [(w, c)] → Q w H') →
    wpAny (model X.prog X.w) X.A (compareChain pos v ops (evalEach es X.env)) (EP X pins σ Q) X.xe s := by
  intro ops es l h
  induction h with
  | one ho hf he =>
    intro pins s σ F R H ε o x v c ε' pos Q tw I rx e q
    rename_i op ex f m rr
    simp only [chnL] at e
    cases e1 : m ε with
    | none => simp [e1] at e
    | some p =>
      obtain ⟨p, ε1⟩ := p
      cases e2 : bor ε1 o with
      | none => simp [e1, e2] at e
      | some d =>
        cases e3 : bor ε1 p with
        | none => simp [e1, e2, e3] at e
        | some d2 =>
          cases e4 : f d d2 with
          | none => simp [e1, e2, e3, e4] at e
          | some c' =>
            simp [e1, e2, e3, e4] at e
            obtain ⟨rfl, rfl⟩ := e
            refine chain_last (thn (he.run pins s σ H (fun y H1 => rr x y H1 Q) I (tw.next e1 fun y F1 H1 fm t1 t2 vy s1 => ?_)) fun u s4 ⟨y, H4, I4, r4, q4⟩ => ho pins s4 σ H4 x y v u Q I4 rx r4 q4)
            refine hf F1 H1 x y d d2 c' Q s1.sub (t1.borne e2) ((t2 F1 H1 (Same.refl F1) s1).borne e3) e4 fun w F2 H2 g => ?_
            exact q w F2 H2 (fm.trans g.fm) (Sep.res (Sep.drops (T := []) (tmO [o] [x] ++ tmO [p] [y]) (by simpa using s1)) g)
  | cons ho hf he hr ih =>
    intro pins s σ F R H ε o x v c ε' pos Q tw I rx e q
    rename_i op ex f m rr op' ops e' es y0 l
    simp only [chnL] at e
    cases e1 : m ε with
    | none => simp [e1] at e
    | some p =>
      obtain ⟨p, ε1⟩ := p
      cases e2 : bor ε1 o with
      | none => simp [e1, e2] at e
      | some d =>
        cases e3 : bor ε1 p with
        | none => simp [e1, e2, e3] at e
        | some d2 =>
          simp only [e1, e2, e3, Option.bind_eq_bind, Option.bind_some] at e
          refine chain_link (thn (he.run pins s σ H (fun y H1 => rr x y H1 fun z H2 => ∃ k F2, z = .bl k ∧ f d d2 = some (.sh (.bool k)) ∧ Same F F2 ∧ Two X F2 R H2 σ ε1 y p) I (tw.next e1 fun y F1 H1 fm t1 t2 vy s1 => ?_))
            fun u s4 ⟨y, H4, I4, r4, q4⟩ => thn (ho pins s4 σ H4 x y v u _ I4 rx r4 q4) fun dd s5 ⟨z, H5, I5, r5, k, F5, ez, ek, fm5, T5⟩ => ?_)
          · have fin : ∀ k, f d d2 = some (.sh (.bool k)) → rr x y H1 fun z H2 => ∃ k F2, z = .bl k ∧ f d d2 = some (.sh (.bool k)) ∧ Same F F2 ∧ Two X F2 R H2 σ ε1 y p := fun k ek => by
              refine hf F1 H1 x y d d2 _ _ s1.sub (t1.borne e2) ((t2 F1 H1 (Same.refl F1) s1).borne e3) ek fun w F2 H2 g => ?_
              have hw : w = .bl k := by
                have r := g.rep
                simpa only [RepC, Rep] using r
              exact ⟨k, F2, hw, ek, fm.trans g.fm, t2 F2 H2 g.fm (s1.grow g.grw)⟩
            split at e
            · exact fin true (by assumption)
            · exact fin false (by assumption)
            · cases e
          · subst ez
            cases r5
            refine wpAny_truthy_bool ?_
            cases k with
            | false =>
              rw [ek] at e
              cases e
              exact ite_ff ⟨.bl false, H5, I5, rfl, q _ F5 H5 fm5 (Sep.addB (Sep.drops (T := []) (tmO [p] [y]) (by simpa using T5.sep)) false)⟩
            | true =>
              rw [ek] at e
              exact ite_tt (ih T5 I5 r4 e fun w F' H' fm => q w F' H' (fm5.trans fm))
theorem tst_run : ∀ {ops : List CmpOp} {es : List Expr} {l : List ((D → D → Option C) × OM)}, Chn X ops es l → ∀ {pins : List (Addr × Obj)} {s : Shared} {σ : St} {F R H : Hp} {ε : Cs} {o : Opd} {x : V} {v : Value} {b : Bool} {ε' : Cs} {pos : Pos} {Q : Bool → Hp → Prop}, Two X F R H σ ε x o →
    Inv X pins σ H s → RelV x v → chnL o l ε = some (.sh (.bool b), ε') → (∀ F' H', Same F F' → Sep X.E F' R H' σ ε' [] → Q b H') →
    wpAny (model X.prog X.w) X.A (testChain pos v ops (evalEach es X.env)) (fun k s' => ∃ H', Inv X pins σ H' s' ∧ Q k H') X.xe s := by
  intro ops es l h
  induction h with
  | one ho hf he =>
    intro pins s σ F R H ε o x v b ε' pos Q tw I rx e q
    rename_i op ex f m rr
    simp only [chnL] at e
    cases e1 : m ε with
    | none => simp [e1] at e
    | some p =>
      obtain ⟨p, ε1⟩ := p
      cases e2 : bor ε1 o with
      | none => simp [e1, e2] at e
      | some d =>
        cases e3 : bor ε1 p with
        | none => simp [e1, e2, e3] at e
        | some d2 =>
          cases e4 : f d d2 with
          | none => simp [e1, e2, e3, e4] at e
          | some c' =>
            simp [e1, e2, e3, e4] at e
            obtain ⟨rfl, rfl⟩ := e
            refine test_last (thn (he.run pins s σ H (fun y H1 => rr x y H1 fun z H2 => z = .bl b ∧ Q b H2) I (tw.next e1 fun y F1 H1 fm t1 t2 vy s1 => ?_)) fun u s4 ⟨y, H4, I4, r4, q4⟩ =>
              thn (ho pins s4 σ H4 x y v u _ I4 rx r4 q4) fun dd s5 ⟨z, H5, I5, r5, ez, q5⟩ => ?_)
            · refine hf F1 H1 x y d d2 _ _ s1.sub (t1.borne e2) ((t2 F1 H1 (Same.refl F1) s1).borne e3) e4 fun w F2 H2 g => ?_
              have hw : w = .bl b := by
                have r := g.rep
                simpa only [RepC, Rep] using r
              exact ⟨hw, q F2 H2 (fm.trans g.fm) (Sep.drops (T := []) (tmO [o] [x] ++ tmO [p] [y]) (by simpa using s1.grow g.grw))⟩
            · subst ez
              cases r5
              exact wpAny_truthy_bool ⟨H5, I5, q5⟩
  | cons ho hf he hr ih =>
    intro pins s σ F R H ε o x v b ε' pos Q tw I rx e q
    rename_i op ex f m rr op' ops e' es y0 l
    simp only [chnL] at e
    cases e1 : m ε with
    | none => simp [e1] at e
    | some p =>
      obtain ⟨p, ε1⟩ := p
      cases e2 : bor ε1 o with
      | none => simp [e1, e2] at e
      | some d =>
        cases e3 : bor ε1 p with
        | none => simp [e1, e2, e3] at e
        | some d2 =>
          simp only [e1, e2, e3, Option.bind_eq_bind, Option.bind_some] at e
          refine test_link (thn (he.run pins s σ H (fun y H1 => rr x y H1 fun z H2 => ∃ k F2, z = .bl k ∧ f d d2 = some (.sh (.bool k)) ∧ Same F F2 ∧ Two X F2 R H2 σ ε1 y p) I (tw.next e1 fun y F1 H1 fm t1 t2 vy s1 => ?_))
            fun u s4 ⟨y, H4, I4, r4, q4⟩ => thn (ho pins s4 σ H4 x y v u _ I4 rx r4 q4) fun dd s5 ⟨z, H5, I5, r5, k, F5, ez, ek, fm5, T5⟩ => ?_)
          · have fin : ∀ k, f d d2 = some (.sh (.bool k)) → rr x y H1 fun z H2 => ∃ k F2, z = .bl k ∧ f d d2 = some (.sh (.bool k)) ∧ Same F F2 ∧ Two X F2 R H2 σ ε1 y p := fun k ek => by
              refine hf F1 H1 x y d d2 _ _ s1.sub (t1.borne e2) ((t2 F1 H1 (Same.refl F1) s1).borne e3) ek fun w F2 H2 g => ?_
              have hw : w = .bl k := by
                have r := g.rep
                simpa only [RepC, Rep] using r
              exact ⟨k, F2, hw, ek, fm.trans g.fm, t2 F2 H2 g.fm (s1.grow g.grw)⟩
            split at e
            · exact fin true (by assumption)
            · exact fin false (by assumption)
            · cases e
          · subst ez
            cases r5
            refine wpAny_truthy_bool ?_
            cases k with
            | false =>
              rw [ek] at e
              cases e
              exact ite_ff ⟨H5, I5, q F5 H5 fm5 (Sep.drops (T := []) (tmO [p] [y]) (by simpa using T5.sep))⟩
            | true =>
              rw [ek] at e
              exact ite_tt (ih T5 I5 r4 e fun F' H' fm => q F' H' (fm5.trans fm))
variable {a e1 e2 : Expr} {es : List Expr} {op1 op2 : CmpOp} {ops : List CmpOp} {m : OM} {l : List ((D → D → Option C) × OM)} {pos : Pos}
theorem me_chain (ha : PE X a (tO X.E m)) (h : Chn X (op1 :: op2 :: ops) (e1 :: e2 :: es) l) (hm : lastMarks (op1 :: op2 :: ops) (e1 :: e2 :: es) = false) : PE X (.Compare a (op1 :: op2 :: ops) (e1 :: e2 :: es) pos) (tE X.E (mChn m l)) :=
  ⟨fun pins s σ H Q I hh => by
    obtain ⟨F, R, ε, c, ε', ok, e, q⟩ := hh
    unfold mChn at e
    cases e0 : m ε with
    | none => simp [e0] at e
    | some p =>
      obtain ⟨o, ε1⟩ := p
      simp only [e0, Option.bind_eq_bind, Option.bind_some] at e
      refine Compare_chain (thn (ha.run pins s σ H (fun x H1 => ∃ F1, Same F F1 ∧ Two X F1 R H1 σ ε1 x o) I ⟨F, R, ε, o, ε1, ok, e0, fun v F1 H1 fm v1 s1 => ⟨F1, fm, v1, s1⟩⟩) fun v s1 ⟨x, H1, I1, r1, F1, fm1, T1⟩ => ?_) hm
      exact chn_run h T1 I1 r1 e fun w F' H' fm => q w F' H' (fm1.trans fm)⟩
theorem mt_chain (ha : PE X a (tO X.E m)) (h : Chn X (op1 :: op2 :: ops) (e1 :: e2 :: es) l) (hm : lastMarks (op1 :: op2 :: ops) (e1 :: e2 :: es) = false) : PT X (.Compare a (op1 :: op2 :: ops) (e1 :: e2 :: es) pos) (tT X.E (mTst (mChn m l))) :=
  ⟨fun pins s σ H Q I hh => by
    obtain ⟨F, R, ε, b, ε', ok, e, q⟩ := hh
    unfold mTst at e
    split at e
    · rename_i b' ε1 e'
      cases e
      unfold mChn at e'
      cases e0 : m ε with
      | none => simp [e0] at e'
      | some p =>
        obtain ⟨o, ε1⟩ := p
        simp only [e0, Option.bind_eq_bind, Option.bind_some] at e'
        refine isTrue_chain (thn (ha.run pins s σ H (fun x H1 => ∃ F1, Same F F1 ∧ Two X F1 R H1 σ ε1 x o) I ⟨F, R, ε, o, ε1, ok, e0, fun v F1 H1 fm v1 s1 => ⟨F1, fm, v1, s1⟩⟩) fun v s1 ⟨x, H1, I1, r1, F1, fm1, T1⟩ => ?_) hm
        exact tst_run h T1 I1 r1 e' fun F' H' fm => q F' H' (fm1.trans fm)
    · cases e⟩
end
def tyS : D → String
  | .none => "NoneType"
  | .bool _ => "bool"
  | .int _ => "int"
  | .str _ => "str"
  | .list _ => "list"
  | .tuple _ => "tuple"
  | .dict _ => "dict"
inductive Ty where
  | int | bool | str | list | tuple | dict
def Ty.nm : Ty → String
  | .int => "int"
  | .bool => "bool"
  | .str => "str"
  | .list => "list"
  | .tuple => "tuple"
  | .dict => "dict"
def isiD : Ty → D → Bool
  | .int, .int _ => true
  | .int, .bool _ => true
  | .bool, .bool _ => true
  | .str, .str _ => true
  | .list, .list _ => true
  | .tuple, .tuple _ => true
  | .dict, .dict _ => true
  | _, _ => false
theorem isi_kit : ∀ (T : Ty) (d : D), kitB (tyS d) T.nm = some (isiD T d) := by
  intro T d
  cases T <;> cases d <;> (simp only [tyS, Ty.nm, isiD]; decide +kernel)
theorem rb_ty {K : PySem.W.Frag} {F H : Hp} {x : V} {d : D} (s : Same F H) (h : RepB K F H x d) : TyX K H x (.type (tyS d)) := by
  cases d with
  | none => rw [rb_non h]; exact .base .non
  | bool b => rw [rb_bool h]; exact .base (.bl b)
  | int b => rw [rb_int h]; exact .base (.int b)
  | str b => rw [rb_str h]; exact .base (.str b)
  | list b =>
    obtain ⟨a, vs, rfl, g1, _⟩ := rb_lst s h
    rcases g1 with (g1 | ⟨o, g1⟩) | ⟨o, its, n, hk, hc, _⟩
    · exact .base (.lst g1)
    · exact .base (.frz g1)
    · exact .kList hk hc
  | tuple b =>
    obtain ⟨a, vs, rfl, _, g1, _⟩ := rb_tup s h
    rcases g1 with (g1 | ⟨o, g1⟩) | ⟨o, its, n, hk, hc, _⟩
    · exact .base (.tup g1)
    · exact .fTuple g1
    · exact .kTuple hk hc
  | dict b =>
    obtain ⟨a, kvs, rfl, g1, _⟩ := rb_dct s h
    exact .base (.dK g1)
def mIsi (T : Ty) (m : OM) : EM := mU (fun d => some (.sh (.bool (isiD T d)))) m
section
variable {X : Cx} {e : Expr} {m : OM} {x p pos : Pos}
theorem me_isi {T : Ty} {y : Str} (hm : X.mg "isinstance" = none) (hmT : X.mg y = none) (hg : Gl X "isinstance") (hgT : Gl X y) (hv : bootBuiltins y = some (.type T.nm)) (he : PE X e (tO X.E m)) (hn : y ≠ "__name__") (hdb : (y == ("__debug__" : Str)) = false)
    (hs : starEach [e, .Name y p] X.env = (false, eval e X.env) :: starEach [.Name y p] X.env) (hs2 : starEach [.Name y p] X.env = [(false, eval (.Name y p) X.env)]) (hpl : (backTo pos (starEach [.Name y p] X.env)).any (·.1) = false) :
    PE X (.Call (.Name "isinstance" x) [e, .Name y p] [] pos) (tE X.E (mIsi T m)) :=
  (pe_callB call_isi hg hm boot_isinstance (pa_cons he (pa_cons (pe_bltn (v := .ty T.nm) hgT hmT hv rfl hn hdb) pa_nil hs2) hs) (by decide) (by decide) hs hpl).weak fun σ H Q h => by
    have h2 := tE_u (r := fun x H Q => rIsi X.K [x, .ty T.nm] H Q) (fun F H x d c Q s h1 he q => by
      cases he
      exact ⟨x, .ty T.nm, _, _, isiD T d, rfl, .ty _, rb_ty s h1, kit_ty (isi_kit T d), g_bool s q⟩) h
    refine tO_mono h2 fun v H' q => ?_
    exact q
end
end L2.M
namespace L2.M
open PySem PySem.Spec PyProof.Rows
def keepT : List Opd → List Bool
  | [] => []
  | .pl _ :: os => false :: keepT os
  | .tm _ :: os => true :: keepT os
def tmsO : List Opd → Option (List C)
  | [] => some []
  | .tm (.sh d) :: os => (tmsO os).map (C.sh d :: ·)
  | .tm (.ls ds) :: os => (tmsO os).map (C.ls ds :: ·)
  | .tm (.dc k ds) :: os => (tmsO os).map (C.dc k ds :: ·)
  | .tm (.ob k cs) :: os => (tmsO os).map (C.ob k cs :: ·)
  | _ => none
theorem tmsO_zip : ∀ {os : List Opd} {vs : List V} {cs : List C}, os.length = vs.length → tmsO os = some cs → tmO os vs = vs.zip cs ∧ cs.length = os.length
  | [], vs, cs, l, e => by
    cases e
    cases vs with
    | nil => exact ⟨rfl, rfl⟩
    | cons _ _ => cases l
  | o :: os, [], cs, l, e => by cases l
  | .pl i :: os, v :: vs, cs, l, e => by cases e
  | .tm c :: os, v :: vs, cs, l, e => by
    have one : ∀ {c : C}, (tmsO os).map (c :: ·) = some cs → tmO (.tm c :: os) (v :: vs) = (v :: vs).zip cs ∧ cs.length = (Opd.tm c :: os).length := fun {c} e => by
      obtain ⟨cs2, e2, rfl⟩ := Option.map_eq_some_iff.mp e
      obtain ⟨h1, h2⟩ := tmsO_zip (vs := vs) (by simpa using l) e2
      exact ⟨by simp [tmO, h1], by simp [h2]⟩
    cases c with
    | no => cases e
    | sh d => exact one e
    | ls d => exact one e
    | dc k d => exact one e
    | ob k d => exact one e
    | px _ _ _ _ => cases e
    | fn _ => cases e
    | fd _ => cases e
    | fk _ => cases e
def setA : List Nat → List C → Cs → Cs
  | i :: is, c :: cs, ε => setA is cs (ε.set i c)
  | _, _, ε => ε
def setV : List Nat → List V → St → St
  | i :: is, v :: vs, σ => setV is vs (σ.set i (some v))
  | _, _, σ => σ
theorem putAll {K : Ek} {F R H : Hp} {T : Tms} : ∀ {is : List Nat} {vs : List V} {cs : List C} {σ : St} {ε : Cs}, Sep K F R H σ ε (vs.zip cs ++ T) → is.length = vs.length → cs.length = vs.length → Sep K F R H (setV is vs σ) (setA is cs ε) T
  | [], [], [], σ, ε, s, _, _ => s
  | i :: is, v :: vs, c :: cs, σ, ε, s, l1, l2 => putAll (is := is) (Sep.store s i) (by simpa using l1) (by simpa using l2)
  | [], v :: vs, cs, σ, ε, s, l1, l2 => by cases l1
  | i :: is, [], cs, σ, ε, s, l1, l2 => by cases l1
  | [], [], c :: cs, σ, ε, s, l1, l2 => by cases l2
  | i :: is, v :: vs, [], σ, ε, s, l1, l2 => by cases l2
theorem setV_sts {io : List Nat} : ∀ {is : List Nat} {vs : List V} {σ : St}, (∀ i ∈ is, i ∉ io) → StS io σ (setV is vs σ)
  | [], vs, σ, h => StS.refl σ
  | i :: is, [], σ, h => StS.refl σ
  | i :: is, v :: vs, σ, h => (StS.set (h i List.mem_cons_self)).trans (setV_sts fun j hj => h j (List.mem_cons_of_mem _ hj))
/-- a, b, .. = x, y, .. (names that no other def holds on to) -/
def mPar (io is : List Nat) (ma : AM) : XM := fun ε => do
  let (os, ε1) ← ma ε
  let (os2, ε2) ← frz (keepT os) os ε1
  let cs ← tmsO os2
  if cs.length = is.length ∧ cs.length ≤ sizeLine ∧ (∀ i ∈ is, i < ε2.length ∧ i ∉ io) then some (.nx, setA is cs ε2) else none
theorem Grw.junk {F H : Hp} (s : Same F H) {p : Addr} {u : HO} (hp : H p = none) : Grw F H F (upd H p u) :=
  ⟨Same.refl F, fun b x e => by rw [upd_ne (ne_of_none e hp)]; exact e, fun b x e => by rw [upd_ne (ne_of_none (s b x e) hp)]; exact s b x e, fun b h h' => absurd h h'⟩
theorem tS_par {K : Ek} {W : Xw} {io is : List Nat} {ma : AM} {De : Ends} {σ : St} {H : Hp} (h : tS K W io (mPar io is ma) De σ H) :
    tA K ma σ H fun vs H1 => vs.length = is.length ∧ vs.length ≤ sizeLine ∧ De.nx (setV is vs σ) H1 ∧ ∀ p, H1 p = none → De.nx (setV is vs σ) (upd H1 p (.tup vs)) := by
  obtain ⟨F, R, ε, f, ε', o, e, q⟩ := h
  unfold mPar at e
  cases e1 : ma ε with
  | none => simp [e1] at e
  | some p =>
    obtain ⟨os, ε1⟩ := p
    cases e2 : frz (keepT os) os ε1 with
    | none => simp [e1, e2] at e
    | some p2 =>
      obtain ⟨os2, ε2⟩ := p2
      cases e3 : tmsO os2 with
      | none => simp [e1, e2, e3] at e
      | some cs =>
        simp only [e1, e2, e3, Option.bind_eq_bind, Option.bind_some] at e
        split at e
        · rename_i hc
          cases e
          obtain ⟨hc1, hc2, hc3⟩ := hc
          refine ⟨F, R, ε, os, ε1, o, e1, fun vs F1 H1 fm1 v1 s1 => ?_⟩
          rw [← List.append_nil (tmO os vs)] at s1
          obtain ⟨F2, fm2, s2, v2, l2⟩ := frz_ok s1 v1 e2
          have lv := v2.len
          obtain ⟨z1, z2⟩ := tmsO_zip lv.symm e3
          rw [z1] at s2
          have vl : vs.length = is.length := by omega
          have t := setV_sts (vs := vs) (σ := σ) fun i hi => (hc3 i hi).2
          have s3 := putAll (is := is) s2 vl.symm (by omega)
          exact ⟨vl, by omega, q F2 H1 _ (fm1.trans fm2) t s3, fun p hp => q F2 _ _ (fm1.trans fm2) t (s3.grow (Grw.junk s3.sub hp))⟩
        · cases e
section
variable {X : Cx} {W : Xw} {io : List Nat} {ma : AM}
theorem ms_par2 {i j : Nat} {x y : Str} {a b : Expr} {px py pt pos : Pos} {kt k2 pt2} (hc : X.calm = true) (hN : X.N.Nodup) (hi : X.N[i]? = some x) (hj : X.N[j]? = some y) (hij : i ≠ j) (hx : X.env.scope.names.lookup x = some .local) (hy : X.env.scope.names.lookup y = some .local)
    (ha : PA X [a, b] (tA X.E ma)) (hw : swappedStores [.Tuple [.Name x px, .Name y py] kt pt] (.Tuple [a, b] k2 pt2) X.env = pure (some [x, y]))
    (hs : swapsWithSole [.Tuple [.Name x px, .Name y py] kt pt] (.Tuple [a, b] k2 pt2) pos.line X.env = pure false) :
    PS X (.Assign [.Tuple [.Name x px, .Name y py] kt pt] (.Tuple [a, b] k2 pt2) pos) (tS X.E W io (mPar io [i, j] ma)) := (ps_par hc hN hi hj hij hx hy ha hw hs).weak fun De σ H h => by
  refine tA_mono (tS_par h) fun vs H1 q => ?_
  obtain ⟨hl, _, q, _⟩ := q
  match vs, hl, q with
  | [u, v], _, q => exact ⟨u, v, rfl, q⟩
theorem ms_par3 {i j l : Nat} {x y z : Str} {a b c : Expr} {px py pz pt pos : Pos} {kt k2 pt2} (hc : X.calm = true) (hN : X.N.Nodup) (hi : X.N[i]? = some x) (hj : X.N[j]? = some y) (hl : X.N[l]? = some z) (hij : i ≠ j) (hil : i ≠ l) (hjl : j ≠ l)
    (hx : X.env.scope.names.lookup x = some .local) (hy : X.env.scope.names.lookup y = some .local) (hz : X.env.scope.names.lookup z = some .local) (ha : PA X [a, b, c] (tA X.E ma))
    (hw : swappedStores [.Tuple [.Name x px, .Name y py, .Name z pz] kt pt] (.Tuple [a, b, c] k2 pt2) X.env = pure (some [x, y, z]))
    (hs : swapsWithSole [.Tuple [.Name x px, .Name y py, .Name z pz] kt pt] (.Tuple [a, b, c] k2 pt2) pos.line X.env = pure false) :
    PS X (.Assign [.Tuple [.Name x px, .Name y py, .Name z pz] kt pt] (.Tuple [a, b, c] k2 pt2) pos) (tS X.E W io (mPar io [i, j, l] ma)) := (ps_par3 hc hN hi hj hl hij hil hjl hx hy hz ha hw hs).weak fun De σ H h => by
  refine tA_mono (tS_par h) fun vs H1 q => ?_
  obtain ⟨hl, _, q, _⟩ := q
  match vs, hl, q with
  | [u, v, w], _, q => exact ⟨u, v, w, rfl, q⟩
end
def shared : List Bool → List C → Bool
  | [], [] => true
  | true :: bs, c :: cs => shared bs cs
  | false :: bs, .sh _ :: cs => shared bs cs
  | _, _ => false
/-- what the caller's cells are behind the call -/
def after : List Bool → List C → Cs → List C
  | true :: bs, _ :: cs, e :: ε => e :: after bs cs ε
  | false :: bs, c :: cs, _ :: ε => c :: after bs cs ε
  | _, _, _ => []
def iosAt (k : Nat) : List Bool → List Nat
  | [] => []
  | true :: bs => k :: iosAt (k + 1) bs
  | false :: bs => iosAt (k + 1) bs
abbrev ios (bs : List Bool) : List Nat := iosAt 0 bs
def semF (io : List Bool) (ns : Nat) (m : XM) : GM := fun cs =>
  if shared io cs then
    match m (cs ++ List.replicate (ns - cs.length) .no) with
    | some (.rt c, ε') => some (c, after io cs ε')
    | some (.nx, ε') => some (.sh .none, after io cs ε')
    | _ => none
  else none
theorem mem_ios : ∀ {bs : List Bool} {k j : Nat}, j ∈ iosAt k bs ↔ k ≤ j ∧ bs[j - k]? = some true
  | [], k, j => by simp [iosAt]
  | true :: bs, k, j => by
    unfold iosAt
    rw [List.mem_cons, mem_ios]
    constructor
    · rintro (rfl | ⟨h1, h2⟩)
      · simp
      · refine ⟨by omega, ?_⟩
        rw [show j - k = (j - (k + 1)) + 1 by omega, List.getElem?_cons_succ]
        exact h2
    · rintro ⟨h1, h2⟩
      by_cases e : j = k
      · exact .inl e
      · refine .inr ⟨by omega, ?_⟩
        rw [show j - k = (j - (k + 1)) + 1 by omega, List.getElem?_cons_succ] at h2
        exact h2
  | false :: bs, k, j => by
    unfold iosAt
    rw [mem_ios]
    constructor
    · rintro ⟨h1, h2⟩
      refine ⟨by omega, ?_⟩
      rw [show j - k = (j - (k + 1)) + 1 by omega, List.getElem?_cons_succ]
      exact h2
    · rintro ⟨h1, h2⟩
      by_cases e : j = k
      · subst e
        simp at h2
      · refine ⟨by omega, ?_⟩
        rw [show j - k = (j - (k + 1)) + 1 by omega, List.getElem?_cons_succ] at h2
        exact h2
theorem mem_ios0 {bs : List Bool} {j : Nat} : j ∈ ios bs ↔ bs[j]? = some true := by
  unfold ios
  rw [mem_ios]
  simp
theorem leaveA {K : Ek} {F F' H H' : Hp} (fm : Same F F') : ∀ {bs : List Bool} {vs : List V} {cs : List C} {σ : St} {ε : Cs} {f0 fs : List (List Addr)}, RpCs K F H (vs.map some) cs f0 → RpCs K F' H' σ ε fs → shared bs cs = true → (∀ j : Nat, bs[j]? = some true → σ[j]? = (vs.map some)[j]?) → cs.length ≤ ε.length →
    ∃ f2, RpCs K F' H' (vs.map some) (after bs cs ε) f2 ∧ f2.flatten.Sublist fs.flatten
  | [], vs, [], σ, ε, f0, fs, h0, h, hs, hj, hl => ⟨[], by simpa [after] using ⟨h0.1, rfl⟩, by simp⟩
  | [], vs, c :: cs, σ, ε, f0, fs, h0, h, hs, hj, hl => by simp [shared] at hs
  | true :: bs, vs, [], σ, ε, f0, fs, h0, h, hs, hj, hl => by simp [shared] at hs
  | false :: bs, vs, [], σ, ε, f0, fs, h0, h, hs, hj, hl => by simp [shared] at hs
  | b :: bs, vs, c :: cs, σ, [], f0, fs, h0, h, hs, hj, hl => by simp at hl
  | b :: bs, vs, c :: cs, σ, e :: ε, f0, fs, h0, h, hs, hj, hl => by
    obtain ⟨o, r, f, fr, e1, e2, k1, k2⟩ := h0
    obtain ⟨o', r', f', fr', e1', e2', k1', k2'⟩ := h
    cases vs with
    | nil => cases e1
    | cons v vs =>
      obtain ⟨rfl, rfl⟩ := List.cons.inj e1
      subst e1' e2'
      have hs' : shared bs cs = true := by cases b <;> cases c <;> simp_all [shared]
      obtain ⟨f2, g1, g2⟩ := leaveA fm (bs := bs) k2 k2' hs' (fun j h => by simpa using hj (j + 1) (by simpa using h)) (by simpa using hl)
      cases b with
      | true =>
        have ho : o' = some v := by simpa using hj 0 rfl
        subst ho
        exact ⟨f' :: f2, ⟨_, _, _, _, rfl, rfl, k1', g1⟩, by rw [List.flatten_cons, List.flatten_cons]; exact List.Sublist.append (List.Sublist.refl _) g2⟩
      | false =>
        cases c with
        | sh d =>
          obtain ⟨_, w, ew, rw⟩ := k1
          refine ⟨[] :: f2, ⟨_, _, _, _, rfl, rfl, ⟨rfl, w, ew, Rep.mono fm _ _ rw⟩, g1⟩, ?_⟩
          rw [List.flatten_cons, List.flatten_cons, List.nil_append]
          exact g2.trans (List.sublist_append_right _ _)
        | no => simp [shared] at hs
        | ls d => simp [shared] at hs
        | dc k d => simp [shared] at hs
        | ob k d => simp [shared] at hs
        | px _ _ _ _ => simp [shared] at hs
        | fn _ => simp [shared] at hs
        | fd _ => simp [shared] at hs
        | fk _ => simp [shared] at hs
/-- the callee's frame at its begin -/
theorem Sep.ext {K : Ek} {F R H : Hp} {σ : St} {ε : Cs} (s : Sep K F R H σ ε []) (n : Nat) : Sep K F R H (σ ++ List.replicate n none) (ε ++ List.replicate n .no) [] := by
  obtain ⟨a1, a2, a3, ⟨fs, gs, h1, h2, n1, m1⟩⟩ := s
  have e : (fs ++ List.replicate n ([] : List Addr)).flatten = fs.flatten := by rw [List.flatten_append, flat_rep, List.append_nil]
  exact ⟨a1, a2, a3, fs ++ List.replicate n [], gs, h1.append (RpCs.nos n _ (by simp)), h2, by rw [e]; exact n1, by rw [e]; exact m1⟩
/-- .. and at its end -/
theorem Sep.leave {K : Ek} {F R H F' R' H' : Hp} {vs : List V} {cs : List C} {n : Nat} {io : List Bool} {σ' : St} {ε' : Cs} {T : Tms} (s : Sep K F R' H (vs.map some) cs []) (hs : shared io cs = true) (fm : Same F F') (t : StS (ios io) (vs.map some ++ List.replicate n none) σ')
    (s' : Sep K F' R H' σ' ε' T) : Sep K F' R H' (vs.map some) (after io cs ε') T := by
  have l0 := s.len
  have l1 := s'.len
  have l2 := t.ln
  rw [List.length_append, List.length_replicate, List.length_map] at l2
  rw [List.length_map] at l0
  obtain ⟨_, _, _, ⟨f0, _, k0, _⟩⟩ := s
  obtain ⟨a1, a2, a3, ⟨fs, gs, h1, h2, n1, m1⟩⟩ := s'
  have lb : ∀ {bs : List Bool} {cs : List C}, shared bs cs = true → bs.length = cs.length := by
    intro bs
    induction bs with
    | nil => intro cs h; cases cs <;> simp_all [shared]
    | cons b bs ih => intro cs h; cases cs with
      | nil => cases b <;> simp [shared] at h
      | cons c cs =>
        have : shared bs cs = true := by cases b <;> cases c <;> simp_all [shared]
        simp [ih this]
  obtain ⟨f2, g1, g2⟩ := leaveA fm k0 h1 hs (fun j hj => by
    have hlt : j < vs.length := by
      have := (List.getElem?_eq_some_iff.mp hj).1
      have := lb hs
      omega
    rw [t.st j (mem_ios0.mpr hj), List.getElem?_append_left (by simpa using hlt)]) (by omega)
  have sb := List.Sublist.append g2 (List.Sublist.refl gs.flatten)
  exact ⟨a1, a2, a3, f2, gs, g1, h2, sb.nodup n1, fun b hb => m1 b (sb.subset hb)⟩
theorem sem_run {K : Ek} {W : Xw} {np ns : Nat} {io : List Bool} {m : XM} {vs : List V} {H : Hp} {Q : VK} {E : XK} (h : spOf K np (semF io ns m) vs H Q E) :
    tS K W (ios io) m { nx := fun _ H' => Q .non H', rt := Q } (vs.map some ++ List.replicate (ns - vs.length) none) H := by
  obtain ⟨hl, F, R, cs, c, cs', s, e, q⟩ := h
  have lc : cs.length = vs.length := by rw [← s.len, List.length_map]
  unfold semF at e
  split at e
  · rename_i hs
    rw [lc] at e
    generalize hn : ns - vs.length = n at e ⊢
    have s2 := s.ext n
    split at e
    · rename_i c1 ε' hm
      cases e
      exact ⟨F, R, _, _, ε', s2, hm, fun F' H' σ' fm t v s' => q v F' H' fm (s.leave hs fm t s')⟩
    · rename_i ε' hm
      cases e
      exact ⟨F, R, _, _, ε', s2, hm, fun F' H' σ' fm t s' => q .non F' H' fm ((s.leave hs fm t s').addSh (by simp only [Rep]))⟩
    · cases e
  · cases e
end L2.M
namespace L2.M
open PySem PySem.Spec PyProof.Rows
section
variable {X : Cx} {a b c e : Expr} {es rest : List Expr} {ma mb mo : OM} {m n : EM} {mr : AM} {t t1 t2 : TM} {pos p x : Pos} {k : Nat}
theorem ma_cons (h1 : PE X e (tO X.E mo)) (h2 : PA X es (tA X.E mr)) (hs : starEach (e :: es) X.env = (false, eval e X.env) :: starEach es X.env := by rfl) : PA X (e :: es) (tA X.E (mCons mo mr)) :=
  (pa_cons h1 h2 hs).weak fun _ _ _ h => tA_cons h
theorem x_bin {op : Operator} (ha : PE X a (tO X.E ma)) (hb : PE X b (tO X.E mb)) : PE X (.BinOp a op b pos) (tE X.E (mB (binD op) ma mb)) :=
  let ⟨_, h1, h2⟩ := bin_ok op
  me_bin h1 h2 ha hb
theorem x_cmp {op : CmpOp} (hr : Room k X.A) (ha : PE X a (tO X.E ma)) (hb : PE X b (tO X.E mb)) (hm : behindInMarks op b = false := by rfl) : PE X (.Compare a [op] [b] pos) (tE X.E (mB (cmpD op) ma mb)) :=
  let ⟨_, h1, h2⟩ := cmp_ok (by have := hr.un; omega) op
  me_cmp h1 h2 ha hb hm
theorem y_cmp {op : CmpOp} (hr : Room k X.A) (ha : PE X a (tO X.E ma)) (hb : PE X b (tO X.E mb)) (hm : behindInMarks op b = false := by rfl) : PT X (.Compare a [op] [b] pos) (tT X.E (mTst (mB (cmpD op) ma mb))) :=
  let ⟨_, h1, h2⟩ := cmp_ok (by have := hr.un; omega) op
  mt_cmp h1 h2 ha hb hm
theorem x_neg (ha : PE X a (tO X.E ma)) : PE X (.UnaryOp .USub a pos) (tE X.E (mU negD ma)) :=
  let ⟨_, h1, h2⟩ := neg_ok
  me_un h1 h2 ha
theorem x_ix (ha : PE X a (tO X.E ma)) (hb : PE X b (tO X.E mb)) (hs : PlainIx b := by exact fun _ _ => rfl) : PE X (.Subscript a b pos) (tE X.E (mB ixD ma mb)) :=
  let ⟨_, h1, h2⟩ := ix_ok
  me_ix h1 h2 ha hb hs
theorem ch_one {op : CmpOp} (hr : Room k X.A) (hb : PE X b (tO X.E mb)) : Chn X [op] [b] [(cmpD op, mb)] :=
  let ⟨_, h1, h2⟩ := cmp_ok (by have := hr.un; omega) op
  .one h1 h2 hb
theorem ch_cons {op op' : CmpOp} {ops : List CmpOp} {e' : Expr} {z : (D → D → Option C) × OM} {l : List ((D → D → Option C) × OM)} (hr : Room k X.A) (hb : PE X b (tO X.E mb)) (h : Chn X (op' :: ops) (e' :: es) (z :: l)) : Chn X (op :: op' :: ops) (b :: e' :: es) ((cmpD op, mb) :: z :: l) :=
  let ⟨_, h1, h2⟩ := cmp_ok (by have := hr.un; omega) op
  .cons h1 h2 hb h
theorem x_chain {op1 op2 : CmpOp} {ops : List CmpOp} {l : List ((D → D → Option C) × OM)} (ha : PE X a (tO X.E ma)) (h : Chn X (op1 :: op2 :: ops) (b :: c :: es) l) (hm : lastMarks (op1 :: op2 :: ops) (b :: c :: es) = false := by rfl) : PE X (.Compare a (op1 :: op2 :: ops) (b :: c :: es) pos) (tE X.E (mChn ma l)) := me_chain ha h hm
theorem y_chain {op1 op2 : CmpOp} {ops : List CmpOp} {l : List ((D → D → Option C) × OM)} (ha : PE X a (tO X.E ma)) (h : Chn X (op1 :: op2 :: ops) (b :: c :: es) l) (hm : lastMarks (op1 :: op2 :: ops) (b :: c :: es) = false := by rfl) : PT X (.Compare a (op1 :: op2 :: ops) (b :: c :: es) pos) (tT X.E (mTst (mChn ma l))) := mt_chain ha h hm
theorem y_val (h : PE X e (tE X.E m)) (he : ∀ whole, isTrue e X.env whole = (do let v ← whole; standAt e.pos; holding [v] (truthy v)) := by intro _; rfl) : PT X e (tT X.E (mTst m)) := mt_val h he
/-- a built-in function's call -/
inductive Bf where
  | len | int | max | min | abs | tuple | list | repr
def Bf.nm : Bf → Str
  | .len => "len"
  | .int => "int"
  | .max => "max"
  | .min => "min"
  | .abs => "abs"
  | .tuple => "tuple"
  | .list => "list"
  | .repr => "repr"
def Bf.f : Bf → List D → Option C
  | .len => lenD
  | .int => intD
  | .max => maxD
  | .min => minD
  | .abs => absD
  | .tuple => tupD
  | .list => lstD
  | .repr => repD
theorem boot_abs : bootBuiltins "abs" = some (.builtin "abs") := by decide +kernel
theorem x_bf (q : Bf) {y : Str} (hy : y = q.nm) (hm : X.mg q.nm = none) (hc : X.calm = true) (hg : Gl X y) (ha : PA X (e :: es) (tA X.E mr)) (he : starEach (e :: es) X.env = (false, eval e X.env) :: starEach es X.env := by rfl) (hpl : (backTo pos (starEach es X.env)).any (·.1) = false := by rfl) :
    PE X (.Call (.Name y p) (e :: es) [] pos) (tE X.E (mOp q.f mr)) := by
  subst hy
  cases q with
  | len => exact let ⟨_, h1, h2⟩ := len_ok; me_callB h1 h2 hg hm boot_len ha (by decide) (by decide) he hpl
  | int => exact let ⟨_, h1, h2⟩ := int_ok; me_callTy h1 h2 hg hm boot_int ha (by decide) (by decide) he hpl
  | max => exact let ⟨_, h1, h2⟩ := max_ok hc; me_callB h1 h2 hg hm boot_max ha (by decide) (by decide) he hpl
  | min => exact let ⟨_, h1, h2⟩ := min_ok hc; me_callB h1 h2 hg hm boot_min ha (by decide) (by decide) he hpl
  | abs => exact let ⟨_, h1, h2⟩ := abs_ok; me_callB h1 h2 hg hm boot_abs ha (by decide) (by decide) he hpl
  | tuple => exact let ⟨_, h1, h2⟩ := tup_ok; me_callTy h1 h2 hg hm boot_tuple ha (by decide) (by decide) he hpl
  | list => exact let ⟨_, h1, h2⟩ := lst_ok; me_callTy h1 h2 hg hm boot_list ha (by decide) (by decide) he hpl
  | repr => exact let ⟨_, h1, h2⟩ := rep_ok; me_callB h1 h2 hg hm boot_repr ha (by decide) (by decide) he hpl
theorem Ty.boot : ∀ T : Ty, bootBuiltins T.nm = some (.type T.nm) := fun T => by
  cases T with
  | int => exact boot_int
  | bool => exact boot_bool
  | str => exact boot_str
  | list => exact boot_list
  | tuple => exact boot_tuple
  | dict => exact boot_dict
theorem x_isi (T : Ty) {y : Str} (hy : y = T.nm) (hm : X.mg "isinstance" = none) (hmT : X.mg T.nm = none) (hg : Gl X "isinstance") (hgT : Gl X y) (he : PE X e (tO X.E mo)) (hs : starEach [e, .Name y p] X.env = (false, eval e X.env) :: starEach [.Name y p] X.env := by rfl) :
    PE X (.Call (.Name "isinstance" x) [e, .Name y p] [] pos) (tE X.E (mIsi T mo)) := by
  subst hy
  exact me_isi (T := T) hm hmT hg hgT T.boot he (by cases T <;> decide) (by cases T <;> decide) hs rfl rfl
/-- a module's number, text -/
theorem x_gint {y : Str} {i : Int} (hm : ∃ t, X.mg y = some (.int i t)) (hg : Gl X y) (hd : (y == ("__debug__" : Str)) = false := by decide) : PE X (.Name y pos) (tE X.E (mK (.int i))) := by
  obtain ⟨t, hm⟩ := hm
  exact (pe_glob hg hm (show RelV (.int i) (.int i t) from ⟨t, rfl⟩) hd).weak fun _ _ _ => tE_k (d := .int i) (v := .int i) fun _ => by simp [Rep]
end
section
variable {X : Cx} {W : Xw} {io : List Nat} {pos p p2 p3 : Pos} {e : Expr} {m : EM}
theorem z_expr (he : PE X e (tE X.E m)) (hs : swapsWith e none pos.line X.env = pure false := by rfl) : PS X (.Expr e pos) (tS X.E W io (mExpr m)) := ms_expr he hs
theorem z_set (i : Nat) {y : Str} (hN : X.N.Nodup) (he : PE X e (tE X.E m)) (hi : X.N[i]? = some y := by rfl) (hx : Loc X.env.scope y := by first | exact .inl rfl | exact .inr rfl) (hf : X.fn y = true ∨ X.env.scope.names.lookup y = some .local := by first | exact .inr rfl | exact .inl rfl) (hs : swapsWith e (some (.Name y p)) pos.line X.env = pure false := by rfl) : PS X (.Assign [.Name y p] e pos) (tS X.E W io (mSet io i m)) :=
  ms_set hN hi hx he hs hf
theorem z_asg {tg : Expr} {ts : List Nat} {g : TG} {bd : BM} (hg : Gd X.E g bd (· ∈ ts)) (hp : PG X tg g) (he : PE X e (tE X.E m)) (hs : swapsWithSole [tg] e pos.line X.env = pure false := by rfl) (hw : swappedStores [tg] e X.env = pure none := by rfl)
    (h1 : (assignEach [tg] X.env).map (·.2) = [assign tg X.env] := by rfl) : PS X (.Assign [tg] e pos) (tS X.E W io (mAsg ts io bd m)) := ms_asg hg he hp hs hw h1
theorem Gd.imp {K : Ek} {g : TG} {b : BM} {S S' : Nat → Prop} (h : Gd K g b S) (i : ∀ j, S j → S' j) : Gd K g b S' := fun F R H σ ε x d ε' Q o r e q => h F R H σ ε x d ε' Q o r e fun H' σ' bd => q H' σ' (bd.imp i)
theorem g_nm (i : Nat) {y : Str} (hN : X.N.Nodup) (hi : X.N[i]? = some y := by rfl) (hx : Loc X.env.scope y := by first | exact .inl rfl | exact .inr rfl) (hf : X.fn y = true ∨ X.env.scope.names.lookup y = some .local := by first | exact .inr rfl | exact .inl rfl) : PG X (.Name y p) (gName i) := pg_name hN hi hx hf
theorem z_app (i : Nat) {y : Str} (hv : PE X (.Name y p) (tVar i)) (he : PE X e (tE X.E m)) (hbase : attributeBase (.Name y p) "append" X.env (eval (.Name y p) X.env) = eval (.Name y p) X.env := by rfl)
    (hfew : ((backTo p3 (starEach [e] X.env)).all (fun x => !x.1) && (backToKw p3 (keywordEach [] X.env)).all (fun x => x.1.isSome) && decide ([e].length + ([] : List Keyword).length + (if ([] : List Keyword).isEmpty then 0 else 1) < 30)) = true := by rfl)
    (hline : (p2.endLine == p3.line) = true := by rfl) (hs : starEach [e] X.env = (false, eval e X.env) :: starEach [] X.env := by rfl) (hplain : (backTo p3 (starEach [] X.env)).any (·.1) = false := by rfl) (hst : starEach [e] X.env = [(false, eval e X.env)] := by rfl)
    (hsw : swapsWith (.Call (.Attribute (.Name y p) "append" p2) [e] [] p3) none pos.line X.env = pure false := by rfl) : PS X (.Expr (.Call (.Attribute (.Name y p) "append" p2) [e] [] p3) pos) (tS X.E W io (mApp i m)) :=
  ms_app hv he (fun {to t} h1 h2 => pe_bm PySem.F.plainAttrs_list PySem.F.slot_list_append PySem.F.type_list_append mt_append h1 h2 hbase hfew hline hs hplain) hst hsw
theorem z_ix (i : Nat) {y : Str} {kx : Expr} {ix : OM} (hv : PE X (.Name y p) (tVar i)) (hk : PE X kx (tO X.E ix)) (he : PE X e (tE X.E m))
    (ha : ∀ v, assign (.Subscript (.Name y p) kx p2) X.env v = (do
      let ov ← holding [v] (eval (.Name y p) X.env)
      let iv ← holding [v, ov] (eval kx X.env)
      standAt p2
      holding [v, ov, iv] (setItem ov iv v)
      release [v, ov, iv] []) := by intro _; rfl)
    (hs : swapsWithSole [.Subscript (.Name y p) kx p2] e pos.line X.env = pure false := by rfl) (hw : swappedStores [.Subscript (.Name y p) kx p2] e X.env = pure none := by rfl)
    (h1 : (assignEach [.Subscript (.Name y p) kx p2] X.env).map (·.2) = [assign (.Subscript (.Name y p) kx p2) X.env] := by rfl) : PS X (.Assign [.Subscript (.Name y p) kx p2] e pos) (tS X.E W io (mSetIx i m ix)) := ms_setIx hv he hk ha hs hw h1
theorem z_par2 (i j : Nat) {y z : Str} {a b : Expr} {kt k2 : Nat} {pt pt2 py pz : Pos} {ma : AM} (hc : X.calm = true) (hN : X.N.Nodup) (ha : PA X [a, b] (tA X.E ma)) (hi : X.N[i]? = some y := by rfl) (hj : X.N[j]? = some z := by rfl) (hij : i ≠ j := by decide)
    (hx : X.env.scope.names.lookup y = some .local := by rfl) (hy : X.env.scope.names.lookup z = some .local := by rfl)
    (hw : swappedStores [.Tuple [.Name y py, .Name z pz] kt pt] (.Tuple [a, b] k2 pt2) X.env = pure (some [y, z]) := by rfl)
    (hs : swapsWithSole [.Tuple [.Name y py, .Name z pz] kt pt] (.Tuple [a, b] k2 pt2) pos.line X.env = pure false := by rfl) :
    PS X (.Assign [.Tuple [.Name y py, .Name z pz] kt pt] (.Tuple [a, b] k2 pt2) pos) (tS X.E W io (mPar io [i, j] ma)) := ms_par2 hc hN hi hj hij hx hy ha hw hs
theorem z_par3 (i j l : Nat) {y z w : Str} {a b c : Expr} {kt k2 : Nat} {pt pt2 py pz pw : Pos} {ma : AM} (hc : X.calm = true) (hN : X.N.Nodup) (ha : PA X [a, b, c] (tA X.E ma)) (hi : X.N[i]? = some y := by rfl) (hj : X.N[j]? = some z := by rfl) (hl : X.N[l]? = some w := by rfl) (hij : i ≠ j := by decide) (hil : i ≠ l := by decide) (hjl : j ≠ l := by decide)
    (hx : X.env.scope.names.lookup y = some .local := by rfl) (hy : X.env.scope.names.lookup z = some .local := by rfl) (hz : X.env.scope.names.lookup w = some .local := by rfl)
    (hw : swappedStores [.Tuple [.Name y py, .Name z pz, .Name w pw] kt pt] (.Tuple [a, b, c] k2 pt2) X.env = pure (some [y, z, w]) := by rfl)
    (hs : swapsWithSole [.Tuple [.Name y py, .Name z pz, .Name w pw] kt pt] (.Tuple [a, b, c] k2 pt2) pos.line X.env = pure false := by rfl) :
    PS X (.Assign [.Tuple [.Name y py, .Name z pz, .Name w pw] kt pt] (.Tuple [a, b, c] k2 pt2) pos) (tS X.E W io (mPar io [i, j, l] ma)) := ms_par3 hc hN hi hj hl hij hil hjl hx hy hz ha hw hs
theorem z_for {iter tg : Expr} {body : List Stmt} {io' ts : List Nat} {src : SM} {g : TG} {bind : BM} {b : XM} (hp : PassesOwn (model X.prog X.w) X.A X.env X.xe) (hc : X.calm = true) (hi : PI X tg iter (tI X.E src)) (hgd : Gd X.E g bind (· ∈ ts)) (hg : PG X tg g)
    (hb : PSs X body (tS X.E W io' b)) (hio : ∀ i ∈ io, i ∈ io' := by decide) (hts : ∀ i ∈ ts, i ∉ io' := by decide) (hs : ∀ x, foldedSetIterable iter X.env x = pure x := by intro _; rfl) : PS X (.For tg iter body [] pos) (tS X.E W io (mFor io' src bind b)) := ms_for hp hc hi hg hgd hb hio hts hs
theorem z_rng1 {tg a : Expr} {ma : AM} (hm : X.mg "range" = none) (hg : Gl X "range") (ha : PA X [a] (tA X.E ma)) (hs : starEach [a] X.env = [(false, eval a X.env)] := by rfl) : PI X tg (.Call (.Name "range" p) [a] [] pos) (tI X.E (mSrc rng1D ma)) := mi_range1 hg hm ha hs
theorem z_rng2 {tg a b : Expr} {ma : AM} (hm : X.mg "range" = none) (hg : Gl X "range") (ha : PA X [a, b] (tA X.E ma)) (hs : starEach [a, b] X.env = [(false, eval a X.env), (false, eval b X.env)] := by rfl) (hs2 : starEach [b] X.env = [(false, eval b X.env)] := by rfl) :
    PI X tg (.Call (.Name "range" p) [a, b] [] pos) (tI X.E (mSrc rng2D ma)) := mi_range2 hg hm ha hs hs2
end
def Wo (fa : List He.Fa) (fn : List He.DefD) (K : PySem.W.Frag) (mg : Str → Option Value) : Prop := ∃ h : Heap, K.In h ∧ h.Ns mainGlobals mg ∧ He.SaysD fa fn K
section
variable {fa : List He.Fa} {fn : List He.DefD} {K : PySem.W.Frag} {mg : Str → Option Value}
theorem Wo.free (W : Wo fa fn K mg) (i : Nat) {x : Str} (h : fa[i]? = some (.free x) := by rfl) : mg x = none :=
  let ⟨_, X, G, c⟩ := W
  He.free_ok X G (c.fact i h)
theorem Wo.int (W : Wo fa fn K mg) (i : Nat) {x : Str} {n : Int} (h : fa[i]? = some (.int x n) := by rfl) : ∃ t, mg x = some (.int n t) :=
  let ⟨_, X, G, c⟩ := W
  He.int_ok X G (c.fact i h)
theorem Wo.str (W : Wo fa fn K mg) (i : Nat) {x z : Str} (h : fa[i]? = some (.str x z) := by rfl) : ∃ t, mg x = some (.str z t) :=
  let ⟨_, X, G, c⟩ := W
  He.str_ok X G (c.fact i h)
end
def Plain (d : He.DefD) (ps : List Str) : Prop := d.dfl = [] ∧ d.kwd = [] ∧ ∀ (kV doc pm : Value) (an : Option Addr) (cdv ct : Value) (us : List Value), us.length = ps.length → bindArgs (PySem.W.fnOf d.name d.qual d.params d.body d.scope .none kV doc pm an cdv ct) ⟨us, []⟩ = pure (ps.zip us)
abbrev cxN (P : Program) (w : World) (K : PySem.W.Frag) (mg : Str → Option Value) (base : Heap) (N : List Str) (d : He.DefD) (f : Addr) (cdv : Value) (A : Around) (outer : List Env) (s : Shared) (H : Hp) (E : XK) : Cx := (cxOf CX0 P w K mg base N d.qual d.scope f cdv A outer s H E).nox
/-- nothing is raised -/
abbrev W0 : Xw := fun _ _ _ _ => False
/-- a script in the first heap: read as frozen data -/
theorem sp_law {K : Ek} {m : XM} {n : Nat} {H : Hp} {a : Addr} {ns : List Int} (O : Only H) (h : SqL K.1 H a (ns.map V.int)) (hm : ∃ cs', semF [false] n m [.sh (.list (ns.map PyData.int))] = some (.sh (.bool true), cs')) :
    spOf K 1 (semF [false] n m) [.ref a] H (fun v _ => v = .bl true) fun _ _ _ => False := by
  obtain ⟨cs', hm⟩ := hm
  have reps : ∀ ns : List Int, Reps K.1 H (ns.map V.int) (ns.map PyData.int) := fun ns => by
    induction ns with
    | nil => rfl
    | cons x r ih => exact ⟨_, _, rfl, by simp only [Rep], ih⟩
  refine ⟨rfl, H, fun _ => none, [.sh (.list (ns.map PyData.int))], _, _, ⟨Same.refl H, fun b u z => (nomatch z), fun b _ => rfl, [[]], [], ⟨_, _, _, _, rfl, rfl, ⟨rfl, _, rfl, a, _, rfl, h, reps ns⟩, rfl, rfl⟩, ⟨rfl, rfl⟩, by simp, fun b hb => by simp at hb⟩, hm, fun v F' H' fm p => p.boolT⟩
end L2.M
namespace L2.M
open PySem PySem.Spec PyProof.Rows
section
variable {X : Cx} {pos p : Pos}
theorem pts_no : PTs X [] (tT X.E mYes) := ⟨fun pins s σ H Q I q => pts_nil.run pins s σ H Q I (tT_pure q)⟩
theorem pts_it {c : Expr} {t : TM} (h : PT X c (tT X.E t)) : PTs X [c] (tT X.E t) := pts_one h
theorem x_lc {elt tg iter : Expr} {ifs : List Expr} {scope : Scope} {src : SM} {bd : BM} {g : TG} {tt : TM} {m : EM} (own : List (Str × Nat)) (hc : X.calm = true) (hN : X.N.Nodup) (hok : BlkOk X.N X.env.scope scope own) (hsrc : PI X tg iter (tI X.E src)) (hgd : Gd X.E g bd (· ∈ own.map (·.2)))
    (hg : ∀ (s : Shared) (H : Hp) (c0 : Addr) (cl : List (Str × Addr)) (fp : List Addr), PG (X.blk s H scope (compEnvC scope cl c0 X.env) fp) tg g) (ht : ∀ (s : Shared) (H : Hp) (c0 : Addr) (cl : List (Str × Addr)) (fp : List Addr), PTs (X.blk s H scope (compEnvC scope cl c0 X.env) fp) ifs (tT X.E tt))
    (he : ∀ (s : Shared) (H : Hp) (c0 : Addr) (cl : List (Str × Addr)) (fp : List Addr), PE (X.blk s H scope (compEnvC scope cl c0 X.env) fp) elt (tE X.E m)) (hs : ∀ x, foldedSetIterable iter X.env x = pure x := by intro _; rfl) :
    PE X (.ListComp elt [⟨tg, iter, ifs, 0⟩] scope pos) (tE X.E (mLc src bd tt m (own.map (·.2)))) := (pe_lc hc hN hsrc hok hg ht he hs).weak fun _ _ _ h => tE_lc hgd (fun _ h => h) h
theorem z_lc {W : Xw} {io : List Nat} {y : Str} {spos : Pos} {elt tg iter : Expr} {ifs : List Expr} {scope : Scope} {src : SM} {bd : BM} {g : TG} {tt : TM} {m : EM} (i : Nat) (own : List (Str × Nat)) (hc : X.calm = true) (hN : X.N.Nodup) (hok : BlkOk X.N X.env.scope scope own) (hsrc : PI X tg iter (tI X.E src)) (hgd : Gd X.E g bd (· ∈ own.map (·.2)))
    (hg : ∀ (s : Shared) (H : Hp) (c0 : Addr) (cl : List (Str × Addr)) (fp : List Addr), PG (X.blk s H scope (compEnvC scope cl c0 X.env) fp) tg g) (ht : ∀ (s : Shared) (H : Hp) (c0 : Addr) (cl : List (Str × Addr)) (fp : List Addr), PTs (X.blk s H scope (compEnvC scope cl c0 X.env) fp) ifs (tT X.E tt))
    (he : ∀ (s : Shared) (H : Hp) (c0 : Addr) (cl : List (Str × Addr)) (fp : List Addr), PE (X.blk s H scope (compEnvC scope cl c0 X.env) fp) elt (tE X.E m)) (hy : X.N[i]? = some y := by rfl) (hyl : X.env.scope.names.lookup y = some .local := by rfl)
    (hsw : swapsWith (.ListComp elt [⟨tg, iter, ifs, 0⟩] scope pos) (some (.Name y p)) spos.line X.env = pure true := by rfl) (hs : ∀ x, foldedSetIterable iter X.env x = pure x := by intro _; rfl) :
    PS X (.Assign [.Name y p] (.ListComp elt [⟨tg, iter, ifs, 0⟩] scope pos) spos) (tS X.E W io (mSet io i (mLc src bd tt m (own.map (·.2))))) := (ps_setLc hc hN hy hyl hsw hsrc hok hg ht he hs).weak fun De σ H h => by
  exact tE_lc hgd (fun _ h => h) (tS_set h)
def revD : D → Option C
  | .list ds => some (.ls ds.reverse)
  | .tuple ds => some (.sh (.tuple ds.reverse))
  | _ => none
end
section
variable {X : Cx} {e : Expr} {k : Nat} {p1 p2 p3 pos : Pos}
def mRev (m : OM) : EM := mU revD m
end
end L2.M
namespace L2.M
open PySem PySem.Spec PyProof.Rows
def intsOf : List D → Option (List Int)
  | [] => some []
  | .int i :: ds => (intsOf ds).map (i :: ·)
  | _ => none
def boolsOf : List D → Option (List Bool)
  | [] => some []
  | .bool i :: ds => (boolsOf ds).map (i :: ·)
  | _ => none
theorem ints_reps {K : PySem.W.Frag} {F : Hp} : ∀ {ds : List D} {vs : List V} {ns : List Int}, Reps K F vs ds → intsOf ds = some ns → vs = ns.map V.int
  | [], vs, ns, h, e => by cases e; exact h
  | .int i :: ds, vs, ns, ⟨v, r, h1, h2, h3⟩, e => by
    simp only [intsOf, Option.map_eq_some_iff] at e
    obtain ⟨ms, e1, rfl⟩ := e
    subst h1
    simp only [Rep] at h2
    rw [h2, ints_reps h3 e1]
    rfl
  | .none :: ds, vs, ns, h, e => by cases e
  | .bool _ :: ds, vs, ns, h, e => by cases e
  | .str _ :: ds, vs, ns, h, e => by cases e
  | .list _ :: ds, vs, ns, h, e => by cases e
  | .tuple _ :: ds, vs, ns, h, e => by cases e
  | .dict _ :: ds, vs, ns, h, e => by cases e
theorem bools_reps {K : PySem.W.Frag} {F : Hp} : ∀ {ds : List D} {vs : List V} {ns : List Bool}, Reps K F vs ds → boolsOf ds = some ns → vs = ns.map V.bl
  | [], vs, ns, h, e => by cases e; exact h
  | .bool i :: ds, vs, ns, ⟨v, r, h1, h2, h3⟩, e => by
    simp only [boolsOf, Option.map_eq_some_iff] at e
    obtain ⟨ms, e1, rfl⟩ := e
    subst h1
    simp only [Rep] at h2
    rw [h2, bools_reps h3 e1]
    rfl
  | .none :: ds, vs, ns, h, e => by cases e
  | .int _ :: ds, vs, ns, h, e => by cases e
  | .str _ :: ds, vs, ns, h, e => by cases e
  | .list _ :: ds, vs, ns, h, e => by cases e
  | .tuple _ :: ds, vs, ns, h, e => by cases e
  | .dict _ :: ds, vs, ns, h, e => by cases e
theorem reps_ints {K : PySem.W.Frag} {F : Hp} : ∀ ns : List Int, Reps K F (ns.map V.int) (ns.map PyData.int)
  | [] => rfl
  | n :: ns => ⟨_, _, rfl, by simp only [Rep], reps_ints ns⟩
def anyD : List D → Option C
  | [.list ds] => (boolsOf ds).map fun bs => .sh (.bool (bs.any id))
  | _ => none
def allD : List D → Option C
  | [.list ds] => (boolsOf ds).map fun bs => .sh (.bool (bs.all id))
  | _ => none
def sumD : List D → Option C
  | [.list ds] => (intsOf ds).map fun ns => .sh (.int ns.sum)
  | _ => none
def isort (ns : List Int) : List Int := ns.mergeSort fun a b => decide (a ≤ b)
def sortD : List D → Option C
  | [.list ds] => (intsOf ds).map fun ns => .ls ((isort ns).map PyData.int)
  | _ => none
def strD : List D → Option C
  | [.int i] => if sm i then some (.sh (.str (toString i))) else none
  | _ => none
def gmaxD : List D → Option C
  | [.list ds] => match intsOf ds with
    | some (n :: ns) => some (.sh (.int (ns.foldl max n)))
    | _ => none
  | _ => none
def gminD : List D → Option C
  | [.list ds] => match intsOf ds with
    | some (n :: ns) => some (.sh (.int (ns.foldl min n)))
    | _ => none
  | _ => none
theorem isort_of {ns ms : List Int} (p : ms.Perm ns) (s : ms.Pairwise (· ≤ ·)) : ms = isort ns := by
  have h1 : (isort ns).Perm ns := List.mergeSort_perm ns _
  have h2 : (isort ns).Pairwise (fun a b => decide (a ≤ b) = true) := List.pairwise_mergeSort (by intro a b c; simp; omega) (by intro a b; simp; omega) ns
  have h3 : (isort ns).Pairwise (· ≤ ·) := h2.imp fun h => by simpa using h
  exact (p.trans h1.symm).eq_of_pairwise (fun a b _ _ h k => Int.le_antisymm h k) s h3
section
variable {X : Cx}
theorem any_ok (hc : X.calm = true) : ∃ r, CallR X (.builtin "any") r ∧ FnB X.K anyD r := by
  refine ⟨_, cr_any hc, fun F H vs ds c Q s hr he q => ?_⟩
  match ds, he, hr with
  | [.list ds], he, hr =>
    simp only [anyD, Option.map_eq_some_iff] at he
    obtain ⟨bs, e1, rfl⟩ := he
    obtain ⟨x, rfl, h1⟩ := hr.one
    obtain ⟨a, vs, rfl, g1, g2⟩ := rb_lst s h1
    rw [bools_reps g2 e1] at g1
    exact ⟨a, bs, rfl, g1, g_bool s q⟩
theorem all_ok (hc : X.calm = true) : ∃ r, CallR X (.builtin "all") r ∧ FnB X.K allD r := by
  refine ⟨_, cr_all hc, fun F H vs ds c Q s hr he q => ?_⟩
  match ds, he, hr with
  | [.list ds], he, hr =>
    simp only [allD, Option.map_eq_some_iff] at he
    obtain ⟨bs, e1, rfl⟩ := he
    obtain ⟨x, rfl, h1⟩ := hr.one
    obtain ⟨a, vs, rfl, g1, g2⟩ := rb_lst s h1
    rw [bools_reps g2 e1] at g1
    exact ⟨a, bs, rfl, g1, g_bool s q⟩
theorem sum_ok (hc : X.calm = true) : ∃ r, CallR X (.builtin "sum") r ∧ FnB X.K sumD r := by
  refine ⟨_, cr_sum hc, fun F H vs ds c Q s hr he q => ?_⟩
  match ds, he, hr with
  | [.list ds], he, hr =>
    simp only [sumD, Option.map_eq_some_iff] at he
    obtain ⟨bs, e1, rfl⟩ := he
    obtain ⟨x, rfl, h1⟩ := hr.one
    obtain ⟨a, vs, rfl, g1, g2⟩ := rb_lst s h1
    rw [ints_reps g2 e1] at g1
    exact ⟨a, bs, rfl, g1, g_int s q⟩
theorem sort_ok : ∃ r, CallR X (.builtin "sorted") r ∧ FnB X.K sortD r := by
  refine ⟨_, cr_sortedI, fun F H vs ds c Q s hr he q => ?_⟩
  match ds, he, hr with
  | [.list ds], he, hr =>
    simp only [sortD, Option.map_eq_some_iff] at he
    obtain ⟨bs, e1, rfl⟩ := he
    obtain ⟨x, rfl, h1⟩ := hr.one
    obtain ⟨a, vs, rfl, g1, g2⟩ := rb_lst s h1
    rw [ints_reps g2 e1] at g1
    refine ⟨a, bs, rfl, g1, fun ms p hp hs hq => ?_⟩
    rw [isort_of hp hs]
    exact g_lst s (reps_ints _) q p hq
theorem str_ok : ∃ r, CallR X (.type "str") r ∧ FnB X.K strD r := by
  refine ⟨_, call_str_int, fun F H vs ds c Q s hr he q => ?_⟩
  match ds, he, hr with
  | [.int i], he, hr =>
    simp only [strD] at he
    split at he
    · rename_i hz
      cases he
      obtain ⟨x, rfl, h1⟩ := hr.one
      rw [rb_int h1]
      exact ⟨i, rfl, by have := log2_le hz.1 hz.2; omega, g_str s q⟩
    · cases he
theorem fold_max : ∀ (ns : List Int) (n : Int), (ns.foldl max n = n ∨ ns.foldl max n ∈ ns) ∧ n ≤ ns.foldl max n ∧ ∀ y ∈ ns, y ≤ ns.foldl max n
  | [], n => ⟨.inl rfl, Int.le_refl _, fun y h => by cases h⟩
  | m :: ns, n => by
    obtain ⟨h1, h2, h3⟩ := fold_max ns (max n m)
    simp only [List.foldl_cons]
    refine ⟨?_, by omega, fun y hy => ?_⟩
    · rcases h1 with h | h
      · rw [h]
        by_cases k : n ≤ m
        · right; rw [Int.max_eq_right k]; exact List.mem_cons_self
        · left; exact Int.max_eq_left (by omega)
      · exact .inr (List.mem_cons_of_mem _ h)
    · rcases List.mem_cons.mp hy with rfl | hy
      · omega
      · exact h3 y hy
theorem fold_min : ∀ (ns : List Int) (n : Int), (ns.foldl min n = n ∨ ns.foldl min n ∈ ns) ∧ ns.foldl min n ≤ n ∧ ∀ y ∈ ns, ns.foldl min n ≤ y
  | [], n => ⟨.inl rfl, Int.le_refl _, fun y h => by cases h⟩
  | m :: ns, n => by
    obtain ⟨h1, h2, h3⟩ := fold_min ns (min n m)
    simp only [List.foldl_cons]
    refine ⟨?_, by omega, fun y hy => ?_⟩
    · rcases h1 with h | h
      · rw [h]
        by_cases k : n ≤ m
        · left; exact Int.min_eq_left k
        · right; rw [Int.min_eq_right (by omega)]; exact List.mem_cons_self
      · exact .inr (List.mem_cons_of_mem _ h)
    · rcases List.mem_cons.mp hy with rfl | hy
      · omega
      · exact h3 y hy
theorem gmax_ok (hc : X.calm = true) : ∃ r, CallR X (.builtin "max") r ∧ FnB X.K gmaxD r := by
  refine ⟨_, cr_max hc, fun F H vs ds c Q s hr he q => ?_⟩
  match ds, he, hr with
  | [.list ds], he, hr =>
    simp only [gmaxD] at he
    split at he
    · rename_i n ns e1
      cases he
      obtain ⟨x, rfl, h1⟩ := hr.one
      obtain ⟨a, vs, rfl, g1, g2⟩ := rb_lst s h1
      rw [ints_reps g2 e1] at g1
      refine ⟨a, n :: ns, rfl, g1, by simp, fun m hm hy => ?_⟩
      obtain ⟨k1, k2, k3⟩ := fold_max ns n
      have e : m = ns.foldl max n := by
        apply Int.le_antisymm
        · rcases List.mem_cons.mp hm with rfl | h
          · exact k2
          · exact k3 _ h
        · rcases k1 with h | h
          · rw [h]; exact hy _ List.mem_cons_self
          · exact hy _ (List.mem_cons_of_mem _ h)
      rw [e]
      exact g_int s q
    · cases he
theorem gmin_ok (hc : X.calm = true) : ∃ r, CallR X (.builtin "min") r ∧ FnB X.K gminD r := by
  refine ⟨_, cr_min hc, fun F H vs ds c Q s hr he q => ?_⟩
  match ds, he, hr with
  | [.list ds], he, hr =>
    simp only [gminD] at he
    split at he
    · rename_i n ns e1
      cases he
      obtain ⟨x, rfl, h1⟩ := hr.one
      obtain ⟨a, vs, rfl, g1, g2⟩ := rb_lst s h1
      rw [ints_reps g2 e1] at g1
      refine ⟨a, n :: ns, rfl, g1, by simp, fun m hm hy => ?_⟩
      obtain ⟨k1, k2, k3⟩ := fold_min ns n
      have e : m = ns.foldl min n := by
        apply Int.le_antisymm
        · rcases k1 with h | h
          · rw [h]; exact hy _ List.mem_cons_self
          · exact hy _ (List.mem_cons_of_mem _ h)
        · rcases List.mem_cons.mp hm with rfl | h
          · exact k2
          · exact k3 _ h
      rw [e]
      exact g_int s q
    · cases he
end
/-- more built-in functions of one list -/
inductive Bg where
  | any | all | sum | sorted | str | maxl | minl
def Bg.nm : Bg → Str
  | .any => "any"
  | .all => "all"
  | .sum => "sum"
  | .sorted => "sorted"
  | .str => "str"
  | .maxl => "max"
  | .minl => "min"
def Bg.f : Bg → List D → Option C
  | .any => anyD
  | .all => allD
  | .sum => sumD
  | .sorted => sortD
  | .str => strD
  | .maxl => gmaxD
  | .minl => gminD
theorem boot_any1 : bootBuiltins "any" = some (.builtin "any") := by decide +kernel
theorem boot_all1 : bootBuiltins "all" = some (.builtin "all") := by decide +kernel
theorem boot_sum1 : bootBuiltins "sum" = some (.builtin "sum") := by decide +kernel
theorem boot_sorted1 : bootBuiltins "sorted" = some (.builtin "sorted") := by decide +kernel
section
variable {X : Cx} {e : Expr} {es : List Expr} {mr : AM} {p pos : Pos}
theorem x_bg (q : Bg) {y : Str} (hy : y = q.nm) (hm : X.mg q.nm = none) (hc : X.calm = true) (hg : Gl X y) (ha : PA X (e :: es) (tA X.E mr)) (he : starEach (e :: es) X.env = (false, eval e X.env) :: starEach es X.env := by rfl) (hpl : (backTo pos (starEach es X.env)).any (·.1) = false := by rfl) :
    PE X (.Call (.Name y p) (e :: es) [] pos) (tE X.E (mOp q.f mr)) := by
  subst hy
  cases q with
  | any => exact let ⟨_, h1, h2⟩ := any_ok hc; me_callB h1 h2 hg hm boot_any1 ha (by decide) (by decide) he hpl
  | all => exact let ⟨_, h1, h2⟩ := all_ok hc; me_callB h1 h2 hg hm boot_all1 ha (by decide) (by decide) he hpl
  | sum => exact let ⟨_, h1, h2⟩ := sum_ok hc; me_callB h1 h2 hg hm boot_sum1 ha (by decide) (by decide) he hpl
  | sorted => exact let ⟨_, h1, h2⟩ := sort_ok; me_callB h1 h2 hg hm boot_sorted1 ha (by decide) (by decide) he hpl
  | str => exact let ⟨_, h1, h2⟩ := str_ok; me_callTy h1 h2 hg hm boot_str ha (by decide) (by decide) he hpl
  | maxl => exact let ⟨_, h1, h2⟩ := gmax_ok hc; me_callB h1 h2 hg hm boot_max ha (by decide) (by decide) he hpl
  | minl => exact let ⟨_, h1, h2⟩ := gmin_ok hc; me_callB h1 h2 hg hm boot_min ha (by decide) (by decide) he hpl
def enumFrom (k : Nat) : List D → List D
  | [] => []
  | d :: ds => .tuple [.int (k : Int), d] :: enumFrom (k + 1) ds
end
end L2.M
namespace L2.M
open PySem PySem.Spec PyProof.Rows
structure Rm (k : Nat) (A : Around) : Prop extends Room k A where
  gd : A.guards = some []
theorem Rm.mono {j k : Nat} {A : Around} (r : Rm k A) (h : j ≤ k) : Rm j A := ⟨r.toRoom.mono h, r.gd⟩
structure FnG (P : Program) (w : World) (K : PySem.W.Frag) (mg : Str → Option Value) (base : Heap) (CX : CXT) (k : Nat) (f : Addr) (fd : FuncData) (ps : List Str) (sp : Sp) : Prop where
  len : ∀ vs H Q E, sp vs H Q E → vs.length = ps.length
  run : ∀ (A : Around) (outer : List Env) (s : Shared) (H : Hp) (args : Args) (us : List Value) (vs : List V) (Q : VK) (E : XK), Rm k A → Env0 P w K mg base A outer s H → BindsTo s fd args (ps.zip us) → Vals vs us → sp vs H Q E →
    codeAny (model P w) A (.call (.ref f) args) (CR CX outer P w H s Q E) s
section
variable {P : Program} {w : World} {K : PySem.W.Frag} {mg : Str → Option Value} {base : Heap} {CX : CXT}
theorem FnG.mono {j k : Nat} {f : Addr} {fd : FuncData} {ps : List Str} {sp : Sp} (F : FnG P w K mg base CX j f fd ps sp) (h : j ≤ k) : FnG P w K mg base CX k f fd ps sp :=
  ⟨F.len, fun A outer s H args us vs Q E hr => F.run A outer s H args us vs Q E (hr.mono h)⟩
/-- a def's body, run where the guards are known -/
theorem fnG_of {N ps : List Str} {k : Nat} {sp : Sp} {f : Addr} {name qual : Str} {params : Arguments} {body : List Stmt} {scope : Scope} {dV kV doc pm cdv ct oc : Value} {an od : Option Addr} {osl : Array (Option Value)}
    (l0 : K.lookup f = some ⟨oc, od, .func (PySem.W.fnOf name qual params body scope dV kV doc pm an cdv ct), osl⟩) (c0 : PySem.W.codeIn K cdv qual = true) (S : FnScope N ps scope) (len : ∀ vs H Q E, sp vs H Q E → vs.length = ps.length)
    (hb : ∀ (A : Around) (outer : List Env) (s : Shared) (H : Hp) (vs : List V) (Q : VK) (E : XK), Rm k (A.deeper (envOfC qual scope s.heap.objs.size f cdv)) → sp vs H Q E →
      ∃ t, PSs (cxOf CX P w K mg base N qual scope f cdv A outer s H E) body t ∧ t { nx := fun _ H' => Q .non H', rt := Q } (start N vs) H) :
    FnG P w K mg base CX (k + 1) f (PySem.W.fnOf name qual params body scope dV kV doc pm an cdv ct) ps sp := by
  refine ⟨len, fun A outer s H args us vs Q E r0 env0 bd rv h0 => ?_⟩
  have inK : K.In s.heap := env0.mod.kin.keeps fun b o z => (env0.bs b o z).1
  have nl : s.heap.NoLimit := env0.mod.nolimit.keeps fun b o z => (env0.bs b o z).1
  have kinds : ∀ y ∈ ps.zip us, scope.names.lookup y.1 = some .local ∨ (scope.names.lookup y.1 = some .cell ∧ ((cellsFrom (s.heap.objs.size + 1) scope.names []).lookup y.1).isSome = true) := by
    rintro ⟨n, v⟩ hy
    have hn := S.par n (List.of_mem_zip hy).1
    rcases hn with z | z
    · exact .inl z
    · exact .inr ⟨z, PySem.W.cellsFrom_some _ _ _ (.inl z)⟩
  refine codeAny_call_function r0.toRoom.depth (inK _ _ l0) rfl S.co S.gen rfl (PySem.W.codeRec_of inK c0) (bd _ _ _ _ ?_)
  refine wpAny_newFunctionEnv_cells S.kind kinds fun env ee s2 x2 => ?_
  subst ee
  refine ⟨nl.keeps x2.toInCall.keep, codeAny_func ?_⟩
  obtain ⟨t, ht, hq⟩ := hb A outer s H vs Q E ⟨r0.toRoom.deeper _, r0.gd⟩ h0
  have J : Inv (cxOf CX P w K mg base N qual scope f cdv A outer s H E) [] (start N vs) H s2 := inv_start S r0.hd env0 (len _ _ _ _ h0) rv x2
  refine wpAny_mono (ht.run [] s2 (start N vs) H _ J hq) (fun fl s' z => ?_) fun e s' z => z
  cases fl with
  | ret u =>
    obtain ⟨v, σ', H', I, r, q⟩ := z
    exact ⟨v, H', I.os, I.bare, I.base, I.hok, r, q⟩
  | next =>
    obtain ⟨σ', H', I, q⟩ := z
    exact ⟨.non, H', I.os, I.bare, I.base, I.hok, rfl, q⟩
  | brk =>
    obtain ⟨_, _, _, q⟩ := z
    exact q.elim
  | cont =>
    obtain ⟨_, _, _, q⟩ := z
    exact q.elim
end
/-- a def that keeps its promise there, by its name -/
structure KnG (P : Program) (w : World) (K : PySem.W.Frag) (mg : Str → Option Value) (base : Heap) (k : Nat) (x : Str) (ps : List Str) (sp : Sp) : Prop where
  ex : ∃ (f : Addr) (fd : FuncData), mg x = some (.ref f) ∧ PySem.W.keepIn K (.ref f) = true ∧ Binds K fd ps [] ∧ FnG P w K mg base CX0 k f fd ps sp
section
variable {fa : List He.Fa} {fn : List He.DefD} {K : PySem.W.Frag} {mg : Str → Option Value} {P : Program} {w : World} {base : Heap}
theorem defG {N ps : List Str} {d : He.DefD} {k : Nat} {io : List Bool} {m : XM} {f : Addr} {fd : FuncData} {dvs : List V} {kws : List (Str × V)} (F : FunD K d.name d.qual d.params d.body d.scope dvs kws f fd) (S : FnScope N ps d.scope)
    (hb : ∀ (f : Addr) (cdv : Value) (A : Around) (outer : List Env) (s : Shared) (H : Hp) (E : XK), Rm k (cxN P w K mg base N d f cdv A outer s H E).A → PSs (cxN P w K mg base N d f cdv A outer s H E) d.body (tS (K, w) W0 (ios io) m)) :
    FnG P w K mg base CX0 (k + 1) f fd ps (spOf (K, w) ps.length (semF io N.length m)) := by
  obtain ⟨oc, od, dV, kV, doc, pm, an, cdv, ct, osl, rfl, l0, c0, _, _⟩ := F.ex
  exact fnG_of l0 c0 S (fun vs H Q E h => h.1) fun A outer s H vs Q E hr h => ⟨tS (K, w) W0 (ios io) m, PSs.nox (hb f cdv A outer s H E hr), sem_run h⟩
theorem kng_mk (W : Wo fa fn K mg) (i j : Nat) {N ps : List Str} {d : He.DefD} {k : Nat} {io : List Bool} {m : XM} {x : Str} (hd : fn[i]? = some d) (hx : d.at_ = (x, none)) (hf : fa[j]? = some (.glo x)) (pl : Plain d ps) (S : FnScope N ps d.scope)
    (hb : ∀ (f : Addr) (cdv : Value) (A : Around) (outer : List Env) (s : Shared) (H : Hp) (E : XK), Rm k (cxN P w K mg base N d f cdv A outer s H E).A → PSs (cxN P w K mg base N d f cdv A outer s H E) d.body (tS (K, w) W0 (ios io) m)) :
    KnG P w K mg base (k + 1) x ps (spOf (K, w) ps.length (semF io N.length m)) := by
  obtain ⟨h, X, G, c⟩ := W
  obtain ⟨fd, F⟩ := c.def_ i hd
  have g := He.glo_ok X G (c.fact j hf)
  have eD : d.dvs K = [] := by unfold He.DefD.dvs; rw [pl.1]; rfl
  have eA : He.fAd K d.at_ = He.ga K x := by rw [hx]; rfl
  rw [eD, eA] at F
  exact ⟨⟨_, fd, g, F.kp, F.bindsN pl.2.2, defG F S hb⟩⟩
/-- the callee runs, the guards known -/
theorem runG {X : Cx} {pins : List (Addr × Obj)} {σ : St} {H : Hp} {s : Shared} {Q : VK} {us : List Value} {vs : List V} {k : Nat} {f : Addr} {fd : FuncData} {ps : List Str} {sp : Sp} (F : FnG X.prog X.w X.K X.mg X.base CX0 k f fd ps sp) (hr : Rm k X.A) (hb : Binds X.K fd ps []) (I : Inv X pins σ H s) (r : Vals vs us) (h : sp vs H Q E0) :
    wpAny (model X.prog X.w) X.A (call (.ref f) us) (EP X pins σ Q) X.xe s := by
  have hl : us.length = ps.length := by rw [← r.length]; exact F.len _ _ _ _ h
  have bd := hb s us I.kIn (by rw [List.append_nil]; exact hl)
  rw [List.append_nil] at bd
  refine wpAny_call (codeAny_mono (F.run X.A X.stack s H ⟨us, []⟩ us vs Q E0 hr I.env0 bd r h) fun res s' hq => ?_)
  cases res with
  | error e => exact hq.elim
  | ok fl =>
    cases fl with
    | ret u => exact I.after hq
    | next => exact False.elim hq
    | brk => exact False.elim hq
    | cont => exact False.elim hq
theorem g_call {X : Cx} {k k' np : Nat} {x : Str} {ps : List Str} {g : GM} {io : List Bool} {ma : AM} {e : Expr} {es : List Expr} {p pos : Pos} (h : KnG X.prog X.w X.K X.mg X.base k x ps (spOf X.E np g)) (hr : Rm k' X.A) (hk : k ≤ k') (hg : Gl X x) (ha : PA X (e :: es) (tA X.E ma)) (hio : io.length = np := by rfl)
    (hdb : (x == ("__debug__" : Str)) = false := by decide) (he : starEach (e :: es) X.env = (false, eval e X.env) :: starEach es X.env := by rfl) (hpl : (backTo pos (starEach es X.env)).any (·.1) = false := by rfl) : PE X (.Call (.Name x p) (e :: es) [] pos) (tE X.E (mCall io g ma)) := by
  obtain ⟨f, fd, hm, hkp, hbi, F⟩ := h.ex
  refine ⟨fun pins s σ H Q I q => ?_⟩
  have q2 := tE_call hio q
  refine wpAny_Call_Name_kw (ld_glob I hg hm ?_ hdb)
  refine PySem.W.callWith_K (h₀ := X.base) I.ok.mod.kin hkp (thn (ha.run pos pins s σ H _ I q2) fun us s1 ⟨vs, H1, I1, r, q3⟩ => ⟨I1.kIn, ?_⟩) he hpl
  have q3 : spOf X.E np g (vs ++ []) H1 Q E0 := q3
  rw [List.append_nil] at q3
  exact runG (F.mono hk) hr hbi I1 r q3
end
section
variable {P : Program} {w : World} {K : PySem.W.Frag} {mg mb : Str → Option Value} {k : Nat} {fA a : Addr} {fd : FuncData} {x : Str} {sp : Sp} {s : Shared} {vs : List Value} {ns : List Int}
abbrev LawEnd (s : Shared) (r : Result) (s' : Shared) : Prop := r = .ok (.ret (.bool true)) ∧ OldK s.heap s'.heap ∧ s'.os = s.os ∧ AllBare s'.gens
theorem top_core {H : Hp} (inK : K.In s.heap) (n1 : s.heap.Ns mainGlobals mg) (n2 : s.heap.Ns builtinsNs mb) (bb : ∀ y : Str, y ≠ "__name__" → mb y = bootBuiltins y) (nl : s.heap.NoLimit) (g0 : s.gens = #[])
    (ea : s.heap.get? a = some { cls := .type "list", data := .seq vs.toArray }) (hr : Rm k callerA) (F : ∀ base : Heap, K.In base → base.Ns mainGlobals mg → FnG P w K mg base CX0 k fA fd [x] sp) (bd : ∀ (s : Shared) (u : Value), BindsTo s fd ⟨[u], []⟩ [(x, u)])
    (h0 : sp [.ref a] H (fun v _ => v = .bl true) fun _ _ _ => False) (hO : Only H) (hok : HOk P w H s.heap) (hA : ∀ b, H b ≠ none → b = a) (hK : H a ≠ none → K.lookup a = none) : codeAny (model P w) callerA (.call (.ref fA) ⟨[.ref a], []⟩) (LawEnd s) s := by
  have untr : ∀ {b : Addr} {o : Obj}, s.heap.get? b = some o → (b = a → o.data ≠ .seq vs.toArray → False) → (b = a → False) → H b = none := fun {b o} _ _ no => by
    by_cases z : H b = none
    · exact z
    · exact (no (hA b z)).elim
  have dictN : ∀ {b : Addr} {o : Obj} {es : Array DictEntry} {ep : Nat}, s.heap.get? b = some o → o.data = .dict es ep → H b = none := fun {b o es ep} e d => by
    refine untr e (fun _ _ => ?_) fun eb => ?_
    · rename_i eb ne
      subst eb
      rw [ea] at e
      cases e
      exact ne rfl
    · subst eb
      rw [ea] at e
      cases e
      have d2 : Data.seq vs.toArray _ = Data.dict es ep := d
      cases d2
  have ns2 : ∀ {b : Addr} {m : Str → Option Value}, s.heap.Ns b m → (hidT s.heap H).Ns b m := by
    rintro b m ⟨o, es, ep, e, d, r⟩
    exact ⟨o, es, ep, hidT_get e (dictN e d), d, r⟩
  have inB : K.In (hidT s.heap H) := by
    intro b o e
    refine hidT_get (inK b o e) ?_
    by_cases z : H b = none
    · exact z
    · have eb := hA b z
      subst eb
      rw [hK z] at e
      cases e
  obtain ⟨mc, l1, l2⟩ := nl
  have md : Mod K mg (hidT s.heap H) := ⟨inB, ns2 n1, ⟨mb, ns2 n2, bb⟩, ⟨mc, ns2 l1, l2⟩⟩
  have ev : Env0 P w K mg (hidT s.heap H) callerA [] s H := ⟨rfl, md, fun b o z => of_hidT z, Nat.le_of_eq (hidT_size _ _), trivial, fun b z => absurd (show b ∈ ([] : List Addr) from z) (by simp), hok, .of_eq g0⟩
  refine codeAny_mono ((F _ inB (ns2 n1)).run callerA [] s H ⟨[.ref a], []⟩ [.ref a] [.ref a] _ _ hr ev (bd s (.ref a)) (.cons rfl .nil) h0) fun r s' z => ?_
  match r, z with
  | .error e, z => exact z.elim
  | .ok .next, z => exact z.elim
  | .ok .brk, z => exact z.elim
  | .ok .cont, z => exact z.elim
  | .ok (.ret u), ⟨v, H', os, bare, un, hok2, rv, q⟩ =>
    have q : v = .bl true := q
    subst q
    obtain rfl : u = Value.bool true := rv
    refine ⟨rfl, OldK.of_keep fun b o e => ?_, os, bare⟩
    cases z : H b with
    | none => exact un.keep b o e z (fun y => absurd (show b ∈ ([] : List Addr) from y) (by simp)) (by simp)
    | some t =>
      rcases hO b with y | ⟨ob, xs, y⟩
      · rw [z] at y; cases y
      · obtain ⟨e1, _⟩ := hok b _ y
        obtain ⟨e2, _⟩ := hok2 b _ (un.frzs b ob _ y)
        rw [e] at e1
        cases e1
        exact e2
theorem top_call (inK : K.In s.heap) (n1 : s.heap.Ns mainGlobals mg) (n2 : s.heap.Ns builtinsNs mb) (bb : ∀ y : Str, y ≠ "__name__" → mb y = bootBuiltins y) (nl : s.heap.NoLimit) (g0 : s.gens = #[])
    (ea : s.heap.get? a = some { cls := .type "list", data := .seq vs.toArray }) (hi : IntsAre vs ns) (hl : ns.length ≤ sizeLine) (hr : Rm k callerA) (F : ∀ base : Heap, K.In base → base.Ns mainGlobals mg → FnG P w K mg base CX0 k fA fd [x] sp) (bd : ∀ (s : Shared) (u : Value), BindsTo s fd ⟨[u], []⟩ [(x, u)])
    (h0 : ∀ H : Hp, Only H → SqL K H a (ns.map V.int) → sp [.ref a] H (fun v _ => v = .bl true) fun _ _ _ => False) : codeAny (model P w) callerA (.call (.ref fA) ⟨[.ref a], []⟩) (LawEnd s) s := by
  have rv := vals_ints hi
  have len := hi.length
  by_cases hk : ∃ o, K.lookup a = some o
  · obtain ⟨o, hk⟩ := hk
    have e := inK a o hk
    rw [ea] at e
    cases e
    have sq : SqL K (fun _ => none) a (ns.map V.int) := .inr ⟨_, vs.toArray, _, hk, rfl, rfl, rfl, by rw [List.size_toArray, len]; exact hl, by simpa using rv⟩
    exact top_core inK n1 n2 bb nl g0 ea hr F bd (h0 _ (fun _ => .inl rfl) sq) (fun _ => .inl rfl) (fun b u z => by have z2 : (none : Option HO) = some u := z; cases z2) (fun b z => absurd rfl z) fun z => absurd rfl z
  · have hk : K.lookup a = none := by
      cases z : K.lookup a with
      | none => rfl
      | some o => exact absurd ⟨o, z⟩ hk
    let Hs : Hp := fun b => if b = a then some (.frz { cls := .type "list", data := .seq vs.toArray } (.lst (ns.map V.int))) else none
    have at1 : Hs a = some (.frz { cls := .type "list", data := .seq vs.toArray } (.lst (ns.map V.int))) := if_pos rfl
    have at2 : ∀ {b : Addr}, b ≠ a → Hs b = none := fun {b} n => if_neg n
    have on : Only Hs := fun b => by
      by_cases eb : b = a
      · subst eb; exact .inr ⟨_, _, at1⟩
      · exact .inl (at2 eb)
    refine top_core (H := Hs) inK n1 n2 bb nl g0 ea hr F bd (h0 Hs on (.inl (.inr ⟨_, at1⟩))) on (fun b u z => ?_) (fun b z => ?_) fun _ => hk
    · by_cases eb : b = a
      · subst eb
        rw [at1] at z
        cases z
        exact ⟨ea, by rw [List.length_map]; exact hl, vs, _, rv, ea⟩
      · rw [at2 eb] at z; cases z
    · by_cases eb : b = a
      · exact eb
      · exact absurd (at2 eb) z
end
theorem walkG {l : PySem.W.OpenLaw} {n k : Nat} {q : Program} {loose : List Str} {XP : (Str → Option Value) → Heap → Prop} {YP : World → Heap → Prop} {d : DefRec} {x : Str} (hn : l.most = some n) (h2 : n ≤ sizeLine) (h3 : d.params.defaults = []) (hr : Rm k callerA)
    (F : ∀ (w : World) (mg : Str → Option Value) (fA : Addr) (h : Heap), YP w h → h.Ns mainGlobals mg → mg d.name = some (.ref fA) → ∃ (K : PySem.W.Frag) (fd : FuncData) (sp : Sp), K.In h ∧ (∀ (s : Shared) (u : Value), BindsTo s fd ⟨[u], []⟩ [(x, u)]) ∧
      (∀ (H : Hp) (a : Addr) (ns : List Int), ns.length ≤ n → Only H → SqL K H a (ns.map V.int) → sp [.ref a] H (fun v _ => v = .bl true) fun _ _ _ => False) ∧ ∀ base : Heap, K.In base → base.Ns mainGlobals mg → FnG l.prog w K mg base CX0 k fA fd [x] sp) :
    PySem.W.WalkO q loose XP YP l.row.toRowW d [] (fun f vs => PySem.call f vs) := by
  refine Att.attach_call hn h3 fun w s0 s1 mg mb fA o pm cd doc a vs ns G Y ho hd hcd hmg hobj hints hlen hg => ?_
  obtain ⟨K, fd, sp, KX, hb, h0, hF⟩ := F w mg fA _ Y G.T.g hmg
  exact top_call KX G.T.g G.T.b G.T.builtins G.T.nolimit hg hobj hints (Nat.le_trans hlen h2) hr hF hb fun H hO hS => h0 H a ns hlen hO hS
theorem topG {fa : List He.Fa} {fn : List He.DefD} {K : PySem.W.Frag} {mg : Str → Option Value} {P : Program} {w : World} (W : Wo fa fn K mg) (i j : Nat) {N : List Str} {d : He.DefD} {k : Nat} {m : XM} {x f0 : Str} (hd : fn[i]? = some d) (hx : d.at_ = (f0, none)) (hf : fa[j]? = some (.glo f0)) (pl : Plain d [x]) (S : FnScope N [x] d.scope) {fA : Addr} (hfa : mg f0 = some (.ref fA))
    (hb : ∀ (base : Heap) (f : Addr) (cdv : Value) (A : Around) (outer : List Env) (s : Shared) (H : Hp) (E : XK), Rm k (cxN P w K mg base N d f cdv A outer s H E).A → PSs (cxN P w K mg base N d f cdv A outer s H E) d.body (tS (K, w) W0 (ios [false]) m)) :
    ∃ fd : FuncData, (∀ (s : Shared) (v : Value), BindsTo s fd ⟨[v], []⟩ [(x, v)]) ∧ ∀ base : Heap, K.In base → base.Ns mainGlobals mg → FnG P w K mg base CX0 (k + 1) fA fd [x] (spOf (K, w) 1 (semF [false] N.length m)) := by
  obtain ⟨h, X, G, c⟩ := W
  obtain ⟨fd, F⟩ := c.def_ i hd
  have g := He.glo_ok X G (c.fact j hf)
  have eD : d.dvs K = [] := by unfold He.DefD.dvs; rw [pl.1]; rfl
  have eA : He.fAd K d.at_ = He.ga K f0 := by rw [hx]; rfl
  have e := hfa.symm.trans g
  cases e
  rw [eD, eA] at F
  exact ⟨fd, fun s v => FunD.bindsA F pl.2.2 s [v] rfl, fun base _ _ => defG F S (hb base)⟩
end L2.M
namespace L2.M
open PySem PySem.Spec PyProof.Rows
theorem ints_all : ∀ ns : List Int, intsOf (ns.map PyData.int) = some ns
  | [] => rfl
  | d :: ds => by
    simp only [List.map_cons, intsOf, ints_all ds, Option.map_some]
inductive Sk where
  | l | t
def itX : Sk → Heap → Addr → Addr → Nat → Prop
  | .l => fun h it a i => h.IsListIter it a i
  | .t => fun h it a i => h.IsTupleIter it a i
def newX : Sk → Addr → Obj
  | .l => fun a => { cls := .type "list_iterator", data := .fields #[.ref a, .int 0 0] }
  | .t => fun a => { cls := .type "tuple_iterator", data := .fields #[.ref a, .int 0 0] }
theorem itX.new {k : Sk} {h : Heap} {it a : Addr} (g : h.get? it = some (newX k a)) : itX k h it a 0 := by
  cases k <;> exact ⟨_, g, rfl, rfl⟩
theorem two {P : Addr → Prop} {a b : Addr} (ha : P a) (hb : P b) : ∀ x ∈ [a, b], P x := by
  simp only [List.forall_mem_cons]
  exact ⟨ha, hb, fun x h => (by cases h)⟩
def itemsX : D → Option (Sk × List D)
  | .list ds => some (.l, ds)
  | .tuple ds => some (.t, ds)
  | _ => none
def zipX : List D → Option (List D)
  | [d, e] => do
    let (_, ds) ← itemsX d
    let (_, es) ← itemsX e
    some (List.zipWith (fun a b => .tuple [a, b]) ds es)
  | _ => none
def enumX : List D → Option (List D)
  | [d] => (itemsX d).map fun p => enumFrom 0 p.2
  | _ => none
end L2.M
namespace L2.M
open PySem PySem.Spec PyProof.Rows
abbrev Lk := List (Int ⊕ List Nat)
def dItems (sh : Nat → Bool) : Nat → List D → Option Lk
  | _, [] => some []
  | i, .int n :: r => if sh i = true then none else (dItems sh (i + 1) r).map (Sum.inl n :: ·)
  | i, .str x :: r => if sh i = true then (dItems sh (i + 1) r).map (Sum.inr x.cps.toList :: ·) else none
  | _, _ :: _ => none
def dKey (sh : Nat → Bool) : D → Option Lk
  | .tuple (d :: ds) => dItems sh 0 (d :: ds)
  | _ => none
/-- at which places the first one has texts -/
def shp : List D → Nat → Bool
  | .tuple es :: _ => fun i => match es[i]? with
    | some (.str _) => true
    | _ => false
  | _ => fun _ => false
def kLe (a b : Lk) : Bool := !lexLt itemOrd b a
def tle (sh : Nat → Bool) (d e : D) : Bool := kLe ((dKey sh d).getD []) ((dKey sh e).getD [])
def tsort (ds : List D) : List D := ds.mergeSort (tle (shp ds))
def tups (ds : List D) : Bool := ds.all fun d => (dKey (shp ds) d).isSome
def sortX : List D → Option C
  | [.list ds] => match intsOf ds with
    | some ns => some (.ls ((isort ns).map PyData.int))
    | none => if tups ds then some (.ls (tsort ds)) else none
  | _ => none
theorem cps_inj {x y : Str} (h : x.cps.toList = y.cps.toList) : x = y := by
  cases x; cases y
  simp at h
  rw [h]
theorem dItems_inj {sh : Nat → Bool} : ∀ {ds es : List D} {i : Nat} {k : Lk}, dItems sh i ds = some k → dItems sh i es = some k → ds = es
  | [], es, i, k, h, g => by
    cases h
    cases es with
    | nil => rfl
    | cons e es =>
      cases e <;> simp [dItems] at g
  | d :: ds, es, i, k, h, g => by
    cases es with
    | nil =>
      cases g
      cases d <;> simp [dItems] at h
    | cons e es =>
      cases d <;> cases e <;> simp [dItems] at h g
      · obtain ⟨_, a, h1, rfl⟩ := h
        obtain ⟨_, b, h2, e2⟩ := g
        simp at e2
        obtain ⟨rfl, rfl⟩ := e2
        rw [dItems_inj h1 h2]
      · rw [g.1] at h
        exact absurd h.1 (by simp)
      · rw [g.1] at h
        exact absurd h.1 (by simp)
      · obtain ⟨_, a, h1, rfl⟩ := h
        obtain ⟨_, b, h2, e2⟩ := g
        simp at e2
        obtain ⟨e3, rfl⟩ := e2
        have : dItems sh (i + 1) ds = dItems sh (i + 1) es := by rw [h1, h2]
        rw [dItems_inj h1 h2]
        congr 2
        apply cps_inj
        simp [e3]
theorem dKey_inj {sh : Nat → Bool} {d e : D} {k : Lk} (h : dKey sh d = some k) (g : dKey sh e = some k) : d = e := by
  cases d with
  | tuple ds =>
    cases e with
    | tuple es =>
      cases ds with
      | nil => cases h
      | cons d ds =>
        cases es with
        | nil => cases g
        | cons e es => rw [dItems_inj h g]
    | _ => cases g
  | _ => cases h
theorem kLe_trans {a b c : Lk} (h1 : kLe a b = true) (h2 : kLe b c = true) : kLe a c = true := by
  simp only [kLe, Bool.not_eq_true'] at *
  cases q : lexLt itemOrd c a with
  | false => rfl
  | true =>
    rcases (listOrd itemOrd).negTrans c b a q with h | h
    · exact absurd (h2.symm.trans h) (by decide)
    · exact absurd (h1.symm.trans h) (by decide)
theorem kLe_total (a b : Lk) : (kLe a b || kLe b a) = true := by
  simp only [kLe]
  cases q : lexLt itemOrd b a with
  | false => rfl
  | true =>
    cases q2 : lexLt itemOrd a b with
    | false => rfl
    | true =>
      have := (listOrd itemOrd).trans a b a q2 q
      have i := (listOrd itemOrd).irrefl a
      exact absurd (i.symm.trans this) (by decide)
theorem kLe_anti {a b : Lk} (h1 : kLe a b = true) (h2 : kLe b a = true) : a = b := by
  simp only [kLe, Bool.not_eq_true'] at *
  exact (listOrd itemOrd).total a b h2 h1
theorem tsort_perm (ds : List D) : (tsort ds).Perm ds := List.mergeSort_perm ds _
theorem tsort_sorted (ds : List D) : (tsort ds).Pairwise fun d e => tle (shp ds) d e = true :=
  List.pairwise_mergeSort (le := tle (shp ds)) (fun a b c h1 h2 => kLe_trans h1 h2) (fun a b => kLe_total _ _) ds
theorem tsort_of {ds es : List D} (ht : tups ds = true) (p : es.Perm ds) (s : es.Pairwise fun d e => tle (shp ds) d e = true) : es = tsort ds := by
  refine (p.trans (tsort_perm ds).symm).eq_of_pairwise (le := fun d e => tle (shp ds) d e = true) (fun a b ha hb h1 h2 => ?_) s (tsort_sorted ds)
  have hk : ∀ d ∈ ds, ∃ k, dKey (shp ds) d = some k := fun d hd => Option.isSome_iff_exists.mp (List.all_eq_true.mp ht d hd)
  obtain ⟨k1, e1⟩ := hk a (p.mem_iff.mp ha)
  obtain ⟨k2, e2⟩ := hk b ((tsort_perm ds).mem_iff.mp hb)
  have := kLe_anti h1 h2
  rw [e1, e2] at this
  simp at this
  subst this
  exact dKey_inj e1 e2
section
variable {K : PySem.W.Frag} {F H : Hp}
theorem Reps.perm {xs ys : List V} {ds : List D} (h : Reps K F xs ds) (p : ys.Perm xs) : ∃ es, Reps K F ys es ∧ es.Perm ds := by
  induction p generalizing ds with
  | nil => exact ⟨ds, h, List.Perm.refl _⟩
  | cons x p ih =>
    cases ds with
    | nil => cases (show _ :: _ = [] from h)
    | cons d ds =>
      obtain ⟨v, r, e, h1, h2⟩ := h
      cases e
      obtain ⟨es, e1, e2⟩ := ih h2
      exact ⟨d :: es, ⟨_, _, rfl, h1, e1⟩, e2.cons d⟩
  | swap x y l =>
    cases ds with
    | nil => cases (show _ :: _ = [] from h)
    | cons d ds =>
      obtain ⟨v, r, e, h1, h2⟩ := h
      cases e
      cases ds with
      | nil => cases (show _ :: _ = [] from h2)
      | cons d2 ds =>
        obtain ⟨v2, r2, e, h3, h4⟩ := h2
        cases e
        exact ⟨d2 :: d :: ds, ⟨_, _, rfl, h3, _, _, rfl, h1, h4⟩, .swap _ _ _⟩
  | trans p1 p2 ih1 ih2 =>
    obtain ⟨es, e1, e2⟩ := ih2 h
    obtain ⟨es2, e3, e4⟩ := ih1 e1
    exact ⟨es2, e3, e4.trans e2⟩
theorem items_at {sh : Nat → Bool} : ∀ {es : List D} {ws : List V} {its : List Value} {i : Nat} {k : Lk}, Reps K F ws es → Vals ws its → dItems sh i es = some k → tupItems sh i its = some k
  | [], ws, its, i, k, h, r, e => by
    cases (show ws = [] from h)
    cases r
    cases e
    rfl
  | d :: es, ws, its, i, k, h, r, e => by
    obtain ⟨v, rs, rfl, h1, h2⟩ := h
    cases r with
    | cons rv r =>
      cases d with
      | int n =>
        simp only [Rep] at h1
        subst h1
        obtain ⟨t, rfl⟩ := rv
        simp only [dItems] at e
        split at e
        · cases e
        · rename_i hs
          obtain ⟨a, e1, rfl⟩ := Option.map_eq_some_iff.mp e
          have ih := items_at h2 r e1
          simp only [tupItems, if_neg hs, ih, Option.map_some]
      | str x =>
        simp only [Rep] at h1
        subst h1
        obtain ⟨t, rfl⟩ := rv
        simp only [dItems] at e
        split at e
        · rename_i hs
          obtain ⟨a, e1, rfl⟩ := Option.map_eq_some_iff.mp e
          have ih := items_at h2 r e1
          simp only [tupItems, if_pos hs, ih, Option.map_some]
        · cases e
      | _ => simp [dItems] at e
variable {X : Cx} {pins : List (Addr × Obj)} {σ : L2.St} {s : Shared}
theorem key_at (I : Inv X pins σ H s) (sf : Same F H) {sh : Nat → Bool} {v : V} {d : D} {k : Lk} (h : Rep X.K F v d) (e : dKey sh d = some k) : ∃ a f, v = .ref a ∧ G.tupKeyC s.heap sh (.ref a) = some k ∧ TupOf s.heap sh (.ref a) f := by
  cases d with
  | tuple ds =>
    cases ds with
    | nil => cases e
    | cons d ds =>
      obtain ⟨a, vs, rfl, h1, h2⟩ := h
      obtain ⟨its, r, ⟨o, ho, hc, n, hd⟩, _⟩ := I.tuple (sameT sf h1.sq)
      have e1 := items_at h2 r e
      have hI : G.isTupObj s.heap (.ref a) = true := by
        simp only [G.isTupObj, ho, hc]
        rfl
      have hk : tupKey s.heap sh (.ref a) = some k := by
        simp only [tupKey, ho, hd]
        exact e1
      cases its with
      | nil =>
        obtain ⟨v, rs, e2, _⟩ := h2
        subst e2
        cases r
      | cons u its =>
        refine ⟨a, u, rfl, by rw [G.tupKeyC, if_pos hI, hk], a, o, _, n, rfl, ho, hc, hd, rfl, fun hs => ?_, fun hs => ?_⟩
        · cases u with
          | int n t => exact ⟨n, t, rfl⟩
          | str x t => simp [tupItems, hs] at e1
          | _ => simp [tupItems] at e1
        · cases u with
          | int n t => simp [tupItems, hs] at e1
          | str x t => exact ⟨x, t, rfl⟩
          | _ => simp [tupItems] at e1
  | _ => cases e
def rSortG (K : PySem.W.Frag) : List V → Hp → VK → Prop := fun vs H Q => ∃ (F : Hp) (a : Addr) (xs : List V) (ds : List D) (sh : Nat → Bool), vs = [V.ref a] ∧ Same F H ∧ SqL K H a xs ∧ Reps K F xs ds ∧ (∀ d ∈ ds, (dKey sh d).isSome = true) ∧
  ∀ (ys : List V) (es : List D) (p : Addr), Reps K F ys es → es.Perm ds → (es.Pairwise fun d e => tle sh d e = true) → H p = none → Q (.ref p) (upd H p (.lst ys))
theorem keys_at (I : Inv X pins σ H s) (sf : Same F H) {sh : Nat → Bool} : ∀ {ds : List D} {xs : List V} {its : List Value}, Reps X.K F xs ds → Vals xs its → (∀ d ∈ ds, (dKey sh d).isSome = true) →
    (∃ fs, TupsOf s.heap sh its fs) ∧ (∀ v ∈ its, ∃ l, G.tupKeyC s.heap sh v = some l) ∧ ∀ x ∈ xs, ∃ a, x = V.ref a
  | [], xs, its, h, r, _ => by
    cases (show xs = [] from h)
    cases r
    exact ⟨⟨[], .nil⟩, fun v hv => (by cases hv), fun v hv => (by cases hv)⟩
  | d :: ds, xs, its, h, r, hk => by
    obtain ⟨v, rs, rfl, h1, h2⟩ := h
    cases r with
    | cons rv r =>
      obtain ⟨k, e⟩ := Option.isSome_iff_exists.mp (hk d List.mem_cons_self)
      obtain ⟨a, f, rfl, e1, e2⟩ := key_at I sf h1 e
      cases (show _ = Value.ref a from rv)
      obtain ⟨⟨fs, g1⟩, g2, g3⟩ := keys_at I sf h2 r fun d hd => hk d (List.mem_cons_of_mem _ hd)
      refine ⟨⟨f :: fs, .cons e2 g1⟩, fun v hv => ?_, fun x hx => ?_⟩
      · rcases List.mem_cons.mp hv with rfl | hv
        · exact ⟨k, e1⟩
        · exact g2 v hv
      · rcases List.mem_cons.mp hx with rfl | hx
        · exact ⟨a, rfl⟩
        · exact g3 x hx
/-- sorted(xs), xs a list of tuples of numbers and texts -/
theorem cr_sortG : CallR X (.builtin "sorted") (rSortG X.K) := by
  intro pins s σ H vs us Q I r h
  obtain ⟨F, a, xs, ds, sh, rfl, sf, hs, hr, hk, q⟩ := h
  obtain ⟨its, rv, hl, hz⟩ := I.list hs
  rw [Vals.ref1 r]
  obtain ⟨⟨fs, g1⟩, g2, g3⟩ := keys_at I sf hr rv hk
  obtain ⟨e1, e2⟩ := bkV_refs rv g3
  refine G.sorted_tups hl.isList g1 g2 (by rw [← rv.length]; exact hz) fun st' h1 h2 _ => ?_
  obtain ⟨ep, he⟩ := sortedAll_at s.heap its ((arrOf st').map (·.2))
  have pz : ((arrOf st').map (·.2)).toList.Perm its := by
    have := (h1.toList).map (·.2)
    rw [pairsOf_toList] at this
    simpa [List.map_snd_zip] using this
  have h3 : ∀ u ∈ ((arrOf st').map (·.2)).toList, ∃ a, u = Value.ref a := fun u hu => e2 u (pz.mem_iff.mp hu)
  have hp : (((arrOf st').map (·.2)).toList.map bkV).Perm xs := by
    rw [e1]
    exact pz.map bkV
  have hlen : (((arrOf st').map (·.2)).toList.map bkV).length ≤ sizeLine := by
    rw [hp.length_eq]
    exact hz
  obtain ⟨es, r1, r2⟩ := hr.perm hp
  have hes : ∀ d ∈ es, (dKey sh d).isSome = true := fun d hd => hk d (r2.mem_iff.mp hd)
  refine ⟨.ref _, upd H (s.heap.objs.size + 1) (.lst (((arrOf st').map (·.2)).toList.map bkV)), I.laid (t' := s.toks) (fun _ _ => sortedAll_old) (Nat.le_succ _) ⟨hlen, _, ep, bkV_vals h3, he⟩, rfl, q _ es _ r1 r2 ?_ (I.hok.fresh (Nat.le_succ _))⟩
  rw [List.pairwise_iff_getElem]
  intro i j hi hj hij
  have hsz : es.length = (arrOf st').size := by rw [← r1.length]; simp
  have h4 := h2 i j (by omega) (by rw [← h1.size_eq]; omega)
  have key : ∀ (i : Nat) (hi : i < es.length), KK (G.tupKindC s.heap sh) (arrOf st') i = (dKey sh es[i]).getD [] := by
    intro i hi
    have hi2 : i < (arrOf st').size := by omega
    obtain ⟨k, e⟩ := Option.isSome_iff_exists.mp (hes _ (List.getElem_mem hi))
    obtain ⟨v, e3, e4⟩ := r1.get (List.getElem?_eq_getElem hi)
    obtain ⟨b, f, rfl, e5, _⟩ := key_at I sf e4 e
    have hm : (arrOf st')[i] ∈ (pairsOf its).toList := (h1.mem_iff).mp (Array.getElem_mem hi2) |> Array.mem_toList_iff.mpr
    rw [pairsOf_toList] at hm
    obtain ⟨q1, _⟩ := mem_zip_self hm
    have e6 : ((arrOf st')[i]).2 = .ref b := by
      have : bkV ((arrOf st')[i]).2 = .ref b := by
        simpa [List.getElem?_map, Array.getElem?_eq_getElem hi2] using e3
      exact bkV_ref this
    unfold KK
    rw [Array.getElem?_eq_getElem hi2]
    simp only [q1, e6]
    rw [e]
    show Option.getD (G.tupKeyC s.heap sh (.ref b)) [] = _
    rw [e5]
  rw [show (KK (G.tupKindC s.heap sh) (arrOf st') i) = _ from key i hi, show (KK (G.tupKindC s.heap sh) (arrOf st') j) = _ from key j hj] at h4
  simp only [tle, kLe, Bool.not_eq_true']
  exact h4
theorem sortX_ok : ∃ r, CallR X (.builtin "sorted") r ∧ FnB X.K sortX r := by
  obtain ⟨r1, h1, k1⟩ := sort_ok (X := X)
  refine ⟨fun vs H Q => r1 vs H Q ∨ rSortG X.K vs H Q, ?_, fun F H vs ds c Q s hr he q => ?_⟩
  · intro pins s σ H vs us Q I r h
    rcases h with h | h
    · exact h1 _ _ _ _ _ _ _ I r h
    · exact cr_sortG _ _ _ _ _ _ _ I r h
  · match ds, he, hr with
    | [.list ds], he, hr =>
      simp only [sortX] at he
      split at he
      · rename_i ns e1
        left
        exact k1 F H vs _ c Q s hr (by simp only [sortD, e1, Option.map_some]; exact he) q
      · split at he
        · rename_i ht
          right
          cases he
          obtain ⟨x, rfl, g⟩ := hr.one
          obtain ⟨a, vs, rfl, g1, g2⟩ := rb_lst s g
          refine ⟨F, a, vs, ds, shp ds, rfl, s, g1, g2, fun d hd => List.all_eq_true.mp ht d hd, fun ys es p r1 r2 r3 hp => ?_⟩
          rw [tsort_of ht r2 r3] at r1
          exact g_lst s r1 q p hp
        · cases he
end
theorem sortX_ints (ns : List Int) : sortX [.list (ns.map PyData.int)] = some (.ls ((isort ns).map PyData.int)) := by
  have : ∀ ns : List Int, intsOf (ns.map PyData.int) = some ns := fun ns => by
    induction ns with
    | nil => rfl
    | cons n ns ih => simp [intsOf, ih]
  simp only [sortX, this]
end L2.M
namespace L2.M
open PySem PySem.Spec PyProof.Rows
def mM (f : List D → Option C) (kind : D → Bool) (mo : OM) (ma : AM) : EM := fun ε => do
  let (o, ε1) ← mo ε
  let d0 ← bor ε1 o
  if kind d0 then
    let (os, ε2) ← ma ε1
    let ds ← bors ε2 (o :: os)
    let c ← f ds
    some (c, ε2)
  else none
def isL : D → Bool
  | .list _ => true
  | _ => false
def isS : D → Bool
  | .str _ => true
  | _ => false
def FnM (K : PySem.W.Frag) (f : List D → Option C) (r : V → List V → Hp → VK → Prop) : Prop :=
  ∀ F H x xs ds c Q, Same F H → RepBs K F H (x :: xs) ds → f ds = some c → (∀ v F' H', Grow K F H F' H' v c → Q v H') → r x xs H Q
end L2.M
namespace L2.M
open PySem PySem.Spec PyProof.Rows
theorem ObP.set {K : Ek} {H : Hp} {a : Addr} {vs : List V} {k : Nat} {v : V} (hv : vs[k]? = some v) : ∀ {kd : Kd}, ObP K H a vs kd → ObP K H a (vs.set k v) kd := fun {kd} h => by rw [set_same hv]; exact h
def PlV (K : Ek) (H : Hp) (σ : St) (ε : Cs) (i k : Nat) (v : V) : Prop := ∃ a kd cs vs, σ[i]? = some (some (.ref a)) ∧ ε[i]? = some (.ob kd cs) ∧ ObP K H a vs kd ∧ vs[k]? = some v ∧ vs.length = cs.length
section
variable {K : Ek} {F R H : Hp} {σ : St} {ε : Cs} {T : Tms} {i k : Nat} {v : V} {c : C} {kd : Kd} {cs : List C}
theorem ObP.inj {a : Addr} {vs us : List V} : ∀ {kd : Kd}, ObP K H a vs kd → ObP K H a us kd → vs = us
  | .dn _, h, _ => h.elim
  | .ls, h, g => by
    have h : H a = _ := h
    have g : H a = _ := g
    rw [h] at g
    cases g
    rfl
  | .ins x fs, ⟨dx, h1, h2, _⟩, ⟨dy, g1, g2, _⟩ => by
    rw [h1] at g1
    injection g1 with g1
    injection g1 with _ _ g1
    have := congrArg (List.map (·.2)) g1
    rwa [List.map_snd_zip (by omega), List.map_snd_zip (by omega)] at this
/-- the place's value, by the cells -/
theorem Sep.plv (s : Sep K F R H σ ε T) (h : ε[i]? = some (.ob kd cs)) (hk : k < cs.length) (hp : kd.pl) : ∃ a vs v, σ[i]? = some (some (.ref a)) ∧ ObP K H a vs kd ∧ vs.length = cs.length ∧ vs[k]? = some v ∧ PlV K H σ ε i k v := by
  obtain ⟨o, f, e1, a, vs, fs, rfl, e2, h1, h2⟩ := s.cell h
  have l := h2.len
  rw [List.length_map] at l
  have hv : vs[k]? = some (vs[k]'(by omega)) := List.getElem?_eq_getElem (by omega)
  have h1 := h1.p hp
  exact ⟨a, vs, _, e1, h1, l.1, hv, a, kd, cs, vs, e1, h, h1, hv, l.1⟩
/-- a part is taken out -/
theorem Sep.focus (s : Sep K F R H σ ε T) (h : ε[i]? = some (.ob kd cs)) (hc : cs[k]? = some c) (p : PlV K H σ ε i k v) : Sep K F R H σ (ε.set i (.ob kd (cs.set k .no))) ((v, c) :: T) := by
  obtain ⟨a, kd', cs', vs, p1, p2, p3, p4, p5⟩ := p
  rw [h] at p2
  cases p2
  have s1 := s.take h p1
  obtain ⟨a1, a2, a3, ⟨fs, gs, h1, ⟨o, r, f, fr, e1, e2, ⟨b, us, gg, g1, g2, g3, g4⟩, h3⟩, n, m⟩⟩ := s1
  obtain ⟨rfl, rfl⟩ := List.cons.inj e1
  cases g1
  have := (g3.p p3.pl).inj p3
  subst this
  subst e2
  have hl := g4.len
  obtain ⟨o', f', k1, k2, k3⟩ := g4.get hc
  rw [List.getElem?_map, p4] at k1
  cases k1
  have g4' : RpCs K F H (us.map some) (cs.set k .no) (gg.set k []) := by
    have := RpCs.set (K := K) (F := F) (H := H) (o := some v) (c := .no) (f := []) rfl k g4
    rwa [set_same (by rw [List.getElem?_map, p4]; rfl)] at this
  rw [List.flatten_cons, List.nodup_append, List.nodup_append] at n
  obtain ⟨n1, ⟨n2, n4, n5⟩, n3⟩ := n
  rw [g2, List.nodup_cons] at n2
  have sl : ∀ b, b ∈ (gg.set k []).flatten → b ∈ gg.flatten ∧ b ∉ f' := fun b hb => by
    rcases flat_set hb with hb | ⟨j, g, hj, hg, hb⟩
    · cases hb
    · exact ⟨flat_get hg hb, fun z => hj (nodup_apart n2.2 hg k2 hb z)⟩
  have s2 : Sep K F R H σ (ε.set i .no) ((.ref a, .ob kd (cs.set k .no)) :: (v, c) :: T) := by
    refine ⟨a1, a2, a3, fs, (a :: (gg.set k []).flatten) :: f' :: fr, h1, ⟨_, _, _, _, rfl, rfl, ⟨a, us, _, rfl, rfl, g3, g4'⟩, _, _, _, _, rfl, rfl, k3, h3⟩, ?_, fun b hb => m b ?_⟩
    · simp only [List.flatten_cons]
      rw [List.nodup_append, List.nodup_append, List.nodup_append]
      refine ⟨n1, ⟨List.nodup_cons.mpr ⟨fun z => n2.1 (sl a z).1, nodup_set (by simp) n2.2 fun _ _ _ _ b hb => by cases hb⟩, ⟨nodup_get n2.2 k2, n4, fun x hx y hy => n5 x (by rw [g2]; exact List.mem_cons_of_mem _ (flat_get k2 hx)) y hy⟩, fun x hx y hy z => ?_⟩, fun x hx y hy => n3 x hx y ?_⟩
      · subst z
        rcases List.mem_append.mp hy with hy | hy
        · rcases List.mem_cons.mp hx with rfl | hx
          · exact n2.1 (flat_get k2 hy)
          · exact (sl x hx).2 hy
        · refine n5 x ?_ x hy rfl
          rw [g2]
          rcases List.mem_cons.mp hx with rfl | hx
          · exact List.mem_cons_self
          · exact List.mem_cons_of_mem _ (sl x hx).1
      · simp only [List.mem_append, g2, List.mem_cons] at hy ⊢
        rcases hy with (hy | hy) | hy | hy
        · exact .inl (.inl hy)
        · exact .inl (.inr (sl y hy).1)
        · exact .inl (.inr (flat_get k2 hy))
        · exact .inr hy
    · simp only [List.flatten_cons, List.mem_append, g2, List.mem_cons] at hb ⊢
      rcases hb with hb | (hb | hb) | hb | hb
      · exact .inl hb
      · exact .inr (.inl (.inl hb))
      · exact .inr (.inl (.inr (sl b hb).1))
      · exact .inr (.inl (.inr (flat_get k2 hb)))
      · exact .inr (.inr hb)
  have s3 := s2.put p1
  rw [List.set_set] at s3
  exact s3
/-- a part is put to its place: what stood there of its own is forgotten -/
theorem Sep.unfocus (s : Sep K F R H σ ε ((v, c) :: T)) (h : ε[i]? = some (.ob kd cs)) (p : PlV K H σ ε i k v) : Sep K F R H σ (ε.set i (.ob kd (cs.set k c))) T := by
  obtain ⟨a, kd', cs', vs, p1, p2, p3, p4, p5⟩ := p
  rw [h] at p2
  cases p2
  have s1 := s.take h p1
  have s2 : Sep K F R H σ (ε.set i .no) ((.ref a, .ob kd (cs.set k c)) :: T) := by
    refine Sep.change (T1 := [(.ref a, .ob kd cs), (v, c)]) s1 fun gs q n _ => ?_
    obtain ⟨o, r, f, fr, e1, e2, ⟨b, us, gg, g1, g2, g3, g4⟩, o', r', f', fr', e1', e2', q2, q3, q4⟩ := q
    obtain ⟨rfl, rfl⟩ := List.cons.inj e1
    obtain ⟨rfl, rfl⟩ := List.cons.inj e1'
    cases g1
    have := (g3.p p3.pl).inj p3
    subst this
    subst e2' e2 q4
    have g4' := RpCs.set q2 k g4
    rw [set_same (by rw [List.getElem?_map, p4]; rfl)] at g4'
    have e : ([f, f'] : List (List Addr)).flatten = (a :: gg.flatten) ++ f' := by simp [g2]
    rw [e] at n ⊢
    rw [List.nodup_append, List.nodup_cons] at n
    obtain ⟨⟨n1, n2⟩, n3, n4⟩ := n
    refine ⟨a :: (gg.set k f').flatten, ⟨a, us, _, rfl, rfl, g3, g4'⟩, List.nodup_cons.mpr ⟨fun z => ?_, nodup_set n3 n2 fun j g hj hg b hb hb2 => n4 b (List.mem_cons_of_mem _ (flat_get hg hb2)) b hb rfl⟩, fun b hb => ?_, fun b u _ e => e⟩
    · rcases flat_set z with z | ⟨j, g, _, hg, z⟩
      · exact n4 a List.mem_cons_self a z rfl
      · exact n1 (flat_get hg z)
    · left
      rcases List.mem_cons.mp hb with rfl | hb
      · simp
      · rcases flat_set hb with hb | ⟨j, g, _, hg, hb⟩
        · exact List.mem_append_right _ hb
        · exact List.mem_append_left _ (List.mem_cons_of_mem _ (flat_get hg hb))
  have s3 := s2.put p1
  rw [List.set_set] at s3
  exact s3
theorem PlV.hole (p : PlV K H σ ε i k v) (h : ε[i]? = some (.ob kd cs)) (c : C) : PlV K H σ (ε.set i (.ob kd (cs.set k c))) i k v := by
  obtain ⟨a, kd', cs', vs, p1, p2, p3, p4, p5⟩ := p
  rw [h] at p2
  cases p2
  exact ⟨a, kd, _, vs, p1, List.getElem?_set_self (List.getElem?_eq_some_iff.mp h).1, p3, p4, by simpa using p5⟩
theorem PlV.heap {H' : Hp} (p : PlV K H σ ε i k v) (h : ∀ a, σ[i]? = some (some (.ref a)) → H' a = H a) : PlV K H' σ ε i k v := by
  obtain ⟨a, kd, cs, vs, p1, p2, p3, p4, p5⟩ := p
  exact ⟨a, kd, cs, vs, p1, p2, ObP.frame (h a p1) p3, p4, p5⟩
/-- a slot's whole thing waits aside, and nothing of it is changed -/
theorem Sep.hideX (s : Sep K F R H σ ε T) (h : ε[i]? = some c) (hn : c ≠ .no) : ∃ w f R1, σ[i]? = some (some w) ∧ RpC K F H (some w) c f ∧ Sep K F R1 H σ (ε.set i .no) T ∧
    ∀ F' H' ε' T', Same F F' → Sep K F' R1 H' σ ε' T' → Sep K F' R H' σ (ε'.set i c) T' ∧ (∀ b ∈ f, H' b = H b) := by
  obtain ⟨w, hw⟩ := s.val h hn
  have s1 := s.take h hw
  obtain ⟨a1, a2, a3, ⟨fs, gs, h1, ⟨o, r, f, fr, e1, e2, h2, h3⟩, n, m⟩⟩ := id s1
  obtain ⟨rfl, rfl⟩ := List.cons.inj e1
  have lv := RpC.live h2
  -- as hide, and the heap at f told
  let R1 : Hp := fun b => if b ∈ f then H b else R b
  have i1 : ∀ {b}, b ∈ f → R1 b = H b := fun {b} hb => if_pos hb
  have i2 : ∀ {b}, b ∉ f → R1 b = R b := fun {b} hb => if_neg hb
  subst e2
  have fin : ∀ b, b ∈ f → F b = none ∧ R b = none := fun b hb => m b (by simp [hb])
  have sR : Same R R1 := fun b u e => by
    rw [i2 fun z => by rw [(fin b z).2] at e; cases e]; exact e
  rw [List.flatten_cons, List.nodup_append, List.nodup_append] at n
  obtain ⟨n1, ⟨n2, n4, n5⟩, n3⟩ := n
  refine ⟨w, f, R1, hw, h2, ⟨a1, fun b u e => ?_, fun b hb => ?_, fs, fr, h1, h3, ?_, fun b hb => ?_⟩, fun F' H' ε' T' fm s' => ?_⟩
  · by_cases q : b ∈ f
    · rw [i1 q] at e; exact e
    · rw [i2 q] at e; exact a2 b u e
  · rw [i2 fun z => hb (fin b z).1]; exact a3 b hb
  · rw [List.nodup_append]
    exact ⟨n1, n4, fun a ha b hb => n3 a ha b (List.mem_append_right _ hb)⟩
  · have q : b ∉ f := fun z => by
      rcases List.mem_append.mp hb with hb | hb
      · exact n3 b hb b (List.mem_append_left _ z) rfl
      · exact n5 b z b hb rfl
    rw [i2 q]
    refine m b ?_
    simp only [List.flatten_cons, List.mem_append] at hb ⊢
    rcases hb with hb | hb
    · exact .inl hb
    · exact .inr (.inr hb)
  · obtain ⟨b1, b2, b3, ⟨fs', gs', k1, k2, n', m'⟩⟩ := s'
    have live' : ∀ b, b ∈ f → R1 b ≠ none := fun b hb => by rw [i1 hb]; exact lv b hb
    have heq : ∀ b ∈ f, H' b = H b := fun b hb => by
      cases q : H b with
      | none => exact absurd q (lv b hb)
      | some u => exact b2 b u ((i1 hb).trans q)
    have fF : ∀ b ∈ f, F' b = none := fun b hb => by
      by_cases q : F' b = none
      · exact q
      · exact absurd (b3 b q) (live' b hb)
    have nf : ∀ b, b ∈ fs'.flatten ++ gs'.flatten → b ∉ f := fun b hb z => live' b z (m' b hb).2
    refine ⟨Sep.put (v := w) ⟨b1, fun b u e => b2 b u (sR b u e), fun b hb => ?_, fs', f :: gs', k1, ⟨_, _, _, _, rfl, rfl, RpC.frame fm heq h2, k2⟩, ?_, fun b hb => ?_⟩ hw, heq⟩
    · have z := b3 b hb
      cases q : R b with
      | none => rfl
      | some u => rw [sR b u q] at z; cases z
    · rw [List.flatten_cons]
      rw [List.nodup_append] at n' ⊢
      rw [List.nodup_append]
      refine ⟨n'.1, ⟨n2, n'.2.1, fun a ha b hb z => nf b (List.mem_append_right _ hb) (z ▸ ha)⟩, fun a ha b hb z => ?_⟩
      rcases List.mem_append.mp hb with hb | hb
      · exact nf a (List.mem_append_left _ ha) (z ▸ hb)
      · exact n'.2.2 a ha b hb z
    · simp only [List.flatten_cons, List.mem_append] at hb
      rcases hb with hb | hb | hb
      · obtain ⟨z1, z2⟩ := m' b (List.mem_append_left _ hb)
        rw [i2 (nf b (List.mem_append_left _ hb))] at z2
        exact ⟨z1, z2⟩
      · exact ⟨fF b hb, (fin b hb).2⟩
      · obtain ⟨z1, z2⟩ := m' b (List.mem_append_right _ hb)
        rw [i2 (nf b (List.mem_append_right _ hb))] at z2
        exact ⟨z1, z2⟩
end
end L2.M
namespace L2.M
open PySem PySem.Spec PyProof.Rows
abbrev PlM := Cs → Option ((Nat × Nat) × Cs)
def tPl (K : Ek) (m : PlM) : TE := fun σ H Q => ∃ F R ε i k ε', Sep K F R H σ ε [] ∧ m ε = some ((i, k), ε') ∧ ∀ v F' H', Same F F' → Sep K F' R H' σ ε' [] → PlV K H' σ ε' i k v → Q v H'
/-- x.f -/
def mPlF (i k : Nat) (x f : Str) : PlM := fun ε => match ε[i]? with
  | some (.ob (.ins y fs) cs) => if y = x ∧ fs[k]? = some f ∧ k < cs.length then some ((i, k), ε) else none
  | _ => none
/-- x[e] -/
def mPlI (i : Nat) (ix : OM) : PlM := fun ε => match ε[i]? with
  | some (.ob .ls _) => do
    let (o, ε1) ← ix ε
    let d ← bor ε1 o
    match d, ε1[i]? with
      | .int z, some (.ob .ls cs) => do
        let j ← ixN cs.length z
        some ((i, j), ε1)
      | _, _ => none
  | _ => none
theorem lookup_zip {fs : List Str} {vs : List V} {k : Nat} {f : Str} {v : V} (n : fs.Nodup) (hf : fs[k]? = some f) (hv : vs[k]? = some v) : (fs.zip vs).lookup f = some v := by
  induction fs generalizing vs k with
  | nil => simp at hf
  | cons g fs ih =>
    cases vs with
    | nil => simp at hv
    | cons u vs =>
      rw [List.nodup_cons] at n
      cases k with
      | zero =>
        simp at hf hv
        subst hf hv
        simp [List.lookup]
      | succ k =>
        have hf : fs[k]? = some f := by simpa using hf
        have hv : vs[k]? = some v := by simpa using hv
        have ne : (f == g) = false := by
          rw [beq_eq_false_iff_ne]
          rintro rfl
          exact n.1 (List.mem_of_getElem? hf)
        rw [List.zip_cons_cons, List.lookup_cons, ne]
        exact ih n.2 hf hv
theorem lookup_none {fs : List Str} {vs : List V} {f : Str} (h : f ∉ fs) : (fs.zip vs).lookup f = none := by
  induction fs generalizing vs with
  | nil => rfl
  | cons g fs ih =>
    cases vs with
    | nil => rfl
    | cons u vs =>
      have ne : (f == g) = false := by
        rw [beq_eq_false_iff_ne]
        rintro rfl
        exact h List.mem_cons_self
      rw [List.zip_cons_cons, List.lookup_cons, ne]
      exact ih fun z => h (List.mem_cons_of_mem _ z)
section
variable {X : Cx} {pos : Pos}
theorem mp_fld {i k : Nat} {x f y : Str} {p : Pos} (c : Cls X.K (He.ga X.K x)) (n : NoAttr X.K (He.ga X.K x) f) (hv : PE X (.Name y p) (tVar i)) (hb : attributeBase (.Name y p) f X.env (eval (.Name y p) X.env) = eval (.Name y p) X.env) :
    PE X (.Attribute (.Name y p) f pos) (tPl X.E (mPlF i k x f)) := (pe_fld hv hb).weak fun σ H Q h => by
  obtain ⟨F, R, ε, i', k', ε', s, e, q⟩ := h
  unfold mPlF at e
  split at e
  · rename_i z fs cs hx
    split at e
    · rename_i hc
      cases e
      obtain ⟨rfl, hf, hk⟩ := hc
      obtain ⟨a, vs, v, h1, ⟨dx, h2, h3, h4⟩, h5, h6, h7⟩ := s.plv hx hk trivial
      exact ⟨_, h1, a, _, dx, _, v, rfl, h2, c, n, lookup_zip h4 hf h6, q v F H (Same.refl F) s h7⟩
    · cases e
  · cases e
end
section
variable {K : Ek} {F R H : Hp} {σ : St} {ε : Cs} {T : Tms} {i k : Nat} {v : V} {c : C} {kd : Kd} {cs : List C} {d : D}
theorem Sep.viewP (s : Sep K F R H σ ε T) (h : ε[i]? = some (.ob kd cs)) (hc : cs[k]? = some c) (hd : cD c = some d) (p : PlV K H σ ε i k v) : RepB K.1 F H v d := by
  have s1 := s.focus h hc p
  cases c with
  | sh d' => cases hd; exact .inl s1.repT
  | ls ds =>
    cases hd
    obtain ⟨a, vs, rfl, g1, g2, g3⟩ := s1.hdL
    exact .inr ⟨a, vs, ds, rfl, rfl, g1, g3⟩
  | no => cases hd
  | dc _ _ => cases hd
  | ob _ _ => cases hd
  | px _ _ _ _ => cases hd
  | fn _ => cases hd
  | fd _ => cases hd
  | fk _ => cases hd
/-- an own list at a place: what stands there, and how it is rewritten -/
theorem Sep.atP {ds : List D} (s : Sep K F R H σ ε T) (h : ε[i]? = some (.ob kd cs)) (hc : cs[k]? = some (.ls ds)) (p : PlV K H σ ε i k v) : ∃ l ws, v = .ref l ∧ H l = some (.lst ws) ∧ Reps K.1 F ws ds ∧
    ∀ us es, Reps K.1 F us es → Sep K F R (upd H l (.lst us)) σ (ε.set i (.ob kd (cs.set k (.ls es)))) T := by
  have s1 := s.focus h hc p
  obtain ⟨l, ws, rfl, g1, g2, g3⟩ := s1.hdL
  refine ⟨l, ws, rfl, g1, g3, fun us es r => ?_⟩
  have p1 := p.hole h .no
  have hi := (List.getElem?_eq_some_iff.mp h).1
  have hx : (ε.set i (.ob kd (cs.set k .no)))[i]? = some (.ob kd (cs.set k .no)) := List.getElem?_set_self hi
  have ap : ∀ a, σ[i]? = some (some (.ref a)) → a ≠ l := fun a ha e => by
    subst e
    obtain ⟨a1, a2, a3, ⟨fs, gs, h1, ⟨o, r, f, fr, e1, e2, ⟨b, us, q1, q2, _⟩, h3⟩, n, m⟩⟩ := s1
    obtain ⟨rfl, rfl⟩ := List.cons.inj e1
    cases q1
    obtain ⟨o', f', k1, k2, b', us', gg, k3, k4, _⟩ := h1.get hx
    rw [ha] at k1
    cases k1
    cases k3
    rw [List.nodup_append] at n
    exact n.2.2 a (flat_get k2 (by rw [k4]; exact List.mem_cons_self)) a (by rw [e2, q2]; simp) rfl
  have p2 := p1.heap (H' := upd H l (.lst us)) fun a ha => upd_ne (ap a ha)
  have s2 := (s1.wr r).unfocus hx p2
  rw [List.set_set, List.set_set] at s2
  exact s2
end
/-- the value there: an own list is frozen -/
def mRd (m : PlM) : EM := fun ε => do
  let ((i, k), ε1) ← m ε
  match ε1[i]? with
  | some (.ob kd cs) => match cs[k]? with
    | some (.sh d) => some (.sh d, ε1)
    | some (.ls ds) => some (.sh (.list ds), ε1.set i (.ob kd (cs.set k (.sh (.list ds)))))
    | _ => none
  | _ => none
/-- an operation of one, on what stands there -/
def mPU (f : List D → Option C) (m : PlM) : EM := fun ε => do
  let ((i, k), ε1) ← m ε
  match ε1[i]? with
  | some (.ob _ cs) => do
    let c0 ← cs[k]?
    let d ← cD c0
    let c ← f [d]
    some (c, ε1)
  | _ => none
/-- an operation of two, the first one there -/
def mPB (f : D → D → Option C) (m : PlM) (b : OM) : EM := fun ε => do
  let ((i, k), ε1) ← m ε
  match ε1[i]? with
  | some (.ob kd cs) => do
    let c0 ← cs[k]?
    let d ← cD c0
    let (o, ε2) ← b (ε1.set i .no)
    let e ← bor ε2 o
    let c ← f d e
    some (c, ε2.set i (.ob kd cs))
  | _ => none
section
variable {K : Ek} {σ : St} {H : Hp}
theorem tE_rd {m : PlM} {Q : VK} (h : tE K (mRd m) σ H Q) : tPl K m σ H Q := by
  obtain ⟨F, R, ε, c, ε', s, e, q⟩ := h
  unfold mRd at e
  cases e1 : m ε with
  | none => simp [e1] at e
  | some p =>
    obtain ⟨⟨i, k⟩, ε1⟩ := p
    simp only [e1, Option.bind_eq_bind, Option.bind_some] at e
    refine ⟨F, R, ε, i, k, ε1, s, e1, fun v F1 H1 fm s1 p => ?_⟩
    split at e
    · rename_i kd cs hx
      split at e
      · rename_i d hd
        cases e
        exact q v F1 H1 fm (s1.addSh (s1.focus hx hd p).repT)
      · rename_i ds hd
        cases e
        obtain ⟨F2, fm2, r, s2⟩ := (s1.focus hx hd p).freeze (d := .list ds) rfl
        have hi := (List.getElem?_eq_some_iff.mp hx).1
        have s3 := (s2.addSh r).unfocus (List.getElem?_set_self hi) (p.hole hx .no)
        rw [List.set_set, List.set_set] at s3
        exact q v F2 H1 (fm.trans fm2) (s3.addSh r)
      · cases e
    · cases e
theorem tE_pu {f : List D → Option C} {r : List V → Hp → VK → Prop} (hf : FnB K.1 f r) {m : PlM} {Q : VK} (h : tE K (mPU f m) σ H Q) : tCons (tPl K m) tNil σ H fun vs H' => r vs H' Q := by
  obtain ⟨F, R, ε, c, ε', s, e, q⟩ := h
  unfold mPU at e
  cases e1 : m ε with
  | none => simp [e1] at e
  | some p =>
    obtain ⟨⟨i, k⟩, ε1⟩ := p
    simp only [e1, Option.bind_eq_bind, Option.bind_some] at e
    refine ⟨F, R, ε, i, k, ε1, s, e1, fun v F1 H1 fm s1 p => ?_⟩
    split at e
    · rename_i kd cs hx
      cases e2 : cs[k]? with
      | none => simp [e2] at e
      | some c0 =>
        cases e3 : cD c0 with
        | none => simp [e2, e3] at e
        | some d =>
          cases e4 : f [d] with
          | none => simp [e2, e3, e4] at e
          | some c' =>
            simp [e2, e3, e4] at e
            obtain ⟨rfl, rfl⟩ := e
            refine hf F1 H1 [v] [d] c' Q s1.sub (.cons (s1.viewP hx e2 e3 p) .nil) e4 fun w F2 H2 g => ?_
            exact q w F2 H2 (fm.trans g.fm) (s1.res g)
    · cases e
end
section
variable {X : Cx} {a b e : Expr} {m : PlM} {mb : OM} {pos p : Pos}
theorem x_rd (h : PE X e (tPl X.E m)) : PE X e (tE X.E (mRd m)) := h.weak fun _ _ _ => tE_rd
theorem x_pbf (q : Bf) {y : Str} (hy : y = q.nm) (hm : X.mg q.nm = none) (hc : X.calm = true) (hg : Gl X y) (ha : PE X e (tPl X.E m)) (he : starEach [e] X.env = (false, eval e X.env) :: starEach [] X.env := by rfl) (hpl : (backTo pos (starEach [] X.env)).any (·.1) = false := by rfl) :
    PE X (.Call (.Name y p) [e] [] pos) (tE X.E (mPU q.f m)) := by
  subst hy
  have hp := pa_cons ha pa_nil he
  cases q with
  | len => exact let ⟨_, h1, h2⟩ := len_ok; (pe_callB h1 hg hm boot_len hp (by decide) (by decide) he hpl).weak fun _ _ _ => tE_pu h2
  | int => exact let ⟨_, h1, h2⟩ := int_ok; (pe_callTy h1 hg hm boot_int hp (by decide) (by decide) he hpl).weak fun _ _ _ => tE_pu h2
  | max => exact let ⟨_, h1, h2⟩ := max_ok hc; (pe_callB h1 hg hm boot_max hp (by decide) (by decide) he hpl).weak fun _ _ _ => tE_pu h2
  | min => exact let ⟨_, h1, h2⟩ := min_ok hc; (pe_callB h1 hg hm boot_min hp (by decide) (by decide) he hpl).weak fun _ _ _ => tE_pu h2
  | abs => exact let ⟨_, h1, h2⟩ := abs_ok; (pe_callB h1 hg hm boot_abs hp (by decide) (by decide) he hpl).weak fun _ _ _ => tE_pu h2
  | tuple => exact let ⟨_, h1, h2⟩ := tup_ok; (pe_callTy h1 hg hm boot_tuple hp (by decide) (by decide) he hpl).weak fun _ _ _ => tE_pu h2
  | list => exact let ⟨_, h1, h2⟩ := lst_ok; (pe_callTy h1 hg hm boot_list hp (by decide) (by decide) he hpl).weak fun _ _ _ => tE_pu h2
  | repr => exact let ⟨_, h1, h2⟩ := rep_ok; (pe_callB h1 hg hm boot_repr hp (by decide) (by decide) he hpl).weak fun _ _ _ => tE_pu h2
theorem x_psorted (hm : X.mg "sorted" = none) (hg : Gl X "sorted") (ha : PE X e (tPl X.E m)) (he : starEach [e] X.env = (false, eval e X.env) :: starEach [] X.env := by rfl) (hpl : (backTo pos (starEach [] X.env)).any (·.1) = false := by rfl) :
    PE X (.Call (.Name "sorted" p) [e] [] pos) (tE X.E (mPU sortX m)) :=
  let ⟨_, h1, h2⟩ := sortX_ok
  (pe_callB h1 hg hm boot_sorted1 (pa_cons ha pa_nil he) (by decide) (by decide) he hpl).weak fun _ _ _ => tE_pu h2
theorem x_fld (i k : Nat) {x f y : Str} {p : Pos} (c : Cls X.K (He.ga X.K x)) (n : NoAttr X.K (He.ga X.K x) f) (hv : PE X (.Name y p) (tVar i)) (hb : attributeBase (.Name y p) f X.env (eval (.Name y p) X.env) = eval (.Name y p) X.env := by rfl) :
    PE X (.Attribute (.Name y p) f pos) (tPl X.E (mPlF i k x f)) := mp_fld c n hv hb
end
end L2.M
namespace L2.M
open PySem PySem.Spec PyProof.Rows
section
variable {K : Ek} {F R H H' : Hp} {σ : St} {ε : Cs} {T : Tms} {i k : Nat} {y : V} {c : C} {kd kd' : Kd} {cs : List C}
/-- a part stored (or a new one behind the others), the object itself rewritten -/
theorem Sep.part (s : Sep K F R H σ ε ((y, c) :: T)) (h : ε[i]? = some (.ob kd cs)) : ∃ a vs, σ[i]? = some (some (.ref a)) ∧ ObAt K F H a vs kd ∧ vs.length = cs.length ∧ ∀ o us ds, (∀ gg f, RpCs K F H (vs.map some) cs gg → RpC K F H (some y) c f → (gg.flatten ++ f).Nodup → ∃ g2, RpCs K F H (us.map some) ds g2 ∧ g2.flatten.Nodup ∧ ∀ b ∈ g2.flatten, b ∈ gg.flatten ++ f) →
    ObAt K F (upd H a o) a us kd' → Sep K F R (upd H a o) σ (ε.set i (.ob kd' ds)) T := by
  obtain ⟨o0, f0, e1, h0⟩ := s.cell h
  obtain ⟨w, hw⟩ := s.val h fun z => nomatch z
  have s1 := s.take h hw
  obtain ⟨gs, q, n, nf, close⟩ := Sep.opens (T1 := [(w, .ob kd cs), (y, c)]) s1
  obtain ⟨o', r, f, fr, q1, q2, ⟨a, vs, gg, g1, g2, g3, g4⟩, o2, r2, f2, fr2, q3, q4, g5, g6, g7⟩ := q
  obtain ⟨rfl, rfl⟩ := List.cons.inj q1
  obtain ⟨rfl, rfl⟩ := List.cons.inj q3
  cases g1
  have l := g4.len
  rw [List.length_map] at l
  subst q4 q2 g7
  have e : ([f, f2] : List (List Addr)).flatten = a :: (gg.flatten ++ f2) := by simp [g2]
  rw [e] at n close
  rw [List.nodup_cons] at n
  refine ⟨a, vs, hw, g3, l.1, fun o us ds k1 k2 => ?_⟩
  obtain ⟨g8, m1, m2, m3⟩ := k1 gg f2 g4 g5 n.2
  have na : ∀ b ∈ g8.flatten, b ≠ a := fun b hb z => n.1 (by rw [← z]; exact m3 b hb)
  have s2 : Sep K F R (upd H a o) σ (ε.set i .no) ((.ref a, .ob kd' ds) :: T) := by
    refine close _ _ _ (a :: g8.flatten) ⟨a, us, g8, rfl, rfl, k2, RpCs.frame (Same.refl F) (fun b hb => upd_ne (na b hb)) m1⟩ (List.nodup_cons.mpr ⟨fun z => na a z rfl, m2⟩) (fun b hb => ?_) (fun b u hb e => ?_)
    · left
      rcases List.mem_cons.mp hb with rfl | hb
      · exact List.mem_cons_self
      · exact List.mem_cons_of_mem _ (m3 b hb)
    · rw [upd_ne]
      · exact e
      · rintro rfl
        exact hb List.mem_cons_self
  have s3 := s2.put hw
  rw [List.set_set] at s3
  exact s3
theorem part_set {vs : List V} {gg : List (List Addr)} {f : List Addr} {k : Nat} (g : RpCs K F H (vs.map some) cs gg) (r : RpC K F H (some y) c f) (n : (gg.flatten ++ f).Nodup) : ∃ g2, RpCs K F H ((vs.set k y).map some) (cs.set k c) g2 ∧ g2.flatten.Nodup ∧ ∀ b ∈ g2.flatten, b ∈ gg.flatten ++ f := by
  rw [List.nodup_append] at n
  refine ⟨gg.set k f, by rw [List.map_set]; exact RpCs.set r k g, nodup_set n.2.1 n.1 fun j x hj hx b hb hb2 => n.2.2 b (flat_get hx hb2) b hb rfl, fun b hb => ?_⟩
  rcases flat_set hb with hb | ⟨j, x, _, hx, hb⟩
  · exact List.mem_append_right _ hb
  · exact List.mem_append_left _ (flat_get hx hb)
theorem part_add {vs : List V} {gg : List (List Addr)} {f : List Addr} (g : RpCs K F H (vs.map some) cs gg) (r : RpC K F H (some y) c f) (n : (gg.flatten ++ f).Nodup) : ∃ g2, RpCs K F H ((vs ++ [y]).map some) (cs ++ [c]) g2 ∧ g2.flatten.Nodup ∧ ∀ b ∈ g2.flatten, b ∈ gg.flatten ++ f := by
  have e : (gg ++ [f]).flatten = gg.flatten ++ f := by simp
  refine ⟨gg ++ [f], by rw [List.map_append]; exact g.append ⟨_, _, _, _, rfl, rfl, r, rfl, rfl⟩, by rw [e]; exact n, fun b hb => by rw [e] at hb; exact hb⟩
end
theorem putF_zip {f : Str} {y : V} : ∀ {fs : List Str} {vs : List V} {k : Nat}, fs.Nodup → fs.length = vs.length → fs[k]? = some f → putF f y (fs.zip vs) = fs.zip (vs.set k y)
  | [], vs, k, _, _, h => by simp at h
  | g :: fs, [], k, _, l, _ => by cases l
  | g :: fs, u :: vs, 0, n, l, h => by
    simp at h
    subst h
    simp [putF]
  | g :: fs, u :: vs, k + 1, n, l, h => by
    rw [List.nodup_cons] at n
    have h : fs[k]? = some f := by simpa using h
    have ne : ¬ g = f := fun z => n.1 (z ▸ List.mem_of_getElem? h)
    show (if g = f then (g, y) :: fs.zip vs else (g, u) :: putF f y (fs.zip vs)) = _
    rw [if_neg ne, putF_zip n.2 (by simpa using l) h]
    rfl
theorem putF_new {f : Str} {y : V} : ∀ {fs : List Str} {vs : List V}, fs.length = vs.length → f ∉ fs → putF f y (fs.zip vs) = (fs ++ [f]).zip (vs ++ [y])
  | [], [], _, _ => rfl
  | [], u :: vs, l, _ => by cases l
  | g :: fs, [], l, _ => by cases l
  | g :: fs, u :: vs, l, h => by
    have ne : ¬ g = f := fun z => h (z ▸ List.mem_cons_self)
    show (if g = f then (g, y) :: fs.zip vs else (g, u) :: putF f y (fs.zip vs)) = _
    rw [if_neg ne, putF_new (by simpa using l) fun z => h (List.mem_cons_of_mem _ z)]
    rfl
/-- x.f = e -/
def mFSet (i k : Nat) (x f : Str) (m : EM) : XM := fun ε => do
  let (c, ε1) ← m ε
  match ε1[i]? with
  | some (.ob (.ins y fs) cs) =>
    if y = x ∧ fs[k]? = some f ∧ k < cs.length ∧ cs.length < 1000 then some (.nx, ε1.set i (.ob (.ins y fs) (cs.set k c)))
    else none
  | _ => none
/-- .. for the first time -/
def mFNew (i : Nat) (x f : Str) (m : EM) : XM := fun ε => do
  let (c, ε1) ← m ε
  match ε1[i]? with
  | some (.ob (.ins y fs) cs) =>
    if y = x ∧ f ∉ fs ∧ cs.length < 1000 then some (.nx, ε1.set i (.ob (.ins y (fs ++ [f])) (cs ++ [c])))
    else none
  | _ => none
section
variable {X : Cx} {W : Xw} {io : List Nat} {pos : Pos} {e : Expr} {m : EM}
theorem z_fset (i k : Nat) {x f y : Str} {p p2 : Pos} (hc : Cls X.K (He.ga X.K x)) (hn : NoAttr X.K (He.ga X.K x) f) (hv : PE X (.Name y p) (tVar i)) (he : PE X e (tE X.E m)) (hs : swapsWith e (some (.Attribute (.Name y p) f p2)) pos.line X.env = pure false := by rfl) :
    PS X (.Assign [.Attribute (.Name y p) f p2] e pos) (tS X.E W io (mFSet i k x f m)) := (ps_fld hv he hs).weak fun De σ H h => by
  obtain ⟨F, R, ε, fl, ε', s, e, q⟩ := h
  unfold mFSet at e
  cases e1 : m ε with
  | none => simp [e1] at e
  | some p =>
    obtain ⟨c, ε1⟩ := p
    simp only [e1, Option.bind_eq_bind, Option.bind_some] at e
    split at e
    · rename_i z fs cs hx
      split at e
      · rename_i hq
        cases e
        obtain ⟨rfl, hf, hk, hl⟩ := hq
        refine ⟨F, R, ε, c, ε1, s, e1, fun v F1 H1 fm s1 => ?_⟩
        obtain ⟨a, vs, h1, ⟨dx, h2, h3, h4⟩, h5, k1⟩ := s1.part (kd' := .ins z fs) hx
        refine ⟨_, h1, a, _, dx, _, rfl, h2, hc, hn, by rw [List.length_zip]; omega, ?_⟩
        rw [putF_zip h4 h3 hf]
        exact q F1 _ σ fm (StS.refl σ) (k1 _ (vs.set k v) (cs.set k c) (fun gg f g r n => part_set g r n) ⟨dx, upd_same, by simpa using h3, h4⟩)
      · cases e
    · cases e
theorem z_fnew (i : Nat) {x f y : Str} {p p2 : Pos} (hc : Cls X.K (He.ga X.K x)) (hn : NoAttr X.K (He.ga X.K x) f) (hv : PE X (.Name y p) (tVar i)) (he : PE X e (tE X.E m)) (hs : swapsWith e (some (.Attribute (.Name y p) f p2)) pos.line X.env = pure false := by rfl) :
    PS X (.Assign [.Attribute (.Name y p) f p2] e pos) (tS X.E W io (mFNew i x f m)) := (ps_fld hv he hs).weak fun De σ H h => by
  obtain ⟨F, R, ε, fl, ε', s, e, q⟩ := h
  unfold mFNew at e
  cases e1 : m ε with
  | none => simp [e1] at e
  | some p =>
    obtain ⟨c, ε1⟩ := p
    simp only [e1, Option.bind_eq_bind, Option.bind_some] at e
    split at e
    · rename_i z fs cs hx
      split at e
      · rename_i hq
        cases e
        obtain ⟨rfl, hf, hl⟩ := hq
        refine ⟨F, R, ε, c, ε1, s, e1, fun v F1 H1 fm s1 => ?_⟩
        obtain ⟨a, vs, h1, ⟨dx, h2, h3, h4⟩, h5, k1⟩ := s1.part (kd' := .ins z (fs ++ [f])) hx
        refine ⟨_, h1, a, _, dx, _, rfl, h2, hc, hn, by rw [List.length_zip]; omega, ?_⟩
        rw [putF_new h3 hf]
        refine q F1 _ σ fm (StS.refl σ) (k1 _ (vs ++ [v]) (cs ++ [c]) (fun gg f g r n => part_add g r n) ⟨dx, upd_same, by simpa using h3, ?_⟩)
        rw [List.nodup_append]
        exact ⟨h4, by simp, fun a ha b hb z => hf (by rw [← List.mem_singleton.mp hb, ← z]; exact ha)⟩
      · cases e
    · cases e
end
/-- x[ix] = e, x a list of own things -/
def mNSet (i : Nat) (m : EM) (ix : OM) : XM := fun ε => do
  let (c, ε1) ← m ε
  match ε1[i]? with
  | some (.ob .ls _) => do
    let (p, ε2) ← ix ε1
    let k ← bor ε2 p
    match k, ε2[i]? with
      | .int k, some (.ob .ls cs) => do
        let j ← ixN cs.length k
        some (.nx, ε2.set i (.ob .ls (cs.set j c)))
      | _, _ => none
  | _ => none
/-- p.append(e) -/
def mPApp (m : PlM) (e : EM) : XM := fun ε => do
  let ((i, k), ε1) ← m ε
  match ε1[i]? with
  | some (.ob kd cs) => match cs[k]? with
    | some (.ls ds) => do
      let (c, ε2) ← e (ε1.set i .no)
      let d ← cD c
      if ds.length < sizeLine then some (.nx, ε2.set i (.ob kd (cs.set k (.ls (ds ++ [d]))))) else none
    | _ => none
  | _ => none
/-- p[ix] = e -/
def mPSetIx (m : PlM) (e : EM) (ix : OM) : XM := fun ε => do
  let (c, ε0) ← e ε
  let d ← cD c
  let ((i, k), ε1) ← m ε0
  match ε1[i]? with
  | some (.ob kd cs) => match cs[k]? with
    | some (.ls ds) => do
      let (o, ε2) ← ix (ε1.set i .no)
      let z ← bor ε2 o
      match z with
        | .int z => do
          let j ← ixN ds.length z
          some (.nx, ε2.set i (.ob kd (cs.set k (.ls (ds.set j d)))))
        | _ => none
    | _ => none
  | _ => none
/-- p.pop() -/
def mPPop (m : PlM) : EM := fun ε => do
  let ((i, k), ε1) ← m ε
  match ε1[i]? with
  | some (.ob kd cs) => match cs[k]? with
    | some (.ls ds) => do
      let d ← ds.getLast?
      some (.sh d, ε1.set i (.ob kd (cs.set k (.ls ds.dropLast))))
    | _ => none
  | _ => none
section
variable {X : Cx} {W : Xw} {io : List Nat} {pos : Pos}
/-- the part's list, behind what was reckoned while its whole stood aside -/
theorem Sep.backP {K : Ek} {F1 F2 R R1 H1 H2 : Hp} {σ : St} {ε1 ε2 : Cs} {T : Tms} {i k : Nat} {kd : Kd} {cs : List C} {v w : V} {f : List Addr} (s1 : Sep K F1 R H1 σ ε1 []) (hx : ε1[i]? = some (.ob kd cs)) (p : PlV K H1 σ ε1 i k v) (hw : σ[i]? = some (some w)) (rp : RpC K F1 H1 (some w) (.ob kd cs) f)
    (s3 : Sep K F2 R1 H2 σ ε2 T) (s4 : Sep K F2 R H2 σ (ε2.set i (.ob kd cs)) T ∧ ∀ b ∈ f, H2 b = H1 b) : (ε2.set i (.ob kd cs))[i]? = some (.ob kd cs) ∧ PlV K H2 σ (ε2.set i (.ob kd cs)) i k v := by
  have hi : i < ε2.length := by
    have h1 := s1.len
    have h2 := s3.len
    have h3 := (List.getElem?_eq_some_iff.mp hx).1
    omega
  obtain ⟨a, kd', cs', vs, p1, p2, p3, p4, p5⟩ := p
  rw [hx] at p2
  cases p2
  rw [hw] at p1
  cases p1
  obtain ⟨a', us, gg, g1, g2, _⟩ := rp
  cases g1
  have ea : H2 a = H1 a := s4.2 a (by rw [g2]; exact List.mem_cons_self)
  exact ⟨List.getElem?_set_self hi, a, kd, cs, vs, hw, List.getElem?_set_self hi, ObP.frame ea p3, p4, p5⟩
theorem z_papp {m : PlM} {me : EM} {o e : Expr} {p2 p3 : Pos} (hv : PE X o (tPl X.E m)) (he : PE X e (tE X.E me)) (hbase : attributeBase o "append" X.env (eval o X.env) = eval o X.env := by rfl)
    (hfew : ((backTo p3 (starEach [e] X.env)).all (fun x => !x.1) && (backToKw p3 (keywordEach [] X.env)).all (fun x => x.1.isSome) && decide ([e].length + ([] : List Keyword).length + (if ([] : List Keyword).isEmpty then 0 else 1) < 30)) = true := by rfl)
    (hline : (p2.endLine == p3.line) = true := by rfl) (hs : starEach [e] X.env = (false, eval e X.env) :: starEach [] X.env := by rfl) (hplain : (backTo p3 (starEach [] X.env)).any (·.1) = false := by rfl)
    (hsw : swapsWith (.Call (.Attribute o "append" p2) [e] [] p3) none pos.line X.env = pure false := by rfl) : PS X (.Expr (.Call (.Attribute o "append" p2) [e] [] p3) pos) (tS X.E W io (mPApp m me)) :=
  (ps_expr (pe_bm PySem.F.plainAttrs_list PySem.F.slot_list_append PySem.F.type_list_append mt_append hv (pa_cons he pa_nil hs) hbase hfew hline hs hplain) hsw).weak fun De σ H h => by
    obtain ⟨F, R, ε, f, ε', s, e, q⟩ := h
    unfold mPApp at e
    cases e1 : m ε with
    | none => simp [e1] at e
    | some p =>
      obtain ⟨⟨i, k⟩, ε1⟩ := p
      simp only [e1, Option.bind_eq_bind, Option.bind_some] at e
      refine ⟨F, R, ε, i, k, ε1, s, e1, fun v F1 H1 fm s1 p => ?_⟩
      split at e
      · rename_i kd cs hx
        split at e
        · rename_i ds hc
          cases e2 : me (ε1.set i .no) with
          | none => simp [e2] at e
          | some p2 =>
            obtain ⟨c, ε2⟩ := p2
            cases e3 : cD c with
            | none => simp [e2, e3] at e
            | some d =>
              simp only [e2, e3, Option.bind_some] at e
              split at e
              · rename_i hl
                cases e
                obtain ⟨l, ws, rfl, g1, g2, _⟩ := s1.atP hx hc p
                refine ⟨.inl ⟨rfl, ws, .inl (.inl g1)⟩, ?_⟩
                obtain ⟨w, ff, R1, hw, rp, s2, bk⟩ := s1.hideX hx fun z => nomatch z
                refine ⟨F1, R1, _, c, ε2, s2, e2, fun y F2 H2 fm2 s3 => ?_⟩
                obtain ⟨F3, fm3, r3, s4⟩ := s3.freeze e3
                have s5 := bk F3 H2 ε2 [] (fm2.trans fm3) s4
                obtain ⟨hx2, p2⟩ := Sep.backP s1 hx p hw rp s4 s5
                obtain ⟨l', ws', el, k1, k2, k3⟩ := s5.1.atP hx2 hc p2
                cases el
                refine ⟨l, ws', y, rfl, rfl, k1, by rw [k2.length]; exact hl, ?_⟩
                have s6 := k3 _ _ (k2.append (Reps.one r3))
                rw [List.set_set] at s6
                exact q F3 _ σ ((fm.trans fm2).trans fm3) (StS.refl σ) s6
              · cases e
        · cases e
      · cases e
end
end L2.M
namespace L2.M
open PySem PySem.Spec PyProof.Rows
def cellO (ε : Cs) : Opd → Option C
  | .pl i => ε[i]?
  | .tm c => some c
/-- an object of the class x that has no attribute m of its own -/
def isIns (x m : Str) : Option C → Bool
  | some (.ob (.ins y fs) _) => decide (y = x ∧ m ∉ fs)
  | _ => false
def mMeth (x m : Str) (io : List Bool) (g : GM) (mo : OM) (ma : AM) : EM := fun ε => do
  let (o, ε1) ← mo ε
  if isIns x m (cellO ε1 o) = true then do
    let (os, ε2) ← ma ε1
    let (os2, ε3) ← frz io (o :: os) ε2
    let (cs, ε4) ← lend os2 ε3
    let (c, cs') ← g cs
    some (c, wb os2 cs' ε4)
  else none
def mNew (x : Str) (io : List Bool) (g : GM) (ma : AM) : EM := fun ε => do
  let (os, ε1) ← ma ε
  let (os2, ε2) ← frz io os ε1
  let (cs, ε3) ← lend os2 ε2
  match g (.ob (.ins x []) [] :: cs) with
  | some (.sh .none, c :: cs') => some (c, wb os2 cs' ε3)
  | _ => none
theorem isIns_eq {x m : Str} {c : Option C} (h : isIns x m c = true) : ∃ fs cs, c = some (.ob (.ins x fs) cs) ∧ m ∉ fs := by
  unfold isIns at h
  split at h
  · obtain ⟨rfl, h2⟩ := of_decide_eq_true h
    exact ⟨_, _, rfl, h2⟩
  · cases h
theorem tE_meth {K : Ek} {np : Nat} {g : GM} {x m : Str} {io : List Bool} {mo : OM} {ma : AM} {σ : St} {H : Hp} {Q : VK} (hio : io.length = np) (h : tE K (mMeth x m io g mo ma) σ H Q) : tMeth (He.ga K.1 x) m (spOf K np g) [] E0 (tO K mo) (tA K ma) σ H Q := by
  obtain ⟨F, R, ε, c, ε', ok, e, q⟩ := h
  unfold mMeth at e
  cases e0 : mo ε with
  | none => simp [e0] at e
  | some p0 =>
    obtain ⟨o, ε1⟩ := p0
    simp only [e0, Option.bind_eq_bind, Option.bind_some] at e
    split at e
    · rename_i hi
      obtain ⟨fs, cs0, hc, hm⟩ := isIns_eq hi
      cases e1 : ma ε1 with
      | none => simp [e1] at e
      | some p =>
        obtain ⟨os, ε2⟩ := p
        cases e2 : frz io (o :: os) ε2 with
        | none => simp [e1, e2] at e
        | some p2 =>
          obtain ⟨os2, ε3⟩ := p2
          cases e3 : lend os2 ε3 with
          | none => simp [e1, e2, e3] at e
          | some p3 =>
            obtain ⟨cs, ε4⟩ := p3
            cases e4 : g cs with
            | none => simp [e1, e2, e3, e4] at e
            | some p4 =>
              obtain ⟨c', cs'⟩ := p4
              simp [e1, e2, e3, e4] at e
              obtain ⟨rfl, rfl⟩ := e
              refine ⟨F, R, ε, o, ε1, ok, e0, fun v F0 H0 fm0 v0 s0 => ?_⟩
              have ins : ∃ a dx as, v = .ref a ∧ H0 a = some (.ins (He.ga K.1 x) dx as) ∧ as.lookup m = none := by
                cases v0 with
                | @pl i _ _ _ hv _ =>
                  obtain ⟨o', f, k1, a, vs, gg, rfl, _, ⟨dx, k2, k3, _⟩, _⟩ := s0.cell hc
                  rw [hv] at k1
                  cases k1
                  exact ⟨a, dx, _, rfl, k2, lookup_none hm⟩
                | @tm c0 _ _ _ _ =>
                  cases hc
                  obtain ⟨f, ⟨a, vs, gg, k1, _, ⟨dx, k2, k3, _⟩, _⟩, _⟩ := s0.headT
                  cases k1
                  exact ⟨a, dx, _, rfl, k2, lookup_none hm⟩
              obtain ⟨a, dx, as, rfl, ha, hl⟩ := ins
              refine ⟨a, dx, as, rfl, ha, hl, ?_⟩
              obtain ⟨R1, s0', bk⟩ := s0.hides
              refine ⟨F0, R1, ε1, os, ε2, s0', e1, fun vs F1 H1 fm1 v1 s1 => ?_⟩
              have s1' := bk F1 H1 σ ε2 _ fm1 s1
              have v1' : OpV σ (.ref a :: vs) (o :: os) := by
                cases v0 with
                | pl h _ => exact .pl h v1
                | tm _ => exact .tm v1
              have s2 : Sep K F1 R H1 σ ε2 (tmO (o :: os) (.ref a :: vs) ++ []) := by
                rw [List.append_nil]
                cases o with
                | pl i => exact s1'
                | tm c => exact s1'
              obtain ⟨F2, fm2, s3, v2, l2⟩ := frz_ok s2 v1' e2
              obtain ⟨s4, l3⟩ := lend_ok s3 v2 e3
              rw [List.append_nil] at s4
              obtain ⟨R2, s5, back⟩ := call_sep s4 v2 l3
              refine ⟨by rw [List.append_nil, v2.len, l2]; exact hio, F2, R2, cs, c', cs', by rw [List.append_nil]; exact s5, e4, fun w F' H' fm p => ?_⟩
              rw [List.append_nil] at p
              exact q w F' H' (((fm0.trans fm1).trans fm2).trans fm) (back F' H' cs' _ fm p)
    · cases e
theorem tE_new {K : Ek} {np : Nat} {g : GM} {x : Str} {io : List Bool} {ma : AM} {σ : St} {H : Hp} {Q : VK} (hio : io.length + 1 = np) (h : tE K (mNew x io g ma) σ H Q) : tMake (He.ga K.1 x) (spOf K np g) [] E0 (tA K ma) σ H Q := by
  obtain ⟨F, R, ε, c, ε', ok, e, q⟩ := h
  unfold mNew at e
  cases e1 : ma ε with
  | none => simp [e1] at e
  | some p =>
    obtain ⟨os, ε1⟩ := p
    cases e2 : frz io os ε1 with
    | none => simp [e1, e2] at e
    | some p2 =>
      obtain ⟨os2, ε2⟩ := p2
      cases e3 : lend os2 ε2 with
      | none => simp [e1, e2, e3] at e
      | some p3 =>
        obtain ⟨cs, ε3⟩ := p3
        simp only [e1, e2, e3, Option.bind_eq_bind, Option.bind_some] at e
        split at e
        · rename_i c' cs' e4
          cases e
          refine ⟨F, R, ε, os, ε1, ok, e1, fun vs F1 H1 fm1 v1 s1 xx dx hx hdx ne => ?_⟩
          rw [← List.append_nil (tmO os vs)] at s1
          obtain ⟨F2, fm2, s2, v2, l2⟩ := frz_ok s1 v1 e2
          obtain ⟨s3, l3⟩ := lend_ok s2 v2 e3
          rw [List.append_nil] at s3
          have lv := v2.len
          have s4 : Sep K F2 R (upd (upd H1 dx (.own xx)) xx (.ins (He.ga K.1 x) dx [])) σ ε3 ((.ref xx, .ob (.ins x []) []) :: vs.zip cs) :=
            Sep.change (T1 := []) s3 fun gs h n _ => ⟨[xx], ⟨xx, [], [], rfl, rfl, ⟨dx, upd_same, rfl, List.nodup_nil⟩, rfl, rfl⟩, by simp, fun b hb => .inr (by rw [List.mem_singleton.mp hb]; exact hx), fun b u _ e => by rw [upd_ne (ne_of_none e hx), upd_ne (ne_of_none e hdx)]; exact e⟩
          have s5 : Sep K F2 R (upd (upd H1 dx (.own xx)) xx (.ins (He.ga K.1 x) dx [])) σ ε3 ((V.ref xx :: vs).zip (C.ob (.ins x []) [] :: cs)) := s4
          obtain ⟨R1, s6, back⟩ := s5.enter
          rw [zip_fsts (by simp; omega), zip_snd (by simp; omega)] at s6
          refine ⟨by simp [l2, lv, hio], F2, R1, _, _, _, by rw [List.append_nil]; exact s6, e4, fun w F' H' fm p => ?_⟩
          rw [List.append_nil] at p
          have lc : (c :: cs').length = (V.ref xx :: vs).length := by have := p.len; simp at this ⊢; omega
          have b := back F' H' (c :: cs') _ fm (by rw [zip_fsts (by simp; omega)]; exact p)
          rw [zip_fst (by simp; omega)] at b
          have hw : w = .non := by
            have r := p.repT
            simpa only [Rep] using r
          refine ⟨hw, q _ F' H' ((fm1.trans fm2).trans fm) ?_⟩
          have b : Sep K F' R H' σ ε3 ((V.ref xx, c) :: (vs.zip cs' ++ [(w, C.sh .none)])) := b
          obtain ⟨R2, _, b2, bk⟩ := b.hide
          exact bk F' H' σ _ [] (Same.refl F') ((wb_ok b2 v2 (by simp at lc; omega)).drop)
        · cases e
structure KnM (P : Program) (w : World) (K : PySem.W.Frag) (mg : Str → Option Value) (base : Heap) (k : Nat) (x m : Str) (ps : List Str) (sp : Sp) : Prop where
  ex : ∃ (f : Addr) (fd : FuncData), Cls K (He.ga K x) ∧ Meth K (He.ga K x) m f ∧ Binds K fd ps [] ∧ FnG P w K mg base CX0 k f fd ps sp
/-- a class whose __init__ does -/
structure KnI (P : Program) (w : World) (K : PySem.W.Frag) (mg : Str → Option Value) (base : Heap) (k : Nat) (x : Str) (ps : List Str) (sp : Sp) : Prop where
  ex : ∃ (f : Addr) (fd : FuncData), mg x = some (.ref (He.ga K x)) ∧ Mk K (He.ga K x) f ∧ Binds K fd ps [] ∧ FnG P w K mg base CX0 k f fd ps sp
section
variable {fa : List He.Fa} {fn : List He.DefD} {K : PySem.W.Frag} {mg : Str → Option Value} {P : Program} {w : World} {base : Heap}
theorem Wo.cls (W : Wo fa fn K mg) (i : Nat) {x : Str} (h : fa[i]? = some (.cls x) := by rfl) : Cls K (He.ga K x) := let ⟨_, _, _, c⟩ := W; He.cls_ok (c.fact i h)
theorem Wo.noat (W : Wo fa fn K mg) (i : Nat) {x f : Str} (h : fa[i]? = some (.noat x f) := by rfl) : NoAttr K (He.ga K x) f := let ⟨_, _, _, c⟩ := W; He.noat_ok (c.fact i h)
theorem Wo.meth (W : Wo fa fn K mg) (i : Nat) {x m : Str} (h : fa[i]? = some (.meth x m) := by rfl) : Meth K (He.ga K x) m (He.ma K (He.ga K x) m) := let ⟨_, _, _, c⟩ := W; He.meth_ok (c.fact i h)
theorem Wo.mkr (W : Wo fa fn K mg) (i : Nat) {x : Str} (h : fa[i]? = some (.mkr x) := by rfl) : Mk K (He.ga K x) (He.ma K (He.ga K x) "__init__") := let ⟨_, _, _, c⟩ := W; He.mkr_ok (c.fact i h)
theorem Wo.glo (W : Wo fa fn K mg) (i : Nat) {x : Str} (h : fa[i]? = some (.glo x) := by rfl) : mg x = some (.ref (He.ga K x)) := let ⟨_, X, G, c⟩ := W; He.glo_ok X G (c.fact i h)
theorem fnG_mk (W : Wo fa fn K mg) (i : Nat) {N ps : List Str} {d : He.DefD} {k : Nat} {io : List Bool} {m : XM} (hd : fn[i]? = some d) (pl : Plain d ps) (S : FnScope N ps d.scope)
    (hb : ∀ (f : Addr) (cdv : Value) (A : Around) (outer : List Env) (s : Shared) (H : Hp) (E : XK), Rm k (cxN P w K mg base N d f cdv A outer s H E).A → PSs (cxN P w K mg base N d f cdv A outer s H E) d.body (tS (K, w) W0 (ios io) m)) :
    ∃ fd, Binds K fd ps [] ∧ FnG P w K mg base CX0 (k + 1) (He.fAd K d.at_) fd ps (spOf (K, w) ps.length (semF io N.length m)) := by
  obtain ⟨h, X, G, c⟩ := W
  obtain ⟨fd, F⟩ := c.def_ i hd
  have eD : d.dvs K = [] := by unfold He.DefD.dvs; rw [pl.1]; rfl
  rw [eD] at F
  exact ⟨fd, F.bindsN pl.2.2, defG F S hb⟩
theorem knm_mk (W : Wo fa fn K mg) (i j l : Nat) {N ps : List Str} {d : He.DefD} {k : Nat} {io : List Bool} {m : XM} {x y : Str} (hd : fn[i]? = some d) (hx : d.at_ = (x, some y)) (hc : fa[j]? = some (.cls x)) (hm : fa[l]? = some (.meth x y)) (pl : Plain d ps) (S : FnScope N ps d.scope)
    (hb : ∀ (f : Addr) (cdv : Value) (A : Around) (outer : List Env) (s : Shared) (H : Hp) (E : XK), Rm k (cxN P w K mg base N d f cdv A outer s H E).A → PSs (cxN P w K mg base N d f cdv A outer s H E) d.body (tS (K, w) W0 (ios io) m)) :
    KnM P w K mg base (k + 1) x y ps (spOf (K, w) ps.length (semF io N.length m)) := by
  obtain ⟨fd, F⟩ := fnG_mk W i hd pl S hb
  have e : He.fAd K d.at_ = He.ma K (He.ga K x) y := by rw [hx]; rfl
  rw [e] at F
  exact ⟨⟨_, fd, W.cls j hc, W.meth l hm, F⟩⟩
theorem kni_mk (W : Wo fa fn K mg) (i j l : Nat) {N ps : List Str} {d : He.DefD} {k : Nat} {io : List Bool} {m : XM} {x : Str} (hd : fn[i]? = some d) (hx : d.at_ = (x, some ("__init__" : Str))) (hg : fa[j]? = some (.glo x)) (hm : fa[l]? = some (.mkr x)) (pl : Plain d ps) (S : FnScope N ps d.scope)
    (hb : ∀ (f : Addr) (cdv : Value) (A : Around) (outer : List Env) (s : Shared) (H : Hp) (E : XK), Rm k (cxN P w K mg base N d f cdv A outer s H E).A → PSs (cxN P w K mg base N d f cdv A outer s H E) d.body (tS (K, w) W0 (ios io) m)) :
    KnI P w K mg base (k + 1) x ps (spOf (K, w) ps.length (semF io N.length m)) := by
  obtain ⟨fd, F⟩ := fnG_mk W i hd pl S hb
  have e : He.fAd K d.at_ = He.ma K (He.ga K x) "__init__" := by rw [hx]; rfl
  rw [e] at F
  exact ⟨⟨_, fd, W.glo j hg, W.mkr l hm, F⟩⟩
end
section
variable {X : Cx}
theorem Rm.make {k : Nat} {A : Around} (r : Rm (k + 1) A) (C : Addr) (us : List Value) (kw : List (Str × Value)) : Rm k (A.under (.builtin "type.__call__" ⟨.ref C :: us, kw⟩)) :=
  ⟨r.toRoom.make C us kw, by first | exact r.gd | simpa [Around.under, Code.weight, Code.isCreation, Code.isGuard, Code.isCaller, Code.frames, Code.isFrame, guardIds] using r.gd⟩
theorem g_meth {pl : Sem Bool} {k k' np : Nat} {x m : Str} {ps : List Str} {g : GM} {io : List Bool} {mo : OM} {ma : AM} {o e : Expr} {es : List Expr} {apos pos : Pos} (h : KnM X.prog X.w X.K X.mg X.base k x m ps (spOf X.E np g)) (hr : Rm k' X.A) (hk : k ≤ k') (ho : PE X o (tO X.E mo)) (ha : PA X (e :: es) (tA X.E ma)) (hio : io.length = np := by rfl)
    (hst : starEach (e :: es) X.env = (false, eval e X.env) :: starEach es X.env := by rfl) (hpl : (backTo pos (starEach es X.env)).any (·.1) = false := by rfl)
    (ht : eval (.Call (.Attribute o m apos) (e :: es) [] pos) X.env = (do
      let ov ← eval o X.env
      standAt apos.atName
      let (f, first) ← holding [ov] (getMethod ov m pl)
      callWith pos f first (backTo pos (starEach (e :: es) X.env)) (backToKw pos (keywordEach [] X.env))) := by rfl) :
    PE X (.Call (.Attribute o m apos) (e :: es) [] pos) (tE X.E (mMeth x m io g mo ma)) := by
  obtain ⟨f, fd, hc, hm, hbi, F⟩ := h.ex
  refine ⟨fun pins s σ H Q I q => ?_⟩
  have q2 := tE_meth hio q
  refine PySem.W.methodCall_KW (pl := pl) (thn (ho.run pins s σ H _ I q2) fun u s1 ⟨v, H1, I1, rx, a, dx, fs, ex, ea, l, q3⟩ => ?_) ht
  subst ex
  obtain rfl : u = Value.ref a := rx
  refine getmeth_ok I1 ea hc hm l ?_
  refine PySem.W.callWith_K (first := [.ref a]) (h₀ := X.base) I.ok.mod.kin hm.kp (thn (ha.run pos pins s1 σ H1 _ I1 q3) fun us s2 ⟨vs, H2, I2, r, q4⟩ => ⟨I2.kIn, ?_⟩) hst hpl
  have q5 : spOf X.E np g (.ref a :: (vs ++ [])) H2 Q E0 := q4
  rw [List.append_nil] at q5
  exact runG (us := .ref a :: us) (vs := .ref a :: vs) (F.mono hk) hr hbi I2 (.cons rfl r) q5
theorem g_meth0 {pl : Sem Bool} {k k' np : Nat} {x m : Str} {ps : List Str} {g : GM} {io : List Bool} {mo : OM} {o : Expr} {apos pos : Pos} (h : KnM X.prog X.w X.K X.mg X.base k x m ps (spOf X.E np g)) (hr : Rm k' X.A) (hk : k ≤ k') (ho : PE X o (tO X.E mo)) (hio : io.length = np := by rfl)
    (ht : eval (.Call (.Attribute o m apos) [] [] pos) X.env = (do
      let ov ← eval o X.env
      standAt apos.atName
      let (f, first) ← holding [ov] (getMethod ov m pl)
      callWith pos f first (backTo pos (starEach [] X.env)) (backToKw pos (keywordEach [] X.env))) := by rfl) :
    PE X (.Call (.Attribute o m apos) [] [] pos) (tE X.E (mMeth x m io g mo mNil)) := by
  obtain ⟨f, fd, hc, hm, hbi, F⟩ := h.ex
  refine ⟨fun pins s σ H Q I q => ?_⟩
  have q2 := tE_meth hio q
  refine PySem.W.methodCall_KW (pl := pl) (thn (ho.run pins s σ H _ I q2) fun u s1 ⟨v, H1, I1, rx, a, dx, fs, ex, ea, l, q3⟩ => ?_) ht
  subst ex
  obtain rfl : u = Value.ref a := rx
  refine getmeth_ok I1 ea hc hm l ?_
  have q4 := tA_nil q3
  have q5 : spOf X.E np g (.ref a :: ([] ++ [])) H1 Q E0 := q4
  rw [List.append_nil] at q5
  exact PySem.W.callWith_K0 (first := [.ref a]) I1.kIn hm.kp (runG (us := [.ref a]) (vs := [.ref a]) (F.mono hk) hr hbi I1 (.cons rfl .nil) q5)
/-- C(..) -/
theorem g_new {k k' np : Nat} {x : Str} {ps : List Str} {g : GM} {io : List Bool} {ma : AM} {e : Expr} {es : List Expr} {p pos : Pos} (h : KnI X.prog X.w X.K X.mg X.base k x ps (spOf X.E np g)) (hr : Rm k' X.A) (hk : k + 1 ≤ k') (hg : Gl X x) (ha : PA X (e :: es) (tA X.E ma)) (hio : io.length + 1 = np := by rfl)
    (hdb : (x == ("__debug__" : Str)) = false := by decide) (he : starEach (e :: es) X.env = (false, eval e X.env) :: starEach es X.env := by rfl) (hpl : (backTo pos (starEach es X.env)).any (·.1) = false := by rfl) : PE X (.Call (.Name x p) (e :: es) [] pos) (tE X.E (mNew x io g ma)) := by
  obtain ⟨f, fd, hm, M, hbi, F⟩ := h.ex
  refine ⟨fun pins s σ H Q I q => ?_⟩
  have q2 := tE_new hio q
  refine wpAny_Call_Name_kw (ld_glob I hg hm ?_ hdb)
  refine PySem.W.callWith_K (h₀ := X.base) I.ok.mod.kin M.kp (thn (ha.run pos pins s σ H _ I q2) fun us s1 ⟨vs, H1, I1, r, q3⟩ => ⟨I1.kIn, ?_⟩) he hpl
  have hq := q3 (s1.heap.objs.size + 1) s1.heap.objs.size (I1.hok.fresh (Nat.le_succ _)) (I1.hok.fresh (Nat.le_refl _)) (Nat.ne_of_lt (Nat.lt_succ_self _))
  rw [List.append_nil] at hq
  have I2 := Inv.made (C := He.ga X.K x) I1
  have r2 : Vals (V.ref (s1.heap.objs.size + 1) :: vs) (Value.ref (s1.heap.objs.size + 1) :: us) := .cons rfl r
  have hl : (Value.ref (s1.heap.objs.size + 1) :: us).length = ps.length := by
    rw [← r2.length]
    exact F.len _ _ _ _ hq
  have bd := hbi _ (Value.ref (s1.heap.objs.size + 1) :: us) I2.kIn (by rw [List.append_nil]; exact hl)
  rw [List.append_nil] at bd
  refine wpAny_call (make_map (f := f) I1.kIn M.makes M.init (beq_iff_eq.mp M.fn) (codeAny_mono (F.run _ X.stack _ _ ⟨Value.ref (s1.heap.objs.size + 1) :: us, []⟩ (Value.ref (s1.heap.objs.size + 1) :: us) _ _ E0 ((hr.mono hk).make _ us [])
    (I2.env0.make _ us []) bd r2 hq) fun r s' hq' => ?_))
  cases r with
  | error e => exact hq'.elim
  | ok fl =>
    cases fl with
    | ret u =>
      obtain ⟨v, H', I3, rv, ev, q3⟩ := I2.after hq'
      subst ev
      exact ⟨rv, ⟨V.ref (s1.heap.objs.size + 1), H', I3, rfl, q3⟩⟩
    | next => exact False.elim hq'
    | brk => exact False.elim hq'
    | cont => exact False.elim hq'
end
end L2.M
namespace L2.M
open PySem PySem.Spec PyProof.Rows
def clsBody (s : Stmt) : List Stmt := match s with
  | .ClassDef _ _ _ b _ _ _ _ _ _ _ => b
  | _ => []
def mAddN (a : OM) (b : EM) : EM := fun ε => do
  let (o, ε1) ← a ε
  let (c, ε2) ← b ε1
  let d ← bor ε2 o
  match d, c with
    | .list ds, .ob .ls cs => if ds.length + cs.length ≤ sizeLine then some (.ob .ls (ds.map .sh ++ cs), ε2) else none
    | _, _ => none
end L2.M
namespace L2.M
open PySem PySem.Spec PyProof.Rows
end L2.M
namespace L2.M
end L2.M
namespace L2.M
open PySem PySem.Spec PyProof.Rows
section
variable {X : Cx}
def mRaise (x : Str) : XM := fun ε => some (.xc ⟨x, []⟩, ε)
end
abbrev GX := List C → Option ((C ⊕ Xn) × List C)
abbrev EXM := Cs → Option ((C ⊕ Xn) × Cs)
def semX (io : List Bool) (ns : Nat) (m : XM) : GX := fun cs =>
  if shared io cs then
    match m (cs ++ List.replicate (ns - cs.length) .no) with
    | some (.rt c, ε') => some (.inl c, after io cs ε')
    | some (.nx, ε') => some (.inl (.sh .none), after io cs ε')
    | some (.xc x, ε') => some (.inr x, after io cs ε')
    | _ => none
  else none
/-- what comes of an expression that may raise -/
def FinX (K : Ek) (R : Hp) (σ : St) (Q : VK) (E : XK) (F' H' : Hp) (ε' : Cs) : C ⊕ Xn → Prop
  | .inl c => ∀ v, Sep K F' R H' σ ε' [(v, c)] → Q v H'
  | .inr x => ∀ cls d, Sep K F' R H' σ ε' [] → RepX K F' cls d x → E cls d H'
def spX (K : Ek) (np : Nat) (g : GX) : Sp := fun vs H Q E => vs.length = np ∧ ∃ F R cs r cs', Sep K F R H (vs.map some) cs [] ∧ g cs = some (r, cs') ∧ ∀ F' H', Same F F' → FinX K R (vs.map some) Q E F' H' cs' r
/-- a call of a def that raises -/
def mCallX (io : List Bool) (g : GX) (ma : AM) : EXM := fun ε => do
  let (os, ε1) ← ma ε
  let (os2, ε2) ← frz io os ε1
  let (cs, ε3) ← lend os2 ε2
  let (r, cs') ← g cs
  some (r, wb os2 cs' ε3)
section
variable {X : Cx} {W : Xw} {io : List Nat} {pos : Pos} {e : Expr} {m : EXM}
def xRet (m : EXM) : XM := fun ε => do
  let (r, ε1) ← m ε
  match r with
  | .inl c => some (.rt c, ε1)
  | .inr x => some (.xc x, ε1)
def xExpr (m : EXM) : XM := fun ε => do
  let (r, ε1) ← m ε
  match r with
  | .inl _ => some (.nx, ε1)
  | .inr x => some (.xc x, ε1)
def xSet (io : List Nat) (i : Nat) (m : EXM) : XM := fun ε => do
  let (r, ε1) ← m ε
  match r with
  | .inl c => if i < ε1.length ∧ i ∉ io then some (.nx, ε1.set i c) else none
  | .inr x => some (.xc x, ε1)
end
/-- a def that may raise, by its name -/
structure KnX (P : Program) (w : World) (K : PySem.W.Frag) (mg : Str → Option Value) (base : Heap) (k : Nat) (x : Str) (ps : List Str) (sp : Sp) : Prop where
  ex : ∃ (f : Addr) (fd : FuncData), mg x = some (.ref f) ∧ PySem.W.keepIn K (.ref f) = true ∧ Binds K fd ps [] ∧ FnG P w K mg base (L2N.CX P w) k f fd ps sp
end L2.M
namespace L2.M
open PySem PySem.Spec PyProof.Rows
def mTold (io : List Nat) (i : Nat) (ref : Xn → Option D) (m : EXM) : XM := fun ε => do
  let (r, ε1) ← m ε
  match r with
  | .inl c => some (.rt c, ε1)
  | .inr x => match ε1[i]? with
    | some .no => if i ∉ io then (ref x).map fun d => (.rt (.sh d), ε1) else none
    | _ => none
end L2.M
namespace L2.M
open PySem PySem.Spec PyProof.Rows
abbrev Ck := PySem.W.Frag → Bool
/-- isinstance of an x, asked of the class y of the module -/
def kitB (x y : Str) (b : Bool) : Ck := fun K => decide (PySem.W.kitOne K (.ref (He.ga K x)) (.ref (He.ga K y)) = some b)
end L2.M
namespace L2.M
open PySem PySem.Spec PyProof.Rows PySem.Calls
open PySem.W (findIn specialIn subIn hasDictIn takesIn mroIn clsIn findObj looks_findIn looks_find looks_subIn any_some class_get KitX kitOne kitAny kia_one kia_tup)
end L2.M
namespace L2.M
open PySem PySem.Spec PyProof.Rows
def XdAt (H : Hp) (d : Option Addr) : Prop := d = none ∨ ∃ dd fs, d = some dd ∧ H dd = some (.xd fs)
theorem RepX.at_ {K : Ek} {F H : Hp} {cls : Value} {d : Option Addr} {x : Xn} (s : Same F H) (h : RepX K F cls d x) : XdAt H d := by
  obtain ⟨_, ⟨_, h2⟩ | ⟨dx, fs, h2, h3, _⟩⟩ := h
  · exact .inl h2
  · exact .inr ⟨dx, fs, h2, s _ _ h3⟩
end L2.M
namespace L2.M
open PySem PySem.Spec PyProof.Rows
/-- what isinstance tells of the exceptions that f knows, asked of the class u -/
def IsT (K : PySem.W.Frag) (f : Xn → Option Bool) (u : Value) : Prop := ∀ x b, f x = some b → ExcC K (He.ga K x.cls) ∧ PySem.W.kitOne K (.ref (He.ga K x.cls)) u = some b
end L2.M
namespace L2.M
open PySem PySem.Spec PyProof.Rows
end L2.M
namespace L2.M
open PySem PySem.Spec PyProof.Rows
end L2.M
namespace L2.M
open PySem PySem.Spec PyProof.Rows
def isT : D → Bool
  | .tuple _ => true
  | _ => false
end L2.M
namespace L2.M
open PySem PySem.Spec PyProof.Rows
end L2.M
namespace L2.M
open PySem PySem.Spec PyProof.Rows
end L2.M
namespace L2.M
open PySem PySem.Spec PyProof.Rows
section
variable {X : Cx} {e : Expr} {es : List Expr} {ta : TA} {p pos : Pos}
/-- plain values: the fields of the exceptions here -/
def scal : D → Bool
  | .none => true
  | .bool _ => true
  | .int _ => true
  | .str _ => true
  | _ => false
end
end L2.M
namespace L2.M
open PySem PySem.Spec PyProof.Rows
end L2.M
namespace L2.M
open PySem PySem.Spec PyProof.Rows
end L2.M
namespace L2.M
open PySem PySem.Spec PyProof.Rows
def truD : D → Option Bool
  | .none => some false
  | .bool b => some b
  | .tuple ds => some (!ds.isEmpty)
  | .list ds => some (!ds.isEmpty)
  | _ => none
def mOrV (m n : EM) : EM := fun ε => match m ε with
  | some (.sh d, ε1) => (match truD d with
    | some true => some (.sh d, ε1)
    | some false => n ε1
    | none => none)
  | _ => none
end L2.M
namespace L2.M
open PySem PySem.Spec PyProof.Rows
/-- neighbours that are alike fall together -/
def once : List Int → List Int
  | [] => []
  | [a] => [a]
  | a :: b :: r => if a = b then once (b :: r) else a :: once (b :: r)
def dsort (ns : List Int) : List Int := once (isort ns)
theorem once_mem : ∀ (l : List Int) (k : Int), k ∈ once l ↔ k ∈ l
  | [], _ => by simp [once]
  | [a], _ => by simp [once]
  | a :: b :: r, k => by
    have ih := once_mem (b :: r) k
    simp only [once]
    split
    · rename_i e
      subst e
      rw [ih]
      simp
    · simp only [List.mem_cons] at ih ⊢
      rw [ih]
theorem once_ris : ∀ l : List Int, l.Pairwise (· ≤ ·) → (once l).Pairwise (· < ·)
  | [], _ => by simp [once]
  | [a], _ => by simp [once]
  | a :: b :: r, h => by
    obtain ⟨h1, h2⟩ := List.pairwise_cons.mp h
    have ih := once_ris (b :: r) h2
    simp only [once]
    split
    · exact ih
    · rename_i ne
      refine List.pairwise_cons.mpr ⟨fun y hy => ?_, ih⟩
      rw [once_mem] at hy
      have hb := h1 b List.mem_cons_self
      rcases List.mem_cons.mp hy with rfl | hy
      · omega
      · have := (List.pairwise_cons.mp h2).1 y hy
        omega
theorem isort_perm (ns : List Int) : (isort ns).Perm ns := List.mergeSort_perm ns _
theorem isort_le (ns : List Int) : (isort ns).Pairwise (· ≤ ·) :=
  (List.pairwise_mergeSort (le := fun a b : Int => decide (a ≤ b)) (by intro a b c; simp; omega) (by intro a b; simp; omega) ns).imp fun h => by simpa using h
theorem dsort_mem (ns : List Int) (k : Int) : k ∈ dsort ns ↔ k ∈ ns := by rw [dsort, once_mem, (isort_perm ns).mem_iff]
theorem dsort_ris (ns : List Int) : (dsort ns).Pairwise (· < ·) := once_ris _ (isort_le ns)
section
variable {P : Program} {w : World} {A : Around} {E : Value → Shared → Prop} {s : Shared}
/-- the object of an empty set -/
abbrev eSet (w : World) : Obj := { cls := .type "set", dict := none, data := .set #[] 0 (.fresh 0 0 (!w.params.followText "set-order")) }
theorem ints_get {its : Array Value} {ns : List Int} (h : IntsAre its.toList ns) (hz : its.size = ns.length) : ∀ (i : Nat) (v : Value), its[i]? = some v → ∃ k t, ns[i]? = some k ∧ v = .int k t := fun i v hv => by
  obtain ⟨hi, -⟩ := Array.getElem?_eq_some_iff.mp hv
  rw [hz] at hi
  obtain ⟨t, e⟩ := h.int_at i v ((Array.getElem?_toList ..).trans hv)
  exact ⟨_, t, List.getElem?_eq_getElem hi, by rw [e, List.getD_eq_getElem?_getD, List.getElem?_eq_getElem hi]; rfl⟩
/-- set(xs) of a list of numbers -/
theorem call_set_lstI {l : Addr} {its : Array Value} (ns : List Int) {Q : Value → Shared → Prop} (hh : A.handled = none) (hl : s.heap.IsList l its) (hit : IntsAre its.toList ns) (hb : ns.length + 1 < scanBound)
    (h : ∀ (h' : Heap) (tk c : Nat), SetR w h' s.heap.objs.size (fun j => decide (j ∈ ns)) c → c ≤ ns.length → (∀ b o, s.heap.get? b = some o → h'.get? b = some o) → Q (.ref s.heap.objs.size) { s with heap := h', toks := tk }) :
    wpAny (model P w) A (call (.type "set") [.ref l]) Q E s := by
  have hz : its.size = ns.length := (Array.length_toList (xs := its)) ▸ IntsAre.length hit
  have ⟨cm, tl, hmro⟩ := F.called_set.mro
  have hmade := F.called_set.made; have hsub := F.called_set.sub
  refine wpAny_call (codeAny_of_tree (show wpAny _ _ (callAny (.type "set") _) _ _ _ from wpAny_pure ⟨Code.quiet_builtin _ (by decide +kernel), codeAny_builtin F.entry_type_call (by
    rw [Around.under_plain (weight_type_call_type "set" [.ref l] []) rfl]
    have a1 := F.called_set.notType; have a2 := F.called_set.canCreate; have a3 := F.typeCall_set_1 (.ref l)
    repeat (any_goals (first | assumption | wp_step))
    refine codeAny_mono (code_set_led1 (.ref l) (E := E) (Q₁ := fun v t => v = .ref s.heap.objs.size ∧ t = { s with heap := s.heap.push (eSet w) }) ⟨rfl, rfl⟩) fun r t hr => ?_
    rcases r with e | fl
    · exact hr
    rcases fl with ⟨⟩ | v
    any_goals exact hr.elim
    obtain ⟨rfl, rfl⟩ := hr
    have hS : (s.heap.push (eSet w)).get? s.heap.objs.size = some (eSet w) := Heap.get?_push_size _ rfl
    have hT : Shared.TypeIs { s with heap := s.heap.push (eSet w) } (.ref s.heap.objs.size) "set" := ⟨_, hS, rfl⟩
    have b1 := F.called_set.init.lookup; have b2 := F.called_set.init.bind (.ref s.heap.objs.size)
    repeat (any_goals (first | assumption | wp_step))
    have hl1 : (s.heap.push (eSet w)).IsList l its := hl.push _
    obtain ⟨ol, hol, hcl, -⟩ := id hl
    have hlS : l < s.heap.objs.size := Heap.lt_size hol
    have hz1 : (s.heap.push (eSet w)).objs.size = s.heap.objs.size + 1 := Heap.size_push ..
    refine codeAny_mono (codeAny_call_builtin (R := wants (fun v t => v = .none ∧ ∃ h' tk c, t = { s with heap := h', toks := tk } ∧ SetR w h' s.heap.objs.size (fun j => decide (j ∈ ns)) c ∧ c ≤ ns.length ∧ (∀ b o, s.heap.get? b = some o → h'.get? b = some o)) E)
      F.called_set.init.plain F.entry_set_init (check_set_init_1 hT ?_)) fun r2 t2 hr2 => ?_
    · have c1 := F.sub_list_set; have c2 := F.sub_list_frozenset
      have c3 : (Value.type "list" == Value.type "dict") = false := by decide
      have hol2 : (s.heap.push (eSet w)).get? l = some ol := Heap.get?_push_of_some _ hol
      obtain ⟨ocls, odict, odata, oslots⟩ := ol
      simp only at hcl
      subst hcl
      unfold Builtin.«set.__init__» noKeywords Builtin.Frozenset.updateFrom
      generalize hPI : pyIter = PI
      wp_walk
      subst hPI
      refine wpAny_pyIter_list hl1 (wpAny_bind (wpAny_runValue ?_))
      have hh3 : A.in1.in1.in1.handled = none := by simp [hh]
      have n1 : l ≠ (s.heap.push (eSet w)).objs.size := by rw [hz1]; exact Nat.ne_of_lt (Nat.lt_succ_of_lt hlS)
      have n2 : s.heap.objs.size ∉ [(s.heap.push (eSet w)).objs.size, l] := by
        rw [hz1]
        intro hm
        rcases List.mem_cons.mp hm with e | hm
        · omega
        · rw [List.mem_singleton] at hm
          exact Nat.lt_irrefl _ (hm ▸ hlS)
      have hI : ((s.heap.push (eSet w)).push { cls := .type "list_iterator", data := .fields #[.ref l, .int 0 0] }).get? s.heap.objs.size = some (eSet w) := Heap.get?_push_of_some _ hS
      refine set_update_ints (Walks.list hh3 _ l n1 its).toS _ n2 ns hz hb (ints_get hit hz) (its.size - 0) 0 _ (by omega) (Nat.zero_le _) ⟨⟨_, Heap.get?_push_size _ rfl, rfl, rfl⟩, hl1.push _⟩ ⟨0, Nat.le_refl 0, setR_new_at hI⟩ fun t3 c3 hm hc3 hR => ?_
      obtain ⟨h3, g3, d3, k3, o3⟩ := t3
      obtain rfl : g3 = s.gens := hm.gens
      obtain rfl : d3 = s.drawn := hm.drawn
      obtain rfl : o3 = s.os := hm.os
      refine wpAny_pure (show wpAny _ _ (ret Value.none) _ _ _ from wpAny_pure ⟨rfl, h3, k3, c3, rfl, hR, by omega, fun b o e => ?_⟩)
      have lt : b < s.heap.objs.size := Heap.lt_size e
      refine hm.heap b o (fun hmem => ?_) (Heap.get?_push_of_some _ (Heap.get?_push_of_some _ e))
      rcases List.mem_cons.mp hmem with e | hmem
      · exact Nat.ne_of_lt lt e
      · rw [List.mem_singleton] at hmem
        rw [hmem, hz1] at lt
        exact absurd lt (Nat.not_lt.mpr (Nat.le_succ _))
    · rcases r2 with e | fl2
      · exact hr2
      rcases fl2 with ⟨⟩ | v2
      any_goals exact hr2.elim
      obtain ⟨rfl, h3, k3, c3, rfl, hR, hc3, hk3⟩ := hr2
      repeat (any_goals (first | assumption | wp_step))
      exact h _ _ _ hR hc3 hk3)⟩))
end
end L2.M
namespace L2.M
open PySem PySem.Spec PyProof.Rows
end L2.M
namespace L2.M
open PySem PySem.Spec PyProof.Rows
end L2.M
namespace L2.M
open PySem PySem.Spec PyProof.Rows
end L2.M
namespace L2.M
open PySem PySem.Spec PyProof.Rows
/-- the call of a method, its receiver known by ty -/
def tBMH (ty : V → Hp → Prop) (r : V → List V → Hp → VK → Prop) (to : TE) (t : TA) : TE := fun σ H Q => to σ H fun x H1 => ty x H1 ∧ t σ H1 fun xs H2 => r x xs H2 Q
def tyH : V → Hp → Prop := fun x H => ∃ p xs, x = .ref p ∧ HdT H p xs
section
variable {X : Cx} {o e : Expr} {es : List Expr} {to : TE} {t : TA} {name : Str} {apos cpos : Pos} {id : String} {r : V → List V → Hp → VK → Prop}
theorem tyH_is {pins : List (Addr × Obj)} {σ : St} {H : Hp} {s : Shared} {x : V} {v : Value} (I : Inv X pins σ H s) (rv : RelV x v) (ty : tyH x H) : s.TypeIs v "tuple" ∧ ∀ a, v = .ref a → ∃ ob, s.heap.get? a = some ob ∧ ob.dict = none := by
  obtain ⟨p, xs, rfl, o, hd, ho⟩ := ty
  cases rv
  obtain ⟨g, _, its, _, ob, g2, hc, _⟩ := I.hok p _ ho
  rw [g] at g2
  cases g2
  refine ⟨⟨o, g, hc⟩, fun a e => ?_⟩
  cases e
  exact ⟨o, g, hd⟩
theorem pe_bmH (pa : PlainAttrs "tuple") (slot : Slot "tuple" name id) (hty : typeOf (.builtin id) = pure (.type "method_descriptor")) (hm : MtR X id r) (ho : PE X o to) (ha : PA X (e :: es) t)
    (hbase : attributeBase o name X.env (eval o X.env) = eval o X.env)
    (hfew : ((backTo cpos (starEach (e :: es) X.env)).all (fun x => !x.1) && (backToKw cpos (keywordEach [] X.env)).all (fun x => x.1.isSome)
      && decide ((e :: es).length + ([] : List Keyword).length + (if ([] : List Keyword).isEmpty then 0 else 1) < 30)) = true)
    (hline : (apos.endLine == cpos.line) = true) (hs : starEach (e :: es) X.env = (false, eval e X.env) :: starEach es X.env) (hplain : (backTo cpos (starEach es X.env)).any (·.1) = false) :
    PE X (.Call (.Attribute o name apos) (e :: es) [] cpos) (tBMH tyH r to t) := by
  refine ⟨fun pins s σ H Q I h => ?_⟩
  refine wpAny_Call_method_late hbase hfew hline rfl (thn (ho.run pins s σ H _ I h) fun v s1 ⟨x, H1, I1, r1, ty, q1⟩ => ?_)
  obtain ⟨h1, h2⟩ := tyH_is I1 r1 ty
  refine ⟨"tuple", id, pa, slot, hty, h1, h2, ?_⟩
  have hA := ha.run cpos pins s1 σ H1 _ I1 q1
  rw [hs] at hA ⊢
  refine Calls.callWith_builtin (by show (false || (backTo cpos (starEach es X.env)).any (·.1)) = false; rw [hplain] <;> rfl) (Calls.evalArgs_plain ?_)
  exact thn hA fun us s2 ⟨vs, H2, I2, r2, q2⟩ => hm pins s2 σ H2 x vs v us Q I2 r1 r2 q2
end
theorem tE_mH {K : Ek} {ty : V → Hp → Prop} {f : List D → Option C} {r : V → List V → Hp → VK → Prop} {kind : D → Bool} (hf : FnM K.1 f r) (hk : ∀ (F H : Hp) (x : V) (d : D), Same F H → RepB K.1 F H x d → kind d = true → ty x H) {mo : OM} {ma : AM} {σ : St} {H : Hp} {Q : VK}
    (h : tE K (mM f kind mo ma) σ H Q) : tBMH ty r (tO K mo) (tA K ma) σ H Q := by
  obtain ⟨F, R, ε, c, ε', ok, e, q⟩ := h
  unfold mM at e
  cases e1 : mo ε with
  | none => simp [e1] at e
  | some p =>
    obtain ⟨o, ε1⟩ := p
    cases e2 : bor ε1 o with
    | none => simp [e1, e2] at e
    | some d0 =>
      cases e3 : kind d0 with
      | false => simp [e1, e2, e3] at e
      | true =>
        cases e4 : ma ε1 with
        | none => simp [e1, e2, e3, e4] at e
        | some p2 =>
          obtain ⟨os, ε2⟩ := p2
          cases e5 : bors ε2 (o :: os) with
          | none => simp [e1, e2, e3, e4, e5] at e
          | some ds =>
            cases e6 : f ds with
            | none => simp [e1, e2, e3, e4, e5, e6] at e
            | some c' =>
              simp [e1, e2, e3, e4, e5, e6] at e
              obtain ⟨rfl, rfl⟩ := e
              refine ⟨F, R, ε, o, ε1, ok, e1, fun v F1 H1 fm1 v1 s1 => ?_⟩
              have b1 : bors ε1 [o] = some [d0] := by simp [bors, e2]
              have hx := (bors_ok (T := []) (by simpa using s1) v1 b1).inj1
              obtain ⟨R1, s1', bk⟩ := s1.hides
              refine ⟨hk F1 H1 v d0 s1.sub hx e3, F1, R1, ε1, os, ε2, s1', e4, fun vs F2 H2 fm2 v2 s2 => ?_⟩
              have s3 := bk F2 H2 σ ε2 _ fm2 s2
              have v3 : OpV σ (v :: vs) (o :: os) := by
                cases v1 with
                | pl h _ => exact .pl h v2
                | tm _ => exact .tm v2
              have s4 : Sep K F2 R H2 σ ε2 (tmO (o :: os) (v :: vs) ++ []) := by
                rw [List.append_nil]
                cases o with
                | pl i => exact s3
                | tm c => exact s3
              refine hf F2 H2 v vs ds c' Q s4.sub (bors_ok s4 v3 e5) e6 fun w F3 H3 g => ?_
              exact q w F3 H3 ((fm1.trans fm2).trans g.fm) ((s4.drops _).res g)
def isTu : D → Bool
  | .tuple _ => true
  | _ => false
def countD : List D → Option C
  | [.tuple ds, d] => if SeqAt.shaped (.tuple ds) && SeqAt.shaped d then some (.sh (.int ((ds.countP fun z => PyData.eqv z d : Nat) : Int))) else none
  | _ => none
def rCntTu (K : PySem.W.Frag) : V → List V → Hp → VK → Prop := fun x xs H Q => ∃ (a : Addr) (y : V) (d : PyData) (ds : List PyData), x = V.ref a ∧ xs = [y] ∧ Dp K H (V.ref a) (.tuple ds) ∧ Dp K H y d ∧ SeqAt.shaped (.tuple ds) = true ∧ SeqAt.shaped d = true ∧ Q (.int ((ds.countP fun z => PyData.eqv z d : Nat) : Int)) H
section
variable {X : Cx}
theorem mt_countD (hu : X.A.units + 65 < cLine) : MtR X "tuple.count" (rCntTu X.K) := by
  rintro pins s σ H x xs v us Q I rx rxs ⟨a, y, d, ds, rfl, rfl, hl, hy, sl, sd, q⟩
  cases rx
  cases rxs with
  | cons ry rt =>
    rename_i uy ut
    cases rt
    obtain ⟨bs, r1⟩ := Dp.reads I d y uy hy ry
    have hxs : PyData.canLayAll0 ds = true := SeqAt.canLay_of_shaped sl
    have hroom : X.A.units + 1 + min (PyData.depthAll ds) d.depth < cLine := room_in_shaped sd hu
    cases hl with
    | tup hs ha =>
      obtain ⟨its, rv, ⟨⟨cls, dd, data, sls⟩, ho, hc, n, hdt⟩, hlen⟩ := I.tuple hs
      simp only at hc hdt
      subst hc hdt
      obtain ⟨as, h4⟩ := Dp.readsAll I ds _ its ha rv
      have hmap : its.map (SeqAt.readOf s.heap) = ds := SeqAt.readsAll_map ds its as hxs h4
      refine call_meets PySem.F.slot_tuple_count ⟨_, ho, rfl⟩ PySem.F.entry_tuple_count (PySem.F.args_tuple_count_2 _ _)
        (SeqAt.tuple_countAt a its.toArray n dd sls uy (fun u => PyData.eqv (SeqAt.readOf s.heap u) d)) ⟨ho, SeqAt.items_eqAt (vs := its.toArray) (show ReadsAll s.heap its.toArray.toList ds as from h4) r1 hxs (SeqAt.canLay_of_shaped sd) hroom, ?_⟩
      refine ⟨.int _, H, I.tok _, ⟨s.toks, ?_⟩, q⟩
      have e : its.toArray.toList.countP (fun u => PyData.eqv (SeqAt.readOf s.heap u) d) = ds.countP fun z => PyData.eqv z d := by
        rw [← hmap, List.countP_map]
        rfl
      show Value.int ((its.toArray.toList.countP (fun u => PyData.eqv (SeqAt.readOf s.heap u) d) : Nat) : Int) s.toks = _
      rw [e]
theorem count_ok (hu : X.A.units + 65 < cLine) : ∃ r, MtR X "tuple.count" r ∧ FnM X.K countD r := by
  refine ⟨_, mt_countD hu, fun F H x xs ds c Q s hr he q => ?_⟩
  match ds, he, hr with
  | [.tuple ds, d], he, hr =>
    simp only [countD] at he
    split at he
    · rename_i hs
      simp only [Bool.and_eq_true] at hs
      cases he
      obtain ⟨y, w, e, h1, h2⟩ := hr.two
      cases e
      have dl := rb_dp s h1 (SeqAt.canLay_of_shaped hs.1)
      obtain ⟨a, vs, rfl, _, _⟩ := rb_tup s h1
      exact ⟨a, w, d, ds, rfl, rfl, dl, rb_dp s h2 (SeqAt.canLay_of_shaped hs.2), hs.1, hs.2, g_int s q⟩
    · cases he
variable {o e : Expr} {es : List Expr} {mo : OM} {mr : AM} {apos cpos : Pos} {k : Nat}
theorem x_countT (hr : Room k X.A) (ho : PE X o (tO X.E mo)) (ha : PA X (e :: es) (tA X.E mr))
    (hb : attributeBase o "count" X.env (eval o X.env) = eval o X.env := by rfl)
    (hfw : ((backTo cpos (starEach (e :: es) X.env)).all (fun x => !x.1) && (backToKw cpos (keywordEach [] X.env)).all (fun x => x.1.isSome) && decide ((e :: es).length + ([] : List Keyword).length + (if ([] : List Keyword).isEmpty then 0 else 1) < 30)) = true := by rfl)
    (hln : (apos.endLine == cpos.line) = true := by rfl) (hs : starEach (e :: es) X.env = (false, eval e X.env) :: starEach es X.env := by rfl) (hp : (backTo cpos (starEach es X.env)).any (·.1) = false := by rfl) :
    PE X (.Call (.Attribute o "count" apos) (e :: es) [] cpos) (tE X.E (mM countD isTu mo mr)) :=
  let ⟨_, h1, h2⟩ := count_ok (by have := hr.un; omega)
  (pe_bmH PySem.F.plainAttrs_tuple PySem.F.slot_tuple_count PySem.F.type_tuple_count h1 ho ha hb hfw hln hs hp).weak fun _ _ _ h => tE_mH h2 (fun F H x d s r k => by
    cases d with
    | tuple ds =>
      rcases r with ⟨a, vs, h1, h2, h3⟩ | ⟨_, _, _, _, h, _⟩
      · exact ⟨a, vs, h1, h2.mono s⟩
      · cases h
    | _ => cases k) h
end
end L2.M
namespace L2.M
open PySem PySem.Spec PyProof.Rows
def mExt (i : Nat) (m : EM) : XM := fun ε => match ε[i]? with
  | some (.ls _) => do
    let (c, ε1) ← m ε
    match c, ε1[i]? with
      | .ls zs, some (.ls xs) => if xs.length + zs.length ≤ sizeLine then some (.nx, ε1.set i (.ls (xs ++ zs))) else none
      | _, _ => none
  | _ => none
section
variable {X : Cx} {W : Xw} {io : List Nat} {pos : Pos}
theorem z_ext (i : Nat) {m : EM} {e : Expr} {x : Str} {p p2 p3 : Pos} (hv : PE X (.Name x p) (tVar i)) (he : PE X e (tE X.E m)) (hbase : attributeBase (.Name x p) "extend" X.env (eval (.Name x p) X.env) = eval (.Name x p) X.env := by rfl)
    (hfew : ((backTo p3 (starEach [e] X.env)).all (fun x => !x.1) && (backToKw p3 (keywordEach [] X.env)).all (fun x => x.1.isSome) && decide ([e].length + ([] : List Keyword).length + (if ([] : List Keyword).isEmpty then 0 else 1) < 30)) = true := by rfl)
    (hline : (p2.endLine == p3.line) = true := by rfl) (hs : starEach [e] X.env = (false, eval e X.env) :: starEach [] X.env := by rfl) (hplain : (backTo p3 (starEach [] X.env)).any (·.1) = false := by rfl)
    (hsw : swapsWith (.Call (.Attribute (.Name x p) "extend" p2) [e] [] p3) none pos.line X.env = pure false := by rfl) : PS X (.Expr (.Call (.Attribute (.Name x p) "extend" p2) [e] [] p3) pos) (tS X.E W io (mExt i m)) :=
  (ps_expr (pe_bm PySem.F.plainAttrs_list PySem.F.slot_list_extend PySem.F.type_list_extend mt_extend hv (pa_cons he pa_nil hs) hbase hfew hline hs hplain) hsw).weak fun De σ H h => by
    obtain ⟨F, R, ε, f, ε', o, e, q⟩ := h
    unfold mExt at e
    split at e
    · rename_i xs0 hx0
      cases e1 : m ε with
      | none => simp [e1] at e
      | some p =>
        obtain ⟨c, ε1⟩ := p
        simp only [e1, Option.bind_eq_bind, Option.bind_some] at e
        split at e
        · rename_i zs xs hx
          split at e
          · rename_i hl
            cases e
            obtain ⟨a, vs, h1, h2, h3⟩ := o.lst hx0
            refine ⟨_, h1, .inl ⟨rfl, vs, .inl (.inl h2)⟩, F, R, ε, _, ε1, o, e1, fun v F1 H1 fm p => ?_⟩
            obtain ⟨b, ws, rfl, k1, _, k3⟩ := p.hdL
            obtain ⟨a', vs', g1, g2, g4, wr⟩ := p.atL hx
            rw [h1] at g1
            cases g1
            refine ⟨a, b, vs', ws, rfl, rfl, g2, k1, by rw [g4.length, k3.length]; exact hl, ?_⟩
            exact q F1 _ σ fm (StS.refl σ) (wr _ _ (g4.append k3)).drop
          · cases e
        · cases e
    · cases e
end
end L2.M
namespace L2.M
open PySem PySem.Spec PyProof.Rows
def kyD : D → Option Key
  | .int i => some (.inl i)
  | .str x => some (.inr x)
  | _ => none
def dLk (kds : List (D × D)) (k : D) : Option D := (kds.find? fun p => PyData.eqv p.1 k).map (·.2)
def dPt (kds : List (D × D)) (k d : D) : List (D × D) := if (kds.any fun p => PyData.eqv p.1 k) = true then kds.map (fun p => if PyData.eqv p.1 k = true then (p.1, d) else p) else kds ++ [(k, d)]
def mDNew : EM := fun ε => some (.dc 0 [], ε)
def mDIn (n : Bool) (i : Nat) (m : OM) : EM := fun ε => do
  let (o, ε1) ← m ε
  let k ← bor ε1 o
  let _ ← kyD k
  match ε1[i]? with
  | some (.dc 0 kds) => some (.sh (.bool (if n then !(dLk kds k).isSome else (dLk kds k).isSome)), ε1)
  | _ => none
def mDGet (i : Nat) (m : OM) : EM := fun ε => match ε[i]? with
  | some (.dc _ _) => do
    let (o, ε1) ← m ε
    let k ← bor ε1 o
    let _ ← kyD k
    match ε1[i]? with
      | some (.dc 0 kds) => do
        let d ← dLk kds k
        some (.sh d, ε1)
      | _ => none
  | _ => none
def mDLen (i : Nat) : EM := fun ε => match ε[i]? with
  | some (.dc 0 kds) => some (.sh (.int kds.length), ε)
  | _ => none
def mDPut (i : Nat) (m : EM) (ix : OM) : XM := fun ε => do
  let (c, ε1) ← m ε
  let d ← cD c
  match ε1[i]? with
  | some (.dc 0 _) => do
    let (p, ε2) ← ix ε1
    let k ← bor ε2 p
    let _ ← kyD k
    match ε2[i]? with
      | some (.dc 0 kds) => if kds.length < sizeLine then some (.nx, ε2.set i (.dc 0 (dPt kds k d))) else none
      | _ => none
  | _ => none
end L2.M
namespace L2.M
open PySem PySem.Spec PyProof.Rows
def NVal (w : World) : NEnt × Value → NestedKey × Addr × Value := fun x => (x.1.1, x.1.2, x.2)
abbrev NX := List (NEnt × V)
abbrev nkR (p : NEnt × V) (q : NEnt × Value) : Prop := p.1 = q.1 ∧ RelV p.2 q.2
def lkN (xs : NX) (k : NestedKey) : Option V := (xs.find? fun x => decide (x.1.1 = k)).map (·.2)
def ptN (xs : NX) (b : NEnt) (v : V) : NX := if (lkN xs b.1).isSome then xs.map (fun x => if x.1.1 = b.1 then (x.1, v) else x) else xs ++ [(b, v)]
section
variable {w : World}
theorem lk_val : ∀ {xs : NX} {vs : List (NEnt × Value)} {k : NestedKey}, Paired nkR xs vs → RelO (lkN xs k) ((atKey (vs.map (NVal w)) k).map (·.2))
  | _, _, k, .nil => by simp [lkN, atKey, RelO]
  | x :: xs, y :: vs, k, .cons q r => by
    obtain ⟨q1, q2⟩ := q
    by_cases c : x.1.1 = k
    · have c2 : (NVal w y).1 = k := by show y.1.1 = k; rw [← q1]; exact c
      have e1 : lkN (x :: xs) k = some x.2 := by simp [lkN, c]
      have e2 : (atKey ((y :: vs).map (NVal w)) k).map (·.2) = some y.2 := by
        unfold atKey
        rw [List.map_cons, List.find?_cons_of_pos (by simpa using c2)]
        rfl
      rw [e1, e2]
      exact q2
    · have c2 : ¬ (NVal w y).1 = k := by show ¬ y.1.1 = k; rw [← q1]; exact c
      have e1 : lkN (x :: xs) k = lkN xs k := by simp [lkN, c]
      have e2 : (atKey ((y :: vs).map (NVal w)) k).map (·.2) = (atKey (vs.map (NVal w)) k).map (·.2) := by simp [atKey, c2]
      rw [e1, e2]
      exact lk_val r
theorem lk_some {xs : NX} {vs : List (NEnt × Value)} {k : NestedKey} (r : Paired nkR xs vs) : (atKey (vs.map (NVal w)) k).isSome = (lkN xs k).isSome := by
  have := (lk_val (w := w) (k := k) r).isSome_eq
  rw [Option.isSome_map] at this
  exact this.symm
theorem pt_val {xs : NX} {vs : List (NEnt × Value)} {b : NEnt} {v : V} {u : Value} (r : Paired nkR xs vs) (rv : RelV v u) : ∃ ws, Paired nkR (ptN xs b v) ws ∧ storedH (vs.map (NVal w)) b.1 b.2 u = ws.map (NVal w) := by
  unfold ptN storedH
  rw [lk_some r]
  by_cases c : (lkN xs b.1).isSome = true
  · rw [if_pos c, if_pos c]
    refine ⟨vs.map fun y => if y.1.1 = b.1 then (y.1, u) else y, ?_, ?_⟩
    · clear c
      induction r with
      | nil => exact .nil
      | @cons x y xs vs q r ih =>
        obtain ⟨q1, q2⟩ := q
        simp only [List.map_cons]
        refine .cons ?_ ih
        by_cases c : x.1.1 = b.1
        · rw [if_pos c, if_pos (by rw [← q1]; exact c)]
          exact ⟨q1, rv⟩
        · rw [if_neg c, if_neg (by rw [← q1]; exact c)]
          exact ⟨q1, q2⟩
    · rw [List.map_map, List.map_map]
      refine List.map_congr_left fun y _ => ?_
      show putAt b.1 u (NVal w y) = NVal w (if y.1.1 = b.1 then (y.1, u) else y)
      unfold putAt
      by_cases c3 : y.1.1 = b.1
      · rw [if_pos c3, if_pos (show (NVal w y).1 = b.1 from c3)]
        rfl
      · rw [if_neg c3, if_neg (show ¬ (NVal w y).1 = b.1 from c3)]
  · rw [if_neg c, if_neg c]
    refine ⟨vs ++ [(b, u)], Paired.snoc r ⟨rfl, rv⟩, ?_⟩
    rw [List.map_append]
    rfl
end
end L2.M
namespace L2.M
open PySem PySem.Spec PyProof.Rows
def okKey : D → Option NestedKey
  | .tuple ds => (nKey (.tuple ds)).bind fun n => if n.depth ≤ 8 then some n else none
  | _ => none
def idxN (ks : List D) (key : NestedKey) : Option Nat := ks.findIdx? fun k => decide (nKey k = some key)
def nKs : C → Option (List D)
  | .ob (.dn ks) _ => some ks
  | .fd kds => some (kds.map (·.1))
  | _ => none
def nVl : C → Nat → Option D
  | .ob (.dn _) cs, j => match cs[j]? with
    | some (.sh d) => some d
    | _ => none
  | .fd kds, j => (kds[j]?).map (·.2)
  | _, _ => none
section
variable {K : Ek} {F R H : Hp} {σ : St} {ε : Cs} {T : Tms} {i : Nat} {c : C} {ks : List D} {bs : List NEnt} {vs : List V} {key : NestedKey}
theorem KeysN.len : ∀ {ks : List D} {bs : List NEnt}, KeysN K.1 F bs ks → bs.length = ks.length
  | [], bs, h => by cases (show bs = [] from h); rfl
  | k :: ks, bs, ⟨b, r, h1, _, _, _, h5⟩ => by rw [h1, List.length_cons, List.length_cons, KeysN.len h5]
end
def mNNew : EM := fun ε => some (.ob (.dn []) [], ε)
def mNIn (n : Bool) (i : Nat) (m : OM) : EM := fun ε => do
  let (o, ε1) ← m ε
  let k ← bor ε1 o
  let key ← okKey k
  let c ← ε1[i]?
  let ks ← nKs c
  some (.sh (.bool (if n then !(idxN ks key).isSome else (idxN ks key).isSome)), ε1)
def mNGet (i : Nat) (m : OM) : EM := fun ε => do
  let c0 ← ε[i]?
  let _ ← nKs c0
  let (o, ε1) ← m ε
  let k ← bor ε1 o
  let key ← okKey k
  let c ← ε1[i]?
  let ks ← nKs c
  let j ← idxN ks key
  let d ← nVl c j
  some (.sh d, ε1)
/-- d[k] = e -/
def mNPut (i : Nat) (m : EM) (ix : OM) : XM := fun ε => do
  let (c, ε1) ← m ε
  match ε1[i]? with
  | some (.ob (.dn _) _) => do
    let (p, ε2) ← ix ε1
    let k ← bor ε2 p
    let key ← okKey k
    match ε2[i]? with
      | some (.ob (.dn ks) cs) => if cs.length < sizeLine then some (.nx, ε2.set i (match idxN ks key with
          | some j => .ob (.dn ks) (cs.set j c)
          | none => .ob (.dn (ks ++ [k])) (cs ++ [c]))) else none
      | _ => none
  | _ => none
end L2.M
namespace L2.M
open PySem PySem.Spec PyProof.Rows
section
variable {K : Ek} {F F' R H : Hp} {σ : L2.St} {ε : Cs} {T : Tms} {i : Nat}
theorem KeysN.get {F : Hp} : ∀ {ks : List D} {bs : List NEnt} {i : Nat} {b : NEnt}, KeysN K.1 F bs ks → bs[i]? = some b → ∃ k, ks[i]? = some k ∧ Rep K.1 F (.ref b.2) k
  | [], bs, i, b, h, e => by
    cases (show bs = [] from h)
    simp at e
  | k :: ks, bs, 0, b, ⟨b', r, h1, _, _, h4, _⟩, e => by
    subst h1
    simp at e
    subst e
    exact ⟨k, rfl, h4⟩
  | k :: ks, bs, i + 1, b, ⟨b', r, h1, _, _, h4, h5⟩, e => by
    subst h1
    obtain ⟨k', q1, q2⟩ := KeysN.get (i := i) h5 (by simpa using e)
    exact ⟨k', by simpa using q1, q2⟩
end
end L2.M
namespace L2.M
open PySem PySem.Spec PyProof.Rows
def mNList (i : Nat) : EM := fun ε => do
  let c ← ε[i]?
  let ks ← nKs c
  some (.ls ks, ε)
def shs : List C → Option (List D)
  | [] => some []
  | .sh d :: cs => (shs cs).map (d :: ·)
  | _ => none
def nVs : C → Option (List D)
  | .ob (.dn _) cs => shs cs
  | .fd kds => some (kds.map (·.2))
  | _ => none
def mNVals (i : Nat) : EM := fun ε => do
  let c ← ε[i]?
  let ds ← nVs c
  some (.ls ds, ε)
section
variable {X : Cx} {W : Xw} {io : List Nat} {e kx vx : Expr} {y : Str} {p p2 pos apos cpos : Pos} {m : OM} {i k : Nat}
def mN1 (mk mv : EM) : EM := fun ε => do
  let (ck, ε1) ← mk ε
  let kd ← cD ck
  let _ ← okKey kd
  let (cv, ε2) ← mv ε1
  some (.ob (.dn [kd]) [cv], ε2)
def mFnV (x : Str) : EM := fun ε => some (.fn x, ε)
def mCallF (i : Nat) (io : List Bool) (cands : List (Str × GM)) (ma : AM) : EM := fun ε => match ε[i]? with
  | some (.fn x) => match cands.lookup x with
    | some g => mCall io g ma ε
    | none => none
  | _ => none
/-- a slot's thing taken out -/
def mTake (i : Nat) : EM := fun ε => match ε[i]? with
  | some .no => none
  | some c => some (c, ε.set i .no)
  | none => none
end
end L2.M
namespace L2.M
open PySem PySem.Spec PyProof.Rows
end L2.M
namespace L2.M
open PySem PySem.Spec PyProof.Rows
end L2.M
namespace L2.M
open PySem PySem.Spec PyProof.Rows
end L2.M
namespace L2.M
open PySem PySem.Spec PyProof.Rows
end L2.M
namespace L2.M
open PySem PySem.Spec PyProof.Rows
end L2.M
namespace L2.M
open PySem PySem.Spec PyProof.Rows
end L2.M
namespace L2.M
open PySem PySem.Spec PyProof.Rows
end L2.M
namespace L2.M
open PySem PySem.Spec PyProof.Rows
end L2.M
namespace L2.M
open PySem PySem.Spec PyProof.Rows
end L2.M
namespace L2.M
open PySem PySem.Spec PyProof.Rows
inductive SelOk (X : Cx) (k' np : Nat) : List Expr → List V → List GX → Prop where
  | nil : SelOk X k' np [] [] []
  | cons {x : Str} {p : Pos} {g : GX} {k : Nat} {ps : List Str} {es : List Expr} {vs : List V} {gs : List GX} (h : KnX X.prog X.w X.K X.mg X.base k x ps (spX X.E np g)) (hk : k ≤ k') (hg : Gl X x) (hm : X.mg x = some (.ref (He.ga X.K x))) (hd : (x == ("__debug__" : Str)) = false) (hs : starEach (.Name x p :: es) X.env = (false, eval (.Name x p) X.env) :: starEach es X.env) (r : SelOk X k' np es vs gs) : SelOk X k' np (.Name x p :: es) (.ref (He.ga X.K x) :: vs) (g :: gs)
section
variable {X : Cx} {k' np : Nat}
theorem SelOk.len : ∀ {es : List Expr} {vs : List V} {gs : List GX}, SelOk X k' np es vs gs → vs.length = gs.length ∧ es.length = gs.length
  | _, _, _, .nil => ⟨rfl, rfl⟩
  | _, _, _, .cons _ _ _ _ _ _ r => ⟨congrArg (· + 1) r.len.1, congrArg (· + 1) r.len.2⟩
theorem SelOk.get : ∀ {es : List Expr} {vs : List V} {gs : List GX}, SelOk X k' np es vs gs → ∀ (j : Nat) (g : GX), gs[j]? = some g → ∃ x k ps, vs[j]? = some (.ref (He.ga X.K x)) ∧ k ≤ k' ∧ KnX X.prog X.w X.K X.mg X.base k x ps (spX X.E np g) ∧ X.mg x = some (.ref (He.ga X.K x))
  | _, _, _, .nil, j, g, e => by cases e
  | _, _, _, .cons (x := x) (k := k) (ps := ps) h hk hg hm hd hs r, 0, g, e => by
    cases e
    exact ⟨x, k, ps, rfl, hk, h, hm⟩
  | _, _, _, .cons h hk hg hm hd hs r, j + 1, g, e => r.get j g e
end
end L2.M
namespace L2.M
open PySem PySem.Spec PyProof.Rows
end L2.M
namespace L2.M
open PySem PySem.Spec PyProof.Rows
end L2.M
namespace L2.M
open PySem PySem.Spec PyProof.Rows
open PySem.Builtin PySem.Builtin.Str
section
variable {P : Program} {w : World} {K : PySem.W.Frag} {mg : Str → Option Value} {base : Heap} {CX : CXT}
theorem PSsT.nox {X : Cx} {st : List Stmt} {t : TS} (h : PSsT X.nox st t) : PSsT X st t := fun pins s σ H D h0 I hw =>
  wpAny_mono (h pins s σ H D h0 (I.wish _) hw) (fun _ _ q => q.unwish) fun _ _ z => False.elim z
end
end L2.M
namespace L2.M
open PySem PySem.Spec PyProof.Rows
end L2.M
namespace L2.M
open PySem PySem.Spec PyProof.Rows
end L2.M
namespace L2.M
open PySem PySem.Spec PyProof.Rows
def mDGetD (i : Nat) (m n : EM) : EM := fun ε => match ε[i]? with
  | some (.dc 0 _) => do
    let (c1, ε1) ← m ε
    let (c2, ε2) ← n ε1
    match c1, c2, ε2[i]? with
      | .sh kd, .sh d, some (.dc 0 kds) => if (kyD kd).isSome = true then some (.sh ((dLk kds kd).getD d), ε2) else none
      | _, _, _ => none
  | _ => none
def mDList (i : Nat) : EM := fun ε => match ε[i]? with
  | some (.dc 0 kds) => some (.ls (kds.map (·.1)), ε)
  | _ => none
end L2.M
namespace L2.M
open PySem PySem.Spec PyProof.Rows
end L2.M
namespace L2.M
open PySem PySem.Spec PyProof.Rows
end L2.M
namespace L2.M
open PySem PySem.Spec PyProof.Rows
end L2.M
namespace L2.M
open PySem PySem.Spec PyProof.Rows
def lsD (ds : List D) : Option C := match intsOf ds with
  | some ns => if ns.length < 4000 then some (.sh (.int ((dsort ns).length : Nat))) else none
  | none => none
def lsT : List D → Option C
  | [.tuple ds] => lsD ds
  | [.list ds] => lsD ds
  | _ => none
def rLST (K : PySem.W.Frag) : List V → Hp → VK → Prop := fun vs H Q => ∃ (a : Addr) (ns : List Int), vs = [V.ref a] ∧ (SqT K H a (ns.map V.int) ∨ SqL K H a (ns.map V.int)) ∧ ns.length < 4000 ∧ Q (.int ((dsort ns).length : Nat)) H
theorem lsT_b {K : PySem.W.Frag} : FnB K lsT (rLST K) := by
  intro F H vs ds c Q s hr he q
  have key : ∀ ds : List D, lsD ds = some c → ∃ ns : List Int, intsOf ds = some ns ∧ ns.length < 4000 ∧ c = .sh (.int ((dsort ns).length : Nat)) := fun ds he => by
    unfold lsD at he
    split at he
    · rename_i ns e1
      split at he
      · rename_i h64
        cases he
        exact ⟨ns, e1, h64, rfl⟩
      · cases he
    · cases he
  match ds, he, hr with
  | [.tuple ds], he, hr =>
    obtain ⟨ns, e1, h64, rfl⟩ := key ds he
    obtain ⟨x, rfl, h1⟩ := hr.one
    obtain ⟨a, vs, rfl, _, g1, g2⟩ := rb_tup s h1
    rw [ints_reps g2 e1] at g1
    exact ⟨a, ns, rfl, .inl g1, h64, g_int s q⟩
  | [.list ds], he, hr =>
    obtain ⟨ns, e1, h64, rfl⟩ := key ds he
    obtain ⟨x, rfl, h1⟩ := hr.one
    obtain ⟨a, vs, rfl, g1, g2⟩ := rb_lst s h1
    rw [ints_reps g2 e1] at g1
    exact ⟨a, ns, rfl, .inr g1, h64, g_int s q⟩
section
variable {X : Cx}
theorem ls_fin {pins : List (Addr × Obj)} {σ : L2.St} {H : Hp} {s : Shared} {ns : List Int} {Q : VK} (I : Inv X pins σ H s) (q : Q (.int ((dsort ns).length : Nat)) H)
    (h' : Heap) (tk c : Nat) (R : SetR X.w h' s.heap.objs.size (fun j => decide (j ∈ ns)) c) (hk : ∀ b o, s.heap.get? b = some o → h'.get? b = some o) (hl4 : ns.length < 4000) (hc' : c ≤ ns.length) :
    wpAny (model X.prog X.w) X.A (call (.builtin "len") [.ref s.heap.objs.size]) (EP X pins σ Q) X.xe { s with heap := h', toks := tk } := by
  have I2 : Inv X pins σ H { s with heap := h', toks := tk } := I.kept fun b o e => hk b o e
  obtain ⟨o, es, ep, t, ho, hex, hd, _, hnd, hm, _, hf, hn, _⟩ := R
  have e : es.size = (dsort ns).length := by
    have nd : (dsort ns).Nodup := (dsort_ris ns).imp fun {a b} h => by omega
    have p : (es.toList.map keyOf).Perm (dsort ns) := (List.perm_ext_iff_of_nodup hnd nd).mpr fun k => by
      rw [← hm k, dsort_mem]
      simp
    have := p.length_eq
    simpa using this
  rw [← e] at q
  exact call_len_set ho hex hd hf (by omega) ⟨.int es.size, H, I2.tok _, ⟨_, rfl⟩, q⟩
variable {a : Expr} {m : AM} {p p2 q pos : Pos}
theorem x_ls (hm : X.mg "len" = none) (hg : Gl X "len") (hm2 : X.mg "set" = none) (hg2 : Gl X "set") (hc : X.calm = true) (ha : PA X [a] (tA X.E m))
    (na : starEach [a] X.env = (false, eval a X.env) :: starEach [] X.env := by rfl)
    (nb : starEach [Expr.Call (.Name "set" p2) [a] [] q] X.env = (false, eval (Expr.Call (.Name "set" p2) [a] [] q) X.env) :: starEach [] X.env := by rfl) :
    PE X (.Call (.Name "len" p) [.Call (.Name "set" p2) [a] [] q] [] pos) (tE X.E (mOp lsT m)) := by
  refine PE.weak (t := fun σ H Q => tA X.E m σ H fun vs H' => rLST X.K vs H' Q) ⟨fun pins s σ H Q I h => ?_⟩ fun _ _ _ h => op_sem lsT_b h
  refine wpAny_Call_Name_kw (ld_blt I hg hm boot_len ?_ (by decide) (by decide))
  refine PyProof.Rows.callWith_builtin1 (PyProof.Rows.args_cons ?_ nb) nb rfl
  refine wpAny_Call_Name_kw (ld_blt I hg2 hm2 boot_set ?_ (by decide) (by decide))
  refine PyProof.Rows.callWith_type1 (thn (ha.run q pins s σ H _ I h) fun us s1 ⟨vs, H1, I1, r1, q1⟩ => ?_) na rfl
  obtain ⟨l, ns, rfl, hq, h64, q1⟩ := q1
  rw [Vals.ref1 r1]
  have hb : ns.length + 1 < scanBound := by unfold scanBound; omega
  rcases hq with hq | hq
  · obtain ⟨its, rv, pl, hz⟩ := I1.tuple hq
    exact call_set_tupI ns (I1.ok.hd hc) pl (by simpa using RZ.intsAre_vals rv) hb fun h' tk c R hc' hk => PyProof.Rows.args_nil (ls_fin I1 q1 h' tk c R hk h64 hc')
  · obtain ⟨its, rv, pl, hz⟩ := I1.list hq
    exact call_set_lstI ns (I1.ok.hd hc) pl.isList (by simpa using RZ.intsAre_vals rv) hb fun h' tk c R hc' hk => PyProof.Rows.args_nil (ls_fin I1 q1 h' tk c R hk h64 hc')
end
/-- a dict is not empty -/
def mNNe (i : Nat) : EM := fun ε => match ε[i]? with
  | some c => (nKs c).map fun ks => (.sh (.bool (!ks.isEmpty)), ε)
  | none => none
end L2.M
namespace L2.M
open PySem PySem.Spec PyProof.Rows
end L2.M
namespace L2.M
open PySem PySem.Spec PyProof.Rows
end L2.M
namespace PySem.SeqAt
open AutoSeq1 (wpAny_loadPart')
open MeetsSeq MeetsSeq2 MeetsSeq3
end PySem.SeqAt
namespace L2.M
open PySem PySem.Spec PyProof.Rows
end L2.M
namespace L2.M
open PySem PySem.Spec PyProof.Rows
end L2.M
namespace L2.M
open PySem PySem.Spec PyProof.Rows
end L2.M
namespace L2.M
open PySem PySem.Spec PyProof.Rows
end L2.M
namespace L2.M
open PySem PySem.Spec PyProof.Rows
end L2.M
namespace L2.M
open PySem PySem.Spec PyProof.Rows
end L2.M
namespace L2.M
open PySem PySem.Spec PyProof.Rows
end L2.M
namespace L2.M
open PySem PySem.Spec PyProof.Rows
section
variable {P : Program} {w : World} {A : Around} {E : Value → Shared → Prop} {s : Shared}
theorem none_at {h : Heap} {b : Addr} (hb : h.objs.size ≤ b) : h.get? b = none := by
  cases q : h.get? b with
  | none => rfl
  | some o => exact absurd (Nat.lt_of_lt_of_le (Heap.lt_size q) hb) (Nat.lt_irrefl _)
/-- set(xs) of a tuple of tuples of numbers -/
theorem call_set_tupT {l : Addr} {its : Array Value} (ks : List (Addr × List Int)) {Q : Value → Shared → Prop} (hh : A.handled = none) (hl : s.heap.IsTuple l its) (hit : its.toList = ks.map fun p => Value.ref p.1)
    (hk : ∀ p ∈ ks, L2.IsT P w s.heap p.2 p.1) (hf : ks.length < 64) (hu : A.units + 3 < cLine)
    (h : ∀ (h' : Heap) (tk : Nat) L es ep t, SetTR P w h' s.heap.objs.size L es ep t → Got ks ks.length L → (∀ b o, s.heap.get? b = some o → h'.get? b = some o) → Q (.ref s.heap.objs.size) { s with heap := h', toks := tk }) :
    wpAny (model P w) A (call (.type "set") [.ref l]) Q E s := by
  have hz : its.size = ks.length := by
    have z := congrArg List.length hit
    rwa [Array.length_toList, List.length_map] at z
  have ⟨cm, tl, hmro⟩ := F.called_set.mro
  have hmade := F.called_set.made; have hsub := F.called_set.sub
  refine wpAny_call (codeAny_of_tree (show wpAny _ _ (callAny (.type "set") _) _ _ _ from wpAny_pure ⟨Code.quiet_builtin _ (by decide +kernel), codeAny_builtin F.entry_type_call (by
    rw [Around.under_plain (weight_type_call_type "set" [.ref l] []) rfl]
    have a1 := F.called_set.notType; have a2 := F.called_set.canCreate; have a3 := F.typeCall_set_1 (.ref l)
    repeat (any_goals (first | assumption | wp_step))
    refine codeAny_mono (code_set_led1 (.ref l) (E := E) (Q₁ := fun v t => v = .ref s.heap.objs.size ∧ t = { s with heap := s.heap.push (eSet w) }) ⟨rfl, rfl⟩) fun r t hr => ?_
    rcases r with e | fl
    · exact hr
    rcases fl with ⟨⟩ | v
    any_goals exact hr.elim
    obtain ⟨rfl, rfl⟩ := hr
    have hS : (s.heap.push (eSet w)).get? s.heap.objs.size = some (eSet w) := Heap.get?_push_size _ rfl
    have hT : Shared.TypeIs { s with heap := s.heap.push (eSet w) } (.ref s.heap.objs.size) "set" := ⟨_, hS, rfl⟩
    have b1 := F.called_set.init.lookup; have b2 := F.called_set.init.bind (.ref s.heap.objs.size)
    repeat (any_goals (first | assumption | wp_step))
    have hl1 : (s.heap.push (eSet w)).IsTuple l its := by
      obtain ⟨o, q1, q2⟩ := hl
      exact ⟨o, Heap.get?_push_of_some _ q1, q2⟩
    obtain ⟨ol, hol, hcl, -⟩ := id hl
    have hlS : l < s.heap.objs.size := Heap.lt_size hol
    have hz1 : (s.heap.push (eSet w)).objs.size = s.heap.objs.size + 1 := Heap.size_push ..
    refine codeAny_mono (codeAny_call_builtin (R := wants (fun v t => v = .none ∧ ∃ h' tk L es ep u, t = { s with heap := h', toks := tk } ∧ SetTR P w h' s.heap.objs.size L es ep u ∧ Got ks ks.length L ∧ (∀ b o, s.heap.get? b = some o → h'.get? b = some o)) E)
      F.called_set.init.plain F.entry_set_init (check_set_init_1 hT ?_)) fun r2 t2 hr2 => ?_
    · have c1 := F.sub_tuple_set; have c2 := F.sub_tuple_frozenset
      have c3 : (Value.type "tuple" == Value.type "dict") = false := by decide
      have hol2 : (s.heap.push (eSet w)).get? l = some ol := Heap.get?_push_of_some _ hol
      obtain ⟨ocls, odict, odata, oslots⟩ := ol
      simp only at hcl
      subst hcl
      unfold Builtin.«set.__init__» noKeywords Builtin.Frozenset.updateFrom
      generalize hPI : pyIter = PI
      wp_walk
      subst hPI
      refine wpAny_pyIter_tuple hl1 (wpAny_bind (wpAny_runValue ?_))
      have hh3 : A.in1.in1.in1.handled = none := by simp [hh]
      have n1 : l ≠ (s.heap.push (eSet w)).objs.size := by rw [hz1]; exact Nat.ne_of_lt (Nat.lt_succ_of_lt hlS)
      have n2 : s.heap.objs.size ∉ [(s.heap.push (eSet w)).objs.size, l] := by
        rw [hz1]
        intro hm
        rcases List.mem_cons.mp hm with e | hm
        · omega
        · rw [List.mem_singleton] at hm
          exact Nat.lt_irrefl _ (hm ▸ hlS)
      have hI : ((s.heap.push (eSet w)).push { cls := .type "tuple_iterator", data := .fields #[.ref l, .int 0 0] }).get? s.heap.objs.size = some (eSet w) := Heap.get?_push_of_some _ hS
      have hv : ∀ (i : Nat) (v : Value), its[i]? = some v → ∃ p, ks[i]? = some p ∧ v = .ref p.1 := fun i v e => by
        rw [← Array.getElem?_toList, hit, List.getElem?_map] at e
        cases q : ks[i]? with
        | none => rw [q] at e; cases e
        | some p => rw [q] at e; exact ⟨p, rfl, (Option.some.inj e).symm⟩
      have hl2 : ((s.heap.push (eSet w)).push { cls := .type "tuple_iterator", data := .fields #[.ref l, .int 0 0] }).IsTuple l its := by
        obtain ⟨o, q1, q2⟩ := hl1
        exact ⟨o, Heap.get?_push_of_some _ q1, q2⟩
      refine set_update_tups (Walks.tuple hh3 _ l n1 its).toS s.heap.objs.size n2 ks hz hf hv s.heap hk (none_at (Nat.le_refl _)) (fun b hb => none_at (by rw [List.mem_singleton.mp hb, hz1]; omega)) hu (its.size - 0) 0 _ (by omega) (Nat.zero_le _)
        ⟨⟨_, Heap.get?_push_size _ rfl, rfl, rfl⟩, hl2⟩ (fun b o e => Heap.get?_push_of_some _ (Heap.get?_push_of_some _ e)) ⟨[], #[], 0, _, setTR_fresh hI, Got.zero ks⟩ fun t3 L es ep u hm hR hG hkp => ?_
      obtain ⟨h3, g3, d3, k3, o3⟩ := t3
      obtain rfl : g3 = s.gens := hm.gens
      obtain rfl : d3 = s.drawn := hm.drawn
      obtain rfl : o3 = s.os := hm.os
      exact wpAny_pure (show wpAny _ _ (ret Value.none) _ _ _ from wpAny_pure ⟨rfl, h3, k3, L, es, ep, u, rfl, hR, hz ▸ hG, hkp⟩)
    · rcases r2 with e | fl2
      · exact hr2
      rcases fl2 with ⟨⟩ | v2
      any_goals exact hr2.elim
      obtain ⟨rfl, h3, k3, L, es, ep, u, rfl, hR, hG, hkp⟩ := hr2
      repeat (any_goals (first | assumption | wp_step))
      exact h _ _ _ _ _ _ hR hG hkp)⟩))
end
def ttI : List D → Option (List (List Int))
  | [] => some []
  | .tuple ds :: r => match intsOf ds, ttI r with
    | some k, some ks => some (k :: ks)
    | _, _ => none
  | _ :: _ => none
def risT (ks : List (List Int)) : Bool := decide (ks.length < 64) && (ks.all (fun k => decide (k.length = max 1 (ks.headD []).length) && k.all fun m => decide (0 ≤ m ∧ m < 1000000)) && decide ((ks.map (TS.code 1000000)).Pairwise (· < ·)))
def srT : List D → Option C
  | [.tuple ds] => match ttI ds with
    | some ks => if risT ks = true then some (.ls ds) else none
    | none => none
  | _ => none
structure RisT (ks : List (List Int)) : Prop where
  l : ks.length < 64
  d : ∀ k ∈ ks, k.length = max 1 (ks.headD []).length ∧ TS.Bd 1000000 k
  s : ks.Pairwise fun j k => TS.code 1000000 j < TS.code 1000000 k
theorem RisT.of {ks : List (List Int)} (h : risT ks = true) : RisT ks := by
  unfold risT at h
  rw [Bool.and_eq_true, Bool.and_eq_true, decide_eq_true_eq, decide_eq_true_eq, List.all_eq_true, List.pairwise_map] at h
  refine ⟨h.1, fun k hk => ?_, h.2.2⟩
  have := h.2.1 k hk
  rw [Bool.and_eq_true, decide_eq_true_eq, List.all_eq_true] at this
  exact ⟨this.1, fun m hm => by simpa using this.2 m hm⟩
theorem RisT.inj {ks : List (List Int)} (h : RisT ks) {j k : List Int} (hj : j ∈ ks) (hk : k ∈ ks) (e : TS.code 1000000 j = TS.code 1000000 k) : j = k := by
  obtain ⟨a, ha, rfl⟩ := List.getElem_of_mem hj
  obtain ⟨b, hb, rfl⟩ := List.getElem_of_mem hk
  have q := List.pairwise_iff_getElem.mp h.s
  rcases Nat.lt_trichotomy a b with c | c | c
  · have := q a b ha hb c
    omega
  · subst c
    rfl
  · have := q b a hb ha c
    omega
theorem RisT.nd {ks : List (List Int)} (h : RisT ks) : ks.Nodup := h.s.imp fun hlt e => by rw [e] at hlt; exact absurd hlt (Int.lt_irrefl _)
theorem ris_same {ks ls : List (List Int)} (h : RisT ks) (nd : ls.Nodup) (m : ∀ k, k ∈ ls ↔ k ∈ ks) (s : ls.Pairwise fun j k => TS.code 1000000 j ≤ TS.code 1000000 k) : ls = ks := by
  refine ((List.perm_ext_iff_of_nodup nd h.nd).mpr m).eq_of_pairwise (le := fun j k => TS.code 1000000 j ≤ TS.code 1000000 k) (fun a b ha hb h1 h2 => ?_) s (h.s.imp fun h => Int.le_of_lt h)
  exact h.inj ((m a).mp ha) hb (by omega)
def ksD (k : List Int) : D := .tuple (k.map PyData.int)
def rSR (K : PySem.W.Frag) : List V → Hp → VK → Prop := fun vs H Q => ∃ (a : Addr) (ks : List (Addr × List Int)), vs = [V.ref a] ∧ SqT K H a (ks.map fun p => V.ref p.1) ∧ (∀ p ∈ ks, SqT K H p.1 (p.2.map V.int)) ∧ RisT (ks.map (·.2)) ∧
  ∀ (L : List (Addr × List Int)) (p : Addr), L.map (·.2) = ks.map (·.2) → (∀ q ∈ L, q ∈ ks) → H p = none → Q (.ref p) (upd H p (.lst (L.map fun q => V.ref q.1)))
theorem ints_ds : ∀ {es : List D} {k : List Int}, intsOf es = some k → es = k.map PyData.int
  | [], k, e => by
    cases e
    rfl
  | d :: es, k, e => by
    cases d with
    | int i =>
      simp only [intsOf, Option.map_eq_some_iff] at e
      obtain ⟨r, h, rfl⟩ := e
      rw [ints_ds h, List.map_cons]
    | _ => simp [intsOf] at e
theorem tt_reps {K : PySem.W.Frag} {F H : Hp} (s : Same F H) : ∀ {ds : List D} {vs : List V} {js : List (List Int)}, Reps K F vs ds → ttI ds = some js →
    ∃ ks : List (Addr × List Int), vs = (ks.map fun p => V.ref p.1) ∧ ks.map (·.2) = js ∧ ds = js.map ksD ∧ ∀ p ∈ ks, SqT K H p.1 (p.2.map V.int) ∧ Rep K F (.ref p.1) (ksD p.2)
  | [], vs, js, h, e => by
    cases (show vs = [] from h)
    cases e
    exact ⟨[], rfl, rfl, rfl, fun p hp => by cases hp⟩
  | d :: ds, vs, js, h, e => by
    obtain ⟨v, r, rfl, h1, h2⟩ := h
    cases d with
    | tuple es =>
      unfold ttI at e
      cases e1 : intsOf es with
      | none => simp [e1] at e
      | some k =>
        cases e2 : ttI ds with
        | none => simp [e1, e2] at e
        | some js2 =>
          simp [e1, e2] at e
          subst e
          obtain ⟨ks, rfl, q1, rfl, q2⟩ := tt_reps s h2 e2
          have e3 : es = k.map PyData.int := ints_ds e1
          subst e3
          obtain ⟨a, vs, rfl, h3, h4⟩ := h1
          have e4 := ints_reps h4 e1
          subst e4
          refine ⟨(a, k) :: ks, rfl, by rw [List.map_cons, q1], by rw [List.map_cons]; rfl, fun p hp => ?_⟩
          rcases List.mem_cons.mp hp with rfl | hp
          · exact ⟨(h3.mono s).sq, a, _, rfl, h3, h4⟩
          · exact q2 p hp
    | _ => simp [ttI] at e
theorem reps_ks {K : PySem.W.Frag} {F : Hp} : ∀ {L : List (Addr × List Int)}, (∀ p ∈ L, Rep K F (.ref p.1) (ksD p.2)) → Reps K F (L.map fun q => V.ref q.1) ((L.map (·.2)).map ksD)
  | [], _ => rfl
  | p :: L, h => ⟨_, _, rfl, h p List.mem_cons_self, reps_ks fun q hq => h q (List.mem_cons_of_mem _ hq)⟩
theorem srT_b {K : PySem.W.Frag} : FnB K srT (rSR K) := by
  intro F H vs ds c Q s hr he q
  match ds, he, hr with
  | [.tuple ds], he, hr =>
    unfold srT at he
    cases e1 : ttI ds with
    | none => simp [e1] at he
    | some js =>
      simp only [e1] at he
      split at he
      · rename_i hs
        cases he
        obtain ⟨x, rfl, h1⟩ := hr.one
        obtain ⟨a, vs, rfl, _, g1, g2⟩ := rb_tup s h1
        obtain ⟨ks, rfl, rfl, rfl, q2⟩ := tt_reps s g2 e1
        refine ⟨a, ks, rfl, g1, fun p hp => (q2 p hp).1, RisT.of hs, fun L p e hL => ?_⟩
        rw [← e] at q
        exact g_lst s (reps_ks fun p hp => (q2 p (hL p hp)).2) q p
      · cases he
section
variable {X : Cx} {a : Expr} {m : AM} {p p2 q pos : Pos}
theorem x_sr (hr : Rm k X.A) (hm : X.mg "sorted" = none) (hg : Gl X "sorted") (hm2 : X.mg "set" = none) (hg2 : Gl X "set") (hc : X.calm = true) (ha : PA X [a] (tA X.E m))
    (na : starEach [a] X.env = (false, eval a X.env) :: starEach [] X.env := by rfl)
    (nb : starEach [Expr.Call (.Name "set" p2) [a] [] q] X.env = (false, eval (Expr.Call (.Name "set" p2) [a] [] q) X.env) :: starEach [] X.env := by rfl) :
    PE X (.Call (.Name "sorted" p) [.Call (.Name "set" p2) [a] [] q] [] pos) (tE X.E (mOp srT m)) := by
  refine PE.weak (t := fun σ H Q => tA X.E m σ H fun vs H' => rSR X.K vs H' Q) ⟨fun pins s σ H Q I h => ?_⟩ fun _ _ _ h => op_sem srT_b h
  refine wpAny_Call_Name_kw (ld_blt I hg hm boot_sorted1 ?_ (by decide) (by decide))
  refine PyProof.Rows.callWith_builtin1 (PyProof.Rows.args_cons ?_ nb) nb rfl
  refine wpAny_Call_Name_kw (ld_blt I hg2 hm2 boot_set ?_ (by decide) (by decide))
  refine PyProof.Rows.callWith_type1 (thn (ha.run q pins s σ H _ I h) fun us s1 ⟨vs, H1, I1, r1, q1⟩ => ?_) na rfl
  obtain ⟨l, ks, rfl, hq, hk, hs, q1⟩ := q1
  rw [Vals.ref1 r1]
  obtain ⟨its, rv, pl, hz⟩ := I1.tuple hq
  have h64 := hs.l
  rw [List.length_map] at h64
  refine call_set_tupT (P := X.prog) (w := X.w) ks (I1.ok.hd hc) pl (by simpa using refs_of_vals rv) (fun p hp => I1.isT (hk p hp)) h64 (by have := hr.un; omega) fun h' tk L es ep t R g hkp => PyProof.Rows.args_nil ?_
  have I2 : Inv X pins σ H1 { s1 with heap := h', toks := tk } := I1.kept fun b o e => hkp b o e
  have R2 : SetTR X.prog X.w (Shared.heap { s1 with heap := h', toks := tk }) s1.heap.objs.size L es ep t := R
  generalize ({ s1 with heap := h', toks := tk } : Shared) = s2 at I2 R2 ⊢
  have sub : ∀ p ∈ L, p ∈ ks := fun p hp => List.mem_of_mem_take (g.sub p hp)
  refine sorted_setT R2 (I1.ok.hd hc) (d := max 1 ((ks.map (·.2)).headD []).length) (B := 1000000) (by omega) (fun p hp => hs.d p.2 (List.mem_map_of_mem (sub p hp))) fun s' p out c L' k2 g2 o2 hp hg2 hout pm pw => ?_
  have e1 : L'.map (·.2) = ks.map (·.2) := by
    refine ris_same hs ((pm.map (·.2)).nodup_iff.mpr R2.nd) (fun k => ?_) (List.pairwise_map.mpr pw)
    rw [(pm.map (·.2)).mem_iff]
    constructor
    · intro hk
      obtain ⟨p, hp, rfl⟩ := List.mem_map.mp hk
      exact List.mem_map_of_mem (sub p hp)
    · intro hk
      obtain ⟨p, hp, rfl⟩ := List.mem_map.mp hk
      exact g.all p (by rw [List.take_length]; exact hp)
  have hlen : (L'.map fun q => V.ref q.1).length ≤ sizeLine := by
    have := congrArg List.length e1
    rw [List.length_map, List.length_map] at this
    rw [List.length_map, sizeLine_eq]
    omega
  have hn : H1 p = none := I2.hok.fresh hp
  have hv : Vals (L'.map fun q => V.ref q.1) out.toList := by rw [hout]; exact vals_of_refs L'
  have J : Inv X pins σ (upd H1 p (.lst (L'.map fun q => V.ref q.1))) { s2 with heap := s'.heap, gens := s'.gens, drawn := s'.drawn, toks := s'.toks } :=
    I2.call (ch := []) (Un.laid k2 hp hn) (I2.hok.laid k2 hp ⟨hlen, out.toList, c, hv, hg2⟩) (by rw [g2]; exact I2.bare) (fun _ z => nomatch z)
  have e : s' = { s2 with heap := s'.heap, gens := s'.gens, drawn := s'.drawn, toks := s'.toks } := by
    cases s'
    cases o2
    rfl
  rw [e]
  exact ⟨.ref p, _, J, rfl, q1 L' p e1 (fun q hq => sub q (pm.mem_iff.mp hq)) hn⟩
end
end L2.M
namespace KW
open PySem PySem.Spec PyProof.Rows L2 L2.M
theorem at_nn {α : Type} {xs : List α} {i : Int} (h : 0 ≤ i) : atI xs i = xs[i.toNat]? := by
  unfold atI ixN
  rw [if_pos h]
  by_cases k : i.toNat < xs.length
  · rw [if_pos (by omega)]; rfl
  · rw [if_neg (by omega)]
    rw [List.getElem?_eq_none (by omega)]
    rfl
theorem at_lit {α : Type} {xs : List α} {n : Nat} : atI xs (no_index (OfNat.ofNat n) : Int) = xs[n]? := at_nn (Int.natCast_nonneg n)
theorem at_nat {α : Type} {xs : List α} {n : Nat} : atI xs (n : Int) = xs[n]? := at_nn (Int.natCast_nonneg n)
theorem at_neg {α : Type} {xs : List α} {n : Nat} (h : 0 < n) : atI xs (-(n : Int)) = if n ≤ xs.length then xs[xs.length - n]? else none := by
  unfold atI ixN
  rw [if_neg (by omega)]
  by_cases k : n ≤ xs.length
  · rw [if_pos (by omega), if_pos k]
    have : (-(n : Int) + (xs.length : Int)).toNat = xs.length - n := by omega
    simp [this]
  · rw [if_neg (by omega), if_neg k]
    rfl
theorem at_m1 {α : Type} {xs : List α} : atI xs (-1) = xs.getLast? := by
  have := at_neg (xs := xs) (n := 1) (by decide)
  rw [show (-1 : Int) = -((1 : Nat) : Int) by rfl, this]
  cases xs with
  | nil => rfl
  | cons x xs => simp [List.getLast?_eq_getElem?]
theorem at_m2 {α : Type} {xs : List α} : atI xs (-2) = if 2 ≤ xs.length then xs[xs.length - 2]? else none := by
  rw [show (-2 : Int) = -((2 : Nat) : Int) by rfl, at_neg (by decide)]
theorem bq_int (i j : Int) : (i == j) = decide (i = j) := by
  by_cases h : i = j <;> simp [h]
theorem bq_str (i j : Str) : (i == j) = decide (i = j) := by
  by_cases h : i = j <;> simp [h]
theorem ofs_inj (a b : String) : (Str.ofString a = Str.ofString b) = (a = b) := by
  apply propext
  constructor
  · intro h
    rw [Str.ofString_eq_toList, Str.ofString_eq_toList] at h
    have h1 : (a.toList.map Char.toNat).toArray = (b.toList.map Char.toNat).toArray := congrArg Str.cps h
    have h2 : a.toList.map Char.toNat = b.toList.map Char.toNat := by simpa using h1
    have h3 : a.toList = b.toList := List.map_inj_right (fun x y h => Char.toNat_inj.mp h) |>.mp h2
    exact String.toList_inj.mp h3
  · rintro rfl
    rfl
theorem ee_ii (i j : Int) : PyData.eqv (.int i) (.int j) = decide (i = j) := by simp only [PyData.eqv]; exact bq_int i j
theorem ee_ss (i j : Str) : PyData.eqv (.str i) (.str j) = decide (i = j) := by simp only [PyData.eqv]; exact bq_str i j
theorem ee_bb (i j : Bool) : PyData.eqv (.bool i) (.bool j) = decide (i = j) := by cases i <;> cases j <;> rfl
theorem ee_nn : PyData.eqv .none .none = true := rfl
theorem ee_is (i : Int) (j : Str) : PyData.eqv (.int i) (.str j) = false := rfl
theorem ee_si (i : Int) (j : Str) : PyData.eqv (.str j) (.int i) = false := rfl
theorem ee_in (i : Int) : PyData.eqv (.int i) .none = false := rfl
theorem ee_ni (i : Int) : PyData.eqv .none (.int i) = false := rfl
theorem ee_tt (xs ys : List PyData) : PyData.eqv (.tuple xs) (.tuple ys) = PyData.eqvAll xs ys := by simp only [PyData.eqv]
theorem ee_ll (xs ys : List PyData) : PyData.eqv (.list xs) (.list ys) = PyData.eqvAll xs ys := by simp only [PyData.eqv]
theorem ee_0 : PyData.eqvAll [] [] = true := rfl
theorem ee_1 (x y : PyData) (xs ys : List PyData) : PyData.eqvAll (x :: xs) (y :: ys) = (PyData.eqv x y && PyData.eqvAll xs ys) := by simp only [PyData.eqvAll]
theorem ee_2 (x : PyData) (xs : List PyData) : PyData.eqvAll (x :: xs) [] = false := rfl
theorem ee_3 (x : PyData) (xs : List PyData) : PyData.eqvAll [] (x :: xs) = false := rfl
theorem ee_maps (xs ys : List Int) : PyData.eqvAll (xs.map .int) (ys.map .int) = decide (xs = ys) := by
  induction xs generalizing ys with
  | nil => cases ys <;> simp [ee_0, ee_3]
  | cons x xs ih => cases ys <;> simp [ee_1, ee_2, ih, ee_ii]
/-- a fact kept out of a simplifier's way -/
structure Hid (p : Prop) : Prop where
  get : p
structure Pn where
  l : Int
  b : Int
  s : Int
def penL (p : Pn) : List PyData := [.int p.l, .int p.b, .int p.s]
def nxt (s : Int) : Int := ((s + 7919) % 2147483647 * ((s + 7919) % 2147483647) + 48271 * ((s + 7919) % 2147483647) + 12345) % 2147483629
def pnOf (x : Int) : Pn := ⟨if 0 - x > x then 0 - x else x, if (10 : Int) ^ 18 ≤ (if 0 - x > x then 0 - x else x) then 1 else 0, (if 0 - x > x then 0 - x else x) % 1000003⟩
def dr (p : Pn) (n : Int) : Int := if p.b = 1 ∧ 0 < p.l then p.l % n else nxt (nxt p.s + 7) / 64 % n
def dn (p : Pn) (n : Int) : Pn := if p.b = 1 ∧ 0 < p.l then ⟨p.l / n, p.b, p.s⟩ else ⟨p.l, p.b, nxt (nxt p.s + 7)⟩
theorem dr_nn {p : Pn} {n : Int} (h : 0 < n) : 0 ≤ dr p n := by
  unfold dr
  split <;> exact Int.emod_nonneg _ (by omega)
theorem dr_lt {p : Pn} {n : Int} (h : 0 < n) : dr p n < n := by
  unfold dr
  split <;> exact Int.emod_lt_of_pos _ h
theorem dr_a2 (p : Pn) (n : Int) : 0 < n → 0 ≤ dr p n ∧ dr p n < n := fun h => ⟨dr_nn h, dr_lt h⟩
grind_pattern dr_a2 => dr p n
/-- the item of a list of whole numbers -/
def gt (xs : List Int) (i : Int) : Int := xs.getD i.toNat 0
theorem gt_mem {xs : List Int} {i : Int} (h0 : 0 ≤ i) (h1 : i < xs.length) : gt xs i ∈ xs := by
  unfold gt
  rw [List.getD_eq_getElem?_getD, List.getElem?_eq_getElem (by omega)]
  simp
theorem pk {xs : List Int} {ds : List PyData} {i : Int} (e : ds = xs.map PyData.int) (h0 : 0 ≤ i) (h1 : i < xs.length) : atI ds i = some (.int (gt xs i)) := by
  subst e
  have : i.toNat < xs.length := by omega
  rw [at_nn h0]
  simp [gt, this]
theorem pk3 {a b c i : Int} (h0 : 0 ≤ i) (h1 : i < 3) : atI ([.int a, .int b, .int c] : List PyData) i = some (.int (gt [a, b, c] i)) := pk rfl h0 h1
theorem pk4 {a b c d i : Int} (h0 : 0 ≤ i) (h1 : i < 4) : atI ([.int a, .int b, .int c, .int d] : List PyData) i = some (.int (gt [a, b, c, d] i)) := pk rfl h0 h1
theorem pk5 {a b c d e i : Int} (h0 : 0 ≤ i) (h1 : i < 5) : atI ([.int a, .int b, .int c, .int d, .int e] : List PyData) i = some (.int (gt [a, b, c, d, e] i)) := pk rfl h0 h1
theorem pkd3 {a b c : Int} {p : Pn} : atI ([.int a, .int b, .int c] : List PyData) (dr p 3) = some (.int (gt [a, b, c] (dr p 3))) := pk3 (dr_nn (by decide)) (dr_lt (by decide))
theorem pkd4 {a b c d : Int} {p : Pn} : atI ([.int a, .int b, .int c, .int d] : List PyData) (dr p 4) = some (.int (gt [a, b, c, d] (dr p 4))) := pk4 (dr_nn (by decide)) (dr_lt (by decide))
theorem pkd5 {a b c d e : Int} {p : Pn} : atI ([.int a, .int b, .int c, .int d, .int e] : List PyData) (dr p 5) = some (.int (gt [a, b, c, d, e] (dr p 5))) := pk5 (dr_nn (by decide)) (dr_lt (by decide))
theorem gd3 {a b c : Int} {p : Pn} {P : Int → Prop} (H : P a ∧ P b ∧ P c) : P (gt [a, b, c] (dr p 3)) := by
  have m := gt_mem (xs := [a, b, c]) (i := dr p 3) (dr_nn (by decide)) (dr_lt (by decide))
  simp only [List.mem_cons, List.not_mem_nil, or_false] at m
  obtain ⟨h0, h1, h2⟩ := H
  rcases m with e | e | e <;> (rw [e]; assumption)
theorem gd4 {a b c d : Int} {p : Pn} {P : Int → Prop} (H : P a ∧ P b ∧ P c ∧ P d) : P (gt [a, b, c, d] (dr p 4)) := by
  have m := gt_mem (xs := [a, b, c, d]) (i := dr p 4) (dr_nn (by decide)) (dr_lt (by decide))
  simp only [List.mem_cons, List.not_mem_nil, or_false] at m
  obtain ⟨h0, h1, h2, h3⟩ := H
  rcases m with e | e | e | e <;> (rw [e]; assumption)
theorem gd5 {a b c d e : Int} {p : Pn} {P : Int → Prop} (H : P a ∧ P b ∧ P c ∧ P d ∧ P e) : P (gt [a, b, c, d, e] (dr p 5)) := by
  have m := gt_mem (xs := [a, b, c, d, e]) (i := dr p 5) (dr_nn (by decide)) (dr_lt (by decide))
  simp only [List.mem_cons, List.not_mem_nil, or_false] at m
  obtain ⟨h0, h1, h2, h3, h4⟩ := H
  rcases m with e | e | e | e | e <;> (rw [e]; assumption)
def Wx (x : Option (Fl × Cs)) (Q : Fl → Cs → Prop) : Prop := ∃ f ε, x = some (f, ε) ∧ Q f ε
def Rt (x : Option (C × List C)) (P : C → List C → Prop) : Prop := ∃ c cs, x = some (c, cs) ∧ P c cs
def endQ (io : List Bool) (cs : List C) (P : C → List C → Prop) : Fl → Cs → Prop
  | .rt c, ε => P c (after io cs ε)
  | .nx, ε => P (.sh .none) (after io cs ε)
  | _, _ => False
theorem rt_eq {x : Option (C × List C)} {c : C} {cs : List C} (h : Rt x fun c' cs' => c' = c ∧ cs' = cs) : x = some (c, cs) := by
  obtain ⟨_, _, e, rfl, rfl⟩ := h
  exact e
theorem wx_nx {m n : XM} {ε ε1 : Cs} {Q : Fl → Cs → Prop} (h : m ε = some (.nx, ε1)) (h2 : Wx (n ε1) Q) : Wx (mSeq m n ε) Q := by
  unfold mSeq
  rw [h]
  exact h2
theorem wx_rt {m n : XM} {ε ε1 : Cs} {c : C} {Q : Fl → Cs → Prop} (h : m ε = some (.rt c, ε1)) (h2 : Q (.rt c) ε1) : Wx (mSeq m n ε) Q := by
  unfold mSeq
  rw [h]
  exact ⟨_, _, rfl, h2⟩
theorem wx_seq {m n : XM} {ε : Cs} {Q : Fl → Cs → Prop} (h : Wx (m ε) fun f ε1 => match f with | .nx => Wx (n ε1) Q | f => Q f ε1) : Wx (mSeq m n ε) Q := by
  obtain ⟨f, ε1, e, q⟩ := h
  unfold mSeq
  rw [e]
  cases f with
  | nx => exact q
  | bk => exact ⟨_, _, rfl, q⟩
  | ct => exact ⟨_, _, rfl, q⟩
  | rt c => exact ⟨_, _, rfl, q⟩
  | xc x => exact ⟨_, _, rfl, q⟩
theorem wx_skip {ε : Cs} {Q : Fl → Cs → Prop} (h : Q .nx ε) : Wx (mSkip ε) Q := ⟨_, _, rfl, h⟩
theorem rt_sem {io : List Bool} {ns : Nat} {m : XM} {cs : List C} {P : C → List C → Prop} (hs : shared io cs = true) (h : Wx (m (cs ++ List.replicate (ns - cs.length) .no)) (endQ io cs P)) : Rt (semF io ns m cs) P := by
  obtain ⟨f, ε, e, q⟩ := h
  unfold semF
  rw [if_pos hs, e]
  cases f with
  | nx => exact ⟨_, _, rfl, q⟩
  | bk => exact q.elim
  | ct => exact q.elim
  | rt c => exact ⟨_, _, rfl, q⟩
  | xc x => exact q.elim
/-- a loop, by what holds ahead of each round -/
theorem wx_for {io : List Nat} {src : SM} {bind : BM} {body : XM} {ε ε1 : Cs} {ds : List PyData} {ws : List Nat} {Q : Fl → Cs → Prop} (J : Nat → Cs → Prop) (hs : src ε = some ((ds, ws), ε1)) (hw : ws.all (fun i => io.contains i) = true)
    (h0 : J 0 ε1) (hJ : ∀ i ε2, J i ε2 → sameC ws ε1 ε2) (hstep : ∀ i d ε2, ds[i]? = some d → J i ε2 → ∃ ε3, bind d ε2 = some ε3 ∧ Wx (body ε3) fun f ε4 => match f with
      | .nx => J (i + 1) ε4
      | .ct => J (i + 1) ε4
      | .bk => Q .nx ε4
      | .rt c => Q (.rt c) ε4
      | .xc x => Q (.xc x) ε4) (hend : ∀ ε2, J ds.length ε2 → Q .nx ε2) : Wx (mFor io src bind body ε) Q := by
  unfold mFor
  simp only [hs, Option.bind_eq_bind, Option.bind_some, hw, if_true]
  have main : ∀ (l : List PyData) (i : Nat) (ε2 : Cs), ds.drop i = l → i ≤ ds.length → J i ε2 → Wx (forL ws ε1 bind body l ε2) Q := by
    intro l
    induction l with
    | nil =>
      intro i ε2 hl hi hj
      unfold forL
      rw [if_pos (hJ i ε2 hj)]
      have : i = ds.length := by
        have := List.drop_eq_nil_iff.mp hl
        omega
      subst this
      exact ⟨_, _, rfl, hend _ hj⟩
    | cons d l ih =>
      intro i ε2 hl hi hj
      unfold forL
      rw [if_pos (hJ i ε2 hj)]
      have hd : ds[i]? = some d := by
        have := congrArg (fun x => x[0]?) hl
        simpa using this
      obtain ⟨ε3, e3, f, ε4, e4, q⟩ := hstep i d ε2 hd hj
      have hi' : i + 1 ≤ ds.length := (List.getElem?_eq_some_iff.mp hd).1
      have hl' : ds.drop (i + 1) = l := by
        rw [← List.drop_drop, hl]
        rfl
      simp only [e3, e4, Option.bind_eq_bind, Option.bind_some]
      cases f with
      | nx => exact ih (i + 1) ε4 hl' hi' q
      | ct => exact ih (i + 1) ε4 hl' hi' q
      | bk => exact ⟨_, _, rfl, q⟩
      | rt c => exact ⟨_, _, rfl, q⟩
      | xc x => exact ⟨_, _, rfl, q⟩
  exact main ds 0 ε1 rfl (Nat.zero_le _) h0
/-- a loop whose source is no locked list: each item is known by its membership -/
theorem wx_each {io : List Nat} {src : SM} {bind : BM} {body : XM} {ε ε1 : Cs} {ds : List PyData} {Q : Fl → Cs → Prop} (J : Cs → Prop) (hs : src ε = some ((ds, []), ε1))
    (h0 : J ε1) (hstep : ∀ d ε2, d ∈ ds → J ε2 → ∃ ε3, bind d ε2 = some ε3 ∧ Wx (body ε3) fun f ε4 => match f with
      | .nx => J ε4
      | .ct => J ε4
      | .bk => Q .nx ε4
      | .rt c => Q (.rt c) ε4
      | .xc x => Q (.xc x) ε4) (hend : ∀ ε2, J ε2 → Q .nx ε2) : Wx (mFor io src bind body ε) Q :=
  wx_for (fun _ => J) hs rfl h0 (fun i ε hj j hj2 => by cases hj2) (fun i d ε2 hd hj => hstep d ε2 (List.mem_of_getElem? hd) hj) hend
/-- while, by a measure -/
theorem wx_while {t : TM} {b : XM} {ε : Cs} {Q : Fl → Cs → Prop} (J : Nat → Cs → Prop) (n : Nat) (h0 : J n ε)
    (hstep : ∀ n ε2, J n ε2 → ∃ k ε3, t ε2 = some (k, ε3) ∧ (k = false → Q .nx ε3) ∧ (k = true → Wx (b ε3) fun f ε4 => match f with
      | .nx => ∃ n', n' < n ∧ J n' ε4
      | .ct => ∃ n', n' < n ∧ J n' ε4
      | .bk => Q .nx ε4
      | .rt c => Q (.rt c) ε4
      | .xc x => Q (.xc x) ε4)) : Wx (mWhile t b ε) Q := by
  have main : ∀ (n : Nat) (ε : Cs), J n ε → ∃ m r, whileN t b m ε = some r ∧ Q r.1 r.2 := by
    intro n
    induction n using Nat.strongRecOn with
    | ind n ih =>
      intro ε hj
      obtain ⟨k, ε3, e3, hf, ht⟩ := hstep n ε hj
      cases k with
      | false => exact ⟨1, (.nx, ε3), by simp [whileN, e3], hf rfl⟩
      | true =>
        obtain ⟨f, ε4, e4, q⟩ := ht rfl
        cases f with
        | nx =>
          obtain ⟨n', hn, hj'⟩ := q
          obtain ⟨m, r, e5, q5⟩ := ih n' hn ε4 hj'
          exact ⟨m + 1, r, by simp [whileN, e3, e4, e5], q5⟩
        | ct =>
          obtain ⟨n', hn, hj'⟩ := q
          obtain ⟨m, r, e5, q5⟩ := ih n' hn ε4 hj'
          exact ⟨m + 1, r, by simp [whileN, e3, e4, e5], q5⟩
        | bk => exact ⟨1, (.nx, ε4), by simp [whileN, e3, e4], q⟩
        | rt c => exact ⟨1, (.rt c, ε4), by simp [whileN, e3, e4], q⟩
        | xc x => exact ⟨1, (.xc x, ε4), by simp [whileN, e3, e4], q⟩
  obtain ⟨m, r, e, q⟩ := main n ε h0
  exact ⟨r.1, r.2, mWhile_of e, q⟩
/-- a comprehension, by what holds ahead of each item -/
theorem lc_rule {src : SM} {bind : BM} {tests : TM} {elt : EM} {own ws : List Nat} {ε ε1 : Cs} {ds : List PyData} (J : Nat → List PyData → Cs → Prop) (hs : src ε = some ((ds, ws), ε1)) (hw : ws.all (fun i => !own.contains i) = true)
    (h0 : J 0 [] (wipeC ε1 own)) (hJ : ∀ i out ε2, J i out ε2 → sameC ws ε1 ε2) (hn : ds.length ≤ sizeLine)
    (hstep : ∀ i d out ε2, ds[i]? = some d → J i out ε2 → ∃ ε3 b ε4, bind d ε2 = some ε3 ∧ tests ε3 = some (b, ε4) ∧ (b = false → J (i + 1) out (wipeC ε4 own)) ∧
      (b = true → ∃ c e ε5, elt ε4 = some (c, ε5) ∧ cD c = some e ∧ J (i + 1) (out ++ [e]) (wipeC ε5 own))) :
    ∃ out ε2, mLc src bind tests elt own ε = some (.ls out, restC ε2 ε1 own) ∧ J ds.length out ε2 := by
  have main : ∀ (l : List PyData) (i : Nat) (acc : List PyData) (ε2 : Cs), ds.drop i = l → i ≤ ds.length → acc.length ≤ i → J i acc ε2 → ∃ out ε3, lcL ws ε1 bind tests elt own l acc.length ε2 = some (out, ε3) ∧ J ds.length (acc ++ out) ε3 := by
    intro l
    induction l with
    | nil =>
      intro i acc ε2 hl hi ha hj
      have : i = ds.length := by
        have := List.drop_eq_nil_iff.mp hl
        omega
      subst this
      refine ⟨[], ε2, ?_, by simpa using hj⟩
      unfold lcL
      rw [if_pos (hJ _ _ _ hj)]
    | cons d l ih =>
      intro i acc ε2 hl hi ha hj
      have hd : ds[i]? = some d := by
        have := congrArg (fun x => x[0]?) hl
        simpa using this
      have hi' : i + 1 ≤ ds.length := (List.getElem?_eq_some_iff.mp hd).1
      have hl' : ds.drop (i + 1) = l := by
        rw [← List.drop_drop, hl]
        rfl
      obtain ⟨ε3, b, ε4, e3, e4, hf, ht⟩ := hstep i d acc ε2 hd hj
      unfold lcL
      rw [if_pos (hJ _ _ _ hj)]
      cases b with
      | false =>
        obtain ⟨out, ε6, e6, j6⟩ := ih (i + 1) acc _ hl' hi' (by omega) (hf rfl)
        exact ⟨out, ε6, by simp [e3, e4, e6], j6⟩
      | true =>
        obtain ⟨c, e, ε5, e5, ec, j5⟩ := ht rfl
        obtain ⟨out, ε6, e6, j6⟩ := ih (i + 1) (acc ++ [e]) _ hl' hi' (by simp; omega) j5
        refine ⟨e :: out, ε6, ?_, by simpa using j6⟩
        have hlt : acc.length < sizeLine := by omega
        have e6' : lcL ws ε1 bind tests elt own l (acc.length + 1) (wipeC ε5 own) = some (out, ε6) := by simpa using e6
        simp [e3, e4, e5, ec, hlt, e6']
  obtain ⟨out, ε3, e, j⟩ := main ds 0 [] _ rfl (Nat.zero_le _) (Nat.le_refl _) h0
  refine ⟨out, ε3, ?_, by simpa using j⟩
  unfold mLc
  have e' : lcL ws ε1 bind tests elt own ds 0 (wipeC ε1 own) = some (out, ε3) := by simpa using e
  simp only [hs, Option.bind_eq_bind, Option.bind_some, hw, if_true, e']
theorem cut_map {α β : Type} (f : α → β) (xs : List α) (lo hi : Option Int) : L2.M.cutL (xs.map f) lo hi = (L2.M.cutL xs lo hi).map f := by
  unfold L2.M.cutL
  simp [List.map_take, List.map_drop]
theorem cut_from {α : Type} (xs : List α) {i : Int} (h : 0 ≤ i) : L2.M.cutL xs (some i) none = xs.drop i.toNat := by
  unfold L2.M.cutL HT.sIx
  simp only [if_neg (show ¬ i < 0 by omega)]
  by_cases k : i.toNat ≤ xs.length
  · rw [Nat.min_eq_left k, List.take_of_length_le (by simp)]
  · rw [Nat.min_eq_right (by omega)]
    simp only [List.drop_length, List.take_nil]
    rw [List.drop_eq_nil_of_le (by omega)]
theorem cut_len {α : Type} (xs : List α) (lo hi : Option Int) : (L2.M.cutL xs lo hi).length ≤ xs.length := by
  unfold L2.M.cutL
  simp only [List.length_take, List.length_drop]
  omega
@[simp] def whole : PyData → Bool
  | .int _ => true
  | _ => false
def num (d : PyData) (lo hi : Int) : Bool := match d with
  | .int i => decide (lo ≤ i) && decide (i ≤ hi)
  | _ => false
def lay (n : Nat) (d : PyData) : Bool := d.canLay0 && decide (d.depth ≤ n)
theorem shaped_lay (d : PyData) : SeqAt.shaped d = lay 64 d := rfl
theorem lay_int (n : Nat) (i : Int) : lay n (.int i) = true := by simp [lay, PyData.canLay0, PyData.depth]
theorem lay_bool (n : Nat) (i : Bool) : lay n (.bool i) = true := by simp [lay, PyData.canLay0, PyData.depth]
theorem lay_none (n : Nat) : lay n .none = true := by simp [lay, PyData.canLay0, PyData.depth]
theorem lay_str (n : Nat) (s : Str) : lay n (.str s) = PyData.strOk s := by simp [lay, PyData.canLay0, PyData.depth]
theorem lay_dict (n : Nat) (s : List (PyData × PyData)) : lay n (.dict s) = false := by simp [lay, PyData.canLay0]
theorem lay_all (n : Nat) : ∀ ds : List PyData, (PyData.canLayAll0 ds && decide (PyData.depthAll ds ≤ n)) = ds.all (lay n)
  | [] => by simp [PyData.canLayAll0, PyData.depthAll]
  | d :: ds => by
    have ih := lay_all n ds
    simp only [PyData.canLayAll0, PyData.depthAll, List.all_cons, ← ih, lay]
    by_cases h1 : d.canLay0 = true <;> by_cases h2 : PyData.canLayAll0 ds = true <;> by_cases h3 : d.depth ≤ n <;> by_cases h4 : PyData.depthAll ds ≤ n <;> simp [h1, h2, h3, h4, Nat.max_le]
theorem lay_tup {n : Nat} (ds : List PyData) (h : 0 < n) : lay n (.tuple ds) = ds.all (lay (n - 1)) := by
  rw [← lay_all]
  simp only [lay, PyData.canLay0, PyData.depth]
  have : (PyData.depthAll ds + 1 ≤ n) = (PyData.depthAll ds ≤ n - 1) := by
    apply propext
    omega
  simp only [this]
theorem lay_list {n : Nat} (ds : List PyData) (h : 0 < n) : lay n (.list ds) = ds.all (lay (n - 1)) := by
  rw [← lay_all]
  simp only [lay, PyData.canLay0, PyData.depth]
  have : (PyData.depthAll ds + 1 ≤ n) = (PyData.depthAll ds ≤ n - 1) := by
    apply propext
    omega
  simp only [this]
theorem lay_ints (n : Nat) (ns : List Int) : (ns.map PyData.int).all (lay n) = true := by
  simp [List.all_map, lay_int]
theorem lay_mono {n m : Nat} {d : PyData} (h : n ≤ m) (l : lay n d = true) : lay m d = true := by
  simp only [lay, Bool.and_eq_true, decide_eq_true_eq] at l ⊢
  exact ⟨l.1, Nat.le_trans l.2 h⟩
end KW
namespace KW
open PySem PySem.Spec PyProof.Rows L2 L2.M
local macro_rules | `(tactic| walk_at "ev") => `(tactic| simp [semF, shared, after, mSeq, mSkip, mIf, mRet, mRetN, mRetV, mSet, mSetIx, mExpr, mB, mU, mTm, mPl, mK, mVar, mOp, mCons, mNil, bor, bors, mTst, mAndT, mOrT, mNotT, mAndE, mOrE, mNotE, mIfE, mIsi, isiD, mChn, chnL, cmpD, binD, addD, subD, mulD, modD, fdivD, powD, eqD, neD, ltD, leD, gtD, geD, isD, isnD, L2.M.isNon, negD, ixD, Bf.f, Bg.f, lenD, L2.M.intD, maxD, minD, repD, strD, gmaxD, gminD, sumD, sortD, anyD, allD, mCall, frz, fzO, lend, wb, mTup, mLst, fzs, cD, mAsg, bTup, bTps, mApp, tupD, lstD, mRev, revD, ofs_inj, ee_ii, ee_ss, ee_bb, ee_nn, ee_is, ee_si, ee_in, ee_ni, ee_tt, ee_ll, ee_maps, ee_0, ee_1, ee_2, ee_3, at_lit, at_nat, at_m1, at_m2, scD, emD, sizeLine_eq, ixN, sm_lit, mSrc, itemsD, plOf, rng1D, bNm, mSl, mPt, mNoP, slD, mPar, keepT, tmsO, setA, mFlow, zipX, enumX, itemsX, intsOf, ints_all, boolsOf, shaped_lay, lay_int, lay_bool, lay_none, lay_dict, lay_tup, lay_list, lay_ints, sortX_ints, mPlF, mPlI, mRd, mPU, mPB, mFSet, mFNew, mNSet, mPApp, mPSetIx, mPPop, mMeth, mNew, isIns, cellO, mLstN, mAddN, mAppN, semX, mTold, mCallX, xRet, xExpr, xSet, mRaise, mM, isL, isS, mOrV, truD])
local macro_rules | `(tactic| walk_at "es") => `(tactic| simp [semF, shared, after, mSeq, mSkip, mIf, mRet, mRetN, mRetV, mSet, mSetIx, mExpr, mB, mU, mTm, mPl, mK, mVar, mOp, mCons, mNil, bor, bors, mTst, mAndT, mOrT, mNotT, mAndE, mOrE, mNotE, mIfE, mIsi, isiD, mChn, chnL, cmpD, binD, addD, subD, mulD, modD, fdivD, powD, eqD, neD, ltD, leD, gtD, geD, isD, isnD, L2.M.isNon, negD, ixD, Bf.f, Bg.f, lenD, L2.M.intD, maxD, minD, repD, strD, gmaxD, gminD, sumD, sortD, anyD, allD, mCall, frz, fzO, lend, wb, mTup, mLst, fzs, cD, mAsg, bTup, bTps, mApp, tupD, lstD, mRev, revD, ofs_inj, ee_ii, ee_ss, ee_bb, ee_nn, ee_is, ee_si, ee_in, ee_ni, ee_tt, ee_ll, ee_maps, ee_0, ee_1, ee_2, ee_3, at_lit, at_nat, at_m1, at_m2, scD, emD, sizeLine_eq, ixN, sm_lit, mSrc, itemsD, plOf, rng1D, bNm, mSl, mPt, mNoP, slD, mPar, keepT, tmsO, setA, mFlow, zipX, enumX, itemsX, intsOf, ints_all, boolsOf, shaped_lay, lay_int, lay_bool, lay_none, lay_dict, lay_tup, lay_list, lay_ints, sortX_ints, mPlF, mPlI, mRd, mPU, mPB, mFSet, mFNew, mNSet, mPApp, mPSetIx, mPPop, mMeth, mNew, isIns, cellO, mLstN, mAddN, mAppN, semX, mTold, mCallX, xRet, xExpr, xSet, mRaise, mM, isL, isS, mOrV, truD, *])
local macro_rules | `(tactic| walk_at "el") => `(tactic| simp [semF, shared, after, mSeq, mSkip, mIf, mRet, mRetN, mRetV, mSet, mSetIx, mExpr, mB, mU, mTm, mPl, mK, mVar, mOp, mCons, mNil, bor, bors, mTst, mAndT, mOrT, mNotT, mAndE, mOrE, mNotE, mIfE, mIsi, isiD, mChn, chnL, cmpD, binD, addD, subD, mulD, modD, fdivD, powD, eqD, neD, ltD, leD, gtD, geD, isD, isnD, L2.M.isNon, negD, ixD, Bf.f, Bg.f, lenD, L2.M.intD, maxD, minD, repD, strD, gmaxD, gminD, sumD, sortD, anyD, allD, mCall, frz, fzO, lend, wb, mTup, mLst, fzs, cD, mAsg, bTup, bTps, mApp, tupD, lstD, mRev, revD, ofs_inj, ee_ii, ee_ss, ee_bb, ee_nn, ee_is, ee_si, ee_in, ee_ni, ee_tt, ee_ll, ee_maps, ee_0, ee_1, ee_2, ee_3, at_lit, at_nat, at_m1, at_m2, scD, emD, sizeLine_eq, ixN, sm_lit, mSrc, itemsD, plOf, rng1D, bNm, mSl, mPt, mNoP, slD, mPar, keepT, tmsO, setA, mFlow, zipX, enumX, itemsX, intsOf, ints_all, boolsOf, shaped_lay, lay_int, lay_bool, lay_none, lay_dict, lay_tup, lay_list, lay_ints, sortX_ints, mPlF, mPlI, mRd, mPU, mPB, mFSet, mFNew, mNSet, mPApp, mPSetIx, mPPop, mMeth, mNew, isIns, cellO, mLstN, mAddN, mAppN, semX, mTold, mCallX, xRet, xExpr, xSet, mRaise, mM, isL, isS, mOrV, truD, mLc, lcL, sameC, wipeC, restC, mYes, *])
local macro_rules | `(tactic| walk_at "ef") => `(tactic| simp [semF, shared, after, mSeq, mSkip, mIf, mRet, mRetN, mRetV, mSet, mSetIx, mExpr, mB, mU, mTm, mPl, mK, mVar, mOp, mCons, mNil, bor, bors, mTst, mAndT, mOrT, mNotT, mAndE, mOrE, mNotE, mIfE, mIsi, isiD, mChn, chnL, cmpD, binD, addD, subD, mulD, modD, fdivD, powD, eqD, neD, ltD, leD, gtD, geD, isD, isnD, L2.M.isNon, negD, ixD, Bf.f, Bg.f, lenD, L2.M.intD, maxD, minD, repD, strD, gmaxD, gminD, sumD, sortD, anyD, allD, mCall, frz, fzO, lend, wb, mTup, mLst, fzs, cD, mAsg, bTup, bTps, mApp, tupD, lstD, mRev, revD, ofs_inj, ee_ii, ee_ss, ee_bb, ee_nn, ee_is, ee_si, ee_in, ee_ni, ee_tt, ee_ll, ee_maps, ee_0, ee_1, ee_2, ee_3, at_lit, at_nat, at_m1, at_m2, scD, emD, sizeLine_eq, ixN, sm_lit, mSrc, itemsD, plOf, rng1D, bNm, mSl, mPt, mNoP, slD, mPar, keepT, tmsO, setA, mFlow, zipX, enumX, itemsX, intsOf, ints_all, boolsOf, shaped_lay, lay_int, lay_bool, lay_none, lay_dict, lay_tup, lay_list, lay_ints, sortX_ints, mPlF, mPlI, mRd, mPU, mPB, mFSet, mFNew, mNSet, mPApp, mPSetIx, mPPop, mMeth, mNew, isIns, cellO, mLstN, mAddN, mAppN, semX, mTold, mCallX, xRet, xExpr, xSet, mRaise, mM, isL, isS, mOrV, truD, mFor, forL, mLc, lcL, sameC, wipeC, restC, mYes, *])
local macro_rules | `(tactic| walk_at "rg") => `(tactic| (and_intros <;> grind))
local macro_rules | `(tactic| walk_at "nx") => `(tactic| (apply wx_nx; focus (walk_at "ev"; try first | exact ⟨rfl, rfl⟩ | rfl)))
local macro_rules | `(tactic| walk_at "ns") => `(tactic| (apply wx_nx; focus (walk_at "es"; try first | exact ⟨rfl, rfl⟩ | rfl)))
local macro_rules | `(tactic| walk_at "rt") => `(tactic| (apply wx_rt; focus (walk_at "ev"; try first | exact ⟨rfl, rfl⟩ | rfl)))
local macro_rules | `(tactic| walk_at "rs") => `(tactic| (apply wx_rt; focus (walk_at "es"; try first | exact ⟨rfl, rfl⟩ | rfl)))
local macro_rules | `(tactic| walk_at "ed") => `(tactic| simp [semF, shared, after, mSeq, mSkip, mIf, mRet, mRetN, mRetV, mSet, mSetIx, mExpr, mB, mU, mTm, mPl, mK, mVar, mOp, mCons, mNil, bor, bors, mTst, mAndT, mOrT, mNotT, mAndE, mOrE, mNotE, mIfE, mIsi, isiD, mChn, chnL, cmpD, binD, addD, subD, mulD, modD, fdivD, powD, eqD, neD, ltD, leD, gtD, geD, isD, isnD, L2.M.isNon, negD, ixD, Bf.f, Bg.f, lenD, L2.M.intD, maxD, minD, repD, strD, gmaxD, gminD, sumD, sortD, anyD, allD, mCall, frz, fzO, lend, wb, mTup, mLst, fzs, cD, mAsg, bTup, bTps, mApp, tupD, lstD, mRev, revD, ofs_inj, ee_ii, ee_ss, ee_bb, ee_nn, ee_is, ee_si, ee_in, ee_ni, ee_tt, ee_ll, ee_maps, ee_0, ee_1, ee_2, ee_3, at_lit, at_nat, at_m1, at_m2, scD, emD, sizeLine_eq, ixN, sm_lit, mSrc, itemsD, plOf, rng1D, bNm, mSl, mPt, mNoP, slD, mPar, keepT, tmsO, setA, mFlow, zipX, enumX, itemsX, intsOf, ints_all, boolsOf, shaped_lay, lay_int, lay_bool, lay_none, lay_dict, lay_tup, lay_list, lay_ints, sortX_ints, mPlF, mPlI, mRd, mPU, mPB, mFSet, mFNew, mNSet, mPApp, mPSetIx, mPPop, mMeth, mNew, isIns, cellO, mLstN, mAddN, mAppN, semX, mTold, mCallX, xRet, xExpr, xSet, mRaise, mM, isL, isS, mOrV, truD, mDNew, mDIn, mDGet, mDLen, mDPut, kyD, mNNew, mN1, mTake, mFnV, mCallF, mNIn, mNGet, mNPut, mNVals, mNList, nKs, mDGetD, mDList, mNNe, *])
/-- gaps as they should be -/
structure Gp (a t m M : Int) : Prop where
  a1 : 1 ≤ a
  a2 : a ≤ 1000
  t1 : 1 ≤ t
  t2 : t ≤ 10
  m1 : 0 ≤ m
  m2 : m ≤ 1000
  M1 : 1 ≤ M
  M2 : M ≤ 1000
/-- the gap behind one -/
def gnx (t m M g : Int) : Int := if t * g + m < M then t * g + m else M
def gs (a t m M : Int) : Nat → Int
  | 0 => if M < a then M else a
  | n + 1 => gnx t m M (gs a t m M n)
section
variable {a t m M : Int}
theorem gs_pos (h : Gp a t m M) : ∀ n, 1 ≤ gs a t m M n
  | 0 => by
    have := h.a1; have := h.M1
    unfold gs
    split <;> omega
  | n + 1 => by
    have ih := gs_pos h n
    have := h.t1; have := h.M1; have := h.m1
    have k : 1 * gs a t m M n ≤ t * gs a t m M n := Int.mul_le_mul_of_nonneg_right (by omega) (by omega)
    unfold gs gnx
    split <;> omega
theorem gs_le (h : Gp a t m M) : ∀ n, gs a t m M n ≤ M
  | 0 => by
    unfold gs
    split <;> omega
  | n + 1 => by
    unfold gs gnx
    split <;> omega
theorem gs_lt (h : Gp a t m M) (n : Nat) : gs a t m M n ≤ 1000 := Int.le_trans (gs_le h n) h.M2
theorem gs_mono (h : Gp a t m M) (n : Nat) : gs a t m M n ≤ gs a t m M (n + 1) := by
  have := gs_pos h n
  have := gs_le h n
  have := h.t1; have := h.M1; have := h.m1
  have k : 1 * gs a t m M n ≤ t * gs a t m M n := Int.mul_le_mul_of_nonneg_right (by omega) (by omega)
  show _ ≤ gnx t m M (gs a t m M n)
  unfold gnx
  split <;> omega
theorem gs_fix {n : Nat} (e : gs a t m M (n + 1) = gs a t m M n) : ∀ k, n ≤ k → gs a t m M k = gs a t m M n := by
  intro k hk
  obtain ⟨j, rfl⟩ := Nat.exists_eq_add_of_le hk
  clear hk
  induction j with
  | zero => rfl
  | succ j ih =>
    show gnx t m M (gs a t m M (n + j)) = _
    rw [ih]
    exact e
theorem gs_strict (h : Gp a t m M) : ∀ n, (∀ j, j < n → gs a t m M (j + 1) ≠ gs a t m M j) → (n : Int) + 1 ≤ gs a t m M n
  | 0, _ => by
    have := gs_pos h 0
    omega
  | n + 1, hn => by
    have ih := gs_strict h n fun j hj => hn j (by omega)
    have := gs_mono h n
    have := hn n (by omega)
    omega
theorem gs_K (h : Gp a t m M) : ∃ K, K ≤ 999 ∧ gs a t m M (K + 1) = gs a t m M K ∧ ∀ j, j < K → gs a t m M (j + 1) ≠ gs a t m M j := by
  have main : ∀ n : Nat, (∃ K, K < n ∧ gs a t m M (K + 1) = gs a t m M K ∧ ∀ j, j < K → gs a t m M (j + 1) ≠ gs a t m M j) ∨ ∀ j, j < n → gs a t m M (j + 1) ≠ gs a t m M j := by
    intro n
    induction n with
    | zero => exact .inr fun j hj => absurd hj (Nat.not_lt_zero _)
    | succ n ih =>
      rcases ih with ⟨K, h1, h2⟩ | ih
      · exact .inl ⟨K, by omega, h2⟩
      · by_cases e : gs a t m M (n + 1) = gs a t m M n
        · exact .inl ⟨n, by omega, e, ih⟩
        · right
          intro j hj
          by_cases ej : j = n
          · subst ej; exact e
          · exact ih j (by omega)
  rcases main 1000 with ⟨K, h1, h2⟩ | hn
  · exact ⟨K, by omega, h2⟩
  · have := gs_strict h 1000 hn
    have := gs_lt h 1000
    omega
open Classical in
/-- the least number from which on all gaps are alike -/
noncomputable def gK (a t m M : Int) : Nat := if h : ∃ K, K ≤ 999 ∧ gs a t m M (K + 1) = gs a t m M K ∧ ∀ j, j < K → gs a t m M (j + 1) ≠ gs a t m M j then h.choose else 0
theorem gK_spec (h : Gp a t m M) : gK a t m M ≤ 999 ∧ gs a t m M (gK a t m M + 1) = gs a t m M (gK a t m M) ∧ ∀ j, j < gK a t m M → gs a t m M (j + 1) ≠ gs a t m M j := by
  unfold gK
  rw [dif_pos (gs_K h)]
  exact (gs_K h).choose_spec
theorem gs_const (h : Gp a t m M) {k : Nat} (hk : gK a t m M ≤ k) : gs a t m M k = gs a t m M (gK a t m M) := gs_fix (gK_spec h).2.1 k hk
/-- the first n gaps -/
def grow (a t m M : Int) (n : Nat) : List Int := (List.range n).map (gs a t m M)
theorem grow_len (n : Nat) : (grow a t m M n).length = n := by simp [grow]
theorem grow_get {n i : Nat} (h : i < n) : (grow a t m M n)[i]? = some (gs a t m M i) := by simp [grow, h]
theorem grow_succ (n : Nat) : grow a t m M (n + 1) = grow a t m M n ++ [gs a t m M n] := by simp [grow, List.range_succ]
theorem grow_last (n : Nat) : (grow a t m M (n + 1)).getLast? = some (gs a t m M n) := by simp [grow_succ]
end
end KW
namespace KW
open PySem PySem.Spec PyProof.Rows L2 L2.M
local macro_rules | `(tactic| walk_at "ev") => `(tactic| simp [semF, shared, after, mSeq, mSkip, mIf, mRet, mRetN, mRetV, mSet, mSetIx, mExpr, mB, mU, mTm, mPl, mK, mVar, mOp, mCons, mNil, bor, bors, mTst, mAndT, mOrT, mNotT, mAndE, mOrE, mNotE, mIfE, mIsi, isiD, mChn, chnL, cmpD, binD, addD, subD, mulD, modD, fdivD, powD, eqD, neD, ltD, leD, gtD, geD, isD, isnD, L2.M.isNon, negD, ixD, Bf.f, Bg.f, lenD, L2.M.intD, maxD, minD, repD, strD, gmaxD, gminD, sumD, sortD, anyD, allD, mCall, frz, fzO, lend, wb, mTup, mLst, fzs, cD, mAsg, bTup, bTps, mApp, tupD, lstD, mRev, revD, ofs_inj, ee_ii, ee_ss, ee_bb, ee_nn, ee_is, ee_si, ee_in, ee_ni, ee_tt, ee_ll, ee_maps, ee_0, ee_1, ee_2, ee_3, at_lit, at_nat, at_m1, at_m2, scD, emD, sizeLine_eq, ixN, sm_lit, mSrc, itemsD, plOf, rng1D, bNm, mSl, mPt, mNoP, slD, mPar, keepT, tmsO, setA, mFlow, zipX, enumX, itemsX, intsOf, ints_all, boolsOf, shaped_lay, lay_int, lay_bool, lay_none, lay_dict, lay_tup, lay_list, lay_ints, sortX_ints, mPlF, mPlI, mRd, mPU, mPB, mFSet, mFNew, mNSet, mPApp, mPSetIx, mPPop, mMeth, mNew, isIns, cellO, mLstN, mAddN, mAppN, semX, mTold, mCallX, xRet, xExpr, xSet, mRaise, mM, isL, isS, mOrV, truD])
local macro_rules | `(tactic| walk_at "es") => `(tactic| simp [semF, shared, after, mSeq, mSkip, mIf, mRet, mRetN, mRetV, mSet, mSetIx, mExpr, mB, mU, mTm, mPl, mK, mVar, mOp, mCons, mNil, bor, bors, mTst, mAndT, mOrT, mNotT, mAndE, mOrE, mNotE, mIfE, mIsi, isiD, mChn, chnL, cmpD, binD, addD, subD, mulD, modD, fdivD, powD, eqD, neD, ltD, leD, gtD, geD, isD, isnD, L2.M.isNon, negD, ixD, Bf.f, Bg.f, lenD, L2.M.intD, maxD, minD, repD, strD, gmaxD, gminD, sumD, sortD, anyD, allD, mCall, frz, fzO, lend, wb, mTup, mLst, fzs, cD, mAsg, bTup, bTps, mApp, tupD, lstD, mRev, revD, ofs_inj, ee_ii, ee_ss, ee_bb, ee_nn, ee_is, ee_si, ee_in, ee_ni, ee_tt, ee_ll, ee_maps, ee_0, ee_1, ee_2, ee_3, at_lit, at_nat, at_m1, at_m2, scD, emD, sizeLine_eq, ixN, sm_lit, mSrc, itemsD, plOf, rng1D, bNm, mSl, mPt, mNoP, slD, mPar, keepT, tmsO, setA, mFlow, zipX, enumX, itemsX, intsOf, ints_all, boolsOf, shaped_lay, lay_int, lay_bool, lay_none, lay_dict, lay_tup, lay_list, lay_ints, sortX_ints, mPlF, mPlI, mRd, mPU, mPB, mFSet, mFNew, mNSet, mPApp, mPSetIx, mPPop, mMeth, mNew, isIns, cellO, mLstN, mAddN, mAppN, semX, mTold, mCallX, xRet, xExpr, xSet, mRaise, mM, isL, isS, mOrV, truD, *])
local macro_rules | `(tactic| walk_at "el") => `(tactic| simp [semF, shared, after, mSeq, mSkip, mIf, mRet, mRetN, mRetV, mSet, mSetIx, mExpr, mB, mU, mTm, mPl, mK, mVar, mOp, mCons, mNil, bor, bors, mTst, mAndT, mOrT, mNotT, mAndE, mOrE, mNotE, mIfE, mIsi, isiD, mChn, chnL, cmpD, binD, addD, subD, mulD, modD, fdivD, powD, eqD, neD, ltD, leD, gtD, geD, isD, isnD, L2.M.isNon, negD, ixD, Bf.f, Bg.f, lenD, L2.M.intD, maxD, minD, repD, strD, gmaxD, gminD, sumD, sortD, anyD, allD, mCall, frz, fzO, lend, wb, mTup, mLst, fzs, cD, mAsg, bTup, bTps, mApp, tupD, lstD, mRev, revD, ofs_inj, ee_ii, ee_ss, ee_bb, ee_nn, ee_is, ee_si, ee_in, ee_ni, ee_tt, ee_ll, ee_maps, ee_0, ee_1, ee_2, ee_3, at_lit, at_nat, at_m1, at_m2, scD, emD, sizeLine_eq, ixN, sm_lit, mSrc, itemsD, plOf, rng1D, bNm, mSl, mPt, mNoP, slD, mPar, keepT, tmsO, setA, mFlow, zipX, enumX, itemsX, intsOf, ints_all, boolsOf, shaped_lay, lay_int, lay_bool, lay_none, lay_dict, lay_tup, lay_list, lay_ints, sortX_ints, mPlF, mPlI, mRd, mPU, mPB, mFSet, mFNew, mNSet, mPApp, mPSetIx, mPPop, mMeth, mNew, isIns, cellO, mLstN, mAddN, mAppN, semX, mTold, mCallX, xRet, xExpr, xSet, mRaise, mM, isL, isS, mOrV, truD, mLc, lcL, sameC, wipeC, restC, mYes, *])
local macro_rules | `(tactic| walk_at "ef") => `(tactic| simp [semF, shared, after, mSeq, mSkip, mIf, mRet, mRetN, mRetV, mSet, mSetIx, mExpr, mB, mU, mTm, mPl, mK, mVar, mOp, mCons, mNil, bor, bors, mTst, mAndT, mOrT, mNotT, mAndE, mOrE, mNotE, mIfE, mIsi, isiD, mChn, chnL, cmpD, binD, addD, subD, mulD, modD, fdivD, powD, eqD, neD, ltD, leD, gtD, geD, isD, isnD, L2.M.isNon, negD, ixD, Bf.f, Bg.f, lenD, L2.M.intD, maxD, minD, repD, strD, gmaxD, gminD, sumD, sortD, anyD, allD, mCall, frz, fzO, lend, wb, mTup, mLst, fzs, cD, mAsg, bTup, bTps, mApp, tupD, lstD, mRev, revD, ofs_inj, ee_ii, ee_ss, ee_bb, ee_nn, ee_is, ee_si, ee_in, ee_ni, ee_tt, ee_ll, ee_maps, ee_0, ee_1, ee_2, ee_3, at_lit, at_nat, at_m1, at_m2, scD, emD, sizeLine_eq, ixN, sm_lit, mSrc, itemsD, plOf, rng1D, bNm, mSl, mPt, mNoP, slD, mPar, keepT, tmsO, setA, mFlow, zipX, enumX, itemsX, intsOf, ints_all, boolsOf, shaped_lay, lay_int, lay_bool, lay_none, lay_dict, lay_tup, lay_list, lay_ints, sortX_ints, mPlF, mPlI, mRd, mPU, mPB, mFSet, mFNew, mNSet, mPApp, mPSetIx, mPPop, mMeth, mNew, isIns, cellO, mLstN, mAddN, mAppN, semX, mTold, mCallX, xRet, xExpr, xSet, mRaise, mM, isL, isS, mOrV, truD, mFor, forL, mLc, lcL, sameC, wipeC, restC, mYes, *])
local macro_rules | `(tactic| walk_at "rg") => `(tactic| (and_intros <;> grind))
local macro_rules | `(tactic| walk_at "nx") => `(tactic| (apply wx_nx; focus (walk_at "ev"; try first | exact ⟨rfl, rfl⟩ | rfl)))
local macro_rules | `(tactic| walk_at "ns") => `(tactic| (apply wx_nx; focus (walk_at "es"; try first | exact ⟨rfl, rfl⟩ | rfl)))
local macro_rules | `(tactic| walk_at "rt") => `(tactic| (apply wx_rt; focus (walk_at "ev"; try first | exact ⟨rfl, rfl⟩ | rfl)))
local macro_rules | `(tactic| walk_at "rs") => `(tactic| (apply wx_rt; focus (walk_at "es"; try first | exact ⟨rfl, rfl⟩ | rfl)))
local macro_rules | `(tactic| walk_at "ed") => `(tactic| simp [semF, shared, after, mSeq, mSkip, mIf, mRet, mRetN, mRetV, mSet, mSetIx, mExpr, mB, mU, mTm, mPl, mK, mVar, mOp, mCons, mNil, bor, bors, mTst, mAndT, mOrT, mNotT, mAndE, mOrE, mNotE, mIfE, mIsi, isiD, mChn, chnL, cmpD, binD, addD, subD, mulD, modD, fdivD, powD, eqD, neD, ltD, leD, gtD, geD, isD, isnD, L2.M.isNon, negD, ixD, Bf.f, Bg.f, lenD, L2.M.intD, maxD, minD, repD, strD, gmaxD, gminD, sumD, sortD, anyD, allD, mCall, frz, fzO, lend, wb, mTup, mLst, fzs, cD, mAsg, bTup, bTps, mApp, tupD, lstD, mRev, revD, ofs_inj, ee_ii, ee_ss, ee_bb, ee_nn, ee_is, ee_si, ee_in, ee_ni, ee_tt, ee_ll, ee_maps, ee_0, ee_1, ee_2, ee_3, at_lit, at_nat, at_m1, at_m2, scD, emD, sizeLine_eq, ixN, sm_lit, mSrc, itemsD, plOf, rng1D, bNm, mSl, mPt, mNoP, slD, mPar, keepT, tmsO, setA, mFlow, zipX, enumX, itemsX, intsOf, ints_all, boolsOf, shaped_lay, lay_int, lay_bool, lay_none, lay_dict, lay_tup, lay_list, lay_ints, sortX_ints, mPlF, mPlI, mRd, mPU, mPB, mFSet, mFNew, mNSet, mPApp, mPSetIx, mPPop, mMeth, mNew, isIns, cellO, mLstN, mAddN, mAppN, semX, mTold, mCallX, xRet, xExpr, xSet, mRaise, mM, isL, isS, mOrV, truD, mDNew, mDIn, mDGet, mDLen, mDPut, kyD, mNNew, mN1, mTake, mFnV, mCallF, mNIn, mNGet, mNPut, mNVals, mNList, nKs, mDGetD, mDList, mNNe, *])
section
variable {m n : EM} {ε ε1 ε2 : Cs} {c c1 c2 c' : C} {d d1 d2 : PyData} {io : List Nat} {i : Nat} {b : Bool}
theorem e_ret (h : m ε = some (c, ε1)) : mRet m ε = some (.rt c, ε1) := by simp [mRet, h]
theorem e_set (h : m ε = some (c, ε1)) (hi : i < ε1.length) (hio : i ∉ io) : mSet io i m ε = some (.nx, ε1.set i c) := by simp [mSet, h, hi, hio]
theorem e_op1 {f : List PyData → Option C} (h : m ε = some (c, ε1)) (hd : cD c = some d) (hf : f [d] = some c') : mOp f (mCons (mTm m) mNil) ε = some (c', ε1) := by
  cases c <;> simp [cD] at hd <;> subst hd <;> simp [mOp, mCons, mTm, mNil, h, bors, bor, hf]
end
theorem set_back {ε : Cs} {i : Nat} {c0 c1 : C} (h : ε[i]? = some c0) : (ε.set i c1).set i c0 = ε := by
  rw [List.set_set]
  apply List.ext_getElem?
  intro j
  by_cases ej : i = j
  · subst ej
    rw [List.getElem?_set_self (List.getElem?_eq_some_iff.mp h).1, h]
  · rw [List.getElem?_set_ne ej]
/-- a comprehension over items of one form -/
theorem mLc_enc {α : Type} (f e : α → PyData) {i : Nat} {src : SM} {m : EM} {ε ε1 : Cs} {xs : List α} {c0 : C} {ws : List Nat} (hs : src ε = some ((xs.map f, ws), ε1)) (h1 : ε1[i]? = some c0) (h : ∀ x ∈ xs, ∃ c, m (ε1.set i (.sh (f x))) = some (c, ε1.set i (.sh (f x))) ∧ cD c = some (e x)) (hn : xs.length ≤ sizeLine) (hw : ws.all (fun j => !([i] : List Nat).contains j) = true := by rfl) :
    mLc src (bNm i) mYes m [i] ε = some (.ls (xs.map e), ε1) := by
  have hl : i < ε1.length := (List.getElem?_eq_some_iff.mp h1).1
  have hsm : sameC ws ε1 (ε1.set i .no) := by
    intro j hj
    have := List.all_eq_true.mp hw j hj
    have ne : i ≠ j := by
      rintro rfl
      simp at this
    rw [List.getElem?_set_ne ne]
  obtain ⟨out, ε2, e1, e2, e3⟩ := lc_rule (src := src) (bind := bNm i) (tests := mYes) (elt := m) (own := [i]) (ε := ε) (fun k out ε2 => out = (xs.take k).map e ∧ ε2 = ε1.set i .no) hs hw ⟨by simp, by simp [wipeC]⟩ (fun _ _ _ h => by rw [h.2]; exact hsm) (by simpa using hn) (by
    rintro k d out ε2 hd ⟨rfl, rfl⟩
    rw [List.getElem?_map] at hd
    obtain ⟨x, hx, rfl⟩ := Option.map_eq_some_iff.mp hd
    obtain ⟨hk, rfl⟩ := List.getElem?_eq_some_iff.mp hx
    obtain ⟨c, g1, g2⟩ := h _ (List.getElem_mem hk)
    refine ⟨ε1.set i (.sh (f xs[k])), true, _, by simp [bNm, hl], rfl, fun z => (by cases z), fun _ => ⟨c, _, _, g1, g2, ?_, ?_⟩⟩
    · rw [List.take_succ_eq_append_getElem hk, List.map_append]
      rfl
    · simp [wipeC])
  subst e3
  rw [List.length_map, List.take_of_length_le (Nat.le_refl _)] at e2
  subst e2
  rw [e1]
  simp only [restC, h1]
  rw [set_back h1]
/-- a comprehension over pairs, taken apart -/
theorem mLc_two {α : Type} (f1 f2 e : α → PyData) {i j : Nat} {src : SM} {m : EM} {ε ε1 : Cs} {xs : List α} {c0 c1 : C} {ws : List Nat} (hs : src ε = some ((xs.map fun x => PyData.tuple [f1 x, f2 x], ws), ε1)) (hij : i ≠ j) (h0 : ε1[i]? = some c0) (h1 : ε1[j]? = some c1) (h : ∀ x ∈ xs, ∃ c, m ((ε1.set i (.sh (f1 x))).set j (.sh (f2 x))) = some (c, (ε1.set i (.sh (f1 x))).set j (.sh (f2 x))) ∧ cD c = some (e x)) (hn : xs.length ≤ sizeLine) (hw : ws.all (fun k => !([i, j] : List Nat).contains k) = true := by rfl) :
    mLc src (bTup [bNm i, bNm j]) mYes m [i, j] ε = some (.ls (xs.map e), ε1) := by
  have hl : i < ε1.length := (List.getElem?_eq_some_iff.mp h0).1
  have hl2 : j < ε1.length := (List.getElem?_eq_some_iff.mp h1).1
  have hsm : sameC ws ε1 ((ε1.set j .no).set i .no) := by
    intro k hk
    have := List.all_eq_true.mp hw k hk
    simp at this
    rw [List.getElem?_set_ne (by omega), List.getElem?_set_ne (by omega)]
  obtain ⟨out, ε2, e1, e2, e3⟩ := lc_rule (src := src) (bind := bTup [bNm i, bNm j]) (tests := mYes) (elt := m) (own := [i, j]) (ε := ε) (fun k out ε2 => out = (xs.take k).map e ∧ ε2 = (ε1.set j .no).set i .no) hs hw ⟨by simp, by simp [wipeC]⟩ (fun _ _ _ h => by rw [h.2]; exact hsm) (by simpa using hn) (by
    rintro k d out ε2 hd ⟨rfl, rfl⟩
    rw [List.getElem?_map] at hd
    obtain ⟨x, hx, rfl⟩ := Option.map_eq_some_iff.mp hd
    obtain ⟨hk, rfl⟩ := List.getElem?_eq_some_iff.mp hx
    obtain ⟨c, g1, g2⟩ := h _ (List.getElem_mem hk)
    refine ⟨(ε1.set i (.sh (f1 xs[k]))).set j (.sh (f2 xs[k])), true, _, by simp [bTup, bTps, bNm, hl, hl2]; rw [List.set_comm _ _ (show j ≠ i by omega), List.set_set], rfl, fun z => (by cases z), fun _ => ⟨c, _, _, g1, g2, ?_, ?_⟩⟩
    · rw [List.take_succ_eq_append_getElem hk, List.map_append]
      rfl
    · simp only [wipeC, List.set_set]
      rw [List.set_comm _ _ hij, List.set_set, List.set_comm _ _ (show j ≠ i by omega)])
  subst e3
  rw [List.length_map, List.take_of_length_le (Nat.le_refl _)] at e2
  subst e2
  rw [e1]
  simp only [restC, h0, h1]
  congr 2
  rw [List.set_comm _ _ (show j ≠ i by omega), List.set_set, List.set_comm _ _ hij, List.set_set]
  apply List.ext_getElem?
  intro k
  by_cases ej : i = k
  · subst ej
    rw [List.getElem?_set_self (by simpa using hl), h0]
  · rw [List.getElem?_set_ne ej]
    by_cases ej2 : j = k
    · subst ej2
      rw [List.getElem?_set_self hl2, h1]
    · rw [List.getElem?_set_ne ej2]
theorem src_items {m : EM} {ε ε1 : Cs} {c : C} {ds : List PyData} (h : m ε = some (c, ε1)) (hc : c = .ls ds ∨ c = .sh (.list ds) ∨ c = .sh (.tuple ds)) : mSrc itemsD (mCons (mTm m) mNil) ε = some ((ds, []), ε1) := by
  rcases hc with rfl | rfl | rfl <;> simp [mSrc, mCons, mTm, mNil, h, bors, bor, itemsD, plOf]
end KW
namespace KW
open PySem PySem.Spec PyProof.Rows L2 L2.M
local macro_rules | `(tactic| walk_at "ev") => `(tactic| simp [semF, shared, after, mSeq, mSkip, mIf, mRet, mRetN, mRetV, mSet, mSetIx, mExpr, mB, mU, mTm, mPl, mK, mVar, mOp, mCons, mNil, bor, bors, mTst, mAndT, mOrT, mNotT, mAndE, mOrE, mNotE, mIfE, mIsi, isiD, mChn, chnL, cmpD, binD, addD, subD, mulD, modD, fdivD, powD, eqD, neD, ltD, leD, gtD, geD, isD, isnD, L2.M.isNon, negD, ixD, Bf.f, Bg.f, lenD, L2.M.intD, maxD, minD, repD, strD, gmaxD, gminD, sumD, sortD, anyD, allD, mCall, frz, fzO, lend, wb, mTup, mLst, fzs, cD, mAsg, bTup, bTps, mApp, tupD, lstD, mRev, revD, ofs_inj, ee_ii, ee_ss, ee_bb, ee_nn, ee_is, ee_si, ee_in, ee_ni, ee_tt, ee_ll, ee_maps, ee_0, ee_1, ee_2, ee_3, at_lit, at_nat, at_m1, at_m2, scD, emD, sizeLine_eq, ixN, sm_lit, mSrc, itemsD, plOf, rng1D, bNm, mSl, mPt, mNoP, slD, mPar, keepT, tmsO, setA, mFlow, zipX, enumX, itemsX, intsOf, ints_all, boolsOf, shaped_lay, lay_int, lay_bool, lay_none, lay_dict, lay_tup, lay_list, lay_ints, sortX_ints, mPlF, mPlI, mRd, mPU, mPB, mFSet, mFNew, mNSet, mPApp, mPSetIx, mPPop, mMeth, mNew, isIns, cellO, mLstN, mAddN, mAppN, semX, mTold, mCallX, xRet, xExpr, xSet, mRaise, mM, isL, isS, mOrV, truD])
local macro_rules | `(tactic| walk_at "es") => `(tactic| simp [semF, shared, after, mSeq, mSkip, mIf, mRet, mRetN, mRetV, mSet, mSetIx, mExpr, mB, mU, mTm, mPl, mK, mVar, mOp, mCons, mNil, bor, bors, mTst, mAndT, mOrT, mNotT, mAndE, mOrE, mNotE, mIfE, mIsi, isiD, mChn, chnL, cmpD, binD, addD, subD, mulD, modD, fdivD, powD, eqD, neD, ltD, leD, gtD, geD, isD, isnD, L2.M.isNon, negD, ixD, Bf.f, Bg.f, lenD, L2.M.intD, maxD, minD, repD, strD, gmaxD, gminD, sumD, sortD, anyD, allD, mCall, frz, fzO, lend, wb, mTup, mLst, fzs, cD, mAsg, bTup, bTps, mApp, tupD, lstD, mRev, revD, ofs_inj, ee_ii, ee_ss, ee_bb, ee_nn, ee_is, ee_si, ee_in, ee_ni, ee_tt, ee_ll, ee_maps, ee_0, ee_1, ee_2, ee_3, at_lit, at_nat, at_m1, at_m2, scD, emD, sizeLine_eq, ixN, sm_lit, mSrc, itemsD, plOf, rng1D, bNm, mSl, mPt, mNoP, slD, mPar, keepT, tmsO, setA, mFlow, zipX, enumX, itemsX, intsOf, ints_all, boolsOf, shaped_lay, lay_int, lay_bool, lay_none, lay_dict, lay_tup, lay_list, lay_ints, sortX_ints, mPlF, mPlI, mRd, mPU, mPB, mFSet, mFNew, mNSet, mPApp, mPSetIx, mPPop, mMeth, mNew, isIns, cellO, mLstN, mAddN, mAppN, semX, mTold, mCallX, xRet, xExpr, xSet, mRaise, mM, isL, isS, mOrV, truD, *])
local macro_rules | `(tactic| walk_at "el") => `(tactic| simp [semF, shared, after, mSeq, mSkip, mIf, mRet, mRetN, mRetV, mSet, mSetIx, mExpr, mB, mU, mTm, mPl, mK, mVar, mOp, mCons, mNil, bor, bors, mTst, mAndT, mOrT, mNotT, mAndE, mOrE, mNotE, mIfE, mIsi, isiD, mChn, chnL, cmpD, binD, addD, subD, mulD, modD, fdivD, powD, eqD, neD, ltD, leD, gtD, geD, isD, isnD, L2.M.isNon, negD, ixD, Bf.f, Bg.f, lenD, L2.M.intD, maxD, minD, repD, strD, gmaxD, gminD, sumD, sortD, anyD, allD, mCall, frz, fzO, lend, wb, mTup, mLst, fzs, cD, mAsg, bTup, bTps, mApp, tupD, lstD, mRev, revD, ofs_inj, ee_ii, ee_ss, ee_bb, ee_nn, ee_is, ee_si, ee_in, ee_ni, ee_tt, ee_ll, ee_maps, ee_0, ee_1, ee_2, ee_3, at_lit, at_nat, at_m1, at_m2, scD, emD, sizeLine_eq, ixN, sm_lit, mSrc, itemsD, plOf, rng1D, bNm, mSl, mPt, mNoP, slD, mPar, keepT, tmsO, setA, mFlow, zipX, enumX, itemsX, intsOf, ints_all, boolsOf, shaped_lay, lay_int, lay_bool, lay_none, lay_dict, lay_tup, lay_list, lay_ints, sortX_ints, mPlF, mPlI, mRd, mPU, mPB, mFSet, mFNew, mNSet, mPApp, mPSetIx, mPPop, mMeth, mNew, isIns, cellO, mLstN, mAddN, mAppN, semX, mTold, mCallX, xRet, xExpr, xSet, mRaise, mM, isL, isS, mOrV, truD, mLc, lcL, sameC, wipeC, restC, mYes, *])
local macro_rules | `(tactic| walk_at "ef") => `(tactic| simp [semF, shared, after, mSeq, mSkip, mIf, mRet, mRetN, mRetV, mSet, mSetIx, mExpr, mB, mU, mTm, mPl, mK, mVar, mOp, mCons, mNil, bor, bors, mTst, mAndT, mOrT, mNotT, mAndE, mOrE, mNotE, mIfE, mIsi, isiD, mChn, chnL, cmpD, binD, addD, subD, mulD, modD, fdivD, powD, eqD, neD, ltD, leD, gtD, geD, isD, isnD, L2.M.isNon, negD, ixD, Bf.f, Bg.f, lenD, L2.M.intD, maxD, minD, repD, strD, gmaxD, gminD, sumD, sortD, anyD, allD, mCall, frz, fzO, lend, wb, mTup, mLst, fzs, cD, mAsg, bTup, bTps, mApp, tupD, lstD, mRev, revD, ofs_inj, ee_ii, ee_ss, ee_bb, ee_nn, ee_is, ee_si, ee_in, ee_ni, ee_tt, ee_ll, ee_maps, ee_0, ee_1, ee_2, ee_3, at_lit, at_nat, at_m1, at_m2, scD, emD, sizeLine_eq, ixN, sm_lit, mSrc, itemsD, plOf, rng1D, bNm, mSl, mPt, mNoP, slD, mPar, keepT, tmsO, setA, mFlow, zipX, enumX, itemsX, intsOf, ints_all, boolsOf, shaped_lay, lay_int, lay_bool, lay_none, lay_dict, lay_tup, lay_list, lay_ints, sortX_ints, mPlF, mPlI, mRd, mPU, mPB, mFSet, mFNew, mNSet, mPApp, mPSetIx, mPPop, mMeth, mNew, isIns, cellO, mLstN, mAddN, mAppN, semX, mTold, mCallX, xRet, xExpr, xSet, mRaise, mM, isL, isS, mOrV, truD, mFor, forL, mLc, lcL, sameC, wipeC, restC, mYes, *])
local macro_rules | `(tactic| walk_at "rg") => `(tactic| (and_intros <;> grind))
local macro_rules | `(tactic| walk_at "nx") => `(tactic| (apply wx_nx; focus (walk_at "ev"; try first | exact ⟨rfl, rfl⟩ | rfl)))
local macro_rules | `(tactic| walk_at "ns") => `(tactic| (apply wx_nx; focus (walk_at "es"; try first | exact ⟨rfl, rfl⟩ | rfl)))
local macro_rules | `(tactic| walk_at "rt") => `(tactic| (apply wx_rt; focus (walk_at "ev"; try first | exact ⟨rfl, rfl⟩ | rfl)))
local macro_rules | `(tactic| walk_at "rs") => `(tactic| (apply wx_rt; focus (walk_at "es"; try first | exact ⟨rfl, rfl⟩ | rfl)))
local macro_rules | `(tactic| walk_at "ed") => `(tactic| simp [semF, shared, after, mSeq, mSkip, mIf, mRet, mRetN, mRetV, mSet, mSetIx, mExpr, mB, mU, mTm, mPl, mK, mVar, mOp, mCons, mNil, bor, bors, mTst, mAndT, mOrT, mNotT, mAndE, mOrE, mNotE, mIfE, mIsi, isiD, mChn, chnL, cmpD, binD, addD, subD, mulD, modD, fdivD, powD, eqD, neD, ltD, leD, gtD, geD, isD, isnD, L2.M.isNon, negD, ixD, Bf.f, Bg.f, lenD, L2.M.intD, maxD, minD, repD, strD, gmaxD, gminD, sumD, sortD, anyD, allD, mCall, frz, fzO, lend, wb, mTup, mLst, fzs, cD, mAsg, bTup, bTps, mApp, tupD, lstD, mRev, revD, ofs_inj, ee_ii, ee_ss, ee_bb, ee_nn, ee_is, ee_si, ee_in, ee_ni, ee_tt, ee_ll, ee_maps, ee_0, ee_1, ee_2, ee_3, at_lit, at_nat, at_m1, at_m2, scD, emD, sizeLine_eq, ixN, sm_lit, mSrc, itemsD, plOf, rng1D, bNm, mSl, mPt, mNoP, slD, mPar, keepT, tmsO, setA, mFlow, zipX, enumX, itemsX, intsOf, ints_all, boolsOf, shaped_lay, lay_int, lay_bool, lay_none, lay_dict, lay_tup, lay_list, lay_ints, sortX_ints, mPlF, mPlI, mRd, mPU, mPB, mFSet, mFNew, mNSet, mPApp, mPSetIx, mPPop, mMeth, mNew, isIns, cellO, mLstN, mAddN, mAppN, semX, mTold, mCallX, xRet, xExpr, xSet, mRaise, mM, isL, isS, mOrV, truD, mDNew, mDIn, mDGet, mDLen, mDPut, kyD, mNNew, mN1, mTake, mFnV, mCallF, mNIn, mNGet, mNPut, mNVals, mNList, nKs, mDGetD, mDList, mNNe, *])
structure Shw (k n : Nat) (d : PyData) : Prop where
  l : lay k d = true
  s : d.showable = true
  z : d.shown.length ≤ n
theorem Shw.mono {k k' n n' : Nat} {d : PyData} (h : Shw k n d) (hk : k ≤ k') (hn : n ≤ n') : Shw k' n' d := ⟨lay_mono hk h.l, h.s, Nat.le_trans h.z hn⟩
end KW
namespace KW
open PySem PySem.Spec PyProof.Rows L2 L2.M
local macro_rules | `(tactic| walk_at "ev") => `(tactic| simp [semF, shared, after, mSeq, mSkip, mIf, mRet, mRetN, mRetV, mSet, mSetIx, mExpr, mB, mU, mTm, mPl, mK, mVar, mOp, mCons, mNil, bor, bors, mTst, mAndT, mOrT, mNotT, mAndE, mOrE, mNotE, mIfE, mIsi, isiD, mChn, chnL, cmpD, binD, addD, subD, mulD, modD, fdivD, powD, eqD, neD, ltD, leD, gtD, geD, isD, isnD, L2.M.isNon, negD, ixD, Bf.f, Bg.f, lenD, L2.M.intD, maxD, minD, repD, strD, gmaxD, gminD, sumD, sortD, anyD, allD, mCall, frz, fzO, lend, wb, mTup, mLst, fzs, cD, mAsg, bTup, bTps, mApp, tupD, lstD, mRev, revD, ofs_inj, ee_ii, ee_ss, ee_bb, ee_nn, ee_is, ee_si, ee_in, ee_ni, ee_tt, ee_ll, ee_maps, ee_0, ee_1, ee_2, ee_3, at_lit, at_nat, at_m1, at_m2, scD, emD, sizeLine_eq, ixN, sm_lit, mSrc, itemsD, plOf, rng1D, bNm, mSl, mPt, mNoP, slD, mPar, keepT, tmsO, setA, mFlow, zipX, enumX, itemsX, intsOf, ints_all, boolsOf, shaped_lay, lay_int, lay_bool, lay_none, lay_dict, lay_tup, lay_list, lay_ints, sortX_ints, mPlF, mPlI, mRd, mPU, mPB, mFSet, mFNew, mNSet, mPApp, mPSetIx, mPPop, mMeth, mNew, isIns, cellO, mLstN, mAddN, mAppN, semX, mTold, mCallX, xRet, xExpr, xSet, mRaise, mM, isL, isS, mOrV, truD])
local macro_rules | `(tactic| walk_at "es") => `(tactic| simp [semF, shared, after, mSeq, mSkip, mIf, mRet, mRetN, mRetV, mSet, mSetIx, mExpr, mB, mU, mTm, mPl, mK, mVar, mOp, mCons, mNil, bor, bors, mTst, mAndT, mOrT, mNotT, mAndE, mOrE, mNotE, mIfE, mIsi, isiD, mChn, chnL, cmpD, binD, addD, subD, mulD, modD, fdivD, powD, eqD, neD, ltD, leD, gtD, geD, isD, isnD, L2.M.isNon, negD, ixD, Bf.f, Bg.f, lenD, L2.M.intD, maxD, minD, repD, strD, gmaxD, gminD, sumD, sortD, anyD, allD, mCall, frz, fzO, lend, wb, mTup, mLst, fzs, cD, mAsg, bTup, bTps, mApp, tupD, lstD, mRev, revD, ofs_inj, ee_ii, ee_ss, ee_bb, ee_nn, ee_is, ee_si, ee_in, ee_ni, ee_tt, ee_ll, ee_maps, ee_0, ee_1, ee_2, ee_3, at_lit, at_nat, at_m1, at_m2, scD, emD, sizeLine_eq, ixN, sm_lit, mSrc, itemsD, plOf, rng1D, bNm, mSl, mPt, mNoP, slD, mPar, keepT, tmsO, setA, mFlow, zipX, enumX, itemsX, intsOf, ints_all, boolsOf, shaped_lay, lay_int, lay_bool, lay_none, lay_dict, lay_tup, lay_list, lay_ints, sortX_ints, mPlF, mPlI, mRd, mPU, mPB, mFSet, mFNew, mNSet, mPApp, mPSetIx, mPPop, mMeth, mNew, isIns, cellO, mLstN, mAddN, mAppN, semX, mTold, mCallX, xRet, xExpr, xSet, mRaise, mM, isL, isS, mOrV, truD, *])
local macro_rules | `(tactic| walk_at "el") => `(tactic| simp [semF, shared, after, mSeq, mSkip, mIf, mRet, mRetN, mRetV, mSet, mSetIx, mExpr, mB, mU, mTm, mPl, mK, mVar, mOp, mCons, mNil, bor, bors, mTst, mAndT, mOrT, mNotT, mAndE, mOrE, mNotE, mIfE, mIsi, isiD, mChn, chnL, cmpD, binD, addD, subD, mulD, modD, fdivD, powD, eqD, neD, ltD, leD, gtD, geD, isD, isnD, L2.M.isNon, negD, ixD, Bf.f, Bg.f, lenD, L2.M.intD, maxD, minD, repD, strD, gmaxD, gminD, sumD, sortD, anyD, allD, mCall, frz, fzO, lend, wb, mTup, mLst, fzs, cD, mAsg, bTup, bTps, mApp, tupD, lstD, mRev, revD, ofs_inj, ee_ii, ee_ss, ee_bb, ee_nn, ee_is, ee_si, ee_in, ee_ni, ee_tt, ee_ll, ee_maps, ee_0, ee_1, ee_2, ee_3, at_lit, at_nat, at_m1, at_m2, scD, emD, sizeLine_eq, ixN, sm_lit, mSrc, itemsD, plOf, rng1D, bNm, mSl, mPt, mNoP, slD, mPar, keepT, tmsO, setA, mFlow, zipX, enumX, itemsX, intsOf, ints_all, boolsOf, shaped_lay, lay_int, lay_bool, lay_none, lay_dict, lay_tup, lay_list, lay_ints, sortX_ints, mPlF, mPlI, mRd, mPU, mPB, mFSet, mFNew, mNSet, mPApp, mPSetIx, mPPop, mMeth, mNew, isIns, cellO, mLstN, mAddN, mAppN, semX, mTold, mCallX, xRet, xExpr, xSet, mRaise, mM, isL, isS, mOrV, truD, mLc, lcL, sameC, wipeC, restC, mYes, *])
local macro_rules | `(tactic| walk_at "ef") => `(tactic| simp [semF, shared, after, mSeq, mSkip, mIf, mRet, mRetN, mRetV, mSet, mSetIx, mExpr, mB, mU, mTm, mPl, mK, mVar, mOp, mCons, mNil, bor, bors, mTst, mAndT, mOrT, mNotT, mAndE, mOrE, mNotE, mIfE, mIsi, isiD, mChn, chnL, cmpD, binD, addD, subD, mulD, modD, fdivD, powD, eqD, neD, ltD, leD, gtD, geD, isD, isnD, L2.M.isNon, negD, ixD, Bf.f, Bg.f, lenD, L2.M.intD, maxD, minD, repD, strD, gmaxD, gminD, sumD, sortD, anyD, allD, mCall, frz, fzO, lend, wb, mTup, mLst, fzs, cD, mAsg, bTup, bTps, mApp, tupD, lstD, mRev, revD, ofs_inj, ee_ii, ee_ss, ee_bb, ee_nn, ee_is, ee_si, ee_in, ee_ni, ee_tt, ee_ll, ee_maps, ee_0, ee_1, ee_2, ee_3, at_lit, at_nat, at_m1, at_m2, scD, emD, sizeLine_eq, ixN, sm_lit, mSrc, itemsD, plOf, rng1D, bNm, mSl, mPt, mNoP, slD, mPar, keepT, tmsO, setA, mFlow, zipX, enumX, itemsX, intsOf, ints_all, boolsOf, shaped_lay, lay_int, lay_bool, lay_none, lay_dict, lay_tup, lay_list, lay_ints, sortX_ints, mPlF, mPlI, mRd, mPU, mPB, mFSet, mFNew, mNSet, mPApp, mPSetIx, mPPop, mMeth, mNew, isIns, cellO, mLstN, mAddN, mAppN, semX, mTold, mCallX, xRet, xExpr, xSet, mRaise, mM, isL, isS, mOrV, truD, mFor, forL, mLc, lcL, sameC, wipeC, restC, mYes, *])
local macro_rules | `(tactic| walk_at "rg") => `(tactic| (and_intros <;> grind))
local macro_rules | `(tactic| walk_at "nx") => `(tactic| (apply wx_nx; focus (walk_at "ev"; try first | exact ⟨rfl, rfl⟩ | rfl)))
local macro_rules | `(tactic| walk_at "ns") => `(tactic| (apply wx_nx; focus (walk_at "es"; try first | exact ⟨rfl, rfl⟩ | rfl)))
local macro_rules | `(tactic| walk_at "rt") => `(tactic| (apply wx_rt; focus (walk_at "ev"; try first | exact ⟨rfl, rfl⟩ | rfl)))
local macro_rules | `(tactic| walk_at "rs") => `(tactic| (apply wx_rt; focus (walk_at "es"; try first | exact ⟨rfl, rfl⟩ | rfl)))
local macro_rules | `(tactic| walk_at "ed") => `(tactic| simp [semF, shared, after, mSeq, mSkip, mIf, mRet, mRetN, mRetV, mSet, mSetIx, mExpr, mB, mU, mTm, mPl, mK, mVar, mOp, mCons, mNil, bor, bors, mTst, mAndT, mOrT, mNotT, mAndE, mOrE, mNotE, mIfE, mIsi, isiD, mChn, chnL, cmpD, binD, addD, subD, mulD, modD, fdivD, powD, eqD, neD, ltD, leD, gtD, geD, isD, isnD, L2.M.isNon, negD, ixD, Bf.f, Bg.f, lenD, L2.M.intD, maxD, minD, repD, strD, gmaxD, gminD, sumD, sortD, anyD, allD, mCall, frz, fzO, lend, wb, mTup, mLst, fzs, cD, mAsg, bTup, bTps, mApp, tupD, lstD, mRev, revD, ofs_inj, ee_ii, ee_ss, ee_bb, ee_nn, ee_is, ee_si, ee_in, ee_ni, ee_tt, ee_ll, ee_maps, ee_0, ee_1, ee_2, ee_3, at_lit, at_nat, at_m1, at_m2, scD, emD, sizeLine_eq, ixN, sm_lit, mSrc, itemsD, plOf, rng1D, bNm, mSl, mPt, mNoP, slD, mPar, keepT, tmsO, setA, mFlow, zipX, enumX, itemsX, intsOf, ints_all, boolsOf, shaped_lay, lay_int, lay_bool, lay_none, lay_dict, lay_tup, lay_list, lay_ints, sortX_ints, mPlF, mPlI, mRd, mPU, mPB, mFSet, mFNew, mNSet, mPApp, mPSetIx, mPPop, mMeth, mNew, isIns, cellO, mLstN, mAddN, mAppN, semX, mTold, mCallX, xRet, xExpr, xSet, mRaise, mM, isL, isS, mOrV, truD, mDNew, mDIn, mDGet, mDLen, mDPut, kyD, mNNew, mN1, mTake, mFnV, mCallF, mNIn, mNGet, mNPut, mNVals, mNList, nKs, mDGetD, mDList, mNNe, *])
/-- a stretch -/
def pr (p : Int × Int) : PyData := .tuple [.int p.1, .int p.2]
def sil (st : List (Int × Int)) (b : Int) : Bool := st.any fun p => decide (p.1 ≤ b) && decide (b < p.2)
abbrev stD (st : List (Int × Int)) : PyData := .tuple (st.map pr)
theorem any_map {α : Type} (f : α → Bool) (xs : List α) : boolsOf (xs.map fun x => PyData.bool (f x)) = some (xs.map f) := by
  induction xs with
  | nil => rfl
  | cons x xs ih => simp only [List.map_cons, boolsOf, ih, Option.map_some]
end KW
namespace KW
open PySem PySem.Spec PyProof.Rows L2 L2.M
local macro_rules | `(tactic| walk_at "ev") => `(tactic| simp [semF, shared, after, mSeq, mSkip, mIf, mRet, mRetN, mRetV, mSet, mSetIx, mExpr, mB, mU, mTm, mPl, mK, mVar, mOp, mCons, mNil, bor, bors, mTst, mAndT, mOrT, mNotT, mAndE, mOrE, mNotE, mIfE, mIsi, isiD, mChn, chnL, cmpD, binD, addD, subD, mulD, modD, fdivD, powD, eqD, neD, ltD, leD, gtD, geD, isD, isnD, L2.M.isNon, negD, ixD, Bf.f, Bg.f, lenD, L2.M.intD, maxD, minD, repD, strD, gmaxD, gminD, sumD, sortD, anyD, allD, mCall, frz, fzO, lend, wb, mTup, mLst, fzs, cD, mAsg, bTup, bTps, mApp, tupD, lstD, mRev, revD, ofs_inj, ee_ii, ee_ss, ee_bb, ee_nn, ee_is, ee_si, ee_in, ee_ni, ee_tt, ee_ll, ee_maps, ee_0, ee_1, ee_2, ee_3, at_lit, at_nat, at_m1, at_m2, scD, emD, sizeLine_eq, ixN, sm_lit, mSrc, itemsD, plOf, rng1D, bNm, mSl, mPt, mNoP, slD, mPar, keepT, tmsO, setA, mFlow, zipX, enumX, itemsX, intsOf, ints_all, boolsOf, shaped_lay, lay_int, lay_bool, lay_none, lay_dict, lay_tup, lay_list, lay_ints, sortX_ints, mPlF, mPlI, mRd, mPU, mPB, mFSet, mFNew, mNSet, mPApp, mPSetIx, mPPop, mMeth, mNew, isIns, cellO, mLstN, mAddN, mAppN, semX, mTold, mCallX, xRet, xExpr, xSet, mRaise, mM, isL, isS, mOrV, truD])
local macro_rules | `(tactic| walk_at "es") => `(tactic| simp [semF, shared, after, mSeq, mSkip, mIf, mRet, mRetN, mRetV, mSet, mSetIx, mExpr, mB, mU, mTm, mPl, mK, mVar, mOp, mCons, mNil, bor, bors, mTst, mAndT, mOrT, mNotT, mAndE, mOrE, mNotE, mIfE, mIsi, isiD, mChn, chnL, cmpD, binD, addD, subD, mulD, modD, fdivD, powD, eqD, neD, ltD, leD, gtD, geD, isD, isnD, L2.M.isNon, negD, ixD, Bf.f, Bg.f, lenD, L2.M.intD, maxD, minD, repD, strD, gmaxD, gminD, sumD, sortD, anyD, allD, mCall, frz, fzO, lend, wb, mTup, mLst, fzs, cD, mAsg, bTup, bTps, mApp, tupD, lstD, mRev, revD, ofs_inj, ee_ii, ee_ss, ee_bb, ee_nn, ee_is, ee_si, ee_in, ee_ni, ee_tt, ee_ll, ee_maps, ee_0, ee_1, ee_2, ee_3, at_lit, at_nat, at_m1, at_m2, scD, emD, sizeLine_eq, ixN, sm_lit, mSrc, itemsD, plOf, rng1D, bNm, mSl, mPt, mNoP, slD, mPar, keepT, tmsO, setA, mFlow, zipX, enumX, itemsX, intsOf, ints_all, boolsOf, shaped_lay, lay_int, lay_bool, lay_none, lay_dict, lay_tup, lay_list, lay_ints, sortX_ints, mPlF, mPlI, mRd, mPU, mPB, mFSet, mFNew, mNSet, mPApp, mPSetIx, mPPop, mMeth, mNew, isIns, cellO, mLstN, mAddN, mAppN, semX, mTold, mCallX, xRet, xExpr, xSet, mRaise, mM, isL, isS, mOrV, truD, *])
local macro_rules | `(tactic| walk_at "el") => `(tactic| simp [semF, shared, after, mSeq, mSkip, mIf, mRet, mRetN, mRetV, mSet, mSetIx, mExpr, mB, mU, mTm, mPl, mK, mVar, mOp, mCons, mNil, bor, bors, mTst, mAndT, mOrT, mNotT, mAndE, mOrE, mNotE, mIfE, mIsi, isiD, mChn, chnL, cmpD, binD, addD, subD, mulD, modD, fdivD, powD, eqD, neD, ltD, leD, gtD, geD, isD, isnD, L2.M.isNon, negD, ixD, Bf.f, Bg.f, lenD, L2.M.intD, maxD, minD, repD, strD, gmaxD, gminD, sumD, sortD, anyD, allD, mCall, frz, fzO, lend, wb, mTup, mLst, fzs, cD, mAsg, bTup, bTps, mApp, tupD, lstD, mRev, revD, ofs_inj, ee_ii, ee_ss, ee_bb, ee_nn, ee_is, ee_si, ee_in, ee_ni, ee_tt, ee_ll, ee_maps, ee_0, ee_1, ee_2, ee_3, at_lit, at_nat, at_m1, at_m2, scD, emD, sizeLine_eq, ixN, sm_lit, mSrc, itemsD, plOf, rng1D, bNm, mSl, mPt, mNoP, slD, mPar, keepT, tmsO, setA, mFlow, zipX, enumX, itemsX, intsOf, ints_all, boolsOf, shaped_lay, lay_int, lay_bool, lay_none, lay_dict, lay_tup, lay_list, lay_ints, sortX_ints, mPlF, mPlI, mRd, mPU, mPB, mFSet, mFNew, mNSet, mPApp, mPSetIx, mPPop, mMeth, mNew, isIns, cellO, mLstN, mAddN, mAppN, semX, mTold, mCallX, xRet, xExpr, xSet, mRaise, mM, isL, isS, mOrV, truD, mLc, lcL, sameC, wipeC, restC, mYes, *])
local macro_rules | `(tactic| walk_at "ef") => `(tactic| simp [semF, shared, after, mSeq, mSkip, mIf, mRet, mRetN, mRetV, mSet, mSetIx, mExpr, mB, mU, mTm, mPl, mK, mVar, mOp, mCons, mNil, bor, bors, mTst, mAndT, mOrT, mNotT, mAndE, mOrE, mNotE, mIfE, mIsi, isiD, mChn, chnL, cmpD, binD, addD, subD, mulD, modD, fdivD, powD, eqD, neD, ltD, leD, gtD, geD, isD, isnD, L2.M.isNon, negD, ixD, Bf.f, Bg.f, lenD, L2.M.intD, maxD, minD, repD, strD, gmaxD, gminD, sumD, sortD, anyD, allD, mCall, frz, fzO, lend, wb, mTup, mLst, fzs, cD, mAsg, bTup, bTps, mApp, tupD, lstD, mRev, revD, ofs_inj, ee_ii, ee_ss, ee_bb, ee_nn, ee_is, ee_si, ee_in, ee_ni, ee_tt, ee_ll, ee_maps, ee_0, ee_1, ee_2, ee_3, at_lit, at_nat, at_m1, at_m2, scD, emD, sizeLine_eq, ixN, sm_lit, mSrc, itemsD, plOf, rng1D, bNm, mSl, mPt, mNoP, slD, mPar, keepT, tmsO, setA, mFlow, zipX, enumX, itemsX, intsOf, ints_all, boolsOf, shaped_lay, lay_int, lay_bool, lay_none, lay_dict, lay_tup, lay_list, lay_ints, sortX_ints, mPlF, mPlI, mRd, mPU, mPB, mFSet, mFNew, mNSet, mPApp, mPSetIx, mPPop, mMeth, mNew, isIns, cellO, mLstN, mAddN, mAppN, semX, mTold, mCallX, xRet, xExpr, xSet, mRaise, mM, isL, isS, mOrV, truD, mFor, forL, mLc, lcL, sameC, wipeC, restC, mYes, *])
local macro_rules | `(tactic| walk_at "rg") => `(tactic| (and_intros <;> grind))
local macro_rules | `(tactic| walk_at "nx") => `(tactic| (apply wx_nx; focus (walk_at "ev"; try first | exact ⟨rfl, rfl⟩ | rfl)))
local macro_rules | `(tactic| walk_at "ns") => `(tactic| (apply wx_nx; focus (walk_at "es"; try first | exact ⟨rfl, rfl⟩ | rfl)))
local macro_rules | `(tactic| walk_at "rt") => `(tactic| (apply wx_rt; focus (walk_at "ev"; try first | exact ⟨rfl, rfl⟩ | rfl)))
local macro_rules | `(tactic| walk_at "rs") => `(tactic| (apply wx_rt; focus (walk_at "es"; try first | exact ⟨rfl, rfl⟩ | rfl)))
local macro_rules | `(tactic| walk_at "ed") => `(tactic| simp [semF, shared, after, mSeq, mSkip, mIf, mRet, mRetN, mRetV, mSet, mSetIx, mExpr, mB, mU, mTm, mPl, mK, mVar, mOp, mCons, mNil, bor, bors, mTst, mAndT, mOrT, mNotT, mAndE, mOrE, mNotE, mIfE, mIsi, isiD, mChn, chnL, cmpD, binD, addD, subD, mulD, modD, fdivD, powD, eqD, neD, ltD, leD, gtD, geD, isD, isnD, L2.M.isNon, negD, ixD, Bf.f, Bg.f, lenD, L2.M.intD, maxD, minD, repD, strD, gmaxD, gminD, sumD, sortD, anyD, allD, mCall, frz, fzO, lend, wb, mTup, mLst, fzs, cD, mAsg, bTup, bTps, mApp, tupD, lstD, mRev, revD, ofs_inj, ee_ii, ee_ss, ee_bb, ee_nn, ee_is, ee_si, ee_in, ee_ni, ee_tt, ee_ll, ee_maps, ee_0, ee_1, ee_2, ee_3, at_lit, at_nat, at_m1, at_m2, scD, emD, sizeLine_eq, ixN, sm_lit, mSrc, itemsD, plOf, rng1D, bNm, mSl, mPt, mNoP, slD, mPar, keepT, tmsO, setA, mFlow, zipX, enumX, itemsX, intsOf, ints_all, boolsOf, shaped_lay, lay_int, lay_bool, lay_none, lay_dict, lay_tup, lay_list, lay_ints, sortX_ints, mPlF, mPlI, mRd, mPU, mPB, mFSet, mFNew, mNSet, mPApp, mPSetIx, mPPop, mMeth, mNew, isIns, cellO, mLstN, mAddN, mAppN, semX, mTold, mCallX, xRet, xExpr, xSet, mRaise, mM, isL, isS, mOrV, truD, mDNew, mDIn, mDGet, mDLen, mDPut, kyD, mNNew, mN1, mTake, mFnV, mCallF, mNIn, mNGet, mNPut, mNVals, mNList, nKs, mDGetD, mDList, mNNe, *])
abbrev gt5 (F R T M N : Int) : PyData := .tuple [.int F, .int R, .int T, .int M, .int N]
structure Gt (F R T M N : Int) : Prop extends Gp R T 0 M where
  f1 : 1 ≤ F
  f2 : F ≤ 20
  n1 : 1 ≤ N
  n2 : N ≤ 10
  rm : R ≤ M
/-- a gate's standing -/
inductive Sg where
  | op (b : Int) | sh (u n : Int) | tr (g n : Int)
def Sg.d : Sg → PyData
  | .op b => .tuple [.str "open", .int b]
  | .sh u n => .tuple [.str "shut", .int u, .int n]
  | .tr g n => .tuple [.str "trying", .int g, .int n]
def letT : Sg → Int → Bool
  | .sh u _, t => !decide (t < u)
  | .op _, _ => true
  | .tr _ _, _ => true
def letS : Sg → Int → Sg
  | .sh u n, t => if t < u then .sh u n else .tr 0 n
  | .op b, _ => .op b
  | .tr g n, _ => .tr g n
def hrd (F R T M N : Int) : Sg → Int → Bool → Sg
  | .op b, t, a => if a = true then .op 0 else if b + 1 < F then .op (b + 1) else .sh (t + R) R
  | .tr g n, t, a => if a = true then (if g + 1 < N then .tr (g + 1) n else .op 0) else .sh (t + (if T * n < M then T * n else M)) (if T * n < M then T * n else M)
  | .sh u n, _, _ => .sh u n
def isShut : Sg → Bool
  | .sh _ _ => true
  | .op _ => false
  | .tr _ _ => false
theorem let_shut {s : Sg} {t : Int} (h : letT s t = true) : isShut (letS s t) = false := by
  cases s with
  | op b => rfl
  | sh u n =>
    simp only [letT, Bool.not_eq_true', decide_eq_false_iff_not] at h
    simp only [letS, if_neg h]
    rfl
  | tr g n => rfl
/-- what a standing's numbers are -/
def SgB : Sg → Prop
  | .op b => 0 ≤ b ∧ b ≤ 100
  | .sh u n => 0 ≤ u ∧ u ≤ 10 ^ 9 ∧ 1 ≤ n ∧ n ≤ 1000
  | .tr g n => 0 ≤ g ∧ g ≤ 100 ∧ 1 ≤ n ∧ n ≤ 1000
theorem letS_b {s : Sg} (h : SgB s) (t : Int) : SgB (letS s t) := by
  cases s with
  | op b => exact h
  | sh u n =>
    simp only [letS]
    split
    · exact h
    · obtain ⟨_, _, h1, h2⟩ := h
      exact ⟨by decide, by decide, h1, h2⟩
  | tr g n => exact h
theorem hrd_b {F R T M N : Int} (G : Gt F R T M N) {s : Sg} (h : SgB s) {t : Int} (t0 : 0 ≤ t) (t1 : t ≤ 10 ^ 8) (a : Bool) : SgB (hrd F R T M N s t a) := by
  have := G.f2; have := G.n2; have := G.a1; have := G.a2; have := G.t1; have := G.M1; have := G.M2
  cases s with
  | op b =>
    obtain ⟨h1, h2⟩ := h
    simp only [hrd]
    split
    · exact ⟨by decide, by decide⟩
    · split
      · exact ⟨by omega, by omega⟩
      · exact ⟨by omega, by omega, by omega, by omega⟩
  | sh u n => exact h
  | tr g n =>
    obtain ⟨h1, h2, h3, h4⟩ := h
    simp only [hrd]
    have k : 1 * n ≤ T * n := Int.mul_le_mul_of_nonneg_right (by omega) (by omega)
    split
    · split
      · exact ⟨by omega, by omega, by omega, by omega⟩
      · exact ⟨by decide, by decide⟩
    · split
      · exact ⟨by omega, by omega, by omega, by omega⟩
      · exact ⟨by omega, by omega, by omega, by omega⟩
end KW
namespace KW
open PySem PySem.Spec PyProof.Rows L2 L2.M
local macro_rules | `(tactic| walk_at "ev") => `(tactic| simp [semF, shared, after, mSeq, mSkip, mIf, mRet, mRetN, mRetV, mSet, mSetIx, mExpr, mB, mU, mTm, mPl, mK, mVar, mOp, mCons, mNil, bor, bors, mTst, mAndT, mOrT, mNotT, mAndE, mOrE, mNotE, mIfE, mIsi, isiD, mChn, chnL, cmpD, binD, addD, subD, mulD, modD, fdivD, powD, eqD, neD, ltD, leD, gtD, geD, isD, isnD, L2.M.isNon, negD, ixD, Bf.f, Bg.f, lenD, L2.M.intD, maxD, minD, repD, strD, gmaxD, gminD, sumD, sortD, anyD, allD, mCall, frz, fzO, lend, wb, mTup, mLst, fzs, cD, mAsg, bTup, bTps, mApp, tupD, lstD, mRev, revD, ofs_inj, ee_ii, ee_ss, ee_bb, ee_nn, ee_is, ee_si, ee_in, ee_ni, ee_tt, ee_ll, ee_maps, ee_0, ee_1, ee_2, ee_3, at_lit, at_nat, at_m1, at_m2, scD, emD, sizeLine_eq, ixN, sm_lit, mSrc, itemsD, plOf, rng1D, bNm, mSl, mPt, mNoP, slD, mPar, keepT, tmsO, setA, mFlow, zipX, enumX, itemsX, intsOf, ints_all, boolsOf, shaped_lay, lay_int, lay_bool, lay_none, lay_dict, lay_tup, lay_list, lay_ints, sortX_ints, mPlF, mPlI, mRd, mPU, mPB, mFSet, mFNew, mNSet, mPApp, mPSetIx, mPPop, mMeth, mNew, isIns, cellO, mLstN, mAddN, mAppN, semX, mTold, mCallX, xRet, xExpr, xSet, mRaise, mM, isL, isS, mOrV, truD])
local macro_rules | `(tactic| walk_at "es") => `(tactic| simp [semF, shared, after, mSeq, mSkip, mIf, mRet, mRetN, mRetV, mSet, mSetIx, mExpr, mB, mU, mTm, mPl, mK, mVar, mOp, mCons, mNil, bor, bors, mTst, mAndT, mOrT, mNotT, mAndE, mOrE, mNotE, mIfE, mIsi, isiD, mChn, chnL, cmpD, binD, addD, subD, mulD, modD, fdivD, powD, eqD, neD, ltD, leD, gtD, geD, isD, isnD, L2.M.isNon, negD, ixD, Bf.f, Bg.f, lenD, L2.M.intD, maxD, minD, repD, strD, gmaxD, gminD, sumD, sortD, anyD, allD, mCall, frz, fzO, lend, wb, mTup, mLst, fzs, cD, mAsg, bTup, bTps, mApp, tupD, lstD, mRev, revD, ofs_inj, ee_ii, ee_ss, ee_bb, ee_nn, ee_is, ee_si, ee_in, ee_ni, ee_tt, ee_ll, ee_maps, ee_0, ee_1, ee_2, ee_3, at_lit, at_nat, at_m1, at_m2, scD, emD, sizeLine_eq, ixN, sm_lit, mSrc, itemsD, plOf, rng1D, bNm, mSl, mPt, mNoP, slD, mPar, keepT, tmsO, setA, mFlow, zipX, enumX, itemsX, intsOf, ints_all, boolsOf, shaped_lay, lay_int, lay_bool, lay_none, lay_dict, lay_tup, lay_list, lay_ints, sortX_ints, mPlF, mPlI, mRd, mPU, mPB, mFSet, mFNew, mNSet, mPApp, mPSetIx, mPPop, mMeth, mNew, isIns, cellO, mLstN, mAddN, mAppN, semX, mTold, mCallX, xRet, xExpr, xSet, mRaise, mM, isL, isS, mOrV, truD, *])
local macro_rules | `(tactic| walk_at "el") => `(tactic| simp [semF, shared, after, mSeq, mSkip, mIf, mRet, mRetN, mRetV, mSet, mSetIx, mExpr, mB, mU, mTm, mPl, mK, mVar, mOp, mCons, mNil, bor, bors, mTst, mAndT, mOrT, mNotT, mAndE, mOrE, mNotE, mIfE, mIsi, isiD, mChn, chnL, cmpD, binD, addD, subD, mulD, modD, fdivD, powD, eqD, neD, ltD, leD, gtD, geD, isD, isnD, L2.M.isNon, negD, ixD, Bf.f, Bg.f, lenD, L2.M.intD, maxD, minD, repD, strD, gmaxD, gminD, sumD, sortD, anyD, allD, mCall, frz, fzO, lend, wb, mTup, mLst, fzs, cD, mAsg, bTup, bTps, mApp, tupD, lstD, mRev, revD, ofs_inj, ee_ii, ee_ss, ee_bb, ee_nn, ee_is, ee_si, ee_in, ee_ni, ee_tt, ee_ll, ee_maps, ee_0, ee_1, ee_2, ee_3, at_lit, at_nat, at_m1, at_m2, scD, emD, sizeLine_eq, ixN, sm_lit, mSrc, itemsD, plOf, rng1D, bNm, mSl, mPt, mNoP, slD, mPar, keepT, tmsO, setA, mFlow, zipX, enumX, itemsX, intsOf, ints_all, boolsOf, shaped_lay, lay_int, lay_bool, lay_none, lay_dict, lay_tup, lay_list, lay_ints, sortX_ints, mPlF, mPlI, mRd, mPU, mPB, mFSet, mFNew, mNSet, mPApp, mPSetIx, mPPop, mMeth, mNew, isIns, cellO, mLstN, mAddN, mAppN, semX, mTold, mCallX, xRet, xExpr, xSet, mRaise, mM, isL, isS, mOrV, truD, mLc, lcL, sameC, wipeC, restC, mYes, *])
local macro_rules | `(tactic| walk_at "ef") => `(tactic| simp [semF, shared, after, mSeq, mSkip, mIf, mRet, mRetN, mRetV, mSet, mSetIx, mExpr, mB, mU, mTm, mPl, mK, mVar, mOp, mCons, mNil, bor, bors, mTst, mAndT, mOrT, mNotT, mAndE, mOrE, mNotE, mIfE, mIsi, isiD, mChn, chnL, cmpD, binD, addD, subD, mulD, modD, fdivD, powD, eqD, neD, ltD, leD, gtD, geD, isD, isnD, L2.M.isNon, negD, ixD, Bf.f, Bg.f, lenD, L2.M.intD, maxD, minD, repD, strD, gmaxD, gminD, sumD, sortD, anyD, allD, mCall, frz, fzO, lend, wb, mTup, mLst, fzs, cD, mAsg, bTup, bTps, mApp, tupD, lstD, mRev, revD, ofs_inj, ee_ii, ee_ss, ee_bb, ee_nn, ee_is, ee_si, ee_in, ee_ni, ee_tt, ee_ll, ee_maps, ee_0, ee_1, ee_2, ee_3, at_lit, at_nat, at_m1, at_m2, scD, emD, sizeLine_eq, ixN, sm_lit, mSrc, itemsD, plOf, rng1D, bNm, mSl, mPt, mNoP, slD, mPar, keepT, tmsO, setA, mFlow, zipX, enumX, itemsX, intsOf, ints_all, boolsOf, shaped_lay, lay_int, lay_bool, lay_none, lay_dict, lay_tup, lay_list, lay_ints, sortX_ints, mPlF, mPlI, mRd, mPU, mPB, mFSet, mFNew, mNSet, mPApp, mPSetIx, mPPop, mMeth, mNew, isIns, cellO, mLstN, mAddN, mAppN, semX, mTold, mCallX, xRet, xExpr, xSet, mRaise, mM, isL, isS, mOrV, truD, mFor, forL, mLc, lcL, sameC, wipeC, restC, mYes, *])
local macro_rules | `(tactic| walk_at "rg") => `(tactic| (and_intros <;> grind))
local macro_rules | `(tactic| walk_at "nx") => `(tactic| (apply wx_nx; focus (walk_at "ev"; try first | exact ⟨rfl, rfl⟩ | rfl)))
local macro_rules | `(tactic| walk_at "ns") => `(tactic| (apply wx_nx; focus (walk_at "es"; try first | exact ⟨rfl, rfl⟩ | rfl)))
local macro_rules | `(tactic| walk_at "rt") => `(tactic| (apply wx_rt; focus (walk_at "ev"; try first | exact ⟨rfl, rfl⟩ | rfl)))
local macro_rules | `(tactic| walk_at "rs") => `(tactic| (apply wx_rt; focus (walk_at "es"; try first | exact ⟨rfl, rfl⟩ | rfl)))
local macro_rules | `(tactic| walk_at "ed") => `(tactic| simp [semF, shared, after, mSeq, mSkip, mIf, mRet, mRetN, mRetV, mSet, mSetIx, mExpr, mB, mU, mTm, mPl, mK, mVar, mOp, mCons, mNil, bor, bors, mTst, mAndT, mOrT, mNotT, mAndE, mOrE, mNotE, mIfE, mIsi, isiD, mChn, chnL, cmpD, binD, addD, subD, mulD, modD, fdivD, powD, eqD, neD, ltD, leD, gtD, geD, isD, isnD, L2.M.isNon, negD, ixD, Bf.f, Bg.f, lenD, L2.M.intD, maxD, minD, repD, strD, gmaxD, gminD, sumD, sortD, anyD, allD, mCall, frz, fzO, lend, wb, mTup, mLst, fzs, cD, mAsg, bTup, bTps, mApp, tupD, lstD, mRev, revD, ofs_inj, ee_ii, ee_ss, ee_bb, ee_nn, ee_is, ee_si, ee_in, ee_ni, ee_tt, ee_ll, ee_maps, ee_0, ee_1, ee_2, ee_3, at_lit, at_nat, at_m1, at_m2, scD, emD, sizeLine_eq, ixN, sm_lit, mSrc, itemsD, plOf, rng1D, bNm, mSl, mPt, mNoP, slD, mPar, keepT, tmsO, setA, mFlow, zipX, enumX, itemsX, intsOf, ints_all, boolsOf, shaped_lay, lay_int, lay_bool, lay_none, lay_dict, lay_tup, lay_list, lay_ints, sortX_ints, mPlF, mPlI, mRd, mPU, mPB, mFSet, mFNew, mNSet, mPApp, mPSetIx, mPPop, mMeth, mNew, isIns, cellO, mLstN, mAddN, mAppN, semX, mTold, mCallX, xRet, xExpr, xSet, mRaise, mM, isL, isS, mOrV, truD, mDNew, mDIn, mDGet, mDLen, mDPut, kyD, mNNew, mN1, mTake, mFnV, mCallF, mNIn, mNGet, mNPut, mNVals, mNList, nKs, mDGetD, mDList, mNNe, *])
/-- a caller -/
structure Ca where
  (a t m M K Z p r cp c0 F R T Mo N : Int)
def Ca.gp (q : Ca) : PyData := .tuple [.int q.a, .int q.t, .int q.m, .int q.M]
def Ca.pl (q : Ca) : PyData := .tuple [q.gp, .int q.K, .int q.Z]
def Ca.pu (q : Ca) : PyData := .tuple [.int q.p, .int q.r, .int q.cp, .int q.c0]
def Ca.ga (q : Ca) : PyData := gt5 q.F q.R q.T q.Mo q.N
def Ca.d (q : Ca) : PyData := .tuple [q.pl, q.pu, q.ga]
structure Ca.Ok (q : Ca) : Prop where
  g : Gp q.a q.t q.m q.M
  h : Gt q.F q.R q.T q.Mo q.N
  k : q.K ≤ 1000
  p0 : 0 ≤ q.p
  r0 : 0 ≤ q.r
  cp0 : 0 ≤ q.cp
  cp1 : q.cp ≤ 10 ^ 12
  c00 : 0 ≤ q.c0
  c01 : q.c0 ≤ q.cp
/-- one that waits -/
structure Wt where
  (due num beg tri : Int)
def Wt.d (x : Wt) : PyData := .tuple [.int x.due, .int x.num, .int x.beg, .int x.tri]
/-- what a beat holds -/
structure Bs where
  w : List Wt
  c : Int
  s : Sg
  n : Int
  e : List PyData
def Ca.gap (q : Ca) (k : Int) : Int := gs q.a q.t q.m q.M (k - 1).toNat
theorem Ca.Ok.gap_pos {q : Ca} (h : q.Ok) (k : Int) : 1 ≤ q.gap k := gs_pos h.g _
def goes (q : Ca) (t : Int) (c b k : Int) : Bool := decide (k < q.K) && (decide (t + q.gap k ≤ b + q.Z) && decide (q.r ≤ c))
def whatD (q : Ca) (t : Int) (c b k : Int) : PyData := if q.K ≤ k then .str "knocks" else if b + q.Z < t + q.gap k then .str "time" else if c < q.r then .str "purse" else .int (t + q.gap k)
def goS (q : Ca) (t : Int) (st : Bs) (n b k : Int) : Bs := if goes q t st.c b k = true then { st with c := st.c - q.r, w := st.w ++ [⟨t + q.gap k, n, b, k⟩] } else st
def wrd (s : Sg) (t : Int) (a : Bool) : Str := if letT s t = true then (if a = true then "served" else "silent") else "held"
def triS (q : Ca) (t : Int) (a : Bool) (s : Sg) : Sg := if letT s t = true then hrd q.F q.R q.T q.Mo q.N (letS s t) t a else letS s t
def srv (s : Sg) (t : Int) (a : Bool) : Bool := letT s t && a
def evt (q : Ca) (t : Int) (a : Bool) (st : Bs) (n b k : Int) : PyData := .tuple [.int n, .str (wrd st.s t a), if srv st.s t a = true then .none else whatD q t st.c b (k + 1)]
def tri0 (q : Ca) (t : Int) (a : Bool) (st : Bs) (n b k : Int) : Bs := if srv st.s t a = true then { st with s := triS q t a st.s } else goS q t { st with s := triS q t a st.s } n b (k + 1)
def tri (q : Ca) (t : Int) (a : Bool) (st : Bs) (x : Int × Int × Int) : Bs := { tri0 q t a st x.1 x.2.1 x.2.2 with e := st.e ++ [evt q t a st x.1 x.2.1 x.2.2] }
def Bs.Ok (t : Int) (st : Bs) : Prop := SgB st.s ∧ ∀ x ∈ st.w, t < x.due ∧ 0 ≤ x.tri ∧ x.tri ≤ 1000
theorem tri_e (q : Ca) (t : Int) (a : Bool) (st : Bs) (x : Int × Int × Int) : (tri q t a st x).e.length = st.e.length + 1 := by simp [tri]
theorem tri_w (q : Ca) (t : Int) (a : Bool) (st : Bs) (x : Int × Int × Int) : (tri q t a st x).w.length ≤ st.w.length + 1 := by
  unfold tri tri0 goS
  repeat' split
  all_goals simp
theorem triS_b {q : Ca} (h : q.Ok) {t : Int} (t0 : 0 ≤ t) (t1 : t ≤ 10 ^ 8) (a : Bool) {s : Sg} (hs : SgB s) : SgB (triS q t a s) := by
  unfold triS
  split
  · exact hrd_b h.h (letS_b hs t) t0 t1 _
  · exact letS_b hs t
theorem tri_ok {q : Ca} (h : q.Ok) {t : Int} (t0 : 0 ≤ t) (t1 : t ≤ 10 ^ 8) (a : Bool) {st : Bs} (x : Int × Int × Int) (hx : 0 ≤ x.2.2) (hs : st.Ok t) : (tri q t a st x).Ok t := by
  have b := triS_b h t0 t1 a hs.1
  have g := h.gap_pos (x.2.2 + 1)
  refine ⟨?_, ?_⟩
  · unfold tri tri0 goS
    repeat' split
    all_goals exact b
  · unfold tri tri0 goS
    repeat' split
    · exact hs.2
    · rename_i hg
      have hK : x.2.2 + 1 < q.K := by
        unfold goes at hg
        rw [Bool.and_eq_true] at hg
        exact of_decide_eq_true hg.1
      have := h.k
      intro y hy
      rcases List.mem_append.mp hy with hy | hy
      · exact hs.2 y hy
      · simp only [List.mem_singleton] at hy
        subst hy
        exact ⟨by show t < t + _; omega, by show 0 ≤ x.2.2 + 1; omega, by show x.2.2 + 1 ≤ 1000; omega⟩
    · exact hs.2
/-- an asking that begins -/
def fst1 (q : Ca) (t : Int) (a : Bool) (st : Bs) : Bs := tri q t a { st with c := (if st.c + q.p < q.cp then st.c + q.p else q.cp), n := st.n + 1 } (st.n, t, 0)
theorem fst1_ok {q : Ca} (h : q.Ok) {t : Int} (t0 : 0 ≤ t) (t1 : t ≤ 10 ^ 8) (a : Bool) {st : Bs} (hs : st.Ok t) : (fst1 q t a st).Ok t := tri_ok h t0 t1 a _ (by show (0 : Int) ≤ 0; omega) hs
def fsts (q : Ca) (t : Int) (a : Bool) : Nat → Bs → Bs
  | 0, st => st
  | k + 1, st => fst1 q t a (fsts q t a k st)
def Wt.x (y : Wt) : Int × Int × Int := (y.num, y.beg, y.tri)
/-- a beat's standing -/
structure Sd where
  t : Int
  w : List Wt
  c : Int
  s : Sg
  n : Int
def Sd.d (z : Sd) : PyData := .tuple [.int z.t, .tuple (z.w.map Wt.d), .int z.c, z.s.d, .int z.n]
def wsort (ws : List Wt) : List Wt := ws.mergeSort fun a b => tle (shp (ws.map Wt.d)) a.d b.d
theorem wsort_perm (ws : List Wt) : (wsort ws).Perm ws := List.mergeSort_perm ws _
theorem sortX_wt (ws : List Wt) : sortX [.list (ws.map Wt.d)] = some (.ls ((wsort ws).map Wt.d)) := by
  cases ws with
  | nil => simp [sortX, intsOf, wsort, isort]
  | cons x xs =>
    have h1 : intsOf ((x :: xs).map Wt.d) = none := by simp [Wt.d, intsOf]
    have h2 : tups ((x :: xs).map Wt.d) = true := by
      unfold tups
      rw [List.all_eq_true]
      intro d hd
      obtain ⟨y, hy, rfl⟩ := List.mem_map.mp hd
      simp [shp, Wt.d, dKey, dItems]
    have h3 : (wsort (x :: xs)).map Wt.d = tsort ((x :: xs).map Wt.d) := by
      unfold wsort tsort
      exact List.map_mergeSort fun a _ b _ => rfl
    simp only [sortX, h1, h2, h3, if_true]
def duel (ws : List Wt) (t : Int) : List Wt := ws.filter fun x => decide (x.due = t)
def restl (ws : List Wt) (t : Int) : List Wt := ws.filter fun x => !decide (x.due = t)
def Sd.st (z : Sd) : Bs := ⟨restl z.w z.t, z.c, z.s, z.n, []⟩
def Sd.Ok (z : Sd) : Prop := SgB z.s ∧ ∀ x ∈ z.w, z.t ≤ x.due ∧ 0 ≤ x.tri ∧ x.tri ≤ 1000
theorem Sd.Ok.st {z : Sd} (h : z.Ok) : z.st.Ok z.t := ⟨h.1, fun x hx => by
  obtain ⟨h1, h2⟩ := List.mem_filter.mp hx
  obtain ⟨h3, h4⟩ := h.2 x h1
  have : ¬ x.due = z.t := by simpa using h2
  exact ⟨by omega, h4⟩⟩
def bt1 (q : Ca) (a : Bool) (z : Sd) : Bs := (duel z.w z.t).foldl (fun st x => tri q z.t a st x.x) z.st
def bt2 (q : Ca) (a : Bool) (z : Sd) (k : Nat) : Bs := fsts q z.t a k (bt1 q a z)
def nxS (q : Ca) (a : Bool) (z : Sd) (k : Nat) : Sd := ⟨z.t + 1, wsort (bt2 q a z k).w, (bt2 q a z k).c, (bt2 q a z k).s, (bt2 q a z k).n⟩
def nxE (q : Ca) (a : Bool) (z : Sd) (k : Nat) : List PyData := (bt2 q a z k).e
theorem tris_ok {q : Ca} (h : q.Ok) {t : Int} (t0 : 0 ≤ t) (t1 : t ≤ 10 ^ 8) (a : Bool) : ∀ (xs : List Wt) (st : Bs), (∀ x ∈ xs, 0 ≤ x.tri) → st.Ok t → (xs.foldl (fun st x => tri q t a st x.x) st).Ok t
  | [], st, _, hs => hs
  | x :: xs, st, hx, hs => tris_ok h t0 t1 a xs _ (fun y hy => hx y (List.mem_cons_of_mem _ hy)) (tri_ok h t0 t1 a x.x (hx x List.mem_cons_self) hs)
theorem fsts_ok {q : Ca} (h : q.Ok) {t : Int} (t0 : 0 ≤ t) (t1 : t ≤ 10 ^ 8) (a : Bool) {st : Bs} (hs : st.Ok t) : ∀ k, (fsts q t a k st).Ok t
  | 0 => hs
  | k + 1 => fst1_ok h t0 t1 a (fsts_ok h t0 t1 a hs k)
theorem nxS_ok {q : Ca} (h : q.Ok) (a : Bool) {z : Sd} (t0 : 0 ≤ z.t) (t1 : z.t ≤ 10 ^ 8) (hz : z.Ok) (k : Nat) : (nxS q a z k).Ok := by
  have := fsts_ok h t0 t1 a (tris_ok h t0 t1 a (duel z.w z.t) z.st (fun x hx => (hz.2 x (List.mem_filter.mp hx).1).2.1) hz.st) k
  refine ⟨this.1, fun x hx => ?_⟩
  obtain ⟨h1, h2⟩ := this.2 x ((wsort_perm _).mem_iff.mp hx)
  exact ⟨by show z.t + 1 ≤ x.due; omega, h2⟩
theorem tris_len (q : Ca) (t : Int) (a : Bool) : ∀ (xs : List Wt) (st : Bs), (xs.foldl (fun st x => tri q t a st x.x) st).w.length ≤ st.w.length + xs.length ∧ (xs.foldl (fun st x => tri q t a st x.x) st).e.length = st.e.length + xs.length
  | [], st => ⟨Nat.le_refl _, rfl⟩
  | x :: xs, st => by
    obtain ⟨h1, h2⟩ := tris_len q t a xs (tri q t a st x.x)
    have h3 := tri_e q t a st x.x
    have h4 := tri_w q t a st x.x
    simp only [List.foldl_cons, List.length_cons]
    omega
theorem fsts_len (q : Ca) (t : Int) (a : Bool) (st : Bs) : ∀ k, (fsts q t a k st).w.length ≤ st.w.length + k ∧ (fsts q t a k st).e.length = st.e.length + k
  | 0 => ⟨Nat.le_refl _, rfl⟩
  | k + 1 => by
    obtain ⟨h1, h2⟩ := fsts_len q t a st k
    have h3 : (fst1 q t a (fsts q t a k st)).e.length = (fsts q t a k st).e.length + 1 := tri_e _ _ _ _ _
    have h4 : (fst1 q t a (fsts q t a k st)).w.length ≤ (fsts q t a k st).w.length + 1 := tri_w _ _ _ _ _
    simp only [fsts]
    omega
theorem part_len (ws : List Wt) (t : Int) : (duel ws t).length + (restl ws t).length = ws.length := by
  unfold duel restl
  induction ws with
  | nil => rfl
  | cons x xs ih => by_cases c : x.due = t <;> simp [c] <;> omega
theorem bt1_len (q : Ca) (a : Bool) (z : Sd) : (bt1 q a z).w.length ≤ z.w.length ∧ (bt1 q a z).e.length ≤ z.w.length := by
  obtain ⟨h1, h2⟩ := tris_len q z.t a (duel z.w z.t) z.st
  have := part_len z.w z.t
  have h3 : z.st.w.length = (restl z.w z.t).length := rfl
  have h4 : z.st.e.length = 0 := rfl
  unfold bt1
  omega
theorem nxS_len (q : Ca) (a : Bool) (z : Sd) (k : Nat) : (nxS q a z k).w.length ≤ z.w.length + k ∧ (nxE q a z k).length ≤ z.w.length + k := by
  obtain ⟨h1, h2⟩ := bt1_len q a z
  obtain ⟨h3, h4⟩ := fsts_len q z.t a (bt1 q a z) k
  have h5 := (wsort_perm (bt2 q a z k).w).length_eq
  unfold nxS nxE
  simp only [h5]
  unfold bt2
  omega
end KW
namespace KW
open PySem PySem.Spec PyProof.Rows L2 L2.M
local macro_rules | `(tactic| walk_at "ev") => `(tactic| simp [semF, shared, after, mSeq, mSkip, mIf, mRet, mRetN, mRetV, mSet, mSetIx, mExpr, mB, mU, mTm, mPl, mK, mVar, mOp, mCons, mNil, bor, bors, mTst, mAndT, mOrT, mNotT, mAndE, mOrE, mNotE, mIfE, mIsi, isiD, mChn, chnL, cmpD, binD, addD, subD, mulD, modD, fdivD, powD, eqD, neD, ltD, leD, gtD, geD, isD, isnD, L2.M.isNon, negD, ixD, Bf.f, Bg.f, lenD, L2.M.intD, maxD, minD, repD, strD, gmaxD, gminD, sumD, sortD, anyD, allD, mCall, frz, fzO, lend, wb, mTup, mLst, fzs, cD, mAsg, bTup, bTps, mApp, tupD, lstD, mRev, revD, ofs_inj, ee_ii, ee_ss, ee_bb, ee_nn, ee_is, ee_si, ee_in, ee_ni, ee_tt, ee_ll, ee_maps, ee_0, ee_1, ee_2, ee_3, at_lit, at_nat, at_m1, at_m2, scD, emD, sizeLine_eq, ixN, sm_lit, mSrc, itemsD, plOf, rng1D, bNm, mSl, mPt, mNoP, slD, mPar, keepT, tmsO, setA, mFlow, zipX, enumX, itemsX, intsOf, ints_all, boolsOf, shaped_lay, lay_int, lay_bool, lay_none, lay_dict, lay_tup, lay_list, lay_ints, sortX_ints, mPlF, mPlI, mRd, mPU, mPB, mFSet, mFNew, mNSet, mPApp, mPSetIx, mPPop, mMeth, mNew, isIns, cellO, mLstN, mAddN, mAppN, semX, mTold, mCallX, xRet, xExpr, xSet, mRaise, mM, isL, isS, mOrV, truD])
local macro_rules | `(tactic| walk_at "es") => `(tactic| simp [semF, shared, after, mSeq, mSkip, mIf, mRet, mRetN, mRetV, mSet, mSetIx, mExpr, mB, mU, mTm, mPl, mK, mVar, mOp, mCons, mNil, bor, bors, mTst, mAndT, mOrT, mNotT, mAndE, mOrE, mNotE, mIfE, mIsi, isiD, mChn, chnL, cmpD, binD, addD, subD, mulD, modD, fdivD, powD, eqD, neD, ltD, leD, gtD, geD, isD, isnD, L2.M.isNon, negD, ixD, Bf.f, Bg.f, lenD, L2.M.intD, maxD, minD, repD, strD, gmaxD, gminD, sumD, sortD, anyD, allD, mCall, frz, fzO, lend, wb, mTup, mLst, fzs, cD, mAsg, bTup, bTps, mApp, tupD, lstD, mRev, revD, ofs_inj, ee_ii, ee_ss, ee_bb, ee_nn, ee_is, ee_si, ee_in, ee_ni, ee_tt, ee_ll, ee_maps, ee_0, ee_1, ee_2, ee_3, at_lit, at_nat, at_m1, at_m2, scD, emD, sizeLine_eq, ixN, sm_lit, mSrc, itemsD, plOf, rng1D, bNm, mSl, mPt, mNoP, slD, mPar, keepT, tmsO, setA, mFlow, zipX, enumX, itemsX, intsOf, ints_all, boolsOf, shaped_lay, lay_int, lay_bool, lay_none, lay_dict, lay_tup, lay_list, lay_ints, sortX_ints, mPlF, mPlI, mRd, mPU, mPB, mFSet, mFNew, mNSet, mPApp, mPSetIx, mPPop, mMeth, mNew, isIns, cellO, mLstN, mAddN, mAppN, semX, mTold, mCallX, xRet, xExpr, xSet, mRaise, mM, isL, isS, mOrV, truD, *])
local macro_rules | `(tactic| walk_at "el") => `(tactic| simp [semF, shared, after, mSeq, mSkip, mIf, mRet, mRetN, mRetV, mSet, mSetIx, mExpr, mB, mU, mTm, mPl, mK, mVar, mOp, mCons, mNil, bor, bors, mTst, mAndT, mOrT, mNotT, mAndE, mOrE, mNotE, mIfE, mIsi, isiD, mChn, chnL, cmpD, binD, addD, subD, mulD, modD, fdivD, powD, eqD, neD, ltD, leD, gtD, geD, isD, isnD, L2.M.isNon, negD, ixD, Bf.f, Bg.f, lenD, L2.M.intD, maxD, minD, repD, strD, gmaxD, gminD, sumD, sortD, anyD, allD, mCall, frz, fzO, lend, wb, mTup, mLst, fzs, cD, mAsg, bTup, bTps, mApp, tupD, lstD, mRev, revD, ofs_inj, ee_ii, ee_ss, ee_bb, ee_nn, ee_is, ee_si, ee_in, ee_ni, ee_tt, ee_ll, ee_maps, ee_0, ee_1, ee_2, ee_3, at_lit, at_nat, at_m1, at_m2, scD, emD, sizeLine_eq, ixN, sm_lit, mSrc, itemsD, plOf, rng1D, bNm, mSl, mPt, mNoP, slD, mPar, keepT, tmsO, setA, mFlow, zipX, enumX, itemsX, intsOf, ints_all, boolsOf, shaped_lay, lay_int, lay_bool, lay_none, lay_dict, lay_tup, lay_list, lay_ints, sortX_ints, mPlF, mPlI, mRd, mPU, mPB, mFSet, mFNew, mNSet, mPApp, mPSetIx, mPPop, mMeth, mNew, isIns, cellO, mLstN, mAddN, mAppN, semX, mTold, mCallX, xRet, xExpr, xSet, mRaise, mM, isL, isS, mOrV, truD, mLc, lcL, sameC, wipeC, restC, mYes, *])
local macro_rules | `(tactic| walk_at "ef") => `(tactic| simp [semF, shared, after, mSeq, mSkip, mIf, mRet, mRetN, mRetV, mSet, mSetIx, mExpr, mB, mU, mTm, mPl, mK, mVar, mOp, mCons, mNil, bor, bors, mTst, mAndT, mOrT, mNotT, mAndE, mOrE, mNotE, mIfE, mIsi, isiD, mChn, chnL, cmpD, binD, addD, subD, mulD, modD, fdivD, powD, eqD, neD, ltD, leD, gtD, geD, isD, isnD, L2.M.isNon, negD, ixD, Bf.f, Bg.f, lenD, L2.M.intD, maxD, minD, repD, strD, gmaxD, gminD, sumD, sortD, anyD, allD, mCall, frz, fzO, lend, wb, mTup, mLst, fzs, cD, mAsg, bTup, bTps, mApp, tupD, lstD, mRev, revD, ofs_inj, ee_ii, ee_ss, ee_bb, ee_nn, ee_is, ee_si, ee_in, ee_ni, ee_tt, ee_ll, ee_maps, ee_0, ee_1, ee_2, ee_3, at_lit, at_nat, at_m1, at_m2, scD, emD, sizeLine_eq, ixN, sm_lit, mSrc, itemsD, plOf, rng1D, bNm, mSl, mPt, mNoP, slD, mPar, keepT, tmsO, setA, mFlow, zipX, enumX, itemsX, intsOf, ints_all, boolsOf, shaped_lay, lay_int, lay_bool, lay_none, lay_dict, lay_tup, lay_list, lay_ints, sortX_ints, mPlF, mPlI, mRd, mPU, mPB, mFSet, mFNew, mNSet, mPApp, mPSetIx, mPPop, mMeth, mNew, isIns, cellO, mLstN, mAddN, mAppN, semX, mTold, mCallX, xRet, xExpr, xSet, mRaise, mM, isL, isS, mOrV, truD, mFor, forL, mLc, lcL, sameC, wipeC, restC, mYes, *])
local macro_rules | `(tactic| walk_at "rg") => `(tactic| (and_intros <;> grind))
local macro_rules | `(tactic| walk_at "nx") => `(tactic| (apply wx_nx; focus (walk_at "ev"; try first | exact ⟨rfl, rfl⟩ | rfl)))
local macro_rules | `(tactic| walk_at "ns") => `(tactic| (apply wx_nx; focus (walk_at "es"; try first | exact ⟨rfl, rfl⟩ | rfl)))
local macro_rules | `(tactic| walk_at "rt") => `(tactic| (apply wx_rt; focus (walk_at "ev"; try first | exact ⟨rfl, rfl⟩ | rfl)))
local macro_rules | `(tactic| walk_at "rs") => `(tactic| (apply wx_rt; focus (walk_at "es"; try first | exact ⟨rfl, rfl⟩ | rfl)))
local macro_rules | `(tactic| walk_at "ed") => `(tactic| simp [semF, shared, after, mSeq, mSkip, mIf, mRet, mRetN, mRetV, mSet, mSetIx, mExpr, mB, mU, mTm, mPl, mK, mVar, mOp, mCons, mNil, bor, bors, mTst, mAndT, mOrT, mNotT, mAndE, mOrE, mNotE, mIfE, mIsi, isiD, mChn, chnL, cmpD, binD, addD, subD, mulD, modD, fdivD, powD, eqD, neD, ltD, leD, gtD, geD, isD, isnD, L2.M.isNon, negD, ixD, Bf.f, Bg.f, lenD, L2.M.intD, maxD, minD, repD, strD, gmaxD, gminD, sumD, sortD, anyD, allD, mCall, frz, fzO, lend, wb, mTup, mLst, fzs, cD, mAsg, bTup, bTps, mApp, tupD, lstD, mRev, revD, ofs_inj, ee_ii, ee_ss, ee_bb, ee_nn, ee_is, ee_si, ee_in, ee_ni, ee_tt, ee_ll, ee_maps, ee_0, ee_1, ee_2, ee_3, at_lit, at_nat, at_m1, at_m2, scD, emD, sizeLine_eq, ixN, sm_lit, mSrc, itemsD, plOf, rng1D, bNm, mSl, mPt, mNoP, slD, mPar, keepT, tmsO, setA, mFlow, zipX, enumX, itemsX, intsOf, ints_all, boolsOf, shaped_lay, lay_int, lay_bool, lay_none, lay_dict, lay_tup, lay_list, lay_ints, sortX_ints, mPlF, mPlI, mRd, mPU, mPB, mFSet, mFNew, mNSet, mPApp, mPSetIx, mPPop, mMeth, mNew, isIns, cellO, mLstN, mAddN, mAppN, semX, mTold, mCallX, xRet, xExpr, xSet, mRaise, mM, isL, isS, mOrV, truD, mDNew, mDIn, mDGet, mDLen, mDPut, kyD, mNNew, mN1, mTake, mFnV, mCallF, mNIn, mNGet, mNPut, mNVals, mNList, nKs, mDGetD, mDList, mNNe, *])
end KW
namespace KW
open PySem PySem.Spec PyProof.Rows L2 L2.M
local macro_rules | `(tactic| walk_at "ev") => `(tactic| simp [semF, shared, after, mSeq, mSkip, mIf, mRet, mRetN, mRetV, mSet, mSetIx, mExpr, mB, mU, mTm, mPl, mK, mVar, mOp, mCons, mNil, bor, bors, mTst, mAndT, mOrT, mNotT, mAndE, mOrE, mNotE, mIfE, mIsi, isiD, mChn, chnL, cmpD, binD, addD, subD, mulD, modD, fdivD, powD, eqD, neD, ltD, leD, gtD, geD, isD, isnD, L2.M.isNon, negD, ixD, Bf.f, Bg.f, lenD, L2.M.intD, maxD, minD, repD, strD, gmaxD, gminD, sumD, sortD, anyD, allD, mCall, frz, fzO, lend, wb, mTup, mLst, fzs, cD, mAsg, bTup, bTps, mApp, tupD, lstD, mRev, revD, ofs_inj, ee_ii, ee_ss, ee_bb, ee_nn, ee_is, ee_si, ee_in, ee_ni, ee_tt, ee_ll, ee_maps, ee_0, ee_1, ee_2, ee_3, at_lit, at_nat, at_m1, at_m2, scD, emD, sizeLine_eq, ixN, sm_lit, mSrc, itemsD, plOf, rng1D, bNm, mSl, mPt, mNoP, slD, mPar, keepT, tmsO, setA, mFlow, zipX, enumX, itemsX, intsOf, ints_all, boolsOf, shaped_lay, lay_int, lay_bool, lay_none, lay_dict, lay_tup, lay_list, lay_ints, sortX_ints, mPlF, mPlI, mRd, mPU, mPB, mFSet, mFNew, mNSet, mPApp, mPSetIx, mPPop, mMeth, mNew, isIns, cellO, mLstN, mAddN, mAppN, semX, mTold, mCallX, xRet, xExpr, xSet, mRaise, mM, isL, isS, mOrV, truD])
local macro_rules | `(tactic| walk_at "es") => `(tactic| simp [semF, shared, after, mSeq, mSkip, mIf, mRet, mRetN, mRetV, mSet, mSetIx, mExpr, mB, mU, mTm, mPl, mK, mVar, mOp, mCons, mNil, bor, bors, mTst, mAndT, mOrT, mNotT, mAndE, mOrE, mNotE, mIfE, mIsi, isiD, mChn, chnL, cmpD, binD, addD, subD, mulD, modD, fdivD, powD, eqD, neD, ltD, leD, gtD, geD, isD, isnD, L2.M.isNon, negD, ixD, Bf.f, Bg.f, lenD, L2.M.intD, maxD, minD, repD, strD, gmaxD, gminD, sumD, sortD, anyD, allD, mCall, frz, fzO, lend, wb, mTup, mLst, fzs, cD, mAsg, bTup, bTps, mApp, tupD, lstD, mRev, revD, ofs_inj, ee_ii, ee_ss, ee_bb, ee_nn, ee_is, ee_si, ee_in, ee_ni, ee_tt, ee_ll, ee_maps, ee_0, ee_1, ee_2, ee_3, at_lit, at_nat, at_m1, at_m2, scD, emD, sizeLine_eq, ixN, sm_lit, mSrc, itemsD, plOf, rng1D, bNm, mSl, mPt, mNoP, slD, mPar, keepT, tmsO, setA, mFlow, zipX, enumX, itemsX, intsOf, ints_all, boolsOf, shaped_lay, lay_int, lay_bool, lay_none, lay_dict, lay_tup, lay_list, lay_ints, sortX_ints, mPlF, mPlI, mRd, mPU, mPB, mFSet, mFNew, mNSet, mPApp, mPSetIx, mPPop, mMeth, mNew, isIns, cellO, mLstN, mAddN, mAppN, semX, mTold, mCallX, xRet, xExpr, xSet, mRaise, mM, isL, isS, mOrV, truD, *])
local macro_rules | `(tactic| walk_at "el") => `(tactic| simp [semF, shared, after, mSeq, mSkip, mIf, mRet, mRetN, mRetV, mSet, mSetIx, mExpr, mB, mU, mTm, mPl, mK, mVar, mOp, mCons, mNil, bor, bors, mTst, mAndT, mOrT, mNotT, mAndE, mOrE, mNotE, mIfE, mIsi, isiD, mChn, chnL, cmpD, binD, addD, subD, mulD, modD, fdivD, powD, eqD, neD, ltD, leD, gtD, geD, isD, isnD, L2.M.isNon, negD, ixD, Bf.f, Bg.f, lenD, L2.M.intD, maxD, minD, repD, strD, gmaxD, gminD, sumD, sortD, anyD, allD, mCall, frz, fzO, lend, wb, mTup, mLst, fzs, cD, mAsg, bTup, bTps, mApp, tupD, lstD, mRev, revD, ofs_inj, ee_ii, ee_ss, ee_bb, ee_nn, ee_is, ee_si, ee_in, ee_ni, ee_tt, ee_ll, ee_maps, ee_0, ee_1, ee_2, ee_3, at_lit, at_nat, at_m1, at_m2, scD, emD, sizeLine_eq, ixN, sm_lit, mSrc, itemsD, plOf, rng1D, bNm, mSl, mPt, mNoP, slD, mPar, keepT, tmsO, setA, mFlow, zipX, enumX, itemsX, intsOf, ints_all, boolsOf, shaped_lay, lay_int, lay_bool, lay_none, lay_dict, lay_tup, lay_list, lay_ints, sortX_ints, mPlF, mPlI, mRd, mPU, mPB, mFSet, mFNew, mNSet, mPApp, mPSetIx, mPPop, mMeth, mNew, isIns, cellO, mLstN, mAddN, mAppN, semX, mTold, mCallX, xRet, xExpr, xSet, mRaise, mM, isL, isS, mOrV, truD, mLc, lcL, sameC, wipeC, restC, mYes, *])
local macro_rules | `(tactic| walk_at "ef") => `(tactic| simp [semF, shared, after, mSeq, mSkip, mIf, mRet, mRetN, mRetV, mSet, mSetIx, mExpr, mB, mU, mTm, mPl, mK, mVar, mOp, mCons, mNil, bor, bors, mTst, mAndT, mOrT, mNotT, mAndE, mOrE, mNotE, mIfE, mIsi, isiD, mChn, chnL, cmpD, binD, addD, subD, mulD, modD, fdivD, powD, eqD, neD, ltD, leD, gtD, geD, isD, isnD, L2.M.isNon, negD, ixD, Bf.f, Bg.f, lenD, L2.M.intD, maxD, minD, repD, strD, gmaxD, gminD, sumD, sortD, anyD, allD, mCall, frz, fzO, lend, wb, mTup, mLst, fzs, cD, mAsg, bTup, bTps, mApp, tupD, lstD, mRev, revD, ofs_inj, ee_ii, ee_ss, ee_bb, ee_nn, ee_is, ee_si, ee_in, ee_ni, ee_tt, ee_ll, ee_maps, ee_0, ee_1, ee_2, ee_3, at_lit, at_nat, at_m1, at_m2, scD, emD, sizeLine_eq, ixN, sm_lit, mSrc, itemsD, plOf, rng1D, bNm, mSl, mPt, mNoP, slD, mPar, keepT, tmsO, setA, mFlow, zipX, enumX, itemsX, intsOf, ints_all, boolsOf, shaped_lay, lay_int, lay_bool, lay_none, lay_dict, lay_tup, lay_list, lay_ints, sortX_ints, mPlF, mPlI, mRd, mPU, mPB, mFSet, mFNew, mNSet, mPApp, mPSetIx, mPPop, mMeth, mNew, isIns, cellO, mLstN, mAddN, mAppN, semX, mTold, mCallX, xRet, xExpr, xSet, mRaise, mM, isL, isS, mOrV, truD, mFor, forL, mLc, lcL, sameC, wipeC, restC, mYes, *])
local macro_rules | `(tactic| walk_at "rg") => `(tactic| (and_intros <;> grind))
local macro_rules | `(tactic| walk_at "nx") => `(tactic| (apply wx_nx; focus (walk_at "ev"; try first | exact ⟨rfl, rfl⟩ | rfl)))
local macro_rules | `(tactic| walk_at "ns") => `(tactic| (apply wx_nx; focus (walk_at "es"; try first | exact ⟨rfl, rfl⟩ | rfl)))
local macro_rules | `(tactic| walk_at "rt") => `(tactic| (apply wx_rt; focus (walk_at "ev"; try first | exact ⟨rfl, rfl⟩ | rfl)))
local macro_rules | `(tactic| walk_at "rs") => `(tactic| (apply wx_rt; focus (walk_at "es"; try first | exact ⟨rfl, rfl⟩ | rfl)))
local macro_rules | `(tactic| walk_at "ed") => `(tactic| simp [semF, shared, after, mSeq, mSkip, mIf, mRet, mRetN, mRetV, mSet, mSetIx, mExpr, mB, mU, mTm, mPl, mK, mVar, mOp, mCons, mNil, bor, bors, mTst, mAndT, mOrT, mNotT, mAndE, mOrE, mNotE, mIfE, mIsi, isiD, mChn, chnL, cmpD, binD, addD, subD, mulD, modD, fdivD, powD, eqD, neD, ltD, leD, gtD, geD, isD, isnD, L2.M.isNon, negD, ixD, Bf.f, Bg.f, lenD, L2.M.intD, maxD, minD, repD, strD, gmaxD, gminD, sumD, sortD, anyD, allD, mCall, frz, fzO, lend, wb, mTup, mLst, fzs, cD, mAsg, bTup, bTps, mApp, tupD, lstD, mRev, revD, ofs_inj, ee_ii, ee_ss, ee_bb, ee_nn, ee_is, ee_si, ee_in, ee_ni, ee_tt, ee_ll, ee_maps, ee_0, ee_1, ee_2, ee_3, at_lit, at_nat, at_m1, at_m2, scD, emD, sizeLine_eq, ixN, sm_lit, mSrc, itemsD, plOf, rng1D, bNm, mSl, mPt, mNoP, slD, mPar, keepT, tmsO, setA, mFlow, zipX, enumX, itemsX, intsOf, ints_all, boolsOf, shaped_lay, lay_int, lay_bool, lay_none, lay_dict, lay_tup, lay_list, lay_ints, sortX_ints, mPlF, mPlI, mRd, mPU, mPB, mFSet, mFNew, mNSet, mPApp, mPSetIx, mPPop, mMeth, mNew, isIns, cellO, mLstN, mAddN, mAppN, semX, mTold, mCallX, xRet, xExpr, xSet, mRaise, mM, isL, isS, mOrV, truD, mDNew, mDIn, mDGet, mDLen, mDPut, kyD, mNNew, mN1, mTake, mFnV, mCallF, mNIn, mNGet, mNPut, mNVals, mNList, nKs, mDGetD, mDList, mNNe, *])
/-- a comprehension over items of one form, those that a test lets through -/
theorem mLc_encF {α : Type} (f e : α → PyData) (q : α → Bool) {i : Nat} {src : SM} {tests : TM} {m : EM} {ε ε1 : Cs} {xs : List α} {c0 : C} {ws : List Nat} (hs : src ε = some ((xs.map f, ws), ε1)) (h1 : ε1[i]? = some c0) (ht : ∀ x ∈ xs, tests (ε1.set i (.sh (f x))) = some (q x, ε1.set i (.sh (f x)))) (h : ∀ x ∈ xs, q x = true → ∃ c, m (ε1.set i (.sh (f x))) = some (c, ε1.set i (.sh (f x))) ∧ cD c = some (e x)) (hn : xs.length ≤ sizeLine) (hw : ws.all (fun j => !([i] : List Nat).contains j) = true := by rfl) :
    mLc src (bNm i) tests m [i] ε = some (.ls ((xs.filter q).map e), ε1) := by
  have hl : i < ε1.length := (List.getElem?_eq_some_iff.mp h1).1
  have hsm : sameC ws ε1 (ε1.set i .no) := by
    intro j hj
    have := List.all_eq_true.mp hw j hj
    have ne : i ≠ j := by
      rintro rfl
      simp at this
    rw [List.getElem?_set_ne ne]
  obtain ⟨out, ε2, e1, e2, e3⟩ := lc_rule (src := src) (bind := bNm i) (tests := tests) (elt := m) (own := [i]) (ε := ε) (fun k out ε2 => out = ((xs.take k).filter q).map e ∧ ε2 = ε1.set i .no) hs hw ⟨by simp, by simp [wipeC]⟩ (fun _ _ _ h => by rw [h.2]; exact hsm) (by simpa using hn) (by
    rintro k d out ε2 hd ⟨rfl, rfl⟩
    rw [List.getElem?_map] at hd
    obtain ⟨x, hx, rfl⟩ := Option.map_eq_some_iff.mp hd
    obtain ⟨hk, rfl⟩ := List.getElem?_eq_some_iff.mp hx
    refine ⟨ε1.set i (.sh (f xs[k])), q xs[k], _, by simp [bNm, hl], ht _ (List.getElem_mem hk), fun z => ⟨?_, ?_⟩, fun z => ?_⟩
    · rw [List.take_succ_eq_append_getElem hk, List.filter_append]
      simp [z]
    · simp [wipeC]
    · obtain ⟨c, g1, g2⟩ := h _ (List.getElem_mem hk) z
      refine ⟨c, _, _, g1, g2, ?_, ?_⟩
      · rw [List.take_succ_eq_append_getElem hk, List.filter_append]
        simp [z]
      · simp [wipeC])
  subst e3
  rw [List.length_map, List.take_of_length_le (Nat.le_refl _)] at e2
  subst e2
  rw [e1]
  simp only [restC, h1]
  rw [set_back h1]
theorem rng_nat0 {k : Nat} (j : Int) (e : j = k) (hk : 0 ≤ j ∧ j ≤ 8000000) : rng1D [.int j] = some (rangeD 0 1 k) := by
  simp only [rng1D]
  rw [if_pos ⟨by omega, by omega⟩, e, Int.toNat_natCast]
theorem rng_nat {k : Nat} (hk : k ≤ 8000000) : rng1D [.int k] = some (rangeD 0 1 k) := rng_nat0 _ rfl ⟨by omega, by omega⟩
theorem src_f {f : List PyData → Option (List PyData)} {d : PyData} {ds : List PyData} {ε ε1 : Cs} {m : EM} (h : m ε = some (.sh d, ε1)) (hf : f [d] = some ds) : mSrc f (mCons (mTm m) mNil) ε = some ((ds, []), ε1) := by
  simp [mSrc, mCons, mTm, mNil, bors, bor, plOf, hf, h]
theorem src_rng {k : Nat} (hk : k ≤ 8000000) {ε : Cs} {i : Nat} (h : ε[i]? = some (.sh (.int k))) : mSrc rng1D (mCons (mTm (mVar i)) mNil) ε = some ((rangeD 0 1 k, []), ε) := src_f (by simp [mVar, h]) (rng_nat hk)
end KW
namespace KW
open PySem PySem.Spec PyProof.Rows L2 L2.M
local macro_rules | `(tactic| walk_at "ev") => `(tactic| simp [semF, shared, after, mSeq, mSkip, mIf, mRet, mRetN, mRetV, mSet, mSetIx, mExpr, mB, mU, mTm, mPl, mK, mVar, mOp, mCons, mNil, bor, bors, mTst, mAndT, mOrT, mNotT, mAndE, mOrE, mNotE, mIfE, mIsi, isiD, mChn, chnL, cmpD, binD, addD, subD, mulD, modD, fdivD, powD, eqD, neD, ltD, leD, gtD, geD, isD, isnD, L2.M.isNon, negD, ixD, Bf.f, Bg.f, lenD, L2.M.intD, maxD, minD, repD, strD, gmaxD, gminD, sumD, sortD, anyD, allD, mCall, frz, fzO, lend, wb, mTup, mLst, fzs, cD, mAsg, bTup, bTps, mApp, tupD, lstD, mRev, revD, ofs_inj, ee_ii, ee_ss, ee_bb, ee_nn, ee_is, ee_si, ee_in, ee_ni, ee_tt, ee_ll, ee_maps, ee_0, ee_1, ee_2, ee_3, at_lit, at_nat, at_m1, at_m2, scD, emD, sizeLine_eq, ixN, sm_lit, mSrc, itemsD, plOf, rng1D, bNm, mSl, mPt, mNoP, slD, mPar, keepT, tmsO, setA, mFlow, zipX, enumX, itemsX, intsOf, ints_all, boolsOf, shaped_lay, lay_int, lay_bool, lay_none, lay_dict, lay_tup, lay_list, lay_ints, sortX_ints, mPlF, mPlI, mRd, mPU, mPB, mFSet, mFNew, mNSet, mPApp, mPSetIx, mPPop, mMeth, mNew, isIns, cellO, mLstN, mAddN, mAppN, semX, mTold, mCallX, xRet, xExpr, xSet, mRaise, mM, isL, isS, mOrV, truD])
local macro_rules | `(tactic| walk_at "es") => `(tactic| simp [semF, shared, after, mSeq, mSkip, mIf, mRet, mRetN, mRetV, mSet, mSetIx, mExpr, mB, mU, mTm, mPl, mK, mVar, mOp, mCons, mNil, bor, bors, mTst, mAndT, mOrT, mNotT, mAndE, mOrE, mNotE, mIfE, mIsi, isiD, mChn, chnL, cmpD, binD, addD, subD, mulD, modD, fdivD, powD, eqD, neD, ltD, leD, gtD, geD, isD, isnD, L2.M.isNon, negD, ixD, Bf.f, Bg.f, lenD, L2.M.intD, maxD, minD, repD, strD, gmaxD, gminD, sumD, sortD, anyD, allD, mCall, frz, fzO, lend, wb, mTup, mLst, fzs, cD, mAsg, bTup, bTps, mApp, tupD, lstD, mRev, revD, ofs_inj, ee_ii, ee_ss, ee_bb, ee_nn, ee_is, ee_si, ee_in, ee_ni, ee_tt, ee_ll, ee_maps, ee_0, ee_1, ee_2, ee_3, at_lit, at_nat, at_m1, at_m2, scD, emD, sizeLine_eq, ixN, sm_lit, mSrc, itemsD, plOf, rng1D, bNm, mSl, mPt, mNoP, slD, mPar, keepT, tmsO, setA, mFlow, zipX, enumX, itemsX, intsOf, ints_all, boolsOf, shaped_lay, lay_int, lay_bool, lay_none, lay_dict, lay_tup, lay_list, lay_ints, sortX_ints, mPlF, mPlI, mRd, mPU, mPB, mFSet, mFNew, mNSet, mPApp, mPSetIx, mPPop, mMeth, mNew, isIns, cellO, mLstN, mAddN, mAppN, semX, mTold, mCallX, xRet, xExpr, xSet, mRaise, mM, isL, isS, mOrV, truD, *])
local macro_rules | `(tactic| walk_at "el") => `(tactic| simp [semF, shared, after, mSeq, mSkip, mIf, mRet, mRetN, mRetV, mSet, mSetIx, mExpr, mB, mU, mTm, mPl, mK, mVar, mOp, mCons, mNil, bor, bors, mTst, mAndT, mOrT, mNotT, mAndE, mOrE, mNotE, mIfE, mIsi, isiD, mChn, chnL, cmpD, binD, addD, subD, mulD, modD, fdivD, powD, eqD, neD, ltD, leD, gtD, geD, isD, isnD, L2.M.isNon, negD, ixD, Bf.f, Bg.f, lenD, L2.M.intD, maxD, minD, repD, strD, gmaxD, gminD, sumD, sortD, anyD, allD, mCall, frz, fzO, lend, wb, mTup, mLst, fzs, cD, mAsg, bTup, bTps, mApp, tupD, lstD, mRev, revD, ofs_inj, ee_ii, ee_ss, ee_bb, ee_nn, ee_is, ee_si, ee_in, ee_ni, ee_tt, ee_ll, ee_maps, ee_0, ee_1, ee_2, ee_3, at_lit, at_nat, at_m1, at_m2, scD, emD, sizeLine_eq, ixN, sm_lit, mSrc, itemsD, plOf, rng1D, bNm, mSl, mPt, mNoP, slD, mPar, keepT, tmsO, setA, mFlow, zipX, enumX, itemsX, intsOf, ints_all, boolsOf, shaped_lay, lay_int, lay_bool, lay_none, lay_dict, lay_tup, lay_list, lay_ints, sortX_ints, mPlF, mPlI, mRd, mPU, mPB, mFSet, mFNew, mNSet, mPApp, mPSetIx, mPPop, mMeth, mNew, isIns, cellO, mLstN, mAddN, mAppN, semX, mTold, mCallX, xRet, xExpr, xSet, mRaise, mM, isL, isS, mOrV, truD, mLc, lcL, sameC, wipeC, restC, mYes, *])
local macro_rules | `(tactic| walk_at "ef") => `(tactic| simp [semF, shared, after, mSeq, mSkip, mIf, mRet, mRetN, mRetV, mSet, mSetIx, mExpr, mB, mU, mTm, mPl, mK, mVar, mOp, mCons, mNil, bor, bors, mTst, mAndT, mOrT, mNotT, mAndE, mOrE, mNotE, mIfE, mIsi, isiD, mChn, chnL, cmpD, binD, addD, subD, mulD, modD, fdivD, powD, eqD, neD, ltD, leD, gtD, geD, isD, isnD, L2.M.isNon, negD, ixD, Bf.f, Bg.f, lenD, L2.M.intD, maxD, minD, repD, strD, gmaxD, gminD, sumD, sortD, anyD, allD, mCall, frz, fzO, lend, wb, mTup, mLst, fzs, cD, mAsg, bTup, bTps, mApp, tupD, lstD, mRev, revD, ofs_inj, ee_ii, ee_ss, ee_bb, ee_nn, ee_is, ee_si, ee_in, ee_ni, ee_tt, ee_ll, ee_maps, ee_0, ee_1, ee_2, ee_3, at_lit, at_nat, at_m1, at_m2, scD, emD, sizeLine_eq, ixN, sm_lit, mSrc, itemsD, plOf, rng1D, bNm, mSl, mPt, mNoP, slD, mPar, keepT, tmsO, setA, mFlow, zipX, enumX, itemsX, intsOf, ints_all, boolsOf, shaped_lay, lay_int, lay_bool, lay_none, lay_dict, lay_tup, lay_list, lay_ints, sortX_ints, mPlF, mPlI, mRd, mPU, mPB, mFSet, mFNew, mNSet, mPApp, mPSetIx, mPPop, mMeth, mNew, isIns, cellO, mLstN, mAddN, mAppN, semX, mTold, mCallX, xRet, xExpr, xSet, mRaise, mM, isL, isS, mOrV, truD, mFor, forL, mLc, lcL, sameC, wipeC, restC, mYes, *])
local macro_rules | `(tactic| walk_at "rg") => `(tactic| (and_intros <;> grind))
local macro_rules | `(tactic| walk_at "nx") => `(tactic| (apply wx_nx; focus (walk_at "ev"; try first | exact ⟨rfl, rfl⟩ | rfl)))
local macro_rules | `(tactic| walk_at "ns") => `(tactic| (apply wx_nx; focus (walk_at "es"; try first | exact ⟨rfl, rfl⟩ | rfl)))
local macro_rules | `(tactic| walk_at "rt") => `(tactic| (apply wx_rt; focus (walk_at "ev"; try first | exact ⟨rfl, rfl⟩ | rfl)))
local macro_rules | `(tactic| walk_at "rs") => `(tactic| (apply wx_rt; focus (walk_at "es"; try first | exact ⟨rfl, rfl⟩ | rfl)))
local macro_rules | `(tactic| walk_at "ed") => `(tactic| simp [semF, shared, after, mSeq, mSkip, mIf, mRet, mRetN, mRetV, mSet, mSetIx, mExpr, mB, mU, mTm, mPl, mK, mVar, mOp, mCons, mNil, bor, bors, mTst, mAndT, mOrT, mNotT, mAndE, mOrE, mNotE, mIfE, mIsi, isiD, mChn, chnL, cmpD, binD, addD, subD, mulD, modD, fdivD, powD, eqD, neD, ltD, leD, gtD, geD, isD, isnD, L2.M.isNon, negD, ixD, Bf.f, Bg.f, lenD, L2.M.intD, maxD, minD, repD, strD, gmaxD, gminD, sumD, sortD, anyD, allD, mCall, frz, fzO, lend, wb, mTup, mLst, fzs, cD, mAsg, bTup, bTps, mApp, tupD, lstD, mRev, revD, ofs_inj, ee_ii, ee_ss, ee_bb, ee_nn, ee_is, ee_si, ee_in, ee_ni, ee_tt, ee_ll, ee_maps, ee_0, ee_1, ee_2, ee_3, at_lit, at_nat, at_m1, at_m2, scD, emD, sizeLine_eq, ixN, sm_lit, mSrc, itemsD, plOf, rng1D, bNm, mSl, mPt, mNoP, slD, mPar, keepT, tmsO, setA, mFlow, zipX, enumX, itemsX, intsOf, ints_all, boolsOf, shaped_lay, lay_int, lay_bool, lay_none, lay_dict, lay_tup, lay_list, lay_ints, sortX_ints, mPlF, mPlI, mRd, mPU, mPB, mFSet, mFNew, mNSet, mPApp, mPSetIx, mPPop, mMeth, mNew, isIns, cellO, mLstN, mAddN, mAppN, semX, mTold, mCallX, xRet, xExpr, xSet, mRaise, mM, isL, isS, mOrV, truD, mDNew, mDIn, mDGet, mDLen, mDPut, kyD, mNNew, mN1, mTake, mFnV, mCallF, mNIn, mNGet, mNPut, mNVals, mNList, nKs, mDGetD, mDList, mNNe, *])
def evD (n : Int) (w : Str) (x : PyData) : PyData := .tuple [.int n, .str w, x]
inductive WhT : PyData → Prop where
  | none : WhT .none
  | int (i : Int) : WhT (.int i)
  | k : WhT (.str "knocks")
  | t : WhT (.str "time")
  | p : WhT (.str "purse")
inductive WdT : Str → Prop where
  | held : WdT "held"
  | silent : WdT "silent"
  | served : WdT "served"
def Ev (d : PyData) : Prop := ∃ n w x, d = evD n w x ∧ WdT w ∧ WhT x
theorem evt_ev (q : Ca) (t : Int) (a : Bool) (st : Bs) (n b k : Int) : Ev (evt q t a st n b k) := by
  refine ⟨n, wrd st.s t a, _, rfl, ?_, ?_⟩
  · unfold wrd
    split
    · cases a with
      | true => exact .served
      | false => exact .silent
    · exact .held
  · unfold whatD
    repeat' split
    all_goals constructor
theorem tri_ev {q : Ca} {t : Int} {a : Bool} {st : Bs} {x : Int × Int × Int} (h : ∀ d ∈ st.e, Ev d) : ∀ d ∈ (tri q t a st x).e, Ev d := by
  intro d hd
  rcases List.mem_append.mp (show d ∈ st.e ++ [evt q t a st x.1 x.2.1 x.2.2] from hd) with hd | hd
  · exact h d hd
  · rw [List.mem_singleton.mp hd]
    exact evt_ev _ _ _ _ _ _ _
theorem tris_ev {q : Ca} {t : Int} {a : Bool} : ∀ (xs : List Wt) {st : Bs}, (∀ d ∈ st.e, Ev d) → ∀ d ∈ (xs.foldl (fun st x => tri q t a st x.x) st).e, Ev d
  | [], st, h => h
  | x :: xs, st, h => tris_ev xs (tri_ev h)
theorem fsts_ev {q : Ca} {t : Int} {a : Bool} {st : Bs} (h : ∀ d ∈ st.e, Ev d) : ∀ k : Nat, ∀ d ∈ (fsts q t a k st).e, Ev d
  | 0 => by rw [fsts]; exact h
  | k + 1 => by
    rw [fsts]
    exact tri_ev (st := { fsts q t a k st with c := _, n := _ }) (fsts_ev h k)
theorem nxE_ev (q : Ca) (a : Bool) (z : Sd) (k : Nat) : ∀ d ∈ nxE q a z k, Ev d := fsts_ev (tris_ev _ (fun d hd => by cases hd)) k
end KW
namespace KW
open PySem PySem.Spec PyProof.Rows L2 L2.M
local macro_rules | `(tactic| walk_at "ev") => `(tactic| simp [semF, shared, after, mSeq, mSkip, mIf, mRet, mRetN, mRetV, mSet, mSetIx, mExpr, mB, mU, mTm, mPl, mK, mVar, mOp, mCons, mNil, bor, bors, mTst, mAndT, mOrT, mNotT, mAndE, mOrE, mNotE, mIfE, mIsi, isiD, mChn, chnL, cmpD, binD, addD, subD, mulD, modD, fdivD, powD, eqD, neD, ltD, leD, gtD, geD, isD, isnD, L2.M.isNon, negD, ixD, Bf.f, Bg.f, lenD, L2.M.intD, maxD, minD, repD, strD, gmaxD, gminD, sumD, sortD, anyD, allD, mCall, frz, fzO, lend, wb, mTup, mLst, fzs, cD, mAsg, bTup, bTps, mApp, tupD, lstD, mRev, revD, ofs_inj, ee_ii, ee_ss, ee_bb, ee_nn, ee_is, ee_si, ee_in, ee_ni, ee_tt, ee_ll, ee_maps, ee_0, ee_1, ee_2, ee_3, at_lit, at_nat, at_m1, at_m2, scD, emD, sizeLine_eq, ixN, sm_lit, mSrc, itemsD, plOf, rng1D, bNm, mSl, mPt, mNoP, slD, mPar, keepT, tmsO, setA, mFlow, zipX, enumX, itemsX, intsOf, ints_all, boolsOf, shaped_lay, lay_int, lay_bool, lay_none, lay_dict, lay_tup, lay_list, lay_ints, sortX_ints, mPlF, mPlI, mRd, mPU, mPB, mFSet, mFNew, mNSet, mPApp, mPSetIx, mPPop, mMeth, mNew, isIns, cellO, mLstN, mAddN, mAppN, semX, mTold, mCallX, xRet, xExpr, xSet, mRaise, mM, isL, isS, mOrV, truD])
local macro_rules | `(tactic| walk_at "es") => `(tactic| simp [semF, shared, after, mSeq, mSkip, mIf, mRet, mRetN, mRetV, mSet, mSetIx, mExpr, mB, mU, mTm, mPl, mK, mVar, mOp, mCons, mNil, bor, bors, mTst, mAndT, mOrT, mNotT, mAndE, mOrE, mNotE, mIfE, mIsi, isiD, mChn, chnL, cmpD, binD, addD, subD, mulD, modD, fdivD, powD, eqD, neD, ltD, leD, gtD, geD, isD, isnD, L2.M.isNon, negD, ixD, Bf.f, Bg.f, lenD, L2.M.intD, maxD, minD, repD, strD, gmaxD, gminD, sumD, sortD, anyD, allD, mCall, frz, fzO, lend, wb, mTup, mLst, fzs, cD, mAsg, bTup, bTps, mApp, tupD, lstD, mRev, revD, ofs_inj, ee_ii, ee_ss, ee_bb, ee_nn, ee_is, ee_si, ee_in, ee_ni, ee_tt, ee_ll, ee_maps, ee_0, ee_1, ee_2, ee_3, at_lit, at_nat, at_m1, at_m2, scD, emD, sizeLine_eq, ixN, sm_lit, mSrc, itemsD, plOf, rng1D, bNm, mSl, mPt, mNoP, slD, mPar, keepT, tmsO, setA, mFlow, zipX, enumX, itemsX, intsOf, ints_all, boolsOf, shaped_lay, lay_int, lay_bool, lay_none, lay_dict, lay_tup, lay_list, lay_ints, sortX_ints, mPlF, mPlI, mRd, mPU, mPB, mFSet, mFNew, mNSet, mPApp, mPSetIx, mPPop, mMeth, mNew, isIns, cellO, mLstN, mAddN, mAppN, semX, mTold, mCallX, xRet, xExpr, xSet, mRaise, mM, isL, isS, mOrV, truD, *])
local macro_rules | `(tactic| walk_at "el") => `(tactic| simp [semF, shared, after, mSeq, mSkip, mIf, mRet, mRetN, mRetV, mSet, mSetIx, mExpr, mB, mU, mTm, mPl, mK, mVar, mOp, mCons, mNil, bor, bors, mTst, mAndT, mOrT, mNotT, mAndE, mOrE, mNotE, mIfE, mIsi, isiD, mChn, chnL, cmpD, binD, addD, subD, mulD, modD, fdivD, powD, eqD, neD, ltD, leD, gtD, geD, isD, isnD, L2.M.isNon, negD, ixD, Bf.f, Bg.f, lenD, L2.M.intD, maxD, minD, repD, strD, gmaxD, gminD, sumD, sortD, anyD, allD, mCall, frz, fzO, lend, wb, mTup, mLst, fzs, cD, mAsg, bTup, bTps, mApp, tupD, lstD, mRev, revD, ofs_inj, ee_ii, ee_ss, ee_bb, ee_nn, ee_is, ee_si, ee_in, ee_ni, ee_tt, ee_ll, ee_maps, ee_0, ee_1, ee_2, ee_3, at_lit, at_nat, at_m1, at_m2, scD, emD, sizeLine_eq, ixN, sm_lit, mSrc, itemsD, plOf, rng1D, bNm, mSl, mPt, mNoP, slD, mPar, keepT, tmsO, setA, mFlow, zipX, enumX, itemsX, intsOf, ints_all, boolsOf, shaped_lay, lay_int, lay_bool, lay_none, lay_dict, lay_tup, lay_list, lay_ints, sortX_ints, mPlF, mPlI, mRd, mPU, mPB, mFSet, mFNew, mNSet, mPApp, mPSetIx, mPPop, mMeth, mNew, isIns, cellO, mLstN, mAddN, mAppN, semX, mTold, mCallX, xRet, xExpr, xSet, mRaise, mM, isL, isS, mOrV, truD, mLc, lcL, sameC, wipeC, restC, mYes, *])
local macro_rules | `(tactic| walk_at "ef") => `(tactic| simp [semF, shared, after, mSeq, mSkip, mIf, mRet, mRetN, mRetV, mSet, mSetIx, mExpr, mB, mU, mTm, mPl, mK, mVar, mOp, mCons, mNil, bor, bors, mTst, mAndT, mOrT, mNotT, mAndE, mOrE, mNotE, mIfE, mIsi, isiD, mChn, chnL, cmpD, binD, addD, subD, mulD, modD, fdivD, powD, eqD, neD, ltD, leD, gtD, geD, isD, isnD, L2.M.isNon, negD, ixD, Bf.f, Bg.f, lenD, L2.M.intD, maxD, minD, repD, strD, gmaxD, gminD, sumD, sortD, anyD, allD, mCall, frz, fzO, lend, wb, mTup, mLst, fzs, cD, mAsg, bTup, bTps, mApp, tupD, lstD, mRev, revD, ofs_inj, ee_ii, ee_ss, ee_bb, ee_nn, ee_is, ee_si, ee_in, ee_ni, ee_tt, ee_ll, ee_maps, ee_0, ee_1, ee_2, ee_3, at_lit, at_nat, at_m1, at_m2, scD, emD, sizeLine_eq, ixN, sm_lit, mSrc, itemsD, plOf, rng1D, bNm, mSl, mPt, mNoP, slD, mPar, keepT, tmsO, setA, mFlow, zipX, enumX, itemsX, intsOf, ints_all, boolsOf, shaped_lay, lay_int, lay_bool, lay_none, lay_dict, lay_tup, lay_list, lay_ints, sortX_ints, mPlF, mPlI, mRd, mPU, mPB, mFSet, mFNew, mNSet, mPApp, mPSetIx, mPPop, mMeth, mNew, isIns, cellO, mLstN, mAddN, mAppN, semX, mTold, mCallX, xRet, xExpr, xSet, mRaise, mM, isL, isS, mOrV, truD, mFor, forL, mLc, lcL, sameC, wipeC, restC, mYes, *])
local macro_rules | `(tactic| walk_at "rg") => `(tactic| (and_intros <;> grind))
local macro_rules | `(tactic| walk_at "nx") => `(tactic| (apply wx_nx; focus (walk_at "ev"; try first | exact ⟨rfl, rfl⟩ | rfl)))
local macro_rules | `(tactic| walk_at "ns") => `(tactic| (apply wx_nx; focus (walk_at "es"; try first | exact ⟨rfl, rfl⟩ | rfl)))
local macro_rules | `(tactic| walk_at "rt") => `(tactic| (apply wx_rt; focus (walk_at "ev"; try first | exact ⟨rfl, rfl⟩ | rfl)))
local macro_rules | `(tactic| walk_at "rs") => `(tactic| (apply wx_rt; focus (walk_at "es"; try first | exact ⟨rfl, rfl⟩ | rfl)))
local macro_rules | `(tactic| walk_at "ed") => `(tactic| simp [semF, shared, after, mSeq, mSkip, mIf, mRet, mRetN, mRetV, mSet, mSetIx, mExpr, mB, mU, mTm, mPl, mK, mVar, mOp, mCons, mNil, bor, bors, mTst, mAndT, mOrT, mNotT, mAndE, mOrE, mNotE, mIfE, mIsi, isiD, mChn, chnL, cmpD, binD, addD, subD, mulD, modD, fdivD, powD, eqD, neD, ltD, leD, gtD, geD, isD, isnD, L2.M.isNon, negD, ixD, Bf.f, Bg.f, lenD, L2.M.intD, maxD, minD, repD, strD, gmaxD, gminD, sumD, sortD, anyD, allD, mCall, frz, fzO, lend, wb, mTup, mLst, fzs, cD, mAsg, bTup, bTps, mApp, tupD, lstD, mRev, revD, ofs_inj, ee_ii, ee_ss, ee_bb, ee_nn, ee_is, ee_si, ee_in, ee_ni, ee_tt, ee_ll, ee_maps, ee_0, ee_1, ee_2, ee_3, at_lit, at_nat, at_m1, at_m2, scD, emD, sizeLine_eq, ixN, sm_lit, mSrc, itemsD, plOf, rng1D, bNm, mSl, mPt, mNoP, slD, mPar, keepT, tmsO, setA, mFlow, zipX, enumX, itemsX, intsOf, ints_all, boolsOf, shaped_lay, lay_int, lay_bool, lay_none, lay_dict, lay_tup, lay_list, lay_ints, sortX_ints, mPlF, mPlI, mRd, mPU, mPB, mFSet, mFNew, mNSet, mPApp, mPSetIx, mPPop, mMeth, mNew, isIns, cellO, mLstN, mAddN, mAppN, semX, mTold, mCallX, xRet, xExpr, xSet, mRaise, mM, isL, isS, mOrV, truD, mDNew, mDIn, mDGet, mDLen, mDPut, kyD, mNNew, mN1, mTake, mFnV, mCallF, mNIn, mNGet, mNPut, mNVals, mNList, nKs, mDGetD, mDList, mNNe, *])
def bsD (bs : List Nat) : List PyData := bs.map fun (b : Nat) => PyData.int (b : Int)
end KW
namespace KW
open PySem PySem.Spec PyProof.Rows L2 L2.M
local macro_rules | `(tactic| walk_at "ev") => `(tactic| simp [semF, shared, after, mSeq, mSkip, mIf, mRet, mRetN, mRetV, mSet, mSetIx, mExpr, mB, mU, mTm, mPl, mK, mVar, mOp, mCons, mNil, bor, bors, mTst, mAndT, mOrT, mNotT, mAndE, mOrE, mNotE, mIfE, mIsi, isiD, mChn, chnL, cmpD, binD, addD, subD, mulD, modD, fdivD, powD, eqD, neD, ltD, leD, gtD, geD, isD, isnD, L2.M.isNon, negD, ixD, Bf.f, Bg.f, lenD, L2.M.intD, maxD, minD, repD, strD, gmaxD, gminD, sumD, sortD, anyD, allD, mCall, frz, fzO, lend, wb, mTup, mLst, fzs, cD, mAsg, bTup, bTps, mApp, tupD, lstD, mRev, revD, ofs_inj, ee_ii, ee_ss, ee_bb, ee_nn, ee_is, ee_si, ee_in, ee_ni, ee_tt, ee_ll, ee_maps, ee_0, ee_1, ee_2, ee_3, at_lit, at_nat, at_m1, at_m2, scD, emD, sizeLine_eq, ixN, sm_lit, mSrc, itemsD, plOf, rng1D, bNm, mSl, mPt, mNoP, slD, mPar, keepT, tmsO, setA, mFlow, zipX, enumX, itemsX, intsOf, ints_all, boolsOf, shaped_lay, lay_int, lay_bool, lay_none, lay_dict, lay_tup, lay_list, lay_ints, sortX_ints, mPlF, mPlI, mRd, mPU, mPB, mFSet, mFNew, mNSet, mPApp, mPSetIx, mPPop, mMeth, mNew, isIns, cellO, mLstN, mAddN, mAppN, semX, mTold, mCallX, xRet, xExpr, xSet, mRaise, mM, isL, isS, mOrV, truD])
local macro_rules | `(tactic| walk_at "es") => `(tactic| simp [semF, shared, after, mSeq, mSkip, mIf, mRet, mRetN, mRetV, mSet, mSetIx, mExpr, mB, mU, mTm, mPl, mK, mVar, mOp, mCons, mNil, bor, bors, mTst, mAndT, mOrT, mNotT, mAndE, mOrE, mNotE, mIfE, mIsi, isiD, mChn, chnL, cmpD, binD, addD, subD, mulD, modD, fdivD, powD, eqD, neD, ltD, leD, gtD, geD, isD, isnD, L2.M.isNon, negD, ixD, Bf.f, Bg.f, lenD, L2.M.intD, maxD, minD, repD, strD, gmaxD, gminD, sumD, sortD, anyD, allD, mCall, frz, fzO, lend, wb, mTup, mLst, fzs, cD, mAsg, bTup, bTps, mApp, tupD, lstD, mRev, revD, ofs_inj, ee_ii, ee_ss, ee_bb, ee_nn, ee_is, ee_si, ee_in, ee_ni, ee_tt, ee_ll, ee_maps, ee_0, ee_1, ee_2, ee_3, at_lit, at_nat, at_m1, at_m2, scD, emD, sizeLine_eq, ixN, sm_lit, mSrc, itemsD, plOf, rng1D, bNm, mSl, mPt, mNoP, slD, mPar, keepT, tmsO, setA, mFlow, zipX, enumX, itemsX, intsOf, ints_all, boolsOf, shaped_lay, lay_int, lay_bool, lay_none, lay_dict, lay_tup, lay_list, lay_ints, sortX_ints, mPlF, mPlI, mRd, mPU, mPB, mFSet, mFNew, mNSet, mPApp, mPSetIx, mPPop, mMeth, mNew, isIns, cellO, mLstN, mAddN, mAppN, semX, mTold, mCallX, xRet, xExpr, xSet, mRaise, mM, isL, isS, mOrV, truD, *])
local macro_rules | `(tactic| walk_at "el") => `(tactic| simp [semF, shared, after, mSeq, mSkip, mIf, mRet, mRetN, mRetV, mSet, mSetIx, mExpr, mB, mU, mTm, mPl, mK, mVar, mOp, mCons, mNil, bor, bors, mTst, mAndT, mOrT, mNotT, mAndE, mOrE, mNotE, mIfE, mIsi, isiD, mChn, chnL, cmpD, binD, addD, subD, mulD, modD, fdivD, powD, eqD, neD, ltD, leD, gtD, geD, isD, isnD, L2.M.isNon, negD, ixD, Bf.f, Bg.f, lenD, L2.M.intD, maxD, minD, repD, strD, gmaxD, gminD, sumD, sortD, anyD, allD, mCall, frz, fzO, lend, wb, mTup, mLst, fzs, cD, mAsg, bTup, bTps, mApp, tupD, lstD, mRev, revD, ofs_inj, ee_ii, ee_ss, ee_bb, ee_nn, ee_is, ee_si, ee_in, ee_ni, ee_tt, ee_ll, ee_maps, ee_0, ee_1, ee_2, ee_3, at_lit, at_nat, at_m1, at_m2, scD, emD, sizeLine_eq, ixN, sm_lit, mSrc, itemsD, plOf, rng1D, bNm, mSl, mPt, mNoP, slD, mPar, keepT, tmsO, setA, mFlow, zipX, enumX, itemsX, intsOf, ints_all, boolsOf, shaped_lay, lay_int, lay_bool, lay_none, lay_dict, lay_tup, lay_list, lay_ints, sortX_ints, mPlF, mPlI, mRd, mPU, mPB, mFSet, mFNew, mNSet, mPApp, mPSetIx, mPPop, mMeth, mNew, isIns, cellO, mLstN, mAddN, mAppN, semX, mTold, mCallX, xRet, xExpr, xSet, mRaise, mM, isL, isS, mOrV, truD, mLc, lcL, sameC, wipeC, restC, mYes, *])
local macro_rules | `(tactic| walk_at "ef") => `(tactic| simp [semF, shared, after, mSeq, mSkip, mIf, mRet, mRetN, mRetV, mSet, mSetIx, mExpr, mB, mU, mTm, mPl, mK, mVar, mOp, mCons, mNil, bor, bors, mTst, mAndT, mOrT, mNotT, mAndE, mOrE, mNotE, mIfE, mIsi, isiD, mChn, chnL, cmpD, binD, addD, subD, mulD, modD, fdivD, powD, eqD, neD, ltD, leD, gtD, geD, isD, isnD, L2.M.isNon, negD, ixD, Bf.f, Bg.f, lenD, L2.M.intD, maxD, minD, repD, strD, gmaxD, gminD, sumD, sortD, anyD, allD, mCall, frz, fzO, lend, wb, mTup, mLst, fzs, cD, mAsg, bTup, bTps, mApp, tupD, lstD, mRev, revD, ofs_inj, ee_ii, ee_ss, ee_bb, ee_nn, ee_is, ee_si, ee_in, ee_ni, ee_tt, ee_ll, ee_maps, ee_0, ee_1, ee_2, ee_3, at_lit, at_nat, at_m1, at_m2, scD, emD, sizeLine_eq, ixN, sm_lit, mSrc, itemsD, plOf, rng1D, bNm, mSl, mPt, mNoP, slD, mPar, keepT, tmsO, setA, mFlow, zipX, enumX, itemsX, intsOf, ints_all, boolsOf, shaped_lay, lay_int, lay_bool, lay_none, lay_dict, lay_tup, lay_list, lay_ints, sortX_ints, mPlF, mPlI, mRd, mPU, mPB, mFSet, mFNew, mNSet, mPApp, mPSetIx, mPPop, mMeth, mNew, isIns, cellO, mLstN, mAddN, mAppN, semX, mTold, mCallX, xRet, xExpr, xSet, mRaise, mM, isL, isS, mOrV, truD, mFor, forL, mLc, lcL, sameC, wipeC, restC, mYes, *])
local macro_rules | `(tactic| walk_at "rg") => `(tactic| (and_intros <;> grind))
local macro_rules | `(tactic| walk_at "nx") => `(tactic| (apply wx_nx; focus (walk_at "ev"; try first | exact ⟨rfl, rfl⟩ | rfl)))
local macro_rules | `(tactic| walk_at "ns") => `(tactic| (apply wx_nx; focus (walk_at "es"; try first | exact ⟨rfl, rfl⟩ | rfl)))
local macro_rules | `(tactic| walk_at "rt") => `(tactic| (apply wx_rt; focus (walk_at "ev"; try first | exact ⟨rfl, rfl⟩ | rfl)))
local macro_rules | `(tactic| walk_at "rs") => `(tactic| (apply wx_rt; focus (walk_at "es"; try first | exact ⟨rfl, rfl⟩ | rfl)))
local macro_rules | `(tactic| walk_at "ed") => `(tactic| simp [semF, shared, after, mSeq, mSkip, mIf, mRet, mRetN, mRetV, mSet, mSetIx, mExpr, mB, mU, mTm, mPl, mK, mVar, mOp, mCons, mNil, bor, bors, mTst, mAndT, mOrT, mNotT, mAndE, mOrE, mNotE, mIfE, mIsi, isiD, mChn, chnL, cmpD, binD, addD, subD, mulD, modD, fdivD, powD, eqD, neD, ltD, leD, gtD, geD, isD, isnD, L2.M.isNon, negD, ixD, Bf.f, Bg.f, lenD, L2.M.intD, maxD, minD, repD, strD, gmaxD, gminD, sumD, sortD, anyD, allD, mCall, frz, fzO, lend, wb, mTup, mLst, fzs, cD, mAsg, bTup, bTps, mApp, tupD, lstD, mRev, revD, ofs_inj, ee_ii, ee_ss, ee_bb, ee_nn, ee_is, ee_si, ee_in, ee_ni, ee_tt, ee_ll, ee_maps, ee_0, ee_1, ee_2, ee_3, at_lit, at_nat, at_m1, at_m2, scD, emD, sizeLine_eq, ixN, sm_lit, mSrc, itemsD, plOf, rng1D, bNm, mSl, mPt, mNoP, slD, mPar, keepT, tmsO, setA, mFlow, zipX, enumX, itemsX, intsOf, ints_all, boolsOf, shaped_lay, lay_int, lay_bool, lay_none, lay_dict, lay_tup, lay_list, lay_ints, sortX_ints, mPlF, mPlI, mRd, mPU, mPB, mFSet, mFNew, mNSet, mPApp, mPSetIx, mPPop, mMeth, mNew, isIns, cellO, mLstN, mAddN, mAppN, semX, mTold, mCallX, xRet, xExpr, xSet, mRaise, mM, isL, isS, mOrV, truD, mDNew, mDIn, mDGet, mDLen, mDPut, kyD, mNNew, mN1, mTake, mFnV, mCallF, mNIn, mNGet, mNPut, mNVals, mNList, nKs, mDGetD, mDList, mNNe, *])
def Wt.Bd (x : Wt) : Prop := (0 ≤ x.due ∧ x.due ≤ 10 ^ 12) ∧ (0 ≤ x.num ∧ x.num ≤ 10 ^ 12) ∧ (0 ≤ x.beg ∧ x.beg ≤ 10 ^ 12) ∧ (0 ≤ x.tri ∧ x.tri ≤ 10 ^ 12)
structure Bs.Bd (st : Bs) : Prop where
  c : 0 ≤ st.c ∧ st.c ≤ 10 ^ 12
  w : ∀ x ∈ st.w, x.Bd
theorem tri_n2 (q : Ca) (t : Int) (a : Bool) (st : Bs) (x : Int × Int × Int) : (tri q t a st x).n = st.n := by
  unfold tri tri0 goS
  repeat' split
  all_goals rfl
structure Sd.Bd (z : Sd) (N : Nat) : Prop where
  c : 0 ≤ z.c ∧ z.c ≤ 10 ^ 12
  w : ∀ x ∈ z.w, x.Bd
  n : 0 ≤ z.n ∧ z.n ≤ N
end KW
namespace KW
open PySem PySem.Spec PyProof.Rows L2 L2.M
local macro_rules | `(tactic| walk_at "ev") => `(tactic| simp [semF, shared, after, mSeq, mSkip, mIf, mRet, mRetN, mRetV, mSet, mSetIx, mExpr, mB, mU, mTm, mPl, mK, mVar, mOp, mCons, mNil, bor, bors, mTst, mAndT, mOrT, mNotT, mAndE, mOrE, mNotE, mIfE, mIsi, isiD, mChn, chnL, cmpD, binD, addD, subD, mulD, modD, fdivD, powD, eqD, neD, ltD, leD, gtD, geD, isD, isnD, L2.M.isNon, negD, ixD, Bf.f, Bg.f, lenD, L2.M.intD, maxD, minD, repD, strD, gmaxD, gminD, sumD, sortD, anyD, allD, mCall, frz, fzO, lend, wb, mTup, mLst, fzs, cD, mAsg, bTup, bTps, mApp, tupD, lstD, mRev, revD, ofs_inj, ee_ii, ee_ss, ee_bb, ee_nn, ee_is, ee_si, ee_in, ee_ni, ee_tt, ee_ll, ee_maps, ee_0, ee_1, ee_2, ee_3, at_lit, at_nat, at_m1, at_m2, scD, emD, sizeLine_eq, ixN, sm_lit, mSrc, itemsD, plOf, rng1D, bNm, mSl, mPt, mNoP, slD, mPar, keepT, tmsO, setA, mFlow, zipX, enumX, itemsX, intsOf, ints_all, boolsOf, shaped_lay, lay_int, lay_bool, lay_none, lay_dict, lay_tup, lay_list, lay_ints, sortX_ints, mPlF, mPlI, mRd, mPU, mPB, mFSet, mFNew, mNSet, mPApp, mPSetIx, mPPop, mMeth, mNew, isIns, cellO, mLstN, mAddN, mAppN, semX, mTold, mCallX, xRet, xExpr, xSet, mRaise, mM, isL, isS, mOrV, truD])
local macro_rules | `(tactic| walk_at "es") => `(tactic| simp [semF, shared, after, mSeq, mSkip, mIf, mRet, mRetN, mRetV, mSet, mSetIx, mExpr, mB, mU, mTm, mPl, mK, mVar, mOp, mCons, mNil, bor, bors, mTst, mAndT, mOrT, mNotT, mAndE, mOrE, mNotE, mIfE, mIsi, isiD, mChn, chnL, cmpD, binD, addD, subD, mulD, modD, fdivD, powD, eqD, neD, ltD, leD, gtD, geD, isD, isnD, L2.M.isNon, negD, ixD, Bf.f, Bg.f, lenD, L2.M.intD, maxD, minD, repD, strD, gmaxD, gminD, sumD, sortD, anyD, allD, mCall, frz, fzO, lend, wb, mTup, mLst, fzs, cD, mAsg, bTup, bTps, mApp, tupD, lstD, mRev, revD, ofs_inj, ee_ii, ee_ss, ee_bb, ee_nn, ee_is, ee_si, ee_in, ee_ni, ee_tt, ee_ll, ee_maps, ee_0, ee_1, ee_2, ee_3, at_lit, at_nat, at_m1, at_m2, scD, emD, sizeLine_eq, ixN, sm_lit, mSrc, itemsD, plOf, rng1D, bNm, mSl, mPt, mNoP, slD, mPar, keepT, tmsO, setA, mFlow, zipX, enumX, itemsX, intsOf, ints_all, boolsOf, shaped_lay, lay_int, lay_bool, lay_none, lay_dict, lay_tup, lay_list, lay_ints, sortX_ints, mPlF, mPlI, mRd, mPU, mPB, mFSet, mFNew, mNSet, mPApp, mPSetIx, mPPop, mMeth, mNew, isIns, cellO, mLstN, mAddN, mAppN, semX, mTold, mCallX, xRet, xExpr, xSet, mRaise, mM, isL, isS, mOrV, truD, *])
local macro_rules | `(tactic| walk_at "el") => `(tactic| simp [semF, shared, after, mSeq, mSkip, mIf, mRet, mRetN, mRetV, mSet, mSetIx, mExpr, mB, mU, mTm, mPl, mK, mVar, mOp, mCons, mNil, bor, bors, mTst, mAndT, mOrT, mNotT, mAndE, mOrE, mNotE, mIfE, mIsi, isiD, mChn, chnL, cmpD, binD, addD, subD, mulD, modD, fdivD, powD, eqD, neD, ltD, leD, gtD, geD, isD, isnD, L2.M.isNon, negD, ixD, Bf.f, Bg.f, lenD, L2.M.intD, maxD, minD, repD, strD, gmaxD, gminD, sumD, sortD, anyD, allD, mCall, frz, fzO, lend, wb, mTup, mLst, fzs, cD, mAsg, bTup, bTps, mApp, tupD, lstD, mRev, revD, ofs_inj, ee_ii, ee_ss, ee_bb, ee_nn, ee_is, ee_si, ee_in, ee_ni, ee_tt, ee_ll, ee_maps, ee_0, ee_1, ee_2, ee_3, at_lit, at_nat, at_m1, at_m2, scD, emD, sizeLine_eq, ixN, sm_lit, mSrc, itemsD, plOf, rng1D, bNm, mSl, mPt, mNoP, slD, mPar, keepT, tmsO, setA, mFlow, zipX, enumX, itemsX, intsOf, ints_all, boolsOf, shaped_lay, lay_int, lay_bool, lay_none, lay_dict, lay_tup, lay_list, lay_ints, sortX_ints, mPlF, mPlI, mRd, mPU, mPB, mFSet, mFNew, mNSet, mPApp, mPSetIx, mPPop, mMeth, mNew, isIns, cellO, mLstN, mAddN, mAppN, semX, mTold, mCallX, xRet, xExpr, xSet, mRaise, mM, isL, isS, mOrV, truD, mLc, lcL, sameC, wipeC, restC, mYes, *])
local macro_rules | `(tactic| walk_at "ef") => `(tactic| simp [semF, shared, after, mSeq, mSkip, mIf, mRet, mRetN, mRetV, mSet, mSetIx, mExpr, mB, mU, mTm, mPl, mK, mVar, mOp, mCons, mNil, bor, bors, mTst, mAndT, mOrT, mNotT, mAndE, mOrE, mNotE, mIfE, mIsi, isiD, mChn, chnL, cmpD, binD, addD, subD, mulD, modD, fdivD, powD, eqD, neD, ltD, leD, gtD, geD, isD, isnD, L2.M.isNon, negD, ixD, Bf.f, Bg.f, lenD, L2.M.intD, maxD, minD, repD, strD, gmaxD, gminD, sumD, sortD, anyD, allD, mCall, frz, fzO, lend, wb, mTup, mLst, fzs, cD, mAsg, bTup, bTps, mApp, tupD, lstD, mRev, revD, ofs_inj, ee_ii, ee_ss, ee_bb, ee_nn, ee_is, ee_si, ee_in, ee_ni, ee_tt, ee_ll, ee_maps, ee_0, ee_1, ee_2, ee_3, at_lit, at_nat, at_m1, at_m2, scD, emD, sizeLine_eq, ixN, sm_lit, mSrc, itemsD, plOf, rng1D, bNm, mSl, mPt, mNoP, slD, mPar, keepT, tmsO, setA, mFlow, zipX, enumX, itemsX, intsOf, ints_all, boolsOf, shaped_lay, lay_int, lay_bool, lay_none, lay_dict, lay_tup, lay_list, lay_ints, sortX_ints, mPlF, mPlI, mRd, mPU, mPB, mFSet, mFNew, mNSet, mPApp, mPSetIx, mPPop, mMeth, mNew, isIns, cellO, mLstN, mAddN, mAppN, semX, mTold, mCallX, xRet, xExpr, xSet, mRaise, mM, isL, isS, mOrV, truD, mFor, forL, mLc, lcL, sameC, wipeC, restC, mYes, *])
local macro_rules | `(tactic| walk_at "rg") => `(tactic| (and_intros <;> grind))
local macro_rules | `(tactic| walk_at "nx") => `(tactic| (apply wx_nx; focus (walk_at "ev"; try first | exact ⟨rfl, rfl⟩ | rfl)))
local macro_rules | `(tactic| walk_at "ns") => `(tactic| (apply wx_nx; focus (walk_at "es"; try first | exact ⟨rfl, rfl⟩ | rfl)))
local macro_rules | `(tactic| walk_at "rt") => `(tactic| (apply wx_rt; focus (walk_at "ev"; try first | exact ⟨rfl, rfl⟩ | rfl)))
local macro_rules | `(tactic| walk_at "rs") => `(tactic| (apply wx_rt; focus (walk_at "es"; try first | exact ⟨rfl, rfl⟩ | rfl)))
local macro_rules | `(tactic| walk_at "ed") => `(tactic| simp [semF, shared, after, mSeq, mSkip, mIf, mRet, mRetN, mRetV, mSet, mSetIx, mExpr, mB, mU, mTm, mPl, mK, mVar, mOp, mCons, mNil, bor, bors, mTst, mAndT, mOrT, mNotT, mAndE, mOrE, mNotE, mIfE, mIsi, isiD, mChn, chnL, cmpD, binD, addD, subD, mulD, modD, fdivD, powD, eqD, neD, ltD, leD, gtD, geD, isD, isnD, L2.M.isNon, negD, ixD, Bf.f, Bg.f, lenD, L2.M.intD, maxD, minD, repD, strD, gmaxD, gminD, sumD, sortD, anyD, allD, mCall, frz, fzO, lend, wb, mTup, mLst, fzs, cD, mAsg, bTup, bTps, mApp, tupD, lstD, mRev, revD, ofs_inj, ee_ii, ee_ss, ee_bb, ee_nn, ee_is, ee_si, ee_in, ee_ni, ee_tt, ee_ll, ee_maps, ee_0, ee_1, ee_2, ee_3, at_lit, at_nat, at_m1, at_m2, scD, emD, sizeLine_eq, ixN, sm_lit, mSrc, itemsD, plOf, rng1D, bNm, mSl, mPt, mNoP, slD, mPar, keepT, tmsO, setA, mFlow, zipX, enumX, itemsX, intsOf, ints_all, boolsOf, shaped_lay, lay_int, lay_bool, lay_none, lay_dict, lay_tup, lay_list, lay_ints, sortX_ints, mPlF, mPlI, mRd, mPU, mPB, mFSet, mFNew, mNSet, mPApp, mPSetIx, mPPop, mMeth, mNew, isIns, cellO, mLstN, mAddN, mAppN, semX, mTold, mCallX, xRet, xExpr, xSet, mRaise, mM, isL, isS, mOrV, truD, mDNew, mDIn, mDGet, mDLen, mDPut, kyD, mNNew, mN1, mTake, mFnV, mCallF, mNIn, mNGet, mNPut, mNVals, mNList, nKs, mDGetD, mDList, mNNe, *])
def nbL (A : List Nat) (z : Sd) : List Int := (A.drop z.n.toNat).map (fun x : Nat => (x : Int)) ++ z.w.map Wt.due
def nb (A : List Nat) (z : Sd) : Option Int := match nbL A z with
  | [] => none
  | x :: xs => some (xs.foldl min x)
def jmp (z : Sd) (b : Int) : Sd := ⟨b, z.w, z.c, z.s, z.n⟩
def cnt (A : List Nat) (b : Int) : Nat := A.countP fun x : Nat => decide ((x : Int) = b)
def evB (b : Int) : PyData → PyData
  | .tuple ds => .tuple (.int b :: ds)
  | d => d
def nx1 (q : Ca) (f : Int → Bool) (A : List Nat) (p : Sd × List PyData) : Sd × List PyData := match nb A p.1 with
  | none => p
  | some b => (nxS q (f b) (jmp p.1 b) (cnt A b), p.2 ++ (nxE q (f b) (jmp p.1 b) (cnt A b)).map (evB b))
def gst (q : Ca) (f : Int → Bool) (A : List Nat) : Nat → Sd × List PyData
  | 0 => (⟨0, [], q.c0, .op 0, 0⟩, [])
  | i + 1 => nx1 q f A (gst q f A i)
theorem gst_0 (q : Ca) (f : Int → Bool) (A : List Nat) : gst q f A 0 = (⟨0, [], q.c0, .op 0, 0⟩, []) := by rw [gst]
theorem gst_s (q : Ca) (f : Int → Bool) (A : List Nat) (i : Nat) : gst q f A (i + 1) = nx1 q f A (gst q f A i) := by rw [gst]
theorem nx1_none {q : Ca} {f : Int → Bool} {A : List Nat} {p : Sd × List PyData} (h : nb A p.1 = none) : nx1 q f A p = p := by
  unfold nx1
  rw [h]
theorem nx1_some {q : Ca} {f : Int → Bool} {A : List Nat} {p : Sd × List PyData} {b : Int} (h : nb A p.1 = some b) : nx1 q f A p = (nxS q (f b) (jmp p.1 b) (cnt A b), p.2 ++ (nxE q (f b) (jmp p.1 b) (cnt A b)).map (evB b)) := by
  unfold nx1
  rw [h]
theorem fmin : ∀ (xs : List Int) (x : Int), xs.foldl min x ≤ x ∧ (∀ y ∈ xs, xs.foldl min x ≤ y) ∧ xs.foldl min x ∈ x :: xs
  | [], x => ⟨Int.le_refl _, (fun y hy => by cases hy), List.mem_cons_self⟩
  | u :: xs, x => by
    obtain ⟨h1, h2, h3⟩ := fmin xs (min x u)
    simp only [List.foldl_cons]
    refine ⟨by omega, fun y hy => ?_, ?_⟩
    · rcases List.mem_cons.mp hy with rfl | hy
      · omega
      · exact h2 y hy
    · rcases List.mem_cons.mp h3 with h | h
      · rw [h]
        by_cases c : x ≤ u
        · rw [Int.min_eq_left c]; exact List.mem_cons_self
        · rw [Int.min_eq_right (by omega)]; simp
      · simp [h]
theorem nb_some {A : List Nat} {z : Sd} {b : Int} (h : nb A z = some b) : b ∈ nbL A z ∧ ∀ x ∈ nbL A z, b ≤ x := by
  unfold nb at h
  split at h
  · cases h
  · rename_i x xs e
    cases h
    rw [e]
    obtain ⟨h1, h2, h3⟩ := fmin xs x
    refine ⟨h3, fun y hy => ?_⟩
    rcases List.mem_cons.mp hy with rfl | hy
    · exact h1
    · exact h2 y hy
theorem nb_none {A : List Nat} {z : Sd} (h : nb A z = none) : A.length ≤ z.n.toNat ∧ z.w = [] := by
  unfold nb at h
  split at h
  · rename_i e
    unfold nbL at e
    rw [List.append_eq_nil_iff, List.map_eq_nil_iff, List.map_eq_nil_iff, List.drop_eq_nil_iff] at e
    exact e
  · cases h
theorem tri_cases (q : Ca) (t : Int) (a : Bool) (st : Bs) (x : Int × Int × Int) : ((tri q t a st x).w = st.w ∧ (tri q t a st x).c = st.c) ∨ ((tri q t a st x).w = st.w ++ [⟨t + q.gap (x.2.2 + 1), x.1, x.2.1, x.2.2 + 1⟩] ∧ (tri q t a st x).c = st.c - q.r ∧ x.2.2 + 1 < q.K ∧ t + q.gap (x.2.2 + 1) ≤ x.2.1 + q.Z ∧ q.r ≤ st.c) := by
  unfold tri tri0
  split
  · exact .inl ⟨rfl, rfl⟩
  · unfold goS
    split
    · rename_i hg
      unfold goes at hg
      simp only [Bool.and_eq_true, decide_eq_true_eq] at hg
      exact .inr ⟨rfl, rfl, hg.1, hg.2.1, hg.2.2⟩
    · exact .inl ⟨rfl, rfl⟩
theorem fst1_n (q : Ca) (t : Int) (a : Bool) (st : Bs) : (fst1 q t a st).n = st.n + 1 := by
  unfold fst1
  rw [tri_n2]
theorem fst1_cases (q : Ca) (t : Int) (a : Bool) (st : Bs) : ((fst1 q t a st).w = st.w ∧ (fst1 q t a st).c = (if st.c + q.p < q.cp then st.c + q.p else q.cp)) ∨ ((fst1 q t a st).w = st.w ++ [⟨t + q.gap 1, st.n, t, 1⟩] ∧ (fst1 q t a st).c = (if st.c + q.p < q.cp then st.c + q.p else q.cp) - q.r ∧ 1 < q.K ∧ t + q.gap 1 ≤ t + q.Z ∧ q.r ≤ (if st.c + q.p < q.cp then st.c + q.p else q.cp)) :=
  tri_cases q t a { st with c := (if st.c + q.p < q.cp then st.c + q.p else q.cp), n := st.n + 1 } (st.n, t, 0)
theorem fsts_n (q : Ca) (t : Int) (a : Bool) (st : Bs) : ∀ k : Nat, (fsts q t a k st).n = st.n + k
  | 0 => by rw [fsts]; simp
  | k + 1 => by
    rw [fsts, fst1_n, fsts_n q t a st k]
    push_cast
    omega
theorem tris_n (q : Ca) (t : Int) (a : Bool) : ∀ (xs : List Wt) (st : Bs), (xs.foldl (fun st x => tri q t a st x.x) st).n = st.n
  | [], st => rfl
  | x :: xs, st => by rw [List.foldl_cons, tris_n q t a xs, tri_n2]
theorem nxS_n (q : Ca) (a : Bool) (z : Sd) (k : Nat) : (nxS q a z k).n = z.n + k := by
  show (fsts q z.t a k (bt1 q a z)).n = _
  rw [fsts_n]
  unfold bt1
  rw [tris_n]
  rfl
theorem tris_ind {q : Ca} {t : Int} {a : Bool} (J : List Wt → Bs → Prop) {D : List Wt} (hd : ∀ x xs st, x ∈ D → J (x :: xs) st → J xs (tri q t a st x.x)) : ∀ (xs : List Wt) (st : Bs), (∀ x ∈ xs, x ∈ D) → J xs st → J [] (xs.foldl (fun st x => tri q t a st x.x) st)
  | [], st, _, h => h
  | x :: xs, st, hx, h => tris_ind J hd xs _ (fun y hy => hx y (List.mem_cons_of_mem _ hy)) (hd x xs st (hx x List.mem_cons_self) h)
theorem nx_ind {q : Ca} {a : Bool} {z : Sd} {k : Nat} (J : List Wt → Bs → Prop) (h0 : J (duel z.w z.t) z.st) (hd : ∀ x xs st, x ∈ duel z.w z.t → J (x :: xs) st → J xs (tri q z.t a st x.x)) (hf : 0 < k → ∀ st, J [] st → J [] (fst1 q z.t a st)) : J [] (bt2 q a z k) := by
  have h1 : J [] (bt1 q a z) := tris_ind J hd _ _ (fun _ h => h) h0
  have h2 : ∀ j : Nat, j ≤ k → J [] (fsts q z.t a j (bt1 q a z)) := by
    intro j
    induction j with
    | zero => intro _; rw [fsts]; exact h1
    | succ j ih => intro hj; rw [fsts]; exact hf (by omega) _ (ih (by omega))
  exact h2 k (Nat.le_refl _)
def Wi (q : Ca) (n : Int) (x : Wt) : Prop := x.due ≤ x.beg + q.Z ∧ 0 ≤ x.beg ∧ x.beg ≤ 1000 ∧ 0 ≤ x.num ∧ x.num < n ∧ 1 ≤ x.tri ∧ x.tri < q.K
theorem Wi.up {q : Ca} {n m : Int} {x : Wt} (h : Wi q n x) (hm : n ≤ m) : Wi q m x := ⟨h.1, h.2.1, h.2.2.1, h.2.2.2.1, by have := h.2.2.2.2.1; omega, h.2.2.2.2.2⟩
structure Gi (q : Ca) (A : List Nat) (z : Sd) : Prop where
  ok : z.Ok
  t0 : 0 ≤ z.t
  t1 : z.t ≤ 2001
  n0 : 0 ≤ z.n
  n1 : z.n ≤ A.length
  lo : ∀ x ∈ A.take z.n.toNat, (x : Int) < z.t
  hi : ∀ x ∈ A.drop z.n.toNat, z.t ≤ (x : Int)
  w : ∀ x ∈ z.w, Wi q z.n x
  wl : (z.w.length : Int) ≤ z.n
  c : 0 ≤ z.c
structure Ak (A : List Nat) : Prop where
  s : A.Pairwise (· ≤ ·)
  b : ∀ x ∈ A, x ≤ 1000
  l : A.length ≤ 1000
theorem cnt_split {b : Int} : ∀ {R : List Nat}, R.Pairwise (· ≤ ·) → (∀ x ∈ R, b ≤ (x : Int)) → (∀ x ∈ R.take (cnt R b), (x : Int) = b) ∧ (∀ x ∈ R.drop (cnt R b), b < (x : Int))
  | [], _, _ => by simp [cnt]
  | x :: R, hs, hb => by
    obtain ⟨h1, h2⟩ := List.pairwise_cons.mp hs
    obtain ⟨i1, i2⟩ := cnt_split h2 fun y hy => hb y (List.mem_cons_of_mem _ hy)
    by_cases e : (x : Int) = b
    · have ec : cnt (x :: R) b = cnt R b + 1 := by simp [cnt, e]
      rw [ec, List.take_succ_cons, List.drop_succ_cons]
      refine ⟨fun y hy => ?_, i2⟩
      rcases List.mem_cons.mp hy with rfl | hy
      · exact e
      · exact i1 y hy
    · have hx := hb x List.mem_cons_self
      have gt : ∀ y ∈ x :: R, b < (y : Int) := fun y hy => by
        rcases List.mem_cons.mp hy with rfl | hy
        · omega
        · have := h1 y hy
          omega
      have ec : cnt (x :: R) b = 0 := by
        unfold cnt
        rw [List.countP_eq_zero]
        intro y hy
        have := gt y hy
        simp
        omega
      rw [ec]
      exact ⟨by simp, by simpa using gt⟩
theorem cnt_app (X Y : List Nat) (b : Int) : cnt (X ++ Y) b = cnt X b + cnt Y b := by simp [cnt]
theorem cnt_le (X : List Nat) (b : Int) : cnt X b ≤ X.length := List.countP_le_length
theorem gi_0 {q : Ca} (h : q.Ok) {A : List Nat} : Gi q A ⟨0, [], q.c0, .op 0, 0⟩ := by
  refine ⟨⟨⟨by decide, by decide⟩, (fun x hx => by cases hx)⟩, Int.le_refl _, by show (0 : Int) ≤ 2001; omega, Int.le_refl _, by show (0 : Int) ≤ _; omega, by simp, by simp, (fun x hx => by cases hx), by simp, h.c00⟩
theorem nb_bd {q : Ca} {A : List Nat} (hA : Ak A) (hZ : q.Z ≤ 1000) {z : Sd} (g : Gi q A z) {b : Int} (hb : nb A z = some b) : z.t ≤ b ∧ b ≤ 2000 := by
  obtain ⟨h1, h2⟩ := nb_some hb
  rcases List.mem_append.mp h1 with h1 | h1
  · obtain ⟨x, hx, rfl⟩ := List.mem_map.mp h1
    have := g.hi x hx
    have := hA.b x (List.mem_of_mem_drop hx)
    omega
  · obtain ⟨x, hx, rfl⟩ := List.mem_map.mp h1
    have := (g.ok.2 x hx).1
    have := g.w x hx
    unfold Wi at this
    omega
theorem gi_jmp {q : Ca} {A : List Nat} {z : Sd} (g : Gi q A z) {b : Int} (hb : nb A z = some b) : (jmp z b).Ok := by
  obtain ⟨h1, h2⟩ := nb_some hb
  refine ⟨g.ok.1, fun x hx => ⟨h2 _ (List.mem_append_right _ (List.mem_map_of_mem hx)), (g.ok.2 x hx).2⟩⟩
theorem cnt_at {q : Ca} {A : List Nat} (hA : Ak A) {z : Sd} (g : Gi q A z) {b : Int} (hb : nb A z = some b) (h2001 : z.t ≤ b) : cnt A b = cnt (A.drop z.n.toNat) b := by
  have e : A = A.take z.n.toNat ++ A.drop z.n.toNat := (List.take_append_drop _ _).symm
  have h0 : cnt (A.take z.n.toNat) b = 0 := by
    unfold cnt
    rw [List.countP_eq_zero]
    intro x hx
    have := g.lo x hx
    simp
    omega
  rw [show cnt A b = cnt (A.take z.n.toNat ++ A.drop z.n.toNat) b by rw [← e], cnt_app, h0, Nat.zero_add]
theorem gi_s {q : Ca} (h : q.Ok) {A : List Nat} (hA : Ak A) (hZ : q.Z ≤ 1000) {z : Sd} (g : Gi q A z) {b : Int} (hb : nb A z = some b) (a : Bool) : Gi q A (nxS q a (jmp z b) (cnt A b)) := by
  obtain ⟨b1, b2⟩ := nb_bd hA hZ g hb
  obtain ⟨m1, m2⟩ := nb_some hb
  have ok := gi_jmp g hb
  have g0 := g.t0; have gn0 := g.n0; have gn1 := g.n1
  have ec := cnt_at hA g hb b1
  have hR : ∀ x ∈ A.drop z.n.toNat, b ≤ (x : Int) := fun x hx => m2 _ (List.mem_append_left _ (List.mem_map_of_mem hx))
  obtain ⟨s1, s2⟩ := cnt_split (b := b) (hA.s.sublist (List.drop_sublist _ _)) hR
  have lR : (A.drop z.n.toNat).length = A.length - z.n.toNat := List.length_drop
  have lc := cnt_le (A.drop z.n.toNat) b
  have en : (nxS q a (jmp z b) (cnt A b)).n = z.n + cnt A b := nxS_n q a (jmp z b) _
  have tn : (z.n + (cnt A b : Int)).toNat = z.n.toNat + cnt A b := by omega
  have hb0 : 0 < cnt A b → b ≤ 1000 := fun hc => by
    obtain ⟨x, hx⟩ : ∃ x, x ∈ (A.drop z.n.toNat).take (cnt (A.drop z.n.toNat) b) := by
      cases hh : (A.drop z.n.toNat).take (cnt (A.drop z.n.toNat) b) with
      | nil =>
        have := congrArg List.length hh
        rw [List.length_take] at this
        simp at this
        omega
      | cons x xs => exact ⟨x, List.mem_cons_self⟩
    have := s1 x hx
    have := hA.b x (List.mem_of_mem_drop (List.mem_of_mem_take hx))
    omega
  have cc : ∀ c : Int, 0 ≤ c → 0 ≤ (if c + q.p < q.cp then c + q.p else q.cp) := fun c hc => by
    have := h.p0; have := h.cp0
    split <;> omega
  have main := nx_ind (q := q) (a := a) (z := jmp z b) (k := cnt A b) (fun R st => (∀ x ∈ st.w, Wi q st.n x) ∧ z.n ≤ st.n ∧ 0 ≤ st.c)
    ⟨fun x hx => g.w x (List.mem_filter.mp hx).1, Int.le_refl _, g.c⟩
    (by
      rintro x xs st hx ⟨j1, j2, j3⟩
      have wx := g.w x (List.mem_filter.mp hx).1
      have ow := (g.ok.2 x (List.mem_filter.mp hx).1).2
      rw [tri_n2]
      rcases tri_cases q b a st x.x with ⟨e1, e2⟩ | ⟨e1, e2, e3, e4, e5⟩
      · exact ⟨fun y hy => j1 y (e1 ▸ hy), j2, by rw [show (tri q (jmp z b).t a st x.x).c = st.c from e2]; exact j3⟩
      · refine ⟨fun y hy => ?_, j2, by rw [show (tri q (jmp z b).t a st x.x).c = st.c - q.r from e2]; omega⟩
        rw [show (tri q (jmp z b).t a st x.x).w = _ from e1] at hy
        rcases List.mem_append.mp hy with hy | hy
        · exact j1 y hy
        · rw [List.mem_singleton.mp hy]
          unfold Wi at wx ⊢
          simp only [Wt.x] at e3 e4 ⊢
          omega)
    (by
      rintro hk st ⟨j1, j2, j3⟩
      have hk := hb0 hk
      have c1 := cc st.c j3
      rw [fst1_n]
      rcases fst1_cases q b a st with ⟨e1, e2⟩ | ⟨e1, e2, e3, e4, e5⟩
      · exact ⟨fun y hy => (j1 y (e1 ▸ hy)).up (by omega), by omega, by rw [show (fst1 q (jmp z b).t a st).c = _ from e2]; exact c1⟩
      · refine ⟨fun y hy => ?_, by omega, by rw [show (fst1 q (jmp z b).t a st).c = _ from e2]; omega⟩
        rw [show (fst1 q (jmp z b).t a st).w = _ from e1] at hy
        rcases List.mem_append.mp hy with hy | hy
        · exact (j1 y hy).up (by omega)
        · rw [List.mem_singleton.mp hy]
          unfold Wi
          dsimp only
          omega)
  have eb : (bt2 q a (jmp z b) (cnt A b)).n = z.n + cnt A b := en
  rw [eb] at main
  refine ⟨nxS_ok h a (by show 0 ≤ b; omega) (by show b ≤ 10 ^ 8; omega) ok _, by show 0 ≤ b + 1; omega, by show b + 1 ≤ 2001; omega, by rw [en]; omega, by rw [en]; omega, fun x hx => ?_, fun x hx => ?_, fun x hx => ?_, ?_, main.2.2⟩
  · rw [en, tn] at hx
    show (x : Int) < b + 1
    rw [List.take_add] at hx
    rcases List.mem_append.mp hx with hx | hx
    · have := g.lo x hx
      omega
    · rw [ec] at hx
      have := s1 x hx
      omega
  · rw [en, tn, ← List.drop_drop, ec] at hx
    have := s2 x hx
    show b + 1 ≤ (x : Int)
    omega
  · rw [en]
    exact main.1 x ((wsort_perm _).mem_iff.mp hx)
  · have := (nxS_len q a (jmp z b) (cnt A b)).1
    have := g.wl
    rw [en]
    have e : (jmp z b).w.length = z.w.length := rfl
    omega
theorem gi_all {q : Ca} (h : q.Ok) {A : List Nat} (hA : Ak A) (hZ : q.Z ≤ 1000) (f : Int → Bool) : ∀ i : Nat, Gi q A (gst q f A i).1
  | 0 => by rw [gst_0]; exact gi_0 h
  | i + 1 => by
    rw [gst_s]
    have ih := gi_all h hA hZ f i
    cases hb : nb A (gst q f A i).1 with
    | none => rw [nx1_none hb]; exact ih
    | some b => rw [nx1_some hb]; exact gi_s h hA hZ ih hb _
theorem gst_t {q : Ca} (h : q.Ok) {A : List Nat} (hA : Ak A) (hZ : q.Z ≤ 1000) (f : Int → Bool) : ∀ i : Nat, nb A (gst q f A i).1 = none ∨ (i : Int) ≤ (gst q f A i).1.t
  | 0 => by rw [gst_0]; exact .inr (Int.le_refl _)
  | i + 1 => by
    have gi := gi_all h hA hZ f i
    rw [gst_s]
    cases hb : nb A (gst q f A i).1 with
    | none => rw [nx1_none hb]; exact .inl hb
    | some b =>
      rw [nx1_some hb]
      right
      rcases gst_t h hA hZ f i with ih | ih
      · rw [hb] at ih; cases ih
      · have := nb_bd hA hZ gi hb
        show ((i + 1 : Nat) : Int) ≤ b + 1
        push_cast
        omega
/-- at the end nobody tries any more -/
theorem gst_end {q : Ca} (h : q.Ok) {A : List Nat} (hA : Ak A) (hZ : q.Z ≤ 1000) (f : Int → Bool) : nb A (gst q f A 2002).1 = none := by
  rcases gst_t h hA hZ f 2002 with e | e
  · exact e
  · have := (gi_all h hA hZ f 2002).t1
    omega
theorem gst_stay {q : Ca} {f : Int → Bool} {A : List Nat} {i : Nat} (h : nb A (gst q f A i).1 = none) : ∀ k, gst q f A (i + k) = gst q f A i
  | 0 => rfl
  | k + 1 => by
    rw [← Nat.add_assoc, gst_s, gst_stay h k, nx1_none h]
def goE (q : Ca) (f : Int → Bool) (A : List Nat) : List PyData := (gst q f A 2002).2
theorem gst_fin {q : Ca} (h : q.Ok) {A : List Nat} (hA : Ak A) (hZ : q.Z ≤ 1000) {f : Int → Bool} {i : Nat} (e : nb A (gst q f A i).1 = none) : (gst q f A i).2 = goE q f A := by
  unfold goE
  rcases Nat.le_total i 2002 with c | c
  · obtain ⟨k, hk⟩ : ∃ k, 2002 = i + k := ⟨2002 - i, by omega⟩
    rw [hk, gst_stay e]
  · obtain ⟨k, hk⟩ : ∃ k, i = 2002 + k := ⟨i - 2002, by omega⟩
    rw [hk, gst_stay (gst_end h hA hZ f)]
end KW
namespace KW
open PySem PySem.Spec PyProof.Rows L2 L2.M
local macro_rules | `(tactic| walk_at "ev") => `(tactic| simp [semF, shared, after, mSeq, mSkip, mIf, mRet, mRetN, mRetV, mSet, mSetIx, mExpr, mB, mU, mTm, mPl, mK, mVar, mOp, mCons, mNil, bor, bors, mTst, mAndT, mOrT, mNotT, mAndE, mOrE, mNotE, mIfE, mIsi, isiD, mChn, chnL, cmpD, binD, addD, subD, mulD, modD, fdivD, powD, eqD, neD, ltD, leD, gtD, geD, isD, isnD, L2.M.isNon, negD, ixD, Bf.f, Bg.f, lenD, L2.M.intD, maxD, minD, repD, strD, gmaxD, gminD, sumD, sortD, anyD, allD, mCall, frz, fzO, lend, wb, mTup, mLst, fzs, cD, mAsg, bTup, bTps, mApp, tupD, lstD, mRev, revD, ofs_inj, ee_ii, ee_ss, ee_bb, ee_nn, ee_is, ee_si, ee_in, ee_ni, ee_tt, ee_ll, ee_maps, ee_0, ee_1, ee_2, ee_3, at_lit, at_nat, at_m1, at_m2, scD, emD, sizeLine_eq, ixN, sm_lit, mSrc, itemsD, plOf, rng1D, bNm, mSl, mPt, mNoP, slD, mPar, keepT, tmsO, setA, mFlow, zipX, enumX, itemsX, intsOf, ints_all, boolsOf, shaped_lay, lay_int, lay_bool, lay_none, lay_dict, lay_tup, lay_list, lay_ints, sortX_ints, mPlF, mPlI, mRd, mPU, mPB, mFSet, mFNew, mNSet, mPApp, mPSetIx, mPPop, mMeth, mNew, isIns, cellO, mLstN, mAddN, mAppN, semX, mTold, mCallX, xRet, xExpr, xSet, mRaise, mM, isL, isS, mOrV, truD])
local macro_rules | `(tactic| walk_at "es") => `(tactic| simp [semF, shared, after, mSeq, mSkip, mIf, mRet, mRetN, mRetV, mSet, mSetIx, mExpr, mB, mU, mTm, mPl, mK, mVar, mOp, mCons, mNil, bor, bors, mTst, mAndT, mOrT, mNotT, mAndE, mOrE, mNotE, mIfE, mIsi, isiD, mChn, chnL, cmpD, binD, addD, subD, mulD, modD, fdivD, powD, eqD, neD, ltD, leD, gtD, geD, isD, isnD, L2.M.isNon, negD, ixD, Bf.f, Bg.f, lenD, L2.M.intD, maxD, minD, repD, strD, gmaxD, gminD, sumD, sortD, anyD, allD, mCall, frz, fzO, lend, wb, mTup, mLst, fzs, cD, mAsg, bTup, bTps, mApp, tupD, lstD, mRev, revD, ofs_inj, ee_ii, ee_ss, ee_bb, ee_nn, ee_is, ee_si, ee_in, ee_ni, ee_tt, ee_ll, ee_maps, ee_0, ee_1, ee_2, ee_3, at_lit, at_nat, at_m1, at_m2, scD, emD, sizeLine_eq, ixN, sm_lit, mSrc, itemsD, plOf, rng1D, bNm, mSl, mPt, mNoP, slD, mPar, keepT, tmsO, setA, mFlow, zipX, enumX, itemsX, intsOf, ints_all, boolsOf, shaped_lay, lay_int, lay_bool, lay_none, lay_dict, lay_tup, lay_list, lay_ints, sortX_ints, mPlF, mPlI, mRd, mPU, mPB, mFSet, mFNew, mNSet, mPApp, mPSetIx, mPPop, mMeth, mNew, isIns, cellO, mLstN, mAddN, mAppN, semX, mTold, mCallX, xRet, xExpr, xSet, mRaise, mM, isL, isS, mOrV, truD, *])
local macro_rules | `(tactic| walk_at "el") => `(tactic| simp [semF, shared, after, mSeq, mSkip, mIf, mRet, mRetN, mRetV, mSet, mSetIx, mExpr, mB, mU, mTm, mPl, mK, mVar, mOp, mCons, mNil, bor, bors, mTst, mAndT, mOrT, mNotT, mAndE, mOrE, mNotE, mIfE, mIsi, isiD, mChn, chnL, cmpD, binD, addD, subD, mulD, modD, fdivD, powD, eqD, neD, ltD, leD, gtD, geD, isD, isnD, L2.M.isNon, negD, ixD, Bf.f, Bg.f, lenD, L2.M.intD, maxD, minD, repD, strD, gmaxD, gminD, sumD, sortD, anyD, allD, mCall, frz, fzO, lend, wb, mTup, mLst, fzs, cD, mAsg, bTup, bTps, mApp, tupD, lstD, mRev, revD, ofs_inj, ee_ii, ee_ss, ee_bb, ee_nn, ee_is, ee_si, ee_in, ee_ni, ee_tt, ee_ll, ee_maps, ee_0, ee_1, ee_2, ee_3, at_lit, at_nat, at_m1, at_m2, scD, emD, sizeLine_eq, ixN, sm_lit, mSrc, itemsD, plOf, rng1D, bNm, mSl, mPt, mNoP, slD, mPar, keepT, tmsO, setA, mFlow, zipX, enumX, itemsX, intsOf, ints_all, boolsOf, shaped_lay, lay_int, lay_bool, lay_none, lay_dict, lay_tup, lay_list, lay_ints, sortX_ints, mPlF, mPlI, mRd, mPU, mPB, mFSet, mFNew, mNSet, mPApp, mPSetIx, mPPop, mMeth, mNew, isIns, cellO, mLstN, mAddN, mAppN, semX, mTold, mCallX, xRet, xExpr, xSet, mRaise, mM, isL, isS, mOrV, truD, mLc, lcL, sameC, wipeC, restC, mYes, *])
local macro_rules | `(tactic| walk_at "ef") => `(tactic| simp [semF, shared, after, mSeq, mSkip, mIf, mRet, mRetN, mRetV, mSet, mSetIx, mExpr, mB, mU, mTm, mPl, mK, mVar, mOp, mCons, mNil, bor, bors, mTst, mAndT, mOrT, mNotT, mAndE, mOrE, mNotE, mIfE, mIsi, isiD, mChn, chnL, cmpD, binD, addD, subD, mulD, modD, fdivD, powD, eqD, neD, ltD, leD, gtD, geD, isD, isnD, L2.M.isNon, negD, ixD, Bf.f, Bg.f, lenD, L2.M.intD, maxD, minD, repD, strD, gmaxD, gminD, sumD, sortD, anyD, allD, mCall, frz, fzO, lend, wb, mTup, mLst, fzs, cD, mAsg, bTup, bTps, mApp, tupD, lstD, mRev, revD, ofs_inj, ee_ii, ee_ss, ee_bb, ee_nn, ee_is, ee_si, ee_in, ee_ni, ee_tt, ee_ll, ee_maps, ee_0, ee_1, ee_2, ee_3, at_lit, at_nat, at_m1, at_m2, scD, emD, sizeLine_eq, ixN, sm_lit, mSrc, itemsD, plOf, rng1D, bNm, mSl, mPt, mNoP, slD, mPar, keepT, tmsO, setA, mFlow, zipX, enumX, itemsX, intsOf, ints_all, boolsOf, shaped_lay, lay_int, lay_bool, lay_none, lay_dict, lay_tup, lay_list, lay_ints, sortX_ints, mPlF, mPlI, mRd, mPU, mPB, mFSet, mFNew, mNSet, mPApp, mPSetIx, mPPop, mMeth, mNew, isIns, cellO, mLstN, mAddN, mAppN, semX, mTold, mCallX, xRet, xExpr, xSet, mRaise, mM, isL, isS, mOrV, truD, mFor, forL, mLc, lcL, sameC, wipeC, restC, mYes, *])
local macro_rules | `(tactic| walk_at "rg") => `(tactic| (and_intros <;> grind))
local macro_rules | `(tactic| walk_at "nx") => `(tactic| (apply wx_nx; focus (walk_at "ev"; try first | exact ⟨rfl, rfl⟩ | rfl)))
local macro_rules | `(tactic| walk_at "ns") => `(tactic| (apply wx_nx; focus (walk_at "es"; try first | exact ⟨rfl, rfl⟩ | rfl)))
local macro_rules | `(tactic| walk_at "rt") => `(tactic| (apply wx_rt; focus (walk_at "ev"; try first | exact ⟨rfl, rfl⟩ | rfl)))
local macro_rules | `(tactic| walk_at "rs") => `(tactic| (apply wx_rt; focus (walk_at "es"; try first | exact ⟨rfl, rfl⟩ | rfl)))
local macro_rules | `(tactic| walk_at "ed") => `(tactic| simp [semF, shared, after, mSeq, mSkip, mIf, mRet, mRetN, mRetV, mSet, mSetIx, mExpr, mB, mU, mTm, mPl, mK, mVar, mOp, mCons, mNil, bor, bors, mTst, mAndT, mOrT, mNotT, mAndE, mOrE, mNotE, mIfE, mIsi, isiD, mChn, chnL, cmpD, binD, addD, subD, mulD, modD, fdivD, powD, eqD, neD, ltD, leD, gtD, geD, isD, isnD, L2.M.isNon, negD, ixD, Bf.f, Bg.f, lenD, L2.M.intD, maxD, minD, repD, strD, gmaxD, gminD, sumD, sortD, anyD, allD, mCall, frz, fzO, lend, wb, mTup, mLst, fzs, cD, mAsg, bTup, bTps, mApp, tupD, lstD, mRev, revD, ofs_inj, ee_ii, ee_ss, ee_bb, ee_nn, ee_is, ee_si, ee_in, ee_ni, ee_tt, ee_ll, ee_maps, ee_0, ee_1, ee_2, ee_3, at_lit, at_nat, at_m1, at_m2, scD, emD, sizeLine_eq, ixN, sm_lit, mSrc, itemsD, plOf, rng1D, bNm, mSl, mPt, mNoP, slD, mPar, keepT, tmsO, setA, mFlow, zipX, enumX, itemsX, intsOf, ints_all, boolsOf, shaped_lay, lay_int, lay_bool, lay_none, lay_dict, lay_tup, lay_list, lay_ints, sortX_ints, mPlF, mPlI, mRd, mPU, mPB, mFSet, mFNew, mNSet, mPApp, mPSetIx, mPPop, mMeth, mNew, isIns, cellO, mLstN, mAddN, mAppN, semX, mTold, mCallX, xRet, xExpr, xSet, mRaise, mM, isL, isS, mOrV, truD, mDNew, mDIn, mDGet, mDLen, mDPut, kyD, mNNew, mN1, mTake, mFnV, mCallF, mNIn, mNGet, mNPut, mNVals, mNList, nKs, mDGetD, mDList, mNNe, *])
/-- callers that the laws play with -/
structure Cl (q : Ca) : Prop where
  ok : q.Ok
  K1 : 1 ≤ q.K
  K2 : q.K ≤ 200
  Z0 : 0 ≤ q.Z
  Z1 : q.Z ≤ 1000
  r1 : 1 ≤ q.r
  r2 : q.r ≤ 1000
  p1 : q.p ≤ 1000
  c1 : q.cp ≤ 10000
end KW
namespace KW
open PySem PySem.Spec PyProof.Rows L2 L2.M
local macro_rules | `(tactic| walk_at "ev") => `(tactic| simp [semF, shared, after, mSeq, mSkip, mIf, mRet, mRetN, mRetV, mSet, mSetIx, mExpr, mB, mU, mTm, mPl, mK, mVar, mOp, mCons, mNil, bor, bors, mTst, mAndT, mOrT, mNotT, mAndE, mOrE, mNotE, mIfE, mIsi, isiD, mChn, chnL, cmpD, binD, addD, subD, mulD, modD, fdivD, powD, eqD, neD, ltD, leD, gtD, geD, isD, isnD, L2.M.isNon, negD, ixD, Bf.f, Bg.f, lenD, L2.M.intD, maxD, minD, repD, strD, gmaxD, gminD, sumD, sortD, anyD, allD, mCall, frz, fzO, lend, wb, mTup, mLst, fzs, cD, mAsg, bTup, bTps, mApp, tupD, lstD, mRev, revD, ofs_inj, ee_ii, ee_ss, ee_bb, ee_nn, ee_is, ee_si, ee_in, ee_ni, ee_tt, ee_ll, ee_maps, ee_0, ee_1, ee_2, ee_3, at_lit, at_nat, at_m1, at_m2, scD, emD, sizeLine_eq, ixN, sm_lit, mSrc, itemsD, plOf, rng1D, bNm, mSl, mPt, mNoP, slD, mPar, keepT, tmsO, setA, mFlow, zipX, enumX, itemsX, intsOf, ints_all, boolsOf, shaped_lay, lay_int, lay_bool, lay_none, lay_dict, lay_tup, lay_list, lay_ints, sortX_ints, mPlF, mPlI, mRd, mPU, mPB, mFSet, mFNew, mNSet, mPApp, mPSetIx, mPPop, mMeth, mNew, isIns, cellO, mLstN, mAddN, mAppN, semX, mTold, mCallX, xRet, xExpr, xSet, mRaise, mM, isL, isS, mOrV, truD])
local macro_rules | `(tactic| walk_at "es") => `(tactic| simp [semF, shared, after, mSeq, mSkip, mIf, mRet, mRetN, mRetV, mSet, mSetIx, mExpr, mB, mU, mTm, mPl, mK, mVar, mOp, mCons, mNil, bor, bors, mTst, mAndT, mOrT, mNotT, mAndE, mOrE, mNotE, mIfE, mIsi, isiD, mChn, chnL, cmpD, binD, addD, subD, mulD, modD, fdivD, powD, eqD, neD, ltD, leD, gtD, geD, isD, isnD, L2.M.isNon, negD, ixD, Bf.f, Bg.f, lenD, L2.M.intD, maxD, minD, repD, strD, gmaxD, gminD, sumD, sortD, anyD, allD, mCall, frz, fzO, lend, wb, mTup, mLst, fzs, cD, mAsg, bTup, bTps, mApp, tupD, lstD, mRev, revD, ofs_inj, ee_ii, ee_ss, ee_bb, ee_nn, ee_is, ee_si, ee_in, ee_ni, ee_tt, ee_ll, ee_maps, ee_0, ee_1, ee_2, ee_3, at_lit, at_nat, at_m1, at_m2, scD, emD, sizeLine_eq, ixN, sm_lit, mSrc, itemsD, plOf, rng1D, bNm, mSl, mPt, mNoP, slD, mPar, keepT, tmsO, setA, mFlow, zipX, enumX, itemsX, intsOf, ints_all, boolsOf, shaped_lay, lay_int, lay_bool, lay_none, lay_dict, lay_tup, lay_list, lay_ints, sortX_ints, mPlF, mPlI, mRd, mPU, mPB, mFSet, mFNew, mNSet, mPApp, mPSetIx, mPPop, mMeth, mNew, isIns, cellO, mLstN, mAddN, mAppN, semX, mTold, mCallX, xRet, xExpr, xSet, mRaise, mM, isL, isS, mOrV, truD, *])
local macro_rules | `(tactic| walk_at "el") => `(tactic| simp [semF, shared, after, mSeq, mSkip, mIf, mRet, mRetN, mRetV, mSet, mSetIx, mExpr, mB, mU, mTm, mPl, mK, mVar, mOp, mCons, mNil, bor, bors, mTst, mAndT, mOrT, mNotT, mAndE, mOrE, mNotE, mIfE, mIsi, isiD, mChn, chnL, cmpD, binD, addD, subD, mulD, modD, fdivD, powD, eqD, neD, ltD, leD, gtD, geD, isD, isnD, L2.M.isNon, negD, ixD, Bf.f, Bg.f, lenD, L2.M.intD, maxD, minD, repD, strD, gmaxD, gminD, sumD, sortD, anyD, allD, mCall, frz, fzO, lend, wb, mTup, mLst, fzs, cD, mAsg, bTup, bTps, mApp, tupD, lstD, mRev, revD, ofs_inj, ee_ii, ee_ss, ee_bb, ee_nn, ee_is, ee_si, ee_in, ee_ni, ee_tt, ee_ll, ee_maps, ee_0, ee_1, ee_2, ee_3, at_lit, at_nat, at_m1, at_m2, scD, emD, sizeLine_eq, ixN, sm_lit, mSrc, itemsD, plOf, rng1D, bNm, mSl, mPt, mNoP, slD, mPar, keepT, tmsO, setA, mFlow, zipX, enumX, itemsX, intsOf, ints_all, boolsOf, shaped_lay, lay_int, lay_bool, lay_none, lay_dict, lay_tup, lay_list, lay_ints, sortX_ints, mPlF, mPlI, mRd, mPU, mPB, mFSet, mFNew, mNSet, mPApp, mPSetIx, mPPop, mMeth, mNew, isIns, cellO, mLstN, mAddN, mAppN, semX, mTold, mCallX, xRet, xExpr, xSet, mRaise, mM, isL, isS, mOrV, truD, mLc, lcL, sameC, wipeC, restC, mYes, *])
local macro_rules | `(tactic| walk_at "ef") => `(tactic| simp [semF, shared, after, mSeq, mSkip, mIf, mRet, mRetN, mRetV, mSet, mSetIx, mExpr, mB, mU, mTm, mPl, mK, mVar, mOp, mCons, mNil, bor, bors, mTst, mAndT, mOrT, mNotT, mAndE, mOrE, mNotE, mIfE, mIsi, isiD, mChn, chnL, cmpD, binD, addD, subD, mulD, modD, fdivD, powD, eqD, neD, ltD, leD, gtD, geD, isD, isnD, L2.M.isNon, negD, ixD, Bf.f, Bg.f, lenD, L2.M.intD, maxD, minD, repD, strD, gmaxD, gminD, sumD, sortD, anyD, allD, mCall, frz, fzO, lend, wb, mTup, mLst, fzs, cD, mAsg, bTup, bTps, mApp, tupD, lstD, mRev, revD, ofs_inj, ee_ii, ee_ss, ee_bb, ee_nn, ee_is, ee_si, ee_in, ee_ni, ee_tt, ee_ll, ee_maps, ee_0, ee_1, ee_2, ee_3, at_lit, at_nat, at_m1, at_m2, scD, emD, sizeLine_eq, ixN, sm_lit, mSrc, itemsD, plOf, rng1D, bNm, mSl, mPt, mNoP, slD, mPar, keepT, tmsO, setA, mFlow, zipX, enumX, itemsX, intsOf, ints_all, boolsOf, shaped_lay, lay_int, lay_bool, lay_none, lay_dict, lay_tup, lay_list, lay_ints, sortX_ints, mPlF, mPlI, mRd, mPU, mPB, mFSet, mFNew, mNSet, mPApp, mPSetIx, mPPop, mMeth, mNew, isIns, cellO, mLstN, mAddN, mAppN, semX, mTold, mCallX, xRet, xExpr, xSet, mRaise, mM, isL, isS, mOrV, truD, mFor, forL, mLc, lcL, sameC, wipeC, restC, mYes, *])
local macro_rules | `(tactic| walk_at "rg") => `(tactic| (and_intros <;> grind))
local macro_rules | `(tactic| walk_at "nx") => `(tactic| (apply wx_nx; focus (walk_at "ev"; try first | exact ⟨rfl, rfl⟩ | rfl)))
local macro_rules | `(tactic| walk_at "ns") => `(tactic| (apply wx_nx; focus (walk_at "es"; try first | exact ⟨rfl, rfl⟩ | rfl)))
local macro_rules | `(tactic| walk_at "rt") => `(tactic| (apply wx_rt; focus (walk_at "ev"; try first | exact ⟨rfl, rfl⟩ | rfl)))
local macro_rules | `(tactic| walk_at "rs") => `(tactic| (apply wx_rt; focus (walk_at "es"; try first | exact ⟨rfl, rfl⟩ | rfl)))
local macro_rules | `(tactic| walk_at "ed") => `(tactic| simp [semF, shared, after, mSeq, mSkip, mIf, mRet, mRetN, mRetV, mSet, mSetIx, mExpr, mB, mU, mTm, mPl, mK, mVar, mOp, mCons, mNil, bor, bors, mTst, mAndT, mOrT, mNotT, mAndE, mOrE, mNotE, mIfE, mIsi, isiD, mChn, chnL, cmpD, binD, addD, subD, mulD, modD, fdivD, powD, eqD, neD, ltD, leD, gtD, geD, isD, isnD, L2.M.isNon, negD, ixD, Bf.f, Bg.f, lenD, L2.M.intD, maxD, minD, repD, strD, gmaxD, gminD, sumD, sortD, anyD, allD, mCall, frz, fzO, lend, wb, mTup, mLst, fzs, cD, mAsg, bTup, bTps, mApp, tupD, lstD, mRev, revD, ofs_inj, ee_ii, ee_ss, ee_bb, ee_nn, ee_is, ee_si, ee_in, ee_ni, ee_tt, ee_ll, ee_maps, ee_0, ee_1, ee_2, ee_3, at_lit, at_nat, at_m1, at_m2, scD, emD, sizeLine_eq, ixN, sm_lit, mSrc, itemsD, plOf, rng1D, bNm, mSl, mPt, mNoP, slD, mPar, keepT, tmsO, setA, mFlow, zipX, enumX, itemsX, intsOf, ints_all, boolsOf, shaped_lay, lay_int, lay_bool, lay_none, lay_dict, lay_tup, lay_list, lay_ints, sortX_ints, mPlF, mPlI, mRd, mPU, mPB, mFSet, mFNew, mNSet, mPApp, mPSetIx, mPPop, mMeth, mNew, isIns, cellO, mLstN, mAddN, mAppN, semX, mTold, mCallX, xRet, xExpr, xSet, mRaise, mM, isL, isS, mOrV, truD, mDNew, mDIn, mDGet, mDLen, mDPut, kyD, mNNew, mN1, mTake, mFnV, mCallF, mNIn, mNGet, mNPut, mNVals, mNList, nKs, mDGetD, mDList, mNNe, *])
def EvN (N : Int) (d : PyData) : Prop := ∃ n w x, d = evD n w x ∧ 0 ≤ n ∧ n < N ∧ WdT w ∧ WhT x
theorem EvN.up {N M : Int} {d : PyData} (h : EvN N d) (hm : N ≤ M) : EvN M d := by
  obtain ⟨n, w, x, e, h0, h1, h2⟩ := h
  exact ⟨n, w, x, e, h0, by omega, h2⟩
theorem evt_n (q : Ca) (t : Int) (a : Bool) (st : Bs) {n : Int} (b k : Int) {N : Int} (h0 : 0 ≤ n) (h1 : n < N) : EvN N (evt q t a st n b k) := by
  refine ⟨n, wrd st.s t a, _, rfl, h0, h1, ?_, ?_⟩
  · unfold wrd
    split
    · cases a with
      | true => exact .served
      | false => exact .silent
    · exact .held
  · unfold whatD
    repeat' split
    all_goals constructor
theorem tri_es (q : Ca) (t : Int) (a : Bool) (st : Bs) (x : Int × Int × Int) : (tri q t a st x).e = st.e ++ [evt q t a st x.1 x.2.1 x.2.2] := rfl
theorem nxE_n {q : Ca} {A : List Nat} {z : Sd} (g : Gi q A z) (b : Int) (a : Bool) (k : Nat) : ∀ d ∈ nxE q a (jmp z b) k, EvN (z.n + k) d := by
  have main := nx_ind (q := q) (a := a) (z := jmp z b) (k := k) (fun R st => (∀ d ∈ st.e, EvN st.n d) ∧ z.n ≤ st.n)
    ⟨(fun x hx => by cases hx), Int.le_refl _⟩
    (by
      rintro x xs st hx ⟨j1, j2⟩
      have wx := g.w x (List.mem_filter.mp hx).1
      unfold Wi at wx
      rw [tri_n2]
      refine ⟨fun d hd => ?_, j2⟩
      rw [tri_es] at hd
      rcases List.mem_append.mp hd with hd | hd
      · exact j1 d hd
      · rw [List.mem_singleton.mp hd]
        exact evt_n _ _ _ _ _ _ (by show 0 ≤ x.num; omega) (by show x.num < _; omega))
    (by
      rintro - st ⟨j1, j2⟩
      have := g.n0
      rw [fst1_n]
      refine ⟨fun d hd => ?_, by omega⟩
      unfold fst1 at hd
      rw [tri_es] at hd
      rcases List.mem_append.mp hd with hd | hd
      · exact (j1 d hd).up (by omega)
      · rw [List.mem_singleton.mp hd]
        exact evt_n _ _ _ _ _ _ (by show 0 ≤ st.n; omega) (by show st.n < _; omega))
  have eb : (bt2 q a (jmp z b) k).n = z.n + k := nxS_n q a (jmp z b) k
  rw [eb] at main
  exact main.1
def EvB (N : Int) (d : PyData) : Prop := ∃ b n w x, d = .tuple [.int b, .int n, .str w, x] ∧ 0 ≤ b ∧ b ≤ 2001 ∧ 0 ≤ n ∧ n < N ∧ WdT w ∧ WhT x
theorem gst_ev {q : Ca} (h : q.Ok) {A : List Nat} (hA : Ak A) (hZ : q.Z ≤ 1000) (f : Int → Bool) : ∀ i : Nat, ∀ d ∈ (gst q f A i).2, EvB A.length d
  | 0 => by
    rw [gst_0]
    intro d hd
    cases hd
  | i + 1 => by
    rw [gst_s]
    have ih := gst_ev h hA hZ f i
    have g := gi_all h hA hZ f i
    cases hb : nb A (gst q f A i).1 with
    | none => rw [nx1_none hb]; exact ih
    | some b =>
      have g2 := gi_s h hA hZ g hb (f b)
      have hn := g2.n1
      rw [nxS_n] at hn
      have e : (jmp (gst q f A i).1 b).n = (gst q f A i).1.n := rfl
      rw [e] at hn
      obtain ⟨b1, b2⟩ := nb_bd hA hZ g hb
      have := g.t0
      rw [nx1_some hb]
      intro d hd
      rcases List.mem_append.mp hd with hd | hd
      · exact ih d hd
      · obtain ⟨d0, hd0, rfl⟩ := List.mem_map.mp hd
        obtain ⟨n, w, x, rfl, h0, h1, h2, h3⟩ := nxE_n g b (f b) (cnt A b) d0 hd0
        exact ⟨b, n, w, x, rfl, by omega, by omega, h0, by omega, h2, h3⟩
def endS (L : List PyData) (d : PyData) : List PyData := match d with
  | .tuple [b, .int n, .str w, x] => if w = "served" then L.set n.toNat (.tuple [.str "served", b]) else if whole x = true then L else L.set n.toNat (.tuple [.str "lost", b, x])
  | _ => L
def goN (q : Ca) (f : Int → Bool) (A : List Nat) : List PyData := (goE q f A).foldl endS (List.replicate A.length .none)
theorem endS_len (L : List PyData) (d : PyData) : (endS L d).length = L.length := by
  unfold endS
  split
  · split
    · rw [List.length_set]
    · split
      · rfl
      · rw [List.length_set]
  · rfl
theorem ends_len : ∀ (E L : List PyData), (E.foldl endS L).length = L.length
  | [], L => rfl
  | d :: E, L => by rw [List.foldl_cons, ends_len E, endS_len]
end KW
namespace KW
open PySem PySem.Spec PyProof.Rows L2 L2.M
local macro_rules | `(tactic| walk_at "ev") => `(tactic| simp [semF, shared, after, mSeq, mSkip, mIf, mRet, mRetN, mRetV, mSet, mSetIx, mExpr, mB, mU, mTm, mPl, mK, mVar, mOp, mCons, mNil, bor, bors, mTst, mAndT, mOrT, mNotT, mAndE, mOrE, mNotE, mIfE, mIsi, isiD, mChn, chnL, cmpD, binD, addD, subD, mulD, modD, fdivD, powD, eqD, neD, ltD, leD, gtD, geD, isD, isnD, L2.M.isNon, negD, ixD, Bf.f, Bg.f, lenD, L2.M.intD, maxD, minD, repD, strD, gmaxD, gminD, sumD, sortD, anyD, allD, mCall, frz, fzO, lend, wb, mTup, mLst, fzs, cD, mAsg, bTup, bTps, mApp, tupD, lstD, mRev, revD, ofs_inj, ee_ii, ee_ss, ee_bb, ee_nn, ee_is, ee_si, ee_in, ee_ni, ee_tt, ee_ll, ee_maps, ee_0, ee_1, ee_2, ee_3, at_lit, at_nat, at_m1, at_m2, scD, emD, sizeLine_eq, ixN, sm_lit, mSrc, itemsD, plOf, rng1D, bNm, mSl, mPt, mNoP, slD, mPar, keepT, tmsO, setA, mFlow, zipX, enumX, itemsX, intsOf, ints_all, boolsOf, shaped_lay, lay_int, lay_bool, lay_none, lay_dict, lay_tup, lay_list, lay_ints, sortX_ints, mPlF, mPlI, mRd, mPU, mPB, mFSet, mFNew, mNSet, mPApp, mPSetIx, mPPop, mMeth, mNew, isIns, cellO, mLstN, mAddN, mAppN, semX, mTold, mCallX, xRet, xExpr, xSet, mRaise, mM, isL, isS, mOrV, truD])
local macro_rules | `(tactic| walk_at "es") => `(tactic| simp [semF, shared, after, mSeq, mSkip, mIf, mRet, mRetN, mRetV, mSet, mSetIx, mExpr, mB, mU, mTm, mPl, mK, mVar, mOp, mCons, mNil, bor, bors, mTst, mAndT, mOrT, mNotT, mAndE, mOrE, mNotE, mIfE, mIsi, isiD, mChn, chnL, cmpD, binD, addD, subD, mulD, modD, fdivD, powD, eqD, neD, ltD, leD, gtD, geD, isD, isnD, L2.M.isNon, negD, ixD, Bf.f, Bg.f, lenD, L2.M.intD, maxD, minD, repD, strD, gmaxD, gminD, sumD, sortD, anyD, allD, mCall, frz, fzO, lend, wb, mTup, mLst, fzs, cD, mAsg, bTup, bTps, mApp, tupD, lstD, mRev, revD, ofs_inj, ee_ii, ee_ss, ee_bb, ee_nn, ee_is, ee_si, ee_in, ee_ni, ee_tt, ee_ll, ee_maps, ee_0, ee_1, ee_2, ee_3, at_lit, at_nat, at_m1, at_m2, scD, emD, sizeLine_eq, ixN, sm_lit, mSrc, itemsD, plOf, rng1D, bNm, mSl, mPt, mNoP, slD, mPar, keepT, tmsO, setA, mFlow, zipX, enumX, itemsX, intsOf, ints_all, boolsOf, shaped_lay, lay_int, lay_bool, lay_none, lay_dict, lay_tup, lay_list, lay_ints, sortX_ints, mPlF, mPlI, mRd, mPU, mPB, mFSet, mFNew, mNSet, mPApp, mPSetIx, mPPop, mMeth, mNew, isIns, cellO, mLstN, mAddN, mAppN, semX, mTold, mCallX, xRet, xExpr, xSet, mRaise, mM, isL, isS, mOrV, truD, *])
local macro_rules | `(tactic| walk_at "el") => `(tactic| simp [semF, shared, after, mSeq, mSkip, mIf, mRet, mRetN, mRetV, mSet, mSetIx, mExpr, mB, mU, mTm, mPl, mK, mVar, mOp, mCons, mNil, bor, bors, mTst, mAndT, mOrT, mNotT, mAndE, mOrE, mNotE, mIfE, mIsi, isiD, mChn, chnL, cmpD, binD, addD, subD, mulD, modD, fdivD, powD, eqD, neD, ltD, leD, gtD, geD, isD, isnD, L2.M.isNon, negD, ixD, Bf.f, Bg.f, lenD, L2.M.intD, maxD, minD, repD, strD, gmaxD, gminD, sumD, sortD, anyD, allD, mCall, frz, fzO, lend, wb, mTup, mLst, fzs, cD, mAsg, bTup, bTps, mApp, tupD, lstD, mRev, revD, ofs_inj, ee_ii, ee_ss, ee_bb, ee_nn, ee_is, ee_si, ee_in, ee_ni, ee_tt, ee_ll, ee_maps, ee_0, ee_1, ee_2, ee_3, at_lit, at_nat, at_m1, at_m2, scD, emD, sizeLine_eq, ixN, sm_lit, mSrc, itemsD, plOf, rng1D, bNm, mSl, mPt, mNoP, slD, mPar, keepT, tmsO, setA, mFlow, zipX, enumX, itemsX, intsOf, ints_all, boolsOf, shaped_lay, lay_int, lay_bool, lay_none, lay_dict, lay_tup, lay_list, lay_ints, sortX_ints, mPlF, mPlI, mRd, mPU, mPB, mFSet, mFNew, mNSet, mPApp, mPSetIx, mPPop, mMeth, mNew, isIns, cellO, mLstN, mAddN, mAppN, semX, mTold, mCallX, xRet, xExpr, xSet, mRaise, mM, isL, isS, mOrV, truD, mLc, lcL, sameC, wipeC, restC, mYes, *])
local macro_rules | `(tactic| walk_at "ef") => `(tactic| simp [semF, shared, after, mSeq, mSkip, mIf, mRet, mRetN, mRetV, mSet, mSetIx, mExpr, mB, mU, mTm, mPl, mK, mVar, mOp, mCons, mNil, bor, bors, mTst, mAndT, mOrT, mNotT, mAndE, mOrE, mNotE, mIfE, mIsi, isiD, mChn, chnL, cmpD, binD, addD, subD, mulD, modD, fdivD, powD, eqD, neD, ltD, leD, gtD, geD, isD, isnD, L2.M.isNon, negD, ixD, Bf.f, Bg.f, lenD, L2.M.intD, maxD, minD, repD, strD, gmaxD, gminD, sumD, sortD, anyD, allD, mCall, frz, fzO, lend, wb, mTup, mLst, fzs, cD, mAsg, bTup, bTps, mApp, tupD, lstD, mRev, revD, ofs_inj, ee_ii, ee_ss, ee_bb, ee_nn, ee_is, ee_si, ee_in, ee_ni, ee_tt, ee_ll, ee_maps, ee_0, ee_1, ee_2, ee_3, at_lit, at_nat, at_m1, at_m2, scD, emD, sizeLine_eq, ixN, sm_lit, mSrc, itemsD, plOf, rng1D, bNm, mSl, mPt, mNoP, slD, mPar, keepT, tmsO, setA, mFlow, zipX, enumX, itemsX, intsOf, ints_all, boolsOf, shaped_lay, lay_int, lay_bool, lay_none, lay_dict, lay_tup, lay_list, lay_ints, sortX_ints, mPlF, mPlI, mRd, mPU, mPB, mFSet, mFNew, mNSet, mPApp, mPSetIx, mPPop, mMeth, mNew, isIns, cellO, mLstN, mAddN, mAppN, semX, mTold, mCallX, xRet, xExpr, xSet, mRaise, mM, isL, isS, mOrV, truD, mFor, forL, mLc, lcL, sameC, wipeC, restC, mYes, *])
local macro_rules | `(tactic| walk_at "rg") => `(tactic| (and_intros <;> grind))
local macro_rules | `(tactic| walk_at "nx") => `(tactic| (apply wx_nx; focus (walk_at "ev"; try first | exact ⟨rfl, rfl⟩ | rfl)))
local macro_rules | `(tactic| walk_at "ns") => `(tactic| (apply wx_nx; focus (walk_at "es"; try first | exact ⟨rfl, rfl⟩ | rfl)))
local macro_rules | `(tactic| walk_at "rt") => `(tactic| (apply wx_rt; focus (walk_at "ev"; try first | exact ⟨rfl, rfl⟩ | rfl)))
local macro_rules | `(tactic| walk_at "rs") => `(tactic| (apply wx_rt; focus (walk_at "es"; try first | exact ⟨rfl, rfl⟩ | rfl)))
local macro_rules | `(tactic| walk_at "ed") => `(tactic| simp [semF, shared, after, mSeq, mSkip, mIf, mRet, mRetN, mRetV, mSet, mSetIx, mExpr, mB, mU, mTm, mPl, mK, mVar, mOp, mCons, mNil, bor, bors, mTst, mAndT, mOrT, mNotT, mAndE, mOrE, mNotE, mIfE, mIsi, isiD, mChn, chnL, cmpD, binD, addD, subD, mulD, modD, fdivD, powD, eqD, neD, ltD, leD, gtD, geD, isD, isnD, L2.M.isNon, negD, ixD, Bf.f, Bg.f, lenD, L2.M.intD, maxD, minD, repD, strD, gmaxD, gminD, sumD, sortD, anyD, allD, mCall, frz, fzO, lend, wb, mTup, mLst, fzs, cD, mAsg, bTup, bTps, mApp, tupD, lstD, mRev, revD, ofs_inj, ee_ii, ee_ss, ee_bb, ee_nn, ee_is, ee_si, ee_in, ee_ni, ee_tt, ee_ll, ee_maps, ee_0, ee_1, ee_2, ee_3, at_lit, at_nat, at_m1, at_m2, scD, emD, sizeLine_eq, ixN, sm_lit, mSrc, itemsD, plOf, rng1D, bNm, mSl, mPt, mNoP, slD, mPar, keepT, tmsO, setA, mFlow, zipX, enumX, itemsX, intsOf, ints_all, boolsOf, shaped_lay, lay_int, lay_bool, lay_none, lay_dict, lay_tup, lay_list, lay_ints, sortX_ints, mPlF, mPlI, mRd, mPU, mPB, mFSet, mFNew, mNSet, mPApp, mPSetIx, mPPop, mMeth, mNew, isIns, cellO, mLstN, mAddN, mAppN, semX, mTold, mCallX, xRet, xExpr, xSet, mRaise, mM, isL, isS, mOrV, truD, mDNew, mDIn, mDGet, mDLen, mDPut, kyD, mNNew, mN1, mTake, mFnV, mCallF, mNIn, mNGet, mNPut, mNVals, mNList, nKs, mDGetD, mDList, mNNe, *])
def capd (q : Ca) (c : Int) : Int := if c + q.p < q.cp then c + q.p else q.cp
def lg1 (q : Ca) (p : Int × Int) (n : Int) : Int × Int := if n < p.1 then p else (p.1 + 1, capd q p.2)
def lgP (q : Ca) (p : Int × Int) (n : Int) (x : PyData) : Int × Int := if whole x = true then ((lg1 q p n).1, (lg1 q p n).2 - q.r) else lg1 q p n
def lgS (q : Ca) (p : Int × Int) : PyData → Int × Int
  | .tuple [.int n, .str _, x] => lgP q p n x
  | _ => p
structure LgE (q : Ca) (p : Int × Int) (n : Int) (x : PyData) : Prop where
  n0 : 0 ≤ n
  n1 : n ≤ p.1
  c0 : 0 ≤ (lgP q p n x).2
  c1 : (lgP q p n x).2 ≤ q.cp
  pu : x = .str "purse" → (lg1 q p n).2 < q.r
  wh : WhT x
def LgD (q : Ca) (p : Int × Int) (d : PyData) : Prop := ∃ n w x, d = evD n w x ∧ WdT w ∧ LgE q p n x
def lgA (q : Ca) : Int × Int → List PyData → Prop
  | _, [] => True
  | p, d :: ds => LgD q p d ∧ lgA q (lgS q p d) ds
theorem lgA_app (q : Ca) : ∀ (xs ys : List PyData) (p : Int × Int), lgA q p (xs ++ ys) ↔ lgA q p xs ∧ lgA q (xs.foldl (lgS q) p) ys
  | [], ys, p => by simp [lgA]
  | x :: xs, ys, p => by simp only [List.cons_append, lgA, List.foldl_cons, lgA_app q xs ys, and_assoc]
theorem capd_b {q : Ca} (h : q.Ok) {c : Int} (c0 : 0 ≤ c) : 0 ≤ capd q c ∧ capd q c ≤ q.cp := by
  have := h.p0; have := h.cp0
  unfold capd
  split <;> omega
theorem whatD_cases (q : Ca) (t c b k : Int) : (∃ i, whatD q t c b k = .int i ∧ goes q t c b k = true) ∨ (WhT (whatD q t c b k) ∧ whole (whatD q t c b k) = false ∧ goes q t c b k = false ∧ (whatD q t c b k = .str "purse" → c < q.r)) := by
  unfold whatD goes
  by_cases h1 : q.K ≤ k
  · right
    rw [if_pos h1]
    refine ⟨.k, rfl, ?_, fun e => ?_⟩
    · have : ¬ k < q.K := by omega
      simp [this]
    · injection e with e
      exact absurd e (by decide +kernel)
  · rw [if_neg h1]
    by_cases h2 : b + q.Z < t + q.gap k
    · right
      rw [if_pos h2]
      refine ⟨.t, rfl, ?_, fun e => ?_⟩
      · have : ¬ t + q.gap k ≤ b + q.Z := by omega
        simp [this]
      · injection e with e
        exact absurd e (by decide +kernel)
    · rw [if_neg h2]
      by_cases h3 : c < q.r
      · right
        rw [if_pos h3]
        refine ⟨.p, rfl, ?_, fun _ => h3⟩
        have : ¬ q.r ≤ c := by omega
        simp [this]
      · left
        rw [if_neg h3]
        refine ⟨_, rfl, ?_⟩
        have h1 : k < q.K := by omega
        have h2 : t + q.gap k ≤ b + q.Z := by omega
        have h3 : q.r ≤ c := by omega
        simp [h1, h2, h3]
theorem tri_lg {q : Ca} {t : Int} {a : Bool} {st : Bs} {x : Int × Int × Int} {p : Int × Int} (h0 : 0 ≤ x.1) (h1 : x.1 ≤ p.1) (e : lg1 q p x.1 = (st.n, st.c)) (c0 : 0 ≤ st.c) (c1 : st.c ≤ q.cp) (r0 : 0 ≤ q.r) : LgD q p (evt q t a st x.1 x.2.1 x.2.2) ∧ lgS q p (evt q t a st x.1 x.2.1 x.2.2) = ((tri q t a st x).n, (tri q t a st x).c) ∧ 0 ≤ (tri q t a st x).c ∧ (tri q t a st x).c ≤ q.cp := by
  have hw : WdT (wrd st.s t a) := by
    unfold wrd
    split
    · cases a with
      | true => exact .served
      | false => exact .silent
    · exact .held
  by_cases hs : srv st.s t a = true
  · have ee : evt q t a st x.1 x.2.1 x.2.2 = evD x.1 (wrd st.s t a) .none := by unfold evt evD; rw [if_pos hs]
    have et : (tri q t a st x).n = st.n ∧ (tri q t a st x).c = st.c := by
      unfold tri tri0
      rw [if_pos hs]
      exact ⟨rfl, rfl⟩
    have ep : lgP q p x.1 .none = (st.n, st.c) := by
      unfold lgP
      rw [if_neg (by decide), e]
    rw [ee, et.1, et.2]
    exact ⟨⟨_, _, _, rfl, hw, h0, h1, by rw [ep]; exact c0, by rw [ep]; exact c1, fun z => (by cases z), .none⟩, ep, c0, c1⟩
  · have ee : evt q t a st x.1 x.2.1 x.2.2 = evD x.1 (wrd st.s t a) (whatD q t st.c x.2.1 (x.2.2 + 1)) := by unfold evt evD; rw [if_neg hs]
    rw [ee]
    rcases whatD_cases q t st.c x.2.1 (x.2.2 + 1) with ⟨i, ew, hg⟩ | ⟨w1, w2, hg, w3⟩
    · have et : (tri q t a st x).n = st.n ∧ (tri q t a st x).c = st.c - q.r := by
        unfold tri tri0 goS
        rw [if_neg hs, if_pos hg]
        exact ⟨rfl, rfl⟩
      have ep : lgP q p x.1 (.int i) = (st.n, st.c - q.r) := by
        unfold lgP
        rw [if_pos (by rfl), e]
      have hr : q.r ≤ st.c := by
        unfold goes at hg
        simp only [Bool.and_eq_true, decide_eq_true_eq] at hg
        exact hg.2.2
      rw [ew, et.1, et.2]
      exact ⟨⟨_, _, _, rfl, hw, h0, h1, by rw [ep]; show 0 ≤ st.c - q.r; omega, by rw [ep]; show st.c - q.r ≤ _; omega, fun z => (by cases z), .int _⟩, ep, by omega, by omega⟩
    · have et : (tri q t a st x).n = st.n ∧ (tri q t a st x).c = st.c := by
        unfold tri tri0 goS
        rw [if_neg hs, if_neg (by rw [hg]; simp)]
        exact ⟨rfl, rfl⟩
      have ep : lgP q p x.1 (whatD q t st.c x.2.1 (x.2.2 + 1)) = (st.n, st.c) := by
        unfold lgP
        rw [if_neg (by rw [w2]; simp), e]
      rw [et.1, et.2]
      exact ⟨⟨_, _, _, rfl, hw, h0, h1, by rw [ep]; exact c0, by rw [ep]; exact c1, fun z => by rw [e]; exact w3 z, w1⟩, ep, c0, c1⟩
/-- what holds of a standing -/
structure Li (q : Ca) (z : Sd) : Prop where
  w : ∀ x ∈ z.w, 0 ≤ x.num ∧ x.num < z.n
  n : 0 ≤ z.n
  c0 : 0 ≤ z.c
  c1 : z.c ≤ q.cp
theorem li_s {q : Ca} (h : q.Ok) {z : Sd} (g : Li q z) (a : Bool) (k : Nat) : Li q (nxS q a z k) ∧ lgA q (z.n, z.c) (nxE q a z k) ∧ (nxE q a z k).foldl (lgS q) (z.n, z.c) = ((nxS q a z k).n, (nxS q a z k).c) := by
  have r0 := h.r0
  have main := nx_ind (q := q) (a := a) (z := z) (k := k) (fun R st => (∀ x ∈ st.w, 0 ≤ x.num ∧ x.num < st.n) ∧ z.n ≤ st.n ∧ 0 ≤ st.c ∧ st.c ≤ q.cp ∧ lgA q (z.n, z.c) st.e ∧ st.e.foldl (lgS q) (z.n, z.c) = (st.n, st.c))
    ⟨fun x hx => g.w x (List.mem_filter.mp hx).1, Int.le_refl _, g.c0, g.c1, trivial, rfl⟩
    (by
      rintro x xs st hx ⟨j1, j2, j3, j4, j5, j6⟩
      have wx := g.w x (List.mem_filter.mp hx).1
      have l1 : lg1 q (st.n, st.c) x.x.1 = (st.n, st.c) := by
        unfold lg1
        rw [if_pos (by show x.num < st.n; omega)]
      obtain ⟨t1, t2, t3, t4⟩ := tri_lg (q := q) (t := z.t) (a := a) (st := st) (x := x.x) (p := (st.n, st.c)) (by show 0 ≤ x.num; omega) (by show x.num ≤ st.n; omega) l1 j3 j4 r0
      refine ⟨?_, by rw [tri_n2]; exact j2, t3, t4, ?_, ?_⟩
      · rw [tri_n2]
        rcases tri_cases q z.t a st x.x with ⟨e1, -⟩ | ⟨e1, -⟩
        · rw [e1]; exact j1
        · rw [e1]
          intro y hy
          rcases List.mem_append.mp hy with hy | hy
          · exact j1 y hy
          · rw [List.mem_singleton.mp hy]
            show 0 ≤ x.num ∧ x.num < st.n
            omega
      · rw [tri_es, lgA_app, j6]
        exact ⟨j5, t1, trivial⟩
      · rw [tri_es, List.foldl_append, j6]
        exact t2)
    (by
      rintro - st ⟨j1, j2, j3, j4, j5, j6⟩
      have := g.n
      obtain ⟨k1, k2⟩ := capd_b h j3
      have l1 : lg1 q (st.n, st.c) st.n = (st.n + 1, capd q st.c) := by
        unfold lg1
        rw [if_neg (by show ¬ st.n < st.n; omega)]
      obtain ⟨t1, t2, t3, t4⟩ := tri_lg (q := q) (t := z.t) (a := a) (st := { st with c := capd q st.c, n := st.n + 1 }) (x := (st.n, z.t, 0)) (p := (st.n, st.c)) (by show 0 ≤ st.n; omega) (by show st.n ≤ st.n; omega) l1 k1 k2 r0
      have ef : fst1 q z.t a st = tri q z.t a { st with c := capd q st.c, n := st.n + 1 } (st.n, z.t, 0) := rfl
      rw [ef]
      refine ⟨?_, by rw [tri_n2]; show z.n ≤ st.n + 1; omega, t3, t4, ?_, ?_⟩
      · rw [tri_n2]
        rcases tri_cases q z.t a { st with c := capd q st.c, n := st.n + 1 } (st.n, z.t, 0) with ⟨e1, -⟩ | ⟨e1, -⟩
        · rw [e1]
          intro y hy
          have := j1 y hy
          show 0 ≤ y.num ∧ y.num < st.n + 1
          omega
        · rw [e1]
          intro y hy
          show 0 ≤ y.num ∧ y.num < st.n + 1
          rcases List.mem_append.mp hy with hy | hy
          · have := j1 y hy
            omega
          · rw [List.mem_singleton.mp hy]
            show 0 ≤ st.n ∧ st.n < st.n + 1
            omega
      · rw [tri_es]
        show lgA q (z.n, z.c) (st.e ++ _)
        rw [lgA_app, j6]
        exact ⟨j5, t1, trivial⟩
      · rw [tri_es]
        show (st.e ++ _).foldl (lgS q) (z.n, z.c) = _
        rw [List.foldl_append, j6]
        exact t2)
  obtain ⟨m1, m2, m3, m4, m5, m6⟩ := main
  have := g.n
  refine ⟨⟨fun x hx => m1 x ((wsort_perm _).mem_iff.mp hx), ?_, m3, m4⟩, m5, m6⟩
  show 0 ≤ (bt2 q a z k).n
  omega
def unB : PyData → PyData
  | .tuple (_ :: ds) => .tuple ds
  | d => d
theorem unB_evB (b n : Int) (w : Str) (x : PyData) : unB (evB b (evD n w x)) = evD n w x := rfl
theorem unB_map {b : Int} : ∀ {E : List PyData}, (∀ d ∈ E, Ev d) → (E.map (evB b)).map unB = E
  | [], _ => rfl
  | d :: E, h => by
    obtain ⟨n, w, x, rfl, -⟩ := h d List.mem_cons_self
    simp only [List.map_cons, unB_evB, unB_map fun d hd => h d (List.mem_cons_of_mem _ hd)]
theorem gst_lg {q : Ca} (h : q.Ok) (f : Int → Bool) (A : List Nat) : ∀ i : Nat, Li q (gst q f A i).1 ∧ lgA q (0, q.c0) ((gst q f A i).2.map unB) ∧ ((gst q f A i).2.map unB).foldl (lgS q) (0, q.c0) = ((gst q f A i).1.n, (gst q f A i).1.c)
  | 0 => by
    rw [gst_0]
    refine ⟨⟨(fun x hx => by cases hx), Int.le_refl _, h.c00, h.c01⟩, ?_, ?_⟩
    · rw [List.map_nil]
      unfold lgA
      trivial
    · rw [List.map_nil, List.foldl_nil]
  | i + 1 => by
    rw [gst_s]
    obtain ⟨g, l1, l2⟩ := gst_lg h f A i
    cases hb : nb A (gst q f A i).1 with
    | none => rw [nx1_none hb]; exact ⟨g, l1, l2⟩
    | some b =>
      rw [nx1_some hb]
      have gj : Li q (jmp (gst q f A i).1 b) := ⟨g.w, g.n, g.c0, g.c1⟩
      obtain ⟨s1, s2, s3⟩ := li_s h gj (f b) (cnt A b)
      refine ⟨s1, ?_, ?_⟩
      · rw [List.map_append, unB_map (nxE_ev _ _ _ _), lgA_app, l2]
        exact ⟨l1, s2⟩
      · rw [List.map_append, unB_map (nxE_ev _ _ _ _), List.foldl_append, l2]
        exact s3
end KW
namespace KW
open PySem PySem.Spec PyProof.Rows L2 L2.M
local macro_rules | `(tactic| walk_at "ev") => `(tactic| simp [semF, shared, after, mSeq, mSkip, mIf, mRet, mRetN, mRetV, mSet, mSetIx, mExpr, mB, mU, mTm, mPl, mK, mVar, mOp, mCons, mNil, bor, bors, mTst, mAndT, mOrT, mNotT, mAndE, mOrE, mNotE, mIfE, mIsi, isiD, mChn, chnL, cmpD, binD, addD, subD, mulD, modD, fdivD, powD, eqD, neD, ltD, leD, gtD, geD, isD, isnD, L2.M.isNon, negD, ixD, Bf.f, Bg.f, lenD, L2.M.intD, maxD, minD, repD, strD, gmaxD, gminD, sumD, sortD, anyD, allD, mCall, frz, fzO, lend, wb, mTup, mLst, fzs, cD, mAsg, bTup, bTps, mApp, tupD, lstD, mRev, revD, ofs_inj, ee_ii, ee_ss, ee_bb, ee_nn, ee_is, ee_si, ee_in, ee_ni, ee_tt, ee_ll, ee_maps, ee_0, ee_1, ee_2, ee_3, at_lit, at_nat, at_m1, at_m2, scD, emD, sizeLine_eq, ixN, sm_lit, mSrc, itemsD, plOf, rng1D, bNm, mSl, mPt, mNoP, slD, mPar, keepT, tmsO, setA, mFlow, zipX, enumX, itemsX, intsOf, ints_all, boolsOf, shaped_lay, lay_int, lay_bool, lay_none, lay_dict, lay_tup, lay_list, lay_ints, sortX_ints, mPlF, mPlI, mRd, mPU, mPB, mFSet, mFNew, mNSet, mPApp, mPSetIx, mPPop, mMeth, mNew, isIns, cellO, mLstN, mAddN, mAppN, semX, mTold, mCallX, xRet, xExpr, xSet, mRaise, mM, isL, isS, mOrV, truD])
local macro_rules | `(tactic| walk_at "es") => `(tactic| simp [semF, shared, after, mSeq, mSkip, mIf, mRet, mRetN, mRetV, mSet, mSetIx, mExpr, mB, mU, mTm, mPl, mK, mVar, mOp, mCons, mNil, bor, bors, mTst, mAndT, mOrT, mNotT, mAndE, mOrE, mNotE, mIfE, mIsi, isiD, mChn, chnL, cmpD, binD, addD, subD, mulD, modD, fdivD, powD, eqD, neD, ltD, leD, gtD, geD, isD, isnD, L2.M.isNon, negD, ixD, Bf.f, Bg.f, lenD, L2.M.intD, maxD, minD, repD, strD, gmaxD, gminD, sumD, sortD, anyD, allD, mCall, frz, fzO, lend, wb, mTup, mLst, fzs, cD, mAsg, bTup, bTps, mApp, tupD, lstD, mRev, revD, ofs_inj, ee_ii, ee_ss, ee_bb, ee_nn, ee_is, ee_si, ee_in, ee_ni, ee_tt, ee_ll, ee_maps, ee_0, ee_1, ee_2, ee_3, at_lit, at_nat, at_m1, at_m2, scD, emD, sizeLine_eq, ixN, sm_lit, mSrc, itemsD, plOf, rng1D, bNm, mSl, mPt, mNoP, slD, mPar, keepT, tmsO, setA, mFlow, zipX, enumX, itemsX, intsOf, ints_all, boolsOf, shaped_lay, lay_int, lay_bool, lay_none, lay_dict, lay_tup, lay_list, lay_ints, sortX_ints, mPlF, mPlI, mRd, mPU, mPB, mFSet, mFNew, mNSet, mPApp, mPSetIx, mPPop, mMeth, mNew, isIns, cellO, mLstN, mAddN, mAppN, semX, mTold, mCallX, xRet, xExpr, xSet, mRaise, mM, isL, isS, mOrV, truD, *])
local macro_rules | `(tactic| walk_at "el") => `(tactic| simp [semF, shared, after, mSeq, mSkip, mIf, mRet, mRetN, mRetV, mSet, mSetIx, mExpr, mB, mU, mTm, mPl, mK, mVar, mOp, mCons, mNil, bor, bors, mTst, mAndT, mOrT, mNotT, mAndE, mOrE, mNotE, mIfE, mIsi, isiD, mChn, chnL, cmpD, binD, addD, subD, mulD, modD, fdivD, powD, eqD, neD, ltD, leD, gtD, geD, isD, isnD, L2.M.isNon, negD, ixD, Bf.f, Bg.f, lenD, L2.M.intD, maxD, minD, repD, strD, gmaxD, gminD, sumD, sortD, anyD, allD, mCall, frz, fzO, lend, wb, mTup, mLst, fzs, cD, mAsg, bTup, bTps, mApp, tupD, lstD, mRev, revD, ofs_inj, ee_ii, ee_ss, ee_bb, ee_nn, ee_is, ee_si, ee_in, ee_ni, ee_tt, ee_ll, ee_maps, ee_0, ee_1, ee_2, ee_3, at_lit, at_nat, at_m1, at_m2, scD, emD, sizeLine_eq, ixN, sm_lit, mSrc, itemsD, plOf, rng1D, bNm, mSl, mPt, mNoP, slD, mPar, keepT, tmsO, setA, mFlow, zipX, enumX, itemsX, intsOf, ints_all, boolsOf, shaped_lay, lay_int, lay_bool, lay_none, lay_dict, lay_tup, lay_list, lay_ints, sortX_ints, mPlF, mPlI, mRd, mPU, mPB, mFSet, mFNew, mNSet, mPApp, mPSetIx, mPPop, mMeth, mNew, isIns, cellO, mLstN, mAddN, mAppN, semX, mTold, mCallX, xRet, xExpr, xSet, mRaise, mM, isL, isS, mOrV, truD, mLc, lcL, sameC, wipeC, restC, mYes, *])
local macro_rules | `(tactic| walk_at "ef") => `(tactic| simp [semF, shared, after, mSeq, mSkip, mIf, mRet, mRetN, mRetV, mSet, mSetIx, mExpr, mB, mU, mTm, mPl, mK, mVar, mOp, mCons, mNil, bor, bors, mTst, mAndT, mOrT, mNotT, mAndE, mOrE, mNotE, mIfE, mIsi, isiD, mChn, chnL, cmpD, binD, addD, subD, mulD, modD, fdivD, powD, eqD, neD, ltD, leD, gtD, geD, isD, isnD, L2.M.isNon, negD, ixD, Bf.f, Bg.f, lenD, L2.M.intD, maxD, minD, repD, strD, gmaxD, gminD, sumD, sortD, anyD, allD, mCall, frz, fzO, lend, wb, mTup, mLst, fzs, cD, mAsg, bTup, bTps, mApp, tupD, lstD, mRev, revD, ofs_inj, ee_ii, ee_ss, ee_bb, ee_nn, ee_is, ee_si, ee_in, ee_ni, ee_tt, ee_ll, ee_maps, ee_0, ee_1, ee_2, ee_3, at_lit, at_nat, at_m1, at_m2, scD, emD, sizeLine_eq, ixN, sm_lit, mSrc, itemsD, plOf, rng1D, bNm, mSl, mPt, mNoP, slD, mPar, keepT, tmsO, setA, mFlow, zipX, enumX, itemsX, intsOf, ints_all, boolsOf, shaped_lay, lay_int, lay_bool, lay_none, lay_dict, lay_tup, lay_list, lay_ints, sortX_ints, mPlF, mPlI, mRd, mPU, mPB, mFSet, mFNew, mNSet, mPApp, mPSetIx, mPPop, mMeth, mNew, isIns, cellO, mLstN, mAddN, mAppN, semX, mTold, mCallX, xRet, xExpr, xSet, mRaise, mM, isL, isS, mOrV, truD, mFor, forL, mLc, lcL, sameC, wipeC, restC, mYes, *])
local macro_rules | `(tactic| walk_at "rg") => `(tactic| (and_intros <;> grind))
local macro_rules | `(tactic| walk_at "nx") => `(tactic| (apply wx_nx; focus (walk_at "ev"; try first | exact ⟨rfl, rfl⟩ | rfl)))
local macro_rules | `(tactic| walk_at "ns") => `(tactic| (apply wx_nx; focus (walk_at "es"; try first | exact ⟨rfl, rfl⟩ | rfl)))
local macro_rules | `(tactic| walk_at "rt") => `(tactic| (apply wx_rt; focus (walk_at "ev"; try first | exact ⟨rfl, rfl⟩ | rfl)))
local macro_rules | `(tactic| walk_at "rs") => `(tactic| (apply wx_rt; focus (walk_at "es"; try first | exact ⟨rfl, rfl⟩ | rfl)))
local macro_rules | `(tactic| walk_at "ed") => `(tactic| simp [semF, shared, after, mSeq, mSkip, mIf, mRet, mRetN, mRetV, mSet, mSetIx, mExpr, mB, mU, mTm, mPl, mK, mVar, mOp, mCons, mNil, bor, bors, mTst, mAndT, mOrT, mNotT, mAndE, mOrE, mNotE, mIfE, mIsi, isiD, mChn, chnL, cmpD, binD, addD, subD, mulD, modD, fdivD, powD, eqD, neD, ltD, leD, gtD, geD, isD, isnD, L2.M.isNon, negD, ixD, Bf.f, Bg.f, lenD, L2.M.intD, maxD, minD, repD, strD, gmaxD, gminD, sumD, sortD, anyD, allD, mCall, frz, fzO, lend, wb, mTup, mLst, fzs, cD, mAsg, bTup, bTps, mApp, tupD, lstD, mRev, revD, ofs_inj, ee_ii, ee_ss, ee_bb, ee_nn, ee_is, ee_si, ee_in, ee_ni, ee_tt, ee_ll, ee_maps, ee_0, ee_1, ee_2, ee_3, at_lit, at_nat, at_m1, at_m2, scD, emD, sizeLine_eq, ixN, sm_lit, mSrc, itemsD, plOf, rng1D, bNm, mSl, mPt, mNoP, slD, mPar, keepT, tmsO, setA, mFlow, zipX, enumX, itemsX, intsOf, ints_all, boolsOf, shaped_lay, lay_int, lay_bool, lay_none, lay_dict, lay_tup, lay_list, lay_ints, sortX_ints, mPlF, mPlI, mRd, mPU, mPB, mFSet, mFNew, mNSet, mPApp, mPSetIx, mPPop, mMeth, mNew, isIns, cellO, mLstN, mAddN, mAppN, semX, mTold, mCallX, xRet, xExpr, xSet, mRaise, mM, isL, isS, mOrV, truD, mDNew, mDIn, mDGet, mDLen, mDPut, kyD, mNNew, mN1, mTake, mFnV, mCallF, mNIn, mNGet, mNPut, mNVals, mNList, nKs, mDGetD, mDList, mNNe, *])
theorem shp_wt (ws : List Wt) : shp (ws.map Wt.d) = fun _ => false := by
  cases ws with
  | nil => rfl
  | cons x xs =>
    funext i
    match i with
    | 0 => rfl
    | 1 => rfl
    | 2 => rfl
    | 3 => rfl
    | i + 4 => rfl
def wLe (a b : Wt) : Bool := decide (a.due < b.due ∨ (a.due = b.due ∧ (a.num < b.num ∨ (a.num = b.num ∧ (a.beg < b.beg ∨ (a.beg = b.beg ∧ a.tri ≤ b.tri))))))
theorem tle_wt (a b : Wt) : tle (fun _ => false) a.d b.d = wLe a b := by
  have k : ∀ x : Wt, dKey (fun _ => false) x.d = some [.inl x.due, .inl x.num, .inl x.beg, .inl x.tri] := fun x => by simp [Wt.d, dKey, dItems]
  simp only [tle, k, kLe, Option.getD_some, wLe]
  simp only [PyProof.Rows.lexLt, itemLt]
  by_cases c1 : b.due < a.due <;> by_cases c2 : a.due < b.due <;> by_cases c3 : b.num < a.num <;> by_cases c4 : a.num < b.num <;> by_cases c5 : b.beg < a.beg <;> by_cases c6 : a.beg < b.beg <;> by_cases c7 : b.tri < a.tri <;> simp [c1, c2, c3, c4, c5, c6, c7] <;> omega
theorem wsort_le (ws : List Wt) : wsort ws = ws.mergeSort wLe := by
  unfold wsort
  rw [shp_wt]
  congr 1
  funext a b
  exact tle_wt a b
theorem wsort_sorted (ws : List Wt) : (wsort ws).Pairwise fun a b => wLe a b = true := by
  rw [wsort_le]
  exact List.pairwise_mergeSort (le := wLe) (fun a b c h1 h2 => by simp only [wLe, decide_eq_true_eq] at *; omega) (fun a b => by simp only [wLe, Bool.or_eq_true, decide_eq_true_eq]; omega) ws
theorem wsort_idem (ws : List Wt) : wsort (wsort ws) = wsort ws := by
  rw [wsort_le (wsort ws)]
  exact List.mergeSort_of_pairwise (wsort_sorted ws)
def zb (q : Ca) (f : Int → Bool) (A : List Nat) : Nat → Sd × List PyData
  | 0 => (⟨0, [], q.c0, .op 0, 0⟩, [])
  | t + 1 => (nxS q (f t) (zb q f A t).1 (cnt A t), (zb q f A t).2 ++ (nxE q (f t) (zb q f A t).1 (cnt A t)).map (evB t))
theorem zb_0 (q : Ca) (f : Int → Bool) (A : List Nat) : zb q f A 0 = (⟨0, [], q.c0, .op 0, 0⟩, []) := by rw [zb]
theorem zb_s (q : Ca) (f : Int → Bool) (A : List Nat) (t : Nat) : zb q f A (t + 1) = (nxS q (f t) (zb q f A t).1 (cnt A t), (zb q f A t).2 ++ (nxE q (f t) (zb q f A t).1 (cnt A t)).map (evB t)) := by rw [zb]
theorem idle {q : Ca} {a : Bool} {z : Sd} (h : ∀ x ∈ z.w, x.due ≠ z.t) (hw : wsort z.w = z.w) : nxS q a z 0 = ⟨z.t + 1, z.w, z.c, z.s, z.n⟩ ∧ nxE q a z 0 = [] := by
  have e1 : duel z.w z.t = [] := by
    unfold duel
    rw [List.filter_eq_nil_iff]
    intro x hx
    simpa using h x hx
  have e2 : restl z.w z.t = z.w := by
    unfold restl
    rw [List.filter_eq_self]
    intro x hx
    simpa using h x hx
  have e3 : bt2 q a z 0 = ⟨z.w, z.c, z.s, z.n, []⟩ := by
    show fsts q z.t a 0 (bt1 q a z) = _
    rw [fsts, bt1, e1, List.foldl_nil, Sd.st, e2]
  unfold nxS nxE
  rw [e3]
  exact ⟨by rw [hw], rfl⟩
theorem gst_sorted (q : Ca) (f : Int → Bool) (A : List Nat) : ∀ i : Nat, wsort (gst q f A i).1.w = (gst q f A i).1.w
  | 0 => by
    rw [gst_0]
    show wsort [] = []
    unfold wsort
    exact List.mergeSort_nil
  | i + 1 => by
    rw [gst_s]
    cases hb : nb A (gst q f A i).1 with
    | none => rw [nx1_none hb]; exact gst_sorted q f A i
    | some b =>
      rw [nx1_some hb]
      exact wsort_idem _
theorem nbL_ge {q : Ca} {A : List Nat} {z : Sd} (g : Gi q A z) : ∀ x ∈ nbL A z, z.t ≤ x := fun x hx => by
  rcases List.mem_append.mp hx with h | h
  · obtain ⟨y, hy, rfl⟩ := List.mem_map.mp h
    exact g.hi y hy
  · obtain ⟨y, hy, rfl⟩ := List.mem_map.mp h
    exact (g.ok.2 y hy).1
theorem nb_no {A : List Nat} {z : Sd} (h : nb A z = none) : nbL A z = [] := by
  unfold nb at h
  split at h
  · assumption
  · cases h
structure Zr (q : Ca) (f : Int → Bool) (A : List Nat) (t i : Nat) : Prop where
  zlo : (gst q f A i).1.t ≤ t
  znx : ∀ x ∈ nbL A (gst q f A i).1, (t : Int) ≤ x
  zeq : zb q f A t = (jmp (gst q f A i).1 t, (gst q f A i).2)
theorem zb_rel {q : Ca} (h : q.Ok) {A : List Nat} (hA : Ak A) (hZ : q.Z ≤ 1000) (f : Int → Bool) : ∀ t : Nat, ∃ i, Zr q f A t i
  | 0 => by
    refine ⟨0, by rw [gst_0]; exact Int.le_refl _, fun x hx => ?_, by rw [gst_0, zb_0]; rfl⟩
    have := nbL_ge (gi_all h hA hZ f 0) x hx
    rw [gst_0] at this
    exact this
  | t + 1 => by
    obtain ⟨i, r1, r2, r3⟩ := zb_rel h hA hZ f t
    have g := gi_all h hA hZ f i
    by_cases hx : (t : Int) ∈ nbL A (gst q f A i).1
    · cases hb : nb A (gst q f A i).1 with
      | none => rw [nb_no hb] at hx; cases hx
      | some b =>
        obtain ⟨h1, h2⟩ := nb_some hb
        have hbt : b = t := by
          have := h2 _ hx
          have := r2 b h1
          omega
        subst hbt
        have e := gst_s q f A i
        rw [nx1_some hb] at e
        have g2 := gi_all h hA hZ f (i + 1)
        have et : (gst q f A (i + 1)).1.t = (t : Int) + 1 := by rw [e]; rfl
        refine ⟨i + 1, by rw [et]; push_cast; omega, fun x hx => ?_, ?_⟩
        · have := nbL_ge g2 x hx
          rw [et] at this
          push_cast
          omega
        · rw [zb_s, r3, e]
          dsimp only
          refine Prod.ext ?_ rfl
          show _ = Sd.mk _ _ _ _ _
          push_cast
          rfl
    · have c0 : cnt A t = 0 := by
        unfold cnt
        rw [List.countP_eq_zero]
        intro x hxA
        rw [← List.take_append_drop (gst q f A i).1.n.toNat A] at hxA
        simp only [decide_eq_true_eq]
        intro e
        rcases List.mem_append.mp hxA with hm | hm
        · have := g.lo x hm
          omega
        · exact hx (List.mem_append_left _ (List.mem_map.mpr ⟨x, hm, e⟩))
      have hd : ∀ x ∈ (jmp (gst q f A i).1 t).w, x.due ≠ (jmp (gst q f A i).1 t).t := fun x hxw e => hx (List.mem_append_right _ (List.mem_map.mpr ⟨x, hxw, e⟩))
      obtain ⟨s1, s2⟩ := idle (q := q) (a := f t) hd (gst_sorted q f A i)
      refine ⟨i, by push_cast; omega, fun x hxn => ?_, ?_⟩
      · have := r2 x hxn
        have ne : x ≠ t := fun e => hx (e ▸ hxn)
        push_cast
        omega
      · rw [zb_s, r3, c0]
        dsimp only
        rw [s1, s2]
        refine Prod.ext ?_ (by simp)
        show Sd.mk _ _ _ _ _ = Sd.mk _ _ _ _ _
        rfl
theorem nxE_ne {q : Ca} {A : List Nat} (hA : Ak A) (hZ : q.Z ≤ 1000) {z : Sd} (g : Gi q A z) {b : Int} (hb : nb A z = some b) (a : Bool) : nxE q a (jmp z b) (cnt A b) ≠ [] := by
  obtain ⟨h1, _⟩ := nb_some hb
  have l1 : (nxE q a (jmp z b) (cnt A b)).length = (duel z.w b).length + cnt A b := by
    show (fsts q b a (cnt A b) (bt1 q a (jmp z b))).e.length = _
    rw [(fsts_len q b a _ (cnt A b)).2]
    have l2 := (tris_len q b a (duel z.w b) (jmp z b).st).2
    have l3 : (bt1 q a (jmp z b)).e.length = (jmp z b).st.e.length + (duel z.w b).length := l2
    rw [l3]
    have l4 : (jmp z b).st.e.length = 0 := rfl
    omega
  intro e
  rw [e, List.length_nil] at l1
  rcases List.mem_append.mp h1 with h | h
  · obtain ⟨x, hx, e2⟩ := List.mem_map.mp h
    have : 0 < cnt A b := by
      unfold cnt
      rw [List.countP_pos_iff]
      exact ⟨x, List.mem_of_mem_drop hx, by simpa using e2⟩
    omega
  · obtain ⟨x, hx, e2⟩ := List.mem_map.mp h
    have : x ∈ duel z.w b := List.mem_filter.mpr ⟨hx, by simpa using e2⟩
    have := List.length_pos_of_mem this
    omega
theorem gst_pre (q : Ca) (f : Int → Bool) (A : List Nat) (i : Nat) : ∀ k : Nat, ∀ d ∈ (gst q f A i).2, d ∈ (gst q f A (i + k)).2
  | 0, d, hd => hd
  | k + 1, d, hd => by
    have ih := gst_pre q f A i k d hd
    rw [← Nat.add_assoc, gst_s]
    cases hb : nb A (gst q f A (i + k)).1 with
    | none => rw [nx1_none hb]; exact ih
    | some b =>
      rw [nx1_some hb]
      exact List.mem_append_left _ ih
theorem zb_end {q : Ca} (h : q.Ok) {A : List Nat} (hA : Ak A) (hZ : q.Z ≤ 1000) (f : Int → Bool) {L : Nat} (hL : ∀ d ∈ goE q f A, ∀ b n w x, d = .tuple [.int b, n, w, x] → b ≤ (L : Int)) :
    (zb q f A (L + 2)).2 = goE q f A ∧ (zb q f A (L + 2)).1.w = [] ∧ (zb q f A (L + 2)).1.n = A.length := by
  obtain ⟨i, r1, r2, r3⟩ := zb_rel h hA hZ f (L + 2)
  have g := gi_all h hA hZ f i
  cases hb : nb A (gst q f A i).1 with
  | none =>
    obtain ⟨n1, n2⟩ := nb_none hb
    have := g.n0
    have := g.n1
    rw [r3]
    refine ⟨gst_fin h hA hZ hb, n2, ?_⟩
    show (gst q f A i).1.n = _
    omega
  | some b =>
    exfalso
    have hb1 := r2 b (nb_some hb).1
    have ne := nxE_ne hA hZ g hb (f b)
    cases hE : nxE q (f b) (jmp (gst q f A i).1 b) (cnt A b) with
    | nil => exact ne hE
    | cons d ds =>
      obtain ⟨n, w, x, rfl, _⟩ := nxE_n g b (f b) (cnt A b) d (by rw [hE]; exact List.mem_cons_self)
      have e := gst_s q f A i
      rw [nx1_some hb, hE] at e
      have m : evB b (evD n w x) ∈ (gst q f A (i + 1)).2 := by
        rw [e, List.map_cons]
        exact List.mem_append_right _ List.mem_cons_self
      have m2 := gst_pre q f A (i + 1) 2002 _ m
      have fin : nb A (gst q f A (i + 1 + 2002)).1 = none := by
        rw [show i + 1 + 2002 = 2002 + (i + 1) by omega, gst_stay (gst_end h hA hZ f)]
        exact gst_end h hA hZ f
      rw [gst_fin h hA hZ fin] at m2
      have := hL _ m2 b _ _ _ rfl
      push_cast at hb1
      omega
def SgK (q : Ca) (t : Int) : Sg → Prop
  | .op b => 0 ≤ b ∧ b ≤ q.F - 1
  | .sh u n => 0 ≤ u ∧ u ≤ t + 1000 ∧ q.R ≤ n ∧ n ≤ q.Mo
  | .tr g n => 0 ≤ g ∧ g ≤ q.N - 1 ∧ q.R ≤ n ∧ n ≤ q.Mo
theorem SgK.up {q : Ca} {t u : Int} {s : Sg} (h : SgK q t s) (htu : t ≤ u) : SgK q u s := by
  cases s with
  | op b => exact h
  | sh v n =>
    obtain ⟨h1, h2, h3⟩ := h
    exact ⟨h1, by omega, h3⟩
  | tr g n => exact h
theorem triS_K {q : Ca} (h : q.Ok) {t : Int} (t0 : 0 ≤ t) (a : Bool) {s : Sg} (hs : SgK q t s) : SgK q t (triS q t a s) := by
  have G := h.h
  have := G.f1; have := G.n1; have := G.a1; have := G.a2; have := G.t1; have := G.M1; have := G.M2; have := G.rm
  have hl : SgK q t (letS s t) := by
    cases s with
    | op b => exact hs
    | sh u n =>
      simp only [letS]
      split
      · exact hs
      · obtain ⟨_, _, h1, h2⟩ := hs
        exact ⟨by omega, by omega, h1, h2⟩
    | tr g n => exact hs
  unfold triS
  split
  · generalize letS s t = s2 at hl ⊢
    cases s2 with
    | op b =>
      obtain ⟨h1, h2⟩ := hl
      simp only [hrd]
      split
      · exact ⟨by omega, by omega⟩
      · split
        · exact ⟨by omega, by omega⟩
        · exact ⟨by omega, by omega, by omega, by omega⟩
    | sh u n => exact hl
    | tr g n =>
      obtain ⟨h1, h2, h3, h4⟩ := hl
      simp only [hrd]
      have k : 1 * n ≤ q.T * n := Int.mul_le_mul_of_nonneg_right (by omega) (by omega)
      split
      · split
        · exact ⟨by omega, by omega, by omega, by omega⟩
        · exact ⟨by omega, by omega⟩
      · split
        · exact ⟨by omega, by omega, by omega, by omega⟩
        · exact ⟨by omega, by omega, by omega, by omega⟩
  · exact hl
theorem tri_sg (q : Ca) (t : Int) (a : Bool) (st : Bs) (x : Int × Int × Int) : (tri q t a st x).s = triS q t a st.s := by
  unfold tri tri0 goS
  repeat' split
  all_goals rfl
structure Sk (q : Ca) (z : Sd) : Prop where
  sg : SgK q z.t z.s
  nd : (z.w.map Wt.num).Nodup
theorem sk_s {q : Ca} (h : q.Ok) {A : List Nat} {z : Sd} (g : Gi q A z) (k : Sk q z) {b : Int} (hb : z.t ≤ b) (a : Bool) (m : Nat) : Sk q (nxS q a (jmp z b) m) := by
  have b0 : 0 ≤ b := by have := g.t0; omega
  have main := nx_ind (q := q) (a := a) (z := jmp z b) (k := m) (fun R st => SgK q b st.s ∧ ((R ++ st.w).map Wt.num).Nodup ∧ ∀ x ∈ R ++ st.w, x.num < st.n)
    (by
      refine ⟨k.sg.up hb, ?_, fun x hx => ?_⟩
      · have p : (duel z.w b ++ restl z.w b).Perm z.w := List.filter_append_perm _ _
        exact (p.map Wt.num).nodup_iff.mpr k.nd
      · rcases List.mem_append.mp hx with hx | hx
        · exact (g.w x (List.mem_filter.mp hx).1).2.2.2.2.1
        · exact (g.w x (List.mem_filter.mp hx).1).2.2.2.2.1)
    (by
      rintro x xs st hx ⟨j1, j2, j3⟩
      rw [tri_n2, tri_sg]
      refine ⟨triS_K h b0 a j1, ?_⟩
      rcases tri_cases q b a st x.x with ⟨e1, e2⟩ | ⟨e1, e2, e3, e4, e5⟩
      · rw [show (tri q (jmp z b).t a st x.x).w = st.w from e1]
        rw [List.cons_append, List.map_cons, List.nodup_cons] at j2
        exact ⟨j2.2, fun y hy => j3 y (List.mem_cons_of_mem _ hy)⟩
      · rw [show (tri q (jmp z b).t a st x.x).w = _ from e1]
        have p : ((xs ++ (st.w ++ [(⟨b + q.gap (x.x.2.2 + 1), x.x.1, x.x.2.1, x.x.2.2 + 1⟩ : Wt)])).map Wt.num).Perm ((x :: xs ++ st.w).map Wt.num) := by
          rw [← List.append_assoc, List.map_append]
          exact List.perm_append_comm
        refine ⟨p.nodup_iff.mpr j2, fun y hy => ?_⟩
        rw [← List.append_assoc] at hy
        rcases List.mem_append.mp hy with hy | hy
        · exact j3 y (List.mem_cons_of_mem _ hy)
        · rw [List.mem_singleton.mp hy]
          exact j3 x List.mem_cons_self)
    (by
      rintro - st ⟨j1, j2, j3⟩
      rw [fst1_n]
      have es : (fst1 q (jmp z b).t a st).s = triS q b a st.s := tri_sg _ _ _ _ _
      rw [es]
      refine ⟨triS_K h b0 a j1, ?_⟩
      rcases fst1_cases q b a st with ⟨e1, e2⟩ | ⟨e1, e2, e3, e4, e5⟩
      · rw [show (fst1 q (jmp z b).t a st).w = _ from e1]
        exact ⟨j2, fun y hy => by have := j3 y hy; omega⟩
      · rw [show (fst1 q (jmp z b).t a st).w = _ from e1]
        refine ⟨?_, fun y hy => ?_⟩
        · rw [List.nil_append, List.map_append]
          rw [List.nil_append] at j2 j3
          refine List.nodup_append.mpr ⟨j2, by simp, fun x hx y hy => ?_⟩
          obtain ⟨u, hu, rfl⟩ := List.mem_map.mp hx
          rw [List.map_cons, List.map_nil, List.mem_singleton] at hy
          have := j3 u hu
          rw [hy]
          show u.num ≠ st.n
          omega
        · rw [List.nil_append] at hy
          rcases List.mem_append.mp hy with hy | hy
          · have := j3 y hy
            omega
          · rw [List.mem_singleton.mp hy]
            show st.n < st.n + 1
            omega)
  refine ⟨(main.1).up (by show b ≤ b + 1; omega), ?_⟩
  have p := (wsort_perm (bt2 q a (jmp z b) m).w).map Wt.num
  exact p.nodup_iff.mpr (by simpa using main.2.1)
theorem sk_all {q : Ca} (h : q.Ok) {A : List Nat} (hA : Ak A) (hZ : q.Z ≤ 1000) (f : Int → Bool) : ∀ i : Nat, Sk q (gst q f A i).1
  | 0 => by
    rw [gst_0]
    have := h.h.f1
    have hs : SgK q 0 (.op 0) := ⟨Int.le_refl _, by omega⟩
    exact ⟨hs, by simp⟩
  | i + 1 => by
    rw [gst_s]
    have g := gi_all h hA hZ f i
    cases hb : nb A (gst q f A i).1 with
    | none => rw [nx1_none hb]; exact sk_all h hA hZ f i
    | some b =>
      rw [nx1_some hb]
      exact sk_s h g (sk_all h hA hZ f i) (nb_bd hA hZ g hb).1 _ _
/-- the standing of a beat -/
structure Zk (q : Ca) (A : List Nat) (t : Nat) (z : Sd) : Prop where
  at_ : z.t = t
  wx : ∀ x ∈ z.w, (t : Int) ≤ x.due ∧ x.due ≤ x.beg + q.Z ∧ 0 ≤ x.num ∧ x.num < z.n ∧ 1 ≤ x.tri ∧ x.tri < q.K ∧ 0 ≤ x.beg ∧ x.beg ≤ 1000
  nd : (z.w.map Wt.num).Nodup
  sg : SgK q t z.s
  so : wsort z.w = z.w
  n0 : 0 ≤ z.n
  n1 : z.n ≤ A.length
  l : (z.w.length : Int) ≤ z.n
  c0 : 0 ≤ z.c
  c1 : z.c ≤ q.cp
  ok : z.Ok
theorem zk_all {q : Ca} (h : q.Ok) {A : List Nat} (hA : Ak A) (hZ : q.Z ≤ 1000) (f : Int → Bool) (t : Nat) : Zk q A t (zb q f A t).1 := by
  obtain ⟨i, r1, r2, r3⟩ := zb_rel h hA hZ f t
  have g := gi_all h hA hZ f i
  have k := sk_all h hA hZ f i
  have l := (gst_lg h f A i).1
  rw [r3]
  refine ⟨rfl, fun x hx => ?_, k.nd, k.sg.up r1, gst_sorted q f A i, g.n0, g.n1, g.wl, g.c, ?_, g.ok.1, fun x hx => ⟨r2 _ (List.mem_append_right _ (List.mem_map_of_mem hx)), (g.ok.2 x hx).2⟩⟩
  · have w := g.w x hx
    unfold Wi at w
    have := r2 _ (List.mem_append_right _ (List.mem_map_of_mem hx))
    have en : ((jmp (gst q f A i).1 t, (gst q f A i).2) : Sd × List PyData).1.n = (gst q f A i).1.n := rfl
    rw [en]
    omega
  · exact l.c1
end KW
namespace KW
open PySem PySem.Spec PyProof.Rows L2 L2.M
def top (i : Nat) : Stmt := PySem.Challenge.pw_knockpurse_k70_whole_beat_by_beat_alike.main.body.getD i (.Pass ⟨0, 0, 0, 0⟩)
abbrev st_is_whole : Stmt := top 4
def d_is_whole : He.DefD := ⟨("is_whole", none), "is_whole", "is_whole", defArgs st_is_whole, defBody st_is_whole, defScope st_is_whole, [], []⟩
abbrev st_is_from_to : Stmt := top 5
def d_is_from_to : He.DefD := ⟨("is_from_to", none), "is_from_to", "is_from_to", defArgs st_is_from_to, defBody st_is_from_to, defScope st_is_from_to, [], []⟩
abbrev st_first_gap : Stmt := top 6
def d_first_gap : He.DefD := ⟨("first_gap", none), "first_gap", "first_gap", defArgs st_first_gap, defBody st_first_gap, defScope st_first_gap, [], []⟩
abbrev st_next_gap : Stmt := top 7
def d_next_gap : He.DefD := ⟨("next_gap", none), "next_gap", "next_gap", defArgs st_next_gap, defBody st_next_gap, defScope st_next_gap, [], []⟩
abbrev st_growing : Stmt := top 8
def d_growing : He.DefD := ⟨("growing", none), "growing", "growing", defArgs st_growing, defBody st_growing, defScope st_growing, [], []⟩
abbrev st_gap_at : Stmt := top 9
def d_gap_at : He.DefD := ⟨("gap_at", none), "gap_at", "gap_at", defArgs st_gap_at, defBody st_gap_at, defScope st_gap_at, [], []⟩
abbrev st_silent_at : Stmt := top 11
def d_silent_at : He.DefD := ⟨("silent_at", none), "silent_at", "silent_at", defArgs st_silent_at, defBody st_silent_at, defScope st_silent_at, [], []⟩
abbrev st_standing_good : Stmt := top 14
def d_standing_good : He.DefD := ⟨("standing_good", none), "standing_good", "standing_good", defArgs st_standing_good, defBody st_standing_good, defScope st_standing_good, [], []⟩
abbrev st_lets : Stmt := top 15
def d_lets : He.DefD := ⟨("lets", none), "lets", "lets", defArgs st_lets, defBody st_lets, defScope st_lets, [], []⟩
abbrev st_heard : Stmt := top 16
def d_heard : He.DefD := ⟨("heard", none), "heard", "heard", defArgs st_heard, defBody st_heard, defScope st_heard, [], []⟩
abbrev st_first_of : Stmt := top 18
def d_first_of : He.DefD := ⟨("first_of", none), "first_of", "first_of", defArgs st_first_of, defBody st_first_of, defScope st_first_of, [], []⟩
abbrev st_Beat___init__ : Stmt := (clsBody (top 19)).getD 0 (.Pass ⟨0, 0, 0, 0⟩)
def d_Beat___init__ : He.DefD := ⟨("Beat", some "__init__"), "__init__", "Beat.__init__", defArgs st_Beat___init__, defBody st_Beat___init__, defScope st_Beat___init__, [], []⟩
abbrev st_Beat_first : Stmt := (clsBody (top 19)).getD 1 (.Pass ⟨0, 0, 0, 0⟩)
def d_Beat_first : He.DefD := ⟨("Beat", some "first"), "first", "Beat.first", defArgs st_Beat_first, defBody st_Beat_first, defScope st_Beat_first, [], []⟩
abbrev st_Beat_tried : Stmt := (clsBody (top 19)).getD 2 (.Pass ⟨0, 0, 0, 0⟩)
def d_Beat_tried : He.DefD := ⟨("Beat", some "tried"), "tried", "Beat.tried", defArgs st_Beat_tried, defBody st_Beat_tried, defScope st_Beat_tried, [], []⟩
abbrev st_Beat_goes_on : Stmt := (clsBody (top 19)).getD 3 (.Pass ⟨0, 0, 0, 0⟩)
def d_Beat_goes_on : He.DefD := ⟨("Beat", some "goes_on"), "goes_on", "Beat.goes_on", defArgs st_Beat_goes_on, defBody st_Beat_goes_on, defScope st_Beat_goes_on, [], []⟩
abbrev st_Beat_go : Stmt := (clsBody (top 19)).getD 4 (.Pass ⟨0, 0, 0, 0⟩)
def d_Beat_go : He.DefD := ⟨("Beat", some "go"), "go", "Beat.go", defArgs st_Beat_go, defBody st_Beat_go, defScope st_Beat_go, [], []⟩
abbrev st_stepped : Stmt := top 20
def d_stepped : He.DefD := ⟨("stepped", none), "stepped", "stepped", defArgs st_stepped, defBody st_stepped, defScope st_stepped, [], []⟩
abbrev st_next_beat : Stmt := top 21
def d_next_beat : He.DefD := ⟨("next_beat", none), "next_beat", "next_beat", defArgs st_next_beat, defBody st_next_beat, defScope st_next_beat, [], []⟩
abbrev st_events_of : Stmt := top 22
def d_events_of : He.DefD := ⟨("events_of", none), "events_of", "events_of", defArgs st_events_of, defBody st_events_of, defScope st_events_of, [], []⟩
abbrev st_gone : Stmt := top 23
def d_gone : He.DefD := ⟨("gone", none), "gone", "gone", defArgs st_gone, defBody st_gone, defScope st_gone, [], []⟩
abbrev st_law_cell_at : Stmt := top 25
def d_law_cell_at : He.DefD := ⟨("_law_cell_at", none), "_law_cell_at", "_law_cell_at", defArgs st_law_cell_at, defBody st_law_cell_at, defScope st_law_cell_at, [], []⟩
abbrev st_law_next : Stmt := top 26
def d_law_next : He.DefD := ⟨("_law_next", none), "_law_next", "_law_next", defArgs st_law_next, defBody st_law_next, defScope st_law_next, [], []⟩
abbrev st_law_pen_of : Stmt := top 27
def d_law_pen_of : He.DefD := ⟨("_law_pen_of", none), "_law_pen_of", "_law_pen_of", defArgs st_law_pen_of, defBody st_law_pen_of, defScope st_law_pen_of, [], []⟩
abbrev st_law_draw : Stmt := top 28
def d_law_draw : He.DefD := ⟨("_law_draw", none), "_law_draw", "_law_draw", defArgs st_law_draw, defBody st_law_draw, defScope st_law_draw, [], []⟩
abbrev st_law_row : Stmt := top 29
def d_law_row : He.DefD := ⟨("_law_row", none), "_law_row", "_law_row", defArgs st_law_row, defBody st_law_row, defScope st_law_row, [], []⟩
abbrev st_law_purse : Stmt := top 30
def d_law_purse : He.DefD := ⟨("_law_purse", none), "_law_purse", "_law_purse", defArgs st_law_purse, defBody st_law_purse, defScope st_law_purse, [], []⟩
abbrev st_law_gate : Stmt := top 31
def d_law_gate : He.DefD := ⟨("_law_gate", none), "_law_gate", "_law_gate", defArgs st_law_gate, defBody st_law_gate, defScope st_law_gate, [], []⟩
abbrev st_law_caller : Stmt := top 32
def d_law_caller : He.DefD := ⟨("_law_caller", none), "_law_caller", "_law_caller", defArgs st_law_caller, defBody st_law_caller, defScope st_law_caller, [], []⟩
abbrev st_law_askings : Stmt := top 33
def d_law_askings : He.DefD := ⟨("_law_askings", none), "_law_askings", "_law_askings", defArgs st_law_askings, defBody st_law_askings, defScope st_law_askings, [], []⟩
abbrev st_law_outage : Stmt := top 34
def d_law_outage : He.DefD := ⟨("_law_outage", none), "_law_outage", "_law_outage", defArgs st_law_outage, defBody st_law_outage, defScope st_law_outage, [], []⟩
abbrev st_law_played : Stmt := top 35
def d_law_played : He.DefD := ⟨("_law_played", none), "_law_played", "_law_played", defArgs st_law_played, defBody st_law_played, defScope st_law_played, [], []⟩
abbrev st_law_silent : Stmt := top 36
def d_law_silent : He.DefD := ⟨("_law_silent", none), "_law_silent", "_law_silent", defArgs st_law_silent, defBody st_law_silent, defScope st_law_silent, [], []⟩
abbrev st_law_stands : Stmt := top 37
def d_law_stands : He.DefD := ⟨("_law_stands", none), "_law_stands", "_law_stands", defArgs st_law_stands, defBody st_law_stands, defScope st_law_stands, [], []⟩
abbrev st_law : Stmt := top 38
def d_law : He.DefD := ⟨("law", none), "law", "law", defArgs st_law, defBody st_law, defScope st_law, [], []⟩
def fn : List He.DefD := [d_is_whole, d_is_from_to, d_first_gap, d_next_gap, d_growing, d_gap_at, d_silent_at, d_standing_good, d_lets, d_heard, d_first_of, d_Beat___init__, d_Beat_first, d_Beat_tried, d_Beat_goes_on, d_Beat_go, d_stepped, d_next_beat, d_events_of, d_gone, d_law_cell_at, d_law_next, d_law_pen_of, d_law_draw, d_law_row, d_law_purse, d_law_gate, d_law_caller, d_law_askings, d_law_outage, d_law_played, d_law_silent, d_law_stands, d_law]
def fa : List He.Fa := [.glo "is_whole", .glo "is_from_to", .glo "first_gap", .glo "next_gap", .glo "growing", .glo "gap_at", .glo "silent_at", .glo "standing_good", .glo "lets", .glo "heard", .glo "first_of", .glo "stepped", .glo "next_beat", .glo "events_of", .glo "gone", .glo "_law_cell_at", .glo "_law_next", .glo "_law_pen_of", .glo "_law_draw", .glo "_law_row", .glo "_law_purse", .glo "_law_gate", .glo "_law_caller", .glo "_law_askings", .glo "_law_outage", .glo "_law_played", .glo "_law_silent", .glo "_law_stands", .glo "law", .int "MOST_UNTIL" 1001000, .free "isinstance", .free "int", .free "bool", .free "min", .free "len", .free "any", .free "tuple", .free "str", .free "list", .free "sorted", .free "range", .free "max", .free "set", .cls "Beat", .noat "Beat" "events", .noat "Beat" "sound", .noat "Beat" "begun", .noat "Beat" "stand", .noat "Beat" "coins", .noat "Beat" "waiting", .noat "Beat" "beat", .noat "Beat" "gate", .noat "Beat" "purse", .noat "Beat" "plan", .meth "Beat" "__init__", .meth "Beat" "first", .meth "Beat" "tried", .meth "Beat" "goes_on", .meth "Beat" "go", .mkr "Beat", .glo "Beat"]
abbrev Wd (K : PySem.W.Frag) (mg : Str → Option Value) : Prop := Wo fa fn K mg
noncomputable def m_is_whole : XM := mSeq (mRet (mAndE (mIsi .int (mPl 0)) (mNotE (mIsi .bool (mPl 0))))) (mSkip)
noncomputable def g_is_whole : GM := semF [true] 1 m_is_whole
noncomputable def m_is_from_to : XM := mSeq (mRet (mAndE (mCall [true] g_is_whole (mCons (mPl 0) (mNil))) (mChn (mPl 1) [(cmpD .LtE, mPl 0), (cmpD .LtE, mPl 2)]))) (mSkip)
noncomputable def g_is_from_to : GM := semF [true, true, true] 3 m_is_from_to
noncomputable def m_first_gap : XM := mSeq (mRet (mOp (Bf.f .min) (mCons (mTm (mB ixD (mPl 0) (mTm (mK (.int 0))))) (mCons (mTm (mB ixD (mPl 0) (mTm (mK (.int 3))))) (mNil))))) (mSkip)
noncomputable def g_first_gap : GM := semF [true] 1 m_first_gap
noncomputable def m_next_gap : XM := mSeq (mRet (mOp (Bf.f .min) (mCons (mTm (mB ixD (mPl 0) (mTm (mK (.int 3))))) (mCons (mTm (mB (binD .Add) (mTm (mB (binD .Mult) (mTm (mB ixD (mPl 0) (mTm (mK (.int 1))))) (mPl 1))) (mTm (mB ixD (mPl 0) (mTm (mK (.int 2))))))) (mNil))))) (mSkip)
noncomputable def g_next_gap : GM := semF [true, true] 2 m_next_gap
noncomputable def m_growing : XM := mSeq (mSet [0] 1 (mLst (mCons (mTm (mCall [true] g_first_gap (mCons (mPl 0) (mNil)))) (mNil)))) (mSeq (mWhile (mTst (mB (cmpD .NotEq) (mTm (mCall [true, true] g_next_gap (mCons (mPl 0) (mCons (mTm (mB ixD (mPl 1) (mTm (mU negD (mTm (mK (.int 1))))))) (mNil))))) (mTm (mB ixD (mPl 1) (mTm (mU negD (mTm (mK (.int 1))))))))) (mSeq (mApp 1 (mCall [true, true] g_next_gap (mCons (mPl 0) (mCons (mTm (mB ixD (mPl 1) (mTm (mU negD (mTm (mK (.int 1))))))) (mNil))))) (mSkip))) (mSeq (mRetV [0] 1) (mSkip)))
noncomputable def g_growing : GM := semF [true] 2 m_growing
noncomputable def m_gap_at : XM := mSeq (mSet [0, 1] 2 (mCall [true] g_growing (mCons (mPl 0) (mNil)))) (mSeq (mRet (mB ixD (mPl 2) (mTm (mB (binD .Sub) (mTm (mOp (Bf.f .min) (mCons (mPl 1) (mCons (mTm (mOp (Bf.f .len) (mCons (mPl 2) (mNil)))) (mNil))))) (mTm (mK (.int 1))))))) (mSkip))
noncomputable def g_gap_at : GM := semF [true, true] 3 m_gap_at
noncomputable def m_silent_at : XM := mSeq (mRet (mOp (Bg.f .any) (mCons (mTm (mLc (mSrc itemsD (mCons (mTm (mVar 0)) mNil)) (bTup [bNm 2, bNm 3]) (mYes) (mChn (mPl 2) [(cmpD .LtE, mPl 1), (cmpD .Lt, mPl 3)]) [2, 3])) (mNil)))) (mSkip)
noncomputable def g_silent_at : GM := semF [true, true] 4 m_silent_at
noncomputable def m_standing_good : XM := mSeq (mIf (mOrT (mNotT (mTst (mIsi .tuple (mPl 1)))) (mOrT (mTst (mB (cmpD .Eq) (mTm (mOp (Bf.f .len) (mCons (mPl 1) (mNil)))) (mTm (mK (.int 0))))) (mNotT (mTst (mIsi .str (mTm (mB ixD (mPl 1) (mTm (mK (.int 0)))))))))) (mSeq (mRet (mK (.bool false))) (mSkip)) (mSkip)) (mSeq (mIf (mTst (mB (cmpD .Eq) (mTm (mB ixD (mPl 1) (mTm (mK (.int 0))))) (mTm (mK (.str "open"))))) (mSeq (mRet (mAndE (mB (cmpD .Eq) (mTm (mOp (Bf.f .len) (mCons (mPl 1) (mNil)))) (mTm (mK (.int 2)))) (mCall [true, true, true] g_is_from_to (mCons (mTm (mB ixD (mPl 1) (mTm (mK (.int 1))))) (mCons (mTm (mK (.int 0))) (mCons (mTm (mB (binD .Sub) (mTm (mB ixD (mPl 0) (mTm (mK (.int 0))))) (mTm (mK (.int 1))))) (mNil))))))) (mSkip)) (mSkip)) (mSeq (mIf (mOrT (mTst (mB (cmpD .NotEq) (mTm (mOp (Bf.f .len) (mCons (mPl 1) (mNil)))) (mTm (mK (.int 3))))) (mNotT (mTst (mCall [true, true, true] g_is_from_to (mCons (mTm (mB ixD (mPl 1) (mTm (mK (.int 2))))) (mCons (mTm (mB ixD (mPl 0) (mTm (mK (.int 1))))) (mCons (mTm (mB ixD (mPl 0) (mTm (mK (.int 3))))) (mNil)))))))) (mSeq (mRet (mK (.bool false))) (mSkip)) (mSkip)) (mSeq (mIf (mTst (mB (cmpD .Eq) (mTm (mB ixD (mPl 1) (mTm (mK (.int 0))))) (mTm (mK (.str "shut"))))) (mSeq (mRet (mCall [true, true, true] g_is_from_to (mCons (mTm (mB ixD (mPl 1) (mTm (mK (.int 1))))) (mCons (mTm (mK (.int 0))) (mCons (mTm (mK (.int 1001000))) (mNil)))))) (mSkip)) (mSkip)) (mSeq (mRet (mAndE (mB (cmpD .Eq) (mTm (mB ixD (mPl 1) (mTm (mK (.int 0))))) (mTm (mK (.str "trying")))) (mCall [true, true, true] g_is_from_to (mCons (mTm (mB ixD (mPl 1) (mTm (mK (.int 1))))) (mCons (mTm (mK (.int 0))) (mCons (mTm (mB (binD .Sub) (mTm (mB ixD (mPl 0) (mTm (mK (.int 4))))) (mTm (mK (.int 1))))) (mNil))))))) (mSkip)))))
noncomputable def g_standing_good : GM := semF [true, true] 2 m_standing_good
noncomputable def m_lets : XM := mSeq (mIf (mTst (mB (cmpD .NotEq) (mTm (mB ixD (mPl 1) (mTm (mK (.int 0))))) (mTm (mK (.str "shut"))))) (mSeq (mRet (mTup (mCons (mTm (mK (.bool true))) (mCons (mPl 1) (mNil))))) (mSkip)) (mSkip)) (mSeq (mIf (mTst (mB (cmpD .Lt) (mPl 2) (mTm (mB ixD (mPl 1) (mTm (mK (.int 1))))))) (mSeq (mRet (mTup (mCons (mTm (mK (.bool false))) (mCons (mPl 1) (mNil))))) (mSkip)) (mSkip)) (mSeq (mRet (mTup (mCons (mTm (mK (.bool true))) (mCons (mTm (mTup (mCons (mTm (mK (.str "trying"))) (mCons (mTm (mK (.int 0))) (mCons (mTm (mB ixD (mPl 1) (mTm (mK (.int 2))))) (mNil)))))) (mNil))))) (mSkip)))
noncomputable def g_lets : GM := semF [true, true, true] 3 m_lets
noncomputable def m_heard : XM := mSeq (mAsg [4, 5, 6, 7, 8] [0, 1, 2, 3] (bTup [bNm 4, bNm 5, bNm 6, bNm 7, bNm 8]) (mVar 0)) (mSeq (mIf (mTst (mB (cmpD .Eq) (mTm (mB ixD (mPl 1) (mTm (mK (.int 0))))) (mTm (mK (.str "shut"))))) (mSeq (mStuck) (mSkip)) (mSkip)) (mSeq (mIf (mTst (mB (cmpD .Eq) (mTm (mB ixD (mPl 1) (mTm (mK (.int 0))))) (mTm (mK (.str "open"))))) (mSeq (mIf (mTst (mVar 3)) (mSeq (mRet (mTup (mCons (mTm (mK (.str "open"))) (mCons (mTm (mK (.int 0))) (mNil))))) (mSkip)) (mSkip)) (mSeq (mIf (mTst (mB (cmpD .Lt) (mTm (mB (binD .Add) (mTm (mB ixD (mPl 1) (mTm (mK (.int 1))))) (mTm (mK (.int 1))))) (mPl 4))) (mSeq (mRet (mTup (mCons (mTm (mK (.str "open"))) (mCons (mTm (mB (binD .Add) (mTm (mB ixD (mPl 1) (mTm (mK (.int 1))))) (mTm (mK (.int 1))))) (mNil))))) (mSkip)) (mSkip)) (mSeq (mRet (mTup (mCons (mTm (mK (.str "shut"))) (mCons (mTm (mB (binD .Add) (mPl 2) (mPl 5))) (mCons (mPl 5) (mNil)))))) (mSkip)))) (mSkip)) (mSeq (mIf (mNotT (mTst (mVar 3))) (mSeq (mSet [0, 1, 2, 3] 9 (mOp (Bf.f .min) (mCons (mPl 7) (mCons (mTm (mB (binD .Mult) (mPl 6) (mTm (mB ixD (mPl 1) (mTm (mK (.int 2))))))) (mNil))))) (mSeq (mRet (mTup (mCons (mTm (mK (.str "shut"))) (mCons (mTm (mB (binD .Add) (mPl 2) (mPl 9))) (mCons (mPl 9) (mNil)))))) (mSkip))) (mSkip)) (mSeq (mIf (mTst (mB (cmpD .Lt) (mTm (mB (binD .Add) (mTm (mB ixD (mPl 1) (mTm (mK (.int 1))))) (mTm (mK (.int 1))))) (mPl 8))) (mSeq (mRet (mTup (mCons (mTm (mK (.str "trying"))) (mCons (mTm (mB (binD .Add) (mTm (mB ixD (mPl 1) (mTm (mK (.int 1))))) (mTm (mK (.int 1))))) (mCons (mTm (mB ixD (mPl 1) (mTm (mK (.int 2))))) (mNil)))))) (mSkip)) (mSkip)) (mSeq (mRet (mTup (mCons (mTm (mK (.str "open"))) (mCons (mTm (mK (.int 0))) (mNil))))) (mSkip))))))
noncomputable def g_heard : GM := semF [true, true, true, true] 10 m_heard
noncomputable def m_first_of : XM := mSeq (mRet (mTup (mCons (mTm (mK (.int 0))) (mCons (mTm (mTup (mNil))) (mCons (mTm (mB ixD (mTm (mB ixD (mPl 0) (mTm (mK (.int 1))))) (mTm (mK (.int 3))))) (mCons (mTm (mTup (mCons (mTm (mK (.str "open"))) (mCons (mTm (mK (.int 0))) (mNil))))) (mCons (mTm (mK (.int 0))) (mNil)))))))) (mSkip)
noncomputable def g_first_of : GM := semF [true] 1 m_first_of
noncomputable def m_Beat___init__ : XM := mSeq (mFNew 0 "Beat" "plan" (mB ixD (mPl 1) (mTm (mK (.int 0))))) (mSeq (mFNew 0 "Beat" "purse" (mB ixD (mPl 1) (mTm (mK (.int 1))))) (mSeq (mFNew 0 "Beat" "gate" (mB ixD (mPl 1) (mTm (mK (.int 2))))) (mSeq (mFNew 0 "Beat" "beat" (mB ixD (mPl 2) (mTm (mK (.int 0))))) (mSeq (mFNew 0 "Beat" "waiting" (mOp (Bf.f .list) (mCons (mTm (mB ixD (mPl 2) (mTm (mK (.int 1))))) (mNil)))) (mSeq (mFNew 0 "Beat" "coins" (mB ixD (mPl 2) (mTm (mK (.int 2))))) (mSeq (mFNew 0 "Beat" "stand" (mB ixD (mPl 2) (mTm (mK (.int 3))))) (mSeq (mFNew 0 "Beat" "begun" (mB ixD (mPl 2) (mTm (mK (.int 4))))) (mSeq (mFNew 0 "Beat" "sound" (mVar 3)) (mSeq (mFNew 0 "Beat" "events" (mLst (mNil))) (mSkip))))))))))
noncomputable def g_Beat___init__ : GM := semF [true, true, true, true] 4 m_Beat___init__
noncomputable def m_Beat_goes_on : XM := mSeq (mAsg [4, 5, 6] [0, 1, 2, 3] (bTup [bNm 4, bNm 5, bNm 6]) (mRd (mPlF 0 0 "Beat" "plan"))) (mSeq (mSet [0, 1, 2, 3] 7 (mB (binD .Add) (mTm (mRd (mPlF 0 3 "Beat" "beat"))) (mTm (mCall [true, true] g_gap_at (mCons (mPl 4) (mCons (mPl 3) (mNil))))))) (mSeq (mIf (mTst (mB (cmpD .GtE) (mPl 3) (mPl 5))) (mSeq (mRet (mK (.str "knocks"))) (mSkip)) (mSkip)) (mSeq (mIf (mTst (mB (cmpD .Gt) (mPl 7) (mTm (mB (binD .Add) (mPl 2) (mPl 6))))) (mSeq (mRet (mK (.str "time"))) (mSkip)) (mSkip)) (mSeq (mIf (mTst (mB (cmpD .Lt) (mTm (mRd (mPlF 0 5 "Beat" "coins"))) (mTm (mB ixD (mTm (mRd (mPlF 0 1 "Beat" "purse"))) (mTm (mK (.int 1))))))) (mSeq (mRet (mK (.str "purse"))) (mSkip)) (mSkip)) (mSeq (mFSet 0 5 "Beat" "coins" (mB (binD .Sub) (mTm (mRd (mPlF 0 5 "Beat" "coins"))) (mTm (mB ixD (mTm (mRd (mPlF 0 1 "Beat" "purse"))) (mTm (mK (.int 1))))))) (mSeq (mPApp (mPlF 0 4 "Beat" "waiting") (mTup (mCons (mPl 7) (mCons (mPl 1) (mCons (mPl 2) (mCons (mPl 3) (mNil))))))) (mSeq (mRetV [0, 1, 2, 3] 7) (mSkip))))))))
noncomputable def g_Beat_goes_on : GM := semF [true, true, true, true] 8 m_Beat_goes_on
noncomputable def m_next_beat : XM := mSeq (mSet [0, 1] 2 (mB (binD .Add) (mTm (mLc (mSrc rng2D (mCons (mTm (mB ixD (mPl 0) (mTm (mK (.int 4))))) (mCons (mTm (mOp (Bf.f .len) (mCons (mPl 1) (mNil)))) (mNil)))) (bNm 3) (mYes) (mB ixD (mPl 1) (mPl 3)) [3])) (mTm (mLc (mSrc itemsD (mCons (mTm (mB ixD (mPl 0) (mTm (mK (.int 1))))) mNil)) (bNm 4) (mYes) (mB ixD (mPl 4) (mTm (mK (.int 0)))) [4])))) (mSeq (mIf (mTst (mB (cmpD .Eq) (mPl 2) (mTm (mLst (mNil))))) (mSeq (mRet (mK .none)) (mSkip)) (mSkip)) (mSeq (mRet (mOp (Bg.f .minl) (mCons (mPl 2) (mNil)))) (mSkip)))
noncomputable def g_next_beat : GM := semF [true, true] 5 m_next_beat
noncomputable def m_law_cell_at : XM := mSeq (mIf (mTst (mB (cmpD .Lt) (mPl 1) (mTm (mOp (Bf.f .len) (mCons (mPl 0) (mNil)))))) (mSeq (mRet (mB ixD (mPl 0) (mPl 1))) (mSkip)) (mSkip)) (mSeq (mRet (mK (.int 0))) (mSkip))
noncomputable def g_law_cell_at : GM := semF [true, true] 2 m_law_cell_at
noncomputable def m_law_next : XM := mSeq (mSet [] 0 (mB (binD .Mod) (mTm (mB (binD .Add) (mPl 0) (mTm (mK (.int 7919))))) (mTm (mK (.int 2147483647))))) (mSeq (mRet (mB (binD .Mod) (mTm (mB (binD .Add) (mTm (mB (binD .Add) (mTm (mB (binD .Mult) (mPl 0) (mPl 0))) (mTm (mB (binD .Mult) (mTm (mK (.int 48271))) (mPl 0))))) (mTm (mK (.int 12345))))) (mTm (mK (.int 2147483629))))) (mSkip))
noncomputable def g_law_next : GM := semF [false] 1 m_law_next
noncomputable def m_law_pen_of : XM := mSeq (mSet [0] 1 (mOp (Bf.f .max) (mCons (mPl 0) (mCons (mTm (mB (binD .Sub) (mTm (mK (.int 0))) (mPl 0))) (mNil))))) (mSeq (mRet (mLst (mCons (mPl 1) (mCons (mTm (mOp (Bf.f .int) (mCons (mTm (mB (cmpD .GtE) (mPl 1) (mTm (mB (binD .Pow) (mTm (mK (.int 10))) (mTm (mK (.int 18))))))) (mNil)))) (mCons (mTm (mB (binD .Mod) (mPl 1) (mTm (mK (.int 1000003))))) (mNil)))))) (mSkip))
noncomputable def g_law_pen_of : GM := semF [true] 2 m_law_pen_of
noncomputable def m_law_draw : XM := mSeq (mIf (mAndT (mTst (mB (cmpD .Eq) (mTm (mB ixD (mPl 0) (mTm (mK (.int 1))))) (mTm (mK (.int 1))))) (mTst (mB (cmpD .Gt) (mTm (mB ixD (mPl 0) (mTm (mK (.int 0))))) (mTm (mK (.int 0)))))) (mSeq (mSet [0, 1] 2 (mB (binD .Mod) (mTm (mB ixD (mPl 0) (mTm (mK (.int 0))))) (mPl 1))) (mSeq (mSetIx 0 (mB (binD .FloorDiv) (mTm (mB ixD (mPl 0) (mTm (mK (.int 0))))) (mPl 1)) (mTm (mK (.int 0)))) (mSeq (mRetV [0, 1] 2) (mSkip)))) (mSkip)) (mSeq (mSetIx 0 (mCall [false] g_law_next (mCons (mTm (mB (binD .Add) (mTm (mCall [false] g_law_next (mCons (mTm (mB ixD (mPl 0) (mTm (mK (.int 2))))) (mNil)))) (mTm (mK (.int 7))))) (mNil))) (mTm (mK (.int 2)))) (mSeq (mRet (mB (binD .Mod) (mTm (mB (binD .FloorDiv) (mTm (mB ixD (mPl 0) (mTm (mK (.int 2))))) (mTm (mK (.int 64))))) (mPl 1))) (mSkip)))
noncomputable def g_law_draw : GM := semF [true, true] 3 m_law_draw
noncomputable def m_law_purse : XM := mSeq (mPar [0] [1, 2, 3] (mCons (mTm (mCall [true, true] g_law_draw (mCons (mPl 0) (mCons (mTm (mK (.int 3))) (mNil))))) (mCons (mTm (mCall [true, true] g_law_draw (mCons (mPl 0) (mCons (mTm (mK (.int 4))) (mNil))))) (mCons (mTm (mCall [true, true] g_law_draw (mCons (mPl 0) (mCons (mTm (mK (.int 4))) (mNil))))) (mNil))))) (mSeq (mSet [0] 4 (mB ixD (mTm (mLst (mCons (mTm (mK (.int 1))) (mCons (mTm (mB (binD .Add) (mTm (mK (.int 1))) (mTm (mCall [true, true] g_law_draw (mCons (mPl 0) (mCons (mTm (mK (.int 9))) (mNil))))))) (mCons (mTm (mB (binD .Add) (mTm (mK (.int 1))) (mTm (mCall [true, true] g_law_draw (mCons (mPl 0) (mCons (mTm (mK (.int 1000))) (mNil))))))) (mNil)))))) (mPl 1))) (mSeq (mSet [0] 5 (mB ixD (mTm (mLst (mCons (mTm (mK (.int 0))) (mCons (mTm (mCall [true, true] g_law_draw (mCons (mPl 0) (mCons (mTm (mK (.int 10))) (mNil))))) (mCons (mPl 4) (mCons (mTm (mCall [true, true] g_law_draw (mCons (mPl 0) (mCons (mTm (mK (.int 1001))) (mNil))))) (mNil))))))) (mPl 2))) (mSeq (mSet [0] 6 (mB ixD (mTm (mLst (mCons (mTm (mCall [true, true] g_law_draw (mCons (mPl 0) (mCons (mTm (mK (.int 10001))) (mNil))))) (mCons (mTm (mCall [true, true] g_law_draw (mCons (mPl 0) (mCons (mTm (mK (.int 30))) (mNil))))) (mCons (mTm (mK (.int 10000))) (mCons (mPl 4) (mNil))))))) (mPl 3))) (mSeq (mRet (mTup (mCons (mPl 5) (mCons (mPl 4) (mCons (mPl 6) (mCons (mTm (mB ixD (mTm (mLst (mCons (mTm (mK (.int 0))) (mCons (mPl 6) (mCons (mTm (mCall [true, true] g_law_draw (mCons (mPl 0) (mCons (mTm (mB (binD .Add) (mPl 6) (mTm (mK (.int 1))))) (mNil))))) (mNil)))))) (mTm (mCall [true, true] g_law_draw (mCons (mPl 0) (mCons (mTm (mK (.int 3))) (mNil))))))) (mNil))))))) (mSkip)))))
noncomputable def g_law_purse : GM := semF [true] 7 m_law_purse
noncomputable def m_law_gate : XM := mSeq (mPar [0] [1, 2] (mCons (mTm (mCall [true, true] g_law_draw (mCons (mPl 0) (mCons (mTm (mK (.int 3))) (mNil))))) (mCons (mTm (mB (binD .Add) (mTm (mK (.int 1))) (mTm (mCall [true, true] g_law_draw (mCons (mPl 0) (mCons (mTm (mK (.int 9))) (mNil))))))) (mNil)))) (mSeq (mSet [0] 3 (mB ixD (mTm (mLst (mCons (mTm (mB (binD .Add) (mTm (mK (.int 1))) (mTm (mCall [true, true] g_law_draw (mCons (mPl 0) (mCons (mTm (mK (.int 4))) (mNil))))))) (mCons (mTm (mK (.int 20))) (mCons (mTm (mK (.int 1))) (mNil)))))) (mPl 1))) (mSeq (mSet [0] 4 (mB (binD .Add) (mPl 2) (mTm (mB ixD (mTm (mLst (mCons (mTm (mK (.int 0))) (mCons (mTm (mCall [true, true] g_law_draw (mCons (mPl 0) (mCons (mTm (mK (.int 20))) (mNil))))) (mCons (mTm (mB (binD .Sub) (mTm (mK (.int 1000))) (mPl 2))) (mNil)))))) (mTm (mCall [true, true] g_law_draw (mCons (mPl 0) (mCons (mTm (mK (.int 3))) (mNil))))))))) (mSeq (mRet (mTup (mCons (mPl 3) (mCons (mPl 2) (mCons (mTm (mB (binD .Add) (mTm (mK (.int 1))) (mTm (mCall [true, true] g_law_draw (mCons (mPl 0) (mCons (mTm (mK (.int 3))) (mNil))))))) (mCons (mPl 4) (mCons (mTm (mB (binD .Add) (mTm (mK (.int 1))) (mTm (mCall [true, true] g_law_draw (mCons (mPl 0) (mCons (mTm (mK (.int 3))) (mNil))))))) (mNil)))))))) (mSkip))))
noncomputable def g_law_gate : GM := semF [true] 5 m_law_gate
noncomputable def m_law_caller : XM := mSeq (mPar [0] [1, 2] (mCons (mTm (mCall [true, true] g_law_draw (mCons (mPl 0) (mCons (mTm (mK (.int 5))) (mNil))))) (mCons (mTm (mCall [true, true] g_law_draw (mCons (mPl 0) (mCons (mTm (mK (.int 4))) (mNil))))) (mNil)))) (mSeq (mSet [0] 3 (mTup (mCons (mTm (mB (binD .Add) (mTm (mK (.int 1))) (mTm (mCall [true, true] g_law_draw (mCons (mPl 0) (mCons (mTm (mK (.int 5))) (mNil))))))) (mCons (mTm (mB (binD .Add) (mTm (mK (.int 1))) (mTm (mCall [true, true] g_law_draw (mCons (mPl 0) (mCons (mTm (mK (.int 3))) (mNil))))))) (mCons (mTm (mCall [true, true] g_law_draw (mCons (mPl 0) (mCons (mTm (mK (.int 3))) (mNil))))) (mCons (mTm (mB (binD .Add) (mTm (mK (.int 1))) (mTm (mCall [true, true] g_law_draw (mCons (mPl 0) (mCons (mTm (mK (.int 40))) (mNil))))))) (mNil))))))) (mSeq (mSet [0] 4 (mB ixD (mTm (mLst (mCons (mTm (mK (.int 1))) (mCons (mTm (mB (binD .Add) (mTm (mK (.int 2))) (mTm (mCall [true, true] g_law_draw (mCons (mPl 0) (mCons (mTm (mK (.int 4))) (mNil))))))) (mCons (mTm (mB (binD .Add) (mTm (mK (.int 1))) (mTm (mCall [true, true] g_law_draw (mCons (mPl 0) (mCons (mTm (mK (.int 12))) (mNil))))))) (mCons (mTm (mK (.int 12))) (mCons (mTm (mK (.int 3))) (mNil)))))))) (mPl 1))) (mSeq (mSet [0] 5 (mB ixD (mTm (mLst (mCons (mTm (mK (.int 1000))) (mCons (mTm (mCall [true, true] g_law_draw (mCons (mPl 0) (mCons (mTm (mK (.int 60))) (mNil))))) (mCons (mTm (mCall [true, true] g_law_draw (mCons (mPl 0) (mCons (mTm (mK (.int 1001))) (mNil))))) (mCons (mTm (mB (binD .Add) (mTm (mK (.int 4))) (mTm (mCall [true, true] g_law_draw (mCons (mPl 0) (mCons (mTm (mK (.int 9))) (mNil))))))) (mNil))))))) (mPl 2))) (mSeq (mRet (mTup (mCons (mTm (mTup (mCons (mPl 3) (mCons (mPl 4) (mCons (mPl 5) (mNil)))))) (mCons (mTm (mCall [true] g_law_purse (mCons (mPl 0) (mNil)))) (mCons (mTm (mCall [true] g_law_gate (mCons (mPl 0) (mNil)))) (mNil)))))) (mSkip)))))
noncomputable def g_law_caller : GM := semF [true] 6 m_law_caller
noncomputable def m_law_askings : XM := mSeq (mPar [0] [1, 2] (mCons (mTm (mCall [true, true] g_law_draw (mCons (mPl 0) (mCons (mTm (mK (.int 4))) (mNil))))) (mCons (mTm (mB ixD (mTm (mLst (mCons (mTm (mK (.int 0))) (mCons (mTm (mCall [true, true] g_law_draw (mCons (mPl 0) (mCons (mTm (mK (.int 30))) (mNil))))) (mCons (mTm (mCall [true, true] g_law_draw (mCons (mPl 0) (mCons (mTm (mK (.int 900))) (mNil))))) (mNil)))))) (mTm (mCall [true, true] g_law_draw (mCons (mPl 0) (mCons (mTm (mK (.int 3))) (mNil))))))) (mNil)))) (mSeq (mSet [0] 3 (mB ixD (mTm (mLst (mCons (mTm (mK (.int 1))) (mCons (mTm (mK (.int 3))) (mCons (mTm (mK (.int 12))) (mCons (mTm (mK (.int 60))) (mNil))))))) (mTm (mCall [true, true] g_law_draw (mCons (mPl 0) (mCons (mTm (mK (.int 4))) (mNil))))))) (mSeq (mSet [0] 4 (mLst (mNil))) (mSeq (mFor [0] (mSrc rng1D (mCons (mTm (mB ixD (mTm (mLst (mCons (mTm (mK (.int 12))) (mCons (mTm (mB (binD .Add) (mTm (mK (.int 1))) (mTm (mCall [true, true] g_law_draw (mCons (mPl 0) (mCons (mTm (mK (.int 12))) (mNil))))))) (mCons (mTm (mB (binD .Add) (mTm (mK (.int 1))) (mTm (mCall [true, true] g_law_draw (mCons (mPl 0) (mCons (mTm (mK (.int 4))) (mNil))))))) (mCons (mTm (mK (.int 0))) (mNil))))))) (mPl 1))) (mNil))) (bNm 5) (mSeq (mApp 4 (mOp (Bf.f .min) (mCons (mTm (mK (.int 1000))) (mCons (mPl 2) (mNil))))) (mSeq (mSet [0] 2 (mB (binD .Add) (mPl 2) (mTm (mCall [true, true] g_law_draw (mCons (mPl 0) (mCons (mPl 3) (mNil))))))) (mSkip)))) (mSeq (mRet (mOp (Bf.f .tuple) (mCons (mPl 4) (mNil)))) (mSkip)))))
noncomputable def g_law_askings : GM := semF [true] 6 m_law_askings
noncomputable def m_law_outage : XM := mSeq (mSet [0] 2 (mLst (mNil))) (mSeq (mSet [0] 1 (mOp (Bf.f .max) (mCons (mTm (mK (.int 0))) (mCons (mTm (mB (binD .Sub) (mPl 1) (mTm (mCall [true, true] g_law_draw (mCons (mPl 0) (mCons (mTm (mK (.int 8))) (mNil))))))) (mNil))))) (mSeq (mFor [0] (mSrc rng1D (mCons (mTm (mCall [true, true] g_law_draw (mCons (mPl 0) (mCons (mTm (mK (.int 6))) (mNil))))) (mNil))) (bNm 3) (mSeq (mSet [0] 4 (mB (binD .Add) (mTm (mB (binD .Add) (mPl 1) (mTm (mK (.int 1))))) (mTm (mB ixD (mTm (mLst (mCons (mTm (mCall [true, true] g_law_draw (mCons (mPl 0) (mCons (mTm (mK (.int 6))) (mNil))))) (mCons (mTm (mCall [true, true] g_law_draw (mCons (mPl 0) (mCons (mTm (mK (.int 40))) (mNil))))) (mCons (mTm (mCall [true, true] g_law_draw (mCons (mPl 0) (mCons (mTm (mK (.int 600))) (mNil))))) (mNil)))))) (mTm (mCall [true, true] g_law_draw (mCons (mPl 0) (mCons (mTm (mK (.int 3))) (mNil))))))))) (mSeq (mApp 2 (mTup (mCons (mPl 1) (mCons (mPl 4) (mNil))))) (mSeq (mSet [0] 1 (mB (binD .Add) (mTm (mB (binD .Add) (mPl 4) (mTm (mK (.int 1))))) (mTm (mCall [true, true] g_law_draw (mCons (mPl 0) (mCons (mTm (mK (.int 12))) (mNil))))))) (mSkip))))) (mSeq (mRet (mOp (Bf.f .tuple) (mCons (mPl 2) (mNil)))) (mSkip))))
noncomputable def g_law_outage : GM := semF [true, false] 5 m_law_outage
noncomputable def m_law_played : XM := mSeq (mPar [0] [1, 2] (mCons (mTm (mCall [true] g_law_caller (mCons (mPl 0) (mNil)))) (mCons (mTm (mCall [true] g_law_askings (mCons (mPl 0) (mNil)))) (mNil)))) (mSeq (mSet [0] 3 (mB ixD (mTm (mB (binD .Add) (mPl 2) (mTm (mTup (mCons (mTm (mK (.int 0))) (mNil)))))) (mTm (mK (.int 0))))) (mSeq (mSet [0] 4 (mB ixD (mTm (mLst (mCons (mTm (mCall [true, false] g_law_outage (mCons (mPl 0) (mCons (mPl 3) (mNil))))) (mCons (mTm (mTup (mCons (mTm (mTup (mCons (mPl 3) (mCons (mTm (mB (binD .Add) (mPl 3) (mTm (mK (.int 2500))))) (mNil))))) (mNil)))) (mCons (mTm (mTup (mNil))) (mCons (mTm (mCall [true, false] g_law_outage (mCons (mPl 0) (mCons (mPl 3) (mNil))))) (mNil))))))) (mTm (mCall [true, true] g_law_draw (mCons (mPl 0) (mCons (mTm (mK (.int 4))) (mNil))))))) (mSeq (mRet (mTup (mCons (mPl 1) (mCons (mPl 2) (mCons (mPl 4) (mNil)))))) (mSkip))))
noncomputable def g_law_played : GM := semF [true] 5 m_law_played
noncomputable def m_law_silent : XM := mSeq (mRet (mOp (Bg.f .any) (mCons (mTm (mLc (mSrc itemsD (mCons (mTm (mVar 0)) mNil)) (bTup [bNm 2, bNm 3]) (mYes) (mChn (mPl 2) [(cmpD .LtE, mPl 1), (cmpD .Lt, mPl 3)]) [2, 3])) (mNil)))) (mSkip)
noncomputable def g_law_silent : GM := semF [true, true] 4 m_law_silent
noncomputable def m_law_stands : XM := mSeq (mIf (mOrT (mNotT (mTst (mIsi .tuple (mPl 1)))) (mOrT (mTst (mB (cmpD .NotEq) (mTm (mOp (Bf.f .len) (mCons (mPl 1) (mNil)))) (mTm (mK (.int 5))))) (mOrT (mTst (mB (cmpD .NotEq) (mTm (mB ixD (mPl 1) (mTm (mK (.int 0))))) (mPl 2))) (mTst (mB (cmpD .NotEq) (mTm (mB ixD (mPl 1) (mTm (mK (.int 4))))) (mPl 3)))))) (mSeq (mRet (mK (.bool false))) (mSkip)) (mSkip)) (mSeq (mIf (mOrT (mTst (mB (cmpD .NotEq) (mTm (mOp (Bf.f .list) (mCons (mTm (mB ixD (mPl 1) (mTm (mK (.int 1))))) (mNil)))) (mTm (mOp srT (mCons (mTm (mB ixD (mPl 1) (mTm (mK (.int 1))))) (mNil)))))) (mNotT (mTst (mChn (mTm (mK (.int 0))) [(cmpD .LtE, mTm (mB ixD (mPl 1) (mTm (mK (.int 2))))), (cmpD .LtE, mTm (mB ixD (mTm (mB ixD (mPl 0) (mTm (mK (.int 1))))) (mTm (mK (.int 2)))))])))) (mSeq (mRet (mK (.bool false))) (mSkip)) (mSkip)) (mSeq (mIf (mTst (mB (cmpD .IsNot) (mTm (mCall [true, true] g_standing_good (mCons (mTm (mB ixD (mPl 0) (mTm (mK (.int 2))))) (mCons (mTm (mB ixD (mPl 1) (mTm (mK (.int 3))))) (mNil))))) (mTm (mK (.bool true))))) (mSeq (mRet (mK (.bool false))) (mSkip)) (mSkip)) (mSeq (mFor [0, 1, 2, 3] (mSrc itemsD (mCons (mTm (mB ixD (mPl 1) (mTm (mK (.int 1))))) mNil)) (bTup [bNm 4, bNm 5, bNm 6, bNm 7]) (mSeq (mIf (mOrT (mNotT (mTst (mChn (mPl 2) [(cmpD .LtE, mPl 4), (cmpD .LtE, mTm (mB (binD .Add) (mPl 6) (mTm (mB ixD (mTm (mB ixD (mPl 0) (mTm (mK (.int 0))))) (mTm (mK (.int 2)))))))]))) (mOrT (mNotT (mTst (mChn (mTm (mK (.int 0))) [(cmpD .LtE, mPl 5), (cmpD .Lt, mPl 3)]))) (mNotT (mTst (mChn (mTm (mK (.int 1))) [(cmpD .LtE, mPl 7), (cmpD .Lt, mTm (mB ixD (mTm (mB ixD (mPl 0) (mTm (mK (.int 0))))) (mTm (mK (.int 1)))))]))))) (mSeq (mRet (mK (.bool false))) (mSkip)) (mSkip)) (mSkip))) (mSeq (mRet (mB (cmpD .Eq) (mTm (mOp lsT (mCons (mTm (mLc (mSrc itemsD (mCons (mTm (mB ixD (mPl 1) (mTm (mK (.int 1))))) mNil)) (bNm 8) (mYes) (mB ixD (mPl 8) (mTm (mK (.int 1)))) [8])) (mNil)))) (mTm (mOp (Bf.f .len) (mCons (mTm (mB ixD (mPl 1) (mTm (mK (.int 1))))) (mNil)))))) (mSkip)))))
noncomputable def g_law_stands : GM := semF [true, true, true, true] 9 m_law_stands
noncomputable def m_Beat_tried : XM := mSeq (mSet [0, 1, 2, 3] 4 (mCall [true, true, true] g_lets (mCons (mTm (mRd (mPlF 0 2 "Beat" "gate"))) (mCons (mTm (mRd (mPlF 0 6 "Beat" "stand"))) (mCons (mTm (mRd (mPlF 0 3 "Beat" "beat"))) (mNil)))))) (mSeq (mFSet 0 6 "Beat" "stand" (mB ixD (mPl 4) (mTm (mK (.int 1))))) (mSeq (mSet [0, 1, 2, 3] 5 (mK (.str "held"))) (mSeq (mIf (mTst (mB ixD (mPl 4) (mTm (mK (.int 0))))) (mSeq (mSet [0, 1, 2, 3] 5 (mIfE (mTst (mRd (mPlF 0 8 "Beat" "sound"))) (mK (.str "served")) (mK (.str "silent")))) (mSeq (mFSet 0 6 "Beat" "stand" (mCall [true, true, true, true] g_heard (mCons (mTm (mRd (mPlF 0 2 "Beat" "gate"))) (mCons (mTm (mRd (mPlF 0 6 "Beat" "stand"))) (mCons (mTm (mRd (mPlF 0 3 "Beat" "beat"))) (mCons (mTm (mRd (mPlF 0 8 "Beat" "sound"))) (mNil))))))) (mSkip))) (mSkip)) (mSeq (mSet [0, 1, 2, 3] 6 (mK .none)) (mSeq (mIf (mTst (mB (cmpD .NotEq) (mPl 5) (mTm (mK (.str "served"))))) (mSeq (mSet [0, 1, 2, 3] 6 (mMeth "Beat" "goes_on" [true, true, true, true] g_Beat_goes_on (mPl 0) (mCons (mPl 1) (mCons (mPl 2) (mCons (mTm (mB (binD .Add) (mPl 3) (mTm (mK (.int 1))))) (mNil)))))) (mSkip)) (mSkip)) (mSeq (mPApp (mPlF 0 9 "Beat" "events") (mTup (mCons (mPl 1) (mCons (mPl 5) (mCons (mPl 6) (mNil)))))) (mSkip)))))))
noncomputable def g_Beat_tried : GM := semF [true, true, true, true] 7 m_Beat_tried
noncomputable def m_Beat_first : XM := mSeq (mFSet 0 5 "Beat" "coins" (mOp (Bf.f .min) (mCons (mTm (mB ixD (mTm (mRd (mPlF 0 1 "Beat" "purse"))) (mTm (mK (.int 2))))) (mCons (mTm (mB (binD .Add) (mTm (mRd (mPlF 0 5 "Beat" "coins"))) (mTm (mB ixD (mTm (mRd (mPlF 0 1 "Beat" "purse"))) (mTm (mK (.int 0))))))) (mNil))))) (mSeq (mFSet 0 7 "Beat" "begun" (mB (binD .Add) (mTm (mRd (mPlF 0 7 "Beat" "begun"))) (mTm (mK (.int 1))))) (mSeq (mExpr (mMeth "Beat" "tried" [true, true, true, true] g_Beat_tried (mPl 0) (mCons (mTm (mB (binD .Sub) (mTm (mRd (mPlF 0 7 "Beat" "begun"))) (mTm (mK (.int 1))))) (mCons (mTm (mRd (mPlF 0 3 "Beat" "beat"))) (mCons (mTm (mK (.int 0))) (mNil)))))) (mSkip)))
noncomputable def g_Beat_first : GM := semF [true] 1 m_Beat_first
noncomputable def m_Beat_go : XM := mSeq (mSet [0, 1] 2 (mLc (mSrc itemsD (mCons (mTm (mRd (mPlF 0 4 "Beat" "waiting"))) mNil)) (bNm 3) (mTst (mB (cmpD .Eq) (mTm (mB ixD (mPl 3) (mTm (mK (.int 0))))) (mTm (mRd (mPlF 0 3 "Beat" "beat"))))) (mVar 3) [3])) (mSeq (mFSet 0 4 "Beat" "waiting" (mLc (mSrc itemsD (mCons (mTm (mRd (mPlF 0 4 "Beat" "waiting"))) mNil)) (bNm 3) (mTst (mB (cmpD .NotEq) (mTm (mB ixD (mPl 3) (mTm (mK (.int 0))))) (mTm (mRd (mPlF 0 3 "Beat" "beat"))))) (mVar 3) [3])) (mSeq (mFor [0, 1] (mSrc itemsD (mCons (mTm (mVar 2)) mNil)) (bTup [bNm 4, bNm 5, bNm 6, bNm 7]) (mSeq (mExpr (mMeth "Beat" "tried" [true, true, true, true] g_Beat_tried (mPl 0) (mCons (mPl 5) (mCons (mPl 6) (mCons (mPl 7) (mNil)))))) (mSkip))) (mSeq (mFor [0, 1] (mSrc rng1D (mCons (mTm (mVar 1)) (mNil))) (bNm 8) (mSeq (mExpr (mMeth "Beat" "first" [true] g_Beat_first (mPl 0) mNil)) (mSkip))) (mSeq (mSet [0, 1] 9 (mTup (mCons (mTm (mB (binD .Add) (mTm (mRd (mPlF 0 3 "Beat" "beat"))) (mTm (mK (.int 1))))) (mCons (mTm (mOp (Bf.f .tuple) (mCons (mTm (mPU sortX (mPlF 0 4 "Beat" "waiting"))) (mNil)))) (mCons (mTm (mRd (mPlF 0 5 "Beat" "coins"))) (mCons (mTm (mRd (mPlF 0 6 "Beat" "stand"))) (mCons (mTm (mRd (mPlF 0 7 "Beat" "begun"))) (mNil)))))))) (mSeq (mRet (mTup (mCons (mPl 9) (mCons (mTm (mPU (Bf.f .tuple) (mPlF 0 9 "Beat" "events"))) (mNil))))) (mSkip))))))
noncomputable def g_Beat_go : GM := semF [true, true] 10 m_Beat_go
noncomputable def m_stepped : XM := mSeq (mRet (mMeth "Beat" "go" [true, true] g_Beat_go (mTm (mNew "Beat" [true, true, true] g_Beat___init__ (mCons (mPl 0) (mCons (mPl 1) (mCons (mPl 2) (mNil)))))) (mCons (mPl 3) (mNil)))) (mSkip)
noncomputable def g_stepped : GM := semF [true, true, true, true] 4 m_stepped
noncomputable def m_events_of : XM := mSeq (mSet [0, 1, 2] 3 (mCall [true] g_first_of (mCons (mPl 0) (mNil)))) (mSeq (mSet [0, 1, 2] 4 (mLst (mNil))) (mSeq (mSet [0, 1, 2] 5 (mCall [true, true] g_next_beat (mCons (mPl 3) (mCons (mPl 1) (mNil))))) (mSeq (mWhile (mTst (mB (cmpD .IsNot) (mPl 5) (mTm (mK .none)))) (mSeq (mSet [0, 1, 2] 6 (mM countD isTu (mPl 1) (mCons (mPl 5) (mNil)))) (mSeq (mSet [0, 1, 2] 3 (mB (binD .Add) (mTm (mTup (mCons (mPl 5) (mNil)))) (mTm (mSl (mPl 3) (mPt (mTm (mK (.int 1)))) (mNoP))))) (mSeq (mAsg [3, 7] [0, 1, 2] (bTup [bNm 3, bNm 7]) (mCall [true, true, true, true] g_stepped (mCons (mPl 0) (mCons (mPl 3) (mCons (mTm (mNotE (mCall [true, true] g_silent_at (mCons (mPl 2) (mCons (mPl 5) (mNil)))))) (mCons (mPl 6) (mNil))))))) (mSeq (mExt 4 (mLc (mSrc itemsD (mCons (mTm (mVar 7)) mNil)) (bNm 8) (mYes) (mB (binD .Add) (mTm (mTup (mCons (mPl 5) (mNil)))) (mPl 8)) [8])) (mSeq (mSet [0, 1, 2] 5 (mCall [true, true] g_next_beat (mCons (mPl 3) (mCons (mPl 1) (mNil))))) (mSkip))))))) (mSeq (mRetV [0, 1, 2] 4) (mSkip)))))
noncomputable def g_events_of : GM := semF [true, true, true] 9 m_events_of
noncomputable def m_gone : XM := mSeq (mSet [0, 1, 2] 3 (mCall [true, true, true] g_events_of (mCons (mPl 0) (mCons (mPl 1) (mCons (mPl 2) (mNil)))))) (mSeq (mSet [0, 1, 2] 4 (mLc (mSrc itemsD (mCons (mTm (mVar 1)) mNil)) (bNm 5) (mYes) (mK .none) [5])) (mSeq (mFor [0, 1, 2] (mSrc itemsD (mCons (mTm (mVar 3)) mNil)) (bTup [bNm 5, bNm 6, bNm 7, bNm 8]) (mSeq (mIf (mTst (mB (cmpD .Eq) (mPl 7) (mTm (mK (.str "served"))))) (mSeq (mSetIx 4 (mTup (mCons (mTm (mK (.str "served"))) (mCons (mPl 5) (mNil)))) (mPl 6)) (mSkip)) (mSeq (mIf (mNotT (mTst (mCall [true] g_is_whole (mCons (mPl 8) (mNil))))) (mSeq (mSetIx 4 (mTup (mCons (mTm (mK (.str "lost"))) (mCons (mPl 5) (mCons (mPl 8) (mNil))))) (mPl 6)) (mSkip)) (mSkip)) (mSkip))) (mSkip))) (mSeq (mRet (mTup (mCons (mTm (mOp (Bf.f .tuple) (mCons (mPl 3) (mNil)))) (mCons (mTm (mOp (Bf.f .tuple) (mCons (mPl 4) (mNil)))) (mNil))))) (mSkip))))
noncomputable def g_gone : GM := semF [true, true, true] 9 m_gone
noncomputable def m_law : XM := mSeq (mFor [] (mSrc itemsD (mCons (mTm (mB (binD .Add) (mTm (mLst (mCons (mTm (mCall [true, true] g_law_cell_at (mCons (mPl 0) (mCons (mTm (mK (.int 0))) (mNil))))) (mNil)))) (mTm (mSl (mPl 0) (mPt (mTm (mK (.int 1)))) (mPt (mTm (mK (.int 2)))))))) mNil)) (bNm 1) (mSeq (mSet [] 2 (mCall [true] g_law_pen_of (mCons (mPl 1) (mNil)))) (mSeq (mAsg [3, 4, 5] [] (bTup [bNm 3, bNm 4, bNm 5]) (mCall [true] g_law_played (mCons (mPl 2) (mNil)))) (mSeq (mAsg [6, 7] [] (bTup [bNm 6, bNm 7]) (mCall [true, true, true] g_gone (mCons (mPl 3) (mCons (mPl 4) (mCons (mPl 5) (mNil)))))) (mSeq (mSet [] 8 (mOp (Bg.f .maxl) (mCons (mTm (mB (binD .Add) (mTm (mLst (mCons (mTm (mK (.int 0))) (mNil)))) (mTm (mLc (mSrc itemsD (mCons (mTm (mVar 6)) mNil)) (bNm 9) (mYes) (mB ixD (mPl 9) (mTm (mK (.int 0)))) [9])))) (mNil)))) (mSeq (mPar [] [10, 11, 12] (mCons (mTm (mCall [true] g_first_of (mCons (mPl 3) (mNil)))) (mCons (mTm (mLst (mNil))) (mCons (mTm (mK (.int 0))) (mNil))))) (mSeq (mFor [] (mSrc rng1D (mCons (mTm (mB (binD .Add) (mPl 8) (mTm (mK (.int 2))))) (mNil))) (bNm 13) (mSeq (mIf (mNotT (mTst (mCall [true, true, true, true] g_law_stands (mCons (mPl 3) (mCons (mPl 10) (mCons (mPl 13) (mCons (mPl 12) (mNil)))))))) (mSeq (mRet (mK (.bool false))) (mSkip)) (mSkip)) (mSeq (mSet [] 14 (mOp (Bf.f .len) (mCons (mTm (mLc (mSrc itemsD (mCons (mTm (mVar 4)) mNil)) (bNm 15) (mTst (mB (cmpD .Eq) (mPl 15) (mPl 13))) (mVar 15) [15])) (mNil)))) (mSeq (mAsg [10, 16] [] (bTup [bNm 10, bNm 16]) (mCall [true, true, true, true] g_stepped (mCons (mPl 3) (mCons (mPl 10) (mCons (mTm (mNotE (mCall [true, true] g_law_silent (mCons (mPl 5) (mCons (mPl 13) (mNil)))))) (mCons (mPl 14) (mNil))))))) (mSeq (mExt 11 (mLc (mSrc itemsD (mCons (mTm (mVar 16)) mNil)) (bNm 9) (mYes) (mB (binD .Add) (mTm (mTup (mCons (mPl 13) (mNil)))) (mPl 9)) [9])) (mSeq (mSet [] 12 (mB (binD .Add) (mPl 12) (mPl 14))) (mSkip))))))) (mSeq (mIf (mOrT (mTst (mB (cmpD .NotEq) (mTm (mOp (Bf.f .tuple) (mCons (mPl 11) (mNil)))) (mPl 6))) (mOrT (mTst (mB (cmpD .NotEq) (mTm (mB ixD (mPl 10) (mTm (mK (.int 1))))) (mTm (mTup (mNil))))) (mTst (mB (cmpD .NotEq) (mPl 12) (mTm (mOp (Bf.f .len) (mCons (mPl 4) (mNil)))))))) (mSeq (mRet (mK (.bool false))) (mSkip)) (mSkip)) (mSkip))))))))) (mSeq (mRet (mK (.bool true))) (mSkip))
section
variable {P : Program} {w : World} {K : PySem.W.Frag} {mg : Str → Option Value} {base : Heap}
theorem sc_is_whole : FnScope ["thing"] ["thing"] (defScope st_is_whole) := ⟨rfl, rfl, rfl, by decide +kernel, rfl, by decide +kernel, by decide +kernel⟩
theorem pl_is_whole : Plain d_is_whole ["thing"] := ⟨rfl, rfl, fun _ _ _ _ _ _ us hl => match us, hl with | [_], _ => rfl⟩
theorem bd_is_whole (W : Wd K mg) (f : Addr) (cdv : Value) (A : Around) (outer : List Env) (s : Shared) (H : Hp) (E : XK) (hr : Rm 0 (cxN P w K mg base ["thing"] d_is_whole f cdv A outer s H E).A) : PSs (cxN P w K mg base ["thing"] d_is_whole f cdv A outer s H E) d_is_whole.body (tS (K, w) W0 (ios [true]) m_is_whole) :=
  have nd : (["thing"] : List Str).Nodup := sc_is_whole.nd
  ms_cons (ms_ret (me_and (x_isi .int rfl (W.free 30) (W.free 31) rfl rfl (mo_name (pv 0))) (me_one (me_not (x_isi .bool rfl (W.free 30) (W.free 32) rfl rfl (mo_name (pv 0))))))) (ms_nil)
theorem ok_is_whole (W : Wd K mg) : KnG P w K mg base 1 "is_whole" ["thing"] (spOf (K, w) 1 g_is_whole) := kng_mk W 0 0 rfl rfl rfl pl_is_whole sc_is_whole (bd_is_whole W)
theorem sc_is_from_to : FnScope ["thing", "least", "most"] ["thing", "least", "most"] (defScope st_is_from_to) := ⟨rfl, rfl, rfl, by decide +kernel, rfl, by decide +kernel, by decide +kernel⟩
theorem pl_is_from_to : Plain d_is_from_to ["thing", "least", "most"] := ⟨rfl, rfl, fun _ _ _ _ _ _ us hl => match us, hl with | [_, _, _], _ => rfl⟩
theorem bd_is_from_to (W : Wd K mg) (f : Addr) (cdv : Value) (A : Around) (outer : List Env) (s : Shared) (H : Hp) (E : XK) (hr : Rm 1 (cxN P w K mg base ["thing", "least", "most"] d_is_from_to f cdv A outer s H E).A) : PSs (cxN P w K mg base ["thing", "least", "most"] d_is_from_to f cdv A outer s H E) d_is_from_to.body (tS (K, w) W0 (ios [true, true, true]) m_is_from_to) :=
  have nd : (["thing", "least", "most"] : List Str).Nodup := sc_is_from_to.nd
  ms_cons (ms_ret (me_and (g_call (ok_is_whole W) hr (by decide) rfl (ma_cons (mo_name (pv 0)) (ma_nil))) (me_one (x_chain (mo_name (pv 1)) (ch_cons hr.toRoom (mo_name (pv 0)) (ch_one hr.toRoom (mo_name (pv 2)))))))) (ms_nil)
theorem ok_is_from_to (W : Wd K mg) : KnG P w K mg base 2 "is_from_to" ["thing", "least", "most"] (spOf (K, w) 3 g_is_from_to) := kng_mk W 1 1 rfl rfl rfl pl_is_from_to sc_is_from_to (bd_is_from_to W)
theorem sc_first_gap : FnScope ["gaps"] ["gaps"] (defScope st_first_gap) := ⟨rfl, rfl, rfl, by decide +kernel, rfl, by decide +kernel, by decide +kernel⟩
theorem pl_first_gap : Plain d_first_gap ["gaps"] := ⟨rfl, rfl, fun _ _ _ _ _ _ us hl => match us, hl with | [_], _ => rfl⟩
theorem bd_first_gap (W : Wd K mg) (f : Addr) (cdv : Value) (A : Around) (outer : List Env) (s : Shared) (H : Hp) (E : XK) (hr : Rm 0 (cxN P w K mg base ["gaps"] d_first_gap f cdv A outer s H E).A) : PSs (cxN P w K mg base ["gaps"] d_first_gap f cdv A outer s H E) d_first_gap.body (tS (K, w) W0 (ios [true]) m_first_gap) :=
  have nd : (["gaps"] : List Str).Nodup := sc_first_gap.nd
  ms_cons (ms_ret (x_bf .min rfl (W.free 33) rfl rfl (ma_cons (mo_tm (x_ix (mo_name (pv 0)) (mo_tm (me_int)))) (ma_cons (mo_tm (x_ix (mo_name (pv 0)) (mo_tm (me_int)))) (ma_nil))))) (ms_nil)
theorem ok_first_gap (W : Wd K mg) : KnG P w K mg base 1 "first_gap" ["gaps"] (spOf (K, w) 1 g_first_gap) := kng_mk W 2 2 rfl rfl rfl pl_first_gap sc_first_gap (bd_first_gap W)
theorem sc_next_gap : FnScope ["gaps", "gap"] ["gaps", "gap"] (defScope st_next_gap) := ⟨rfl, rfl, rfl, by decide +kernel, rfl, by decide +kernel, by decide +kernel⟩
theorem pl_next_gap : Plain d_next_gap ["gaps", "gap"] := ⟨rfl, rfl, fun _ _ _ _ _ _ us hl => match us, hl with | [_, _], _ => rfl⟩
theorem bd_next_gap (W : Wd K mg) (f : Addr) (cdv : Value) (A : Around) (outer : List Env) (s : Shared) (H : Hp) (E : XK) (hr : Rm 0 (cxN P w K mg base ["gaps", "gap"] d_next_gap f cdv A outer s H E).A) : PSs (cxN P w K mg base ["gaps", "gap"] d_next_gap f cdv A outer s H E) d_next_gap.body (tS (K, w) W0 (ios [true, true]) m_next_gap) :=
  have nd : (["gaps", "gap"] : List Str).Nodup := sc_next_gap.nd
  ms_cons (ms_ret (x_bf .min rfl (W.free 33) rfl rfl (ma_cons (mo_tm (x_ix (mo_name (pv 0)) (mo_tm (me_int)))) (ma_cons (mo_tm (x_bin (mo_tm (x_bin (mo_tm (x_ix (mo_name (pv 0)) (mo_tm (me_int)))) (mo_name (pv 1)))) (mo_tm (x_ix (mo_name (pv 0)) (mo_tm (me_int)))))) (ma_nil))))) (ms_nil)
theorem ok_next_gap (W : Wd K mg) : KnG P w K mg base 1 "next_gap" ["gaps", "gap"] (spOf (K, w) 2 g_next_gap) := kng_mk W 3 3 rfl rfl rfl pl_next_gap sc_next_gap (bd_next_gap W)
theorem sc_growing : FnScope ["gaps", "found"] ["gaps"] (defScope st_growing) := ⟨rfl, rfl, rfl, by decide +kernel, rfl, by decide +kernel, by decide +kernel⟩
theorem pl_growing : Plain d_growing ["gaps"] := ⟨rfl, rfl, fun _ _ _ _ _ _ us hl => match us, hl with | [_], _ => rfl⟩
theorem bd_growing (W : Wd K mg) (f : Addr) (cdv : Value) (A : Around) (outer : List Env) (s : Shared) (H : Hp) (E : XK) (hr : Rm 1 (cxN P w K mg base ["gaps", "found"] d_growing f cdv A outer s H E).A) : PSs (cxN P w K mg base ["gaps", "found"] d_growing f cdv A outer s H E) d_growing.body (tS (K, w) W0 (ios [true]) m_growing) :=
  have nd : (["gaps", "found"] : List Str).Nodup := sc_growing.nd
  ms_cons (z_set 1 nd (me_lst (ma_cons (mo_tm (g_call (ok_first_gap W) hr (by decide) rfl (ma_cons (mo_name (pv 0)) (ma_nil)))) (ma_nil)))) (ms_cons (ms_while .never (y_cmp hr.toRoom (mo_tm (g_call (ok_next_gap W) hr (by decide) rfl (ma_cons (mo_name (pv 0)) (ma_cons (mo_tm (x_ix (mo_name (pv 1)) (mo_tm (x_neg (mo_tm (me_int)))))) (ma_nil))))) (mo_tm (x_ix (mo_name (pv 1)) (mo_tm (x_neg (mo_tm (me_int))))))) (ms_cons (z_app 1 (pv 1) (g_call (ok_next_gap W) hr (by decide) rfl (ma_cons (mo_name (pv 0)) (ma_cons (mo_tm (x_ix (mo_name (pv 1)) (mo_tm (x_neg (mo_tm (me_int)))))) (ma_nil))))) (ms_nil))) (ms_cons (ms_retV (pv 1)) (ms_nil)))
theorem ok_growing (W : Wd K mg) : KnG P w K mg base 2 "growing" ["gaps"] (spOf (K, w) 1 g_growing) := kng_mk W 4 4 rfl rfl rfl pl_growing sc_growing (bd_growing W)
theorem sc_gap_at : FnScope ["gaps", "k", "found"] ["gaps", "k"] (defScope st_gap_at) := ⟨rfl, rfl, rfl, by decide +kernel, rfl, by decide +kernel, by decide +kernel⟩
theorem pl_gap_at : Plain d_gap_at ["gaps", "k"] := ⟨rfl, rfl, fun _ _ _ _ _ _ us hl => match us, hl with | [_, _], _ => rfl⟩
theorem bd_gap_at (W : Wd K mg) (f : Addr) (cdv : Value) (A : Around) (outer : List Env) (s : Shared) (H : Hp) (E : XK) (hr : Rm 2 (cxN P w K mg base ["gaps", "k", "found"] d_gap_at f cdv A outer s H E).A) : PSs (cxN P w K mg base ["gaps", "k", "found"] d_gap_at f cdv A outer s H E) d_gap_at.body (tS (K, w) W0 (ios [true, true]) m_gap_at) :=
  have nd : (["gaps", "k", "found"] : List Str).Nodup := sc_gap_at.nd
  ms_cons (z_set 2 nd (g_call (ok_growing W) hr (by decide) rfl (ma_cons (mo_name (pv 0)) (ma_nil)))) (ms_cons (ms_ret (x_ix (mo_name (pv 2)) (mo_tm (x_bin (mo_tm (x_bf .min rfl (W.free 33) rfl rfl (ma_cons (mo_name (pv 1)) (ma_cons (mo_tm (x_bf .len rfl (W.free 34) rfl rfl (ma_cons (mo_name (pv 2)) (ma_nil)))) (ma_nil))))) (mo_tm (me_int)))))) (ms_nil))
theorem ok_gap_at (W : Wd K mg) : KnG P w K mg base 3 "gap_at" ["gaps", "k"] (spOf (K, w) 2 g_gap_at) := kng_mk W 5 5 rfl rfl rfl pl_gap_at sc_gap_at (bd_gap_at W)
theorem sc_silent_at : FnScope ["story", "beat", "begin", "end"] ["story", "beat"] (defScope st_silent_at) := ⟨rfl, rfl, rfl, by decide +kernel, rfl, by decide +kernel, by decide +kernel⟩
theorem pl_silent_at : Plain d_silent_at ["story", "beat"] := ⟨rfl, rfl, fun _ _ _ _ _ _ us hl => match us, hl with | [_, _], _ => rfl⟩
theorem bd_silent_at (W : Wd K mg) (f : Addr) (cdv : Value) (A : Around) (outer : List Env) (s : Shared) (H : Hp) (E : XK) (hr : Rm 0 (cxN P w K mg base ["story", "beat", "begin", "end"] d_silent_at f cdv A outer s H E).A) : PSs (cxN P w K mg base ["story", "beat", "begin", "end"] d_silent_at f cdv A outer s H E) d_silent_at.body (tS (K, w) W0 (ios [true, true]) m_silent_at) :=
  have nd : (["story", "beat", "begin", "end"] : List Str).Nodup := sc_silent_at.nd
  ms_cons (ms_ret (x_bg .any rfl (W.free 35) rfl rfl (ma_cons (mo_tm (x_lc [("begin", 2), ("end", 3)] rfl nd (blkOk_by (by first | rfl | kernel_rfl)) (mi_any (mo_tm (me_name (pv 0)))) (Gd.imp (gd_tup rfl (gds_cons (gd_name) (gds_cons (gd_name) (gds_nil)))) (by intro j h; simpa using h)) (fun _ _ _ _ _ => pg_tup rfl (pgs_cons (g_nm 2 nd) (pgs_cons (g_nm 3 nd) (pgs_nil)))) (fun _ _ _ _ _ => pts_no) (fun _ _ _ _ _ => x_chain (mo_name (pv 2)) (ch_cons hr.toRoom (mo_name (pv 1)) (ch_one hr.toRoom (mo_name (pv 3))))))) (ma_nil)))) (ms_nil)
theorem ok_silent_at (W : Wd K mg) : KnG P w K mg base 1 "silent_at" ["story", "beat"] (spOf (K, w) 2 g_silent_at) := kng_mk W 6 6 rfl rfl rfl pl_silent_at sc_silent_at (bd_silent_at W)
theorem sc_standing_good : FnScope ["gate", "thing"] ["gate", "thing"] (defScope st_standing_good) := ⟨rfl, rfl, rfl, by decide +kernel, rfl, by decide +kernel, by decide +kernel⟩
theorem pl_standing_good : Plain d_standing_good ["gate", "thing"] := ⟨rfl, rfl, fun _ _ _ _ _ _ us hl => match us, hl with | [_, _], _ => rfl⟩
theorem bd_standing_good (W : Wd K mg) (f : Addr) (cdv : Value) (A : Around) (outer : List Env) (s : Shared) (H : Hp) (E : XK) (hr : Rm 2 (cxN P w K mg base ["gate", "thing"] d_standing_good f cdv A outer s H E).A) : PSs (cxN P w K mg base ["gate", "thing"] d_standing_good f cdv A outer s H E) d_standing_good.body (tS (K, w) W0 (ios [true, true]) m_standing_good) :=
  have nd : (["gate", "thing"] : List Str).Nodup := sc_standing_good.nd
  ms_cons (ms_if (PW.pt (mt_or (mt_not (y_val (x_isi .tuple rfl (W.free 30) (W.free 36) rfl rfl (mo_name (pv 1))))) (mt_or (y_cmp hr.toRoom (mo_tm (x_bf .len rfl (W.free 34) rfl rfl (ma_cons (mo_name (pv 1)) (ma_nil)))) (mo_tm (me_int))) (mt_or1 (mt_not (y_val (x_isi .str rfl (W.free 30) (W.free 37) rfl rfl (mo_tm (x_ix (mo_name (pv 1)) (mo_tm (me_int))))))))))) (ms_cons (ms_ret (me_bl)) (ms_nil)) (ms_nil)) (ms_cons (ms_if (y_cmp hr.toRoom (mo_tm (x_ix (mo_name (pv 1)) (mo_tm (me_int)))) (mo_tm (me_str))) (ms_cons (ms_ret (me_and (x_cmp hr.toRoom (mo_tm (x_bf .len rfl (W.free 34) rfl rfl (ma_cons (mo_name (pv 1)) (ma_nil)))) (mo_tm (me_int))) (me_one (g_call (ok_is_from_to W) hr (by decide) rfl (ma_cons (mo_tm (x_ix (mo_name (pv 1)) (mo_tm (me_int)))) (ma_cons (mo_tm (me_int)) (ma_cons (mo_tm (x_bin (mo_tm (x_ix (mo_name (pv 0)) (mo_tm (me_int)))) (mo_tm (me_int)))) (ma_nil)))))))) (ms_nil)) (ms_nil)) (ms_cons (ms_if (PW.pt (mt_or (y_cmp hr.toRoom (mo_tm (x_bf .len rfl (W.free 34) rfl rfl (ma_cons (mo_name (pv 1)) (ma_nil)))) (mo_tm (me_int))) (mt_or1 (mt_not (y_val (g_call (ok_is_from_to W) hr (by decide) rfl (ma_cons (mo_tm (x_ix (mo_name (pv 1)) (mo_tm (me_int)))) (ma_cons (mo_tm (x_ix (mo_name (pv 0)) (mo_tm (me_int)))) (ma_cons (mo_tm (x_ix (mo_name (pv 0)) (mo_tm (me_int)))) (ma_nil)))))))))) (ms_cons (ms_ret (me_bl)) (ms_nil)) (ms_nil)) (ms_cons (ms_if (y_cmp hr.toRoom (mo_tm (x_ix (mo_name (pv 1)) (mo_tm (me_int)))) (mo_tm (me_str))) (ms_cons (ms_ret (g_call (ok_is_from_to W) hr (by decide) rfl (ma_cons (mo_tm (x_ix (mo_name (pv 1)) (mo_tm (me_int)))) (ma_cons (mo_tm (me_int)) (ma_cons (mo_tm (x_gint (W.int 29) rfl)) (ma_nil)))))) (ms_nil)) (ms_nil)) (ms_cons (ms_ret (me_and (x_cmp hr.toRoom (mo_tm (x_ix (mo_name (pv 1)) (mo_tm (me_int)))) (mo_tm (me_str))) (me_one (g_call (ok_is_from_to W) hr (by decide) rfl (ma_cons (mo_tm (x_ix (mo_name (pv 1)) (mo_tm (me_int)))) (ma_cons (mo_tm (me_int)) (ma_cons (mo_tm (x_bin (mo_tm (x_ix (mo_name (pv 0)) (mo_tm (me_int)))) (mo_tm (me_int)))) (ma_nil)))))))) (ms_nil)))))
theorem ok_standing_good (W : Wd K mg) : KnG P w K mg base 3 "standing_good" ["gate", "thing"] (spOf (K, w) 2 g_standing_good) := kng_mk W 7 7 rfl rfl rfl pl_standing_good sc_standing_good (bd_standing_good W)
theorem sc_lets : FnScope ["gate", "standing", "beat"] ["gate", "standing", "beat"] (defScope st_lets) := ⟨rfl, rfl, rfl, by decide +kernel, rfl, by decide +kernel, by decide +kernel⟩
theorem pl_lets : Plain d_lets ["gate", "standing", "beat"] := ⟨rfl, rfl, fun _ _ _ _ _ _ us hl => match us, hl with | [_, _, _], _ => rfl⟩
theorem bd_lets (W : Wd K mg) (f : Addr) (cdv : Value) (A : Around) (outer : List Env) (s : Shared) (H : Hp) (E : XK) (hr : Rm 0 (cxN P w K mg base ["gate", "standing", "beat"] d_lets f cdv A outer s H E).A) : PSs (cxN P w K mg base ["gate", "standing", "beat"] d_lets f cdv A outer s H E) d_lets.body (tS (K, w) W0 (ios [true, true, true]) m_lets) :=
  have nd : (["gate", "standing", "beat"] : List Str).Nodup := sc_lets.nd
  ms_cons (ms_if (y_cmp hr.toRoom (mo_tm (x_ix (mo_name (pv 1)) (mo_tm (me_int)))) (mo_tm (me_str))) (ms_cons (ms_ret (me_tup (ma_cons (mo_tm (me_bl)) (ma_cons (mo_name (pv 1)) (ma_nil))))) (ms_nil)) (ms_nil)) (ms_cons (ms_if (y_cmp hr.toRoom (mo_name (pv 2)) (mo_tm (x_ix (mo_name (pv 1)) (mo_tm (me_int))))) (ms_cons (ms_ret (me_tup (ma_cons (mo_tm (me_bl)) (ma_cons (mo_name (pv 1)) (ma_nil))))) (ms_nil)) (ms_nil)) (ms_cons (ms_ret (me_tup (ma_cons (mo_tm (me_bl)) (ma_cons (mo_tm (me_tup (ma_cons (mo_tm (me_str)) (ma_cons (mo_tm (me_int)) (ma_cons (mo_tm (x_ix (mo_name (pv 1)) (mo_tm (me_int)))) (ma_nil)))))) (ma_nil))))) (ms_nil)))
theorem ok_lets (W : Wd K mg) : KnG P w K mg base 1 "lets" ["gate", "standing", "beat"] (spOf (K, w) 3 g_lets) := kng_mk W 8 8 rfl rfl rfl pl_lets sc_lets (bd_lets W)
theorem sc_heard : FnScope ["gate", "standing", "beat", "answered", "fails", "rest", "times", "most", "trials", "now"] ["gate", "standing", "beat", "answered"] (defScope st_heard) := ⟨rfl, rfl, rfl, by decide +kernel, rfl, by decide +kernel, by decide +kernel⟩
theorem pl_heard : Plain d_heard ["gate", "standing", "beat", "answered"] := ⟨rfl, rfl, fun _ _ _ _ _ _ us hl => match us, hl with | [_, _, _, _], _ => rfl⟩
theorem bd_heard (W : Wd K mg) (f : Addr) (cdv : Value) (A : Around) (outer : List Env) (s : Shared) (H : Hp) (E : XK) (hr : Rm 0 (cxN P w K mg base ["gate", "standing", "beat", "answered", "fails", "rest", "times", "most", "trials", "now"] d_heard f cdv A outer s H E).A) : PSs (cxN P w K mg base ["gate", "standing", "beat", "answered", "fails", "rest", "times", "most", "trials", "now"] d_heard f cdv A outer s H E) d_heard.body (tS (K, w) W0 (ios [true, true, true, true]) m_heard) :=
  have nd : (["gate", "standing", "beat", "answered", "fails", "rest", "times", "most", "trials", "now"] : List Str).Nodup := sc_heard.nd
  ms_cons (z_asg (Gd.imp (gd_tup rfl (gds_cons (gd_name) (gds_cons (gd_name) (gds_cons (gd_name) (gds_cons (gd_name) (gds_cons (gd_name) (gds_nil))))))) (by intro j h; simpa using h)) (pg_tup rfl (pgs_cons (g_nm 4 nd) (pgs_cons (g_nm 5 nd) (pgs_cons (g_nm 6 nd) (pgs_cons (g_nm 7 nd) (pgs_cons (g_nm 8 nd) (pgs_nil))))))) (me_name (pv 0))) (ms_cons (ms_if (y_cmp hr.toRoom (mo_tm (x_ix (mo_name (pv 1)) (mo_tm (me_int)))) (mo_tm (me_str))) (ms_cons (ms_never) (ms_nil)) (ms_nil)) (ms_cons (ms_if (y_cmp hr.toRoom (mo_tm (x_ix (mo_name (pv 1)) (mo_tm (me_int)))) (mo_tm (me_str))) (ms_cons (ms_if (y_val (me_name (pv 3))) (ms_cons (ms_ret (me_tup (ma_cons (mo_tm (me_str)) (ma_cons (mo_tm (me_int)) (ma_nil))))) (ms_nil)) (ms_nil)) (ms_cons (ms_if (y_cmp hr.toRoom (mo_tm (x_bin (mo_tm (x_ix (mo_name (pv 1)) (mo_tm (me_int)))) (mo_tm (me_int)))) (mo_name (pv 4))) (ms_cons (ms_ret (me_tup (ma_cons (mo_tm (me_str)) (ma_cons (mo_tm (x_bin (mo_tm (x_ix (mo_name (pv 1)) (mo_tm (me_int)))) (mo_tm (me_int)))) (ma_nil))))) (ms_nil)) (ms_nil)) (ms_cons (ms_ret (me_tup (ma_cons (mo_tm (me_str)) (ma_cons (mo_tm (x_bin (mo_name (pv 2)) (mo_name (pv 5)))) (ma_cons (mo_name (pv 5)) (ma_nil)))))) (ms_nil)))) (ms_nil)) (ms_cons (ms_if (mt_not (y_val (me_name (pv 3)))) (ms_cons (z_set 9 nd (x_bf .min rfl (W.free 33) rfl rfl (ma_cons (mo_name (pv 7)) (ma_cons (mo_tm (x_bin (mo_name (pv 6)) (mo_tm (x_ix (mo_name (pv 1)) (mo_tm (me_int)))))) (ma_nil))))) (ms_cons (ms_ret (me_tup (ma_cons (mo_tm (me_str)) (ma_cons (mo_tm (x_bin (mo_name (pv 2)) (mo_name (pv 9)))) (ma_cons (mo_name (pv 9)) (ma_nil)))))) (ms_nil))) (ms_nil)) (ms_cons (ms_if (y_cmp hr.toRoom (mo_tm (x_bin (mo_tm (x_ix (mo_name (pv 1)) (mo_tm (me_int)))) (mo_tm (me_int)))) (mo_name (pv 8))) (ms_cons (ms_ret (me_tup (ma_cons (mo_tm (me_str)) (ma_cons (mo_tm (x_bin (mo_tm (x_ix (mo_name (pv 1)) (mo_tm (me_int)))) (mo_tm (me_int)))) (ma_cons (mo_tm (x_ix (mo_name (pv 1)) (mo_tm (me_int)))) (ma_nil)))))) (ms_nil)) (ms_nil)) (ms_cons (ms_ret (me_tup (ma_cons (mo_tm (me_str)) (ma_cons (mo_tm (me_int)) (ma_nil))))) (ms_nil))))))
theorem ok_heard (W : Wd K mg) : KnG P w K mg base 1 "heard" ["gate", "standing", "beat", "answered"] (spOf (K, w) 4 g_heard) := kng_mk W 9 9 rfl rfl rfl pl_heard sc_heard (bd_heard W)
theorem sc_first_of : FnScope ["caller"] ["caller"] (defScope st_first_of) := ⟨rfl, rfl, rfl, by decide +kernel, rfl, by decide +kernel, by decide +kernel⟩
theorem pl_first_of : Plain d_first_of ["caller"] := ⟨rfl, rfl, fun _ _ _ _ _ _ us hl => match us, hl with | [_], _ => rfl⟩
theorem bd_first_of (W : Wd K mg) (f : Addr) (cdv : Value) (A : Around) (outer : List Env) (s : Shared) (H : Hp) (E : XK) (hr : Rm 0 (cxN P w K mg base ["caller"] d_first_of f cdv A outer s H E).A) : PSs (cxN P w K mg base ["caller"] d_first_of f cdv A outer s H E) d_first_of.body (tS (K, w) W0 (ios [true]) m_first_of) :=
  have nd : (["caller"] : List Str).Nodup := sc_first_of.nd
  ms_cons (ms_ret (me_tup (ma_cons (mo_tm (me_int)) (ma_cons (mo_tm (me_tup (ma_nil))) (ma_cons (mo_tm (x_ix (mo_tm (x_ix (mo_name (pv 0)) (mo_tm (me_int)))) (mo_tm (me_int)))) (ma_cons (mo_tm (me_tup (ma_cons (mo_tm (me_str)) (ma_cons (mo_tm (me_int)) (ma_nil))))) (ma_cons (mo_tm (me_int)) (ma_nil)))))))) (ms_nil)
theorem ok_first_of (W : Wd K mg) : KnG P w K mg base 1 "first_of" ["caller"] (spOf (K, w) 1 g_first_of) := kng_mk W 10 10 rfl rfl rfl pl_first_of sc_first_of (bd_first_of W)
theorem sc_Beat___init__ : FnScope ["self", "caller", "standing", "sound"] ["self", "caller", "standing", "sound"] (defScope st_Beat___init__) := ⟨rfl, rfl, rfl, by decide +kernel, rfl, by decide +kernel, by decide +kernel⟩
theorem pl_Beat___init__ : Plain d_Beat___init__ ["self", "caller", "standing", "sound"] := ⟨rfl, rfl, fun _ _ _ _ _ _ us hl => match us, hl with | [_, _, _, _], _ => rfl⟩
theorem bd_Beat___init__ (W : Wd K mg) (f : Addr) (cdv : Value) (A : Around) (outer : List Env) (s : Shared) (H : Hp) (E : XK) (hr : Rm 0 (cxN P w K mg base ["self", "caller", "standing", "sound"] d_Beat___init__ f cdv A outer s H E).A) : PSs (cxN P w K mg base ["self", "caller", "standing", "sound"] d_Beat___init__ f cdv A outer s H E) d_Beat___init__.body (tS (K, w) W0 (ios [true, true, true, true]) m_Beat___init__) :=
  have nd : (["self", "caller", "standing", "sound"] : List Str).Nodup := sc_Beat___init__.nd
  ms_cons (z_fnew 0 (W.cls 43) (W.noat 53) (pv 0) (x_ix (mo_name (pv 1)) (mo_tm (me_int)))) (ms_cons (z_fnew 0 (W.cls 43) (W.noat 52) (pv 0) (x_ix (mo_name (pv 1)) (mo_tm (me_int)))) (ms_cons (z_fnew 0 (W.cls 43) (W.noat 51) (pv 0) (x_ix (mo_name (pv 1)) (mo_tm (me_int)))) (ms_cons (z_fnew 0 (W.cls 43) (W.noat 50) (pv 0) (x_ix (mo_name (pv 2)) (mo_tm (me_int)))) (ms_cons (z_fnew 0 (W.cls 43) (W.noat 49) (pv 0) (x_bf .list rfl (W.free 38) rfl rfl (ma_cons (mo_tm (x_ix (mo_name (pv 2)) (mo_tm (me_int)))) (ma_nil)))) (ms_cons (z_fnew 0 (W.cls 43) (W.noat 48) (pv 0) (x_ix (mo_name (pv 2)) (mo_tm (me_int)))) (ms_cons (z_fnew 0 (W.cls 43) (W.noat 47) (pv 0) (x_ix (mo_name (pv 2)) (mo_tm (me_int)))) (ms_cons (z_fnew 0 (W.cls 43) (W.noat 46) (pv 0) (x_ix (mo_name (pv 2)) (mo_tm (me_int)))) (ms_cons (z_fnew 0 (W.cls 43) (W.noat 45) (pv 0) (me_name (pv 3))) (ms_cons (z_fnew 0 (W.cls 43) (W.noat 44) (pv 0) (me_lst (ma_nil))) (ms_nil))))))))))
theorem ok_Beat___init__ (W : Wd K mg) : KnI P w K mg base 1 "Beat" ["self", "caller", "standing", "sound"] (spOf (K, w) 4 g_Beat___init__) := kni_mk W 11 60 59 rfl rfl rfl rfl pl_Beat___init__ sc_Beat___init__ (bd_Beat___init__ W)
theorem sc_Beat_goes_on : FnScope ["self", "number", "begin", "tries", "gaps", "knocks", "time", "due"] ["self", "number", "begin", "tries"] (defScope st_Beat_goes_on) := ⟨rfl, rfl, rfl, by decide +kernel, rfl, by decide +kernel, by decide +kernel⟩
theorem pl_Beat_goes_on : Plain d_Beat_goes_on ["self", "number", "begin", "tries"] := ⟨rfl, rfl, fun _ _ _ _ _ _ us hl => match us, hl with | [_, _, _, _], _ => rfl⟩
theorem bd_Beat_goes_on (W : Wd K mg) (f : Addr) (cdv : Value) (A : Around) (outer : List Env) (s : Shared) (H : Hp) (E : XK) (hr : Rm 3 (cxN P w K mg base ["self", "number", "begin", "tries", "gaps", "knocks", "time", "due"] d_Beat_goes_on f cdv A outer s H E).A) : PSs (cxN P w K mg base ["self", "number", "begin", "tries", "gaps", "knocks", "time", "due"] d_Beat_goes_on f cdv A outer s H E) d_Beat_goes_on.body (tS (K, w) W0 (ios [true, true, true, true]) m_Beat_goes_on) :=
  have nd : (["self", "number", "begin", "tries", "gaps", "knocks", "time", "due"] : List Str).Nodup := sc_Beat_goes_on.nd
  ms_cons (z_asg (Gd.imp (gd_tup rfl (gds_cons (gd_name) (gds_cons (gd_name) (gds_cons (gd_name) (gds_nil))))) (by intro j h; simpa using h)) (pg_tup rfl (pgs_cons (g_nm 4 nd) (pgs_cons (g_nm 5 nd) (pgs_cons (g_nm 6 nd) (pgs_nil))))) (x_rd (x_fld 0 0 (W.cls 43) (W.noat 53) (pv 0)))) (ms_cons (z_set 7 nd (x_bin (mo_tm (x_rd (x_fld 0 3 (W.cls 43) (W.noat 50) (pv 0)))) (mo_tm (g_call (ok_gap_at W) hr (by decide) rfl (ma_cons (mo_name (pv 4)) (ma_cons (mo_name (pv 3)) (ma_nil))))))) (ms_cons (ms_if (y_cmp hr.toRoom (mo_name (pv 3)) (mo_name (pv 5))) (ms_cons (ms_ret (me_str)) (ms_nil)) (ms_nil)) (ms_cons (ms_if (y_cmp hr.toRoom (mo_name (pv 7)) (mo_tm (x_bin (mo_name (pv 2)) (mo_name (pv 6))))) (ms_cons (ms_ret (me_str)) (ms_nil)) (ms_nil)) (ms_cons (ms_if (y_cmp hr.toRoom (mo_tm (x_rd (x_fld 0 5 (W.cls 43) (W.noat 48) (pv 0)))) (mo_tm (x_ix (mo_tm (x_rd (x_fld 0 1 (W.cls 43) (W.noat 52) (pv 0)))) (mo_tm (me_int))))) (ms_cons (ms_ret (me_str)) (ms_nil)) (ms_nil)) (ms_cons (z_fset 0 5 (W.cls 43) (W.noat 48) (pv 0) (x_bin (mo_tm (x_rd (x_fld 0 5 (W.cls 43) (W.noat 48) (pv 0)))) (mo_tm (x_ix (mo_tm (x_rd (x_fld 0 1 (W.cls 43) (W.noat 52) (pv 0)))) (mo_tm (me_int)))))) (ms_cons (z_papp (x_fld 0 4 (W.cls 43) (W.noat 49) (pv 0)) (me_tup (ma_cons (mo_name (pv 7)) (ma_cons (mo_name (pv 1)) (ma_cons (mo_name (pv 2)) (ma_cons (mo_name (pv 3)) (ma_nil))))))) (ms_cons (ms_retV (pv 7)) (ms_nil))))))))
theorem ok_Beat_goes_on (W : Wd K mg) : KnM P w K mg base 4 "Beat" "goes_on" ["self", "number", "begin", "tries"] (spOf (K, w) 4 g_Beat_goes_on) := knm_mk W 14 43 57 rfl rfl rfl rfl pl_Beat_goes_on sc_Beat_goes_on (bd_Beat_goes_on W)
theorem sc_next_beat : FnScope ["standing", "askings", "beats", "k", "one"] ["standing", "askings"] (defScope st_next_beat) := ⟨rfl, rfl, rfl, by decide +kernel, rfl, by decide +kernel, by decide +kernel⟩
theorem pl_next_beat : Plain d_next_beat ["standing", "askings"] := ⟨rfl, rfl, fun _ _ _ _ _ _ us hl => match us, hl with | [_, _], _ => rfl⟩
theorem bd_next_beat (W : Wd K mg) (f : Addr) (cdv : Value) (A : Around) (outer : List Env) (s : Shared) (H : Hp) (E : XK) (hr : Rm 0 (cxN P w K mg base ["standing", "askings", "beats", "k", "one"] d_next_beat f cdv A outer s H E).A) : PSs (cxN P w K mg base ["standing", "askings", "beats", "k", "one"] d_next_beat f cdv A outer s H E) d_next_beat.body (tS (K, w) W0 (ios [true, true]) m_next_beat) :=
  have nd : (["standing", "askings", "beats", "k", "one"] : List Str).Nodup := sc_next_beat.nd
  ms_cons (z_set 2 nd (x_bin (mo_tm (x_lc [("k", 3)] rfl nd (blkOk_by (by first | rfl | kernel_rfl)) (z_rng2 (W.free 40) rfl (ma_cons (mo_tm (x_ix (mo_name (pv 0)) (mo_tm (me_int)))) (ma_cons (mo_tm (x_bf .len rfl (W.free 34) rfl rfl (ma_cons (mo_name (pv 1)) (ma_nil)))) (ma_nil)))) (Gd.imp (gd_name) (by intro j h; simpa using h)) (fun _ _ _ _ _ => g_nm 3 nd) (fun _ _ _ _ _ => pts_no) (fun _ _ _ _ _ => x_ix (mo_name (pv 1)) (mo_name (pv 3))))) (mo_tm (x_lc [("one", 4)] rfl nd (blkOk_by (by first | rfl | kernel_rfl)) (mi_any (mo_tm (x_ix (mo_name (pv 0)) (mo_tm (me_int))))) (Gd.imp (gd_name) (by intro j h; simpa using h)) (fun _ _ _ _ _ => g_nm 4 nd) (fun _ _ _ _ _ => pts_no) (fun _ _ _ _ _ => x_ix (mo_name (pv 4)) (mo_tm (me_int))))))) (ms_cons (ms_if (y_cmp hr.toRoom (mo_name (pv 2)) (mo_tm (me_lst (ma_nil)))) (ms_cons (ms_ret (me_non)) (ms_nil)) (ms_nil)) (ms_cons (ms_ret (x_bg .minl rfl (W.free 33) rfl rfl (ma_cons (mo_name (pv 2)) (ma_nil)))) (ms_nil)))
theorem ok_next_beat (W : Wd K mg) : KnG P w K mg base 1 "next_beat" ["standing", "askings"] (spOf (K, w) 2 g_next_beat) := kng_mk W 17 12 rfl rfl rfl pl_next_beat sc_next_beat (bd_next_beat W)
theorem sc_law_cell_at : FnScope ["_law_script", "_law_k"] ["_law_script", "_law_k"] (defScope st_law_cell_at) := ⟨rfl, rfl, rfl, by decide +kernel, rfl, by decide +kernel, by decide +kernel⟩
theorem pl_law_cell_at : Plain d_law_cell_at ["_law_script", "_law_k"] := ⟨rfl, rfl, fun _ _ _ _ _ _ us hl => match us, hl with | [_, _], _ => rfl⟩
theorem bd_law_cell_at (W : Wd K mg) (f : Addr) (cdv : Value) (A : Around) (outer : List Env) (s : Shared) (H : Hp) (E : XK) (hr : Rm 0 (cxN P w K mg base ["_law_script", "_law_k"] d_law_cell_at f cdv A outer s H E).A) : PSs (cxN P w K mg base ["_law_script", "_law_k"] d_law_cell_at f cdv A outer s H E) d_law_cell_at.body (tS (K, w) W0 (ios [true, true]) m_law_cell_at) :=
  have nd : (["_law_script", "_law_k"] : List Str).Nodup := sc_law_cell_at.nd
  ms_cons (ms_if (y_cmp hr.toRoom (mo_name (pv 1)) (mo_tm (x_bf .len rfl (W.free 34) rfl rfl (ma_cons (mo_name (pv 0)) (ma_nil))))) (ms_cons (ms_ret (x_ix (mo_name (pv 0)) (mo_name (pv 1)))) (ms_nil)) (ms_nil)) (ms_cons (ms_ret (me_int)) (ms_nil))
theorem ok_law_cell_at (W : Wd K mg) : KnG P w K mg base 1 "_law_cell_at" ["_law_script", "_law_k"] (spOf (K, w) 2 g_law_cell_at) := kng_mk W 20 15 rfl rfl rfl pl_law_cell_at sc_law_cell_at (bd_law_cell_at W)
theorem sc_law_next : FnScope ["_law_seed"] ["_law_seed"] (defScope st_law_next) := ⟨rfl, rfl, rfl, by decide +kernel, rfl, by decide +kernel, by decide +kernel⟩
theorem pl_law_next : Plain d_law_next ["_law_seed"] := ⟨rfl, rfl, fun _ _ _ _ _ _ us hl => match us, hl with | [_], _ => rfl⟩
theorem bd_law_next (W : Wd K mg) (f : Addr) (cdv : Value) (A : Around) (outer : List Env) (s : Shared) (H : Hp) (E : XK) (hr : Rm 0 (cxN P w K mg base ["_law_seed"] d_law_next f cdv A outer s H E).A) : PSs (cxN P w K mg base ["_law_seed"] d_law_next f cdv A outer s H E) d_law_next.body (tS (K, w) W0 (ios [false]) m_law_next) :=
  have nd : (["_law_seed"] : List Str).Nodup := sc_law_next.nd
  ms_cons (z_set 0 nd (x_bin (mo_tm (x_bin (mo_name (pv 0)) (mo_tm (me_int)))) (mo_tm (me_int)))) (ms_cons (ms_ret (x_bin (mo_tm (x_bin (mo_tm (x_bin (mo_tm (x_bin (mo_name (pv 0)) (mo_name (pv 0)))) (mo_tm (x_bin (mo_tm (me_int)) (mo_name (pv 0)))))) (mo_tm (me_int)))) (mo_tm (me_int)))) (ms_nil))
theorem ok_law_next (W : Wd K mg) : KnG P w K mg base 1 "_law_next" ["_law_seed"] (spOf (K, w) 1 g_law_next) := kng_mk W 21 16 rfl rfl rfl pl_law_next sc_law_next (bd_law_next W)
theorem sc_law_pen_of : FnScope ["_law_cell", "_law_left"] ["_law_cell"] (defScope st_law_pen_of) := ⟨rfl, rfl, rfl, by decide +kernel, rfl, by decide +kernel, by decide +kernel⟩
theorem pl_law_pen_of : Plain d_law_pen_of ["_law_cell"] := ⟨rfl, rfl, fun _ _ _ _ _ _ us hl => match us, hl with | [_], _ => rfl⟩
theorem bd_law_pen_of (W : Wd K mg) (f : Addr) (cdv : Value) (A : Around) (outer : List Env) (s : Shared) (H : Hp) (E : XK) (hr : Rm 0 (cxN P w K mg base ["_law_cell", "_law_left"] d_law_pen_of f cdv A outer s H E).A) : PSs (cxN P w K mg base ["_law_cell", "_law_left"] d_law_pen_of f cdv A outer s H E) d_law_pen_of.body (tS (K, w) W0 (ios [true]) m_law_pen_of) :=
  have nd : (["_law_cell", "_law_left"] : List Str).Nodup := sc_law_pen_of.nd
  ms_cons (z_set 1 nd (x_bf .max rfl (W.free 41) rfl rfl (ma_cons (mo_name (pv 0)) (ma_cons (mo_tm (x_bin (mo_tm (me_int)) (mo_name (pv 0)))) (ma_nil))))) (ms_cons (ms_ret (me_lst (ma_cons (mo_name (pv 1)) (ma_cons (mo_tm (x_bf .int rfl (W.free 31) rfl rfl (ma_cons (mo_tm (x_cmp hr.toRoom (mo_name (pv 1)) (mo_tm (x_bin (mo_tm (me_int)) (mo_tm (me_int)))))) (ma_nil)))) (ma_cons (mo_tm (x_bin (mo_name (pv 1)) (mo_tm (me_int)))) (ma_nil)))))) (ms_nil))
theorem ok_law_pen_of (W : Wd K mg) : KnG P w K mg base 1 "_law_pen_of" ["_law_cell"] (spOf (K, w) 1 g_law_pen_of) := kng_mk W 22 17 rfl rfl rfl pl_law_pen_of sc_law_pen_of (bd_law_pen_of W)
theorem sc_law_draw : FnScope ["_law_pen", "_law_many", "_law_found"] ["_law_pen", "_law_many"] (defScope st_law_draw) := ⟨rfl, rfl, rfl, by decide +kernel, rfl, by decide +kernel, by decide +kernel⟩
theorem pl_law_draw : Plain d_law_draw ["_law_pen", "_law_many"] := ⟨rfl, rfl, fun _ _ _ _ _ _ us hl => match us, hl with | [_, _], _ => rfl⟩
theorem bd_law_draw (W : Wd K mg) (f : Addr) (cdv : Value) (A : Around) (outer : List Env) (s : Shared) (H : Hp) (E : XK) (hr : Rm 1 (cxN P w K mg base ["_law_pen", "_law_many", "_law_found"] d_law_draw f cdv A outer s H E).A) : PSs (cxN P w K mg base ["_law_pen", "_law_many", "_law_found"] d_law_draw f cdv A outer s H E) d_law_draw.body (tS (K, w) W0 (ios [true, true]) m_law_draw) :=
  have nd : (["_law_pen", "_law_many", "_law_found"] : List Str).Nodup := sc_law_draw.nd
  ms_cons (ms_if (PW.pt (mt_and (y_cmp hr.toRoom (mo_tm (x_ix (mo_name (pv 0)) (mo_tm (me_int)))) (mo_tm (me_int))) (mt_and1 (y_cmp hr.toRoom (mo_tm (x_ix (mo_name (pv 0)) (mo_tm (me_int)))) (mo_tm (me_int)))))) (ms_cons (z_set 2 nd (x_bin (mo_tm (x_ix (mo_name (pv 0)) (mo_tm (me_int)))) (mo_name (pv 1)))) (ms_cons (z_ix 0 (pv 0) (mo_tm (me_int)) (x_bin (mo_tm (x_ix (mo_name (pv 0)) (mo_tm (me_int)))) (mo_name (pv 1)))) (ms_cons (ms_retV (pv 2)) (ms_nil)))) (ms_nil)) (ms_cons (z_ix 0 (pv 0) (mo_tm (me_int)) (g_call (ok_law_next W) hr (by decide) rfl (ma_cons (mo_tm (x_bin (mo_tm (g_call (ok_law_next W) hr (by decide) rfl (ma_cons (mo_tm (x_ix (mo_name (pv 0)) (mo_tm (me_int)))) (ma_nil)))) (mo_tm (me_int)))) (ma_nil)))) (ms_cons (ms_ret (x_bin (mo_tm (x_bin (mo_tm (x_ix (mo_name (pv 0)) (mo_tm (me_int)))) (mo_tm (me_int)))) (mo_name (pv 1)))) (ms_nil)))
theorem ok_law_draw (W : Wd K mg) : KnG P w K mg base 2 "_law_draw" ["_law_pen", "_law_many"] (spOf (K, w) 2 g_law_draw) := kng_mk W 23 18 rfl rfl rfl pl_law_draw sc_law_draw (bd_law_draw W)
theorem sc_law_purse : FnScope ["_law_pen", "_law_mode", "_law_wide", "_law_deep", "_law_price", "_law_part", "_law_cap"] ["_law_pen"] (defScope st_law_purse) := ⟨rfl, rfl, rfl, by decide +kernel, rfl, by decide +kernel, by decide +kernel⟩
theorem pl_law_purse : Plain d_law_purse ["_law_pen"] := ⟨rfl, rfl, fun _ _ _ _ _ _ us hl => match us, hl with | [_], _ => rfl⟩
theorem bd_law_purse (W : Wd K mg) (f : Addr) (cdv : Value) (A : Around) (outer : List Env) (s : Shared) (H : Hp) (E : XK) (hr : Rm 2 (cxN P w K mg base ["_law_pen", "_law_mode", "_law_wide", "_law_deep", "_law_price", "_law_part", "_law_cap"] d_law_purse f cdv A outer s H E).A) : PSs (cxN P w K mg base ["_law_pen", "_law_mode", "_law_wide", "_law_deep", "_law_price", "_law_part", "_law_cap"] d_law_purse f cdv A outer s H E) d_law_purse.body (tS (K, w) W0 (ios [true]) m_law_purse) :=
  have nd : (["_law_pen", "_law_mode", "_law_wide", "_law_deep", "_law_price", "_law_part", "_law_cap"] : List Str).Nodup := sc_law_purse.nd
  ms_cons (z_par3 1 2 3 rfl nd (ma_cons (mo_tm (g_call (ok_law_draw W) hr (by decide) rfl (ma_cons (mo_name (pv 0)) (ma_cons (mo_tm (me_int)) (ma_nil))))) (ma_cons (mo_tm (g_call (ok_law_draw W) hr (by decide) rfl (ma_cons (mo_name (pv 0)) (ma_cons (mo_tm (me_int)) (ma_nil))))) (ma_cons (mo_tm (g_call (ok_law_draw W) hr (by decide) rfl (ma_cons (mo_name (pv 0)) (ma_cons (mo_tm (me_int)) (ma_nil))))) (ma_nil))))) (ms_cons (z_set 4 nd (x_ix (mo_tm (me_lst (ma_cons (mo_tm (me_int)) (ma_cons (mo_tm (x_bin (mo_tm (me_int)) (mo_tm (g_call (ok_law_draw W) hr (by decide) rfl (ma_cons (mo_name (pv 0)) (ma_cons (mo_tm (me_int)) (ma_nil))))))) (ma_cons (mo_tm (x_bin (mo_tm (me_int)) (mo_tm (g_call (ok_law_draw W) hr (by decide) rfl (ma_cons (mo_name (pv 0)) (ma_cons (mo_tm (me_int)) (ma_nil))))))) (ma_nil)))))) (mo_name (pv 1)))) (ms_cons (z_set 5 nd (x_ix (mo_tm (me_lst (ma_cons (mo_tm (me_int)) (ma_cons (mo_tm (g_call (ok_law_draw W) hr (by decide) rfl (ma_cons (mo_name (pv 0)) (ma_cons (mo_tm (me_int)) (ma_nil))))) (ma_cons (mo_name (pv 4)) (ma_cons (mo_tm (g_call (ok_law_draw W) hr (by decide) rfl (ma_cons (mo_name (pv 0)) (ma_cons (mo_tm (me_int)) (ma_nil))))) (ma_nil))))))) (mo_name (pv 2)))) (ms_cons (z_set 6 nd (x_ix (mo_tm (me_lst (ma_cons (mo_tm (g_call (ok_law_draw W) hr (by decide) rfl (ma_cons (mo_name (pv 0)) (ma_cons (mo_tm (me_int)) (ma_nil))))) (ma_cons (mo_tm (g_call (ok_law_draw W) hr (by decide) rfl (ma_cons (mo_name (pv 0)) (ma_cons (mo_tm (me_int)) (ma_nil))))) (ma_cons (mo_tm (me_int)) (ma_cons (mo_name (pv 4)) (ma_nil))))))) (mo_name (pv 3)))) (ms_cons (ms_ret (me_tup (ma_cons (mo_name (pv 5)) (ma_cons (mo_name (pv 4)) (ma_cons (mo_name (pv 6)) (ma_cons (mo_tm (x_ix (mo_tm (me_lst (ma_cons (mo_tm (me_int)) (ma_cons (mo_name (pv 6)) (ma_cons (mo_tm (g_call (ok_law_draw W) hr (by decide) rfl (ma_cons (mo_name (pv 0)) (ma_cons (mo_tm (x_bin (mo_name (pv 6)) (mo_tm (me_int)))) (ma_nil))))) (ma_nil)))))) (mo_tm (g_call (ok_law_draw W) hr (by decide) rfl (ma_cons (mo_name (pv 0)) (ma_cons (mo_tm (me_int)) (ma_nil))))))) (ma_nil))))))) (ms_nil)))))
theorem ok_law_purse (W : Wd K mg) : KnG P w K mg base 3 "_law_purse" ["_law_pen"] (spOf (K, w) 1 g_law_purse) := kng_mk W 25 20 rfl rfl rfl pl_law_purse sc_law_purse (bd_law_purse W)
theorem sc_law_gate : FnScope ["_law_pen", "_law_mode", "_law_rest", "_law_fails", "_law_most"] ["_law_pen"] (defScope st_law_gate) := ⟨rfl, rfl, rfl, by decide +kernel, rfl, by decide +kernel, by decide +kernel⟩
theorem pl_law_gate : Plain d_law_gate ["_law_pen"] := ⟨rfl, rfl, fun _ _ _ _ _ _ us hl => match us, hl with | [_], _ => rfl⟩
theorem bd_law_gate (W : Wd K mg) (f : Addr) (cdv : Value) (A : Around) (outer : List Env) (s : Shared) (H : Hp) (E : XK) (hr : Rm 2 (cxN P w K mg base ["_law_pen", "_law_mode", "_law_rest", "_law_fails", "_law_most"] d_law_gate f cdv A outer s H E).A) : PSs (cxN P w K mg base ["_law_pen", "_law_mode", "_law_rest", "_law_fails", "_law_most"] d_law_gate f cdv A outer s H E) d_law_gate.body (tS (K, w) W0 (ios [true]) m_law_gate) :=
  have nd : (["_law_pen", "_law_mode", "_law_rest", "_law_fails", "_law_most"] : List Str).Nodup := sc_law_gate.nd
  ms_cons (z_par2 1 2 rfl nd (ma_cons (mo_tm (g_call (ok_law_draw W) hr (by decide) rfl (ma_cons (mo_name (pv 0)) (ma_cons (mo_tm (me_int)) (ma_nil))))) (ma_cons (mo_tm (x_bin (mo_tm (me_int)) (mo_tm (g_call (ok_law_draw W) hr (by decide) rfl (ma_cons (mo_name (pv 0)) (ma_cons (mo_tm (me_int)) (ma_nil))))))) (ma_nil)))) (ms_cons (z_set 3 nd (x_ix (mo_tm (me_lst (ma_cons (mo_tm (x_bin (mo_tm (me_int)) (mo_tm (g_call (ok_law_draw W) hr (by decide) rfl (ma_cons (mo_name (pv 0)) (ma_cons (mo_tm (me_int)) (ma_nil))))))) (ma_cons (mo_tm (me_int)) (ma_cons (mo_tm (me_int)) (ma_nil)))))) (mo_name (pv 1)))) (ms_cons (z_set 4 nd (x_bin (mo_name (pv 2)) (mo_tm (x_ix (mo_tm (me_lst (ma_cons (mo_tm (me_int)) (ma_cons (mo_tm (g_call (ok_law_draw W) hr (by decide) rfl (ma_cons (mo_name (pv 0)) (ma_cons (mo_tm (me_int)) (ma_nil))))) (ma_cons (mo_tm (x_bin (mo_tm (me_int)) (mo_name (pv 2)))) (ma_nil)))))) (mo_tm (g_call (ok_law_draw W) hr (by decide) rfl (ma_cons (mo_name (pv 0)) (ma_cons (mo_tm (me_int)) (ma_nil))))))))) (ms_cons (ms_ret (me_tup (ma_cons (mo_name (pv 3)) (ma_cons (mo_name (pv 2)) (ma_cons (mo_tm (x_bin (mo_tm (me_int)) (mo_tm (g_call (ok_law_draw W) hr (by decide) rfl (ma_cons (mo_name (pv 0)) (ma_cons (mo_tm (me_int)) (ma_nil))))))) (ma_cons (mo_name (pv 4)) (ma_cons (mo_tm (x_bin (mo_tm (me_int)) (mo_tm (g_call (ok_law_draw W) hr (by decide) rfl (ma_cons (mo_name (pv 0)) (ma_cons (mo_tm (me_int)) (ma_nil))))))) (ma_nil)))))))) (ms_nil))))
theorem ok_law_gate (W : Wd K mg) : KnG P w K mg base 3 "_law_gate" ["_law_pen"] (spOf (K, w) 1 g_law_gate) := kng_mk W 26 21 rfl rfl rfl pl_law_gate sc_law_gate (bd_law_gate W)
theorem sc_law_caller : FnScope ["_law_pen", "_law_mode", "_law_wide", "_law_gaps", "_law_knocks", "_law_time"] ["_law_pen"] (defScope st_law_caller) := ⟨rfl, rfl, rfl, by decide +kernel, rfl, by decide +kernel, by decide +kernel⟩
theorem pl_law_caller : Plain d_law_caller ["_law_pen"] := ⟨rfl, rfl, fun _ _ _ _ _ _ us hl => match us, hl with | [_], _ => rfl⟩
theorem bd_law_caller (W : Wd K mg) (f : Addr) (cdv : Value) (A : Around) (outer : List Env) (s : Shared) (H : Hp) (E : XK) (hr : Rm 3 (cxN P w K mg base ["_law_pen", "_law_mode", "_law_wide", "_law_gaps", "_law_knocks", "_law_time"] d_law_caller f cdv A outer s H E).A) : PSs (cxN P w K mg base ["_law_pen", "_law_mode", "_law_wide", "_law_gaps", "_law_knocks", "_law_time"] d_law_caller f cdv A outer s H E) d_law_caller.body (tS (K, w) W0 (ios [true]) m_law_caller) :=
  have nd : (["_law_pen", "_law_mode", "_law_wide", "_law_gaps", "_law_knocks", "_law_time"] : List Str).Nodup := sc_law_caller.nd
  ms_cons (z_par2 1 2 rfl nd (ma_cons (mo_tm (g_call (ok_law_draw W) hr (by decide) rfl (ma_cons (mo_name (pv 0)) (ma_cons (mo_tm (me_int)) (ma_nil))))) (ma_cons (mo_tm (g_call (ok_law_draw W) hr (by decide) rfl (ma_cons (mo_name (pv 0)) (ma_cons (mo_tm (me_int)) (ma_nil))))) (ma_nil)))) (ms_cons (z_set 3 nd (me_tup (ma_cons (mo_tm (x_bin (mo_tm (me_int)) (mo_tm (g_call (ok_law_draw W) hr (by decide) rfl (ma_cons (mo_name (pv 0)) (ma_cons (mo_tm (me_int)) (ma_nil))))))) (ma_cons (mo_tm (x_bin (mo_tm (me_int)) (mo_tm (g_call (ok_law_draw W) hr (by decide) rfl (ma_cons (mo_name (pv 0)) (ma_cons (mo_tm (me_int)) (ma_nil))))))) (ma_cons (mo_tm (g_call (ok_law_draw W) hr (by decide) rfl (ma_cons (mo_name (pv 0)) (ma_cons (mo_tm (me_int)) (ma_nil))))) (ma_cons (mo_tm (x_bin (mo_tm (me_int)) (mo_tm (g_call (ok_law_draw W) hr (by decide) rfl (ma_cons (mo_name (pv 0)) (ma_cons (mo_tm (me_int)) (ma_nil))))))) (ma_nil))))))) (ms_cons (z_set 4 nd (x_ix (mo_tm (me_lst (ma_cons (mo_tm (me_int)) (ma_cons (mo_tm (x_bin (mo_tm (me_int)) (mo_tm (g_call (ok_law_draw W) hr (by decide) rfl (ma_cons (mo_name (pv 0)) (ma_cons (mo_tm (me_int)) (ma_nil))))))) (ma_cons (mo_tm (x_bin (mo_tm (me_int)) (mo_tm (g_call (ok_law_draw W) hr (by decide) rfl (ma_cons (mo_name (pv 0)) (ma_cons (mo_tm (me_int)) (ma_nil))))))) (ma_cons (mo_tm (me_int)) (ma_cons (mo_tm (me_int)) (ma_nil)))))))) (mo_name (pv 1)))) (ms_cons (z_set 5 nd (x_ix (mo_tm (me_lst (ma_cons (mo_tm (me_int)) (ma_cons (mo_tm (g_call (ok_law_draw W) hr (by decide) rfl (ma_cons (mo_name (pv 0)) (ma_cons (mo_tm (me_int)) (ma_nil))))) (ma_cons (mo_tm (g_call (ok_law_draw W) hr (by decide) rfl (ma_cons (mo_name (pv 0)) (ma_cons (mo_tm (me_int)) (ma_nil))))) (ma_cons (mo_tm (x_bin (mo_tm (me_int)) (mo_tm (g_call (ok_law_draw W) hr (by decide) rfl (ma_cons (mo_name (pv 0)) (ma_cons (mo_tm (me_int)) (ma_nil))))))) (ma_nil))))))) (mo_name (pv 2)))) (ms_cons (ms_ret (me_tup (ma_cons (mo_tm (me_tup (ma_cons (mo_name (pv 3)) (ma_cons (mo_name (pv 4)) (ma_cons (mo_name (pv 5)) (ma_nil)))))) (ma_cons (mo_tm (g_call (ok_law_purse W) hr (by decide) rfl (ma_cons (mo_name (pv 0)) (ma_nil)))) (ma_cons (mo_tm (g_call (ok_law_gate W) hr (by decide) rfl (ma_cons (mo_name (pv 0)) (ma_nil)))) (ma_nil)))))) (ms_nil)))))
theorem ok_law_caller (W : Wd K mg) : KnG P w K mg base 4 "_law_caller" ["_law_pen"] (spOf (K, w) 1 g_law_caller) := kng_mk W 27 22 rfl rfl rfl pl_law_caller sc_law_caller (bd_law_caller W)
theorem sc_law_askings : FnScope ["_law_pen", "_law_mode", "_law_beat", "_law_step", "_law_found", "_law_turn"] ["_law_pen"] (defScope st_law_askings) := ⟨rfl, rfl, rfl, by decide +kernel, rfl, by decide +kernel, by decide +kernel⟩
theorem pl_law_askings : Plain d_law_askings ["_law_pen"] := ⟨rfl, rfl, fun _ _ _ _ _ _ us hl => match us, hl with | [_], _ => rfl⟩
theorem bd_law_askings (W : Wd K mg) (f : Addr) (cdv : Value) (A : Around) (outer : List Env) (s : Shared) (H : Hp) (E : XK) (hr : Rm 2 (cxN P w K mg base ["_law_pen", "_law_mode", "_law_beat", "_law_step", "_law_found", "_law_turn"] d_law_askings f cdv A outer s H E).A) : PSs (cxN P w K mg base ["_law_pen", "_law_mode", "_law_beat", "_law_step", "_law_found", "_law_turn"] d_law_askings f cdv A outer s H E) d_law_askings.body (tS (K, w) W0 (ios [true]) m_law_askings) :=
  have nd : (["_law_pen", "_law_mode", "_law_beat", "_law_step", "_law_found", "_law_turn"] : List Str).Nodup := sc_law_askings.nd
  ms_cons (z_par2 1 2 rfl nd (ma_cons (mo_tm (g_call (ok_law_draw W) hr (by decide) rfl (ma_cons (mo_name (pv 0)) (ma_cons (mo_tm (me_int)) (ma_nil))))) (ma_cons (mo_tm (x_ix (mo_tm (me_lst (ma_cons (mo_tm (me_int)) (ma_cons (mo_tm (g_call (ok_law_draw W) hr (by decide) rfl (ma_cons (mo_name (pv 0)) (ma_cons (mo_tm (me_int)) (ma_nil))))) (ma_cons (mo_tm (g_call (ok_law_draw W) hr (by decide) rfl (ma_cons (mo_name (pv 0)) (ma_cons (mo_tm (me_int)) (ma_nil))))) (ma_nil)))))) (mo_tm (g_call (ok_law_draw W) hr (by decide) rfl (ma_cons (mo_name (pv 0)) (ma_cons (mo_tm (me_int)) (ma_nil))))))) (ma_nil)))) (ms_cons (z_set 3 nd (x_ix (mo_tm (me_lst (ma_cons (mo_tm (me_int)) (ma_cons (mo_tm (me_int)) (ma_cons (mo_tm (me_int)) (ma_cons (mo_tm (me_int)) (ma_nil))))))) (mo_tm (g_call (ok_law_draw W) hr (by decide) rfl (ma_cons (mo_name (pv 0)) (ma_cons (mo_tm (me_int)) (ma_nil))))))) (ms_cons (z_set 4 nd (me_lst (ma_nil))) (ms_cons (z_for (ts := [5]) .never rfl (z_rng1 (W.free 40) rfl (ma_cons (mo_tm (x_ix (mo_tm (me_lst (ma_cons (mo_tm (me_int)) (ma_cons (mo_tm (x_bin (mo_tm (me_int)) (mo_tm (g_call (ok_law_draw W) hr (by decide) rfl (ma_cons (mo_name (pv 0)) (ma_cons (mo_tm (me_int)) (ma_nil))))))) (ma_cons (mo_tm (x_bin (mo_tm (me_int)) (mo_tm (g_call (ok_law_draw W) hr (by decide) rfl (ma_cons (mo_name (pv 0)) (ma_cons (mo_tm (me_int)) (ma_nil))))))) (ma_cons (mo_tm (me_int)) (ma_nil))))))) (mo_name (pv 1)))) (ma_nil))) (Gd.imp (gd_name) (by intro j h; simpa using h)) (g_nm 5 nd) (ms_cons (z_app 4 (pv 4) (x_bf .min rfl (W.free 33) rfl rfl (ma_cons (mo_tm (me_int)) (ma_cons (mo_name (pv 2)) (ma_nil))))) (ms_cons (z_set 2 nd (x_bin (mo_name (pv 2)) (mo_tm (g_call (ok_law_draw W) hr (by decide) rfl (ma_cons (mo_name (pv 0)) (ma_cons (mo_name (pv 3)) (ma_nil))))))) (ms_nil)))) (ms_cons (ms_ret (x_bf .tuple rfl (W.free 36) rfl rfl (ma_cons (mo_name (pv 4)) (ma_nil)))) (ms_nil)))))
theorem ok_law_askings (W : Wd K mg) : KnG P w K mg base 3 "_law_askings" ["_law_pen"] (spOf (K, w) 1 g_law_askings) := kng_mk W 28 23 rfl rfl rfl pl_law_askings sc_law_askings (bd_law_askings W)
theorem sc_law_outage : FnScope ["_law_pen", "_law_at", "_law_found", "_law_turn", "_law_last"] ["_law_pen", "_law_at"] (defScope st_law_outage) := ⟨rfl, rfl, rfl, by decide +kernel, rfl, by decide +kernel, by decide +kernel⟩
theorem pl_law_outage : Plain d_law_outage ["_law_pen", "_law_at"] := ⟨rfl, rfl, fun _ _ _ _ _ _ us hl => match us, hl with | [_, _], _ => rfl⟩
theorem bd_law_outage (W : Wd K mg) (f : Addr) (cdv : Value) (A : Around) (outer : List Env) (s : Shared) (H : Hp) (E : XK) (hr : Rm 2 (cxN P w K mg base ["_law_pen", "_law_at", "_law_found", "_law_turn", "_law_last"] d_law_outage f cdv A outer s H E).A) : PSs (cxN P w K mg base ["_law_pen", "_law_at", "_law_found", "_law_turn", "_law_last"] d_law_outage f cdv A outer s H E) d_law_outage.body (tS (K, w) W0 (ios [true, false]) m_law_outage) :=
  have nd : (["_law_pen", "_law_at", "_law_found", "_law_turn", "_law_last"] : List Str).Nodup := sc_law_outage.nd
  ms_cons (z_set 2 nd (me_lst (ma_nil))) (ms_cons (z_set 1 nd (x_bf .max rfl (W.free 41) rfl rfl (ma_cons (mo_tm (me_int)) (ma_cons (mo_tm (x_bin (mo_name (pv 1)) (mo_tm (g_call (ok_law_draw W) hr (by decide) rfl (ma_cons (mo_name (pv 0)) (ma_cons (mo_tm (me_int)) (ma_nil))))))) (ma_nil))))) (ms_cons (z_for (ts := [3]) .never rfl (z_rng1 (W.free 40) rfl (ma_cons (mo_tm (g_call (ok_law_draw W) hr (by decide) rfl (ma_cons (mo_name (pv 0)) (ma_cons (mo_tm (me_int)) (ma_nil))))) (ma_nil))) (Gd.imp (gd_name) (by intro j h; simpa using h)) (g_nm 3 nd) (ms_cons (z_set 4 nd (x_bin (mo_tm (x_bin (mo_name (pv 1)) (mo_tm (me_int)))) (mo_tm (x_ix (mo_tm (me_lst (ma_cons (mo_tm (g_call (ok_law_draw W) hr (by decide) rfl (ma_cons (mo_name (pv 0)) (ma_cons (mo_tm (me_int)) (ma_nil))))) (ma_cons (mo_tm (g_call (ok_law_draw W) hr (by decide) rfl (ma_cons (mo_name (pv 0)) (ma_cons (mo_tm (me_int)) (ma_nil))))) (ma_cons (mo_tm (g_call (ok_law_draw W) hr (by decide) rfl (ma_cons (mo_name (pv 0)) (ma_cons (mo_tm (me_int)) (ma_nil))))) (ma_nil)))))) (mo_tm (g_call (ok_law_draw W) hr (by decide) rfl (ma_cons (mo_name (pv 0)) (ma_cons (mo_tm (me_int)) (ma_nil))))))))) (ms_cons (z_app 2 (pv 2) (me_tup (ma_cons (mo_name (pv 1)) (ma_cons (mo_name (pv 4)) (ma_nil))))) (ms_cons (z_set 1 nd (x_bin (mo_tm (x_bin (mo_name (pv 4)) (mo_tm (me_int)))) (mo_tm (g_call (ok_law_draw W) hr (by decide) rfl (ma_cons (mo_name (pv 0)) (ma_cons (mo_tm (me_int)) (ma_nil))))))) (ms_nil))))) (ms_cons (ms_ret (x_bf .tuple rfl (W.free 36) rfl rfl (ma_cons (mo_name (pv 2)) (ma_nil)))) (ms_nil))))
theorem ok_law_outage (W : Wd K mg) : KnG P w K mg base 3 "_law_outage" ["_law_pen", "_law_at"] (spOf (K, w) 2 g_law_outage) := kng_mk W 29 24 rfl rfl rfl pl_law_outage sc_law_outage (bd_law_outage W)
theorem sc_law_played : FnScope ["_law_pen", "_law_caller_here", "_law_askings_here", "_law_at", "_law_story"] ["_law_pen"] (defScope st_law_played) := ⟨rfl, rfl, rfl, by decide +kernel, rfl, by decide +kernel, by decide +kernel⟩
theorem pl_law_played : Plain d_law_played ["_law_pen"] := ⟨rfl, rfl, fun _ _ _ _ _ _ us hl => match us, hl with | [_], _ => rfl⟩
theorem bd_law_played (W : Wd K mg) (f : Addr) (cdv : Value) (A : Around) (outer : List Env) (s : Shared) (H : Hp) (E : XK) (hr : Rm 4 (cxN P w K mg base ["_law_pen", "_law_caller_here", "_law_askings_here", "_law_at", "_law_story"] d_law_played f cdv A outer s H E).A) : PSs (cxN P w K mg base ["_law_pen", "_law_caller_here", "_law_askings_here", "_law_at", "_law_story"] d_law_played f cdv A outer s H E) d_law_played.body (tS (K, w) W0 (ios [true]) m_law_played) :=
  have nd : (["_law_pen", "_law_caller_here", "_law_askings_here", "_law_at", "_law_story"] : List Str).Nodup := sc_law_played.nd
  ms_cons (z_par2 1 2 rfl nd (ma_cons (mo_tm (g_call (ok_law_caller W) hr (by decide) rfl (ma_cons (mo_name (pv 0)) (ma_nil)))) (ma_cons (mo_tm (g_call (ok_law_askings W) hr (by decide) rfl (ma_cons (mo_name (pv 0)) (ma_nil)))) (ma_nil)))) (ms_cons (z_set 3 nd (x_ix (mo_tm (x_bin (mo_name (pv 2)) (mo_tm (me_tup (ma_cons (mo_tm (me_int)) (ma_nil)))))) (mo_tm (me_int)))) (ms_cons (z_set 4 nd (x_ix (mo_tm (me_lst (ma_cons (mo_tm (g_call (ok_law_outage W) hr (by decide) rfl (ma_cons (mo_name (pv 0)) (ma_cons (mo_name (pv 3)) (ma_nil))))) (ma_cons (mo_tm (me_tup (ma_cons (mo_tm (me_tup (ma_cons (mo_name (pv 3)) (ma_cons (mo_tm (x_bin (mo_name (pv 3)) (mo_tm (me_int)))) (ma_nil))))) (ma_nil)))) (ma_cons (mo_tm (me_tup (ma_nil))) (ma_cons (mo_tm (g_call (ok_law_outage W) hr (by decide) rfl (ma_cons (mo_name (pv 0)) (ma_cons (mo_name (pv 3)) (ma_nil))))) (ma_nil))))))) (mo_tm (g_call (ok_law_draw W) hr (by decide) rfl (ma_cons (mo_name (pv 0)) (ma_cons (mo_tm (me_int)) (ma_nil))))))) (ms_cons (ms_ret (me_tup (ma_cons (mo_name (pv 1)) (ma_cons (mo_name (pv 2)) (ma_cons (mo_name (pv 4)) (ma_nil)))))) (ms_nil))))
theorem ok_law_played (W : Wd K mg) : KnG P w K mg base 5 "_law_played" ["_law_pen"] (spOf (K, w) 1 g_law_played) := kng_mk W 30 25 rfl rfl rfl pl_law_played sc_law_played (bd_law_played W)
theorem sc_law_silent : FnScope ["_law_story", "_law_beat", "_law_first", "_law_last"] ["_law_story", "_law_beat"] (defScope st_law_silent) := ⟨rfl, rfl, rfl, by decide +kernel, rfl, by decide +kernel, by decide +kernel⟩
theorem pl_law_silent : Plain d_law_silent ["_law_story", "_law_beat"] := ⟨rfl, rfl, fun _ _ _ _ _ _ us hl => match us, hl with | [_, _], _ => rfl⟩
theorem bd_law_silent (W : Wd K mg) (f : Addr) (cdv : Value) (A : Around) (outer : List Env) (s : Shared) (H : Hp) (E : XK) (hr : Rm 0 (cxN P w K mg base ["_law_story", "_law_beat", "_law_first", "_law_last"] d_law_silent f cdv A outer s H E).A) : PSs (cxN P w K mg base ["_law_story", "_law_beat", "_law_first", "_law_last"] d_law_silent f cdv A outer s H E) d_law_silent.body (tS (K, w) W0 (ios [true, true]) m_law_silent) :=
  have nd : (["_law_story", "_law_beat", "_law_first", "_law_last"] : List Str).Nodup := sc_law_silent.nd
  ms_cons (ms_ret (x_bg .any rfl (W.free 35) rfl rfl (ma_cons (mo_tm (x_lc [("_law_first", 2), ("_law_last", 3)] rfl nd (blkOk_by (by first | rfl | kernel_rfl)) (mi_any (mo_tm (me_name (pv 0)))) (Gd.imp (gd_tup rfl (gds_cons (gd_name) (gds_cons (gd_name) (gds_nil)))) (by intro j h; simpa using h)) (fun _ _ _ _ _ => pg_tup rfl (pgs_cons (g_nm 2 nd) (pgs_cons (g_nm 3 nd) (pgs_nil)))) (fun _ _ _ _ _ => pts_no) (fun _ _ _ _ _ => x_chain (mo_name (pv 2)) (ch_cons hr.toRoom (mo_name (pv 1)) (ch_one hr.toRoom (mo_name (pv 3))))))) (ma_nil)))) (ms_nil)
theorem ok_law_silent (W : Wd K mg) : KnG P w K mg base 1 "_law_silent" ["_law_story", "_law_beat"] (spOf (K, w) 2 g_law_silent) := kng_mk W 31 26 rfl rfl rfl pl_law_silent sc_law_silent (bd_law_silent W)
theorem sc_law_stands : FnScope ["_law_caller_here", "_law_standing", "_law_beat", "_law_begun", "_law_due", "_law_number", "_law_begin", "_law_tries", "_law_one"] ["_law_caller_here", "_law_standing", "_law_beat", "_law_begun"] (defScope st_law_stands) := ⟨rfl, rfl, rfl, by decide +kernel, rfl, by decide +kernel, by decide +kernel⟩
theorem pl_law_stands : Plain d_law_stands ["_law_caller_here", "_law_standing", "_law_beat", "_law_begun"] := ⟨rfl, rfl, fun _ _ _ _ _ _ us hl => match us, hl with | [_, _, _, _], _ => rfl⟩
theorem bd_law_stands (W : Wd K mg) (f : Addr) (cdv : Value) (A : Around) (outer : List Env) (s : Shared) (H : Hp) (E : XK) (hr : Rm 3 (cxN P w K mg base ["_law_caller_here", "_law_standing", "_law_beat", "_law_begun", "_law_due", "_law_number", "_law_begin", "_law_tries", "_law_one"] d_law_stands f cdv A outer s H E).A) : PSs (cxN P w K mg base ["_law_caller_here", "_law_standing", "_law_beat", "_law_begun", "_law_due", "_law_number", "_law_begin", "_law_tries", "_law_one"] d_law_stands f cdv A outer s H E) d_law_stands.body (tS (K, w) W0 (ios [true, true, true, true]) m_law_stands) :=
  have nd : (["_law_caller_here", "_law_standing", "_law_beat", "_law_begun", "_law_due", "_law_number", "_law_begin", "_law_tries", "_law_one"] : List Str).Nodup := sc_law_stands.nd
  ms_cons (ms_if (PW.pt (mt_or (mt_not (y_val (x_isi .tuple rfl (W.free 30) (W.free 36) rfl rfl (mo_name (pv 1))))) (mt_or (y_cmp hr.toRoom (mo_tm (x_bf .len rfl (W.free 34) rfl rfl (ma_cons (mo_name (pv 1)) (ma_nil)))) (mo_tm (me_int))) (mt_or (y_cmp hr.toRoom (mo_tm (x_ix (mo_name (pv 1)) (mo_tm (me_int)))) (mo_name (pv 2))) (mt_or1 (y_cmp hr.toRoom (mo_tm (x_ix (mo_name (pv 1)) (mo_tm (me_int)))) (mo_name (pv 3)))))))) (ms_cons (ms_ret (me_bl)) (ms_nil)) (ms_nil)) (ms_cons (ms_if (PW.pt (mt_or (y_cmp hr.toRoom (mo_tm (x_bf .list rfl (W.free 38) rfl rfl (ma_cons (mo_tm (x_ix (mo_name (pv 1)) (mo_tm (me_int)))) (ma_nil)))) (mo_tm (x_sr hr (W.free 39) rfl (W.free 42) rfl rfl (ma_cons (mo_tm (x_ix (mo_name (pv 1)) (mo_tm (me_int)))) (ma_nil))))) (mt_or1 (mt_not (y_chain (mo_tm (me_int)) (ch_cons hr.toRoom (mo_tm (x_ix (mo_name (pv 1)) (mo_tm (me_int)))) (ch_one hr.toRoom (mo_tm (x_ix (mo_tm (x_ix (mo_name (pv 0)) (mo_tm (me_int)))) (mo_tm (me_int))))))))))) (ms_cons (ms_ret (me_bl)) (ms_nil)) (ms_nil)) (ms_cons (ms_if (y_cmp hr.toRoom (mo_tm (g_call (ok_standing_good W) hr (by decide) rfl (ma_cons (mo_tm (x_ix (mo_name (pv 0)) (mo_tm (me_int)))) (ma_cons (mo_tm (x_ix (mo_name (pv 1)) (mo_tm (me_int)))) (ma_nil))))) (mo_tm (me_bl))) (ms_cons (ms_ret (me_bl)) (ms_nil)) (ms_nil)) (ms_cons (z_for (ts := [4, 5, 6, 7]) .never rfl (mi_any (mo_tm (x_ix (mo_name (pv 1)) (mo_tm (me_int))))) (Gd.imp (gd_tup rfl (gds_cons (gd_name) (gds_cons (gd_name) (gds_cons (gd_name) (gds_cons (gd_name) (gds_nil)))))) (by intro j h; simpa using h)) (pg_tup rfl (pgs_cons (g_nm 4 nd) (pgs_cons (g_nm 5 nd) (pgs_cons (g_nm 6 nd) (pgs_cons (g_nm 7 nd) (pgs_nil)))))) (ms_cons (ms_if (PW.pt (mt_or (mt_not (y_chain (mo_name (pv 2)) (ch_cons hr.toRoom (mo_name (pv 4)) (ch_one hr.toRoom (mo_tm (x_bin (mo_name (pv 6)) (mo_tm (x_ix (mo_tm (x_ix (mo_name (pv 0)) (mo_tm (me_int)))) (mo_tm (me_int)))))))))) (mt_or (mt_not (y_chain (mo_tm (me_int)) (ch_cons hr.toRoom (mo_name (pv 5)) (ch_one hr.toRoom (mo_name (pv 3)))))) (mt_or1 (mt_not (y_chain (mo_tm (me_int)) (ch_cons hr.toRoom (mo_name (pv 7)) (ch_one hr.toRoom (mo_tm (x_ix (mo_tm (x_ix (mo_name (pv 0)) (mo_tm (me_int)))) (mo_tm (me_int)))))))))))) (ms_cons (ms_ret (me_bl)) (ms_nil)) (ms_nil)) (ms_nil))) (ms_cons (ms_ret (x_cmp hr.toRoom (mo_tm (x_ls (W.free 34) rfl (W.free 42) rfl rfl (ma_cons (mo_tm (x_lc [("_law_one", 8)] rfl nd (blkOk_by (by first | rfl | kernel_rfl)) (mi_any (mo_tm (x_ix (mo_name (pv 1)) (mo_tm (me_int))))) (Gd.imp (gd_name) (by intro j h; simpa using h)) (fun _ _ _ _ _ => g_nm 8 nd) (fun _ _ _ _ _ => pts_no) (fun _ _ _ _ _ => x_ix (mo_name (pv 8)) (mo_tm (me_int))))) (ma_nil)))) (mo_tm (x_bf .len rfl (W.free 34) rfl rfl (ma_cons (mo_tm (x_ix (mo_name (pv 1)) (mo_tm (me_int)))) (ma_nil)))))) (ms_nil)))))
theorem ok_law_stands (W : Wd K mg) : KnG P w K mg base 4 "_law_stands" ["_law_caller_here", "_law_standing", "_law_beat", "_law_begun"] (spOf (K, w) 4 g_law_stands) := kng_mk W 32 27 rfl rfl rfl pl_law_stands sc_law_stands (bd_law_stands W)
theorem sc_Beat_tried : FnScope ["self", "number", "begin", "tries", "found", "word", "what"] ["self", "number", "begin", "tries"] (defScope st_Beat_tried) := ⟨rfl, rfl, rfl, by decide +kernel, rfl, by decide +kernel, by decide +kernel⟩
theorem pl_Beat_tried : Plain d_Beat_tried ["self", "number", "begin", "tries"] := ⟨rfl, rfl, fun _ _ _ _ _ _ us hl => match us, hl with | [_, _, _, _], _ => rfl⟩
theorem bd_Beat_tried (W : Wd K mg) (f : Addr) (cdv : Value) (A : Around) (outer : List Env) (s : Shared) (H : Hp) (E : XK) (hr : Rm 4 (cxN P w K mg base ["self", "number", "begin", "tries", "found", "word", "what"] d_Beat_tried f cdv A outer s H E).A) : PSs (cxN P w K mg base ["self", "number", "begin", "tries", "found", "word", "what"] d_Beat_tried f cdv A outer s H E) d_Beat_tried.body (tS (K, w) W0 (ios [true, true, true, true]) m_Beat_tried) :=
  have nd : (["self", "number", "begin", "tries", "found", "word", "what"] : List Str).Nodup := sc_Beat_tried.nd
  ms_cons (z_set 4 nd (g_call (ok_lets W) hr (by decide) rfl (ma_cons (mo_tm (x_rd (x_fld 0 2 (W.cls 43) (W.noat 51) (pv 0)))) (ma_cons (mo_tm (x_rd (x_fld 0 6 (W.cls 43) (W.noat 47) (pv 0)))) (ma_cons (mo_tm (x_rd (x_fld 0 3 (W.cls 43) (W.noat 50) (pv 0)))) (ma_nil)))))) (ms_cons (z_fset 0 6 (W.cls 43) (W.noat 47) (pv 0) (x_ix (mo_name (pv 4)) (mo_tm (me_int)))) (ms_cons (z_set 5 nd (me_str)) (ms_cons (ms_if (y_val (x_ix (mo_name (pv 4)) (mo_tm (me_int)))) (ms_cons (z_set 5 nd (me_ife (y_val (x_rd (x_fld 0 8 (W.cls 43) (W.noat 45) (pv 0)))) (me_str) (me_str))) (ms_cons (z_fset 0 6 (W.cls 43) (W.noat 47) (pv 0) (g_call (ok_heard W) hr (by decide) rfl (ma_cons (mo_tm (x_rd (x_fld 0 2 (W.cls 43) (W.noat 51) (pv 0)))) (ma_cons (mo_tm (x_rd (x_fld 0 6 (W.cls 43) (W.noat 47) (pv 0)))) (ma_cons (mo_tm (x_rd (x_fld 0 3 (W.cls 43) (W.noat 50) (pv 0)))) (ma_cons (mo_tm (x_rd (x_fld 0 8 (W.cls 43) (W.noat 45) (pv 0)))) (ma_nil))))))) (ms_nil))) (ms_nil)) (ms_cons (z_set 6 nd (me_non)) (ms_cons (ms_if (y_cmp hr.toRoom (mo_name (pv 5)) (mo_tm (me_str))) (ms_cons (z_set 6 nd (g_meth (ok_Beat_goes_on W) hr (by decide) (mo_name (pv 0)) (ma_cons (mo_name (pv 1)) (ma_cons (mo_name (pv 2)) (ma_cons (mo_tm (x_bin (mo_name (pv 3)) (mo_tm (me_int)))) (ma_nil)))))) (ms_nil)) (ms_nil)) (ms_cons (z_papp (x_fld 0 9 (W.cls 43) (W.noat 44) (pv 0)) (me_tup (ma_cons (mo_name (pv 1)) (ma_cons (mo_name (pv 5)) (ma_cons (mo_name (pv 6)) (ma_nil)))))) (ms_nil)))))))
theorem ok_Beat_tried (W : Wd K mg) : KnM P w K mg base 5 "Beat" "tried" ["self", "number", "begin", "tries"] (spOf (K, w) 4 g_Beat_tried) := knm_mk W 13 43 56 rfl rfl rfl rfl pl_Beat_tried sc_Beat_tried (bd_Beat_tried W)
theorem sc_Beat_first : FnScope ["self"] ["self"] (defScope st_Beat_first) := ⟨rfl, rfl, rfl, by decide +kernel, rfl, by decide +kernel, by decide +kernel⟩
theorem pl_Beat_first : Plain d_Beat_first ["self"] := ⟨rfl, rfl, fun _ _ _ _ _ _ us hl => match us, hl with | [_], _ => rfl⟩
theorem bd_Beat_first (W : Wd K mg) (f : Addr) (cdv : Value) (A : Around) (outer : List Env) (s : Shared) (H : Hp) (E : XK) (hr : Rm 5 (cxN P w K mg base ["self"] d_Beat_first f cdv A outer s H E).A) : PSs (cxN P w K mg base ["self"] d_Beat_first f cdv A outer s H E) d_Beat_first.body (tS (K, w) W0 (ios [true]) m_Beat_first) :=
  have nd : (["self"] : List Str).Nodup := sc_Beat_first.nd
  ms_cons (z_fset 0 5 (W.cls 43) (W.noat 48) (pv 0) (x_bf .min rfl (W.free 33) rfl rfl (ma_cons (mo_tm (x_ix (mo_tm (x_rd (x_fld 0 1 (W.cls 43) (W.noat 52) (pv 0)))) (mo_tm (me_int)))) (ma_cons (mo_tm (x_bin (mo_tm (x_rd (x_fld 0 5 (W.cls 43) (W.noat 48) (pv 0)))) (mo_tm (x_ix (mo_tm (x_rd (x_fld 0 1 (W.cls 43) (W.noat 52) (pv 0)))) (mo_tm (me_int)))))) (ma_nil))))) (ms_cons (z_fset 0 7 (W.cls 43) (W.noat 46) (pv 0) (x_bin (mo_tm (x_rd (x_fld 0 7 (W.cls 43) (W.noat 46) (pv 0)))) (mo_tm (me_int)))) (ms_cons (z_expr (g_meth (ok_Beat_tried W) hr (by decide) (mo_name (pv 0)) (ma_cons (mo_tm (x_bin (mo_tm (x_rd (x_fld 0 7 (W.cls 43) (W.noat 46) (pv 0)))) (mo_tm (me_int)))) (ma_cons (mo_tm (x_rd (x_fld 0 3 (W.cls 43) (W.noat 50) (pv 0)))) (ma_cons (mo_tm (me_int)) (ma_nil)))))) (ms_nil)))
theorem ok_Beat_first (W : Wd K mg) : KnM P w K mg base 6 "Beat" "first" ["self"] (spOf (K, w) 1 g_Beat_first) := knm_mk W 12 43 55 rfl rfl rfl rfl pl_Beat_first sc_Beat_first (bd_Beat_first W)
theorem sc_Beat_go : FnScope ["self", "many", "due", "one", "beat", "number", "begin", "tries", "turn", "standing"] ["self", "many"] (defScope st_Beat_go) := ⟨rfl, rfl, rfl, by decide +kernel, rfl, by decide +kernel, by decide +kernel⟩
theorem pl_Beat_go : Plain d_Beat_go ["self", "many"] := ⟨rfl, rfl, fun _ _ _ _ _ _ us hl => match us, hl with | [_, _], _ => rfl⟩
theorem bd_Beat_go (W : Wd K mg) (f : Addr) (cdv : Value) (A : Around) (outer : List Env) (s : Shared) (H : Hp) (E : XK) (hr : Rm 6 (cxN P w K mg base ["self", "many", "due", "one", "beat", "number", "begin", "tries", "turn", "standing"] d_Beat_go f cdv A outer s H E).A) : PSs (cxN P w K mg base ["self", "many", "due", "one", "beat", "number", "begin", "tries", "turn", "standing"] d_Beat_go f cdv A outer s H E) d_Beat_go.body (tS (K, w) W0 (ios [true, true]) m_Beat_go) :=
  have nd : (["self", "many", "due", "one", "beat", "number", "begin", "tries", "turn", "standing"] : List Str).Nodup := sc_Beat_go.nd
  ms_cons (z_lc 2 [("one", 3)] rfl nd (blkOk_by (by first | rfl | kernel_rfl)) (mi_any (mo_tm (x_rd (x_fld 0 4 (W.cls 43) (W.noat 49) (pv 0))))) (Gd.imp (gd_name) (by intro j h; simpa using h)) (fun _ _ _ _ _ => g_nm 3 nd) (fun _ _ _ _ _ => pts_it (y_cmp hr.toRoom (mo_tm (x_ix (mo_name (pv 3)) (mo_tm (me_int)))) (mo_tm (x_rd (x_fld 0 3 (W.cls 43) (W.noat 50) (pv 0)))))) (fun _ _ _ _ _ => me_name (pv 3))) (ms_cons (z_fset 0 4 (W.cls 43) (W.noat 49) (pv 0) (x_lc [("one", 3)] rfl nd (blkOk_by (by first | rfl | kernel_rfl)) (mi_any (mo_tm (x_rd (x_fld 0 4 (W.cls 43) (W.noat 49) (pv 0))))) (Gd.imp (gd_name) (by intro j h; simpa using h)) (fun _ _ _ _ _ => g_nm 3 nd) (fun _ _ _ _ _ => pts_it (y_cmp hr.toRoom (mo_tm (x_ix (mo_name (pv 3)) (mo_tm (me_int)))) (mo_tm (x_rd (x_fld 0 3 (W.cls 43) (W.noat 50) (pv 0)))))) (fun _ _ _ _ _ => me_name (pv 3)))) (ms_cons (z_for (ts := [4, 5, 6, 7]) .never rfl (mi_any (mo_tm (me_name (pv 2)))) (Gd.imp (gd_tup rfl (gds_cons (gd_name) (gds_cons (gd_name) (gds_cons (gd_name) (gds_cons (gd_name) (gds_nil)))))) (by intro j h; simpa using h)) (pg_tup rfl (pgs_cons (g_nm 4 nd) (pgs_cons (g_nm 5 nd) (pgs_cons (g_nm 6 nd) (pgs_cons (g_nm 7 nd) (pgs_nil)))))) (ms_cons (z_expr (g_meth (ok_Beat_tried W) hr (by decide) (mo_name (pv 0)) (ma_cons (mo_name (pv 5)) (ma_cons (mo_name (pv 6)) (ma_cons (mo_name (pv 7)) (ma_nil)))))) (ms_nil))) (ms_cons (z_for (ts := [8]) .never rfl (z_rng1 (W.free 40) rfl (ma_cons (mo_tm (me_name (pv 1))) (ma_nil))) (Gd.imp (gd_name) (by intro j h; simpa using h)) (g_nm 8 nd) (ms_cons (z_expr (g_meth0 (ok_Beat_first W) hr (by decide) (mo_name (pv 0)))) (ms_nil))) (ms_cons (z_set 9 nd (me_tup (ma_cons (mo_tm (x_bin (mo_tm (x_rd (x_fld 0 3 (W.cls 43) (W.noat 50) (pv 0)))) (mo_tm (me_int)))) (ma_cons (mo_tm (x_bf .tuple rfl (W.free 36) rfl rfl (ma_cons (mo_tm (x_psorted (W.free 39) rfl (x_fld 0 4 (W.cls 43) (W.noat 49) (pv 0)))) (ma_nil)))) (ma_cons (mo_tm (x_rd (x_fld 0 5 (W.cls 43) (W.noat 48) (pv 0)))) (ma_cons (mo_tm (x_rd (x_fld 0 6 (W.cls 43) (W.noat 47) (pv 0)))) (ma_cons (mo_tm (x_rd (x_fld 0 7 (W.cls 43) (W.noat 46) (pv 0)))) (ma_nil)))))))) (ms_cons (ms_ret (me_tup (ma_cons (mo_name (pv 9)) (ma_cons (mo_tm (x_pbf .tuple rfl (W.free 36) rfl rfl (x_fld 0 9 (W.cls 43) (W.noat 44) (pv 0)))) (ma_nil))))) (ms_nil))))))
theorem ok_Beat_go (W : Wd K mg) : KnM P w K mg base 7 "Beat" "go" ["self", "many"] (spOf (K, w) 2 g_Beat_go) := knm_mk W 15 43 58 rfl rfl rfl rfl pl_Beat_go sc_Beat_go (bd_Beat_go W)
theorem sc_stepped : FnScope ["caller", "standing", "sound", "many"] ["caller", "standing", "sound", "many"] (defScope st_stepped) := ⟨rfl, rfl, rfl, by decide +kernel, rfl, by decide +kernel, by decide +kernel⟩
theorem pl_stepped : Plain d_stepped ["caller", "standing", "sound", "many"] := ⟨rfl, rfl, fun _ _ _ _ _ _ us hl => match us, hl with | [_, _, _, _], _ => rfl⟩
theorem bd_stepped (W : Wd K mg) (f : Addr) (cdv : Value) (A : Around) (outer : List Env) (s : Shared) (H : Hp) (E : XK) (hr : Rm 7 (cxN P w K mg base ["caller", "standing", "sound", "many"] d_stepped f cdv A outer s H E).A) : PSs (cxN P w K mg base ["caller", "standing", "sound", "many"] d_stepped f cdv A outer s H E) d_stepped.body (tS (K, w) W0 (ios [true, true, true, true]) m_stepped) :=
  have nd : (["caller", "standing", "sound", "many"] : List Str).Nodup := sc_stepped.nd
  ms_cons (ms_ret (g_meth (ok_Beat_go W) hr (by decide) (mo_tm (g_new (ok_Beat___init__ W) hr (by decide) rfl (ma_cons (mo_name (pv 0)) (ma_cons (mo_name (pv 1)) (ma_cons (mo_name (pv 2)) (ma_nil)))))) (ma_cons (mo_name (pv 3)) (ma_nil)))) (ms_nil)
theorem ok_stepped (W : Wd K mg) : KnG P w K mg base 8 "stepped" ["caller", "standing", "sound", "many"] (spOf (K, w) 4 g_stepped) := kng_mk W 16 11 rfl rfl rfl pl_stepped sc_stepped (bd_stepped W)
theorem sc_events_of : FnScope ["caller", "askings", "story", "standing", "found", "beat", "many", "events", "event"] ["caller", "askings", "story"] (defScope st_events_of) := ⟨rfl, rfl, rfl, by decide +kernel, rfl, by decide +kernel, by decide +kernel⟩
theorem pl_events_of : Plain d_events_of ["caller", "askings", "story"] := ⟨rfl, rfl, fun _ _ _ _ _ _ us hl => match us, hl with | [_, _, _], _ => rfl⟩
theorem bd_events_of (W : Wd K mg) (f : Addr) (cdv : Value) (A : Around) (outer : List Env) (s : Shared) (H : Hp) (E : XK) (hr : Rm 8 (cxN P w K mg base ["caller", "askings", "story", "standing", "found", "beat", "many", "events", "event"] d_events_of f cdv A outer s H E).A) : PSs (cxN P w K mg base ["caller", "askings", "story", "standing", "found", "beat", "many", "events", "event"] d_events_of f cdv A outer s H E) d_events_of.body (tS (K, w) W0 (ios [true, true, true]) m_events_of) :=
  have nd : (["caller", "askings", "story", "standing", "found", "beat", "many", "events", "event"] : List Str).Nodup := sc_events_of.nd
  ms_cons (z_set 3 nd (g_call (ok_first_of W) hr (by decide) rfl (ma_cons (mo_name (pv 0)) (ma_nil)))) (ms_cons (z_set 4 nd (me_lst (ma_nil))) (ms_cons (z_set 5 nd (g_call (ok_next_beat W) hr (by decide) rfl (ma_cons (mo_name (pv 3)) (ma_cons (mo_name (pv 1)) (ma_nil))))) (ms_cons (ms_while .never (y_cmp hr.toRoom (mo_name (pv 5)) (mo_tm (me_non))) (ms_cons (z_set 6 nd (x_countT hr.toRoom (mo_name (pv 1)) (ma_cons (mo_name (pv 5)) (ma_nil)))) (ms_cons (z_set 3 nd (x_bin (mo_tm (me_tup (ma_cons (mo_name (pv 5)) (ma_nil)))) (mo_tm (me_slice (mo_name (pv 3)) (mp_some (mo_tm (me_int))) (mp_none))))) (ms_cons (z_asg (Gd.imp (gd_tup rfl (gds_cons (gd_name) (gds_cons (gd_name) (gds_nil)))) (by intro j h; simpa using h)) (pg_tup rfl (pgs_cons (g_nm 3 nd) (pgs_cons (g_nm 7 nd) (pgs_nil)))) (g_call (ok_stepped W) hr (by decide) rfl (ma_cons (mo_name (pv 0)) (ma_cons (mo_name (pv 3)) (ma_cons (mo_tm (me_not (g_call (ok_silent_at W) hr (by decide) rfl (ma_cons (mo_name (pv 2)) (ma_cons (mo_name (pv 5)) (ma_nil)))))) (ma_cons (mo_name (pv 6)) (ma_nil))))))) (ms_cons (z_ext 4 (pv 4) (x_lc [("event", 8)] rfl nd (blkOk_by (by first | rfl | kernel_rfl)) (mi_any (mo_tm (me_name (pv 7)))) (Gd.imp (gd_name) (by intro j h; simpa using h)) (fun _ _ _ _ _ => g_nm 8 nd) (fun _ _ _ _ _ => pts_no) (fun _ _ _ _ _ => x_bin (mo_tm (me_tup (ma_cons (mo_name (pv 5)) (ma_nil)))) (mo_name (pv 8))))) (ms_cons (z_set 5 nd (g_call (ok_next_beat W) hr (by decide) rfl (ma_cons (mo_name (pv 3)) (ma_cons (mo_name (pv 1)) (ma_nil))))) (ms_nil))))))) (ms_cons (ms_retV (pv 4)) (ms_nil)))))
theorem ok_events_of (W : Wd K mg) : KnG P w K mg base 9 "events_of" ["caller", "askings", "story"] (spOf (K, w) 3 g_events_of) := kng_mk W 18 13 rfl rfl rfl pl_events_of sc_events_of (bd_events_of W)
theorem sc_gone : FnScope ["caller", "askings", "story", "events", "ends", "beat", "number", "word", "what"] ["caller", "askings", "story"] (defScope st_gone) := ⟨rfl, rfl, rfl, by decide +kernel, rfl, by decide +kernel, by decide +kernel⟩
theorem pl_gone : Plain d_gone ["caller", "askings", "story"] := ⟨rfl, rfl, fun _ _ _ _ _ _ us hl => match us, hl with | [_, _, _], _ => rfl⟩
theorem bd_gone (W : Wd K mg) (f : Addr) (cdv : Value) (A : Around) (outer : List Env) (s : Shared) (H : Hp) (E : XK) (hr : Rm 9 (cxN P w K mg base ["caller", "askings", "story", "events", "ends", "beat", "number", "word", "what"] d_gone f cdv A outer s H E).A) : PSs (cxN P w K mg base ["caller", "askings", "story", "events", "ends", "beat", "number", "word", "what"] d_gone f cdv A outer s H E) d_gone.body (tS (K, w) W0 (ios [true, true, true]) m_gone) :=
  have nd : (["caller", "askings", "story", "events", "ends", "beat", "number", "word", "what"] : List Str).Nodup := sc_gone.nd
  ms_cons (z_set 3 nd (g_call (ok_events_of W) hr (by decide) rfl (ma_cons (mo_name (pv 0)) (ma_cons (mo_name (pv 1)) (ma_cons (mo_name (pv 2)) (ma_nil)))))) (ms_cons (z_lc 4 [("beat", 5)] rfl nd (blkOk_by (by first | rfl | kernel_rfl)) (mi_any (mo_tm (me_name (pv 1)))) (Gd.imp (gd_name) (by intro j h; simpa using h)) (fun _ _ _ _ _ => g_nm 5 nd) (fun _ _ _ _ _ => pts_no) (fun _ _ _ _ _ => me_non)) (ms_cons (z_for (ts := [5, 6, 7, 8]) .never rfl (mi_any (mo_tm (me_name (pv 3)))) (Gd.imp (gd_tup rfl (gds_cons (gd_name) (gds_cons (gd_name) (gds_cons (gd_name) (gds_cons (gd_name) (gds_nil)))))) (by intro j h; simpa using h)) (pg_tup rfl (pgs_cons (g_nm 5 nd) (pgs_cons (g_nm 6 nd) (pgs_cons (g_nm 7 nd) (pgs_cons (g_nm 8 nd) (pgs_nil)))))) (ms_cons (ms_if (y_cmp hr.toRoom (mo_name (pv 7)) (mo_tm (me_str))) (ms_cons (z_ix 4 (pv 4) (mo_name (pv 6)) (me_tup (ma_cons (mo_tm (me_str)) (ma_cons (mo_name (pv 5)) (ma_nil))))) (ms_nil)) (ms_cons (ms_if (mt_not (y_val (g_call (ok_is_whole W) hr (by decide) rfl (ma_cons (mo_name (pv 8)) (ma_nil))))) (ms_cons (z_ix 4 (pv 4) (mo_name (pv 6)) (me_tup (ma_cons (mo_tm (me_str)) (ma_cons (mo_name (pv 5)) (ma_cons (mo_name (pv 8)) (ma_nil)))))) (ms_nil)) (ms_nil)) (ms_nil))) (ms_nil))) (ms_cons (ms_ret (me_tup (ma_cons (mo_tm (x_bf .tuple rfl (W.free 36) rfl rfl (ma_cons (mo_name (pv 3)) (ma_nil)))) (ma_cons (mo_tm (x_bf .tuple rfl (W.free 36) rfl rfl (ma_cons (mo_name (pv 4)) (ma_nil)))) (ma_nil))))) (ms_nil))))
theorem ok_gone (W : Wd K mg) : KnG P w K mg base 10 "gone" ["caller", "askings", "story"] (spOf (K, w) 3 g_gone) := kng_mk W 19 14 rfl rfl rfl pl_gone sc_gone (bd_gone W)
theorem sc_law : FnScope ["_law_script", "_law_cell", "_law_pen", "_law_caller_here", "_law_askings_here", "_law_story", "_law_events", "_law_ends", "_law_last", "_law_event", "_law_standing", "_law_found", "_law_begun", "_law_beat", "_law_many", "_law_one", "_law_told"] ["_law_script"] (defScope st_law) := ⟨rfl, rfl, rfl, by decide +kernel, rfl, by decide +kernel, by decide +kernel⟩
theorem pl_law : Plain d_law ["_law_script"] := ⟨rfl, rfl, fun _ _ _ _ _ _ us hl => match us, hl with | [_], _ => rfl⟩
theorem bd_law (W : Wd K mg) (f : Addr) (cdv : Value) (A : Around) (outer : List Env) (s : Shared) (H : Hp) (E : XK) (hr : Rm 10 (cxN P w K mg base ["_law_script", "_law_cell", "_law_pen", "_law_caller_here", "_law_askings_here", "_law_story", "_law_events", "_law_ends", "_law_last", "_law_event", "_law_standing", "_law_found", "_law_begun", "_law_beat", "_law_many", "_law_one", "_law_told"] d_law f cdv A outer s H E).A) : PSs (cxN P w K mg base ["_law_script", "_law_cell", "_law_pen", "_law_caller_here", "_law_askings_here", "_law_story", "_law_events", "_law_ends", "_law_last", "_law_event", "_law_standing", "_law_found", "_law_begun", "_law_beat", "_law_many", "_law_one", "_law_told"] d_law f cdv A outer s H E) d_law.body (tS (K, w) W0 (ios [false]) m_law) :=
  have nd : (["_law_script", "_law_cell", "_law_pen", "_law_caller_here", "_law_askings_here", "_law_story", "_law_events", "_law_ends", "_law_last", "_law_event", "_law_standing", "_law_found", "_law_begun", "_law_beat", "_law_many", "_law_one", "_law_told"] : List Str).Nodup := sc_law.nd
  ms_cons (z_for (ts := [1]) .never rfl (mi_any (mo_tm (x_bin (mo_tm (me_lst (ma_cons (mo_tm (g_call (ok_law_cell_at W) hr (by decide) rfl (ma_cons (mo_name (pv 0)) (ma_cons (mo_tm (me_int)) (ma_nil))))) (ma_nil)))) (mo_tm (me_slice (mo_name (pv 0)) (mp_some (mo_tm (me_int))) (mp_some (mo_tm (me_int)))))))) (Gd.imp (gd_name) (by intro j h; simpa using h)) (g_nm 1 nd) (ms_cons (z_set 2 nd (g_call (ok_law_pen_of W) hr (by decide) rfl (ma_cons (mo_name (pv 1)) (ma_nil)))) (ms_cons (z_asg (Gd.imp (gd_tup rfl (gds_cons (gd_name) (gds_cons (gd_name) (gds_cons (gd_name) (gds_nil))))) (by intro j h; simpa using h)) (pg_tup rfl (pgs_cons (g_nm 3 nd) (pgs_cons (g_nm 4 nd) (pgs_cons (g_nm 5 nd) (pgs_nil))))) (g_call (ok_law_played W) hr (by decide) rfl (ma_cons (mo_name (pv 2)) (ma_nil)))) (ms_cons (z_asg (Gd.imp (gd_tup rfl (gds_cons (gd_name) (gds_cons (gd_name) (gds_nil)))) (by intro j h; simpa using h)) (pg_tup rfl (pgs_cons (g_nm 6 nd) (pgs_cons (g_nm 7 nd) (pgs_nil)))) (g_call (ok_gone W) hr (by decide) rfl (ma_cons (mo_name (pv 3)) (ma_cons (mo_name (pv 4)) (ma_cons (mo_name (pv 5)) (ma_nil)))))) (ms_cons (z_set 8 nd (x_bg .maxl rfl (W.free 41) rfl rfl (ma_cons (mo_tm (x_bin (mo_tm (me_lst (ma_cons (mo_tm (me_int)) (ma_nil)))) (mo_tm (x_lc [("_law_event", 9)] rfl nd (blkOk_by (by first | rfl | kernel_rfl)) (mi_any (mo_tm (me_name (pv 6)))) (Gd.imp (gd_name) (by intro j h; simpa using h)) (fun _ _ _ _ _ => g_nm 9 nd) (fun _ _ _ _ _ => pts_no) (fun _ _ _ _ _ => x_ix (mo_name (pv 9)) (mo_tm (me_int))))))) (ma_nil)))) (ms_cons (z_par3 10 11 12 rfl nd (ma_cons (mo_tm (g_call (ok_first_of W) hr (by decide) rfl (ma_cons (mo_name (pv 3)) (ma_nil)))) (ma_cons (mo_tm (me_lst (ma_nil))) (ma_cons (mo_tm (me_int)) (ma_nil))))) (ms_cons (z_for (ts := [13]) .never rfl (z_rng1 (W.free 40) rfl (ma_cons (mo_tm (x_bin (mo_name (pv 8)) (mo_tm (me_int)))) (ma_nil))) (Gd.imp (gd_name) (by intro j h; simpa using h)) (g_nm 13 nd) (ms_cons (ms_if (mt_not (y_val (g_call (ok_law_stands W) hr (by decide) rfl (ma_cons (mo_name (pv 3)) (ma_cons (mo_name (pv 10)) (ma_cons (mo_name (pv 13)) (ma_cons (mo_name (pv 12)) (ma_nil)))))))) (ms_cons (ms_ret (me_bl)) (ms_nil)) (ms_nil)) (ms_cons (z_set 14 nd (x_bf .len rfl (W.free 34) rfl rfl (ma_cons (mo_tm (x_lc [("_law_one", 15)] rfl nd (blkOk_by (by first | rfl | kernel_rfl)) (mi_any (mo_tm (me_name (pv 4)))) (Gd.imp (gd_name) (by intro j h; simpa using h)) (fun _ _ _ _ _ => g_nm 15 nd) (fun _ _ _ _ _ => pts_it (y_cmp hr.toRoom (mo_name (pv 15)) (mo_name (pv 13)))) (fun _ _ _ _ _ => me_name (pv 15)))) (ma_nil)))) (ms_cons (z_asg (Gd.imp (gd_tup rfl (gds_cons (gd_name) (gds_cons (gd_name) (gds_nil)))) (by intro j h; simpa using h)) (pg_tup rfl (pgs_cons (g_nm 10 nd) (pgs_cons (g_nm 16 nd) (pgs_nil)))) (g_call (ok_stepped W) hr (by decide) rfl (ma_cons (mo_name (pv 3)) (ma_cons (mo_name (pv 10)) (ma_cons (mo_tm (me_not (g_call (ok_law_silent W) hr (by decide) rfl (ma_cons (mo_name (pv 5)) (ma_cons (mo_name (pv 13)) (ma_nil)))))) (ma_cons (mo_name (pv 14)) (ma_nil))))))) (ms_cons (z_ext 11 (pv 11) (x_lc [("_law_event", 9)] rfl nd (blkOk_by (by first | rfl | kernel_rfl)) (mi_any (mo_tm (me_name (pv 16)))) (Gd.imp (gd_name) (by intro j h; simpa using h)) (fun _ _ _ _ _ => g_nm 9 nd) (fun _ _ _ _ _ => pts_no) (fun _ _ _ _ _ => x_bin (mo_tm (me_tup (ma_cons (mo_name (pv 13)) (ma_nil)))) (mo_name (pv 9))))) (ms_cons (z_set 12 nd (x_bin (mo_name (pv 12)) (mo_name (pv 14)))) (ms_nil))))))) (ms_cons (ms_if (PW.pt (mt_or (y_cmp hr.toRoom (mo_tm (x_bf .tuple rfl (W.free 36) rfl rfl (ma_cons (mo_name (pv 11)) (ma_nil)))) (mo_name (pv 6))) (mt_or (y_cmp hr.toRoom (mo_tm (x_ix (mo_name (pv 10)) (mo_tm (me_int)))) (mo_tm (me_tup (ma_nil)))) (mt_or1 (y_cmp hr.toRoom (mo_name (pv 12)) (mo_tm (x_bf .len rfl (W.free 34) rfl rfl (ma_cons (mo_name (pv 4)) (ma_nil))))))))) (ms_cons (ms_ret (me_bl)) (ms_nil)) (ms_nil)) (ms_nil))))))))) (ms_cons (ms_ret (me_bl)) (ms_nil))
end
end KW
namespace KW
open PySem PySem.Spec PyProof.Rows L2 L2.M
local macro_rules | `(tactic| walk_at "ev") => `(tactic| simp [semF, shared, after, mSeq, mSkip, mIf, mRet, mRetN, mRetV, mSet, mSetIx, mExpr, mB, mU, mTm, mPl, mK, mVar, mOp, mCons, mNil, bor, bors, mTst, mAndT, mOrT, mNotT, mAndE, mOrE, mNotE, mIfE, mIsi, isiD, mChn, chnL, cmpD, binD, addD, subD, mulD, modD, fdivD, powD, eqD, neD, ltD, leD, gtD, geD, isD, isnD, L2.M.isNon, negD, ixD, Bf.f, Bg.f, lenD, L2.M.intD, maxD, minD, repD, strD, gmaxD, gminD, sumD, sortD, anyD, allD, mCall, frz, fzO, lend, wb, mTup, mLst, fzs, cD, mAsg, bTup, bTps, mApp, tupD, lstD, mRev, revD, ofs_inj, ee_ii, ee_ss, ee_bb, ee_nn, ee_is, ee_si, ee_in, ee_ni, ee_tt, ee_ll, ee_maps, ee_0, ee_1, ee_2, ee_3, at_lit, at_nat, at_m1, at_m2, scD, emD, sizeLine_eq, ixN, sm_lit, mSrc, itemsD, plOf, rng1D, bNm, mSl, mPt, mNoP, slD, mPar, keepT, tmsO, setA, mFlow, zipX, enumX, itemsX, intsOf, ints_all, boolsOf, shaped_lay, lay_int, lay_bool, lay_none, lay_dict, lay_tup, lay_list, lay_ints, sortX_ints, mPlF, mPlI, mRd, mPU, mPB, mFSet, mFNew, mNSet, mPApp, mPSetIx, mPPop, mMeth, mNew, isIns, cellO, mLstN, mAddN, mAppN, semX, mTold, mCallX, xRet, xExpr, xSet, mRaise, mM, isL, isS, mOrV, truD])
local macro_rules | `(tactic| walk_at "es") => `(tactic| simp [semF, shared, after, mSeq, mSkip, mIf, mRet, mRetN, mRetV, mSet, mSetIx, mExpr, mB, mU, mTm, mPl, mK, mVar, mOp, mCons, mNil, bor, bors, mTst, mAndT, mOrT, mNotT, mAndE, mOrE, mNotE, mIfE, mIsi, isiD, mChn, chnL, cmpD, binD, addD, subD, mulD, modD, fdivD, powD, eqD, neD, ltD, leD, gtD, geD, isD, isnD, L2.M.isNon, negD, ixD, Bf.f, Bg.f, lenD, L2.M.intD, maxD, minD, repD, strD, gmaxD, gminD, sumD, sortD, anyD, allD, mCall, frz, fzO, lend, wb, mTup, mLst, fzs, cD, mAsg, bTup, bTps, mApp, tupD, lstD, mRev, revD, ofs_inj, ee_ii, ee_ss, ee_bb, ee_nn, ee_is, ee_si, ee_in, ee_ni, ee_tt, ee_ll, ee_maps, ee_0, ee_1, ee_2, ee_3, at_lit, at_nat, at_m1, at_m2, scD, emD, sizeLine_eq, ixN, sm_lit, mSrc, itemsD, plOf, rng1D, bNm, mSl, mPt, mNoP, slD, mPar, keepT, tmsO, setA, mFlow, zipX, enumX, itemsX, intsOf, ints_all, boolsOf, shaped_lay, lay_int, lay_bool, lay_none, lay_dict, lay_tup, lay_list, lay_ints, sortX_ints, mPlF, mPlI, mRd, mPU, mPB, mFSet, mFNew, mNSet, mPApp, mPSetIx, mPPop, mMeth, mNew, isIns, cellO, mLstN, mAddN, mAppN, semX, mTold, mCallX, xRet, xExpr, xSet, mRaise, mM, isL, isS, mOrV, truD, *])
local macro_rules | `(tactic| walk_at "el") => `(tactic| simp [semF, shared, after, mSeq, mSkip, mIf, mRet, mRetN, mRetV, mSet, mSetIx, mExpr, mB, mU, mTm, mPl, mK, mVar, mOp, mCons, mNil, bor, bors, mTst, mAndT, mOrT, mNotT, mAndE, mOrE, mNotE, mIfE, mIsi, isiD, mChn, chnL, cmpD, binD, addD, subD, mulD, modD, fdivD, powD, eqD, neD, ltD, leD, gtD, geD, isD, isnD, L2.M.isNon, negD, ixD, Bf.f, Bg.f, lenD, L2.M.intD, maxD, minD, repD, strD, gmaxD, gminD, sumD, sortD, anyD, allD, mCall, frz, fzO, lend, wb, mTup, mLst, fzs, cD, mAsg, bTup, bTps, mApp, tupD, lstD, mRev, revD, ofs_inj, ee_ii, ee_ss, ee_bb, ee_nn, ee_is, ee_si, ee_in, ee_ni, ee_tt, ee_ll, ee_maps, ee_0, ee_1, ee_2, ee_3, at_lit, at_nat, at_m1, at_m2, scD, emD, sizeLine_eq, ixN, sm_lit, mSrc, itemsD, plOf, rng1D, bNm, mSl, mPt, mNoP, slD, mPar, keepT, tmsO, setA, mFlow, zipX, enumX, itemsX, intsOf, ints_all, boolsOf, shaped_lay, lay_int, lay_bool, lay_none, lay_dict, lay_tup, lay_list, lay_ints, sortX_ints, mPlF, mPlI, mRd, mPU, mPB, mFSet, mFNew, mNSet, mPApp, mPSetIx, mPPop, mMeth, mNew, isIns, cellO, mLstN, mAddN, mAppN, semX, mTold, mCallX, xRet, xExpr, xSet, mRaise, mM, isL, isS, mOrV, truD, mLc, lcL, sameC, wipeC, restC, mYes, *])
local macro_rules | `(tactic| walk_at "ef") => `(tactic| simp [semF, shared, after, mSeq, mSkip, mIf, mRet, mRetN, mRetV, mSet, mSetIx, mExpr, mB, mU, mTm, mPl, mK, mVar, mOp, mCons, mNil, bor, bors, mTst, mAndT, mOrT, mNotT, mAndE, mOrE, mNotE, mIfE, mIsi, isiD, mChn, chnL, cmpD, binD, addD, subD, mulD, modD, fdivD, powD, eqD, neD, ltD, leD, gtD, geD, isD, isnD, L2.M.isNon, negD, ixD, Bf.f, Bg.f, lenD, L2.M.intD, maxD, minD, repD, strD, gmaxD, gminD, sumD, sortD, anyD, allD, mCall, frz, fzO, lend, wb, mTup, mLst, fzs, cD, mAsg, bTup, bTps, mApp, tupD, lstD, mRev, revD, ofs_inj, ee_ii, ee_ss, ee_bb, ee_nn, ee_is, ee_si, ee_in, ee_ni, ee_tt, ee_ll, ee_maps, ee_0, ee_1, ee_2, ee_3, at_lit, at_nat, at_m1, at_m2, scD, emD, sizeLine_eq, ixN, sm_lit, mSrc, itemsD, plOf, rng1D, bNm, mSl, mPt, mNoP, slD, mPar, keepT, tmsO, setA, mFlow, zipX, enumX, itemsX, intsOf, ints_all, boolsOf, shaped_lay, lay_int, lay_bool, lay_none, lay_dict, lay_tup, lay_list, lay_ints, sortX_ints, mPlF, mPlI, mRd, mPU, mPB, mFSet, mFNew, mNSet, mPApp, mPSetIx, mPPop, mMeth, mNew, isIns, cellO, mLstN, mAddN, mAppN, semX, mTold, mCallX, xRet, xExpr, xSet, mRaise, mM, isL, isS, mOrV, truD, mFor, forL, mLc, lcL, sameC, wipeC, restC, mYes, *])
local macro_rules | `(tactic| walk_at "rg") => `(tactic| (and_intros <;> grind))
local macro_rules | `(tactic| walk_at "nx") => `(tactic| (apply wx_nx; focus (walk_at "ev"; try first | exact ⟨rfl, rfl⟩ | rfl)))
local macro_rules | `(tactic| walk_at "ns") => `(tactic| (apply wx_nx; focus (walk_at "es"; try first | exact ⟨rfl, rfl⟩ | rfl)))
local macro_rules | `(tactic| walk_at "rt") => `(tactic| (apply wx_rt; focus (walk_at "ev"; try first | exact ⟨rfl, rfl⟩ | rfl)))
local macro_rules | `(tactic| walk_at "rs") => `(tactic| (apply wx_rt; focus (walk_at "es"; try first | exact ⟨rfl, rfl⟩ | rfl)))
local macro_rules | `(tactic| walk_at "ed") => `(tactic| simp [semF, shared, after, mSeq, mSkip, mIf, mRet, mRetN, mRetV, mSet, mSetIx, mExpr, mB, mU, mTm, mPl, mK, mVar, mOp, mCons, mNil, bor, bors, mTst, mAndT, mOrT, mNotT, mAndE, mOrE, mNotE, mIfE, mIsi, isiD, mChn, chnL, cmpD, binD, addD, subD, mulD, modD, fdivD, powD, eqD, neD, ltD, leD, gtD, geD, isD, isnD, L2.M.isNon, negD, ixD, Bf.f, Bg.f, lenD, L2.M.intD, maxD, minD, repD, strD, gmaxD, gminD, sumD, sortD, anyD, allD, mCall, frz, fzO, lend, wb, mTup, mLst, fzs, cD, mAsg, bTup, bTps, mApp, tupD, lstD, mRev, revD, ofs_inj, ee_ii, ee_ss, ee_bb, ee_nn, ee_is, ee_si, ee_in, ee_ni, ee_tt, ee_ll, ee_maps, ee_0, ee_1, ee_2, ee_3, at_lit, at_nat, at_m1, at_m2, scD, emD, sizeLine_eq, ixN, sm_lit, mSrc, itemsD, plOf, rng1D, bNm, mSl, mPt, mNoP, slD, mPar, keepT, tmsO, setA, mFlow, zipX, enumX, itemsX, intsOf, ints_all, boolsOf, shaped_lay, lay_int, lay_bool, lay_none, lay_dict, lay_tup, lay_list, lay_ints, sortX_ints, mPlF, mPlI, mRd, mPU, mPB, mFSet, mFNew, mNSet, mPApp, mPSetIx, mPPop, mMeth, mNew, isIns, cellO, mLstN, mAddN, mAppN, semX, mTold, mCallX, xRet, xExpr, xSet, mRaise, mM, isL, isS, mOrV, truD, mDNew, mDIn, mDGet, mDLen, mDPut, kyD, mNNew, mN1, mTake, mFnV, mCallF, mNIn, mNGet, mNPut, mNVals, mNList, nKs, mDGetD, mDList, mNNe, *])
theorem from_eq (i lo hi : Int) : g_is_from_to [.sh (.int i), .sh (.int lo), .sh (.int hi)] = some (.sh (.bool (decide (lo ≤ i) && decide (i ≤ hi))), [.sh (.int i), .sh (.int lo), .sh (.int hi)]) := by
  have iw : g_is_whole [.sh (.int i)] = some (.sh (.bool true), [.sh (.int i)]) := by
    unfold g_is_whole m_is_whole
    walk_at "ev"
  unfold g_is_from_to m_is_from_to
  by_cases h1 : lo ≤ i <;> by_cases h2 : i ≤ hi <;> (walk_at "es"; try simp [*])
theorem standing_good_eq {q : Ca} {t : Int} {s : Sg} (h : SgK q t s) (t1 : t ≤ 1000000) : g_standing_good [.sh q.ga, .sh s.d] = some (.sh (.bool true), [.sh q.ga, .sh s.d]) := by
  have hf := from_eq
  unfold g_standing_good m_standing_good Ca.ga
  cases s with
  | op b =>
    have h : 0 ≤ b ∧ b ≤ q.F - 1 := h
    generalize q.F = F at *
    simp only [Sg.d]
    walk_at "es"
  | sh u n =>
    have h : 0 ≤ u ∧ u ≤ t + 1000 ∧ q.R ≤ n ∧ n ≤ q.Mo := h
    generalize q.R = R at *
    generalize q.Mo = M at *
    have h2 : u ≤ 1001000 := by omega
    simp only [Sg.d]
    walk_at "es"
  | tr g n =>
    have h : 0 ≤ g ∧ g ≤ q.N - 1 ∧ q.R ≤ n ∧ n ≤ q.Mo := h
    generalize q.R = R at *
    generalize q.Mo = M at *
    generalize q.N = N at *
    simp only [Sg.d]
    walk_at "es"
theorem ne_selfB {d : PyData} (h : SeqAt.shaped d = true) : cmpD .NotEq d d = some (.sh (.bool false)) := by
  show L2.M.neD d d = _
  unfold L2.M.neD
  rw [h, SeqAt.eqv_refl d (SeqAt.canLay_of_shaped h)]
  simp
theorem shaped_ws (ws : List Wt) : SeqAt.shaped (.list (ws.map Wt.d)) = true := by
  rw [shaped_lay, lay_list _ (by decide), List.all_eq_true]
  intro d hd
  obtain ⟨a, _, rfl⟩ := List.mem_map.mp hd
  unfold Wt.d
  simp [lay_tup, lay_int]
def wk (x : Wt) : List Int := [x.due, x.num, x.beg, x.tri]
theorem tt_ws : ∀ ws : List Wt, ttI (ws.map Wt.d) = some (ws.map wk)
  | [] => rfl
  | x :: ws => by
    rw [List.map_cons, List.map_cons]
    unfold Wt.d ttI
    rw [show (ws.map fun x : Wt => PyData.tuple [.int x.due, .int x.num, .int x.beg, .int x.tri]) = ws.map Wt.d from rfl, tt_ws ws]
    rfl
theorem code_wk {a b : Wt} (ha : TS.Bd 1000000 (wk a)) (hb : TS.Bd 1000000 (wk b)) (h : wLe a b = true) (ne : a.num ≠ b.num) : TS.code 1000000 (wk a) < TS.code 1000000 (wk b) := by
  unfold wLe at h
  rw [decide_eq_true_eq] at h
  unfold wk at *
  rcases h with h | ⟨e, h | ⟨h, -⟩⟩
  · exact TS.code_lt rfl ha.tail hb.tail h
  · rw [e]
    have k := TS.code_lt (B := 1000000) (d := a.num) (e := b.num) (r := [a.beg, a.tri]) (q := [b.beg, b.tri]) rfl ha.tail.tail hb.tail.tail h
    exact (TS.code_same (r := [a.num, a.beg, a.tri]) (q := [b.num, b.beg, b.tri]) rfl).mpr k
  · exact absurd h ne
theorem srT_ws {ws : List Wt} (hl : ws.length < 64) (hb : ∀ x ∈ ws, TS.Bd 1000000 (wk x)) (hs : wsort ws = ws) (hn : (ws.map Wt.num).Nodup) : srT [.tuple (ws.map Wt.d)] = some (.ls (ws.map Wt.d)) := by
  have hr : risT (ws.map wk) = true := by
    unfold risT
    rw [Bool.and_eq_true, Bool.and_eq_true, decide_eq_true_eq, decide_eq_true_eq, List.all_eq_true, List.length_map]
    refine ⟨hl, fun k hk => ?_, ?_⟩
    · obtain ⟨x, hx, rfl⟩ := List.mem_map.mp hk
      rw [Bool.and_eq_true, decide_eq_true_eq, List.all_eq_true]
      refine ⟨?_, fun m hm => by simpa using hb x hx m hm⟩
      cases ws with
      | nil => cases hx
      | cons y ws => rfl
    · rw [List.map_map, List.pairwise_map]
      have p1 := wsort_sorted ws
      rw [hs] at p1
      have p2 : ws.Pairwise fun a b => a.num ≠ b.num := List.pairwise_map.mp hn
      refine List.Pairwise.imp_of_mem (fun {a b} ha hb2 h => ?_) (List.pairwise_and_iff.mpr ⟨p1, p2⟩)
      exact code_wk (hb a ha) (hb b hb2) h.1 h.2
  show (match ttI (ws.map Wt.d) with | some ks => if risT ks = true then some (C.ls (ws.map Wt.d)) else none | none => none) = _
  rw [tt_ws]
  dsimp only
  rw [if_pos hr]
theorem lsT_ws {ws : List Wt} (hl : ws.length < 4000) (hn : (ws.map Wt.num).Nodup) : lsT [.list (ws.map fun x => PyData.int x.num)] = some (.sh (.int (ws.length : Nat))) := by
  have e1 : (ws.map fun x => PyData.int x.num) = (ws.map Wt.num).map PyData.int := by rw [List.map_map]; rfl
  have e2 : intsOf ((ws.map Wt.num).map PyData.int) = some (ws.map Wt.num) := ints_all _
  have e3 : (dsort (ws.map Wt.num)).length = ws.length := by
    have p : (dsort (ws.map Wt.num)).Perm (ws.map Wt.num) := (List.perm_ext_iff_of_nodup ((dsort_ris _).imp fun h e => by omega) hn).mpr fun k => dsort_mem _ k
    rw [p.length_eq, List.length_map]
  rw [e1]
  show lsD ((ws.map Wt.num).map PyData.int) = _
  unfold lsD
  rw [e2]
  dsimp only
  rw [if_pos (by rw [List.length_map]; exact hl), e3]
abbrev zd5 (t c n : Int) (W sd : PyData) : PyData := .tuple [.int t, W, .int c, sd, .int n]
abbrev qd3 (gp ga p r k0 : PyData) (K Z cp : Int) : PyData := .tuple [.tuple [gp, .int K, .int Z], .tuple [p, r, .int cp, k0], ga]
theorem sa_1 {Q W sd : PyData} {t c n : Int} (c4 c5 c6 c7 c8 : C) : (mIf (mOrT (mNotT (mTst (mIsi .tuple (mPl 1)))) (mOrT (mTst (mB (cmpD .NotEq) (mTm (mOp (Bf.f .len) (mCons (mPl 1) (mNil)))) (mTm (mK (.int 5))))) (mOrT (mTst (mB (cmpD .NotEq) (mTm (mB ixD (mPl 1) (mTm (mK (.int 0))))) (mPl 2))) (mTst (mB (cmpD .NotEq) (mTm (mB ixD (mPl 1) (mTm (mK (.int 4))))) (mPl 3)))))) (mSeq (mRet (mK (.bool false))) (mSkip)) (mSkip)) [.sh Q, .sh (zd5 t c n W sd), .sh (.int t), .sh (.int n), c4, c5, c6, c7, c8] = some (.nx, [.sh Q, .sh (zd5 t c n W sd), .sh (.int t), .sh (.int n), c4, c5, c6, c7, c8]) := by
  walk_at "es"
theorem sa_2 {gp ga p r k0 sd : PyData} {K Z cp : Int} {W : List PyData} {t c n : Int} (f1 : srT [.tuple W] = some (.ls W)) (f2 : cmpD .NotEq (.list W) (.list W) = some (.sh (.bool false))) (h0 : 0 ≤ c) (h1 : c ≤ cp) (c4 c5 c6 c7 c8 : C) : (mIf (mOrT (mTst (mB (cmpD .NotEq) (mTm (mOp (Bf.f .list) (mCons (mTm (mB ixD (mPl 1) (mTm (mK (.int 1))))) (mNil)))) (mTm (mOp srT (mCons (mTm (mB ixD (mPl 1) (mTm (mK (.int 1))))) (mNil)))))) (mNotT (mTst (mChn (mTm (mK (.int 0))) [(cmpD .LtE, mTm (mB ixD (mPl 1) (mTm (mK (.int 2))))), (cmpD .LtE, mTm (mB ixD (mTm (mB ixD (mPl 0) (mTm (mK (.int 1))))) (mTm (mK (.int 2)))))])))) (mSeq (mRet (mK (.bool false))) (mSkip)) (mSkip)) [.sh (qd3 gp ga p r k0 K Z cp), .sh (zd5 t c n (.tuple W) sd), .sh (.int t), .sh (.int n), c4, c5, c6, c7, c8] = some (.nx, [.sh (qd3 gp ga p r k0 K Z cp), .sh (zd5 t c n (.tuple W) sd), .sh (.int t), .sh (.int n), c4, c5, c6, c7, c8]) := by
  generalize srT = ST at *
  generalize cmpD .NotEq = CN at *
  walk_at "es"
theorem sa_3 {gp ga p r k0 sd W : PyData} {K Z cp : Int} {t c n : Int} (f : g_standing_good [.sh ga, .sh sd] = some (.sh (.bool true), [.sh ga, .sh sd])) (c4 c5 c6 c7 c8 : C) : (mIf (mTst (mB (cmpD .IsNot) (mTm (mCall [true, true] g_standing_good (mCons (mTm (mB ixD (mPl 0) (mTm (mK (.int 2))))) (mCons (mTm (mB ixD (mPl 1) (mTm (mK (.int 3))))) (mNil))))) (mTm (mK (.bool true))))) (mSeq (mRet (mK (.bool false))) (mSkip)) (mSkip)) [.sh (qd3 gp ga p r k0 K Z cp), .sh (zd5 t c n W sd), .sh (.int t), .sh (.int n), c4, c5, c6, c7, c8] = some (.nx, [.sh (qd3 gp ga p r k0 K Z cp), .sh (zd5 t c n W sd), .sh (.int t), .sh (.int n), c4, c5, c6, c7, c8]) := by
  walk_at "es"
theorem sa_4 {gp ga p r k0 sd W : PyData} {K Z cp : Int} {t c n d u b k : Int} (h1 : t ≤ d) (h2 : d ≤ b + Z) (h3 : 0 ≤ u) (h4 : u < n) (h5 : 1 ≤ k) (h6 : k < K) (c8 : C) : (mIf (mOrT (mNotT (mTst (mChn (mPl 2) [(cmpD .LtE, mPl 4), (cmpD .LtE, mTm (mB (binD .Add) (mPl 6) (mTm (mB ixD (mTm (mB ixD (mPl 0) (mTm (mK (.int 0))))) (mTm (mK (.int 2)))))))]))) (mOrT (mNotT (mTst (mChn (mTm (mK (.int 0))) [(cmpD .LtE, mPl 5), (cmpD .Lt, mPl 3)]))) (mNotT (mTst (mChn (mTm (mK (.int 1))) [(cmpD .LtE, mPl 7), (cmpD .Lt, mTm (mB ixD (mTm (mB ixD (mPl 0) (mTm (mK (.int 0))))) (mTm (mK (.int 1)))))]))))) (mSeq (mRet (mK (.bool false))) (mSkip)) (mSkip)) [.sh (qd3 gp ga p r k0 K Z cp), .sh (zd5 t c n W sd), .sh (.int t), .sh (.int n), .sh (.int d), .sh (.int u), .sh (.int b), .sh (.int k), c8] = some (.nx, [.sh (qd3 gp ga p r k0 K Z cp), .sh (zd5 t c n W sd), .sh (.int t), .sh (.int n), .sh (.int d), .sh (.int u), .sh (.int b), .sh (.int k), c8]) := by
  walk_at "es"
theorem sa_5 {Q sd : PyData} {ws : List Wt} {t c n : Int} (hl : ws.length < 4000) (f : lsT [.list (ws.map fun x => PyData.int x.num)] = some (.sh (.int (ws.length : Nat)))) (c4 c5 c6 c7 : C) : (mRet (mB (cmpD .Eq) (mTm (mOp lsT (mCons (mTm (mLc (mSrc itemsD (mCons (mTm (mB ixD (mPl 1) (mTm (mK (.int 1))))) mNil)) (bNm 8) (mYes) (mB ixD (mPl 8) (mTm (mK (.int 1)))) [8])) (mNil)))) (mTm (mOp (Bf.f .len) (mCons (mTm (mB ixD (mPl 1) (mTm (mK (.int 1))))) (mNil)))))) [.sh Q, .sh (zd5 t c n (.tuple (ws.map Wt.d)) sd), .sh (.int t), .sh (.int n), c4, c5, c6, c7, .no] = some (.rt (.sh (.bool true)), [.sh Q, .sh (zd5 t c n (.tuple (ws.map Wt.d)) sd), .sh (.int t), .sh (.int n), c4, c5, c6, c7, .no]) := by
  have key : mLc (mSrc itemsD (mCons (mTm (mB ixD (mPl 1) (mTm (mK (.int 1))))) mNil)) (bNm 8) (mYes) (mB ixD (mPl 8) (mTm (mK (.int 1)))) [8] [.sh Q, .sh (zd5 t c n (.tuple (ws.map Wt.d)) sd), .sh (.int t), .sh (.int n), c4, c5, c6, c7, .no] = some (.ls (ws.map fun x => PyData.int x.num), [.sh Q, .sh (zd5 t c n (.tuple (ws.map Wt.d)) sd), .sh (.int t), .sh (.int n), c4, c5, c6, c7, .no]) := by
    refine mLc_enc Wt.d (fun x => PyData.int x.num) (xs := ws) (ws := []) (c0 := .no) ?_ rfl ?_ (by rw [sizeLine_eq]; omega)
    · clear f hl
      generalize ws.map Wt.d = W
      walk_at "ev"
    · intro x _
      refine ⟨.sh (.int x.num), ?_, rfl⟩
      clear f hl
      generalize ws.map Wt.d = W
      unfold Wt.d
      walk_at "ev"
  have e : (((ws.map Wt.d).length : Nat) : Int) = (ws.length : Nat) := by rw [List.length_map]
  generalize (ws.map fun x => PyData.int x.num) = N at *
  generalize ws.map Wt.d = W at *
  generalize ((ws.length : Nat) : Int) = l at *
  generalize mLc _ (bNm 8) mYes _ [8] = ML at *
  generalize lsT = LT at *
  clear hl
  walk_at "es"
theorem stands_eq {q : Ca} (hcp : q.cp ≤ 10000) (hZ : q.Z ≤ 1000) (hK : q.K ≤ 1000) {A : List Nat} (hA : A.length ≤ 12) {t : Nat} (ht : t ≤ 5000) {z : Sd} (h : Zk q A t z) : g_law_stands [.sh q.d, .sh z.d, .sh (.int t), .sh (.int z.n)] = some (.sh (.bool true), [.sh q.d, .sh z.d, .sh (.int t), .sh (.int z.n)]) := by
  obtain ⟨h1, h2, h3, h4, h5, h6, h7, h8, h9, h10, h11⟩ := h
  have hl : z.w.length ≤ 12 := by omega
  have f0 := srT_ws (ws := z.w) (by omega) (fun x hx m hm => by
    have := h2 x hx
    unfold wk at hm
    simp only [List.mem_cons, List.not_mem_nil, or_false] at hm
    rcases hm with rfl | rfl | rfl | rfl <;> omega) h5 h3
  have f1 := ne_selfB (shaped_ws z.w)
  have f2 := standing_good_eq h4 (by omega)
  have f3 := lsT_ws (ws := z.w) (by omega) h3
  have ez : z.d = zd5 t z.c z.n (.tuple (z.w.map Wt.d)) z.s.d := by rw [← h1]; rfl
  have eq : q.d = qd3 q.gp q.ga (.int q.p) (.int q.r) (.int q.c0) q.K q.Z q.cp := rfl
  rw [ez, eq]
  apply rt_eq
  unfold g_law_stands m_law_stands
  apply rt_sem rfl
  generalize q.gp = gp at *
  generalize q.ga = ga at *
  generalize PyData.int q.p = p at *
  generalize PyData.int q.r = r at *
  generalize PyData.int q.c0 = k0 at *
  generalize z.s.d = sd at *
  apply wx_nx (sa_1 _ _ _ _ _)
  apply wx_nx (sa_2 f0 f1 h9 h10 _ _ _ _ _)
  apply wx_nx (sa_3 f2 _ _ _ _ _)
  apply wx_seq
  apply wx_each (ds := z.w.map Wt.d) (ε1 := [.sh (qd3 gp ga p r k0 q.K q.Z q.cp), .sh (zd5 t z.c z.n (.tuple (z.w.map Wt.d)) sd), .sh (.int t), .sh (.int z.n), .no, .no, .no, .no, .no]) fun ε => ∃ c4 c5 c6 c7, ε = [.sh (qd3 gp ga p r k0 q.K q.Z q.cp), .sh (zd5 t z.c z.n (.tuple (z.w.map Wt.d)) sd), .sh (.int t), .sh (.int z.n), c4, c5, c6, c7, .no]
  · generalize z.w.map Wt.d = W
    clear f0 f1 f2 f3 h2 h3 h4 h5
    generalize qd3 gp ga p r k0 q.K q.Z q.cp = Q
    walk_at "ev"
  · exact ⟨_, _, _, _, rfl⟩
  · rintro d ε hd ⟨c4, c5, c6, c7, rfl⟩
    obtain ⟨x, hx, rfl⟩ := List.mem_map.mp hd
    obtain ⟨w1, w2, w3, w4, w5, w6, -⟩ := h2 x hx
    refine ⟨_, rfl, ?_⟩
    exact wx_nx (sa_4 w1 w2 w3 w4 w5 w6 _) (wx_skip ⟨_, _, _, _, rfl⟩)
  · rintro ε ⟨c4, c5, c6, c7, rfl⟩
    refine wx_rt (sa_5 (by omega) f3 _ _ _ _) ?_
    exact ⟨rfl, rfl⟩
end KW
namespace KW
open PySem PySem.Spec PyProof.Rows L2 L2.M
local macro_rules | `(tactic| walk_at "ev") => `(tactic| simp [semF, shared, after, mSeq, mSkip, mIf, mRet, mRetN, mRetV, mSet, mSetIx, mExpr, mB, mU, mTm, mPl, mK, mVar, mOp, mCons, mNil, bor, bors, mTst, mAndT, mOrT, mNotT, mAndE, mOrE, mNotE, mIfE, mIsi, isiD, mChn, chnL, cmpD, binD, addD, subD, mulD, modD, fdivD, powD, eqD, neD, ltD, leD, gtD, geD, isD, isnD, L2.M.isNon, negD, ixD, Bf.f, Bg.f, lenD, L2.M.intD, maxD, minD, repD, strD, gmaxD, gminD, sumD, sortD, anyD, allD, mCall, frz, fzO, lend, wb, mTup, mLst, fzs, cD, mAsg, bTup, bTps, mApp, tupD, lstD, mRev, revD, ofs_inj, ee_ii, ee_ss, ee_bb, ee_nn, ee_is, ee_si, ee_in, ee_ni, ee_tt, ee_ll, ee_maps, ee_0, ee_1, ee_2, ee_3, at_lit, at_nat, at_m1, at_m2, scD, emD, sizeLine_eq, ixN, sm_lit, mSrc, itemsD, plOf, rng1D, bNm, mSl, mPt, mNoP, slD, mPar, keepT, tmsO, setA, mFlow, zipX, enumX, itemsX, intsOf, ints_all, boolsOf, shaped_lay, lay_int, lay_bool, lay_none, lay_dict, lay_tup, lay_list, lay_ints, sortX_ints, mPlF, mPlI, mRd, mPU, mPB, mFSet, mFNew, mNSet, mPApp, mPSetIx, mPPop, mMeth, mNew, isIns, cellO, mLstN, mAddN, mAppN, semX, mTold, mCallX, xRet, xExpr, xSet, mRaise, mM, isL, isS, mOrV, truD])
local macro_rules | `(tactic| walk_at "es") => `(tactic| simp [semF, shared, after, mSeq, mSkip, mIf, mRet, mRetN, mRetV, mSet, mSetIx, mExpr, mB, mU, mTm, mPl, mK, mVar, mOp, mCons, mNil, bor, bors, mTst, mAndT, mOrT, mNotT, mAndE, mOrE, mNotE, mIfE, mIsi, isiD, mChn, chnL, cmpD, binD, addD, subD, mulD, modD, fdivD, powD, eqD, neD, ltD, leD, gtD, geD, isD, isnD, L2.M.isNon, negD, ixD, Bf.f, Bg.f, lenD, L2.M.intD, maxD, minD, repD, strD, gmaxD, gminD, sumD, sortD, anyD, allD, mCall, frz, fzO, lend, wb, mTup, mLst, fzs, cD, mAsg, bTup, bTps, mApp, tupD, lstD, mRev, revD, ofs_inj, ee_ii, ee_ss, ee_bb, ee_nn, ee_is, ee_si, ee_in, ee_ni, ee_tt, ee_ll, ee_maps, ee_0, ee_1, ee_2, ee_3, at_lit, at_nat, at_m1, at_m2, scD, emD, sizeLine_eq, ixN, sm_lit, mSrc, itemsD, plOf, rng1D, bNm, mSl, mPt, mNoP, slD, mPar, keepT, tmsO, setA, mFlow, zipX, enumX, itemsX, intsOf, ints_all, boolsOf, shaped_lay, lay_int, lay_bool, lay_none, lay_dict, lay_tup, lay_list, lay_ints, sortX_ints, mPlF, mPlI, mRd, mPU, mPB, mFSet, mFNew, mNSet, mPApp, mPSetIx, mPPop, mMeth, mNew, isIns, cellO, mLstN, mAddN, mAppN, semX, mTold, mCallX, xRet, xExpr, xSet, mRaise, mM, isL, isS, mOrV, truD, *])
local macro_rules | `(tactic| walk_at "el") => `(tactic| simp [semF, shared, after, mSeq, mSkip, mIf, mRet, mRetN, mRetV, mSet, mSetIx, mExpr, mB, mU, mTm, mPl, mK, mVar, mOp, mCons, mNil, bor, bors, mTst, mAndT, mOrT, mNotT, mAndE, mOrE, mNotE, mIfE, mIsi, isiD, mChn, chnL, cmpD, binD, addD, subD, mulD, modD, fdivD, powD, eqD, neD, ltD, leD, gtD, geD, isD, isnD, L2.M.isNon, negD, ixD, Bf.f, Bg.f, lenD, L2.M.intD, maxD, minD, repD, strD, gmaxD, gminD, sumD, sortD, anyD, allD, mCall, frz, fzO, lend, wb, mTup, mLst, fzs, cD, mAsg, bTup, bTps, mApp, tupD, lstD, mRev, revD, ofs_inj, ee_ii, ee_ss, ee_bb, ee_nn, ee_is, ee_si, ee_in, ee_ni, ee_tt, ee_ll, ee_maps, ee_0, ee_1, ee_2, ee_3, at_lit, at_nat, at_m1, at_m2, scD, emD, sizeLine_eq, ixN, sm_lit, mSrc, itemsD, plOf, rng1D, bNm, mSl, mPt, mNoP, slD, mPar, keepT, tmsO, setA, mFlow, zipX, enumX, itemsX, intsOf, ints_all, boolsOf, shaped_lay, lay_int, lay_bool, lay_none, lay_dict, lay_tup, lay_list, lay_ints, sortX_ints, mPlF, mPlI, mRd, mPU, mPB, mFSet, mFNew, mNSet, mPApp, mPSetIx, mPPop, mMeth, mNew, isIns, cellO, mLstN, mAddN, mAppN, semX, mTold, mCallX, xRet, xExpr, xSet, mRaise, mM, isL, isS, mOrV, truD, mLc, lcL, sameC, wipeC, restC, mYes, *])
local macro_rules | `(tactic| walk_at "ef") => `(tactic| simp [semF, shared, after, mSeq, mSkip, mIf, mRet, mRetN, mRetV, mSet, mSetIx, mExpr, mB, mU, mTm, mPl, mK, mVar, mOp, mCons, mNil, bor, bors, mTst, mAndT, mOrT, mNotT, mAndE, mOrE, mNotE, mIfE, mIsi, isiD, mChn, chnL, cmpD, binD, addD, subD, mulD, modD, fdivD, powD, eqD, neD, ltD, leD, gtD, geD, isD, isnD, L2.M.isNon, negD, ixD, Bf.f, Bg.f, lenD, L2.M.intD, maxD, minD, repD, strD, gmaxD, gminD, sumD, sortD, anyD, allD, mCall, frz, fzO, lend, wb, mTup, mLst, fzs, cD, mAsg, bTup, bTps, mApp, tupD, lstD, mRev, revD, ofs_inj, ee_ii, ee_ss, ee_bb, ee_nn, ee_is, ee_si, ee_in, ee_ni, ee_tt, ee_ll, ee_maps, ee_0, ee_1, ee_2, ee_3, at_lit, at_nat, at_m1, at_m2, scD, emD, sizeLine_eq, ixN, sm_lit, mSrc, itemsD, plOf, rng1D, bNm, mSl, mPt, mNoP, slD, mPar, keepT, tmsO, setA, mFlow, zipX, enumX, itemsX, intsOf, ints_all, boolsOf, shaped_lay, lay_int, lay_bool, lay_none, lay_dict, lay_tup, lay_list, lay_ints, sortX_ints, mPlF, mPlI, mRd, mPU, mPB, mFSet, mFNew, mNSet, mPApp, mPSetIx, mPPop, mMeth, mNew, isIns, cellO, mLstN, mAddN, mAppN, semX, mTold, mCallX, xRet, xExpr, xSet, mRaise, mM, isL, isS, mOrV, truD, mFor, forL, mLc, lcL, sameC, wipeC, restC, mYes, *])
local macro_rules | `(tactic| walk_at "rg") => `(tactic| (and_intros <;> grind))
local macro_rules | `(tactic| walk_at "nx") => `(tactic| (apply wx_nx; focus (walk_at "ev"; try first | exact ⟨rfl, rfl⟩ | rfl)))
local macro_rules | `(tactic| walk_at "ns") => `(tactic| (apply wx_nx; focus (walk_at "es"; try first | exact ⟨rfl, rfl⟩ | rfl)))
local macro_rules | `(tactic| walk_at "rt") => `(tactic| (apply wx_rt; focus (walk_at "ev"; try first | exact ⟨rfl, rfl⟩ | rfl)))
local macro_rules | `(tactic| walk_at "rs") => `(tactic| (apply wx_rt; focus (walk_at "es"; try first | exact ⟨rfl, rfl⟩ | rfl)))
local macro_rules | `(tactic| walk_at "ed") => `(tactic| simp [semF, shared, after, mSeq, mSkip, mIf, mRet, mRetN, mRetV, mSet, mSetIx, mExpr, mB, mU, mTm, mPl, mK, mVar, mOp, mCons, mNil, bor, bors, mTst, mAndT, mOrT, mNotT, mAndE, mOrE, mNotE, mIfE, mIsi, isiD, mChn, chnL, cmpD, binD, addD, subD, mulD, modD, fdivD, powD, eqD, neD, ltD, leD, gtD, geD, isD, isnD, L2.M.isNon, negD, ixD, Bf.f, Bg.f, lenD, L2.M.intD, maxD, minD, repD, strD, gmaxD, gminD, sumD, sortD, anyD, allD, mCall, frz, fzO, lend, wb, mTup, mLst, fzs, cD, mAsg, bTup, bTps, mApp, tupD, lstD, mRev, revD, ofs_inj, ee_ii, ee_ss, ee_bb, ee_nn, ee_is, ee_si, ee_in, ee_ni, ee_tt, ee_ll, ee_maps, ee_0, ee_1, ee_2, ee_3, at_lit, at_nat, at_m1, at_m2, scD, emD, sizeLine_eq, ixN, sm_lit, mSrc, itemsD, plOf, rng1D, bNm, mSl, mPt, mNoP, slD, mPar, keepT, tmsO, setA, mFlow, zipX, enumX, itemsX, intsOf, ints_all, boolsOf, shaped_lay, lay_int, lay_bool, lay_none, lay_dict, lay_tup, lay_list, lay_ints, sortX_ints, mPlF, mPlI, mRd, mPU, mPB, mFSet, mFNew, mNSet, mPApp, mPSetIx, mPPop, mMeth, mNew, isIns, cellO, mLstN, mAddN, mAppN, semX, mTold, mCallX, xRet, xExpr, xSet, mRaise, mM, isL, isS, mOrV, truD, mDNew, mDIn, mDGet, mDLen, mDPut, kyD, mNNew, mN1, mTake, mFnV, mCallF, mNIn, mNGet, mNPut, mNVals, mNList, nKs, mDGetD, mDList, mNNe, *])
/-- gaps, a tuple of four whole numbers -/
abbrev gp4 (a t m M : Int) : PyData := .tuple [.int a, .int t, .int m, .int M]
@[simp] theorem first_gap_eq (a t m M : Int) : g_first_gap [.sh (gp4 a t m M)] = some (.sh (.int (gs a t m M 0)), [.sh (gp4 a t m M)]) := by
  unfold g_first_gap m_first_gap gs
  walk_at "ev"
theorem next_gap_eq {a t m M g : Int} (ht : sm t) (hg : sm g) : g_next_gap [.sh (gp4 a t m M), .sh (.int g)] = some (.sh (.int (gnx t m M g)), [.sh (gp4 a t m M), .sh (.int g)]) := by
  unfold g_next_gap m_next_gap gnx
  walk_at "es"
theorem Gp.smt {a t m M : Int} (h : Gp a t m M) : sm t := by
  have := h.t1; have := h.t2
  exact ⟨by omega, by omega⟩
theorem Gp.smg {a t m M : Int} (h : Gp a t m M) (n : Nat) : sm (gs a t m M n) := by
  have := gs_pos h n; have := gs_lt h n
  exact ⟨by omega, by omega⟩
theorem next_eqg {a t m M : Int} (h : Gp a t m M) (n : Nat) : g_next_gap [.sh (gp4 a t m M), .sh (.int (gs a t m M n))] = some (.sh (.int (gs a t m M (n + 1))), [.sh (gp4 a t m M), .sh (.int (gs a t m M n))]) := next_gap_eq h.smt (h.smg n)
theorem growing_eq {a t m M : Int} (h : Gp a t m M) : g_growing [.sh (gp4 a t m M)] = some (.ls ((grow a t m M (gK a t m M + 1)).map .int), [.sh (gp4 a t m M)]) := by
  apply rt_eq
  unfold g_growing m_growing
  apply rt_sem rfl
  walk_at "nx"
  apply wx_seq
  apply wx_while (fun n ε => ∃ k, k + n = gK a t m M ∧ ε = [.sh (gp4 a t m M), .ls ((grow a t m M (k + 1)).map .int)]) (gK a t m M)
  · exact ⟨0, by simp, by simp [grow]⟩
  · rintro n ε ⟨k, hk, rfl⟩
    have hn := next_eqg h k
    have hl := grow_last (a := a) (t := t) (m := m) (M := M) k
    have hz := grow_len (a := a) (t := t) (m := m) (M := M) (k + 1)
    have hK := gK_spec h
    have hk2 : k + 1 < 16777216 := by omega
    by_cases e : k = gK a t m M
    · have e1 : gs a t m M (k + 1) = gs a t m M k := by rw [e]; exact hK.2.1
      refine ⟨false, [.sh (gp4 a t m M), .ls ((grow a t m M (k + 1)).map .int)], ?_, fun _ => ?_, fun h => by cases h⟩
      · clear hK hk e
        walk_at "es"
      · subst e
        walk_at "rt"
        exact ⟨rfl, rfl⟩
    · have e1 : gs a t m M (k + 1) ≠ gs a t m M k := hK.2.2 k (by omega)
      refine ⟨true, [.sh (gp4 a t m M), .ls ((grow a t m M (k + 1)).map .int)], ?_, fun h => (by cases h), fun _ => ?_⟩
      · clear hK hk e
        walk_at "es"
      · have hs := grow_succ (a := a) (t := t) (m := m) (M := M) (k + 1)
        apply wx_nx (ε1 := [.sh (gp4 a t m M), .ls ((grow a t m M (k + 1 + 1)).map .int)])
        · rw [hs]
          clear hs hK hk e e1
          walk_at "es"
        exact wx_skip ⟨n - 1, by omega, k + 1, by omega, rfl⟩
end KW
namespace KW
open PySem PySem.Spec PyProof.Rows L2 L2.M
local macro_rules | `(tactic| walk_at "ev") => `(tactic| simp [semF, shared, after, mSeq, mSkip, mIf, mRet, mRetN, mRetV, mSet, mSetIx, mExpr, mB, mU, mTm, mPl, mK, mVar, mOp, mCons, mNil, bor, bors, mTst, mAndT, mOrT, mNotT, mAndE, mOrE, mNotE, mIfE, mIsi, isiD, mChn, chnL, cmpD, binD, addD, subD, mulD, modD, fdivD, powD, eqD, neD, ltD, leD, gtD, geD, isD, isnD, L2.M.isNon, negD, ixD, Bf.f, Bg.f, lenD, L2.M.intD, maxD, minD, repD, strD, gmaxD, gminD, sumD, sortD, anyD, allD, mCall, frz, fzO, lend, wb, mTup, mLst, fzs, cD, mAsg, bTup, bTps, mApp, tupD, lstD, mRev, revD, ofs_inj, ee_ii, ee_ss, ee_bb, ee_nn, ee_is, ee_si, ee_in, ee_ni, ee_tt, ee_ll, ee_maps, ee_0, ee_1, ee_2, ee_3, at_lit, at_nat, at_m1, at_m2, scD, emD, sizeLine_eq, ixN, sm_lit, mSrc, itemsD, plOf, rng1D, bNm, mSl, mPt, mNoP, slD, mPar, keepT, tmsO, setA, mFlow, zipX, enumX, itemsX, intsOf, ints_all, boolsOf, shaped_lay, lay_int, lay_bool, lay_none, lay_dict, lay_tup, lay_list, lay_ints, sortX_ints, mPlF, mPlI, mRd, mPU, mPB, mFSet, mFNew, mNSet, mPApp, mPSetIx, mPPop, mMeth, mNew, isIns, cellO, mLstN, mAddN, mAppN, semX, mTold, mCallX, xRet, xExpr, xSet, mRaise, mM, isL, isS, mOrV, truD])
local macro_rules | `(tactic| walk_at "es") => `(tactic| simp [semF, shared, after, mSeq, mSkip, mIf, mRet, mRetN, mRetV, mSet, mSetIx, mExpr, mB, mU, mTm, mPl, mK, mVar, mOp, mCons, mNil, bor, bors, mTst, mAndT, mOrT, mNotT, mAndE, mOrE, mNotE, mIfE, mIsi, isiD, mChn, chnL, cmpD, binD, addD, subD, mulD, modD, fdivD, powD, eqD, neD, ltD, leD, gtD, geD, isD, isnD, L2.M.isNon, negD, ixD, Bf.f, Bg.f, lenD, L2.M.intD, maxD, minD, repD, strD, gmaxD, gminD, sumD, sortD, anyD, allD, mCall, frz, fzO, lend, wb, mTup, mLst, fzs, cD, mAsg, bTup, bTps, mApp, tupD, lstD, mRev, revD, ofs_inj, ee_ii, ee_ss, ee_bb, ee_nn, ee_is, ee_si, ee_in, ee_ni, ee_tt, ee_ll, ee_maps, ee_0, ee_1, ee_2, ee_3, at_lit, at_nat, at_m1, at_m2, scD, emD, sizeLine_eq, ixN, sm_lit, mSrc, itemsD, plOf, rng1D, bNm, mSl, mPt, mNoP, slD, mPar, keepT, tmsO, setA, mFlow, zipX, enumX, itemsX, intsOf, ints_all, boolsOf, shaped_lay, lay_int, lay_bool, lay_none, lay_dict, lay_tup, lay_list, lay_ints, sortX_ints, mPlF, mPlI, mRd, mPU, mPB, mFSet, mFNew, mNSet, mPApp, mPSetIx, mPPop, mMeth, mNew, isIns, cellO, mLstN, mAddN, mAppN, semX, mTold, mCallX, xRet, xExpr, xSet, mRaise, mM, isL, isS, mOrV, truD, *])
local macro_rules | `(tactic| walk_at "el") => `(tactic| simp [semF, shared, after, mSeq, mSkip, mIf, mRet, mRetN, mRetV, mSet, mSetIx, mExpr, mB, mU, mTm, mPl, mK, mVar, mOp, mCons, mNil, bor, bors, mTst, mAndT, mOrT, mNotT, mAndE, mOrE, mNotE, mIfE, mIsi, isiD, mChn, chnL, cmpD, binD, addD, subD, mulD, modD, fdivD, powD, eqD, neD, ltD, leD, gtD, geD, isD, isnD, L2.M.isNon, negD, ixD, Bf.f, Bg.f, lenD, L2.M.intD, maxD, minD, repD, strD, gmaxD, gminD, sumD, sortD, anyD, allD, mCall, frz, fzO, lend, wb, mTup, mLst, fzs, cD, mAsg, bTup, bTps, mApp, tupD, lstD, mRev, revD, ofs_inj, ee_ii, ee_ss, ee_bb, ee_nn, ee_is, ee_si, ee_in, ee_ni, ee_tt, ee_ll, ee_maps, ee_0, ee_1, ee_2, ee_3, at_lit, at_nat, at_m1, at_m2, scD, emD, sizeLine_eq, ixN, sm_lit, mSrc, itemsD, plOf, rng1D, bNm, mSl, mPt, mNoP, slD, mPar, keepT, tmsO, setA, mFlow, zipX, enumX, itemsX, intsOf, ints_all, boolsOf, shaped_lay, lay_int, lay_bool, lay_none, lay_dict, lay_tup, lay_list, lay_ints, sortX_ints, mPlF, mPlI, mRd, mPU, mPB, mFSet, mFNew, mNSet, mPApp, mPSetIx, mPPop, mMeth, mNew, isIns, cellO, mLstN, mAddN, mAppN, semX, mTold, mCallX, xRet, xExpr, xSet, mRaise, mM, isL, isS, mOrV, truD, mLc, lcL, sameC, wipeC, restC, mYes, *])
local macro_rules | `(tactic| walk_at "ef") => `(tactic| simp [semF, shared, after, mSeq, mSkip, mIf, mRet, mRetN, mRetV, mSet, mSetIx, mExpr, mB, mU, mTm, mPl, mK, mVar, mOp, mCons, mNil, bor, bors, mTst, mAndT, mOrT, mNotT, mAndE, mOrE, mNotE, mIfE, mIsi, isiD, mChn, chnL, cmpD, binD, addD, subD, mulD, modD, fdivD, powD, eqD, neD, ltD, leD, gtD, geD, isD, isnD, L2.M.isNon, negD, ixD, Bf.f, Bg.f, lenD, L2.M.intD, maxD, minD, repD, strD, gmaxD, gminD, sumD, sortD, anyD, allD, mCall, frz, fzO, lend, wb, mTup, mLst, fzs, cD, mAsg, bTup, bTps, mApp, tupD, lstD, mRev, revD, ofs_inj, ee_ii, ee_ss, ee_bb, ee_nn, ee_is, ee_si, ee_in, ee_ni, ee_tt, ee_ll, ee_maps, ee_0, ee_1, ee_2, ee_3, at_lit, at_nat, at_m1, at_m2, scD, emD, sizeLine_eq, ixN, sm_lit, mSrc, itemsD, plOf, rng1D, bNm, mSl, mPt, mNoP, slD, mPar, keepT, tmsO, setA, mFlow, zipX, enumX, itemsX, intsOf, ints_all, boolsOf, shaped_lay, lay_int, lay_bool, lay_none, lay_dict, lay_tup, lay_list, lay_ints, sortX_ints, mPlF, mPlI, mRd, mPU, mPB, mFSet, mFNew, mNSet, mPApp, mPSetIx, mPPop, mMeth, mNew, isIns, cellO, mLstN, mAddN, mAppN, semX, mTold, mCallX, xRet, xExpr, xSet, mRaise, mM, isL, isS, mOrV, truD, mFor, forL, mLc, lcL, sameC, wipeC, restC, mYes, *])
local macro_rules | `(tactic| walk_at "rg") => `(tactic| (and_intros <;> grind))
local macro_rules | `(tactic| walk_at "nx") => `(tactic| (apply wx_nx; focus (walk_at "ev"; try first | exact ⟨rfl, rfl⟩ | rfl)))
local macro_rules | `(tactic| walk_at "ns") => `(tactic| (apply wx_nx; focus (walk_at "es"; try first | exact ⟨rfl, rfl⟩ | rfl)))
local macro_rules | `(tactic| walk_at "rt") => `(tactic| (apply wx_rt; focus (walk_at "ev"; try first | exact ⟨rfl, rfl⟩ | rfl)))
local macro_rules | `(tactic| walk_at "rs") => `(tactic| (apply wx_rt; focus (walk_at "es"; try first | exact ⟨rfl, rfl⟩ | rfl)))
local macro_rules | `(tactic| walk_at "ed") => `(tactic| simp [semF, shared, after, mSeq, mSkip, mIf, mRet, mRetN, mRetV, mSet, mSetIx, mExpr, mB, mU, mTm, mPl, mK, mVar, mOp, mCons, mNil, bor, bors, mTst, mAndT, mOrT, mNotT, mAndE, mOrE, mNotE, mIfE, mIsi, isiD, mChn, chnL, cmpD, binD, addD, subD, mulD, modD, fdivD, powD, eqD, neD, ltD, leD, gtD, geD, isD, isnD, L2.M.isNon, negD, ixD, Bf.f, Bg.f, lenD, L2.M.intD, maxD, minD, repD, strD, gmaxD, gminD, sumD, sortD, anyD, allD, mCall, frz, fzO, lend, wb, mTup, mLst, fzs, cD, mAsg, bTup, bTps, mApp, tupD, lstD, mRev, revD, ofs_inj, ee_ii, ee_ss, ee_bb, ee_nn, ee_is, ee_si, ee_in, ee_ni, ee_tt, ee_ll, ee_maps, ee_0, ee_1, ee_2, ee_3, at_lit, at_nat, at_m1, at_m2, scD, emD, sizeLine_eq, ixN, sm_lit, mSrc, itemsD, plOf, rng1D, bNm, mSl, mPt, mNoP, slD, mPar, keepT, tmsO, setA, mFlow, zipX, enumX, itemsX, intsOf, ints_all, boolsOf, shaped_lay, lay_int, lay_bool, lay_none, lay_dict, lay_tup, lay_list, lay_ints, sortX_ints, mPlF, mPlI, mRd, mPU, mPB, mFSet, mFNew, mNSet, mPApp, mPSetIx, mPPop, mMeth, mNew, isIns, cellO, mLstN, mAddN, mAppN, semX, mTold, mCallX, xRet, xExpr, xSet, mRaise, mM, isL, isS, mOrV, truD, mDNew, mDIn, mDGet, mDLen, mDPut, kyD, mNNew, mN1, mTake, mFnV, mCallF, mNIn, mNGet, mNPut, mNVals, mNList, nKs, mDGetD, mDList, mNNe, *])
theorem at_grow {a t m M : Int} {n : Nat} {i : Int} (h0 : 0 ≤ i) (h1 : i < n) : atI ((grow a t m M n).map PyData.int) i = some (.int (gs a t m M i.toNat)) := by
  rw [at_nn h0, List.getElem?_map, grow_get (by omega)]
  rfl
theorem gap_at_eq {a t m M : Int} (h : Gp a t m M) (k : Int) (hk : 1 ≤ k) : g_gap_at [.sh (gp4 a t m M), .sh (.int k)] = some (.sh (.int (gs a t m M (k - 1).toNat)), [.sh (gp4 a t m M), .sh (.int k)]) := by
  have hg := growing_eq h
  have hz := grow_len (a := a) (t := t) (m := m) (M := M) (gK a t m M + 1)
  unfold g_gap_at m_gap_at
  by_cases c : (gK a t m M : Int) + 1 < k
  · have hx : gs a t m M (k - 1).toNat = gs a t m M (gK a t m M) := gs_const h (by omega)
    have ha := at_grow (a := a) (t := t) (m := m) (M := M) (n := gK a t m M + 1) (i := gK a t m M) (by omega) (by omega)
    rw [at_nat] at ha
    rw [Int.toNat_natCast] at ha
    rw [hx]
    clear hk hx ha
    walk_at "es"
    simp [grow]
  · have ha := at_grow (a := a) (t := t) (m := m) (M := M) (n := gK a t m M + 1) (i := k - 1) (by omega) (by omega)
    clear hk
    walk_at "es"
end KW
namespace KW
open PySem PySem.Spec PyProof.Rows L2 L2.M
local macro_rules | `(tactic| walk_at "ev") => `(tactic| simp [semF, shared, after, mSeq, mSkip, mIf, mRet, mRetN, mRetV, mSet, mSetIx, mExpr, mB, mU, mTm, mPl, mK, mVar, mOp, mCons, mNil, bor, bors, mTst, mAndT, mOrT, mNotT, mAndE, mOrE, mNotE, mIfE, mIsi, isiD, mChn, chnL, cmpD, binD, addD, subD, mulD, modD, fdivD, powD, eqD, neD, ltD, leD, gtD, geD, isD, isnD, L2.M.isNon, negD, ixD, Bf.f, Bg.f, lenD, L2.M.intD, maxD, minD, repD, strD, gmaxD, gminD, sumD, sortD, anyD, allD, mCall, frz, fzO, lend, wb, mTup, mLst, fzs, cD, mAsg, bTup, bTps, mApp, tupD, lstD, mRev, revD, ofs_inj, ee_ii, ee_ss, ee_bb, ee_nn, ee_is, ee_si, ee_in, ee_ni, ee_tt, ee_ll, ee_maps, ee_0, ee_1, ee_2, ee_3, at_lit, at_nat, at_m1, at_m2, scD, emD, sizeLine_eq, ixN, sm_lit, mSrc, itemsD, plOf, rng1D, bNm, mSl, mPt, mNoP, slD, mPar, keepT, tmsO, setA, mFlow, zipX, enumX, itemsX, intsOf, ints_all, boolsOf, shaped_lay, lay_int, lay_bool, lay_none, lay_dict, lay_tup, lay_list, lay_ints, sortX_ints, mPlF, mPlI, mRd, mPU, mPB, mFSet, mFNew, mNSet, mPApp, mPSetIx, mPPop, mMeth, mNew, isIns, cellO, mLstN, mAddN, mAppN, semX, mTold, mCallX, xRet, xExpr, xSet, mRaise, mM, isL, isS, mOrV, truD])
local macro_rules | `(tactic| walk_at "es") => `(tactic| simp [semF, shared, after, mSeq, mSkip, mIf, mRet, mRetN, mRetV, mSet, mSetIx, mExpr, mB, mU, mTm, mPl, mK, mVar, mOp, mCons, mNil, bor, bors, mTst, mAndT, mOrT, mNotT, mAndE, mOrE, mNotE, mIfE, mIsi, isiD, mChn, chnL, cmpD, binD, addD, subD, mulD, modD, fdivD, powD, eqD, neD, ltD, leD, gtD, geD, isD, isnD, L2.M.isNon, negD, ixD, Bf.f, Bg.f, lenD, L2.M.intD, maxD, minD, repD, strD, gmaxD, gminD, sumD, sortD, anyD, allD, mCall, frz, fzO, lend, wb, mTup, mLst, fzs, cD, mAsg, bTup, bTps, mApp, tupD, lstD, mRev, revD, ofs_inj, ee_ii, ee_ss, ee_bb, ee_nn, ee_is, ee_si, ee_in, ee_ni, ee_tt, ee_ll, ee_maps, ee_0, ee_1, ee_2, ee_3, at_lit, at_nat, at_m1, at_m2, scD, emD, sizeLine_eq, ixN, sm_lit, mSrc, itemsD, plOf, rng1D, bNm, mSl, mPt, mNoP, slD, mPar, keepT, tmsO, setA, mFlow, zipX, enumX, itemsX, intsOf, ints_all, boolsOf, shaped_lay, lay_int, lay_bool, lay_none, lay_dict, lay_tup, lay_list, lay_ints, sortX_ints, mPlF, mPlI, mRd, mPU, mPB, mFSet, mFNew, mNSet, mPApp, mPSetIx, mPPop, mMeth, mNew, isIns, cellO, mLstN, mAddN, mAppN, semX, mTold, mCallX, xRet, xExpr, xSet, mRaise, mM, isL, isS, mOrV, truD, *])
local macro_rules | `(tactic| walk_at "el") => `(tactic| simp [semF, shared, after, mSeq, mSkip, mIf, mRet, mRetN, mRetV, mSet, mSetIx, mExpr, mB, mU, mTm, mPl, mK, mVar, mOp, mCons, mNil, bor, bors, mTst, mAndT, mOrT, mNotT, mAndE, mOrE, mNotE, mIfE, mIsi, isiD, mChn, chnL, cmpD, binD, addD, subD, mulD, modD, fdivD, powD, eqD, neD, ltD, leD, gtD, geD, isD, isnD, L2.M.isNon, negD, ixD, Bf.f, Bg.f, lenD, L2.M.intD, maxD, minD, repD, strD, gmaxD, gminD, sumD, sortD, anyD, allD, mCall, frz, fzO, lend, wb, mTup, mLst, fzs, cD, mAsg, bTup, bTps, mApp, tupD, lstD, mRev, revD, ofs_inj, ee_ii, ee_ss, ee_bb, ee_nn, ee_is, ee_si, ee_in, ee_ni, ee_tt, ee_ll, ee_maps, ee_0, ee_1, ee_2, ee_3, at_lit, at_nat, at_m1, at_m2, scD, emD, sizeLine_eq, ixN, sm_lit, mSrc, itemsD, plOf, rng1D, bNm, mSl, mPt, mNoP, slD, mPar, keepT, tmsO, setA, mFlow, zipX, enumX, itemsX, intsOf, ints_all, boolsOf, shaped_lay, lay_int, lay_bool, lay_none, lay_dict, lay_tup, lay_list, lay_ints, sortX_ints, mPlF, mPlI, mRd, mPU, mPB, mFSet, mFNew, mNSet, mPApp, mPSetIx, mPPop, mMeth, mNew, isIns, cellO, mLstN, mAddN, mAppN, semX, mTold, mCallX, xRet, xExpr, xSet, mRaise, mM, isL, isS, mOrV, truD, mLc, lcL, sameC, wipeC, restC, mYes, *])
local macro_rules | `(tactic| walk_at "ef") => `(tactic| simp [semF, shared, after, mSeq, mSkip, mIf, mRet, mRetN, mRetV, mSet, mSetIx, mExpr, mB, mU, mTm, mPl, mK, mVar, mOp, mCons, mNil, bor, bors, mTst, mAndT, mOrT, mNotT, mAndE, mOrE, mNotE, mIfE, mIsi, isiD, mChn, chnL, cmpD, binD, addD, subD, mulD, modD, fdivD, powD, eqD, neD, ltD, leD, gtD, geD, isD, isnD, L2.M.isNon, negD, ixD, Bf.f, Bg.f, lenD, L2.M.intD, maxD, minD, repD, strD, gmaxD, gminD, sumD, sortD, anyD, allD, mCall, frz, fzO, lend, wb, mTup, mLst, fzs, cD, mAsg, bTup, bTps, mApp, tupD, lstD, mRev, revD, ofs_inj, ee_ii, ee_ss, ee_bb, ee_nn, ee_is, ee_si, ee_in, ee_ni, ee_tt, ee_ll, ee_maps, ee_0, ee_1, ee_2, ee_3, at_lit, at_nat, at_m1, at_m2, scD, emD, sizeLine_eq, ixN, sm_lit, mSrc, itemsD, plOf, rng1D, bNm, mSl, mPt, mNoP, slD, mPar, keepT, tmsO, setA, mFlow, zipX, enumX, itemsX, intsOf, ints_all, boolsOf, shaped_lay, lay_int, lay_bool, lay_none, lay_dict, lay_tup, lay_list, lay_ints, sortX_ints, mPlF, mPlI, mRd, mPU, mPB, mFSet, mFNew, mNSet, mPApp, mPSetIx, mPPop, mMeth, mNew, isIns, cellO, mLstN, mAddN, mAppN, semX, mTold, mCallX, xRet, xExpr, xSet, mRaise, mM, isL, isS, mOrV, truD, mFor, forL, mLc, lcL, sameC, wipeC, restC, mYes, *])
local macro_rules | `(tactic| walk_at "rg") => `(tactic| (and_intros <;> grind))
local macro_rules | `(tactic| walk_at "nx") => `(tactic| (apply wx_nx; focus (walk_at "ev"; try first | exact ⟨rfl, rfl⟩ | rfl)))
local macro_rules | `(tactic| walk_at "ns") => `(tactic| (apply wx_nx; focus (walk_at "es"; try first | exact ⟨rfl, rfl⟩ | rfl)))
local macro_rules | `(tactic| walk_at "rt") => `(tactic| (apply wx_rt; focus (walk_at "ev"; try first | exact ⟨rfl, rfl⟩ | rfl)))
local macro_rules | `(tactic| walk_at "rs") => `(tactic| (apply wx_rt; focus (walk_at "es"; try first | exact ⟨rfl, rfl⟩ | rfl)))
local macro_rules | `(tactic| walk_at "ed") => `(tactic| simp [semF, shared, after, mSeq, mSkip, mIf, mRet, mRetN, mRetV, mSet, mSetIx, mExpr, mB, mU, mTm, mPl, mK, mVar, mOp, mCons, mNil, bor, bors, mTst, mAndT, mOrT, mNotT, mAndE, mOrE, mNotE, mIfE, mIsi, isiD, mChn, chnL, cmpD, binD, addD, subD, mulD, modD, fdivD, powD, eqD, neD, ltD, leD, gtD, geD, isD, isnD, L2.M.isNon, negD, ixD, Bf.f, Bg.f, lenD, L2.M.intD, maxD, minD, repD, strD, gmaxD, gminD, sumD, sortD, anyD, allD, mCall, frz, fzO, lend, wb, mTup, mLst, fzs, cD, mAsg, bTup, bTps, mApp, tupD, lstD, mRev, revD, ofs_inj, ee_ii, ee_ss, ee_bb, ee_nn, ee_is, ee_si, ee_in, ee_ni, ee_tt, ee_ll, ee_maps, ee_0, ee_1, ee_2, ee_3, at_lit, at_nat, at_m1, at_m2, scD, emD, sizeLine_eq, ixN, sm_lit, mSrc, itemsD, plOf, rng1D, bNm, mSl, mPt, mNoP, slD, mPar, keepT, tmsO, setA, mFlow, zipX, enumX, itemsX, intsOf, ints_all, boolsOf, shaped_lay, lay_int, lay_bool, lay_none, lay_dict, lay_tup, lay_list, lay_ints, sortX_ints, mPlF, mPlI, mRd, mPU, mPB, mFSet, mFNew, mNSet, mPApp, mPSetIx, mPPop, mMeth, mNew, isIns, cellO, mLstN, mAddN, mAppN, semX, mTold, mCallX, xRet, xExpr, xSet, mRaise, mM, isL, isS, mOrV, truD, mDNew, mDIn, mDGet, mDLen, mDPut, kyD, mNNew, mN1, mTake, mFnV, mCallF, mNIn, mNGet, mNPut, mNVals, mNList, nKs, mDGetD, mDList, mNNe, *])
@[simp] theorem lets_eq (g : PyData) (s : Sg) (t : Int) : g_lets [.sh g, .sh s.d, .sh (.int t)] = some (.sh (.tuple [.bool (letT s t), (letS s t).d]), [.sh g, .sh s.d, .sh (.int t)]) := by
  unfold g_lets m_lets
  cases s with
  | op b => simp only [Sg.d, letT, letS]; walk_at "ev"
  | sh u n => by_cases c : t < u <;> simp only [Sg.d, letT, letS, c] <;> walk_at "es"
  | tr g n => simp only [Sg.d, letT, letS]; walk_at "ev"
end KW
namespace KW
open PySem PySem.Spec PyProof.Rows L2 L2.M
local macro_rules | `(tactic| walk_at "ev") => `(tactic| simp [semF, shared, after, mSeq, mSkip, mIf, mRet, mRetN, mRetV, mSet, mSetIx, mExpr, mB, mU, mTm, mPl, mK, mVar, mOp, mCons, mNil, bor, bors, mTst, mAndT, mOrT, mNotT, mAndE, mOrE, mNotE, mIfE, mIsi, isiD, mChn, chnL, cmpD, binD, addD, subD, mulD, modD, fdivD, powD, eqD, neD, ltD, leD, gtD, geD, isD, isnD, L2.M.isNon, negD, ixD, Bf.f, Bg.f, lenD, L2.M.intD, maxD, minD, repD, strD, gmaxD, gminD, sumD, sortD, anyD, allD, mCall, frz, fzO, lend, wb, mTup, mLst, fzs, cD, mAsg, bTup, bTps, mApp, tupD, lstD, mRev, revD, ofs_inj, ee_ii, ee_ss, ee_bb, ee_nn, ee_is, ee_si, ee_in, ee_ni, ee_tt, ee_ll, ee_maps, ee_0, ee_1, ee_2, ee_3, at_lit, at_nat, at_m1, at_m2, scD, emD, sizeLine_eq, ixN, sm_lit, mSrc, itemsD, plOf, rng1D, bNm, mSl, mPt, mNoP, slD, mPar, keepT, tmsO, setA, mFlow, zipX, enumX, itemsX, intsOf, ints_all, boolsOf, shaped_lay, lay_int, lay_bool, lay_none, lay_dict, lay_tup, lay_list, lay_ints, sortX_ints, mPlF, mPlI, mRd, mPU, mPB, mFSet, mFNew, mNSet, mPApp, mPSetIx, mPPop, mMeth, mNew, isIns, cellO, mLstN, mAddN, mAppN, semX, mTold, mCallX, xRet, xExpr, xSet, mRaise, mM, isL, isS, mOrV, truD])
local macro_rules | `(tactic| walk_at "es") => `(tactic| simp [semF, shared, after, mSeq, mSkip, mIf, mRet, mRetN, mRetV, mSet, mSetIx, mExpr, mB, mU, mTm, mPl, mK, mVar, mOp, mCons, mNil, bor, bors, mTst, mAndT, mOrT, mNotT, mAndE, mOrE, mNotE, mIfE, mIsi, isiD, mChn, chnL, cmpD, binD, addD, subD, mulD, modD, fdivD, powD, eqD, neD, ltD, leD, gtD, geD, isD, isnD, L2.M.isNon, negD, ixD, Bf.f, Bg.f, lenD, L2.M.intD, maxD, minD, repD, strD, gmaxD, gminD, sumD, sortD, anyD, allD, mCall, frz, fzO, lend, wb, mTup, mLst, fzs, cD, mAsg, bTup, bTps, mApp, tupD, lstD, mRev, revD, ofs_inj, ee_ii, ee_ss, ee_bb, ee_nn, ee_is, ee_si, ee_in, ee_ni, ee_tt, ee_ll, ee_maps, ee_0, ee_1, ee_2, ee_3, at_lit, at_nat, at_m1, at_m2, scD, emD, sizeLine_eq, ixN, sm_lit, mSrc, itemsD, plOf, rng1D, bNm, mSl, mPt, mNoP, slD, mPar, keepT, tmsO, setA, mFlow, zipX, enumX, itemsX, intsOf, ints_all, boolsOf, shaped_lay, lay_int, lay_bool, lay_none, lay_dict, lay_tup, lay_list, lay_ints, sortX_ints, mPlF, mPlI, mRd, mPU, mPB, mFSet, mFNew, mNSet, mPApp, mPSetIx, mPPop, mMeth, mNew, isIns, cellO, mLstN, mAddN, mAppN, semX, mTold, mCallX, xRet, xExpr, xSet, mRaise, mM, isL, isS, mOrV, truD, *])
local macro_rules | `(tactic| walk_at "el") => `(tactic| simp [semF, shared, after, mSeq, mSkip, mIf, mRet, mRetN, mRetV, mSet, mSetIx, mExpr, mB, mU, mTm, mPl, mK, mVar, mOp, mCons, mNil, bor, bors, mTst, mAndT, mOrT, mNotT, mAndE, mOrE, mNotE, mIfE, mIsi, isiD, mChn, chnL, cmpD, binD, addD, subD, mulD, modD, fdivD, powD, eqD, neD, ltD, leD, gtD, geD, isD, isnD, L2.M.isNon, negD, ixD, Bf.f, Bg.f, lenD, L2.M.intD, maxD, minD, repD, strD, gmaxD, gminD, sumD, sortD, anyD, allD, mCall, frz, fzO, lend, wb, mTup, mLst, fzs, cD, mAsg, bTup, bTps, mApp, tupD, lstD, mRev, revD, ofs_inj, ee_ii, ee_ss, ee_bb, ee_nn, ee_is, ee_si, ee_in, ee_ni, ee_tt, ee_ll, ee_maps, ee_0, ee_1, ee_2, ee_3, at_lit, at_nat, at_m1, at_m2, scD, emD, sizeLine_eq, ixN, sm_lit, mSrc, itemsD, plOf, rng1D, bNm, mSl, mPt, mNoP, slD, mPar, keepT, tmsO, setA, mFlow, zipX, enumX, itemsX, intsOf, ints_all, boolsOf, shaped_lay, lay_int, lay_bool, lay_none, lay_dict, lay_tup, lay_list, lay_ints, sortX_ints, mPlF, mPlI, mRd, mPU, mPB, mFSet, mFNew, mNSet, mPApp, mPSetIx, mPPop, mMeth, mNew, isIns, cellO, mLstN, mAddN, mAppN, semX, mTold, mCallX, xRet, xExpr, xSet, mRaise, mM, isL, isS, mOrV, truD, mLc, lcL, sameC, wipeC, restC, mYes, *])
local macro_rules | `(tactic| walk_at "ef") => `(tactic| simp [semF, shared, after, mSeq, mSkip, mIf, mRet, mRetN, mRetV, mSet, mSetIx, mExpr, mB, mU, mTm, mPl, mK, mVar, mOp, mCons, mNil, bor, bors, mTst, mAndT, mOrT, mNotT, mAndE, mOrE, mNotE, mIfE, mIsi, isiD, mChn, chnL, cmpD, binD, addD, subD, mulD, modD, fdivD, powD, eqD, neD, ltD, leD, gtD, geD, isD, isnD, L2.M.isNon, negD, ixD, Bf.f, Bg.f, lenD, L2.M.intD, maxD, minD, repD, strD, gmaxD, gminD, sumD, sortD, anyD, allD, mCall, frz, fzO, lend, wb, mTup, mLst, fzs, cD, mAsg, bTup, bTps, mApp, tupD, lstD, mRev, revD, ofs_inj, ee_ii, ee_ss, ee_bb, ee_nn, ee_is, ee_si, ee_in, ee_ni, ee_tt, ee_ll, ee_maps, ee_0, ee_1, ee_2, ee_3, at_lit, at_nat, at_m1, at_m2, scD, emD, sizeLine_eq, ixN, sm_lit, mSrc, itemsD, plOf, rng1D, bNm, mSl, mPt, mNoP, slD, mPar, keepT, tmsO, setA, mFlow, zipX, enumX, itemsX, intsOf, ints_all, boolsOf, shaped_lay, lay_int, lay_bool, lay_none, lay_dict, lay_tup, lay_list, lay_ints, sortX_ints, mPlF, mPlI, mRd, mPU, mPB, mFSet, mFNew, mNSet, mPApp, mPSetIx, mPPop, mMeth, mNew, isIns, cellO, mLstN, mAddN, mAppN, semX, mTold, mCallX, xRet, xExpr, xSet, mRaise, mM, isL, isS, mOrV, truD, mFor, forL, mLc, lcL, sameC, wipeC, restC, mYes, *])
local macro_rules | `(tactic| walk_at "rg") => `(tactic| (and_intros <;> grind))
local macro_rules | `(tactic| walk_at "nx") => `(tactic| (apply wx_nx; focus (walk_at "ev"; try first | exact ⟨rfl, rfl⟩ | rfl)))
local macro_rules | `(tactic| walk_at "ns") => `(tactic| (apply wx_nx; focus (walk_at "es"; try first | exact ⟨rfl, rfl⟩ | rfl)))
local macro_rules | `(tactic| walk_at "rt") => `(tactic| (apply wx_rt; focus (walk_at "ev"; try first | exact ⟨rfl, rfl⟩ | rfl)))
local macro_rules | `(tactic| walk_at "rs") => `(tactic| (apply wx_rt; focus (walk_at "es"; try first | exact ⟨rfl, rfl⟩ | rfl)))
local macro_rules | `(tactic| walk_at "ed") => `(tactic| simp [semF, shared, after, mSeq, mSkip, mIf, mRet, mRetN, mRetV, mSet, mSetIx, mExpr, mB, mU, mTm, mPl, mK, mVar, mOp, mCons, mNil, bor, bors, mTst, mAndT, mOrT, mNotT, mAndE, mOrE, mNotE, mIfE, mIsi, isiD, mChn, chnL, cmpD, binD, addD, subD, mulD, modD, fdivD, powD, eqD, neD, ltD, leD, gtD, geD, isD, isnD, L2.M.isNon, negD, ixD, Bf.f, Bg.f, lenD, L2.M.intD, maxD, minD, repD, strD, gmaxD, gminD, sumD, sortD, anyD, allD, mCall, frz, fzO, lend, wb, mTup, mLst, fzs, cD, mAsg, bTup, bTps, mApp, tupD, lstD, mRev, revD, ofs_inj, ee_ii, ee_ss, ee_bb, ee_nn, ee_is, ee_si, ee_in, ee_ni, ee_tt, ee_ll, ee_maps, ee_0, ee_1, ee_2, ee_3, at_lit, at_nat, at_m1, at_m2, scD, emD, sizeLine_eq, ixN, sm_lit, mSrc, itemsD, plOf, rng1D, bNm, mSl, mPt, mNoP, slD, mPar, keepT, tmsO, setA, mFlow, zipX, enumX, itemsX, intsOf, ints_all, boolsOf, shaped_lay, lay_int, lay_bool, lay_none, lay_dict, lay_tup, lay_list, lay_ints, sortX_ints, mPlF, mPlI, mRd, mPU, mPB, mFSet, mFNew, mNSet, mPApp, mPSetIx, mPPop, mMeth, mNew, isIns, cellO, mLstN, mAddN, mAppN, semX, mTold, mCallX, xRet, xExpr, xSet, mRaise, mM, isL, isS, mOrV, truD, mDNew, mDIn, mDGet, mDLen, mDPut, kyD, mNNew, mN1, mTake, mFnV, mCallF, mNIn, mNGet, mNPut, mNVals, mNList, nKs, mDGetD, mDList, mNNe, *])
theorem heard_eq {F R T M N : Int} (G : Gt F R T M N) {s : Sg} (h : isShut s = false) (hb : SgB s) (t : Int) (a : Bool) : g_heard [.sh (gt5 F R T M N), .sh s.d, .sh (.int t), .sh (.bool a)] = some (.sh (hrd F R T M N s t a).d, [.sh (gt5 F R T M N), .sh s.d, .sh (.int t), .sh (.bool a)]) := by
  have st : sm T := ⟨by have := G.t1; omega, by have := G.t2; omega⟩
  clear G
  unfold g_heard m_heard
  cases s with
  | op b =>
    cases a with
    | true => simp only [Sg.d, hrd]; walk_at "ev"
    | false => by_cases c : b + 1 < F <;> simp only [Sg.d, hrd, c] <;> walk_at "es"
  | sh u n => cases h
  | tr g n =>
    have sn : sm n := ⟨by have := hb.2.2.1; omega, by have := hb.2.2.2; omega⟩
    clear hb h
    cases a with
    | true => by_cases c : g + 1 < N <;> simp only [Sg.d, hrd, c] <;> walk_at "es"
    | false => by_cases c : T * n < M <;> simp only [Sg.d, hrd, c] <;> walk_at "es"
end KW
namespace KW
open PySem PySem.Spec PyProof.Rows L2 L2.M
local macro_rules | `(tactic| walk_at "ev") => `(tactic| simp [semF, shared, after, mSeq, mSkip, mIf, mRet, mRetN, mRetV, mSet, mSetIx, mExpr, mB, mU, mTm, mPl, mK, mVar, mOp, mCons, mNil, bor, bors, mTst, mAndT, mOrT, mNotT, mAndE, mOrE, mNotE, mIfE, mIsi, isiD, mChn, chnL, cmpD, binD, addD, subD, mulD, modD, fdivD, powD, eqD, neD, ltD, leD, gtD, geD, isD, isnD, L2.M.isNon, negD, ixD, Bf.f, Bg.f, lenD, L2.M.intD, maxD, minD, repD, strD, gmaxD, gminD, sumD, sortD, anyD, allD, mCall, frz, fzO, lend, wb, mTup, mLst, fzs, cD, mAsg, bTup, bTps, mApp, tupD, lstD, mRev, revD, ofs_inj, ee_ii, ee_ss, ee_bb, ee_nn, ee_is, ee_si, ee_in, ee_ni, ee_tt, ee_ll, ee_maps, ee_0, ee_1, ee_2, ee_3, at_lit, at_nat, at_m1, at_m2, scD, emD, sizeLine_eq, ixN, sm_lit, mSrc, itemsD, plOf, rng1D, bNm, mSl, mPt, mNoP, slD, mPar, keepT, tmsO, setA, mFlow, zipX, enumX, itemsX, intsOf, ints_all, boolsOf, shaped_lay, lay_int, lay_bool, lay_none, lay_dict, lay_tup, lay_list, lay_ints, sortX_ints, mPlF, mPlI, mRd, mPU, mPB, mFSet, mFNew, mNSet, mPApp, mPSetIx, mPPop, mMeth, mNew, isIns, cellO, mLstN, mAddN, mAppN, semX, mTold, mCallX, xRet, xExpr, xSet, mRaise, mM, isL, isS, mOrV, truD])
local macro_rules | `(tactic| walk_at "es") => `(tactic| simp [semF, shared, after, mSeq, mSkip, mIf, mRet, mRetN, mRetV, mSet, mSetIx, mExpr, mB, mU, mTm, mPl, mK, mVar, mOp, mCons, mNil, bor, bors, mTst, mAndT, mOrT, mNotT, mAndE, mOrE, mNotE, mIfE, mIsi, isiD, mChn, chnL, cmpD, binD, addD, subD, mulD, modD, fdivD, powD, eqD, neD, ltD, leD, gtD, geD, isD, isnD, L2.M.isNon, negD, ixD, Bf.f, Bg.f, lenD, L2.M.intD, maxD, minD, repD, strD, gmaxD, gminD, sumD, sortD, anyD, allD, mCall, frz, fzO, lend, wb, mTup, mLst, fzs, cD, mAsg, bTup, bTps, mApp, tupD, lstD, mRev, revD, ofs_inj, ee_ii, ee_ss, ee_bb, ee_nn, ee_is, ee_si, ee_in, ee_ni, ee_tt, ee_ll, ee_maps, ee_0, ee_1, ee_2, ee_3, at_lit, at_nat, at_m1, at_m2, scD, emD, sizeLine_eq, ixN, sm_lit, mSrc, itemsD, plOf, rng1D, bNm, mSl, mPt, mNoP, slD, mPar, keepT, tmsO, setA, mFlow, zipX, enumX, itemsX, intsOf, ints_all, boolsOf, shaped_lay, lay_int, lay_bool, lay_none, lay_dict, lay_tup, lay_list, lay_ints, sortX_ints, mPlF, mPlI, mRd, mPU, mPB, mFSet, mFNew, mNSet, mPApp, mPSetIx, mPPop, mMeth, mNew, isIns, cellO, mLstN, mAddN, mAppN, semX, mTold, mCallX, xRet, xExpr, xSet, mRaise, mM, isL, isS, mOrV, truD, *])
local macro_rules | `(tactic| walk_at "el") => `(tactic| simp [semF, shared, after, mSeq, mSkip, mIf, mRet, mRetN, mRetV, mSet, mSetIx, mExpr, mB, mU, mTm, mPl, mK, mVar, mOp, mCons, mNil, bor, bors, mTst, mAndT, mOrT, mNotT, mAndE, mOrE, mNotE, mIfE, mIsi, isiD, mChn, chnL, cmpD, binD, addD, subD, mulD, modD, fdivD, powD, eqD, neD, ltD, leD, gtD, geD, isD, isnD, L2.M.isNon, negD, ixD, Bf.f, Bg.f, lenD, L2.M.intD, maxD, minD, repD, strD, gmaxD, gminD, sumD, sortD, anyD, allD, mCall, frz, fzO, lend, wb, mTup, mLst, fzs, cD, mAsg, bTup, bTps, mApp, tupD, lstD, mRev, revD, ofs_inj, ee_ii, ee_ss, ee_bb, ee_nn, ee_is, ee_si, ee_in, ee_ni, ee_tt, ee_ll, ee_maps, ee_0, ee_1, ee_2, ee_3, at_lit, at_nat, at_m1, at_m2, scD, emD, sizeLine_eq, ixN, sm_lit, mSrc, itemsD, plOf, rng1D, bNm, mSl, mPt, mNoP, slD, mPar, keepT, tmsO, setA, mFlow, zipX, enumX, itemsX, intsOf, ints_all, boolsOf, shaped_lay, lay_int, lay_bool, lay_none, lay_dict, lay_tup, lay_list, lay_ints, sortX_ints, mPlF, mPlI, mRd, mPU, mPB, mFSet, mFNew, mNSet, mPApp, mPSetIx, mPPop, mMeth, mNew, isIns, cellO, mLstN, mAddN, mAppN, semX, mTold, mCallX, xRet, xExpr, xSet, mRaise, mM, isL, isS, mOrV, truD, mLc, lcL, sameC, wipeC, restC, mYes, *])
local macro_rules | `(tactic| walk_at "ef") => `(tactic| simp [semF, shared, after, mSeq, mSkip, mIf, mRet, mRetN, mRetV, mSet, mSetIx, mExpr, mB, mU, mTm, mPl, mK, mVar, mOp, mCons, mNil, bor, bors, mTst, mAndT, mOrT, mNotT, mAndE, mOrE, mNotE, mIfE, mIsi, isiD, mChn, chnL, cmpD, binD, addD, subD, mulD, modD, fdivD, powD, eqD, neD, ltD, leD, gtD, geD, isD, isnD, L2.M.isNon, negD, ixD, Bf.f, Bg.f, lenD, L2.M.intD, maxD, minD, repD, strD, gmaxD, gminD, sumD, sortD, anyD, allD, mCall, frz, fzO, lend, wb, mTup, mLst, fzs, cD, mAsg, bTup, bTps, mApp, tupD, lstD, mRev, revD, ofs_inj, ee_ii, ee_ss, ee_bb, ee_nn, ee_is, ee_si, ee_in, ee_ni, ee_tt, ee_ll, ee_maps, ee_0, ee_1, ee_2, ee_3, at_lit, at_nat, at_m1, at_m2, scD, emD, sizeLine_eq, ixN, sm_lit, mSrc, itemsD, plOf, rng1D, bNm, mSl, mPt, mNoP, slD, mPar, keepT, tmsO, setA, mFlow, zipX, enumX, itemsX, intsOf, ints_all, boolsOf, shaped_lay, lay_int, lay_bool, lay_none, lay_dict, lay_tup, lay_list, lay_ints, sortX_ints, mPlF, mPlI, mRd, mPU, mPB, mFSet, mFNew, mNSet, mPApp, mPSetIx, mPPop, mMeth, mNew, isIns, cellO, mLstN, mAddN, mAppN, semX, mTold, mCallX, xRet, xExpr, xSet, mRaise, mM, isL, isS, mOrV, truD, mFor, forL, mLc, lcL, sameC, wipeC, restC, mYes, *])
local macro_rules | `(tactic| walk_at "rg") => `(tactic| (and_intros <;> grind))
local macro_rules | `(tactic| walk_at "nx") => `(tactic| (apply wx_nx; focus (walk_at "ev"; try first | exact ⟨rfl, rfl⟩ | rfl)))
local macro_rules | `(tactic| walk_at "ns") => `(tactic| (apply wx_nx; focus (walk_at "es"; try first | exact ⟨rfl, rfl⟩ | rfl)))
local macro_rules | `(tactic| walk_at "rt") => `(tactic| (apply wx_rt; focus (walk_at "ev"; try first | exact ⟨rfl, rfl⟩ | rfl)))
local macro_rules | `(tactic| walk_at "rs") => `(tactic| (apply wx_rt; focus (walk_at "es"; try first | exact ⟨rfl, rfl⟩ | rfl)))
local macro_rules | `(tactic| walk_at "ed") => `(tactic| simp [semF, shared, after, mSeq, mSkip, mIf, mRet, mRetN, mRetV, mSet, mSetIx, mExpr, mB, mU, mTm, mPl, mK, mVar, mOp, mCons, mNil, bor, bors, mTst, mAndT, mOrT, mNotT, mAndE, mOrE, mNotE, mIfE, mIsi, isiD, mChn, chnL, cmpD, binD, addD, subD, mulD, modD, fdivD, powD, eqD, neD, ltD, leD, gtD, geD, isD, isnD, L2.M.isNon, negD, ixD, Bf.f, Bg.f, lenD, L2.M.intD, maxD, minD, repD, strD, gmaxD, gminD, sumD, sortD, anyD, allD, mCall, frz, fzO, lend, wb, mTup, mLst, fzs, cD, mAsg, bTup, bTps, mApp, tupD, lstD, mRev, revD, ofs_inj, ee_ii, ee_ss, ee_bb, ee_nn, ee_is, ee_si, ee_in, ee_ni, ee_tt, ee_ll, ee_maps, ee_0, ee_1, ee_2, ee_3, at_lit, at_nat, at_m1, at_m2, scD, emD, sizeLine_eq, ixN, sm_lit, mSrc, itemsD, plOf, rng1D, bNm, mSl, mPt, mNoP, slD, mPar, keepT, tmsO, setA, mFlow, zipX, enumX, itemsX, intsOf, ints_all, boolsOf, shaped_lay, lay_int, lay_bool, lay_none, lay_dict, lay_tup, lay_list, lay_ints, sortX_ints, mPlF, mPlI, mRd, mPU, mPB, mFSet, mFNew, mNSet, mPApp, mPSetIx, mPPop, mMeth, mNew, isIns, cellO, mLstN, mAddN, mAppN, semX, mTold, mCallX, xRet, xExpr, xSet, mRaise, mM, isL, isS, mOrV, truD, mDNew, mDIn, mDGet, mDLen, mDPut, kyD, mNNew, mN1, mTake, mFnV, mCallF, mNIn, mNGet, mNPut, mNVals, mNList, nKs, mDGetD, mDList, mNNe, *])
abbrev btC (q : Ca) (t : Int) (a : Bool) (W : C) (c : Int) (s : Sg) (n : Int) (e : List PyData) : C := .ob (.ins "Beat" ["plan", "purse", "gate", "beat", "waiting", "coins", "stand", "begun", "sound", "events"]) [.sh q.pl, .sh q.pu, .sh q.ga, .sh (.int t), W, .sh (.int c), .sh s.d, .sh (.int n), .sh (.bool a), .ls e]
abbrev btB (q : Ca) (t : Int) (a : Bool) (st : Bs) : C := btC q t a (.ls (st.w.map Wt.d)) st.c st.s st.n st.e
theorem gap_q {q : Ca} (h : q.Ok) (k : Int) (hk : 1 ≤ k) : g_gap_at [.sh q.gp, .sh (.int k)] = some (.sh (.int (q.gap k)), [.sh q.gp, .sh (.int k)]) := gap_at_eq h.g k hk
theorem goes_on_eq {q : Ca} (h : q.Ok) (t : Int) (a : Bool) (st : Bs) (n b k : Int) (hk : 1 ≤ k) (hw : st.w.length < 16777216) : g_Beat_goes_on [btB q t a st, .sh (.int n), .sh (.int b), .sh (.int k)] = some (.sh (whatD q t st.c b k), [btB q t a (goS q t st n b k), .sh (.int n), .sh (.int b), .sh (.int k)]) := by
  have e1 := gap_q h k hk
  clear h hk
  generalize hg : q.gap k = g at e1
  unfold g_Beat_goes_on m_Beat_goes_on
  by_cases c1 : q.K ≤ k
  · have c1' : ¬ k < q.K := by omega
    simp only [whatD, goS, goes, hg]
    simp only [btB, btC, Ca.pl, Ca.pu]
    walk_at "es"
  · have c1' : k < q.K := by omega
    by_cases c2 : b + q.Z < t + g
    · have c2' : ¬ t + g ≤ b + q.Z := by omega
      simp only [whatD, goS, goes, hg]
      simp only [btB, btC, Ca.pl, Ca.pu]
      walk_at "es"
    · have c2' : t + g ≤ b + q.Z := by omega
      by_cases c3 : st.c < q.r
      · have c3' : ¬ q.r ≤ st.c := by omega
        simp only [whatD, goS, goes, hg]
        simp only [btB, btC, Ca.pl, Ca.pu]
        walk_at "es"
      · have c3' : q.r ≤ st.c := by omega
        simp only [whatD, goS, goes, hg]
        simp only [btB, btC, Ca.pl, Ca.pu]
        walk_at "es"
        simp [Wt.d]
end KW
namespace KW
open PySem PySem.Spec PyProof.Rows L2 L2.M
local macro_rules | `(tactic| walk_at "ev") => `(tactic| simp [semF, shared, after, mSeq, mSkip, mIf, mRet, mRetN, mRetV, mSet, mSetIx, mExpr, mB, mU, mTm, mPl, mK, mVar, mOp, mCons, mNil, bor, bors, mTst, mAndT, mOrT, mNotT, mAndE, mOrE, mNotE, mIfE, mIsi, isiD, mChn, chnL, cmpD, binD, addD, subD, mulD, modD, fdivD, powD, eqD, neD, ltD, leD, gtD, geD, isD, isnD, L2.M.isNon, negD, ixD, Bf.f, Bg.f, lenD, L2.M.intD, maxD, minD, repD, strD, gmaxD, gminD, sumD, sortD, anyD, allD, mCall, frz, fzO, lend, wb, mTup, mLst, fzs, cD, mAsg, bTup, bTps, mApp, tupD, lstD, mRev, revD, ofs_inj, ee_ii, ee_ss, ee_bb, ee_nn, ee_is, ee_si, ee_in, ee_ni, ee_tt, ee_ll, ee_maps, ee_0, ee_1, ee_2, ee_3, at_lit, at_nat, at_m1, at_m2, scD, emD, sizeLine_eq, ixN, sm_lit, mSrc, itemsD, plOf, rng1D, bNm, mSl, mPt, mNoP, slD, mPar, keepT, tmsO, setA, mFlow, zipX, enumX, itemsX, intsOf, ints_all, boolsOf, shaped_lay, lay_int, lay_bool, lay_none, lay_dict, lay_tup, lay_list, lay_ints, sortX_ints, mPlF, mPlI, mRd, mPU, mPB, mFSet, mFNew, mNSet, mPApp, mPSetIx, mPPop, mMeth, mNew, isIns, cellO, mLstN, mAddN, mAppN, semX, mTold, mCallX, xRet, xExpr, xSet, mRaise, mM, isL, isS, mOrV, truD])
local macro_rules | `(tactic| walk_at "es") => `(tactic| simp [semF, shared, after, mSeq, mSkip, mIf, mRet, mRetN, mRetV, mSet, mSetIx, mExpr, mB, mU, mTm, mPl, mK, mVar, mOp, mCons, mNil, bor, bors, mTst, mAndT, mOrT, mNotT, mAndE, mOrE, mNotE, mIfE, mIsi, isiD, mChn, chnL, cmpD, binD, addD, subD, mulD, modD, fdivD, powD, eqD, neD, ltD, leD, gtD, geD, isD, isnD, L2.M.isNon, negD, ixD, Bf.f, Bg.f, lenD, L2.M.intD, maxD, minD, repD, strD, gmaxD, gminD, sumD, sortD, anyD, allD, mCall, frz, fzO, lend, wb, mTup, mLst, fzs, cD, mAsg, bTup, bTps, mApp, tupD, lstD, mRev, revD, ofs_inj, ee_ii, ee_ss, ee_bb, ee_nn, ee_is, ee_si, ee_in, ee_ni, ee_tt, ee_ll, ee_maps, ee_0, ee_1, ee_2, ee_3, at_lit, at_nat, at_m1, at_m2, scD, emD, sizeLine_eq, ixN, sm_lit, mSrc, itemsD, plOf, rng1D, bNm, mSl, mPt, mNoP, slD, mPar, keepT, tmsO, setA, mFlow, zipX, enumX, itemsX, intsOf, ints_all, boolsOf, shaped_lay, lay_int, lay_bool, lay_none, lay_dict, lay_tup, lay_list, lay_ints, sortX_ints, mPlF, mPlI, mRd, mPU, mPB, mFSet, mFNew, mNSet, mPApp, mPSetIx, mPPop, mMeth, mNew, isIns, cellO, mLstN, mAddN, mAppN, semX, mTold, mCallX, xRet, xExpr, xSet, mRaise, mM, isL, isS, mOrV, truD, *])
local macro_rules | `(tactic| walk_at "el") => `(tactic| simp [semF, shared, after, mSeq, mSkip, mIf, mRet, mRetN, mRetV, mSet, mSetIx, mExpr, mB, mU, mTm, mPl, mK, mVar, mOp, mCons, mNil, bor, bors, mTst, mAndT, mOrT, mNotT, mAndE, mOrE, mNotE, mIfE, mIsi, isiD, mChn, chnL, cmpD, binD, addD, subD, mulD, modD, fdivD, powD, eqD, neD, ltD, leD, gtD, geD, isD, isnD, L2.M.isNon, negD, ixD, Bf.f, Bg.f, lenD, L2.M.intD, maxD, minD, repD, strD, gmaxD, gminD, sumD, sortD, anyD, allD, mCall, frz, fzO, lend, wb, mTup, mLst, fzs, cD, mAsg, bTup, bTps, mApp, tupD, lstD, mRev, revD, ofs_inj, ee_ii, ee_ss, ee_bb, ee_nn, ee_is, ee_si, ee_in, ee_ni, ee_tt, ee_ll, ee_maps, ee_0, ee_1, ee_2, ee_3, at_lit, at_nat, at_m1, at_m2, scD, emD, sizeLine_eq, ixN, sm_lit, mSrc, itemsD, plOf, rng1D, bNm, mSl, mPt, mNoP, slD, mPar, keepT, tmsO, setA, mFlow, zipX, enumX, itemsX, intsOf, ints_all, boolsOf, shaped_lay, lay_int, lay_bool, lay_none, lay_dict, lay_tup, lay_list, lay_ints, sortX_ints, mPlF, mPlI, mRd, mPU, mPB, mFSet, mFNew, mNSet, mPApp, mPSetIx, mPPop, mMeth, mNew, isIns, cellO, mLstN, mAddN, mAppN, semX, mTold, mCallX, xRet, xExpr, xSet, mRaise, mM, isL, isS, mOrV, truD, mLc, lcL, sameC, wipeC, restC, mYes, *])
local macro_rules | `(tactic| walk_at "ef") => `(tactic| simp [semF, shared, after, mSeq, mSkip, mIf, mRet, mRetN, mRetV, mSet, mSetIx, mExpr, mB, mU, mTm, mPl, mK, mVar, mOp, mCons, mNil, bor, bors, mTst, mAndT, mOrT, mNotT, mAndE, mOrE, mNotE, mIfE, mIsi, isiD, mChn, chnL, cmpD, binD, addD, subD, mulD, modD, fdivD, powD, eqD, neD, ltD, leD, gtD, geD, isD, isnD, L2.M.isNon, negD, ixD, Bf.f, Bg.f, lenD, L2.M.intD, maxD, minD, repD, strD, gmaxD, gminD, sumD, sortD, anyD, allD, mCall, frz, fzO, lend, wb, mTup, mLst, fzs, cD, mAsg, bTup, bTps, mApp, tupD, lstD, mRev, revD, ofs_inj, ee_ii, ee_ss, ee_bb, ee_nn, ee_is, ee_si, ee_in, ee_ni, ee_tt, ee_ll, ee_maps, ee_0, ee_1, ee_2, ee_3, at_lit, at_nat, at_m1, at_m2, scD, emD, sizeLine_eq, ixN, sm_lit, mSrc, itemsD, plOf, rng1D, bNm, mSl, mPt, mNoP, slD, mPar, keepT, tmsO, setA, mFlow, zipX, enumX, itemsX, intsOf, ints_all, boolsOf, shaped_lay, lay_int, lay_bool, lay_none, lay_dict, lay_tup, lay_list, lay_ints, sortX_ints, mPlF, mPlI, mRd, mPU, mPB, mFSet, mFNew, mNSet, mPApp, mPSetIx, mPPop, mMeth, mNew, isIns, cellO, mLstN, mAddN, mAppN, semX, mTold, mCallX, xRet, xExpr, xSet, mRaise, mM, isL, isS, mOrV, truD, mFor, forL, mLc, lcL, sameC, wipeC, restC, mYes, *])
local macro_rules | `(tactic| walk_at "rg") => `(tactic| (and_intros <;> grind))
local macro_rules | `(tactic| walk_at "nx") => `(tactic| (apply wx_nx; focus (walk_at "ev"; try first | exact ⟨rfl, rfl⟩ | rfl)))
local macro_rules | `(tactic| walk_at "ns") => `(tactic| (apply wx_nx; focus (walk_at "es"; try first | exact ⟨rfl, rfl⟩ | rfl)))
local macro_rules | `(tactic| walk_at "rt") => `(tactic| (apply wx_rt; focus (walk_at "ev"; try first | exact ⟨rfl, rfl⟩ | rfl)))
local macro_rules | `(tactic| walk_at "rs") => `(tactic| (apply wx_rt; focus (walk_at "es"; try first | exact ⟨rfl, rfl⟩ | rfl)))
local macro_rules | `(tactic| walk_at "ed") => `(tactic| simp [semF, shared, after, mSeq, mSkip, mIf, mRet, mRetN, mRetV, mSet, mSetIx, mExpr, mB, mU, mTm, mPl, mK, mVar, mOp, mCons, mNil, bor, bors, mTst, mAndT, mOrT, mNotT, mAndE, mOrE, mNotE, mIfE, mIsi, isiD, mChn, chnL, cmpD, binD, addD, subD, mulD, modD, fdivD, powD, eqD, neD, ltD, leD, gtD, geD, isD, isnD, L2.M.isNon, negD, ixD, Bf.f, Bg.f, lenD, L2.M.intD, maxD, minD, repD, strD, gmaxD, gminD, sumD, sortD, anyD, allD, mCall, frz, fzO, lend, wb, mTup, mLst, fzs, cD, mAsg, bTup, bTps, mApp, tupD, lstD, mRev, revD, ofs_inj, ee_ii, ee_ss, ee_bb, ee_nn, ee_is, ee_si, ee_in, ee_ni, ee_tt, ee_ll, ee_maps, ee_0, ee_1, ee_2, ee_3, at_lit, at_nat, at_m1, at_m2, scD, emD, sizeLine_eq, ixN, sm_lit, mSrc, itemsD, plOf, rng1D, bNm, mSl, mPt, mNoP, slD, mPar, keepT, tmsO, setA, mFlow, zipX, enumX, itemsX, intsOf, ints_all, boolsOf, shaped_lay, lay_int, lay_bool, lay_none, lay_dict, lay_tup, lay_list, lay_ints, sortX_ints, mPlF, mPlI, mRd, mPU, mPB, mFSet, mFNew, mNSet, mPApp, mPSetIx, mPPop, mMeth, mNew, isIns, cellO, mLstN, mAddN, mAppN, semX, mTold, mCallX, xRet, xExpr, xSet, mRaise, mM, isL, isS, mOrV, truD, mDNew, mDIn, mDGet, mDLen, mDPut, kyD, mNNew, mN1, mTake, mFnV, mCallF, mNIn, mNGet, mNPut, mNVals, mNList, nKs, mDGetD, mDList, mNNe, *])
theorem goS_e (q : Ca) (t : Int) (st : Bs) (n b k : Int) : (goS q t st n b k).e = st.e := by
  unfold goS
  split <;> rfl
theorem tried_eq {q : Ca} (h : q.Ok) {t : Int} (t0 : 0 ≤ t) (t1 : t ≤ 10 ^ 8) (a : Bool) (st : Bs) (hs : SgB st.s) (n b k : Int) (hk : 0 ≤ k) (hw : st.w.length < 16777216) (he : st.e.length < 16777216) : g_Beat_tried [btB q t a st, .sh (.int n), .sh (.int b), .sh (.int k)] = some (.sh .none, [btB q t a (tri q t a st (n, b, k)), .sh (.int n), .sh (.int b), .sh (.int k)]) := by
  have e0 := lets_eq q.ga st.s t
  have e1 := goes_on_eq h t a { st with s := triS q t a st.s } n b (k + 1) (by omega) hw
  by_cases hl : letT st.s t = true
  · have e2 : g_heard [.sh q.ga, .sh (letS st.s t).d, .sh (.int t), .sh (.bool a)] = some (.sh (triS q t a st.s).d, [.sh q.ga, .sh (letS st.s t).d, .sh (.int t), .sh (.bool a)]) := by
      rw [triS, if_pos hl]
      exact heard_eq h.h (let_shut hl) (letS_b hs t) t a
    have hE := goS_e q t { st with s := triS q t a st.s } n b (k + 1)
    clear hs h hk t0 t1
    cases a with
    | true =>
      clear e1 hE
      have e3 : tri q t true st (n, b, k) = ⟨st.w, st.c, triS q t true st.s, st.n, st.e ++ [.tuple [.int n, .str "served", .none]]⟩ := by simp [tri, tri0, srv, evt, wrd, hl]
      rw [e3]
      generalize triS q t true st.s = S at *
      unfold g_Beat_tried m_Beat_tried
      simp only [btB, btC]
      walk_at "es"
    | false =>
      have e3 : tri q t false st (n, b, k) = { goS q t { st with s := triS q t false st.s } n b (k + 1) with e := st.e ++ [.tuple [.int n, .str "silent", whatD q t st.c b (k + 1)]] } := by simp [tri, tri0, srv, evt, wrd, hl]
      rw [e3]
      simp only [btB, btC] at e1
      generalize goS q t { st with s := triS q t false st.s } n b (k + 1) = G at *
      generalize whatD q t st.c b (k + 1) = D at *
      generalize triS q t false st.s = S at *
      simp only at hE e1
      unfold g_Beat_tried m_Beat_tried
      simp only [btB, btC]
      walk_at "es"
  · have hl2 : letT st.s t = false := by simpa using hl
    have e2 : triS q t a st.s = letS st.s t := by rw [triS, if_neg hl]
    have hE := goS_e q t { st with s := triS q t a st.s } n b (k + 1)
    have e3 : tri q t a st (n, b, k) = { goS q t { st with s := triS q t a st.s } n b (k + 1) with e := st.e ++ [.tuple [.int n, .str "held", whatD q t st.c b (k + 1)]] } := by simp [tri, tri0, srv, evt, wrd, hl]
    rw [e3]
    rw [e2] at e1 hE ⊢
    clear hs h hk t0 t1 hl e3 e2
    simp only [btB, btC] at e1
    generalize goS q t { st with s := letS st.s t } n b (k + 1) = G at *
    generalize whatD q t st.c b (k + 1) = D at *
    generalize letS st.s t = S at *
    simp only at hE e1
    unfold g_Beat_tried m_Beat_tried
    simp only [btB, btC]
    walk_at "es"
theorem tri_n (q : Ca) (t : Int) (a : Bool) (st : Bs) (x : Int × Int × Int) : (tri q t a st x).n = st.n := by
  unfold tri tri0 goS
  repeat' split
  all_goals rfl
theorem first_eq {q : Ca} (h : q.Ok) {t : Int} (t0 : 0 ≤ t) (t1 : t ≤ 10 ^ 8) (a : Bool) (st : Bs) (hs : SgB st.s) (hw : st.w.length < 16777216) (he : st.e.length < 16777216) : g_Beat_first [btB q t a st] = some (.sh .none, [btB q t a (fst1 q t a st)]) := by
  have e1 := tried_eq h t0 t1 a { st with c := (if st.c + q.p < q.cp then st.c + q.p else q.cp), n := st.n + 1 } hs st.n t 0 (by omega) hw he
  unfold g_Beat_first m_Beat_first
  unfold fst1
  simp only [btB, btC, tri_n, Ca.pl, Ca.pu] at e1 ⊢
  generalize tri q t a { st with c := (if st.c + q.p < q.cp then st.c + q.p else q.cp), n := st.n + 1 } (st.n, t, 0) = G at *
  by_cases c : st.c + q.p < q.cp
  · rw [if_pos c] at e1
    clear hs h t0 t1
    walk_at "es"
  · rw [if_neg c] at e1
    clear hs h t0 t1
    walk_at "es"
theorem init_eq (q : Ca) (z : Sd) (a : Bool) (hz : z.w.length ≤ 16777216) : g_Beat___init__ [.ob (.ins "Beat" []) [], .sh q.d, .sh z.d, .sh (.bool a)] = some (.sh .none, [btC q z.t a (.ls (z.w.map Wt.d)) z.c z.s z.n [], .sh q.d, .sh z.d, .sh (.bool a)]) := by
  unfold g_Beat___init__ m_Beat___init__
  simp only [Ca.d, Sd.d]
  walk_at "es"
end KW
namespace KW
open PySem PySem.Spec PyProof.Rows L2 L2.M
local macro_rules | `(tactic| walk_at "ev") => `(tactic| simp [semF, shared, after, mSeq, mSkip, mIf, mRet, mRetN, mRetV, mSet, mSetIx, mExpr, mB, mU, mTm, mPl, mK, mVar, mOp, mCons, mNil, bor, bors, mTst, mAndT, mOrT, mNotT, mAndE, mOrE, mNotE, mIfE, mIsi, isiD, mChn, chnL, cmpD, binD, addD, subD, mulD, modD, fdivD, powD, eqD, neD, ltD, leD, gtD, geD, isD, isnD, L2.M.isNon, negD, ixD, Bf.f, Bg.f, lenD, L2.M.intD, maxD, minD, repD, strD, gmaxD, gminD, sumD, sortD, anyD, allD, mCall, frz, fzO, lend, wb, mTup, mLst, fzs, cD, mAsg, bTup, bTps, mApp, tupD, lstD, mRev, revD, ofs_inj, ee_ii, ee_ss, ee_bb, ee_nn, ee_is, ee_si, ee_in, ee_ni, ee_tt, ee_ll, ee_maps, ee_0, ee_1, ee_2, ee_3, at_lit, at_nat, at_m1, at_m2, scD, emD, sizeLine_eq, ixN, sm_lit, mSrc, itemsD, plOf, rng1D, bNm, mSl, mPt, mNoP, slD, mPar, keepT, tmsO, setA, mFlow, zipX, enumX, itemsX, intsOf, ints_all, boolsOf, shaped_lay, lay_int, lay_bool, lay_none, lay_dict, lay_tup, lay_list, lay_ints, sortX_ints, mPlF, mPlI, mRd, mPU, mPB, mFSet, mFNew, mNSet, mPApp, mPSetIx, mPPop, mMeth, mNew, isIns, cellO, mLstN, mAddN, mAppN, semX, mTold, mCallX, xRet, xExpr, xSet, mRaise, mM, isL, isS, mOrV, truD])
local macro_rules | `(tactic| walk_at "es") => `(tactic| simp [semF, shared, after, mSeq, mSkip, mIf, mRet, mRetN, mRetV, mSet, mSetIx, mExpr, mB, mU, mTm, mPl, mK, mVar, mOp, mCons, mNil, bor, bors, mTst, mAndT, mOrT, mNotT, mAndE, mOrE, mNotE, mIfE, mIsi, isiD, mChn, chnL, cmpD, binD, addD, subD, mulD, modD, fdivD, powD, eqD, neD, ltD, leD, gtD, geD, isD, isnD, L2.M.isNon, negD, ixD, Bf.f, Bg.f, lenD, L2.M.intD, maxD, minD, repD, strD, gmaxD, gminD, sumD, sortD, anyD, allD, mCall, frz, fzO, lend, wb, mTup, mLst, fzs, cD, mAsg, bTup, bTps, mApp, tupD, lstD, mRev, revD, ofs_inj, ee_ii, ee_ss, ee_bb, ee_nn, ee_is, ee_si, ee_in, ee_ni, ee_tt, ee_ll, ee_maps, ee_0, ee_1, ee_2, ee_3, at_lit, at_nat, at_m1, at_m2, scD, emD, sizeLine_eq, ixN, sm_lit, mSrc, itemsD, plOf, rng1D, bNm, mSl, mPt, mNoP, slD, mPar, keepT, tmsO, setA, mFlow, zipX, enumX, itemsX, intsOf, ints_all, boolsOf, shaped_lay, lay_int, lay_bool, lay_none, lay_dict, lay_tup, lay_list, lay_ints, sortX_ints, mPlF, mPlI, mRd, mPU, mPB, mFSet, mFNew, mNSet, mPApp, mPSetIx, mPPop, mMeth, mNew, isIns, cellO, mLstN, mAddN, mAppN, semX, mTold, mCallX, xRet, xExpr, xSet, mRaise, mM, isL, isS, mOrV, truD, *])
local macro_rules | `(tactic| walk_at "el") => `(tactic| simp [semF, shared, after, mSeq, mSkip, mIf, mRet, mRetN, mRetV, mSet, mSetIx, mExpr, mB, mU, mTm, mPl, mK, mVar, mOp, mCons, mNil, bor, bors, mTst, mAndT, mOrT, mNotT, mAndE, mOrE, mNotE, mIfE, mIsi, isiD, mChn, chnL, cmpD, binD, addD, subD, mulD, modD, fdivD, powD, eqD, neD, ltD, leD, gtD, geD, isD, isnD, L2.M.isNon, negD, ixD, Bf.f, Bg.f, lenD, L2.M.intD, maxD, minD, repD, strD, gmaxD, gminD, sumD, sortD, anyD, allD, mCall, frz, fzO, lend, wb, mTup, mLst, fzs, cD, mAsg, bTup, bTps, mApp, tupD, lstD, mRev, revD, ofs_inj, ee_ii, ee_ss, ee_bb, ee_nn, ee_is, ee_si, ee_in, ee_ni, ee_tt, ee_ll, ee_maps, ee_0, ee_1, ee_2, ee_3, at_lit, at_nat, at_m1, at_m2, scD, emD, sizeLine_eq, ixN, sm_lit, mSrc, itemsD, plOf, rng1D, bNm, mSl, mPt, mNoP, slD, mPar, keepT, tmsO, setA, mFlow, zipX, enumX, itemsX, intsOf, ints_all, boolsOf, shaped_lay, lay_int, lay_bool, lay_none, lay_dict, lay_tup, lay_list, lay_ints, sortX_ints, mPlF, mPlI, mRd, mPU, mPB, mFSet, mFNew, mNSet, mPApp, mPSetIx, mPPop, mMeth, mNew, isIns, cellO, mLstN, mAddN, mAppN, semX, mTold, mCallX, xRet, xExpr, xSet, mRaise, mM, isL, isS, mOrV, truD, mLc, lcL, sameC, wipeC, restC, mYes, *])
local macro_rules | `(tactic| walk_at "ef") => `(tactic| simp [semF, shared, after, mSeq, mSkip, mIf, mRet, mRetN, mRetV, mSet, mSetIx, mExpr, mB, mU, mTm, mPl, mK, mVar, mOp, mCons, mNil, bor, bors, mTst, mAndT, mOrT, mNotT, mAndE, mOrE, mNotE, mIfE, mIsi, isiD, mChn, chnL, cmpD, binD, addD, subD, mulD, modD, fdivD, powD, eqD, neD, ltD, leD, gtD, geD, isD, isnD, L2.M.isNon, negD, ixD, Bf.f, Bg.f, lenD, L2.M.intD, maxD, minD, repD, strD, gmaxD, gminD, sumD, sortD, anyD, allD, mCall, frz, fzO, lend, wb, mTup, mLst, fzs, cD, mAsg, bTup, bTps, mApp, tupD, lstD, mRev, revD, ofs_inj, ee_ii, ee_ss, ee_bb, ee_nn, ee_is, ee_si, ee_in, ee_ni, ee_tt, ee_ll, ee_maps, ee_0, ee_1, ee_2, ee_3, at_lit, at_nat, at_m1, at_m2, scD, emD, sizeLine_eq, ixN, sm_lit, mSrc, itemsD, plOf, rng1D, bNm, mSl, mPt, mNoP, slD, mPar, keepT, tmsO, setA, mFlow, zipX, enumX, itemsX, intsOf, ints_all, boolsOf, shaped_lay, lay_int, lay_bool, lay_none, lay_dict, lay_tup, lay_list, lay_ints, sortX_ints, mPlF, mPlI, mRd, mPU, mPB, mFSet, mFNew, mNSet, mPApp, mPSetIx, mPPop, mMeth, mNew, isIns, cellO, mLstN, mAddN, mAppN, semX, mTold, mCallX, xRet, xExpr, xSet, mRaise, mM, isL, isS, mOrV, truD, mFor, forL, mLc, lcL, sameC, wipeC, restC, mYes, *])
local macro_rules | `(tactic| walk_at "rg") => `(tactic| (and_intros <;> grind))
local macro_rules | `(tactic| walk_at "nx") => `(tactic| (apply wx_nx; focus (walk_at "ev"; try first | exact ⟨rfl, rfl⟩ | rfl)))
local macro_rules | `(tactic| walk_at "ns") => `(tactic| (apply wx_nx; focus (walk_at "es"; try first | exact ⟨rfl, rfl⟩ | rfl)))
local macro_rules | `(tactic| walk_at "rt") => `(tactic| (apply wx_rt; focus (walk_at "ev"; try first | exact ⟨rfl, rfl⟩ | rfl)))
local macro_rules | `(tactic| walk_at "rs") => `(tactic| (apply wx_rt; focus (walk_at "es"; try first | exact ⟨rfl, rfl⟩ | rfl)))
local macro_rules | `(tactic| walk_at "ed") => `(tactic| simp [semF, shared, after, mSeq, mSkip, mIf, mRet, mRetN, mRetV, mSet, mSetIx, mExpr, mB, mU, mTm, mPl, mK, mVar, mOp, mCons, mNil, bor, bors, mTst, mAndT, mOrT, mNotT, mAndE, mOrE, mNotE, mIfE, mIsi, isiD, mChn, chnL, cmpD, binD, addD, subD, mulD, modD, fdivD, powD, eqD, neD, ltD, leD, gtD, geD, isD, isnD, L2.M.isNon, negD, ixD, Bf.f, Bg.f, lenD, L2.M.intD, maxD, minD, repD, strD, gmaxD, gminD, sumD, sortD, anyD, allD, mCall, frz, fzO, lend, wb, mTup, mLst, fzs, cD, mAsg, bTup, bTps, mApp, tupD, lstD, mRev, revD, ofs_inj, ee_ii, ee_ss, ee_bb, ee_nn, ee_is, ee_si, ee_in, ee_ni, ee_tt, ee_ll, ee_maps, ee_0, ee_1, ee_2, ee_3, at_lit, at_nat, at_m1, at_m2, scD, emD, sizeLine_eq, ixN, sm_lit, mSrc, itemsD, plOf, rng1D, bNm, mSl, mPt, mNoP, slD, mPar, keepT, tmsO, setA, mFlow, zipX, enumX, itemsX, intsOf, ints_all, boolsOf, shaped_lay, lay_int, lay_bool, lay_none, lay_dict, lay_tup, lay_list, lay_ints, sortX_ints, mPlF, mPlI, mRd, mPU, mPB, mFSet, mFNew, mNSet, mPApp, mPSetIx, mPPop, mMeth, mNew, isIns, cellO, mLstN, mAddN, mAppN, semX, mTold, mCallX, xRet, xExpr, xSet, mRaise, mM, isL, isS, mOrV, truD, mDNew, mDIn, mDGet, mDLen, mDPut, kyD, mNNew, mN1, mTake, mFnV, mCallF, mNIn, mNGet, mNPut, mNVals, mNList, nKs, mDGetD, mDList, mNNe, *])
theorem fsts_zero (q : Ca) (t : Int) (a : Bool) (st : Bs) : fsts q t a 0 st = st := by rw [fsts]
theorem fsts_succ (q : Ca) (t : Int) (a : Bool) (k : Nat) (st : Bs) : fsts q t a (k + 1) st = fst1 q t a (fsts q t a k st) := by rw [fsts]
theorem Wt.x_eq (y : Wt) : y.x = (y.num, y.beg, y.tri) := rfl
theorem go_eq {q : Ca} (h : q.Ok) (a : Bool) (z : Sd) (t0 : 0 ≤ z.t) (t1 : z.t ≤ 10 ^ 8) (hz : z.Ok) (hw : z.w.length ≤ 8000000) (k : Nat) (hk : k ≤ 8000000) : ∃ c', g_Beat_go [btC q z.t a (.ls (z.w.map Wt.d)) z.c z.s z.n [], .sh (.int k)] = some (.sh (.tuple [(nxS q a z k).d, .tuple (nxE q a z k)]), [c', .sh (.int k)]) := by
  have main : Rt (g_Beat_go [btC q z.t a (.ls (z.w.map Wt.d)) z.c z.s z.n [], .sh (.int k)]) fun c ε => c = .sh (.tuple [(nxS q a z k).d, .tuple (nxE q a z k)]) ∧ ∃ c', ε = [c', .sh (.int k)] := by
    unfold g_Beat_go m_Beat_go
    apply rt_sem rfl
    apply wx_nx (ε1 := [btC q z.t a (.sh (.list (z.w.map Wt.d))) z.c z.s z.n [], .sh (.int k), .ls ((duel z.w z.t).map Wt.d), .no, .no, .no, .no, .no, .no, .no])
    · have e1 : mSrc itemsD (mCons (mTm (mRd (mPlF 0 4 "Beat" "waiting"))) mNil) [btC q z.t a (.ls (z.w.map Wt.d)) z.c z.s z.n [], .sh (.int k), .no, .no, .no, .no, .no, .no, .no, .no] = some ((z.w.map Wt.d, []), [btC q z.t a (.sh (.list (z.w.map Wt.d))) z.c z.s z.n [], .sh (.int k), .no, .no, .no, .no, .no, .no, .no, .no]) := by
        walk_at "ev"
      refine e_set (mLc_encF Wt.d Wt.d (fun x => decide (x.due = z.t)) e1 rfl ?_ ?_ (by rw [sizeLine_eq]; omega)) (by simp) (by simp)
      · intro x _
        simp only [Wt.d]
        walk_at "ev"
      · intro x _ _
        exact ⟨_, rfl, rfl⟩
    apply wx_nx (ε1 := [btB q z.t a z.st, .sh (.int k), .ls ((duel z.w z.t).map Wt.d), .no, .no, .no, .no, .no, .no, .no])
    · have e1 : mSrc itemsD (mCons (mTm (mRd (mPlF 0 4 "Beat" "waiting"))) mNil) [btC q z.t a (.sh (.list (z.w.map Wt.d))) z.c z.s z.n [], .sh (.int k), .ls ((duel z.w z.t).map Wt.d), .no, .no, .no, .no, .no, .no, .no] = some ((z.w.map Wt.d, []), [btC q z.t a (.sh (.list (z.w.map Wt.d))) z.c z.s z.n [], .sh (.int k), .ls ((duel z.w z.t).map Wt.d), .no, .no, .no, .no, .no, .no, .no]) := by
        generalize (duel z.w z.t).map Wt.d = D
        walk_at "ev"
      have e2 : mLc (mSrc itemsD (mCons (mTm (mRd (mPlF 0 4 "Beat" "waiting"))) mNil)) (bNm 3) (mTst (mB (cmpD .NotEq) (mTm (mB ixD (mPl 3) (mTm (mK (.int 0))))) (mTm (mRd (mPlF 0 3 "Beat" "beat"))))) (mVar 3) [3] [btC q z.t a (.sh (.list (z.w.map Wt.d))) z.c z.s z.n [], .sh (.int k), .ls ((duel z.w z.t).map Wt.d), .no, .no, .no, .no, .no, .no, .no] = some (.ls ((restl z.w z.t).map Wt.d), [btC q z.t a (.sh (.list (z.w.map Wt.d))) z.c z.s z.n [], .sh (.int k), .ls ((duel z.w z.t).map Wt.d), .no, .no, .no, .no, .no, .no, .no]) := by
        refine mLc_encF Wt.d Wt.d (fun x => !decide (x.due = z.t)) e1 rfl ?_ ?_ (by rw [sizeLine_eq]; omega)
        · intro x _
          simp only [Wt.d]
          generalize (duel z.w z.t).map Wt.d = D
          walk_at "ev"
        · intro x _ _
          exact ⟨_, rfl, rfl⟩
      generalize (duel z.w z.t).map Wt.d = D at *
      clear e1
      unfold mFSet
      rw [e2]
      simp [Sd.st]
    apply wx_seq
    apply wx_for (ds := (duel z.w z.t).map Wt.d) (ws := []) (ε1 := [btB q z.t a z.st, .sh (.int k), .sh (.list ((duel z.w z.t).map Wt.d)), .no, .no, .no, .no, .no, .no, .no]) (fun i ε => ∃ c4 c5 c6 c7, ε = [btB q z.t a (((duel z.w z.t).take i).foldl (fun st x => tri q z.t a st x.x) z.st), .sh (.int k), .sh (.list ((duel z.w z.t).map Wt.d)), .no, c4, c5, c6, c7, .no, .no])
    · generalize (duel z.w z.t).map Wt.d = D
      generalize z.st = S
      walk_at "ev"
    · rfl
    · exact ⟨_, _, _, _, rfl⟩
    · rintro i ε ⟨c4, c5, c6, c7, rfl⟩ j hj
      cases hj
    · rintro i d ε hd ⟨c4, c5, c6, c7, rfl⟩
      rw [List.getElem?_map] at hd
      obtain ⟨x, hx, rfl⟩ := Option.map_eq_some_iff.mp hd
      obtain ⟨hi2, rfl⟩ := List.getElem?_eq_some_iff.mp hx
      have e : (duel z.w z.t).take (i + 1) = (duel z.w z.t).take i ++ [(duel z.w z.t)[i]] := List.take_succ_eq_append_getElem hi2
      have hm : ∀ x ∈ duel z.w z.t, 0 ≤ x.tri := fun x hx => (hz.2 x (List.mem_filter.mp hx).1).2.1
      have ok := tris_ok h t0 t1 a ((duel z.w z.t).take i) z.st (fun x hx => hm x (List.mem_of_mem_take hx)) hz.st
      obtain ⟨l1, l2⟩ := tris_len q z.t a ((duel z.w z.t).take i) z.st
      have l3 := part_len z.w z.t
      have l4 : z.st.w.length = (restl z.w z.t).length := rfl
      have l5 : z.st.e.length = 0 := rfl
      have l6 : ((duel z.w z.t).take i).length ≤ (duel z.w z.t).length := by rw [List.length_take]; omega
      simp only [e, List.foldl_append, List.foldl_cons, List.foldl_nil]
      generalize ((duel z.w z.t).take i).foldl (fun st x => tri q z.t a st x.x) z.st = S at *
      have e1 := tried_eq h t0 t1 a S ok.1 (duel z.w z.t)[i].num (duel z.w z.t)[i].beg (duel z.w z.t)[i].tri (hm _ (List.getElem_mem hi2)) (by omega) (by omega)
      generalize (duel z.w z.t)[i] = x at *
      rw [← Wt.x_eq] at e1
      generalize tri q z.t a S x.x = S2 at *
      generalize (duel z.w z.t).map Wt.d = D at *
      clear hd hx ok l1 l2 l3 l4 l5 l6 hm e h hz t0 t1 hw hk
      refine ⟨_, by simp only [Wt.d]; walk_at "ev"; rfl, ?_⟩
      walk_at "ns"
      exact wx_skip ⟨_, _, _, _, rfl⟩
    · rintro ε ⟨c4, c5, c6, c7, rfl⟩
      rw [List.length_map, List.take_length]
      have eb : (duel z.w z.t).foldl (fun st x => tri q z.t a st x.x) z.st = bt1 q a z := rfl
      rw [eb]
      have b1 := tris_ok h t0 t1 a (duel z.w z.t) z.st (fun x hx => (hz.2 x (List.mem_filter.mp hx).1).2.1) hz.st
      change (bt1 q a z).Ok z.t at b1
      obtain ⟨l1, l2⟩ := bt1_len q a z
      apply wx_seq
      apply wx_for (ds := rangeD 0 1 k) (ws := []) (ε1 := [btB q z.t a (bt1 q a z), .sh (.int k), .sh (.list ((duel z.w z.t).map Wt.d)), .no, c4, c5, c6, c7, .no, .no]) (fun i ε => ∃ c8, ε = [btB q z.t a (fsts q z.t a i (bt1 q a z)), .sh (.int k), .sh (.list ((duel z.w z.t).map Wt.d)), .no, c4, c5, c6, c7, c8, .no])
      · exact src_rng hk rfl
      · rfl
      · exact ⟨.no, by rw [fsts_zero]⟩
      · intro i ε _ j hj
        cases hj
      · rintro i d ε hd ⟨c8, rfl⟩
        have hi : i < k := by
          have := (List.getElem?_eq_some_iff.mp hd).1
          simpa [rangeD] using this
        have ok := fsts_ok h t0 t1 a b1 i
        obtain ⟨l3, l4⟩ := fsts_len q z.t a (bt1 q a z) i
        have e1 := first_eq h t0 t1 a (fsts q z.t a i (bt1 q a z)) ok.1 (by omega) (by omega)
        rw [← fsts_succ] at e1
        generalize fsts q z.t a (i + 1) (bt1 q a z) = S2 at *
        generalize fsts q z.t a i (bt1 q a z) = S at *
        generalize (duel z.w z.t).map Wt.d = D at *
        clear hd ok l1 l2 l3 l4 h hz t0 t1 hw hk b1
        refine ⟨_, rfl, ?_⟩
        walk_at "ns"
        exact wx_skip ⟨_, rfl⟩
      · rintro ε ⟨c8, rfl⟩
        rw [show (rangeD 0 1 k).length = k by simp [rangeD]]
        have eb : fsts q z.t a k (bt1 q a z) = bt2 q a z k := rfl
        rw [eb]
        have e1 := sortX_wt (bt2 q a z k).w
        have hn : (bt2 q a z k).w.length ≤ 16777216 ∧ (bt2 q a z k).e.length ≤ 16777216 := by
          obtain ⟨l3, l4⟩ := fsts_len q z.t a (bt1 q a z) k
          unfold bt2
          omega
        have hp := (wsort_perm (bt2 q a z k).w).length_eq
        have hn2 : (wsort (bt2 q a z k).w).length ≤ 16777216 := by omega
        obtain ⟨hn, hn3⟩ := hn
        unfold nxS nxE
        simp only [Sd.d]
        generalize wsort (bt2 q a z k).w = WS at *
        generalize bt2 q a z k = S at *
        generalize (duel z.w z.t).map Wt.d = D at *
        clear l1 l2 h hz t0 t1 hw hk b1 hp
        apply wx_nx (ε1 := [btB q z.t a S, .sh (.int k), .sh (.list D), .no, c4, c5, c6, c7, c8, .sh (.tuple [.int (z.t + 1), .tuple (WS.map Wt.d), .int S.c, S.s.d, .int S.n])])
        · walk_at "es"
        apply wx_rt (c := .sh (.tuple [.tuple [.int (z.t + 1), .tuple (WS.map Wt.d), .int S.c, S.s.d, .int S.n], .tuple S.e])) (ε1 := [btB q z.t a S, .sh (.int k), .sh (.list D), .no, c4, c5, c6, c7, c8, .sh (.tuple [.int (z.t + 1), .tuple (WS.map Wt.d), .int S.c, S.s.d, .int S.n])])
        · walk_at "es"
        exact ⟨rfl, _, rfl⟩
  obtain ⟨c, ε, e1, rfl, c', rfl⟩ := main
  exact ⟨c', e1⟩
end KW
namespace KW
open PySem PySem.Spec PyProof.Rows L2 L2.M
local macro_rules | `(tactic| walk_at "ev") => `(tactic| simp [semF, shared, after, mSeq, mSkip, mIf, mRet, mRetN, mRetV, mSet, mSetIx, mExpr, mB, mU, mTm, mPl, mK, mVar, mOp, mCons, mNil, bor, bors, mTst, mAndT, mOrT, mNotT, mAndE, mOrE, mNotE, mIfE, mIsi, isiD, mChn, chnL, cmpD, binD, addD, subD, mulD, modD, fdivD, powD, eqD, neD, ltD, leD, gtD, geD, isD, isnD, L2.M.isNon, negD, ixD, Bf.f, Bg.f, lenD, L2.M.intD, maxD, minD, repD, strD, gmaxD, gminD, sumD, sortD, anyD, allD, mCall, frz, fzO, lend, wb, mTup, mLst, fzs, cD, mAsg, bTup, bTps, mApp, tupD, lstD, mRev, revD, ofs_inj, ee_ii, ee_ss, ee_bb, ee_nn, ee_is, ee_si, ee_in, ee_ni, ee_tt, ee_ll, ee_maps, ee_0, ee_1, ee_2, ee_3, at_lit, at_nat, at_m1, at_m2, scD, emD, sizeLine_eq, ixN, sm_lit, mSrc, itemsD, plOf, rng1D, bNm, mSl, mPt, mNoP, slD, mPar, keepT, tmsO, setA, mFlow, zipX, enumX, itemsX, intsOf, ints_all, boolsOf, shaped_lay, lay_int, lay_bool, lay_none, lay_dict, lay_tup, lay_list, lay_ints, sortX_ints, mPlF, mPlI, mRd, mPU, mPB, mFSet, mFNew, mNSet, mPApp, mPSetIx, mPPop, mMeth, mNew, isIns, cellO, mLstN, mAddN, mAppN, semX, mTold, mCallX, xRet, xExpr, xSet, mRaise, mM, isL, isS, mOrV, truD])
local macro_rules | `(tactic| walk_at "es") => `(tactic| simp [semF, shared, after, mSeq, mSkip, mIf, mRet, mRetN, mRetV, mSet, mSetIx, mExpr, mB, mU, mTm, mPl, mK, mVar, mOp, mCons, mNil, bor, bors, mTst, mAndT, mOrT, mNotT, mAndE, mOrE, mNotE, mIfE, mIsi, isiD, mChn, chnL, cmpD, binD, addD, subD, mulD, modD, fdivD, powD, eqD, neD, ltD, leD, gtD, geD, isD, isnD, L2.M.isNon, negD, ixD, Bf.f, Bg.f, lenD, L2.M.intD, maxD, minD, repD, strD, gmaxD, gminD, sumD, sortD, anyD, allD, mCall, frz, fzO, lend, wb, mTup, mLst, fzs, cD, mAsg, bTup, bTps, mApp, tupD, lstD, mRev, revD, ofs_inj, ee_ii, ee_ss, ee_bb, ee_nn, ee_is, ee_si, ee_in, ee_ni, ee_tt, ee_ll, ee_maps, ee_0, ee_1, ee_2, ee_3, at_lit, at_nat, at_m1, at_m2, scD, emD, sizeLine_eq, ixN, sm_lit, mSrc, itemsD, plOf, rng1D, bNm, mSl, mPt, mNoP, slD, mPar, keepT, tmsO, setA, mFlow, zipX, enumX, itemsX, intsOf, ints_all, boolsOf, shaped_lay, lay_int, lay_bool, lay_none, lay_dict, lay_tup, lay_list, lay_ints, sortX_ints, mPlF, mPlI, mRd, mPU, mPB, mFSet, mFNew, mNSet, mPApp, mPSetIx, mPPop, mMeth, mNew, isIns, cellO, mLstN, mAddN, mAppN, semX, mTold, mCallX, xRet, xExpr, xSet, mRaise, mM, isL, isS, mOrV, truD, *])
local macro_rules | `(tactic| walk_at "el") => `(tactic| simp [semF, shared, after, mSeq, mSkip, mIf, mRet, mRetN, mRetV, mSet, mSetIx, mExpr, mB, mU, mTm, mPl, mK, mVar, mOp, mCons, mNil, bor, bors, mTst, mAndT, mOrT, mNotT, mAndE, mOrE, mNotE, mIfE, mIsi, isiD, mChn, chnL, cmpD, binD, addD, subD, mulD, modD, fdivD, powD, eqD, neD, ltD, leD, gtD, geD, isD, isnD, L2.M.isNon, negD, ixD, Bf.f, Bg.f, lenD, L2.M.intD, maxD, minD, repD, strD, gmaxD, gminD, sumD, sortD, anyD, allD, mCall, frz, fzO, lend, wb, mTup, mLst, fzs, cD, mAsg, bTup, bTps, mApp, tupD, lstD, mRev, revD, ofs_inj, ee_ii, ee_ss, ee_bb, ee_nn, ee_is, ee_si, ee_in, ee_ni, ee_tt, ee_ll, ee_maps, ee_0, ee_1, ee_2, ee_3, at_lit, at_nat, at_m1, at_m2, scD, emD, sizeLine_eq, ixN, sm_lit, mSrc, itemsD, plOf, rng1D, bNm, mSl, mPt, mNoP, slD, mPar, keepT, tmsO, setA, mFlow, zipX, enumX, itemsX, intsOf, ints_all, boolsOf, shaped_lay, lay_int, lay_bool, lay_none, lay_dict, lay_tup, lay_list, lay_ints, sortX_ints, mPlF, mPlI, mRd, mPU, mPB, mFSet, mFNew, mNSet, mPApp, mPSetIx, mPPop, mMeth, mNew, isIns, cellO, mLstN, mAddN, mAppN, semX, mTold, mCallX, xRet, xExpr, xSet, mRaise, mM, isL, isS, mOrV, truD, mLc, lcL, sameC, wipeC, restC, mYes, *])
local macro_rules | `(tactic| walk_at "ef") => `(tactic| simp [semF, shared, after, mSeq, mSkip, mIf, mRet, mRetN, mRetV, mSet, mSetIx, mExpr, mB, mU, mTm, mPl, mK, mVar, mOp, mCons, mNil, bor, bors, mTst, mAndT, mOrT, mNotT, mAndE, mOrE, mNotE, mIfE, mIsi, isiD, mChn, chnL, cmpD, binD, addD, subD, mulD, modD, fdivD, powD, eqD, neD, ltD, leD, gtD, geD, isD, isnD, L2.M.isNon, negD, ixD, Bf.f, Bg.f, lenD, L2.M.intD, maxD, minD, repD, strD, gmaxD, gminD, sumD, sortD, anyD, allD, mCall, frz, fzO, lend, wb, mTup, mLst, fzs, cD, mAsg, bTup, bTps, mApp, tupD, lstD, mRev, revD, ofs_inj, ee_ii, ee_ss, ee_bb, ee_nn, ee_is, ee_si, ee_in, ee_ni, ee_tt, ee_ll, ee_maps, ee_0, ee_1, ee_2, ee_3, at_lit, at_nat, at_m1, at_m2, scD, emD, sizeLine_eq, ixN, sm_lit, mSrc, itemsD, plOf, rng1D, bNm, mSl, mPt, mNoP, slD, mPar, keepT, tmsO, setA, mFlow, zipX, enumX, itemsX, intsOf, ints_all, boolsOf, shaped_lay, lay_int, lay_bool, lay_none, lay_dict, lay_tup, lay_list, lay_ints, sortX_ints, mPlF, mPlI, mRd, mPU, mPB, mFSet, mFNew, mNSet, mPApp, mPSetIx, mPPop, mMeth, mNew, isIns, cellO, mLstN, mAddN, mAppN, semX, mTold, mCallX, xRet, xExpr, xSet, mRaise, mM, isL, isS, mOrV, truD, mFor, forL, mLc, lcL, sameC, wipeC, restC, mYes, *])
local macro_rules | `(tactic| walk_at "rg") => `(tactic| (and_intros <;> grind))
local macro_rules | `(tactic| walk_at "nx") => `(tactic| (apply wx_nx; focus (walk_at "ev"; try first | exact ⟨rfl, rfl⟩ | rfl)))
local macro_rules | `(tactic| walk_at "ns") => `(tactic| (apply wx_nx; focus (walk_at "es"; try first | exact ⟨rfl, rfl⟩ | rfl)))
local macro_rules | `(tactic| walk_at "rt") => `(tactic| (apply wx_rt; focus (walk_at "ev"; try first | exact ⟨rfl, rfl⟩ | rfl)))
local macro_rules | `(tactic| walk_at "rs") => `(tactic| (apply wx_rt; focus (walk_at "es"; try first | exact ⟨rfl, rfl⟩ | rfl)))
local macro_rules | `(tactic| walk_at "ed") => `(tactic| simp [semF, shared, after, mSeq, mSkip, mIf, mRet, mRetN, mRetV, mSet, mSetIx, mExpr, mB, mU, mTm, mPl, mK, mVar, mOp, mCons, mNil, bor, bors, mTst, mAndT, mOrT, mNotT, mAndE, mOrE, mNotE, mIfE, mIsi, isiD, mChn, chnL, cmpD, binD, addD, subD, mulD, modD, fdivD, powD, eqD, neD, ltD, leD, gtD, geD, isD, isnD, L2.M.isNon, negD, ixD, Bf.f, Bg.f, lenD, L2.M.intD, maxD, minD, repD, strD, gmaxD, gminD, sumD, sortD, anyD, allD, mCall, frz, fzO, lend, wb, mTup, mLst, fzs, cD, mAsg, bTup, bTps, mApp, tupD, lstD, mRev, revD, ofs_inj, ee_ii, ee_ss, ee_bb, ee_nn, ee_is, ee_si, ee_in, ee_ni, ee_tt, ee_ll, ee_maps, ee_0, ee_1, ee_2, ee_3, at_lit, at_nat, at_m1, at_m2, scD, emD, sizeLine_eq, ixN, sm_lit, mSrc, itemsD, plOf, rng1D, bNm, mSl, mPt, mNoP, slD, mPar, keepT, tmsO, setA, mFlow, zipX, enumX, itemsX, intsOf, ints_all, boolsOf, shaped_lay, lay_int, lay_bool, lay_none, lay_dict, lay_tup, lay_list, lay_ints, sortX_ints, mPlF, mPlI, mRd, mPU, mPB, mFSet, mFNew, mNSet, mPApp, mPSetIx, mPPop, mMeth, mNew, isIns, cellO, mLstN, mAddN, mAppN, semX, mTold, mCallX, xRet, xExpr, xSet, mRaise, mM, isL, isS, mOrV, truD, mDNew, mDIn, mDGet, mDLen, mDPut, kyD, mNNew, mN1, mTake, mFnV, mCallF, mNIn, mNGet, mNPut, mNVals, mNList, nKs, mDGetD, mDList, mNNe, *])
theorem stepped_eq {q : Ca} (h : q.Ok) (a : Bool) (z : Sd) (t0 : 0 ≤ z.t) (t1 : z.t ≤ 10 ^ 8) (hz : z.Ok) (hw : z.w.length ≤ 8000000) (k : Nat) (hk : k ≤ 8000000) : g_stepped [.sh q.d, .sh z.d, .sh (.bool a), .sh (.int k)] = some (.sh (.tuple [(nxS q a z k).d, .tuple (nxE q a z k)]), [.sh q.d, .sh z.d, .sh (.bool a), .sh (.int k)]) := by
  have e1 := init_eq q z a (by omega)
  obtain ⟨c', e2⟩ := go_eq h a z t0 t1 hz hw k hk
  generalize (nxS q a z k).d = R1 at *
  generalize nxE q a z k = R2 at *
  generalize z.d = zd at *
  generalize q.d = qd at *
  clear h t0 t1 hz hw hk
  unfold g_stepped m_stepped
  walk_at "es"
end KW
namespace KW
open PySem PySem.Spec PyProof.Rows L2 L2.M
local macro_rules | `(tactic| walk_at "ev") => `(tactic| simp [semF, shared, after, mSeq, mSkip, mIf, mRet, mRetN, mRetV, mSet, mSetIx, mExpr, mB, mU, mTm, mPl, mK, mVar, mOp, mCons, mNil, bor, bors, mTst, mAndT, mOrT, mNotT, mAndE, mOrE, mNotE, mIfE, mIsi, isiD, mChn, chnL, cmpD, binD, addD, subD, mulD, modD, fdivD, powD, eqD, neD, ltD, leD, gtD, geD, isD, isnD, L2.M.isNon, negD, ixD, Bf.f, Bg.f, lenD, L2.M.intD, maxD, minD, repD, strD, gmaxD, gminD, sumD, sortD, anyD, allD, mCall, frz, fzO, lend, wb, mTup, mLst, fzs, cD, mAsg, bTup, bTps, mApp, tupD, lstD, mRev, revD, ofs_inj, ee_ii, ee_ss, ee_bb, ee_nn, ee_is, ee_si, ee_in, ee_ni, ee_tt, ee_ll, ee_maps, ee_0, ee_1, ee_2, ee_3, at_lit, at_nat, at_m1, at_m2, scD, emD, sizeLine_eq, ixN, sm_lit, mSrc, itemsD, plOf, rng1D, bNm, mSl, mPt, mNoP, slD, mPar, keepT, tmsO, setA, mFlow, zipX, enumX, itemsX, intsOf, ints_all, boolsOf, shaped_lay, lay_int, lay_bool, lay_none, lay_dict, lay_tup, lay_list, lay_ints, sortX_ints, mPlF, mPlI, mRd, mPU, mPB, mFSet, mFNew, mNSet, mPApp, mPSetIx, mPPop, mMeth, mNew, isIns, cellO, mLstN, mAddN, mAppN, semX, mTold, mCallX, xRet, xExpr, xSet, mRaise, mM, isL, isS, mOrV, truD])
local macro_rules | `(tactic| walk_at "es") => `(tactic| simp [semF, shared, after, mSeq, mSkip, mIf, mRet, mRetN, mRetV, mSet, mSetIx, mExpr, mB, mU, mTm, mPl, mK, mVar, mOp, mCons, mNil, bor, bors, mTst, mAndT, mOrT, mNotT, mAndE, mOrE, mNotE, mIfE, mIsi, isiD, mChn, chnL, cmpD, binD, addD, subD, mulD, modD, fdivD, powD, eqD, neD, ltD, leD, gtD, geD, isD, isnD, L2.M.isNon, negD, ixD, Bf.f, Bg.f, lenD, L2.M.intD, maxD, minD, repD, strD, gmaxD, gminD, sumD, sortD, anyD, allD, mCall, frz, fzO, lend, wb, mTup, mLst, fzs, cD, mAsg, bTup, bTps, mApp, tupD, lstD, mRev, revD, ofs_inj, ee_ii, ee_ss, ee_bb, ee_nn, ee_is, ee_si, ee_in, ee_ni, ee_tt, ee_ll, ee_maps, ee_0, ee_1, ee_2, ee_3, at_lit, at_nat, at_m1, at_m2, scD, emD, sizeLine_eq, ixN, sm_lit, mSrc, itemsD, plOf, rng1D, bNm, mSl, mPt, mNoP, slD, mPar, keepT, tmsO, setA, mFlow, zipX, enumX, itemsX, intsOf, ints_all, boolsOf, shaped_lay, lay_int, lay_bool, lay_none, lay_dict, lay_tup, lay_list, lay_ints, sortX_ints, mPlF, mPlI, mRd, mPU, mPB, mFSet, mFNew, mNSet, mPApp, mPSetIx, mPPop, mMeth, mNew, isIns, cellO, mLstN, mAddN, mAppN, semX, mTold, mCallX, xRet, xExpr, xSet, mRaise, mM, isL, isS, mOrV, truD, *])
local macro_rules | `(tactic| walk_at "el") => `(tactic| simp [semF, shared, after, mSeq, mSkip, mIf, mRet, mRetN, mRetV, mSet, mSetIx, mExpr, mB, mU, mTm, mPl, mK, mVar, mOp, mCons, mNil, bor, bors, mTst, mAndT, mOrT, mNotT, mAndE, mOrE, mNotE, mIfE, mIsi, isiD, mChn, chnL, cmpD, binD, addD, subD, mulD, modD, fdivD, powD, eqD, neD, ltD, leD, gtD, geD, isD, isnD, L2.M.isNon, negD, ixD, Bf.f, Bg.f, lenD, L2.M.intD, maxD, minD, repD, strD, gmaxD, gminD, sumD, sortD, anyD, allD, mCall, frz, fzO, lend, wb, mTup, mLst, fzs, cD, mAsg, bTup, bTps, mApp, tupD, lstD, mRev, revD, ofs_inj, ee_ii, ee_ss, ee_bb, ee_nn, ee_is, ee_si, ee_in, ee_ni, ee_tt, ee_ll, ee_maps, ee_0, ee_1, ee_2, ee_3, at_lit, at_nat, at_m1, at_m2, scD, emD, sizeLine_eq, ixN, sm_lit, mSrc, itemsD, plOf, rng1D, bNm, mSl, mPt, mNoP, slD, mPar, keepT, tmsO, setA, mFlow, zipX, enumX, itemsX, intsOf, ints_all, boolsOf, shaped_lay, lay_int, lay_bool, lay_none, lay_dict, lay_tup, lay_list, lay_ints, sortX_ints, mPlF, mPlI, mRd, mPU, mPB, mFSet, mFNew, mNSet, mPApp, mPSetIx, mPPop, mMeth, mNew, isIns, cellO, mLstN, mAddN, mAppN, semX, mTold, mCallX, xRet, xExpr, xSet, mRaise, mM, isL, isS, mOrV, truD, mLc, lcL, sameC, wipeC, restC, mYes, *])
local macro_rules | `(tactic| walk_at "ef") => `(tactic| simp [semF, shared, after, mSeq, mSkip, mIf, mRet, mRetN, mRetV, mSet, mSetIx, mExpr, mB, mU, mTm, mPl, mK, mVar, mOp, mCons, mNil, bor, bors, mTst, mAndT, mOrT, mNotT, mAndE, mOrE, mNotE, mIfE, mIsi, isiD, mChn, chnL, cmpD, binD, addD, subD, mulD, modD, fdivD, powD, eqD, neD, ltD, leD, gtD, geD, isD, isnD, L2.M.isNon, negD, ixD, Bf.f, Bg.f, lenD, L2.M.intD, maxD, minD, repD, strD, gmaxD, gminD, sumD, sortD, anyD, allD, mCall, frz, fzO, lend, wb, mTup, mLst, fzs, cD, mAsg, bTup, bTps, mApp, tupD, lstD, mRev, revD, ofs_inj, ee_ii, ee_ss, ee_bb, ee_nn, ee_is, ee_si, ee_in, ee_ni, ee_tt, ee_ll, ee_maps, ee_0, ee_1, ee_2, ee_3, at_lit, at_nat, at_m1, at_m2, scD, emD, sizeLine_eq, ixN, sm_lit, mSrc, itemsD, plOf, rng1D, bNm, mSl, mPt, mNoP, slD, mPar, keepT, tmsO, setA, mFlow, zipX, enumX, itemsX, intsOf, ints_all, boolsOf, shaped_lay, lay_int, lay_bool, lay_none, lay_dict, lay_tup, lay_list, lay_ints, sortX_ints, mPlF, mPlI, mRd, mPU, mPB, mFSet, mFNew, mNSet, mPApp, mPSetIx, mPPop, mMeth, mNew, isIns, cellO, mLstN, mAddN, mAppN, semX, mTold, mCallX, xRet, xExpr, xSet, mRaise, mM, isL, isS, mOrV, truD, mFor, forL, mLc, lcL, sameC, wipeC, restC, mYes, *])
local macro_rules | `(tactic| walk_at "rg") => `(tactic| (and_intros <;> grind))
local macro_rules | `(tactic| walk_at "nx") => `(tactic| (apply wx_nx; focus (walk_at "ev"; try first | exact ⟨rfl, rfl⟩ | rfl)))
local macro_rules | `(tactic| walk_at "ns") => `(tactic| (apply wx_nx; focus (walk_at "es"; try first | exact ⟨rfl, rfl⟩ | rfl)))
local macro_rules | `(tactic| walk_at "rt") => `(tactic| (apply wx_rt; focus (walk_at "ev"; try first | exact ⟨rfl, rfl⟩ | rfl)))
local macro_rules | `(tactic| walk_at "rs") => `(tactic| (apply wx_rt; focus (walk_at "es"; try first | exact ⟨rfl, rfl⟩ | rfl)))
local macro_rules | `(tactic| walk_at "ed") => `(tactic| simp [semF, shared, after, mSeq, mSkip, mIf, mRet, mRetN, mRetV, mSet, mSetIx, mExpr, mB, mU, mTm, mPl, mK, mVar, mOp, mCons, mNil, bor, bors, mTst, mAndT, mOrT, mNotT, mAndE, mOrE, mNotE, mIfE, mIsi, isiD, mChn, chnL, cmpD, binD, addD, subD, mulD, modD, fdivD, powD, eqD, neD, ltD, leD, gtD, geD, isD, isnD, L2.M.isNon, negD, ixD, Bf.f, Bg.f, lenD, L2.M.intD, maxD, minD, repD, strD, gmaxD, gminD, sumD, sortD, anyD, allD, mCall, frz, fzO, lend, wb, mTup, mLst, fzs, cD, mAsg, bTup, bTps, mApp, tupD, lstD, mRev, revD, ofs_inj, ee_ii, ee_ss, ee_bb, ee_nn, ee_is, ee_si, ee_in, ee_ni, ee_tt, ee_ll, ee_maps, ee_0, ee_1, ee_2, ee_3, at_lit, at_nat, at_m1, at_m2, scD, emD, sizeLine_eq, ixN, sm_lit, mSrc, itemsD, plOf, rng1D, bNm, mSl, mPt, mNoP, slD, mPar, keepT, tmsO, setA, mFlow, zipX, enumX, itemsX, intsOf, ints_all, boolsOf, shaped_lay, lay_int, lay_bool, lay_none, lay_dict, lay_tup, lay_list, lay_ints, sortX_ints, mPlF, mPlI, mRd, mPU, mPB, mFSet, mFNew, mNSet, mPApp, mPSetIx, mPPop, mMeth, mNew, isIns, cellO, mLstN, mAddN, mAppN, semX, mTold, mCallX, xRet, xExpr, xSet, mRaise, mM, isL, isS, mOrV, truD, mDNew, mDIn, mDGet, mDLen, mDPut, kyD, mNNew, mN1, mTake, mFnV, mCallF, mNIn, mNGet, mNPut, mNVals, mNList, nKs, mDGetD, mDList, mNNe, *])
theorem silent_at_eq (st : List (Int × Int)) (b : Int) (hl : st.length ≤ 100000) : g_silent_at [.sh (stD st), .sh (.int b)] = some (.sh (.bool (sil st b)), [.sh (stD st), .sh (.int b)]) := by
  apply rt_eq
  unfold g_silent_at m_silent_at
  apply rt_sem rfl
  apply wx_rt (c := .sh (.bool (sil st b))) (ε1 := [.sh (stD st), .sh (.int b), .no, .no])
  · refine e_ret (e_op1 (mLc_two (ws := []) (fun p : Int × Int => .int p.1) (fun p => .int p.2) (fun p => .bool (decide (p.1 ≤ b) && decide (b < p.2))) (src_items (c := .sh (stD st)) ?_ (.inr (.inr rfl))) (by decide) rfl rfl ?_ ?_) rfl ?_)
    · rfl
    · intro p _
      refine ⟨.sh (.bool (decide (p.1 ≤ b) && decide (b < p.2))), ?_, rfl⟩
      by_cases h1 : p.1 ≤ b <;> by_cases h2 : b < p.2 <;> walk_at "es"
    · rw [sizeLine_eq]; omega
    · simp only [Bg.f, anyD, any_map, Option.map_some, sil, List.any_map]
      rfl
  exact ⟨rfl, rfl⟩
end KW
namespace KW
open PySem PySem.Spec PyProof.Rows L2 L2.M
local macro_rules | `(tactic| walk_at "ev") => `(tactic| simp [semF, shared, after, mSeq, mSkip, mIf, mRet, mRetN, mRetV, mSet, mSetIx, mExpr, mB, mU, mTm, mPl, mK, mVar, mOp, mCons, mNil, bor, bors, mTst, mAndT, mOrT, mNotT, mAndE, mOrE, mNotE, mIfE, mIsi, isiD, mChn, chnL, cmpD, binD, addD, subD, mulD, modD, fdivD, powD, eqD, neD, ltD, leD, gtD, geD, isD, isnD, L2.M.isNon, negD, ixD, Bf.f, Bg.f, lenD, L2.M.intD, maxD, minD, repD, strD, gmaxD, gminD, sumD, sortD, anyD, allD, mCall, frz, fzO, lend, wb, mTup, mLst, fzs, cD, mAsg, bTup, bTps, mApp, tupD, lstD, mRev, revD, ofs_inj, ee_ii, ee_ss, ee_bb, ee_nn, ee_is, ee_si, ee_in, ee_ni, ee_tt, ee_ll, ee_maps, ee_0, ee_1, ee_2, ee_3, at_lit, at_nat, at_m1, at_m2, scD, emD, sizeLine_eq, ixN, sm_lit, mSrc, itemsD, plOf, rng1D, bNm, mSl, mPt, mNoP, slD, mPar, keepT, tmsO, setA, mFlow, zipX, enumX, itemsX, intsOf, ints_all, boolsOf, shaped_lay, lay_int, lay_bool, lay_none, lay_dict, lay_tup, lay_list, lay_ints, sortX_ints, mPlF, mPlI, mRd, mPU, mPB, mFSet, mFNew, mNSet, mPApp, mPSetIx, mPPop, mMeth, mNew, isIns, cellO, mLstN, mAddN, mAppN, semX, mTold, mCallX, xRet, xExpr, xSet, mRaise, mM, isL, isS, mOrV, truD])
local macro_rules | `(tactic| walk_at "es") => `(tactic| simp [semF, shared, after, mSeq, mSkip, mIf, mRet, mRetN, mRetV, mSet, mSetIx, mExpr, mB, mU, mTm, mPl, mK, mVar, mOp, mCons, mNil, bor, bors, mTst, mAndT, mOrT, mNotT, mAndE, mOrE, mNotE, mIfE, mIsi, isiD, mChn, chnL, cmpD, binD, addD, subD, mulD, modD, fdivD, powD, eqD, neD, ltD, leD, gtD, geD, isD, isnD, L2.M.isNon, negD, ixD, Bf.f, Bg.f, lenD, L2.M.intD, maxD, minD, repD, strD, gmaxD, gminD, sumD, sortD, anyD, allD, mCall, frz, fzO, lend, wb, mTup, mLst, fzs, cD, mAsg, bTup, bTps, mApp, tupD, lstD, mRev, revD, ofs_inj, ee_ii, ee_ss, ee_bb, ee_nn, ee_is, ee_si, ee_in, ee_ni, ee_tt, ee_ll, ee_maps, ee_0, ee_1, ee_2, ee_3, at_lit, at_nat, at_m1, at_m2, scD, emD, sizeLine_eq, ixN, sm_lit, mSrc, itemsD, plOf, rng1D, bNm, mSl, mPt, mNoP, slD, mPar, keepT, tmsO, setA, mFlow, zipX, enumX, itemsX, intsOf, ints_all, boolsOf, shaped_lay, lay_int, lay_bool, lay_none, lay_dict, lay_tup, lay_list, lay_ints, sortX_ints, mPlF, mPlI, mRd, mPU, mPB, mFSet, mFNew, mNSet, mPApp, mPSetIx, mPPop, mMeth, mNew, isIns, cellO, mLstN, mAddN, mAppN, semX, mTold, mCallX, xRet, xExpr, xSet, mRaise, mM, isL, isS, mOrV, truD, *])
local macro_rules | `(tactic| walk_at "el") => `(tactic| simp [semF, shared, after, mSeq, mSkip, mIf, mRet, mRetN, mRetV, mSet, mSetIx, mExpr, mB, mU, mTm, mPl, mK, mVar, mOp, mCons, mNil, bor, bors, mTst, mAndT, mOrT, mNotT, mAndE, mOrE, mNotE, mIfE, mIsi, isiD, mChn, chnL, cmpD, binD, addD, subD, mulD, modD, fdivD, powD, eqD, neD, ltD, leD, gtD, geD, isD, isnD, L2.M.isNon, negD, ixD, Bf.f, Bg.f, lenD, L2.M.intD, maxD, minD, repD, strD, gmaxD, gminD, sumD, sortD, anyD, allD, mCall, frz, fzO, lend, wb, mTup, mLst, fzs, cD, mAsg, bTup, bTps, mApp, tupD, lstD, mRev, revD, ofs_inj, ee_ii, ee_ss, ee_bb, ee_nn, ee_is, ee_si, ee_in, ee_ni, ee_tt, ee_ll, ee_maps, ee_0, ee_1, ee_2, ee_3, at_lit, at_nat, at_m1, at_m2, scD, emD, sizeLine_eq, ixN, sm_lit, mSrc, itemsD, plOf, rng1D, bNm, mSl, mPt, mNoP, slD, mPar, keepT, tmsO, setA, mFlow, zipX, enumX, itemsX, intsOf, ints_all, boolsOf, shaped_lay, lay_int, lay_bool, lay_none, lay_dict, lay_tup, lay_list, lay_ints, sortX_ints, mPlF, mPlI, mRd, mPU, mPB, mFSet, mFNew, mNSet, mPApp, mPSetIx, mPPop, mMeth, mNew, isIns, cellO, mLstN, mAddN, mAppN, semX, mTold, mCallX, xRet, xExpr, xSet, mRaise, mM, isL, isS, mOrV, truD, mLc, lcL, sameC, wipeC, restC, mYes, *])
local macro_rules | `(tactic| walk_at "ef") => `(tactic| simp [semF, shared, after, mSeq, mSkip, mIf, mRet, mRetN, mRetV, mSet, mSetIx, mExpr, mB, mU, mTm, mPl, mK, mVar, mOp, mCons, mNil, bor, bors, mTst, mAndT, mOrT, mNotT, mAndE, mOrE, mNotE, mIfE, mIsi, isiD, mChn, chnL, cmpD, binD, addD, subD, mulD, modD, fdivD, powD, eqD, neD, ltD, leD, gtD, geD, isD, isnD, L2.M.isNon, negD, ixD, Bf.f, Bg.f, lenD, L2.M.intD, maxD, minD, repD, strD, gmaxD, gminD, sumD, sortD, anyD, allD, mCall, frz, fzO, lend, wb, mTup, mLst, fzs, cD, mAsg, bTup, bTps, mApp, tupD, lstD, mRev, revD, ofs_inj, ee_ii, ee_ss, ee_bb, ee_nn, ee_is, ee_si, ee_in, ee_ni, ee_tt, ee_ll, ee_maps, ee_0, ee_1, ee_2, ee_3, at_lit, at_nat, at_m1, at_m2, scD, emD, sizeLine_eq, ixN, sm_lit, mSrc, itemsD, plOf, rng1D, bNm, mSl, mPt, mNoP, slD, mPar, keepT, tmsO, setA, mFlow, zipX, enumX, itemsX, intsOf, ints_all, boolsOf, shaped_lay, lay_int, lay_bool, lay_none, lay_dict, lay_tup, lay_list, lay_ints, sortX_ints, mPlF, mPlI, mRd, mPU, mPB, mFSet, mFNew, mNSet, mPApp, mPSetIx, mPPop, mMeth, mNew, isIns, cellO, mLstN, mAddN, mAppN, semX, mTold, mCallX, xRet, xExpr, xSet, mRaise, mM, isL, isS, mOrV, truD, mFor, forL, mLc, lcL, sameC, wipeC, restC, mYes, *])
local macro_rules | `(tactic| walk_at "rg") => `(tactic| (and_intros <;> grind))
local macro_rules | `(tactic| walk_at "nx") => `(tactic| (apply wx_nx; focus (walk_at "ev"; try first | exact ⟨rfl, rfl⟩ | rfl)))
local macro_rules | `(tactic| walk_at "ns") => `(tactic| (apply wx_nx; focus (walk_at "es"; try first | exact ⟨rfl, rfl⟩ | rfl)))
local macro_rules | `(tactic| walk_at "rt") => `(tactic| (apply wx_rt; focus (walk_at "ev"; try first | exact ⟨rfl, rfl⟩ | rfl)))
local macro_rules | `(tactic| walk_at "rs") => `(tactic| (apply wx_rt; focus (walk_at "es"; try first | exact ⟨rfl, rfl⟩ | rfl)))
local macro_rules | `(tactic| walk_at "ed") => `(tactic| simp [semF, shared, after, mSeq, mSkip, mIf, mRet, mRetN, mRetV, mSet, mSetIx, mExpr, mB, mU, mTm, mPl, mK, mVar, mOp, mCons, mNil, bor, bors, mTst, mAndT, mOrT, mNotT, mAndE, mOrE, mNotE, mIfE, mIsi, isiD, mChn, chnL, cmpD, binD, addD, subD, mulD, modD, fdivD, powD, eqD, neD, ltD, leD, gtD, geD, isD, isnD, L2.M.isNon, negD, ixD, Bf.f, Bg.f, lenD, L2.M.intD, maxD, minD, repD, strD, gmaxD, gminD, sumD, sortD, anyD, allD, mCall, frz, fzO, lend, wb, mTup, mLst, fzs, cD, mAsg, bTup, bTps, mApp, tupD, lstD, mRev, revD, ofs_inj, ee_ii, ee_ss, ee_bb, ee_nn, ee_is, ee_si, ee_in, ee_ni, ee_tt, ee_ll, ee_maps, ee_0, ee_1, ee_2, ee_3, at_lit, at_nat, at_m1, at_m2, scD, emD, sizeLine_eq, ixN, sm_lit, mSrc, itemsD, plOf, rng1D, bNm, mSl, mPt, mNoP, slD, mPar, keepT, tmsO, setA, mFlow, zipX, enumX, itemsX, intsOf, ints_all, boolsOf, shaped_lay, lay_int, lay_bool, lay_none, lay_dict, lay_tup, lay_list, lay_ints, sortX_ints, mPlF, mPlI, mRd, mPU, mPB, mFSet, mFNew, mNSet, mPApp, mPSetIx, mPPop, mMeth, mNew, isIns, cellO, mLstN, mAddN, mAppN, semX, mTold, mCallX, xRet, xExpr, xSet, mRaise, mM, isL, isS, mOrV, truD, mDNew, mDIn, mDGet, mDLen, mDPut, kyD, mNNew, mN1, mTake, mFnV, mCallF, mNIn, mNGet, mNPut, mNVals, mNList, nKs, mDGetD, mDList, mNNe, *])
theorem range_drop (A : List Nat) (n : Nat) (hn : n ≤ A.length) : ((List.range (A.length - n)).map fun i => PyData.int ((A.getD (n + i) 0 : Nat) : Int)) = (A.drop n).map fun x : Nat => PyData.int (x : Int) := by
  apply List.ext_getElem?
  intro i
  rw [List.getElem?_map, List.getElem?_map, List.getElem?_drop]
  by_cases h : i < A.length - n
  · rw [List.getElem?_range h, List.getElem?_eq_getElem (by omega : n + i < A.length)]
    simp [List.getD_eq_getElem?_getD, List.getElem?_eq_getElem (by omega : n + i < A.length)]
  · rw [List.getElem?_eq_none (by simpa using h), List.getElem?_eq_none (by omega : A.length ≤ n + i)]
    rfl
def nbD : Option Int → PyData
  | none => .none
  | some b => .int b
theorem nxb_src (A : List Nat) (hA : A.length ≤ 1000) {z : Sd} (n0 : 0 ≤ z.n) (n1 : z.n ≤ A.length) (c2 c3 c4 : C) : mSrc rng2D (mCons (mTm (mB ixD (mPl 0) (mTm (mK (.int 4))))) (mCons (mTm (mOp (Bf.f .len) (mCons (mPl 1) (mNil)))) (mNil))) [.sh z.d, .sh (.tuple (bsD A)), c2, c3, c4] = some (((List.range (A.length - z.n.toNat)).map fun i : Nat => PyData.int (z.n + (i : Int) * 1), []), [.sh z.d, .sh (.tuple (bsD A)), c2, c3, c4]) := by
  have e1 : rng2D [.int z.n, .int (A.length : Int)] = some (rangeD z.n 1 ((A.length : Int) - z.n).toNat) := by
    simp only [rng2D]
    rw [if_pos (by omega)]
  have e2 : ((A.length : Int) - z.n).toNat = A.length - z.n.toNat := by omega
  rw [e2] at e1
  have e3 : rangeD z.n 1 (A.length - z.n.toNat) = (List.range (A.length - z.n.toNat)).map fun i : Nat => PyData.int (z.n + (i : Int) * 1) := rfl
  rw [← e3]
  have e4 : (((bsD A).length : Nat) : Int) = (A.length : Int) := by simp [bsD]
  unfold Sd.d
  generalize rangeD z.n 1 (A.length - z.n.toNat) = R at *
  generalize bsD A = B at *
  generalize (A.length : Int) = n at *
  generalize rng2D = RR at *
  clear hA n0 n1 e2 e3
  walk_at "es"
theorem next_beat_eq (A : List Nat) (hA : A.length ≤ 1000) (z : Sd) (n0 : 0 ≤ z.n) (n1 : z.n ≤ A.length) (hw : z.w.length ≤ 1000) : g_next_beat [.sh z.d, .sh (.tuple (bsD A))] = some (.sh (nbD (nb A z)), [.sh z.d, .sh (.tuple (bsD A))]) := by
  apply rt_eq
  unfold g_next_beat m_next_beat
  apply rt_sem rfl
  have k1 : mLc (mSrc rng2D (mCons (mTm (mB ixD (mPl 0) (mTm (mK (.int 4))))) (mCons (mTm (mOp (Bf.f .len) (mCons (mPl 1) (mNil)))) (mNil)))) (bNm 3) (mYes) (mB ixD (mPl 1) (mPl 3)) [3] [.sh z.d, .sh (.tuple (bsD A)), .no, .no, .no] = some (.ls ((A.drop z.n.toNat).map fun x : Nat => PyData.int (x : Int)), [.sh z.d, .sh (.tuple (bsD A)), .no, .no, .no]) := by
    rw [← range_drop A z.n.toNat (by omega)]
    refine mLc_enc (fun i : Nat => PyData.int (z.n + (i : Int) * 1)) (fun i : Nat => PyData.int ((A.getD (z.n.toNat + i) 0 : Nat) : Int)) (xs := List.range (A.length - z.n.toNat)) (ws := []) (c0 := .no) (nxb_src A hA n0 n1 _ _ _) rfl ?_ (by rw [List.length_range, sizeLine_eq]; omega)
    intro i hi
    have hi := List.mem_range.mp hi
    refine ⟨.sh (.int ((A.getD (z.n.toNat + i) 0 : Nat) : Int)), ?_, rfl⟩
    have e : atI (bsD A) (z.n + (i : Int) * 1) = some (.int ((A.getD (z.n.toNat + i) 0 : Nat) : Int)) := by
      have e0 : z.n + (i : Int) * 1 = ((z.n.toNat + i : Nat) : Int) := by omega
      rw [e0, at_nat]
      unfold bsD
      rw [List.getElem?_map, List.getElem?_eq_getElem (by omega)]
      simp [List.getD_eq_getElem?_getD, List.getElem?_eq_getElem (by omega : z.n.toNat + i < A.length)]
    generalize A.getD (z.n.toNat + i) 0 = v at *
    clear hi n0 n1 hA hw
    show mB ixD (mPl 1) (mPl 3) [.sh z.d, .sh (.tuple (bsD A)), .no, .sh (.int (z.n + (i : Int) * 1)), .no] = some (_, [.sh z.d, .sh (.tuple (bsD A)), .no, .sh (.int (z.n + (i : Int) * 1)), .no])
    generalize z.n + (i : Int) * 1 = j at *
    generalize z.d = zd
    generalize bsD A = B at *
    walk_at "es"
  have k2 : mLc (mSrc itemsD (mCons (mTm (mB ixD (mPl 0) (mTm (mK (.int 1))))) mNil)) (bNm 4) (mYes) (mB ixD (mPl 4) (mTm (mK (.int 0)))) [4] [.sh z.d, .sh (.tuple (bsD A)), .no, .no, .no] = some (.ls (z.w.map fun x => PyData.int x.due), [.sh z.d, .sh (.tuple (bsD A)), .no, .no, .no]) := by
    refine mLc_enc Wt.d (fun x => PyData.int x.due) (xs := z.w) (ws := []) (c0 := .no) ?_ rfl ?_ (by rw [sizeLine_eq]; omega)
    · unfold Sd.d
      clear k1 n0 n1 hA hw
      generalize z.w.map Wt.d = W
      walk_at "ev"
    · intro x _
      refine ⟨.sh (.int x.due), ?_, rfl⟩
      unfold Wt.d
      clear k1 n0 n1 hA hw
      generalize z.d = zd
      walk_at "ev"
  have en : (A.drop z.n.toNat).map (fun x : Nat => PyData.int (x : Int)) ++ z.w.map (fun x => PyData.int x.due) = (nbL A z).map PyData.int := by
    unfold nbL
    rw [List.map_append, List.map_map, List.map_map]
    rfl
  have hz : ((A.drop z.n.toNat).map (fun x : Nat => PyData.int (x : Int))).length + (z.w.map (fun x => PyData.int x.due)).length ≤ 16777216 := by
    rw [List.length_map, List.length_map, List.length_drop]
    omega
  apply wx_nx (ε1 := [.sh z.d, .sh (.tuple (bsD A)), .ls ((nbL A z).map PyData.int), .no, .no])
  · rw [← en]
    generalize (A.drop z.n.toNat).map (fun x : Nat => PyData.int (x : Int)) = X1 at *
    generalize z.w.map (fun x => PyData.int x.due) = X2 at *
    generalize z.d = zd at *
    generalize mLc _ (bNm 3) mYes _ [3] = L1 at *
    generalize mLc _ (bNm 4) mYes _ [4] = L2 at *
    clear en n0 n1 hA hw
    walk_at "es"
  clear k1 k2 en hz
  cases hL : nbL A z with
  | nil =>
    have hN : nb A z = none := by unfold nb; rw [hL]
    rw [hN]
    simp only [nbD, List.map_nil]
    clear hN hL n0 n1 hA hw
    generalize z.d = zd
    walk_at "rt"
    exact ⟨rfl, rfl⟩
  | cons x xs =>
    have hN : nb A z = some (xs.foldl min x) := by unfold nb; rw [hL]
    rw [hN]
    simp only [nbD, List.map_cons]
    clear hN hL n0 n1 hA hw
    have hc : mTst (mB (cmpD .Eq) (mPl 2) (mTm (mLst (mNil)))) [.sh z.d, .sh (.tuple (bsD A)), .ls (.int x :: xs.map PyData.int), .no, .no] = some (false, [.sh z.d, .sh (.tuple (bsD A)), .ls (.int x :: xs.map PyData.int), .no, .no]) := by
      have hs : ∀ d ∈ xs.map PyData.int, lay 63 d = true := List.all_eq_true.mp (lay_ints 63 xs)
      generalize z.d = zd
      generalize xs.map PyData.int = X at *
      walk_at "ev"
      rw [if_pos hs]
      rfl
    have hX : intsOf (xs.map PyData.int) = some xs := ints_all xs
    generalize mTst _ = MT at *
    generalize xs.map PyData.int = X at *
    generalize z.d = zd at *
    generalize bsD A = B at *
    apply wx_nx (ε1 := [.sh zd, .sh (.tuple B), .ls (.int x :: X), .no, .no])
    · clear hX
      walk_at "es"
    clear hc
    apply wx_rt (c := .sh (.int (xs.foldl min x))) (ε1 := [.sh zd, .sh (.tuple B), .ls (.int x :: X), .no, .no])
    · walk_at "es"
    exact ⟨rfl, rfl⟩
end KW
namespace KW
open PySem PySem.Spec PyProof.Rows L2 L2.M
local macro_rules | `(tactic| walk_at "ev") => `(tactic| simp [semF, shared, after, mSeq, mSkip, mIf, mRet, mRetN, mRetV, mSet, mSetIx, mExpr, mB, mU, mTm, mPl, mK, mVar, mOp, mCons, mNil, bor, bors, mTst, mAndT, mOrT, mNotT, mAndE, mOrE, mNotE, mIfE, mIsi, isiD, mChn, chnL, cmpD, binD, addD, subD, mulD, modD, fdivD, powD, eqD, neD, ltD, leD, gtD, geD, isD, isnD, L2.M.isNon, negD, ixD, Bf.f, Bg.f, lenD, L2.M.intD, maxD, minD, repD, strD, gmaxD, gminD, sumD, sortD, anyD, allD, mCall, frz, fzO, lend, wb, mTup, mLst, fzs, cD, mAsg, bTup, bTps, mApp, tupD, lstD, mRev, revD, ofs_inj, ee_ii, ee_ss, ee_bb, ee_nn, ee_is, ee_si, ee_in, ee_ni, ee_tt, ee_ll, ee_maps, ee_0, ee_1, ee_2, ee_3, at_lit, at_nat, at_m1, at_m2, scD, emD, sizeLine_eq, ixN, sm_lit, mSrc, itemsD, plOf, rng1D, bNm, mSl, mPt, mNoP, slD, mPar, keepT, tmsO, setA, mFlow, zipX, enumX, itemsX, intsOf, ints_all, boolsOf, shaped_lay, lay_int, lay_bool, lay_none, lay_dict, lay_tup, lay_list, lay_ints, sortX_ints, mPlF, mPlI, mRd, mPU, mPB, mFSet, mFNew, mNSet, mPApp, mPSetIx, mPPop, mMeth, mNew, isIns, cellO, mLstN, mAddN, mAppN, semX, mTold, mCallX, xRet, xExpr, xSet, mRaise, mM, isL, isS, mOrV, truD])
local macro_rules | `(tactic| walk_at "es") => `(tactic| simp [semF, shared, after, mSeq, mSkip, mIf, mRet, mRetN, mRetV, mSet, mSetIx, mExpr, mB, mU, mTm, mPl, mK, mVar, mOp, mCons, mNil, bor, bors, mTst, mAndT, mOrT, mNotT, mAndE, mOrE, mNotE, mIfE, mIsi, isiD, mChn, chnL, cmpD, binD, addD, subD, mulD, modD, fdivD, powD, eqD, neD, ltD, leD, gtD, geD, isD, isnD, L2.M.isNon, negD, ixD, Bf.f, Bg.f, lenD, L2.M.intD, maxD, minD, repD, strD, gmaxD, gminD, sumD, sortD, anyD, allD, mCall, frz, fzO, lend, wb, mTup, mLst, fzs, cD, mAsg, bTup, bTps, mApp, tupD, lstD, mRev, revD, ofs_inj, ee_ii, ee_ss, ee_bb, ee_nn, ee_is, ee_si, ee_in, ee_ni, ee_tt, ee_ll, ee_maps, ee_0, ee_1, ee_2, ee_3, at_lit, at_nat, at_m1, at_m2, scD, emD, sizeLine_eq, ixN, sm_lit, mSrc, itemsD, plOf, rng1D, bNm, mSl, mPt, mNoP, slD, mPar, keepT, tmsO, setA, mFlow, zipX, enumX, itemsX, intsOf, ints_all, boolsOf, shaped_lay, lay_int, lay_bool, lay_none, lay_dict, lay_tup, lay_list, lay_ints, sortX_ints, mPlF, mPlI, mRd, mPU, mPB, mFSet, mFNew, mNSet, mPApp, mPSetIx, mPPop, mMeth, mNew, isIns, cellO, mLstN, mAddN, mAppN, semX, mTold, mCallX, xRet, xExpr, xSet, mRaise, mM, isL, isS, mOrV, truD, *])
local macro_rules | `(tactic| walk_at "el") => `(tactic| simp [semF, shared, after, mSeq, mSkip, mIf, mRet, mRetN, mRetV, mSet, mSetIx, mExpr, mB, mU, mTm, mPl, mK, mVar, mOp, mCons, mNil, bor, bors, mTst, mAndT, mOrT, mNotT, mAndE, mOrE, mNotE, mIfE, mIsi, isiD, mChn, chnL, cmpD, binD, addD, subD, mulD, modD, fdivD, powD, eqD, neD, ltD, leD, gtD, geD, isD, isnD, L2.M.isNon, negD, ixD, Bf.f, Bg.f, lenD, L2.M.intD, maxD, minD, repD, strD, gmaxD, gminD, sumD, sortD, anyD, allD, mCall, frz, fzO, lend, wb, mTup, mLst, fzs, cD, mAsg, bTup, bTps, mApp, tupD, lstD, mRev, revD, ofs_inj, ee_ii, ee_ss, ee_bb, ee_nn, ee_is, ee_si, ee_in, ee_ni, ee_tt, ee_ll, ee_maps, ee_0, ee_1, ee_2, ee_3, at_lit, at_nat, at_m1, at_m2, scD, emD, sizeLine_eq, ixN, sm_lit, mSrc, itemsD, plOf, rng1D, bNm, mSl, mPt, mNoP, slD, mPar, keepT, tmsO, setA, mFlow, zipX, enumX, itemsX, intsOf, ints_all, boolsOf, shaped_lay, lay_int, lay_bool, lay_none, lay_dict, lay_tup, lay_list, lay_ints, sortX_ints, mPlF, mPlI, mRd, mPU, mPB, mFSet, mFNew, mNSet, mPApp, mPSetIx, mPPop, mMeth, mNew, isIns, cellO, mLstN, mAddN, mAppN, semX, mTold, mCallX, xRet, xExpr, xSet, mRaise, mM, isL, isS, mOrV, truD, mLc, lcL, sameC, wipeC, restC, mYes, *])
local macro_rules | `(tactic| walk_at "ef") => `(tactic| simp [semF, shared, after, mSeq, mSkip, mIf, mRet, mRetN, mRetV, mSet, mSetIx, mExpr, mB, mU, mTm, mPl, mK, mVar, mOp, mCons, mNil, bor, bors, mTst, mAndT, mOrT, mNotT, mAndE, mOrE, mNotE, mIfE, mIsi, isiD, mChn, chnL, cmpD, binD, addD, subD, mulD, modD, fdivD, powD, eqD, neD, ltD, leD, gtD, geD, isD, isnD, L2.M.isNon, negD, ixD, Bf.f, Bg.f, lenD, L2.M.intD, maxD, minD, repD, strD, gmaxD, gminD, sumD, sortD, anyD, allD, mCall, frz, fzO, lend, wb, mTup, mLst, fzs, cD, mAsg, bTup, bTps, mApp, tupD, lstD, mRev, revD, ofs_inj, ee_ii, ee_ss, ee_bb, ee_nn, ee_is, ee_si, ee_in, ee_ni, ee_tt, ee_ll, ee_maps, ee_0, ee_1, ee_2, ee_3, at_lit, at_nat, at_m1, at_m2, scD, emD, sizeLine_eq, ixN, sm_lit, mSrc, itemsD, plOf, rng1D, bNm, mSl, mPt, mNoP, slD, mPar, keepT, tmsO, setA, mFlow, zipX, enumX, itemsX, intsOf, ints_all, boolsOf, shaped_lay, lay_int, lay_bool, lay_none, lay_dict, lay_tup, lay_list, lay_ints, sortX_ints, mPlF, mPlI, mRd, mPU, mPB, mFSet, mFNew, mNSet, mPApp, mPSetIx, mPPop, mMeth, mNew, isIns, cellO, mLstN, mAddN, mAppN, semX, mTold, mCallX, xRet, xExpr, xSet, mRaise, mM, isL, isS, mOrV, truD, mFor, forL, mLc, lcL, sameC, wipeC, restC, mYes, *])
local macro_rules | `(tactic| walk_at "rg") => `(tactic| (and_intros <;> grind))
local macro_rules | `(tactic| walk_at "nx") => `(tactic| (apply wx_nx; focus (walk_at "ev"; try first | exact ⟨rfl, rfl⟩ | rfl)))
local macro_rules | `(tactic| walk_at "ns") => `(tactic| (apply wx_nx; focus (walk_at "es"; try first | exact ⟨rfl, rfl⟩ | rfl)))
local macro_rules | `(tactic| walk_at "rt") => `(tactic| (apply wx_rt; focus (walk_at "ev"; try first | exact ⟨rfl, rfl⟩ | rfl)))
local macro_rules | `(tactic| walk_at "rs") => `(tactic| (apply wx_rt; focus (walk_at "es"; try first | exact ⟨rfl, rfl⟩ | rfl)))
local macro_rules | `(tactic| walk_at "ed") => `(tactic| simp [semF, shared, after, mSeq, mSkip, mIf, mRet, mRetN, mRetV, mSet, mSetIx, mExpr, mB, mU, mTm, mPl, mK, mVar, mOp, mCons, mNil, bor, bors, mTst, mAndT, mOrT, mNotT, mAndE, mOrE, mNotE, mIfE, mIsi, isiD, mChn, chnL, cmpD, binD, addD, subD, mulD, modD, fdivD, powD, eqD, neD, ltD, leD, gtD, geD, isD, isnD, L2.M.isNon, negD, ixD, Bf.f, Bg.f, lenD, L2.M.intD, maxD, minD, repD, strD, gmaxD, gminD, sumD, sortD, anyD, allD, mCall, frz, fzO, lend, wb, mTup, mLst, fzs, cD, mAsg, bTup, bTps, mApp, tupD, lstD, mRev, revD, ofs_inj, ee_ii, ee_ss, ee_bb, ee_nn, ee_is, ee_si, ee_in, ee_ni, ee_tt, ee_ll, ee_maps, ee_0, ee_1, ee_2, ee_3, at_lit, at_nat, at_m1, at_m2, scD, emD, sizeLine_eq, ixN, sm_lit, mSrc, itemsD, plOf, rng1D, bNm, mSl, mPt, mNoP, slD, mPar, keepT, tmsO, setA, mFlow, zipX, enumX, itemsX, intsOf, ints_all, boolsOf, shaped_lay, lay_int, lay_bool, lay_none, lay_dict, lay_tup, lay_list, lay_ints, sortX_ints, mPlF, mPlI, mRd, mPU, mPB, mFSet, mFNew, mNSet, mPApp, mPSetIx, mPPop, mMeth, mNew, isIns, cellO, mLstN, mAddN, mAppN, semX, mTold, mCallX, xRet, xExpr, xSet, mRaise, mM, isL, isS, mOrV, truD, mDNew, mDIn, mDGet, mDLen, mDPut, kyD, mNNew, mN1, mTake, mFnV, mCallF, mNIn, mNGet, mNPut, mNVals, mNList, nKs, mDGetD, mDList, mNNe, *])
theorem count_eq (A : List Nat) (b : Int) : countD [.tuple (bsD A), .int b] = some (.sh (.int (cnt A b))) := by
  have h1 : SeqAt.shaped (.tuple (bsD A)) = true := by
    rw [shaped_lay, lay_tup, List.all_eq_true]
    · intro d hd
      obtain ⟨x, hx, rfl⟩ := List.mem_map.mp hd
      exact lay_int _ _
    · decide
  have h2 : SeqAt.shaped (.int b) = true := by rw [shaped_lay]; exact lay_int _ _
  show (if (SeqAt.shaped (.tuple (bsD A)) && SeqAt.shaped (.int b)) = true then _ else none) = _
  rw [h1, h2]
  have e : (bsD A).countP (fun z => PyData.eqv z (.int b)) = cnt A b := by
    unfold bsD cnt
    rw [List.countP_map]
    refine List.countP_congr fun x _ => ?_
    simp only [Function.comp, ee_ii]
  rw [e]
  rfl
theorem ev_1 {Y A S Zd d6 d7 : C} {B : List PyData} {E : C} {b : Int} {n : Nat} (f : countD [.tuple B, .int b] = some (.sh (.int n))) : mSet [0, 1, 2] 6 (mM countD isTu (mPl 1) (mCons (mPl 5) (mNil))) [Y, .sh (.tuple B), S, Zd, E, .sh (.int b), d6, d7, .no] = some (.nx, [Y, .sh (.tuple B), S, Zd, E, .sh (.int b), .sh (.int n), d7, .no]) := by
  generalize countD = CD at *
  have hk : isTu (.tuple B) = true := rfl
  generalize isTu = IT at *
  walk_at "es"
theorem ev_2 {Y A S d6 d7 : C} {z : Sd} {E : C} {b : Int} : mSet [0, 1, 2] 3 (mB (binD .Add) (mTm (mTup (mCons (mPl 5) (mNil)))) (mTm (mSl (mPl 3) (mPt (mTm (mK (.int 1)))) (mNoP)))) [Y, A, S, .sh z.d, E, .sh (.int b), d6, d7, .no] = some (.nx, [Y, A, S, .sh (jmp z b).d, E, .sh (.int b), d6, d7, .no]) := by
  have k1 := cut_from [PyData.int z.t, .tuple (z.w.map Wt.d), .int z.c, z.s.d, .int z.n] (i := 1) (by decide)
  unfold Sd.d jmp
  generalize z.w.map Wt.d = W at *
  generalize z.s.d = s at *
  walk_at "es"
theorem ev_3 {q R Y : PyData} {A E d7 : C} {sd zd : PyData} {b : Int} {v : Bool} {n : Nat} {ev : List PyData} (f1 : g_silent_at [.sh sd, .sh (.int b)] = some (.sh (.bool v), [.sh sd, .sh (.int b)])) (f2 : g_stepped [.sh q, .sh zd, .sh (.bool (!v)), .sh (.int n)] = some (.sh (.tuple [R, .tuple ev]), [.sh q, .sh zd, .sh (.bool (!v)), .sh (.int n)])) : mAsg [3, 7] [0, 1, 2] (bTup [bNm 3, bNm 7]) (mCall [true, true, true, true] g_stepped (mCons (mPl 0) (mCons (mPl 3) (mCons (mTm (mNotE (mCall [true, true] g_silent_at (mCons (mPl 2) (mCons (mPl 5) (mNil)))))) (mCons (mPl 6) (mNil)))))) [.sh q, A, .sh sd, .sh zd, E, .sh (.int b), .sh (.int n), d7, .no] = some (.nx, [.sh q, A, .sh sd, .sh R, E, .sh (.int b), .sh (.int n), .sh (.tuple ev), .no]) := by
  cases v <;> (simp only [Bool.not_true, Bool.not_false] at f2; walk_at "es")
theorem ev_4 {Y A S Zd d6 : C} {E ev : List PyData} {b N : Int} (hev : ∀ d ∈ ev, EvN N d) (hz : E.length + ev.length ≤ 16777216) : mExt 4 (mLc (mSrc itemsD (mCons (mTm (mVar 7)) mNil)) (bNm 8) (mYes) (mB (binD .Add) (mTm (mTup (mCons (mPl 5) (mNil)))) (mPl 8)) [8]) [Y, A, S, Zd, .ls E, .sh (.int b), d6, .sh (.tuple ev), .no] = some (.nx, [Y, A, S, Zd, .ls (E ++ ev.map (evB b)), .sh (.int b), d6, .sh (.tuple ev), .no]) := by
  have key : mLc (mSrc itemsD (mCons (mTm (mVar 7)) mNil)) (bNm 8) (mYes) (mB (binD .Add) (mTm (mTup (mCons (mPl 5) (mNil)))) (mPl 8)) [8] [Y, A, S, Zd, .ls E, .sh (.int b), d6, .sh (.tuple ev), .no] = some (.ls (ev.map (evB b)), [Y, A, S, Zd, .ls E, .sh (.int b), d6, .sh (.tuple ev), .no]) := by
    refine mLc_enc id (evB b) (xs := ev) (ws := []) (c0 := .no) ?_ rfl ?_ (by rw [sizeLine_eq]; omega)
    · rw [List.map_id]
      clear hev hz
      walk_at "ev"
    · intro d hd
      obtain ⟨n, w, x, rfl, _⟩ := hev d hd
      refine ⟨.sh (.tuple [.int b, .int n, .str w, x]), ?_, rfl⟩
      clear hev hz hd
      unfold evD
      walk_at "ev"
  have hz2 : E.length + (ev.map (evB b)).length ≤ 16777216 := by rw [List.length_map]; exact hz
  generalize ev.map (evB b) = ev2 at *
  generalize mLc _ (bNm 8) mYes _ [8] = ML at *
  clear hev hz
  unfold mExt
  walk_at "es"
theorem ev_5 {Y S d6 d7 E c5 : C} {B N Zd : PyData} (f : g_next_beat [.sh Zd, .sh B] = some (.sh N, [.sh Zd, .sh B])) : mSet [0, 1, 2] 5 (mCall [true, true] g_next_beat (mCons (mPl 3) (mCons (mPl 1) (mNil)))) [Y, .sh B, S, .sh Zd, E, c5, d6, d7, .no] = some (.nx, [Y, .sh B, S, .sh Zd, E, .sh N, d6, d7, .no]) := by
  walk_at "es"
theorem gst_len {q : Ca} (h : q.Ok) {A : List Nat} (hA : Ak A) (hZ : q.Z ≤ 1000) (f : Int → Bool) : ∀ i : Nat, (gst q f A i).2.length ≤ i * 2000
  | 0 => by rw [gst_0]; exact Nat.zero_le _
  | i + 1 => by
    rw [gst_s]
    have ih := gst_len h hA hZ f i
    have g := gi_all h hA hZ f i
    cases hb : nb A (gst q f A i).1 with
    | none => rw [nx1_none hb]; omega
    | some b =>
      rw [nx1_some hb, List.length_append, List.length_map]
      have h1 := (nxS_len q (f b) (jmp (gst q f A i).1 b) (cnt A b)).2
      have h2 : (jmp (gst q f A i).1 b).w.length = (gst q f A i).1.w.length := rfl
      have h3 := cnt_le A b
      have h4 := hA.l
      have h5 := g.wl
      have h6 := g.n1
      omega
theorem events_of_eq {q : Ca} (h : q.Ok) {A : List Nat} (hA : Ak A) (hZ : q.Z ≤ 1000) (st : List (Int × Int)) (hst : st.length ≤ 100000) : g_events_of [.sh q.d, .sh (.tuple (bsD A)), .sh (stD st)] = some (.ls (goE q (fun b => !sil st b) A), [.sh q.d, .sh (.tuple (bsD A)), .sh (stD st)]) := by
  apply rt_eq
  unfold g_events_of m_events_of
  apply rt_sem rfl
  obtain ⟨f, hf⟩ : ∃ f : Int → Bool, f = fun b => !sil st b := ⟨_, rfl⟩
  rw [← hf]
  have e0 : g_first_of [.sh q.d] = some (.sh (gst q f A 0).1.d, [.sh q.d]) := by
    rw [gst_0]
    unfold g_first_of m_first_of Sd.d Ca.d Ca.pu
    walk_at "ev"
    rfl
  have nxq := fun i : Nat => next_beat_eq A hA.l (gst q f A i).1 (gi_all h hA hZ f i).n0 (gi_all h hA hZ f i).n1 (by have := (gi_all h hA hZ f i).wl; have := (gi_all h hA hZ f i).n1; have := hA.l; omega)
  apply wx_nx (ε1 := [.sh q.d, .sh (.tuple (bsD A)), .sh (stD st), .sh (gst q f A 0).1.d, .no, .no, .no, .no, .no])
  · generalize (gst q f A 0).1.d = Z at *
    generalize q.d = qd at *
    generalize stD st = sd at *
    generalize bsD A = B at *
    clear nxq h hA hZ hf
    walk_at "es"
  clear e0
  apply wx_nx (ε1 := [.sh q.d, .sh (.tuple (bsD A)), .sh (stD st), .sh (gst q f A 0).1.d, .ls [], .no, .no, .no, .no])
  · generalize (gst q f A 0).1.d = Z
    generalize q.d = qd
    generalize stD st = sd
    walk_at "ev"
  apply wx_nx (ev_5 (nxq 0))
  apply wx_seq
  apply wx_while (fun m ε => ∃ (i : Nat) (c6 c7 : C), m + i = 2002 ∧ ε = [.sh q.d, .sh (.tuple (bsD A)), .sh (stD st), .sh (gst q f A i).1.d, .ls (gst q f A i).2, .sh (nbD (nb A (gst q f A i).1)), c6, c7, .no]) 2002
  · exact ⟨0, _, _, rfl, by rw [show (gst q f A 0).2 = [] by rw [gst_0]]⟩
  · rintro m ε ⟨i, c6, c7, hm, rfl⟩
    have g := gi_all h hA hZ f i
    have n1 := nxq (i + 1)
    have ht := gst_t h hA hZ f i
    have hl := gst_len h hA hZ f i
    have hv := fun d (hd : d ∈ (gst q f A i).2) => gst_ev h hA hZ f i d hd
    cases hb : nb A (gst q f A i).1 with
    | none =>
      refine ⟨false, [.sh q.d, .sh (.tuple (bsD A)), .sh (stD st), .sh (gst q f A i).1.d, .ls (gst q f A i).2, .sh .none, c6, c7, .no], ?_, fun _ => ?_, fun hk => by cases hk⟩
      · simp only [nbD]
        generalize (gst q f A i).1.d = Z
        generalize (gst q f A i).2 = E
        clear nxq h hA hZ hf g n1 ht hl hv
        generalize q.d = qd
        generalize stD st = sd
        walk_at "ev"
      · have e := gst_fin h hA hZ (f := f) (i := i) hb
        rw [e]
        apply wx_rt (c := .ls (goE q f A)) (ε1 := [.sh q.d, .sh (.tuple (bsD A)), .sh (stD st), .sh (gst q f A i).1.d, .no, .sh .none, c6, c7, .no])
        · generalize goE q f A = E
          generalize (gst q f A i).1.d = Z
          clear nxq h hA hZ hf g n1 ht hl hv e
          generalize q.d = qd
          generalize stD st = sd
          walk_at "ev"
        exact ⟨rfl, rfl⟩
    | some b =>
      obtain ⟨b1, b2⟩ := nb_bd hA hZ g hb
      have g0 := g.t0
      have hi : i ≤ 2001 := by
        rcases ht with e | e
        · rw [hb] at e; cases e
        · have := g.t1
          omega
      refine ⟨true, [.sh q.d, .sh (.tuple (bsD A)), .sh (stD st), .sh (gst q f A i).1.d, .ls (gst q f A i).2, .sh (.int b), c6, c7, .no], ?_, fun hk => (by cases hk), fun _ => ?_⟩
      · simp only [nbD]
        generalize (gst q f A i).1.d = Z
        generalize (gst q f A i).2 = E
        clear nxq h hA hZ hf g n1 ht hl hv
        generalize q.d = qd
        generalize stD st = sd
        walk_at "ev"
      · have f1 := silent_at_eq st b hst
        have c1 := cnt_le A b
        have c2 := hA.l
        have w1 := g.wl
        have w2 := g.n1
        have f2 := stepped_eq h (!sil st b) (jmp (gst q f A i).1 b) (by show 0 ≤ b; omega) (by show b ≤ 10 ^ 8; omega) (gi_jmp g hb) (by show (gst q f A i).1.w.length ≤ _; omega) (cnt A b) (by omega)
        have ev := nxE_n g b (!sil st b) (cnt A b)
        have ln := (nxS_len q (!sil st b) (jmp (gst q f A i).1 b) (cnt A b)).2
        have lw : (jmp (gst q f A i).1 b).w.length = (gst q f A i).1.w.length := rfl
        have es : gst q f A (i + 1) = (nxS q (!sil st b) (jmp (gst q f A i).1 b) (cnt A b), (gst q f A i).2 ++ (nxE q (!sil st b) (jmp (gst q f A i).1 b) (cnt A b)).map (evB b)) := by
          rw [gst_s, nx1_some hb, hf]
        simp only [nbD]
        apply wx_nx (ev_1 (Y := .sh q.d) (A := .no) (S := .sh (stD st)) (E := .ls (gst q f A i).2) (count_eq A b))
        apply wx_nx ev_2
        apply wx_nx (ev_3 (Y := .none) f1 f2)
        apply wx_nx (ev_4 ev (by omega))
        have eN : (nxS q (!sil st b) (jmp (gst q f A i).1 b) (cnt A b)) = (gst q f A (i + 1)).1 := by rw [es]
        have eE : (gst q f A i).2 ++ (nxE q (!sil st b) (jmp (gst q f A i).1 b) (cnt A b)).map (evB b) = (gst q f A (i + 1)).2 := by rw [es]
        rw [eN, eE]
        generalize nxE q (!sil st b) (jmp (gst q f A i).1 b) (cnt A b) = ev2
        apply wx_nx (ev_5 n1)
        exact wx_skip ⟨m - 1, by omega, i + 1, _, _, by omega, rfl⟩
end KW
namespace KW
open PySem PySem.Spec PyProof.Rows L2 L2.M
local macro_rules | `(tactic| walk_at "ev") => `(tactic| simp [semF, shared, after, mSeq, mSkip, mIf, mRet, mRetN, mRetV, mSet, mSetIx, mExpr, mB, mU, mTm, mPl, mK, mVar, mOp, mCons, mNil, bor, bors, mTst, mAndT, mOrT, mNotT, mAndE, mOrE, mNotE, mIfE, mIsi, isiD, mChn, chnL, cmpD, binD, addD, subD, mulD, modD, fdivD, powD, eqD, neD, ltD, leD, gtD, geD, isD, isnD, L2.M.isNon, negD, ixD, Bf.f, Bg.f, lenD, L2.M.intD, maxD, minD, repD, strD, gmaxD, gminD, sumD, sortD, anyD, allD, mCall, frz, fzO, lend, wb, mTup, mLst, fzs, cD, mAsg, bTup, bTps, mApp, tupD, lstD, mRev, revD, ofs_inj, ee_ii, ee_ss, ee_bb, ee_nn, ee_is, ee_si, ee_in, ee_ni, ee_tt, ee_ll, ee_maps, ee_0, ee_1, ee_2, ee_3, at_lit, at_nat, at_m1, at_m2, scD, emD, sizeLine_eq, ixN, sm_lit, mSrc, itemsD, plOf, rng1D, bNm, mSl, mPt, mNoP, slD, mPar, keepT, tmsO, setA, mFlow, zipX, enumX, itemsX, intsOf, ints_all, boolsOf, shaped_lay, lay_int, lay_bool, lay_none, lay_dict, lay_tup, lay_list, lay_ints, sortX_ints, mPlF, mPlI, mRd, mPU, mPB, mFSet, mFNew, mNSet, mPApp, mPSetIx, mPPop, mMeth, mNew, isIns, cellO, mLstN, mAddN, mAppN, semX, mTold, mCallX, xRet, xExpr, xSet, mRaise, mM, isL, isS, mOrV, truD])
local macro_rules | `(tactic| walk_at "es") => `(tactic| simp [semF, shared, after, mSeq, mSkip, mIf, mRet, mRetN, mRetV, mSet, mSetIx, mExpr, mB, mU, mTm, mPl, mK, mVar, mOp, mCons, mNil, bor, bors, mTst, mAndT, mOrT, mNotT, mAndE, mOrE, mNotE, mIfE, mIsi, isiD, mChn, chnL, cmpD, binD, addD, subD, mulD, modD, fdivD, powD, eqD, neD, ltD, leD, gtD, geD, isD, isnD, L2.M.isNon, negD, ixD, Bf.f, Bg.f, lenD, L2.M.intD, maxD, minD, repD, strD, gmaxD, gminD, sumD, sortD, anyD, allD, mCall, frz, fzO, lend, wb, mTup, mLst, fzs, cD, mAsg, bTup, bTps, mApp, tupD, lstD, mRev, revD, ofs_inj, ee_ii, ee_ss, ee_bb, ee_nn, ee_is, ee_si, ee_in, ee_ni, ee_tt, ee_ll, ee_maps, ee_0, ee_1, ee_2, ee_3, at_lit, at_nat, at_m1, at_m2, scD, emD, sizeLine_eq, ixN, sm_lit, mSrc, itemsD, plOf, rng1D, bNm, mSl, mPt, mNoP, slD, mPar, keepT, tmsO, setA, mFlow, zipX, enumX, itemsX, intsOf, ints_all, boolsOf, shaped_lay, lay_int, lay_bool, lay_none, lay_dict, lay_tup, lay_list, lay_ints, sortX_ints, mPlF, mPlI, mRd, mPU, mPB, mFSet, mFNew, mNSet, mPApp, mPSetIx, mPPop, mMeth, mNew, isIns, cellO, mLstN, mAddN, mAppN, semX, mTold, mCallX, xRet, xExpr, xSet, mRaise, mM, isL, isS, mOrV, truD, *])
local macro_rules | `(tactic| walk_at "el") => `(tactic| simp [semF, shared, after, mSeq, mSkip, mIf, mRet, mRetN, mRetV, mSet, mSetIx, mExpr, mB, mU, mTm, mPl, mK, mVar, mOp, mCons, mNil, bor, bors, mTst, mAndT, mOrT, mNotT, mAndE, mOrE, mNotE, mIfE, mIsi, isiD, mChn, chnL, cmpD, binD, addD, subD, mulD, modD, fdivD, powD, eqD, neD, ltD, leD, gtD, geD, isD, isnD, L2.M.isNon, negD, ixD, Bf.f, Bg.f, lenD, L2.M.intD, maxD, minD, repD, strD, gmaxD, gminD, sumD, sortD, anyD, allD, mCall, frz, fzO, lend, wb, mTup, mLst, fzs, cD, mAsg, bTup, bTps, mApp, tupD, lstD, mRev, revD, ofs_inj, ee_ii, ee_ss, ee_bb, ee_nn, ee_is, ee_si, ee_in, ee_ni, ee_tt, ee_ll, ee_maps, ee_0, ee_1, ee_2, ee_3, at_lit, at_nat, at_m1, at_m2, scD, emD, sizeLine_eq, ixN, sm_lit, mSrc, itemsD, plOf, rng1D, bNm, mSl, mPt, mNoP, slD, mPar, keepT, tmsO, setA, mFlow, zipX, enumX, itemsX, intsOf, ints_all, boolsOf, shaped_lay, lay_int, lay_bool, lay_none, lay_dict, lay_tup, lay_list, lay_ints, sortX_ints, mPlF, mPlI, mRd, mPU, mPB, mFSet, mFNew, mNSet, mPApp, mPSetIx, mPPop, mMeth, mNew, isIns, cellO, mLstN, mAddN, mAppN, semX, mTold, mCallX, xRet, xExpr, xSet, mRaise, mM, isL, isS, mOrV, truD, mLc, lcL, sameC, wipeC, restC, mYes, *])
local macro_rules | `(tactic| walk_at "ef") => `(tactic| simp [semF, shared, after, mSeq, mSkip, mIf, mRet, mRetN, mRetV, mSet, mSetIx, mExpr, mB, mU, mTm, mPl, mK, mVar, mOp, mCons, mNil, bor, bors, mTst, mAndT, mOrT, mNotT, mAndE, mOrE, mNotE, mIfE, mIsi, isiD, mChn, chnL, cmpD, binD, addD, subD, mulD, modD, fdivD, powD, eqD, neD, ltD, leD, gtD, geD, isD, isnD, L2.M.isNon, negD, ixD, Bf.f, Bg.f, lenD, L2.M.intD, maxD, minD, repD, strD, gmaxD, gminD, sumD, sortD, anyD, allD, mCall, frz, fzO, lend, wb, mTup, mLst, fzs, cD, mAsg, bTup, bTps, mApp, tupD, lstD, mRev, revD, ofs_inj, ee_ii, ee_ss, ee_bb, ee_nn, ee_is, ee_si, ee_in, ee_ni, ee_tt, ee_ll, ee_maps, ee_0, ee_1, ee_2, ee_3, at_lit, at_nat, at_m1, at_m2, scD, emD, sizeLine_eq, ixN, sm_lit, mSrc, itemsD, plOf, rng1D, bNm, mSl, mPt, mNoP, slD, mPar, keepT, tmsO, setA, mFlow, zipX, enumX, itemsX, intsOf, ints_all, boolsOf, shaped_lay, lay_int, lay_bool, lay_none, lay_dict, lay_tup, lay_list, lay_ints, sortX_ints, mPlF, mPlI, mRd, mPU, mPB, mFSet, mFNew, mNSet, mPApp, mPSetIx, mPPop, mMeth, mNew, isIns, cellO, mLstN, mAddN, mAppN, semX, mTold, mCallX, xRet, xExpr, xSet, mRaise, mM, isL, isS, mOrV, truD, mFor, forL, mLc, lcL, sameC, wipeC, restC, mYes, *])
local macro_rules | `(tactic| walk_at "rg") => `(tactic| (and_intros <;> grind))
local macro_rules | `(tactic| walk_at "nx") => `(tactic| (apply wx_nx; focus (walk_at "ev"; try first | exact ⟨rfl, rfl⟩ | rfl)))
local macro_rules | `(tactic| walk_at "ns") => `(tactic| (apply wx_nx; focus (walk_at "es"; try first | exact ⟨rfl, rfl⟩ | rfl)))
local macro_rules | `(tactic| walk_at "rt") => `(tactic| (apply wx_rt; focus (walk_at "ev"; try first | exact ⟨rfl, rfl⟩ | rfl)))
local macro_rules | `(tactic| walk_at "rs") => `(tactic| (apply wx_rt; focus (walk_at "es"; try first | exact ⟨rfl, rfl⟩ | rfl)))
local macro_rules | `(tactic| walk_at "ed") => `(tactic| simp [semF, shared, after, mSeq, mSkip, mIf, mRet, mRetN, mRetV, mSet, mSetIx, mExpr, mB, mU, mTm, mPl, mK, mVar, mOp, mCons, mNil, bor, bors, mTst, mAndT, mOrT, mNotT, mAndE, mOrE, mNotE, mIfE, mIsi, isiD, mChn, chnL, cmpD, binD, addD, subD, mulD, modD, fdivD, powD, eqD, neD, ltD, leD, gtD, geD, isD, isnD, L2.M.isNon, negD, ixD, Bf.f, Bg.f, lenD, L2.M.intD, maxD, minD, repD, strD, gmaxD, gminD, sumD, sortD, anyD, allD, mCall, frz, fzO, lend, wb, mTup, mLst, fzs, cD, mAsg, bTup, bTps, mApp, tupD, lstD, mRev, revD, ofs_inj, ee_ii, ee_ss, ee_bb, ee_nn, ee_is, ee_si, ee_in, ee_ni, ee_tt, ee_ll, ee_maps, ee_0, ee_1, ee_2, ee_3, at_lit, at_nat, at_m1, at_m2, scD, emD, sizeLine_eq, ixN, sm_lit, mSrc, itemsD, plOf, rng1D, bNm, mSl, mPt, mNoP, slD, mPar, keepT, tmsO, setA, mFlow, zipX, enumX, itemsX, intsOf, ints_all, boolsOf, shaped_lay, lay_int, lay_bool, lay_none, lay_dict, lay_tup, lay_list, lay_ints, sortX_ints, mPlF, mPlI, mRd, mPU, mPB, mFSet, mFNew, mNSet, mPApp, mPSetIx, mPPop, mMeth, mNew, isIns, cellO, mLstN, mAddN, mAppN, semX, mTold, mCallX, xRet, xExpr, xSet, mRaise, mM, isL, isS, mOrV, truD, mDNew, mDIn, mDGet, mDLen, mDPut, kyD, mNNew, mN1, mTake, mFnV, mCallF, mNIn, mNGet, mNPut, mNVals, mNList, nKs, mDGetD, mDList, mNNe, *])
theorem whole_eq (d : PyData) : g_is_whole [.sh d] = some (.sh (.bool (whole d)), [.sh d]) := by
  unfold g_is_whole m_is_whole
  cases d <;> (walk_at "es"; try rfl)
theorem go_b {Y A S Z : C} {L : List PyData} {b n : Int} {w : Str} {x : PyData} (n0 : 0 ≤ n) (n1 : n < (L.length : Int)) : mIf (mTst (mB (cmpD .Eq) (mPl 7) (mTm (mK (.str "served"))))) (mSeq (mSetIx 4 (mTup (mCons (mTm (mK (.str "served"))) (mCons (mPl 5) (mNil)))) (mPl 6)) (mSkip)) (mSeq (mIf (mNotT (mTst (mCall [true] g_is_whole (mCons (mPl 8) (mNil))))) (mSeq (mSetIx 4 (mTup (mCons (mTm (mK (.str "lost"))) (mCons (mPl 5) (mCons (mPl 8) (mNil))))) (mPl 6)) (mSkip)) (mSkip)) (mSkip)) [Y, A, S, Z, .ls L, .sh (.int b), .sh (.int n), .sh (.str w), .sh x] = some (.nx, [Y, A, S, Z, .ls (endS L (.tuple [.int b, .int n, .str w, x])), .sh (.int b), .sh (.int n), .sh (.str w), .sh x]) := by
  have f := whole_eq x
  have e : endS L (.tuple [.int b, .int n, .str w, x]) = if w = "served" then L.set n.toNat (.tuple [.str "served", .int b]) else if whole x = true then L else L.set n.toNat (.tuple [.str "lost", .int b, x]) := rfl
  rw [e]
  clear e
  by_cases hw : w = "served"
  · subst hw
    rw [if_pos rfl]
    walk_at "es"
  · rw [if_neg hw]
    cases hx : whole x with
    | true =>
      rw [hx] at f
      rw [if_pos rfl]
      walk_at "es"
    | false =>
      rw [hx] at f
      rw [if_neg (by simp)]
      walk_at "es"
theorem go_1 {Y A S : PyData} {E : List PyData} (f : g_events_of [.sh Y, .sh A, .sh S] = some (.ls E, [.sh Y, .sh A, .sh S])) : mSet [0, 1, 2] 3 (mCall [true, true, true] g_events_of (mCons (mPl 0) (mCons (mPl 1) (mCons (mPl 2) (mNil))))) [.sh Y, .sh A, .sh S, .no, .no, .no, .no, .no, .no] = some (.nx, [.sh Y, .sh A, .sh S, .ls E, .no, .no, .no, .no, .no]) := by
  walk_at "es"
theorem go_2 {Y S : PyData} {E : C} {B : List PyData} (hB : B.length ≤ 1000) : mSet [0, 1, 2] 4 (mLc (mSrc itemsD (mCons (mTm (mVar 1)) mNil)) (bNm 5) (mYes) (mK .none) [5]) [.sh Y, .sh (.tuple B), .sh S, E, .no, .no, .no, .no, .no] = some (.nx, [.sh Y, .sh (.tuple B), .sh S, E, .ls (List.replicate B.length .none), .no, .no, .no, .no]) := by
  have key : mLc (mSrc itemsD (mCons (mTm (mVar 1)) mNil)) (bNm 5) (mYes) (mK .none) [5] [.sh Y, .sh (.tuple B), .sh S, E, .no, .no, .no, .no, .no] = some (.ls (B.map fun _ => .none), [.sh Y, .sh (.tuple B), .sh S, E, .no, .no, .no, .no, .no]) := by
    refine mLc_enc id (fun _ => .none) (xs := B) (ws := []) (c0 := .no) ?_ rfl (fun d _ => ⟨.sh .none, rfl, rfl⟩) (by rw [sizeLine_eq]; omega)
    rw [List.map_id]
    clear hB
    walk_at "ev"
  rw [List.map_const'] at key
  generalize List.replicate B.length PyData.none = R at *
  generalize mLc _ (bNm 5) mYes _ [5] = ML at *
  clear hB
  walk_at "es"
theorem gone_eq {q : Ca} (h : q.Ok) {A : List Nat} (hA : Ak A) (hZ : q.Z ≤ 1000) (st : List (Int × Int)) (hst : st.length ≤ 100000) : g_gone [.sh q.d, .sh (.tuple (bsD A)), .sh (stD st)] = some (.sh (.tuple [.tuple (goE q (fun b => !sil st b) A), .tuple (goN q (fun b => !sil st b) A)]), [.sh q.d, .sh (.tuple (bsD A)), .sh (stD st)]) := by
  have f1 := events_of_eq h hA hZ st hst
  have hv : ∀ d ∈ goE q (fun b => !sil st b) A, EvB A.length d := gst_ev h hA hZ _ 2002
  have hl : (goE q (fun b => !sil st b) A).length ≤ 2002 * 2000 := gst_len h hA hZ _ 2002
  unfold goN
  generalize goE q (fun b => !sil st b) A = E at *
  have lB : (bsD A).length = A.length := by simp [bsD]
  have lA := hA.l
  rw [← lB] at lA hv ⊢
  clear lB
  generalize bsD A = B at *
  clear h hA hZ hst
  generalize q.d = qd at *
  generalize stD st = sd at *
  apply rt_eq
  unfold g_gone m_gone
  apply rt_sem rfl
  apply wx_nx (go_1 f1)
  apply wx_nx (go_2 lA)
  clear f1
  apply wx_seq
  apply wx_for (ds := E) (ws := []) (ε1 := [.sh qd, .sh (.tuple B), .sh sd, .sh (.list E), .ls (List.replicate B.length .none), .no, .no, .no, .no]) (fun i ε => ∃ c5 c6 c7 c8, ε = [.sh qd, .sh (.tuple B), .sh sd, .sh (.list E), .ls ((E.take i).foldl endS (List.replicate B.length .none)), c5, c6, c7, c8])
  · walk_at "ev"
  · rfl
  · exact ⟨.no, .no, .no, .no, by simp⟩
  · intro i ε hj j hj2
    cases hj2
  · rintro i d ε hd ⟨c5, c6, c7, c8, rfl⟩
    obtain ⟨b, n, w, x, rfl, -, -, n0, n1, -⟩ := hv d (List.mem_of_getElem? hd)
    obtain ⟨hi, he⟩ := List.getElem?_eq_some_iff.mp hd
    have ht : E.take (i + 1) = E.take i ++ [.tuple [.int b, .int n, .str w, x]] := by
      rw [List.take_succ_eq_append_getElem hi, he]
    refine ⟨[.sh qd, .sh (.tuple B), .sh sd, .sh (.list E), .ls ((E.take i).foldl endS (List.replicate B.length .none)), .sh (.int b), .sh (.int n), .sh (.str w), .sh x], ?_, ?_⟩
    · clear ht hd hi he hv
      generalize (E.take i).foldl endS _ = L
      walk_at "ev"
    · refine wx_nx (go_b n0 ?_) (wx_skip ⟨_, _, _, _, by rw [ht, List.foldl_append]; rfl⟩)
      have hlen : ((E.take i).foldl endS (List.replicate B.length PyData.none)).length = B.length := by rw [ends_len, List.length_replicate]
      rw [hlen]
      exact n1
  · rintro ε ⟨c5, c6, c7, c8, rfl⟩
    rw [List.take_length]
    have hL : (E.foldl endS (List.replicate B.length PyData.none)).length ≤ 16777216 := by
      rw [ends_len, List.length_replicate]
      omega
    have hE : E.length ≤ 16777216 := by omega
    generalize E.foldl endS (List.replicate B.length PyData.none) = L at *
    clear hv hl lA
    apply wx_rt (c := .sh (.tuple [.tuple E, .tuple L])) (ε1 := [.sh qd, .sh (.tuple B), .sh sd, .sh (.list E), .ls L, c5, c6, c7, c8])
    · walk_at "es"
    exact ⟨rfl, rfl⟩
end KW
namespace KW
open PySem PySem.Spec PyProof.Rows L2 L2.M
local macro_rules | `(tactic| walk_at "ev") => `(tactic| simp [semF, shared, after, mSeq, mSkip, mIf, mRet, mRetN, mRetV, mSet, mSetIx, mExpr, mB, mU, mTm, mPl, mK, mVar, mOp, mCons, mNil, bor, bors, mTst, mAndT, mOrT, mNotT, mAndE, mOrE, mNotE, mIfE, mIsi, isiD, mChn, chnL, cmpD, binD, addD, subD, mulD, modD, fdivD, powD, eqD, neD, ltD, leD, gtD, geD, isD, isnD, L2.M.isNon, negD, ixD, Bf.f, Bg.f, lenD, L2.M.intD, maxD, minD, repD, strD, gmaxD, gminD, sumD, sortD, anyD, allD, mCall, frz, fzO, lend, wb, mTup, mLst, fzs, cD, mAsg, bTup, bTps, mApp, tupD, lstD, mRev, revD, ofs_inj, ee_ii, ee_ss, ee_bb, ee_nn, ee_is, ee_si, ee_in, ee_ni, ee_tt, ee_ll, ee_maps, ee_0, ee_1, ee_2, ee_3, at_lit, at_nat, at_m1, at_m2, scD, emD, sizeLine_eq, ixN, sm_lit, mSrc, itemsD, plOf, rng1D, bNm, mSl, mPt, mNoP, slD, mPar, keepT, tmsO, setA, mFlow, zipX, enumX, itemsX, intsOf, ints_all, boolsOf, shaped_lay, lay_int, lay_bool, lay_none, lay_dict, lay_tup, lay_list, lay_ints, sortX_ints, mPlF, mPlI, mRd, mPU, mPB, mFSet, mFNew, mNSet, mPApp, mPSetIx, mPPop, mMeth, mNew, isIns, cellO, mLstN, mAddN, mAppN, semX, mTold, mCallX, xRet, xExpr, xSet, mRaise, mM, isL, isS, mOrV, truD])
local macro_rules | `(tactic| walk_at "es") => `(tactic| simp [semF, shared, after, mSeq, mSkip, mIf, mRet, mRetN, mRetV, mSet, mSetIx, mExpr, mB, mU, mTm, mPl, mK, mVar, mOp, mCons, mNil, bor, bors, mTst, mAndT, mOrT, mNotT, mAndE, mOrE, mNotE, mIfE, mIsi, isiD, mChn, chnL, cmpD, binD, addD, subD, mulD, modD, fdivD, powD, eqD, neD, ltD, leD, gtD, geD, isD, isnD, L2.M.isNon, negD, ixD, Bf.f, Bg.f, lenD, L2.M.intD, maxD, minD, repD, strD, gmaxD, gminD, sumD, sortD, anyD, allD, mCall, frz, fzO, lend, wb, mTup, mLst, fzs, cD, mAsg, bTup, bTps, mApp, tupD, lstD, mRev, revD, ofs_inj, ee_ii, ee_ss, ee_bb, ee_nn, ee_is, ee_si, ee_in, ee_ni, ee_tt, ee_ll, ee_maps, ee_0, ee_1, ee_2, ee_3, at_lit, at_nat, at_m1, at_m2, scD, emD, sizeLine_eq, ixN, sm_lit, mSrc, itemsD, plOf, rng1D, bNm, mSl, mPt, mNoP, slD, mPar, keepT, tmsO, setA, mFlow, zipX, enumX, itemsX, intsOf, ints_all, boolsOf, shaped_lay, lay_int, lay_bool, lay_none, lay_dict, lay_tup, lay_list, lay_ints, sortX_ints, mPlF, mPlI, mRd, mPU, mPB, mFSet, mFNew, mNSet, mPApp, mPSetIx, mPPop, mMeth, mNew, isIns, cellO, mLstN, mAddN, mAppN, semX, mTold, mCallX, xRet, xExpr, xSet, mRaise, mM, isL, isS, mOrV, truD, *])
local macro_rules | `(tactic| walk_at "el") => `(tactic| simp [semF, shared, after, mSeq, mSkip, mIf, mRet, mRetN, mRetV, mSet, mSetIx, mExpr, mB, mU, mTm, mPl, mK, mVar, mOp, mCons, mNil, bor, bors, mTst, mAndT, mOrT, mNotT, mAndE, mOrE, mNotE, mIfE, mIsi, isiD, mChn, chnL, cmpD, binD, addD, subD, mulD, modD, fdivD, powD, eqD, neD, ltD, leD, gtD, geD, isD, isnD, L2.M.isNon, negD, ixD, Bf.f, Bg.f, lenD, L2.M.intD, maxD, minD, repD, strD, gmaxD, gminD, sumD, sortD, anyD, allD, mCall, frz, fzO, lend, wb, mTup, mLst, fzs, cD, mAsg, bTup, bTps, mApp, tupD, lstD, mRev, revD, ofs_inj, ee_ii, ee_ss, ee_bb, ee_nn, ee_is, ee_si, ee_in, ee_ni, ee_tt, ee_ll, ee_maps, ee_0, ee_1, ee_2, ee_3, at_lit, at_nat, at_m1, at_m2, scD, emD, sizeLine_eq, ixN, sm_lit, mSrc, itemsD, plOf, rng1D, bNm, mSl, mPt, mNoP, slD, mPar, keepT, tmsO, setA, mFlow, zipX, enumX, itemsX, intsOf, ints_all, boolsOf, shaped_lay, lay_int, lay_bool, lay_none, lay_dict, lay_tup, lay_list, lay_ints, sortX_ints, mPlF, mPlI, mRd, mPU, mPB, mFSet, mFNew, mNSet, mPApp, mPSetIx, mPPop, mMeth, mNew, isIns, cellO, mLstN, mAddN, mAppN, semX, mTold, mCallX, xRet, xExpr, xSet, mRaise, mM, isL, isS, mOrV, truD, mLc, lcL, sameC, wipeC, restC, mYes, *])
local macro_rules | `(tactic| walk_at "ef") => `(tactic| simp [semF, shared, after, mSeq, mSkip, mIf, mRet, mRetN, mRetV, mSet, mSetIx, mExpr, mB, mU, mTm, mPl, mK, mVar, mOp, mCons, mNil, bor, bors, mTst, mAndT, mOrT, mNotT, mAndE, mOrE, mNotE, mIfE, mIsi, isiD, mChn, chnL, cmpD, binD, addD, subD, mulD, modD, fdivD, powD, eqD, neD, ltD, leD, gtD, geD, isD, isnD, L2.M.isNon, negD, ixD, Bf.f, Bg.f, lenD, L2.M.intD, maxD, minD, repD, strD, gmaxD, gminD, sumD, sortD, anyD, allD, mCall, frz, fzO, lend, wb, mTup, mLst, fzs, cD, mAsg, bTup, bTps, mApp, tupD, lstD, mRev, revD, ofs_inj, ee_ii, ee_ss, ee_bb, ee_nn, ee_is, ee_si, ee_in, ee_ni, ee_tt, ee_ll, ee_maps, ee_0, ee_1, ee_2, ee_3, at_lit, at_nat, at_m1, at_m2, scD, emD, sizeLine_eq, ixN, sm_lit, mSrc, itemsD, plOf, rng1D, bNm, mSl, mPt, mNoP, slD, mPar, keepT, tmsO, setA, mFlow, zipX, enumX, itemsX, intsOf, ints_all, boolsOf, shaped_lay, lay_int, lay_bool, lay_none, lay_dict, lay_tup, lay_list, lay_ints, sortX_ints, mPlF, mPlI, mRd, mPU, mPB, mFSet, mFNew, mNSet, mPApp, mPSetIx, mPPop, mMeth, mNew, isIns, cellO, mLstN, mAddN, mAppN, semX, mTold, mCallX, xRet, xExpr, xSet, mRaise, mM, isL, isS, mOrV, truD, mFor, forL, mLc, lcL, sameC, wipeC, restC, mYes, *])
local macro_rules | `(tactic| walk_at "rg") => `(tactic| (and_intros <;> grind))
local macro_rules | `(tactic| walk_at "nx") => `(tactic| (apply wx_nx; focus (walk_at "ev"; try first | exact ⟨rfl, rfl⟩ | rfl)))
local macro_rules | `(tactic| walk_at "ns") => `(tactic| (apply wx_nx; focus (walk_at "es"; try first | exact ⟨rfl, rfl⟩ | rfl)))
local macro_rules | `(tactic| walk_at "rt") => `(tactic| (apply wx_rt; focus (walk_at "ev"; try first | exact ⟨rfl, rfl⟩ | rfl)))
local macro_rules | `(tactic| walk_at "rs") => `(tactic| (apply wx_rt; focus (walk_at "es"; try first | exact ⟨rfl, rfl⟩ | rfl)))
local macro_rules | `(tactic| walk_at "ed") => `(tactic| simp [semF, shared, after, mSeq, mSkip, mIf, mRet, mRetN, mRetV, mSet, mSetIx, mExpr, mB, mU, mTm, mPl, mK, mVar, mOp, mCons, mNil, bor, bors, mTst, mAndT, mOrT, mNotT, mAndE, mOrE, mNotE, mIfE, mIsi, isiD, mChn, chnL, cmpD, binD, addD, subD, mulD, modD, fdivD, powD, eqD, neD, ltD, leD, gtD, geD, isD, isnD, L2.M.isNon, negD, ixD, Bf.f, Bg.f, lenD, L2.M.intD, maxD, minD, repD, strD, gmaxD, gminD, sumD, sortD, anyD, allD, mCall, frz, fzO, lend, wb, mTup, mLst, fzs, cD, mAsg, bTup, bTps, mApp, tupD, lstD, mRev, revD, ofs_inj, ee_ii, ee_ss, ee_bb, ee_nn, ee_is, ee_si, ee_in, ee_ni, ee_tt, ee_ll, ee_maps, ee_0, ee_1, ee_2, ee_3, at_lit, at_nat, at_m1, at_m2, scD, emD, sizeLine_eq, ixN, sm_lit, mSrc, itemsD, plOf, rng1D, bNm, mSl, mPt, mNoP, slD, mPar, keepT, tmsO, setA, mFlow, zipX, enumX, itemsX, intsOf, ints_all, boolsOf, shaped_lay, lay_int, lay_bool, lay_none, lay_dict, lay_tup, lay_list, lay_ints, sortX_ints, mPlF, mPlI, mRd, mPU, mPB, mFSet, mFNew, mNSet, mPApp, mPSetIx, mPPop, mMeth, mNew, isIns, cellO, mLstN, mAddN, mAppN, semX, mTold, mCallX, xRet, xExpr, xSet, mRaise, mM, isL, isS, mOrV, truD, mDNew, mDIn, mDGet, mDLen, mDPut, kyD, mNNew, mN1, mTake, mFnV, mCallF, mNIn, mNGet, mNPut, mNVals, mNList, nKs, mDGetD, mDList, mNNe, *])
theorem law_silent_eq (st : List (Int × Int)) (b : Int) (hl : st.length ≤ 100000) : g_law_silent [.sh (stD st), .sh (.int b)] = some (.sh (.bool (sil st b)), [.sh (stD st), .sh (.int b)]) := by
  apply rt_eq
  unfold g_law_silent m_law_silent
  apply rt_sem rfl
  apply wx_rt (c := .sh (.bool (sil st b))) (ε1 := [.sh (stD st), .sh (.int b), .no, .no])
  · refine e_ret (e_op1 (mLc_two (ws := []) (fun p : Int × Int => .int p.1) (fun p => .int p.2) (fun p => .bool (decide (p.1 ≤ b) && decide (b < p.2))) (src_items (c := .sh (stD st)) ?_ (.inr (.inr rfl))) (by decide) rfl rfl ?_ ?_) rfl ?_)
    · rfl
    · intro p _
      refine ⟨.sh (.bool (decide (p.1 ≤ b) && decide (b < p.2))), ?_, rfl⟩
      by_cases h1 : p.1 ≤ b <;> by_cases h2 : b < p.2 <;> walk_at "es"
    · rw [sizeLine_eq]; omega
    · simp only [Bg.f, anyD, any_map, Option.map_some, sil, List.any_map]
      rfl
  exact ⟨rfl, rfl⟩
end KW
namespace KW
open PySem PySem.Spec PyProof.Rows L2 L2.M
local macro_rules | `(tactic| walk_at "ev") => `(tactic| simp [semF, shared, after, mSeq, mSkip, mIf, mRet, mRetN, mRetV, mSet, mSetIx, mExpr, mB, mU, mTm, mPl, mK, mVar, mOp, mCons, mNil, bor, bors, mTst, mAndT, mOrT, mNotT, mAndE, mOrE, mNotE, mIfE, mIsi, isiD, mChn, chnL, cmpD, binD, addD, subD, mulD, modD, fdivD, powD, eqD, neD, ltD, leD, gtD, geD, isD, isnD, L2.M.isNon, negD, ixD, Bf.f, Bg.f, lenD, L2.M.intD, maxD, minD, repD, strD, gmaxD, gminD, sumD, sortD, anyD, allD, mCall, frz, fzO, lend, wb, mTup, mLst, fzs, cD, mAsg, bTup, bTps, mApp, tupD, lstD, mRev, revD, ofs_inj, ee_ii, ee_ss, ee_bb, ee_nn, ee_is, ee_si, ee_in, ee_ni, ee_tt, ee_ll, ee_maps, ee_0, ee_1, ee_2, ee_3, at_lit, at_nat, at_m1, at_m2, scD, emD, sizeLine_eq, ixN, sm_lit, mSrc, itemsD, plOf, rng1D, bNm, mSl, mPt, mNoP, slD, mPar, keepT, tmsO, setA, mFlow, zipX, enumX, itemsX, intsOf, ints_all, boolsOf, shaped_lay, lay_int, lay_bool, lay_none, lay_dict, lay_tup, lay_list, lay_ints, sortX_ints, mPlF, mPlI, mRd, mPU, mPB, mFSet, mFNew, mNSet, mPApp, mPSetIx, mPPop, mMeth, mNew, isIns, cellO, mLstN, mAddN, mAppN, semX, mTold, mCallX, xRet, xExpr, xSet, mRaise, mM, isL, isS, mOrV, truD])
local macro_rules | `(tactic| walk_at "es") => `(tactic| simp [semF, shared, after, mSeq, mSkip, mIf, mRet, mRetN, mRetV, mSet, mSetIx, mExpr, mB, mU, mTm, mPl, mK, mVar, mOp, mCons, mNil, bor, bors, mTst, mAndT, mOrT, mNotT, mAndE, mOrE, mNotE, mIfE, mIsi, isiD, mChn, chnL, cmpD, binD, addD, subD, mulD, modD, fdivD, powD, eqD, neD, ltD, leD, gtD, geD, isD, isnD, L2.M.isNon, negD, ixD, Bf.f, Bg.f, lenD, L2.M.intD, maxD, minD, repD, strD, gmaxD, gminD, sumD, sortD, anyD, allD, mCall, frz, fzO, lend, wb, mTup, mLst, fzs, cD, mAsg, bTup, bTps, mApp, tupD, lstD, mRev, revD, ofs_inj, ee_ii, ee_ss, ee_bb, ee_nn, ee_is, ee_si, ee_in, ee_ni, ee_tt, ee_ll, ee_maps, ee_0, ee_1, ee_2, ee_3, at_lit, at_nat, at_m1, at_m2, scD, emD, sizeLine_eq, ixN, sm_lit, mSrc, itemsD, plOf, rng1D, bNm, mSl, mPt, mNoP, slD, mPar, keepT, tmsO, setA, mFlow, zipX, enumX, itemsX, intsOf, ints_all, boolsOf, shaped_lay, lay_int, lay_bool, lay_none, lay_dict, lay_tup, lay_list, lay_ints, sortX_ints, mPlF, mPlI, mRd, mPU, mPB, mFSet, mFNew, mNSet, mPApp, mPSetIx, mPPop, mMeth, mNew, isIns, cellO, mLstN, mAddN, mAppN, semX, mTold, mCallX, xRet, xExpr, xSet, mRaise, mM, isL, isS, mOrV, truD, *])
local macro_rules | `(tactic| walk_at "el") => `(tactic| simp [semF, shared, after, mSeq, mSkip, mIf, mRet, mRetN, mRetV, mSet, mSetIx, mExpr, mB, mU, mTm, mPl, mK, mVar, mOp, mCons, mNil, bor, bors, mTst, mAndT, mOrT, mNotT, mAndE, mOrE, mNotE, mIfE, mIsi, isiD, mChn, chnL, cmpD, binD, addD, subD, mulD, modD, fdivD, powD, eqD, neD, ltD, leD, gtD, geD, isD, isnD, L2.M.isNon, negD, ixD, Bf.f, Bg.f, lenD, L2.M.intD, maxD, minD, repD, strD, gmaxD, gminD, sumD, sortD, anyD, allD, mCall, frz, fzO, lend, wb, mTup, mLst, fzs, cD, mAsg, bTup, bTps, mApp, tupD, lstD, mRev, revD, ofs_inj, ee_ii, ee_ss, ee_bb, ee_nn, ee_is, ee_si, ee_in, ee_ni, ee_tt, ee_ll, ee_maps, ee_0, ee_1, ee_2, ee_3, at_lit, at_nat, at_m1, at_m2, scD, emD, sizeLine_eq, ixN, sm_lit, mSrc, itemsD, plOf, rng1D, bNm, mSl, mPt, mNoP, slD, mPar, keepT, tmsO, setA, mFlow, zipX, enumX, itemsX, intsOf, ints_all, boolsOf, shaped_lay, lay_int, lay_bool, lay_none, lay_dict, lay_tup, lay_list, lay_ints, sortX_ints, mPlF, mPlI, mRd, mPU, mPB, mFSet, mFNew, mNSet, mPApp, mPSetIx, mPPop, mMeth, mNew, isIns, cellO, mLstN, mAddN, mAppN, semX, mTold, mCallX, xRet, xExpr, xSet, mRaise, mM, isL, isS, mOrV, truD, mLc, lcL, sameC, wipeC, restC, mYes, *])
local macro_rules | `(tactic| walk_at "ef") => `(tactic| simp [semF, shared, after, mSeq, mSkip, mIf, mRet, mRetN, mRetV, mSet, mSetIx, mExpr, mB, mU, mTm, mPl, mK, mVar, mOp, mCons, mNil, bor, bors, mTst, mAndT, mOrT, mNotT, mAndE, mOrE, mNotE, mIfE, mIsi, isiD, mChn, chnL, cmpD, binD, addD, subD, mulD, modD, fdivD, powD, eqD, neD, ltD, leD, gtD, geD, isD, isnD, L2.M.isNon, negD, ixD, Bf.f, Bg.f, lenD, L2.M.intD, maxD, minD, repD, strD, gmaxD, gminD, sumD, sortD, anyD, allD, mCall, frz, fzO, lend, wb, mTup, mLst, fzs, cD, mAsg, bTup, bTps, mApp, tupD, lstD, mRev, revD, ofs_inj, ee_ii, ee_ss, ee_bb, ee_nn, ee_is, ee_si, ee_in, ee_ni, ee_tt, ee_ll, ee_maps, ee_0, ee_1, ee_2, ee_3, at_lit, at_nat, at_m1, at_m2, scD, emD, sizeLine_eq, ixN, sm_lit, mSrc, itemsD, plOf, rng1D, bNm, mSl, mPt, mNoP, slD, mPar, keepT, tmsO, setA, mFlow, zipX, enumX, itemsX, intsOf, ints_all, boolsOf, shaped_lay, lay_int, lay_bool, lay_none, lay_dict, lay_tup, lay_list, lay_ints, sortX_ints, mPlF, mPlI, mRd, mPU, mPB, mFSet, mFNew, mNSet, mPApp, mPSetIx, mPPop, mMeth, mNew, isIns, cellO, mLstN, mAddN, mAppN, semX, mTold, mCallX, xRet, xExpr, xSet, mRaise, mM, isL, isS, mOrV, truD, mFor, forL, mLc, lcL, sameC, wipeC, restC, mYes, *])
local macro_rules | `(tactic| walk_at "rg") => `(tactic| (and_intros <;> grind))
local macro_rules | `(tactic| walk_at "nx") => `(tactic| (apply wx_nx; focus (walk_at "ev"; try first | exact ⟨rfl, rfl⟩ | rfl)))
local macro_rules | `(tactic| walk_at "ns") => `(tactic| (apply wx_nx; focus (walk_at "es"; try first | exact ⟨rfl, rfl⟩ | rfl)))
local macro_rules | `(tactic| walk_at "rt") => `(tactic| (apply wx_rt; focus (walk_at "ev"; try first | exact ⟨rfl, rfl⟩ | rfl)))
local macro_rules | `(tactic| walk_at "rs") => `(tactic| (apply wx_rt; focus (walk_at "es"; try first | exact ⟨rfl, rfl⟩ | rfl)))
local macro_rules | `(tactic| walk_at "ed") => `(tactic| simp [semF, shared, after, mSeq, mSkip, mIf, mRet, mRetN, mRetV, mSet, mSetIx, mExpr, mB, mU, mTm, mPl, mK, mVar, mOp, mCons, mNil, bor, bors, mTst, mAndT, mOrT, mNotT, mAndE, mOrE, mNotE, mIfE, mIsi, isiD, mChn, chnL, cmpD, binD, addD, subD, mulD, modD, fdivD, powD, eqD, neD, ltD, leD, gtD, geD, isD, isnD, L2.M.isNon, negD, ixD, Bf.f, Bg.f, lenD, L2.M.intD, maxD, minD, repD, strD, gmaxD, gminD, sumD, sortD, anyD, allD, mCall, frz, fzO, lend, wb, mTup, mLst, fzs, cD, mAsg, bTup, bTps, mApp, tupD, lstD, mRev, revD, ofs_inj, ee_ii, ee_ss, ee_bb, ee_nn, ee_is, ee_si, ee_in, ee_ni, ee_tt, ee_ll, ee_maps, ee_0, ee_1, ee_2, ee_3, at_lit, at_nat, at_m1, at_m2, scD, emD, sizeLine_eq, ixN, sm_lit, mSrc, itemsD, plOf, rng1D, bNm, mSl, mPt, mNoP, slD, mPar, keepT, tmsO, setA, mFlow, zipX, enumX, itemsX, intsOf, ints_all, boolsOf, shaped_lay, lay_int, lay_bool, lay_none, lay_dict, lay_tup, lay_list, lay_ints, sortX_ints, mPlF, mPlI, mRd, mPU, mPB, mFSet, mFNew, mNSet, mPApp, mPSetIx, mPPop, mMeth, mNew, isIns, cellO, mLstN, mAddN, mAppN, semX, mTold, mCallX, xRet, xExpr, xSet, mRaise, mM, isL, isS, mOrV, truD, mDNew, mDIn, mDGet, mDLen, mDPut, kyD, mNNew, mN1, mTake, mFnV, mCallF, mNIn, mNGet, mNPut, mNVals, mNList, nKs, mDGetD, mDList, mNNe, *])
@[simp] theorem next_eq (s : Int) : g_law_next [.sh (.int s)] = some (.sh (.int (nxt s)), [.sh (.int s)]) := by
  have h1 : sm ((s + 7919) % 2147483647) := ⟨by omega, by omega⟩
  unfold g_law_next m_law_next nxt
  walk_at "es"
theorem cell_eq (ns : List Int) (k : Nat) : g_law_cell_at [.sh (.list (ns.map PyData.int)), .sh (.int k)] = some (.sh (.int (ns.getD k 0)), [.sh (.list (ns.map PyData.int)), .sh (.int k)]) := by
  unfold g_law_cell_at m_law_cell_at
  by_cases h : k < ns.length
  · walk_at "es"
  · walk_at "es"
@[simp] theorem cell0_eq (ns : List Int) : g_law_cell_at [.sh (.list (ns.map PyData.int)), .sh (.int 0)] = some (.sh (.int (ns.getD 0 0)), [.sh (.list (ns.map PyData.int)), .sh (.int 0)]) := cell_eq ns 0
@[simp] theorem pen_eq (x : Int) : g_law_pen_of [.sh (.int x)] = some (.ls (penL (pnOf x)), [.sh (.int x)]) := by
  unfold g_law_pen_of m_law_pen_of pnOf penL
  walk_at "es"
@[simp] theorem draw_eq (p : Pn) (n : Int) (h0 : 0 < n) (h1 : sm n) : g_law_draw [.ls (penL p), .sh (.int n)] = some (.sh (.int (dr p n)), [.ls (penL (dn p n)), .sh (.int n)]) := by
  unfold g_law_draw m_law_draw dr dn penL
  by_cases hb : p.b = 1
  · by_cases hl : 0 < p.l
    · walk_at "es"
    · walk_at "es"
  · walk_at "es"
/-- the cells that a law goes through: the script's first ones -/
theorem cells_int (ns : List Int) (k : Int) (d : PyData) (h : d ∈ (PyData.int (ns.getD 0 0)) :: (L2.M.cutL ns (some 1) (some k)).map PyData.int) : ∃ x, d = .int x := by
  simp only [List.mem_cons, List.mem_map] at h
  rcases h with h | ⟨y, _, h⟩
  · exact ⟨_, h⟩
  · exact ⟨_, h.symm⟩
end KW
namespace KW
open PySem PySem.Spec PyProof.Rows L2 L2.M
local macro_rules | `(tactic| walk_at "ev") => `(tactic| simp [semF, shared, after, mSeq, mSkip, mIf, mRet, mRetN, mRetV, mSet, mSetIx, mExpr, mB, mU, mTm, mPl, mK, mVar, mOp, mCons, mNil, bor, bors, mTst, mAndT, mOrT, mNotT, mAndE, mOrE, mNotE, mIfE, mIsi, isiD, mChn, chnL, cmpD, binD, addD, subD, mulD, modD, fdivD, powD, eqD, neD, ltD, leD, gtD, geD, isD, isnD, L2.M.isNon, negD, ixD, Bf.f, Bg.f, lenD, L2.M.intD, maxD, minD, repD, strD, gmaxD, gminD, sumD, sortD, anyD, allD, mCall, frz, fzO, lend, wb, mTup, mLst, fzs, cD, mAsg, bTup, bTps, mApp, tupD, lstD, mRev, revD, ofs_inj, ee_ii, ee_ss, ee_bb, ee_nn, ee_is, ee_si, ee_in, ee_ni, ee_tt, ee_ll, ee_maps, ee_0, ee_1, ee_2, ee_3, at_lit, at_nat, at_m1, at_m2, scD, emD, sizeLine_eq, ixN, sm_lit, mSrc, itemsD, plOf, rng1D, bNm, mSl, mPt, mNoP, slD, mPar, keepT, tmsO, setA, mFlow, zipX, enumX, itemsX, intsOf, ints_all, boolsOf, shaped_lay, lay_int, lay_bool, lay_none, lay_dict, lay_tup, lay_list, lay_ints, sortX_ints, mPlF, mPlI, mRd, mPU, mPB, mFSet, mFNew, mNSet, mPApp, mPSetIx, mPPop, mMeth, mNew, isIns, cellO, mLstN, mAddN, mAppN, semX, mTold, mCallX, xRet, xExpr, xSet, mRaise, mM, isL, isS, mOrV, truD])
local macro_rules | `(tactic| walk_at "es") => `(tactic| simp [semF, shared, after, mSeq, mSkip, mIf, mRet, mRetN, mRetV, mSet, mSetIx, mExpr, mB, mU, mTm, mPl, mK, mVar, mOp, mCons, mNil, bor, bors, mTst, mAndT, mOrT, mNotT, mAndE, mOrE, mNotE, mIfE, mIsi, isiD, mChn, chnL, cmpD, binD, addD, subD, mulD, modD, fdivD, powD, eqD, neD, ltD, leD, gtD, geD, isD, isnD, L2.M.isNon, negD, ixD, Bf.f, Bg.f, lenD, L2.M.intD, maxD, minD, repD, strD, gmaxD, gminD, sumD, sortD, anyD, allD, mCall, frz, fzO, lend, wb, mTup, mLst, fzs, cD, mAsg, bTup, bTps, mApp, tupD, lstD, mRev, revD, ofs_inj, ee_ii, ee_ss, ee_bb, ee_nn, ee_is, ee_si, ee_in, ee_ni, ee_tt, ee_ll, ee_maps, ee_0, ee_1, ee_2, ee_3, at_lit, at_nat, at_m1, at_m2, scD, emD, sizeLine_eq, ixN, sm_lit, mSrc, itemsD, plOf, rng1D, bNm, mSl, mPt, mNoP, slD, mPar, keepT, tmsO, setA, mFlow, zipX, enumX, itemsX, intsOf, ints_all, boolsOf, shaped_lay, lay_int, lay_bool, lay_none, lay_dict, lay_tup, lay_list, lay_ints, sortX_ints, mPlF, mPlI, mRd, mPU, mPB, mFSet, mFNew, mNSet, mPApp, mPSetIx, mPPop, mMeth, mNew, isIns, cellO, mLstN, mAddN, mAppN, semX, mTold, mCallX, xRet, xExpr, xSet, mRaise, mM, isL, isS, mOrV, truD, *])
local macro_rules | `(tactic| walk_at "el") => `(tactic| simp [semF, shared, after, mSeq, mSkip, mIf, mRet, mRetN, mRetV, mSet, mSetIx, mExpr, mB, mU, mTm, mPl, mK, mVar, mOp, mCons, mNil, bor, bors, mTst, mAndT, mOrT, mNotT, mAndE, mOrE, mNotE, mIfE, mIsi, isiD, mChn, chnL, cmpD, binD, addD, subD, mulD, modD, fdivD, powD, eqD, neD, ltD, leD, gtD, geD, isD, isnD, L2.M.isNon, negD, ixD, Bf.f, Bg.f, lenD, L2.M.intD, maxD, minD, repD, strD, gmaxD, gminD, sumD, sortD, anyD, allD, mCall, frz, fzO, lend, wb, mTup, mLst, fzs, cD, mAsg, bTup, bTps, mApp, tupD, lstD, mRev, revD, ofs_inj, ee_ii, ee_ss, ee_bb, ee_nn, ee_is, ee_si, ee_in, ee_ni, ee_tt, ee_ll, ee_maps, ee_0, ee_1, ee_2, ee_3, at_lit, at_nat, at_m1, at_m2, scD, emD, sizeLine_eq, ixN, sm_lit, mSrc, itemsD, plOf, rng1D, bNm, mSl, mPt, mNoP, slD, mPar, keepT, tmsO, setA, mFlow, zipX, enumX, itemsX, intsOf, ints_all, boolsOf, shaped_lay, lay_int, lay_bool, lay_none, lay_dict, lay_tup, lay_list, lay_ints, sortX_ints, mPlF, mPlI, mRd, mPU, mPB, mFSet, mFNew, mNSet, mPApp, mPSetIx, mPPop, mMeth, mNew, isIns, cellO, mLstN, mAddN, mAppN, semX, mTold, mCallX, xRet, xExpr, xSet, mRaise, mM, isL, isS, mOrV, truD, mLc, lcL, sameC, wipeC, restC, mYes, *])
local macro_rules | `(tactic| walk_at "ef") => `(tactic| simp [semF, shared, after, mSeq, mSkip, mIf, mRet, mRetN, mRetV, mSet, mSetIx, mExpr, mB, mU, mTm, mPl, mK, mVar, mOp, mCons, mNil, bor, bors, mTst, mAndT, mOrT, mNotT, mAndE, mOrE, mNotE, mIfE, mIsi, isiD, mChn, chnL, cmpD, binD, addD, subD, mulD, modD, fdivD, powD, eqD, neD, ltD, leD, gtD, geD, isD, isnD, L2.M.isNon, negD, ixD, Bf.f, Bg.f, lenD, L2.M.intD, maxD, minD, repD, strD, gmaxD, gminD, sumD, sortD, anyD, allD, mCall, frz, fzO, lend, wb, mTup, mLst, fzs, cD, mAsg, bTup, bTps, mApp, tupD, lstD, mRev, revD, ofs_inj, ee_ii, ee_ss, ee_bb, ee_nn, ee_is, ee_si, ee_in, ee_ni, ee_tt, ee_ll, ee_maps, ee_0, ee_1, ee_2, ee_3, at_lit, at_nat, at_m1, at_m2, scD, emD, sizeLine_eq, ixN, sm_lit, mSrc, itemsD, plOf, rng1D, bNm, mSl, mPt, mNoP, slD, mPar, keepT, tmsO, setA, mFlow, zipX, enumX, itemsX, intsOf, ints_all, boolsOf, shaped_lay, lay_int, lay_bool, lay_none, lay_dict, lay_tup, lay_list, lay_ints, sortX_ints, mPlF, mPlI, mRd, mPU, mPB, mFSet, mFNew, mNSet, mPApp, mPSetIx, mPPop, mMeth, mNew, isIns, cellO, mLstN, mAddN, mAppN, semX, mTold, mCallX, xRet, xExpr, xSet, mRaise, mM, isL, isS, mOrV, truD, mFor, forL, mLc, lcL, sameC, wipeC, restC, mYes, *])
local macro_rules | `(tactic| walk_at "rg") => `(tactic| (and_intros <;> grind))
local macro_rules | `(tactic| walk_at "nx") => `(tactic| (apply wx_nx; focus (walk_at "ev"; try first | exact ⟨rfl, rfl⟩ | rfl)))
local macro_rules | `(tactic| walk_at "ns") => `(tactic| (apply wx_nx; focus (walk_at "es"; try first | exact ⟨rfl, rfl⟩ | rfl)))
local macro_rules | `(tactic| walk_at "rt") => `(tactic| (apply wx_rt; focus (walk_at "ev"; try first | exact ⟨rfl, rfl⟩ | rfl)))
local macro_rules | `(tactic| walk_at "rs") => `(tactic| (apply wx_rt; focus (walk_at "es"; try first | exact ⟨rfl, rfl⟩ | rfl)))
local macro_rules | `(tactic| walk_at "ed") => `(tactic| simp [semF, shared, after, mSeq, mSkip, mIf, mRet, mRetN, mRetV, mSet, mSetIx, mExpr, mB, mU, mTm, mPl, mK, mVar, mOp, mCons, mNil, bor, bors, mTst, mAndT, mOrT, mNotT, mAndE, mOrE, mNotE, mIfE, mIsi, isiD, mChn, chnL, cmpD, binD, addD, subD, mulD, modD, fdivD, powD, eqD, neD, ltD, leD, gtD, geD, isD, isnD, L2.M.isNon, negD, ixD, Bf.f, Bg.f, lenD, L2.M.intD, maxD, minD, repD, strD, gmaxD, gminD, sumD, sortD, anyD, allD, mCall, frz, fzO, lend, wb, mTup, mLst, fzs, cD, mAsg, bTup, bTps, mApp, tupD, lstD, mRev, revD, ofs_inj, ee_ii, ee_ss, ee_bb, ee_nn, ee_is, ee_si, ee_in, ee_ni, ee_tt, ee_ll, ee_maps, ee_0, ee_1, ee_2, ee_3, at_lit, at_nat, at_m1, at_m2, scD, emD, sizeLine_eq, ixN, sm_lit, mSrc, itemsD, plOf, rng1D, bNm, mSl, mPt, mNoP, slD, mPar, keepT, tmsO, setA, mFlow, zipX, enumX, itemsX, intsOf, ints_all, boolsOf, shaped_lay, lay_int, lay_bool, lay_none, lay_dict, lay_tup, lay_list, lay_ints, sortX_ints, mPlF, mPlI, mRd, mPU, mPB, mFSet, mFNew, mNSet, mPApp, mPSetIx, mPPop, mMeth, mNew, isIns, cellO, mLstN, mAddN, mAppN, semX, mTold, mCallX, xRet, xExpr, xSet, mRaise, mM, isL, isS, mOrV, truD, mDNew, mDIn, mDGet, mDLen, mDPut, kyD, mNNew, mN1, mTake, mFnV, mCallF, mNIn, mNGet, mNPut, mNVals, mNList, nKs, mDGetD, mDList, mNNe, *])
theorem law_gate_eq (p : Pn) : Rt (g_law_gate [.ls (penL p)]) fun c cs => ∃ F R T M N q, Gt F R T M N ∧ c = .sh (gt5 F R T M N) ∧ cs = [.ls (penL q)] := by
  have h3 := @pkd3
  unfold g_law_gate m_law_gate
  apply rt_sem rfl
  walk_at "ns"
  generalize hr : 1 + dr _ 9 = r
  have r1 : 1 ≤ r ∧ r ≤ 9 := by
    rw [← hr]
    grind
  clear hr
  replace r1 := Hid.mk r1
  walk_at "ns"
  walk_at "ns"
  walk_at "rs"
  have r1 := r1.get
  clear h3
  refine ⟨_, _, _, _, _, _, ⟨⟨?_, ?_, ?_, ?_, by decide, by decide, ?_, ?_⟩, ?_, ?_, ?_, ?_, ?_⟩, rfl, rfl⟩
  · omega
  · omega
  · grind
  · grind
  · apply gd3 (P := fun v => 1 ≤ r + v)
    walk_at "rg"
  · apply gd3 (P := fun v => r + v ≤ 1000)
    walk_at "rg"
  · apply gd3 (P := fun v => 1 ≤ v)
    walk_at "rg"
  · apply gd3 (P := fun v => v ≤ 20)
    walk_at "rg"
  · grind
  · grind
  · apply gd3 (P := fun v => r ≤ r + v)
    walk_at "rg"
end KW
namespace KW
open PySem PySem.Spec PyProof.Rows L2 L2.M
local macro_rules | `(tactic| walk_at "ev") => `(tactic| simp [semF, shared, after, mSeq, mSkip, mIf, mRet, mRetN, mRetV, mSet, mSetIx, mExpr, mB, mU, mTm, mPl, mK, mVar, mOp, mCons, mNil, bor, bors, mTst, mAndT, mOrT, mNotT, mAndE, mOrE, mNotE, mIfE, mIsi, isiD, mChn, chnL, cmpD, binD, addD, subD, mulD, modD, fdivD, powD, eqD, neD, ltD, leD, gtD, geD, isD, isnD, L2.M.isNon, negD, ixD, Bf.f, Bg.f, lenD, L2.M.intD, maxD, minD, repD, strD, gmaxD, gminD, sumD, sortD, anyD, allD, mCall, frz, fzO, lend, wb, mTup, mLst, fzs, cD, mAsg, bTup, bTps, mApp, tupD, lstD, mRev, revD, ofs_inj, ee_ii, ee_ss, ee_bb, ee_nn, ee_is, ee_si, ee_in, ee_ni, ee_tt, ee_ll, ee_maps, ee_0, ee_1, ee_2, ee_3, at_lit, at_nat, at_m1, at_m2, scD, emD, sizeLine_eq, ixN, sm_lit, mSrc, itemsD, plOf, rng1D, bNm, mSl, mPt, mNoP, slD, mPar, keepT, tmsO, setA, mFlow, zipX, enumX, itemsX, intsOf, ints_all, boolsOf, shaped_lay, lay_int, lay_bool, lay_none, lay_dict, lay_tup, lay_list, lay_ints, sortX_ints, mPlF, mPlI, mRd, mPU, mPB, mFSet, mFNew, mNSet, mPApp, mPSetIx, mPPop, mMeth, mNew, isIns, cellO, mLstN, mAddN, mAppN, semX, mTold, mCallX, xRet, xExpr, xSet, mRaise, mM, isL, isS, mOrV, truD])
local macro_rules | `(tactic| walk_at "es") => `(tactic| simp [semF, shared, after, mSeq, mSkip, mIf, mRet, mRetN, mRetV, mSet, mSetIx, mExpr, mB, mU, mTm, mPl, mK, mVar, mOp, mCons, mNil, bor, bors, mTst, mAndT, mOrT, mNotT, mAndE, mOrE, mNotE, mIfE, mIsi, isiD, mChn, chnL, cmpD, binD, addD, subD, mulD, modD, fdivD, powD, eqD, neD, ltD, leD, gtD, geD, isD, isnD, L2.M.isNon, negD, ixD, Bf.f, Bg.f, lenD, L2.M.intD, maxD, minD, repD, strD, gmaxD, gminD, sumD, sortD, anyD, allD, mCall, frz, fzO, lend, wb, mTup, mLst, fzs, cD, mAsg, bTup, bTps, mApp, tupD, lstD, mRev, revD, ofs_inj, ee_ii, ee_ss, ee_bb, ee_nn, ee_is, ee_si, ee_in, ee_ni, ee_tt, ee_ll, ee_maps, ee_0, ee_1, ee_2, ee_3, at_lit, at_nat, at_m1, at_m2, scD, emD, sizeLine_eq, ixN, sm_lit, mSrc, itemsD, plOf, rng1D, bNm, mSl, mPt, mNoP, slD, mPar, keepT, tmsO, setA, mFlow, zipX, enumX, itemsX, intsOf, ints_all, boolsOf, shaped_lay, lay_int, lay_bool, lay_none, lay_dict, lay_tup, lay_list, lay_ints, sortX_ints, mPlF, mPlI, mRd, mPU, mPB, mFSet, mFNew, mNSet, mPApp, mPSetIx, mPPop, mMeth, mNew, isIns, cellO, mLstN, mAddN, mAppN, semX, mTold, mCallX, xRet, xExpr, xSet, mRaise, mM, isL, isS, mOrV, truD, *])
local macro_rules | `(tactic| walk_at "el") => `(tactic| simp [semF, shared, after, mSeq, mSkip, mIf, mRet, mRetN, mRetV, mSet, mSetIx, mExpr, mB, mU, mTm, mPl, mK, mVar, mOp, mCons, mNil, bor, bors, mTst, mAndT, mOrT, mNotT, mAndE, mOrE, mNotE, mIfE, mIsi, isiD, mChn, chnL, cmpD, binD, addD, subD, mulD, modD, fdivD, powD, eqD, neD, ltD, leD, gtD, geD, isD, isnD, L2.M.isNon, negD, ixD, Bf.f, Bg.f, lenD, L2.M.intD, maxD, minD, repD, strD, gmaxD, gminD, sumD, sortD, anyD, allD, mCall, frz, fzO, lend, wb, mTup, mLst, fzs, cD, mAsg, bTup, bTps, mApp, tupD, lstD, mRev, revD, ofs_inj, ee_ii, ee_ss, ee_bb, ee_nn, ee_is, ee_si, ee_in, ee_ni, ee_tt, ee_ll, ee_maps, ee_0, ee_1, ee_2, ee_3, at_lit, at_nat, at_m1, at_m2, scD, emD, sizeLine_eq, ixN, sm_lit, mSrc, itemsD, plOf, rng1D, bNm, mSl, mPt, mNoP, slD, mPar, keepT, tmsO, setA, mFlow, zipX, enumX, itemsX, intsOf, ints_all, boolsOf, shaped_lay, lay_int, lay_bool, lay_none, lay_dict, lay_tup, lay_list, lay_ints, sortX_ints, mPlF, mPlI, mRd, mPU, mPB, mFSet, mFNew, mNSet, mPApp, mPSetIx, mPPop, mMeth, mNew, isIns, cellO, mLstN, mAddN, mAppN, semX, mTold, mCallX, xRet, xExpr, xSet, mRaise, mM, isL, isS, mOrV, truD, mLc, lcL, sameC, wipeC, restC, mYes, *])
local macro_rules | `(tactic| walk_at "ef") => `(tactic| simp [semF, shared, after, mSeq, mSkip, mIf, mRet, mRetN, mRetV, mSet, mSetIx, mExpr, mB, mU, mTm, mPl, mK, mVar, mOp, mCons, mNil, bor, bors, mTst, mAndT, mOrT, mNotT, mAndE, mOrE, mNotE, mIfE, mIsi, isiD, mChn, chnL, cmpD, binD, addD, subD, mulD, modD, fdivD, powD, eqD, neD, ltD, leD, gtD, geD, isD, isnD, L2.M.isNon, negD, ixD, Bf.f, Bg.f, lenD, L2.M.intD, maxD, minD, repD, strD, gmaxD, gminD, sumD, sortD, anyD, allD, mCall, frz, fzO, lend, wb, mTup, mLst, fzs, cD, mAsg, bTup, bTps, mApp, tupD, lstD, mRev, revD, ofs_inj, ee_ii, ee_ss, ee_bb, ee_nn, ee_is, ee_si, ee_in, ee_ni, ee_tt, ee_ll, ee_maps, ee_0, ee_1, ee_2, ee_3, at_lit, at_nat, at_m1, at_m2, scD, emD, sizeLine_eq, ixN, sm_lit, mSrc, itemsD, plOf, rng1D, bNm, mSl, mPt, mNoP, slD, mPar, keepT, tmsO, setA, mFlow, zipX, enumX, itemsX, intsOf, ints_all, boolsOf, shaped_lay, lay_int, lay_bool, lay_none, lay_dict, lay_tup, lay_list, lay_ints, sortX_ints, mPlF, mPlI, mRd, mPU, mPB, mFSet, mFNew, mNSet, mPApp, mPSetIx, mPPop, mMeth, mNew, isIns, cellO, mLstN, mAddN, mAppN, semX, mTold, mCallX, xRet, xExpr, xSet, mRaise, mM, isL, isS, mOrV, truD, mFor, forL, mLc, lcL, sameC, wipeC, restC, mYes, *])
local macro_rules | `(tactic| walk_at "rg") => `(tactic| (and_intros <;> grind))
local macro_rules | `(tactic| walk_at "nx") => `(tactic| (apply wx_nx; focus (walk_at "ev"; try first | exact ⟨rfl, rfl⟩ | rfl)))
local macro_rules | `(tactic| walk_at "ns") => `(tactic| (apply wx_nx; focus (walk_at "es"; try first | exact ⟨rfl, rfl⟩ | rfl)))
local macro_rules | `(tactic| walk_at "rt") => `(tactic| (apply wx_rt; focus (walk_at "ev"; try first | exact ⟨rfl, rfl⟩ | rfl)))
local macro_rules | `(tactic| walk_at "rs") => `(tactic| (apply wx_rt; focus (walk_at "es"; try first | exact ⟨rfl, rfl⟩ | rfl)))
local macro_rules | `(tactic| walk_at "ed") => `(tactic| simp [semF, shared, after, mSeq, mSkip, mIf, mRet, mRetN, mRetV, mSet, mSetIx, mExpr, mB, mU, mTm, mPl, mK, mVar, mOp, mCons, mNil, bor, bors, mTst, mAndT, mOrT, mNotT, mAndE, mOrE, mNotE, mIfE, mIsi, isiD, mChn, chnL, cmpD, binD, addD, subD, mulD, modD, fdivD, powD, eqD, neD, ltD, leD, gtD, geD, isD, isnD, L2.M.isNon, negD, ixD, Bf.f, Bg.f, lenD, L2.M.intD, maxD, minD, repD, strD, gmaxD, gminD, sumD, sortD, anyD, allD, mCall, frz, fzO, lend, wb, mTup, mLst, fzs, cD, mAsg, bTup, bTps, mApp, tupD, lstD, mRev, revD, ofs_inj, ee_ii, ee_ss, ee_bb, ee_nn, ee_is, ee_si, ee_in, ee_ni, ee_tt, ee_ll, ee_maps, ee_0, ee_1, ee_2, ee_3, at_lit, at_nat, at_m1, at_m2, scD, emD, sizeLine_eq, ixN, sm_lit, mSrc, itemsD, plOf, rng1D, bNm, mSl, mPt, mNoP, slD, mPar, keepT, tmsO, setA, mFlow, zipX, enumX, itemsX, intsOf, ints_all, boolsOf, shaped_lay, lay_int, lay_bool, lay_none, lay_dict, lay_tup, lay_list, lay_ints, sortX_ints, mPlF, mPlI, mRd, mPU, mPB, mFSet, mFNew, mNSet, mPApp, mPSetIx, mPPop, mMeth, mNew, isIns, cellO, mLstN, mAddN, mAppN, semX, mTold, mCallX, xRet, xExpr, xSet, mRaise, mM, isL, isS, mOrV, truD, mDNew, mDIn, mDGet, mDLen, mDPut, kyD, mNNew, mN1, mTake, mFnV, mCallF, mNIn, mNGet, mNPut, mNVals, mNList, nKs, mDGetD, mDList, mNNe, *])
theorem law_purse_eq (p : Pn) : Rt (g_law_purse [.ls (penL p)]) fun c cs => ∃ (a r cp c0 : Int) (p' : Pn), (0 ≤ a ∧ a ≤ 1000) ∧ (1 ≤ r ∧ r ≤ 1000) ∧ (0 ≤ cp ∧ cp ≤ 10000) ∧ (0 ≤ c0 ∧ c0 ≤ cp) ∧ c = .sh (.tuple [.int a, .int r, .int cp, .int c0]) ∧ cs = [.ls (penL p')] := by
  have h4 := @pkd4
  have h3 := @pkd3
  unfold g_law_purse m_law_purse
  apply rt_sem rfl
  walk_at "ns"
  walk_at "ns"
  generalize hr : gt [1, _, _] (dr p 3) = r
  have r1 : 1 ≤ r ∧ r ≤ 1000 := by
    rw [← hr]
    clear hr h3 h4
    apply gd3 (P := fun v => 1 ≤ v ∧ v ≤ 1000)
    walk_at "rg"
  clear hr
  replace r1 := Hid.mk r1
  walk_at "ns"
  generalize ha : gt [0, _, r, _] (dr (dn p 3) 4) = a
  have a1 : 0 ≤ a ∧ a ≤ 1000 := by
    have r1 := r1.get
    rw [← ha]
    clear ha h3 h4
    apply gd4 (P := fun v => 0 ≤ v ∧ v ≤ 1000)
    walk_at "rg"
  clear ha
  replace a1 := Hid.mk a1
  walk_at "ns"
  generalize hcp : gt [_, _, 10000, r] _ = cp
  have c1 : 0 ≤ cp ∧ cp ≤ 10000 := by
    have r1 := r1.get
    rw [← hcp]
    clear hcp h3 h4
    apply gd4 (P := fun v => 0 ≤ v ∧ v ≤ 10000)
    walk_at "rg"
  clear hcp
  have c2 : 0 < cp + 1 := by omega
  have c3 : sm (cp + 1) := ⟨by omega, by omega⟩
  replace c1 := Hid.mk c1
  walk_at "rs"
  have c1 := c1.get
  have a1 := a1.get
  have r1 := r1.get
  clear h3 h4
  refine ⟨a, r, cp, _, _, a1, r1, c1, ?_, rfl, rfl⟩
  apply gd3 (P := fun v => 0 ≤ v ∧ v ≤ cp)
  walk_at "rg"
theorem law_caller_eq (p : Pn) : Rt (g_law_caller [.ls (penL p)]) fun c cs => ∃ (q : Ca) (p' : Pn), Cl q ∧ c = .sh q.d ∧ cs = [.ls (penL p')] := by
  have h5 := @pkd5
  have h4 := @pkd4
  unfold g_law_caller m_law_caller
  apply rt_sem rfl
  clear h4 h5
  walk_at "nx"
  walk_at "nx"
  have h5 := @pkd5
  have h4 := @pkd4
  generalize hg0 : 1 + dr (dn (dn p 5) 4) 5 = a
  generalize hg1 : 1 + dr (dn (dn (dn p 5) 4) 5) 3 = t
  generalize hg2 : dr (dn (dn (dn (dn p 5) 4) 5) 3) 3 = m
  generalize hg3 : 1 + dr (dn (dn (dn (dn (dn p 5) 4) 5) 3) 3) 40 = M
  have G : Gp a t m M := by
    rw [← hg0, ← hg1, ← hg2, ← hg3]
    clear h4 h5 hg0 hg1 hg2 hg3
    refine ⟨?_, ?_, ?_, ?_, ?_, ?_, ?_, ?_⟩ <;> grind
  clear hg0 hg1 hg2 hg3
  replace G := Hid.mk G
  generalize dn (dn (dn (dn (dn (dn p 5) 4) 5) 3) 3) 40 = p2
  generalize hd4 : dr (dn p 5) 4 = w
  obtain ⟨w0, w1⟩ : 0 ≤ w ∧ w < 4 := ⟨hd4 ▸ dr_nn (by decide), hd4 ▸ dr_lt (by decide)⟩
  clear hd4
  replace w0 := Hid.mk w0
  replace w1 := Hid.mk w1
  walk_at "ns"
  generalize hK : gt [1, _, _, 12, 3] (dr p 5) = K
  have K1 : 1 ≤ K ∧ K ≤ 12 := by
    rw [← hK]
    clear hK h4 h5
    apply gd5 (P := fun v => 1 ≤ v ∧ v ≤ 12)
    walk_at "rg"
  clear hK
  replace K1 := Hid.mk K1
  generalize dn (dn p2 4) 12 = p3
  clear h4 h5
  obtain ⟨Z, p4, e1, Z0, Z1⟩ : ∃ (Z : Int) (p4 : Pn), mSet [0] 5 (mB ixD (mTm (mLst (mCons (mTm (mK (.int 1000))) (mCons (mTm (mCall [true, true] g_law_draw (mCons (mPl 0) (mCons (mTm (mK (.int 60))) (mNil))))) (mCons (mTm (mCall [true, true] g_law_draw (mCons (mPl 0) (mCons (mTm (mK (.int 1001))) (mNil))))) (mCons (mTm (mB (binD .Add) (mTm (mK (.int 4))) (mTm (mCall [true, true] g_law_draw (mCons (mPl 0) (mCons (mTm (mK (.int 9))) (mNil))))))) (mNil))))))) (mPl 2)) [.ls (penL p3), .sh (.int (dr p 5)), .sh (.int w), .sh (.tuple [.int a, .int t, .int m, .int M]), .sh (.int K), .no] = some (.nx, [.ls (penL p4), .sh (.int (dr p 5)), .sh (.int w), .sh (.tuple [.int a, .int t, .int m, .int M]), .sh (.int K), .sh (.int Z)]) ∧ 0 ≤ Z ∧ Z ≤ 1000 := by
    have hat : ∀ a b c d : Int, atI [PyData.int a, .int b, .int c, .int d] w = some (.int (gt [a, b, c, d] w)) := fun a b c d => pk4 w0.get w1.get
    refine ⟨gt [1000, dr p3 60, dr (dn p3 60) 1001, 4 + dr (dn (dn p3 60) 1001) 9] w, dn (dn (dn p3 60) 1001) 9, ?_, ?_⟩
    · clear w0 w1 G K1
      walk_at "es"
    · have w0 := w0.get
      have w1 := w1.get
      obtain h | h | h | h : w = 0 ∨ w = 1 ∨ w = 2 ∨ w = 3 := by omega
      all_goals
        subst h
        clear hat w0 w1 G K1
        simp only [gt]
        simp
        try grind
  clear w0 w1
  apply wx_nx e1
  clear e1
  obtain ⟨_, _, e2, pa, r, cp, c0, p5, ha, hr, hcp, hc0, rfl, rfl⟩ := law_purse_eq p4
  obtain ⟨_, _, e3, F, R, T, Mo, N, p6, hG, rfl, rfl⟩ := law_gate_eq p5
  have G := G.get
  have K1 := K1.get
  apply wx_rt (c := .sh (Ca.d ⟨a, t, m, M, K, Z, pa, r, cp, c0, F, R, T, Mo, N⟩)) (ε1 := [.ls (penL p6), .sh (.int (dr p 5)), .sh (.int w), .sh (.tuple [.int a, .int t, .int m, .int M]), .sh (.int K), .sh (.int Z)])
  · unfold Ca.d Ca.pl Ca.pu Ca.ga Ca.gp
    dsimp only
    generalize gt5 F R T Mo N = gd at *
    clear G K1 ha hr hcp hc0 hG Z0 Z1
    walk_at "es"
  refine ⟨⟨a, t, m, M, K, Z, pa, r, cp, c0, F, R, T, Mo, N⟩, p6, ⟨⟨G, hG, ?_, ?_, ?_, ?_, ?_, ?_, ?_⟩, ?_, ?_, ?_, ?_, ?_, ?_, ?_, ?_⟩, rfl, rfl⟩
  all_goals (dsimp only; omega)
end KW
namespace KW
open PySem PySem.Spec PyProof.Rows L2 L2.M
local macro_rules | `(tactic| walk_at "ev") => `(tactic| simp [semF, shared, after, mSeq, mSkip, mIf, mRet, mRetN, mRetV, mSet, mSetIx, mExpr, mB, mU, mTm, mPl, mK, mVar, mOp, mCons, mNil, bor, bors, mTst, mAndT, mOrT, mNotT, mAndE, mOrE, mNotE, mIfE, mIsi, isiD, mChn, chnL, cmpD, binD, addD, subD, mulD, modD, fdivD, powD, eqD, neD, ltD, leD, gtD, geD, isD, isnD, L2.M.isNon, negD, ixD, Bf.f, Bg.f, lenD, L2.M.intD, maxD, minD, repD, strD, gmaxD, gminD, sumD, sortD, anyD, allD, mCall, frz, fzO, lend, wb, mTup, mLst, fzs, cD, mAsg, bTup, bTps, mApp, tupD, lstD, mRev, revD, ofs_inj, ee_ii, ee_ss, ee_bb, ee_nn, ee_is, ee_si, ee_in, ee_ni, ee_tt, ee_ll, ee_maps, ee_0, ee_1, ee_2, ee_3, at_lit, at_nat, at_m1, at_m2, scD, emD, sizeLine_eq, ixN, sm_lit, mSrc, itemsD, plOf, rng1D, bNm, mSl, mPt, mNoP, slD, mPar, keepT, tmsO, setA, mFlow, zipX, enumX, itemsX, intsOf, ints_all, boolsOf, shaped_lay, lay_int, lay_bool, lay_none, lay_dict, lay_tup, lay_list, lay_ints, sortX_ints, mPlF, mPlI, mRd, mPU, mPB, mFSet, mFNew, mNSet, mPApp, mPSetIx, mPPop, mMeth, mNew, isIns, cellO, mLstN, mAddN, mAppN, semX, mTold, mCallX, xRet, xExpr, xSet, mRaise, mM, isL, isS, mOrV, truD])
local macro_rules | `(tactic| walk_at "es") => `(tactic| simp [semF, shared, after, mSeq, mSkip, mIf, mRet, mRetN, mRetV, mSet, mSetIx, mExpr, mB, mU, mTm, mPl, mK, mVar, mOp, mCons, mNil, bor, bors, mTst, mAndT, mOrT, mNotT, mAndE, mOrE, mNotE, mIfE, mIsi, isiD, mChn, chnL, cmpD, binD, addD, subD, mulD, modD, fdivD, powD, eqD, neD, ltD, leD, gtD, geD, isD, isnD, L2.M.isNon, negD, ixD, Bf.f, Bg.f, lenD, L2.M.intD, maxD, minD, repD, strD, gmaxD, gminD, sumD, sortD, anyD, allD, mCall, frz, fzO, lend, wb, mTup, mLst, fzs, cD, mAsg, bTup, bTps, mApp, tupD, lstD, mRev, revD, ofs_inj, ee_ii, ee_ss, ee_bb, ee_nn, ee_is, ee_si, ee_in, ee_ni, ee_tt, ee_ll, ee_maps, ee_0, ee_1, ee_2, ee_3, at_lit, at_nat, at_m1, at_m2, scD, emD, sizeLine_eq, ixN, sm_lit, mSrc, itemsD, plOf, rng1D, bNm, mSl, mPt, mNoP, slD, mPar, keepT, tmsO, setA, mFlow, zipX, enumX, itemsX, intsOf, ints_all, boolsOf, shaped_lay, lay_int, lay_bool, lay_none, lay_dict, lay_tup, lay_list, lay_ints, sortX_ints, mPlF, mPlI, mRd, mPU, mPB, mFSet, mFNew, mNSet, mPApp, mPSetIx, mPPop, mMeth, mNew, isIns, cellO, mLstN, mAddN, mAppN, semX, mTold, mCallX, xRet, xExpr, xSet, mRaise, mM, isL, isS, mOrV, truD, *])
local macro_rules | `(tactic| walk_at "el") => `(tactic| simp [semF, shared, after, mSeq, mSkip, mIf, mRet, mRetN, mRetV, mSet, mSetIx, mExpr, mB, mU, mTm, mPl, mK, mVar, mOp, mCons, mNil, bor, bors, mTst, mAndT, mOrT, mNotT, mAndE, mOrE, mNotE, mIfE, mIsi, isiD, mChn, chnL, cmpD, binD, addD, subD, mulD, modD, fdivD, powD, eqD, neD, ltD, leD, gtD, geD, isD, isnD, L2.M.isNon, negD, ixD, Bf.f, Bg.f, lenD, L2.M.intD, maxD, minD, repD, strD, gmaxD, gminD, sumD, sortD, anyD, allD, mCall, frz, fzO, lend, wb, mTup, mLst, fzs, cD, mAsg, bTup, bTps, mApp, tupD, lstD, mRev, revD, ofs_inj, ee_ii, ee_ss, ee_bb, ee_nn, ee_is, ee_si, ee_in, ee_ni, ee_tt, ee_ll, ee_maps, ee_0, ee_1, ee_2, ee_3, at_lit, at_nat, at_m1, at_m2, scD, emD, sizeLine_eq, ixN, sm_lit, mSrc, itemsD, plOf, rng1D, bNm, mSl, mPt, mNoP, slD, mPar, keepT, tmsO, setA, mFlow, zipX, enumX, itemsX, intsOf, ints_all, boolsOf, shaped_lay, lay_int, lay_bool, lay_none, lay_dict, lay_tup, lay_list, lay_ints, sortX_ints, mPlF, mPlI, mRd, mPU, mPB, mFSet, mFNew, mNSet, mPApp, mPSetIx, mPPop, mMeth, mNew, isIns, cellO, mLstN, mAddN, mAppN, semX, mTold, mCallX, xRet, xExpr, xSet, mRaise, mM, isL, isS, mOrV, truD, mLc, lcL, sameC, wipeC, restC, mYes, *])
local macro_rules | `(tactic| walk_at "ef") => `(tactic| simp [semF, shared, after, mSeq, mSkip, mIf, mRet, mRetN, mRetV, mSet, mSetIx, mExpr, mB, mU, mTm, mPl, mK, mVar, mOp, mCons, mNil, bor, bors, mTst, mAndT, mOrT, mNotT, mAndE, mOrE, mNotE, mIfE, mIsi, isiD, mChn, chnL, cmpD, binD, addD, subD, mulD, modD, fdivD, powD, eqD, neD, ltD, leD, gtD, geD, isD, isnD, L2.M.isNon, negD, ixD, Bf.f, Bg.f, lenD, L2.M.intD, maxD, minD, repD, strD, gmaxD, gminD, sumD, sortD, anyD, allD, mCall, frz, fzO, lend, wb, mTup, mLst, fzs, cD, mAsg, bTup, bTps, mApp, tupD, lstD, mRev, revD, ofs_inj, ee_ii, ee_ss, ee_bb, ee_nn, ee_is, ee_si, ee_in, ee_ni, ee_tt, ee_ll, ee_maps, ee_0, ee_1, ee_2, ee_3, at_lit, at_nat, at_m1, at_m2, scD, emD, sizeLine_eq, ixN, sm_lit, mSrc, itemsD, plOf, rng1D, bNm, mSl, mPt, mNoP, slD, mPar, keepT, tmsO, setA, mFlow, zipX, enumX, itemsX, intsOf, ints_all, boolsOf, shaped_lay, lay_int, lay_bool, lay_none, lay_dict, lay_tup, lay_list, lay_ints, sortX_ints, mPlF, mPlI, mRd, mPU, mPB, mFSet, mFNew, mNSet, mPApp, mPSetIx, mPPop, mMeth, mNew, isIns, cellO, mLstN, mAddN, mAppN, semX, mTold, mCallX, xRet, xExpr, xSet, mRaise, mM, isL, isS, mOrV, truD, mFor, forL, mLc, lcL, sameC, wipeC, restC, mYes, *])
local macro_rules | `(tactic| walk_at "rg") => `(tactic| (and_intros <;> grind))
local macro_rules | `(tactic| walk_at "nx") => `(tactic| (apply wx_nx; focus (walk_at "ev"; try first | exact ⟨rfl, rfl⟩ | rfl)))
local macro_rules | `(tactic| walk_at "ns") => `(tactic| (apply wx_nx; focus (walk_at "es"; try first | exact ⟨rfl, rfl⟩ | rfl)))
local macro_rules | `(tactic| walk_at "rt") => `(tactic| (apply wx_rt; focus (walk_at "ev"; try first | exact ⟨rfl, rfl⟩ | rfl)))
local macro_rules | `(tactic| walk_at "rs") => `(tactic| (apply wx_rt; focus (walk_at "es"; try first | exact ⟨rfl, rfl⟩ | rfl)))
local macro_rules | `(tactic| walk_at "ed") => `(tactic| simp [semF, shared, after, mSeq, mSkip, mIf, mRet, mRetN, mRetV, mSet, mSetIx, mExpr, mB, mU, mTm, mPl, mK, mVar, mOp, mCons, mNil, bor, bors, mTst, mAndT, mOrT, mNotT, mAndE, mOrE, mNotE, mIfE, mIsi, isiD, mChn, chnL, cmpD, binD, addD, subD, mulD, modD, fdivD, powD, eqD, neD, ltD, leD, gtD, geD, isD, isnD, L2.M.isNon, negD, ixD, Bf.f, Bg.f, lenD, L2.M.intD, maxD, minD, repD, strD, gmaxD, gminD, sumD, sortD, anyD, allD, mCall, frz, fzO, lend, wb, mTup, mLst, fzs, cD, mAsg, bTup, bTps, mApp, tupD, lstD, mRev, revD, ofs_inj, ee_ii, ee_ss, ee_bb, ee_nn, ee_is, ee_si, ee_in, ee_ni, ee_tt, ee_ll, ee_maps, ee_0, ee_1, ee_2, ee_3, at_lit, at_nat, at_m1, at_m2, scD, emD, sizeLine_eq, ixN, sm_lit, mSrc, itemsD, plOf, rng1D, bNm, mSl, mPt, mNoP, slD, mPar, keepT, tmsO, setA, mFlow, zipX, enumX, itemsX, intsOf, ints_all, boolsOf, shaped_lay, lay_int, lay_bool, lay_none, lay_dict, lay_tup, lay_list, lay_ints, sortX_ints, mPlF, mPlI, mRd, mPU, mPB, mFSet, mFNew, mNSet, mPApp, mPSetIx, mPPop, mMeth, mNew, isIns, cellO, mLstN, mAddN, mAppN, semX, mTold, mCallX, xRet, xExpr, xSet, mRaise, mM, isL, isS, mOrV, truD, mDNew, mDIn, mDGet, mDLen, mDPut, kyD, mNNew, mN1, mTake, mFnV, mCallF, mNIn, mNGet, mNPut, mNVals, mNList, nKs, mDGetD, mDList, mNNe, *])
theorem law_askings_eq (p : Pn) : Rt (g_law_askings [.ls (penL p)]) fun c cs => ∃ (A : List Nat) (p' : Pn), Ak A ∧ A.length ≤ 12 ∧ c = .sh (.tuple (bsD A)) ∧ cs = [.ls (penL p')] := by
  have h3 := @pkd3
  unfold g_law_askings m_law_askings
  apply rt_sem rfl
  walk_at "ns"
  generalize hb : gt [0, _, _] _ = b0
  have b1 : 0 ≤ b0 := by
    rw [← hb]
    clear hb h3
    apply gd3 (P := fun v => 0 ≤ v)
    walk_at "rg"
  clear hb h3
  generalize hm : dr p 4 = w
  obtain ⟨w0, w1⟩ : 0 ≤ w ∧ w < 4 := ⟨hm ▸ dr_nn (by decide), hm ▸ dr_lt (by decide)⟩
  clear hm
  generalize dn _ 3 = p2
  have h4 := @pkd4
  replace b1 := Hid.mk b1
  replace w0 := Hid.mk w0
  replace w1 := Hid.mk w1
  walk_at "ns"
  generalize hs : gt [1, 3, 12, 60] _ = s
  have s1 : 1 ≤ s ∧ s ≤ 60 := by
    rw [← hs]
    clear hs h4
    apply gd4 (P := fun v => 1 ≤ v ∧ v ≤ 60)
    walk_at "rg"
  clear hs h4
  generalize dn p2 4 = p3
  walk_at "nx"
  obtain ⟨n, p4, e1, n0, n1⟩ : ∃ (n : Int) (p4 : Pn), mB ixD (mTm (mLst (mCons (mTm (mK (.int 12))) (mCons (mTm (mB (binD .Add) (mTm (mK (.int 1))) (mTm (mCall [true, true] g_law_draw (mCons (mPl 0) (mCons (mTm (mK (.int 12))) (mNil))))))) (mCons (mTm (mB (binD .Add) (mTm (mK (.int 1))) (mTm (mCall [true, true] g_law_draw (mCons (mPl 0) (mCons (mTm (mK (.int 4))) (mNil))))))) (mCons (mTm (mK (.int 0))) (mNil))))))) (mPl 1) [.ls (penL p3), .sh (.int w), .sh (.int b0), .sh (.int s), .ls [], .no] = some (.sh (.int n), [.ls (penL p4), .sh (.int w), .sh (.int b0), .sh (.int s), .ls [], .no]) ∧ 0 ≤ n ∧ n ≤ 12 := by
    have hat : ∀ a b c d : Int, atI [PyData.int a, .int b, .int c, .int d] w = some (.int (gt [a, b, c, d] w)) := fun a b c d => pk4 w0.get w1.get
    refine ⟨gt [12, 1 + dr p3 12, 1 + dr (dn p3 12) 4, 0] w, dn (dn p3 12) 4, ?_, ?_⟩
    · clear w0 w1 s1 b1
      walk_at "es"
    · have w0 := w0.get
      have w1 := w1.get
      obtain h | h | h | h : w = 0 ∨ w = 1 ∨ w = 2 ∨ w = 3 := by omega
      all_goals
        subst h
        clear hat w0 w1 s1 b1
        simp only [gt]
        simp
        try grind
  obtain ⟨N, hN⟩ := Int.eq_ofNat_of_zero_le n0
  have b1 := b1.get
  clear w0 w1
  apply wx_seq
  apply wx_for (ds := rangeD 0 1 N) (ws := []) (ε1 := [.ls (penL p4), .sh (.int w), .sh (.int b0), .sh (.int s), .ls [], .no]) fun i ε => ∃ (q : Pn) (b : Int) (A : List Nat) (c5 : C), ε = [.ls (penL q), .sh (.int w), .sh (.int b), .sh (.int s), .ls (bsD A), c5] ∧ A.length = i ∧ 0 ≤ b ∧ A.Pairwise (· ≤ ·) ∧ (∀ x ∈ A, x ≤ 1000 ∧ (x : Int) ≤ b)
  · have hr := rng_nat0 (k := N) n hN (by omega)
    refine src_f (d := .int n) ?_ hr
    clear hr hN n0 n1 s1 b1
    generalize mB ixD _ (mPl 1) = MB at *
    walk_at "es"
  · rfl
  · exact ⟨p4, b0, [], .no, rfl, rfl, b1, List.Pairwise.nil, fun x hx => by cases hx⟩
  · intro i ε hj j hj2
    cases hj2
  · rintro i d ε hd ⟨q, b, A, c5, rfl, hl, hb, hs, hx⟩
    have hi : i < 13 := by
      have := (List.getElem?_eq_some_iff.mp hd).1
      simp [rangeD] at this
      omega
    clear e1
    have hz : (bsD A).length < 16777216 := by simp [bsD]; omega
    obtain ⟨v, hv0, hv1⟩ : ∃ v : Nat, (if b < 1000 then b else 1000) = (v : Int) ∧ (v ≤ 1000 ∧ (v : Int) ≤ b ∧ ∀ x ∈ A, x ≤ v) := by
      refine ⟨(if b < 1000 then b else 1000).toNat, by split <;> omega, ?_, ?_, fun x hxa => ?_⟩
      · split <;> omega
      · split <;> omega
      · have := hx x hxa
        split <;> omega
    have s0 : 0 < s := by omega
    have s2 : sm s := ⟨by omega, by omega⟩
    have d0 := dr_nn (p := q) s0
    refine ⟨[.ls (penL q), .sh (.int w), .sh (.int b), .sh (.int s), .ls (bsD A), .sh d], rfl, ?_⟩
    apply wx_nx (ε1 := [.ls (penL q), .sh (.int w), .sh (.int b), .sh (.int s), .ls (bsD (A ++ [v])), .sh d])
    · have e : bsD (A ++ [v]) = bsD A ++ [.int (if b < 1000 then b else 1000)] := by rw [hv0]; simp [bsD]
      rw [e]
      generalize bsD A = B at *
      clear e hv0 hv1 hd hx hs hl hN n0 n1 s1 b1 d0 s0 s2 hb hi
      walk_at "es"
    apply wx_nx (ε1 := [.ls (penL (dn q s)), .sh (.int w), .sh (.int (b + dr q s)), .sh (.int s), .ls (bsD (A ++ [v])), .sh d])
    · generalize bsD (A ++ [v]) = B at *
      clear hv0 hv1 hd hx hs hl hN n0 n1 s1 b1 d0 hb hi hz
      walk_at "es"
    refine wx_skip ⟨_, _, _, _, rfl, by simp [hl], by omega, ?_, fun x hxa => ?_⟩
    · rw [List.pairwise_append]
      refine ⟨hs, by simp, fun x hxa y hy => ?_⟩
      rw [List.mem_singleton.mp hy]
      exact hv1.2.2 x hxa
    · rcases List.mem_append.mp hxa with hxa | hxa
      · have := hx x hxa
        omega
      · rw [List.mem_singleton.mp hxa]
        have := hv1.2.1
        exact ⟨hv1.1, by omega⟩
  · rintro ε ⟨q, b, A, c5, rfl, hl, hb, hs, hx⟩
    have hl2 : A.length = N := by rw [hl]; simp [rangeD]
    have hz : (bsD A).length ≤ 16777216 := by simp [bsD]; omega
    apply wx_rt (c := .sh (.tuple (bsD A))) (ε1 := [.ls (penL q), .sh (.int w), .sh (.int b), .sh (.int s), .ls (bsD A), c5])
    · generalize bsD A = B at *
      clear e1 hx hs hl hl2 hN n0 n1 s1 b1 hb
      walk_at "es"
    exact ⟨A, q, ⟨hs, fun x hxa => (hx x hxa).1, by omega⟩, by omega, rfl, rfl⟩
end KW
namespace KW
open PySem PySem.Spec PyProof.Rows L2 L2.M
local macro_rules | `(tactic| walk_at "ev") => `(tactic| simp [semF, shared, after, mSeq, mSkip, mIf, mRet, mRetN, mRetV, mSet, mSetIx, mExpr, mB, mU, mTm, mPl, mK, mVar, mOp, mCons, mNil, bor, bors, mTst, mAndT, mOrT, mNotT, mAndE, mOrE, mNotE, mIfE, mIsi, isiD, mChn, chnL, cmpD, binD, addD, subD, mulD, modD, fdivD, powD, eqD, neD, ltD, leD, gtD, geD, isD, isnD, L2.M.isNon, negD, ixD, Bf.f, Bg.f, lenD, L2.M.intD, maxD, minD, repD, strD, gmaxD, gminD, sumD, sortD, anyD, allD, mCall, frz, fzO, lend, wb, mTup, mLst, fzs, cD, mAsg, bTup, bTps, mApp, tupD, lstD, mRev, revD, ofs_inj, ee_ii, ee_ss, ee_bb, ee_nn, ee_is, ee_si, ee_in, ee_ni, ee_tt, ee_ll, ee_maps, ee_0, ee_1, ee_2, ee_3, at_lit, at_nat, at_m1, at_m2, scD, emD, sizeLine_eq, ixN, sm_lit, mSrc, itemsD, plOf, rng1D, bNm, mSl, mPt, mNoP, slD, mPar, keepT, tmsO, setA, mFlow, zipX, enumX, itemsX, intsOf, ints_all, boolsOf, shaped_lay, lay_int, lay_bool, lay_none, lay_dict, lay_tup, lay_list, lay_ints, sortX_ints, mPlF, mPlI, mRd, mPU, mPB, mFSet, mFNew, mNSet, mPApp, mPSetIx, mPPop, mMeth, mNew, isIns, cellO, mLstN, mAddN, mAppN, semX, mTold, mCallX, xRet, xExpr, xSet, mRaise, mM, isL, isS, mOrV, truD])
local macro_rules | `(tactic| walk_at "es") => `(tactic| simp [semF, shared, after, mSeq, mSkip, mIf, mRet, mRetN, mRetV, mSet, mSetIx, mExpr, mB, mU, mTm, mPl, mK, mVar, mOp, mCons, mNil, bor, bors, mTst, mAndT, mOrT, mNotT, mAndE, mOrE, mNotE, mIfE, mIsi, isiD, mChn, chnL, cmpD, binD, addD, subD, mulD, modD, fdivD, powD, eqD, neD, ltD, leD, gtD, geD, isD, isnD, L2.M.isNon, negD, ixD, Bf.f, Bg.f, lenD, L2.M.intD, maxD, minD, repD, strD, gmaxD, gminD, sumD, sortD, anyD, allD, mCall, frz, fzO, lend, wb, mTup, mLst, fzs, cD, mAsg, bTup, bTps, mApp, tupD, lstD, mRev, revD, ofs_inj, ee_ii, ee_ss, ee_bb, ee_nn, ee_is, ee_si, ee_in, ee_ni, ee_tt, ee_ll, ee_maps, ee_0, ee_1, ee_2, ee_3, at_lit, at_nat, at_m1, at_m2, scD, emD, sizeLine_eq, ixN, sm_lit, mSrc, itemsD, plOf, rng1D, bNm, mSl, mPt, mNoP, slD, mPar, keepT, tmsO, setA, mFlow, zipX, enumX, itemsX, intsOf, ints_all, boolsOf, shaped_lay, lay_int, lay_bool, lay_none, lay_dict, lay_tup, lay_list, lay_ints, sortX_ints, mPlF, mPlI, mRd, mPU, mPB, mFSet, mFNew, mNSet, mPApp, mPSetIx, mPPop, mMeth, mNew, isIns, cellO, mLstN, mAddN, mAppN, semX, mTold, mCallX, xRet, xExpr, xSet, mRaise, mM, isL, isS, mOrV, truD, *])
local macro_rules | `(tactic| walk_at "el") => `(tactic| simp [semF, shared, after, mSeq, mSkip, mIf, mRet, mRetN, mRetV, mSet, mSetIx, mExpr, mB, mU, mTm, mPl, mK, mVar, mOp, mCons, mNil, bor, bors, mTst, mAndT, mOrT, mNotT, mAndE, mOrE, mNotE, mIfE, mIsi, isiD, mChn, chnL, cmpD, binD, addD, subD, mulD, modD, fdivD, powD, eqD, neD, ltD, leD, gtD, geD, isD, isnD, L2.M.isNon, negD, ixD, Bf.f, Bg.f, lenD, L2.M.intD, maxD, minD, repD, strD, gmaxD, gminD, sumD, sortD, anyD, allD, mCall, frz, fzO, lend, wb, mTup, mLst, fzs, cD, mAsg, bTup, bTps, mApp, tupD, lstD, mRev, revD, ofs_inj, ee_ii, ee_ss, ee_bb, ee_nn, ee_is, ee_si, ee_in, ee_ni, ee_tt, ee_ll, ee_maps, ee_0, ee_1, ee_2, ee_3, at_lit, at_nat, at_m1, at_m2, scD, emD, sizeLine_eq, ixN, sm_lit, mSrc, itemsD, plOf, rng1D, bNm, mSl, mPt, mNoP, slD, mPar, keepT, tmsO, setA, mFlow, zipX, enumX, itemsX, intsOf, ints_all, boolsOf, shaped_lay, lay_int, lay_bool, lay_none, lay_dict, lay_tup, lay_list, lay_ints, sortX_ints, mPlF, mPlI, mRd, mPU, mPB, mFSet, mFNew, mNSet, mPApp, mPSetIx, mPPop, mMeth, mNew, isIns, cellO, mLstN, mAddN, mAppN, semX, mTold, mCallX, xRet, xExpr, xSet, mRaise, mM, isL, isS, mOrV, truD, mLc, lcL, sameC, wipeC, restC, mYes, *])
local macro_rules | `(tactic| walk_at "ef") => `(tactic| simp [semF, shared, after, mSeq, mSkip, mIf, mRet, mRetN, mRetV, mSet, mSetIx, mExpr, mB, mU, mTm, mPl, mK, mVar, mOp, mCons, mNil, bor, bors, mTst, mAndT, mOrT, mNotT, mAndE, mOrE, mNotE, mIfE, mIsi, isiD, mChn, chnL, cmpD, binD, addD, subD, mulD, modD, fdivD, powD, eqD, neD, ltD, leD, gtD, geD, isD, isnD, L2.M.isNon, negD, ixD, Bf.f, Bg.f, lenD, L2.M.intD, maxD, minD, repD, strD, gmaxD, gminD, sumD, sortD, anyD, allD, mCall, frz, fzO, lend, wb, mTup, mLst, fzs, cD, mAsg, bTup, bTps, mApp, tupD, lstD, mRev, revD, ofs_inj, ee_ii, ee_ss, ee_bb, ee_nn, ee_is, ee_si, ee_in, ee_ni, ee_tt, ee_ll, ee_maps, ee_0, ee_1, ee_2, ee_3, at_lit, at_nat, at_m1, at_m2, scD, emD, sizeLine_eq, ixN, sm_lit, mSrc, itemsD, plOf, rng1D, bNm, mSl, mPt, mNoP, slD, mPar, keepT, tmsO, setA, mFlow, zipX, enumX, itemsX, intsOf, ints_all, boolsOf, shaped_lay, lay_int, lay_bool, lay_none, lay_dict, lay_tup, lay_list, lay_ints, sortX_ints, mPlF, mPlI, mRd, mPU, mPB, mFSet, mFNew, mNSet, mPApp, mPSetIx, mPPop, mMeth, mNew, isIns, cellO, mLstN, mAddN, mAppN, semX, mTold, mCallX, xRet, xExpr, xSet, mRaise, mM, isL, isS, mOrV, truD, mFor, forL, mLc, lcL, sameC, wipeC, restC, mYes, *])
local macro_rules | `(tactic| walk_at "rg") => `(tactic| (and_intros <;> grind))
local macro_rules | `(tactic| walk_at "nx") => `(tactic| (apply wx_nx; focus (walk_at "ev"; try first | exact ⟨rfl, rfl⟩ | rfl)))
local macro_rules | `(tactic| walk_at "ns") => `(tactic| (apply wx_nx; focus (walk_at "es"; try first | exact ⟨rfl, rfl⟩ | rfl)))
local macro_rules | `(tactic| walk_at "rt") => `(tactic| (apply wx_rt; focus (walk_at "ev"; try first | exact ⟨rfl, rfl⟩ | rfl)))
local macro_rules | `(tactic| walk_at "rs") => `(tactic| (apply wx_rt; focus (walk_at "es"; try first | exact ⟨rfl, rfl⟩ | rfl)))
local macro_rules | `(tactic| walk_at "ed") => `(tactic| simp [semF, shared, after, mSeq, mSkip, mIf, mRet, mRetN, mRetV, mSet, mSetIx, mExpr, mB, mU, mTm, mPl, mK, mVar, mOp, mCons, mNil, bor, bors, mTst, mAndT, mOrT, mNotT, mAndE, mOrE, mNotE, mIfE, mIsi, isiD, mChn, chnL, cmpD, binD, addD, subD, mulD, modD, fdivD, powD, eqD, neD, ltD, leD, gtD, geD, isD, isnD, L2.M.isNon, negD, ixD, Bf.f, Bg.f, lenD, L2.M.intD, maxD, minD, repD, strD, gmaxD, gminD, sumD, sortD, anyD, allD, mCall, frz, fzO, lend, wb, mTup, mLst, fzs, cD, mAsg, bTup, bTps, mApp, tupD, lstD, mRev, revD, ofs_inj, ee_ii, ee_ss, ee_bb, ee_nn, ee_is, ee_si, ee_in, ee_ni, ee_tt, ee_ll, ee_maps, ee_0, ee_1, ee_2, ee_3, at_lit, at_nat, at_m1, at_m2, scD, emD, sizeLine_eq, ixN, sm_lit, mSrc, itemsD, plOf, rng1D, bNm, mSl, mPt, mNoP, slD, mPar, keepT, tmsO, setA, mFlow, zipX, enumX, itemsX, intsOf, ints_all, boolsOf, shaped_lay, lay_int, lay_bool, lay_none, lay_dict, lay_tup, lay_list, lay_ints, sortX_ints, mPlF, mPlI, mRd, mPU, mPB, mFSet, mFNew, mNSet, mPApp, mPSetIx, mPPop, mMeth, mNew, isIns, cellO, mLstN, mAddN, mAppN, semX, mTold, mCallX, xRet, xExpr, xSet, mRaise, mM, isL, isS, mOrV, truD, mDNew, mDIn, mDGet, mDLen, mDPut, kyD, mNNew, mN1, mTake, mFnV, mCallF, mNIn, mNGet, mNPut, mNVals, mNList, nKs, mDGetD, mDList, mNNe, *])
structure OutS (st : List (Int × Int)) : Prop where
  pos : ∀ x ∈ st, 0 ≤ x.1 ∧ x.1 < x.2
  lst : ∀ l, st.getLast? = some l → ∀ x ∈ st, x.2 ≤ l.2
theorem law_outage_eq (p : Pn) (a : Int) (a0 : 0 ≤ a) : Rt (g_law_outage [.ls (penL p), .sh (.int a)]) fun c cs => ∃ (st : List (Int × Int)) (q : Pn), st.length ≤ 5 ∧ OutS st ∧ c = .sh (stD st) ∧ cs = [.ls (penL q), .sh (.int a)] := by
  have h3 := @pkd3
  unfold g_law_outage m_law_outage
  apply rt_sem rfl
  walk_at "nx"
  apply wx_nx (ε1 := [.ls (penL (dn p 8)), .sh (.int (if 0 < a - dr p 8 then a - dr p 8 else 0)), .ls [], .no, .no])
  · walk_at "es"
  obtain ⟨a1, ha1, a10⟩ : ∃ a1, (if 0 < a - dr p 8 then a - dr p 8 else 0) = a1 ∧ 0 ≤ a1 := ⟨_, rfl, by split <;> omega⟩
  rw [ha1]
  clear ha1
  generalize dn p 8 = p1
  have n1 := dr_nn (p := p1) (n := 6) (by decide)
  have n2 := dr_lt (p := p1) (n := 6) (by decide)
  obtain ⟨N, hN⟩ := Int.eq_ofNat_of_zero_le n1
  apply wx_seq
  apply wx_for (ds := rangeD 0 1 N) (ws := []) (ε1 := [.ls (penL (dn p1 6)), .sh (.int a1), .ls [], .no, .no]) fun i ε => ∃ (q : Pn) (at_ : Int) (st : List (Int × Int)) (c3 c4 : C), ε = [.ls (penL q), .sh (.int at_), .ls (st.map pr), c3, c4] ∧ st.length = i ∧ 0 ≤ at_ ∧ (∀ x ∈ st, 0 ≤ x.1 ∧ x.1 < x.2 ∧ x.2 ≤ at_) ∧ ∀ l, st.getLast? = some l → ∀ x ∈ st, x.2 ≤ l.2
  · generalize hn : dr p1 6 = n at *
    have hr := rng_nat0 (k := N) n hN (by omega)
    exact src_f (d := .int n) (by clear hr hN n1 n2; walk_at "es") hr
  · rfl
  · exact ⟨_, _, [], _, _, rfl, rfl, a10, (fun x hx => by cases hx), (fun l hl x hx => by cases hx)⟩
  · intro i ε hj j hj2
    cases hj2
  · rintro i d ε hd ⟨q, at_, st, c3, c4, rfl, hl, ht0, hx1, hx2⟩
    have hi : i < 6 := by
      have := (List.getElem?_eq_some_iff.mp hd).1
      simp [rangeD] at this
      omega
    have hz : st.length < 16777216 := by omega
    clear hd hN n1 n2
    refine ⟨_, rfl, ?_⟩
    replace hl := Hid.mk hl
    replace ht0 := Hid.mk ht0
    replace hx1 := Hid.mk hx1
    replace hx2 := Hid.mk hx2
    walk_at "ns"
    generalize hv : gt [dr q 6, _, _] _ = v
    have v0 : 0 ≤ v := by
      rw [← hv]
      clear hv h3
      apply gd3 (P := fun v => 0 ≤ v)
      walk_at "rg"
    replace v0 := Hid.mk v0
    generalize hq : dn (dn (dn (dn q 6) 40) 600) 3 = q2
    apply wx_nx (ε1 := [.ls (penL q2), .sh (.int at_), .ls ((st ++ [(at_, at_ + 1 + v)]).map pr), .sh d, .sh (.int (at_ + 1 + v))])
    · rw [List.map_append]
      simp only [List.map_cons, List.map_nil, pr]
      clear h3 hv hq
      have hz2 : (st.map pr).length < 16777216 := by rw [List.length_map]; exact hz
      generalize st.map pr = S at *
      clear hz
      walk_at "es"
    apply wx_nx (ε1 := [.ls (penL (dn q2 12)), .sh (.int (at_ + 1 + v + 1 + dr q2 12)), .ls ((st ++ [(at_, at_ + 1 + v)]).map pr), .sh d, .sh (.int (at_ + 1 + v))])
    · generalize (st ++ [(at_, at_ + 1 + v)]).map pr = S at *
      clear h3 hv hq
      walk_at "es"
    have ht0 := ht0.get
    have v0 := v0.get
    have dd := dr_nn (p := q2) (n := 12) (by decide)
    refine wx_skip ⟨_, _, _, _, _, rfl, by rw [List.length_append, hl.get]; rfl, by omega, fun x hx => ?_, fun l hl x hx => ?_⟩
    · rcases List.mem_append.mp hx with hx | hx
      · have := hx1.get x hx
        omega
      · rw [List.mem_singleton.mp hx]
        dsimp only
        omega
    · rw [List.getLast?_concat] at hl
      cases hl
      rcases List.mem_append.mp hx with hx | hx
      · have := hx1.get x hx
        dsimp only
        omega
      · rw [List.mem_singleton.mp hx]
        exact Int.le_refl _
  · rintro ε ⟨q, at_, st, c3, c4, rfl, hl, ht0, hx1, hx2⟩
    have hl : st.length = N := by rw [hl]; simp [rangeD]
    have hz : st.length ≤ 16777216 := by omega
    apply wx_rt (c := .sh (stD st)) (ε1 := [.ls (penL q), .sh (.int at_), .ls (st.map pr), c3, c4])
    · clear h3 hN n1 n2 hl ht0 hx1 hx2 a10
      walk_at "es"
    exact ⟨st, q, by omega, ⟨fun x hx => ⟨(hx1 x hx).1, (hx1 x hx).2.1⟩, hx2⟩, rfl, rfl⟩
end KW
namespace KW
open PySem PySem.Spec PyProof.Rows L2 L2.M
local macro_rules | `(tactic| walk_at "ev") => `(tactic| simp [semF, shared, after, mSeq, mSkip, mIf, mRet, mRetN, mRetV, mSet, mSetIx, mExpr, mB, mU, mTm, mPl, mK, mVar, mOp, mCons, mNil, bor, bors, mTst, mAndT, mOrT, mNotT, mAndE, mOrE, mNotE, mIfE, mIsi, isiD, mChn, chnL, cmpD, binD, addD, subD, mulD, modD, fdivD, powD, eqD, neD, ltD, leD, gtD, geD, isD, isnD, L2.M.isNon, negD, ixD, Bf.f, Bg.f, lenD, L2.M.intD, maxD, minD, repD, strD, gmaxD, gminD, sumD, sortD, anyD, allD, mCall, frz, fzO, lend, wb, mTup, mLst, fzs, cD, mAsg, bTup, bTps, mApp, tupD, lstD, mRev, revD, ofs_inj, ee_ii, ee_ss, ee_bb, ee_nn, ee_is, ee_si, ee_in, ee_ni, ee_tt, ee_ll, ee_maps, ee_0, ee_1, ee_2, ee_3, at_lit, at_nat, at_m1, at_m2, scD, emD, sizeLine_eq, ixN, sm_lit, mSrc, itemsD, plOf, rng1D, bNm, mSl, mPt, mNoP, slD, mPar, keepT, tmsO, setA, mFlow, zipX, enumX, itemsX, intsOf, ints_all, boolsOf, shaped_lay, lay_int, lay_bool, lay_none, lay_dict, lay_tup, lay_list, lay_ints, sortX_ints, mPlF, mPlI, mRd, mPU, mPB, mFSet, mFNew, mNSet, mPApp, mPSetIx, mPPop, mMeth, mNew, isIns, cellO, mLstN, mAddN, mAppN, semX, mTold, mCallX, xRet, xExpr, xSet, mRaise, mM, isL, isS, mOrV, truD])
local macro_rules | `(tactic| walk_at "es") => `(tactic| simp [semF, shared, after, mSeq, mSkip, mIf, mRet, mRetN, mRetV, mSet, mSetIx, mExpr, mB, mU, mTm, mPl, mK, mVar, mOp, mCons, mNil, bor, bors, mTst, mAndT, mOrT, mNotT, mAndE, mOrE, mNotE, mIfE, mIsi, isiD, mChn, chnL, cmpD, binD, addD, subD, mulD, modD, fdivD, powD, eqD, neD, ltD, leD, gtD, geD, isD, isnD, L2.M.isNon, negD, ixD, Bf.f, Bg.f, lenD, L2.M.intD, maxD, minD, repD, strD, gmaxD, gminD, sumD, sortD, anyD, allD, mCall, frz, fzO, lend, wb, mTup, mLst, fzs, cD, mAsg, bTup, bTps, mApp, tupD, lstD, mRev, revD, ofs_inj, ee_ii, ee_ss, ee_bb, ee_nn, ee_is, ee_si, ee_in, ee_ni, ee_tt, ee_ll, ee_maps, ee_0, ee_1, ee_2, ee_3, at_lit, at_nat, at_m1, at_m2, scD, emD, sizeLine_eq, ixN, sm_lit, mSrc, itemsD, plOf, rng1D, bNm, mSl, mPt, mNoP, slD, mPar, keepT, tmsO, setA, mFlow, zipX, enumX, itemsX, intsOf, ints_all, boolsOf, shaped_lay, lay_int, lay_bool, lay_none, lay_dict, lay_tup, lay_list, lay_ints, sortX_ints, mPlF, mPlI, mRd, mPU, mPB, mFSet, mFNew, mNSet, mPApp, mPSetIx, mPPop, mMeth, mNew, isIns, cellO, mLstN, mAddN, mAppN, semX, mTold, mCallX, xRet, xExpr, xSet, mRaise, mM, isL, isS, mOrV, truD, *])
local macro_rules | `(tactic| walk_at "el") => `(tactic| simp [semF, shared, after, mSeq, mSkip, mIf, mRet, mRetN, mRetV, mSet, mSetIx, mExpr, mB, mU, mTm, mPl, mK, mVar, mOp, mCons, mNil, bor, bors, mTst, mAndT, mOrT, mNotT, mAndE, mOrE, mNotE, mIfE, mIsi, isiD, mChn, chnL, cmpD, binD, addD, subD, mulD, modD, fdivD, powD, eqD, neD, ltD, leD, gtD, geD, isD, isnD, L2.M.isNon, negD, ixD, Bf.f, Bg.f, lenD, L2.M.intD, maxD, minD, repD, strD, gmaxD, gminD, sumD, sortD, anyD, allD, mCall, frz, fzO, lend, wb, mTup, mLst, fzs, cD, mAsg, bTup, bTps, mApp, tupD, lstD, mRev, revD, ofs_inj, ee_ii, ee_ss, ee_bb, ee_nn, ee_is, ee_si, ee_in, ee_ni, ee_tt, ee_ll, ee_maps, ee_0, ee_1, ee_2, ee_3, at_lit, at_nat, at_m1, at_m2, scD, emD, sizeLine_eq, ixN, sm_lit, mSrc, itemsD, plOf, rng1D, bNm, mSl, mPt, mNoP, slD, mPar, keepT, tmsO, setA, mFlow, zipX, enumX, itemsX, intsOf, ints_all, boolsOf, shaped_lay, lay_int, lay_bool, lay_none, lay_dict, lay_tup, lay_list, lay_ints, sortX_ints, mPlF, mPlI, mRd, mPU, mPB, mFSet, mFNew, mNSet, mPApp, mPSetIx, mPPop, mMeth, mNew, isIns, cellO, mLstN, mAddN, mAppN, semX, mTold, mCallX, xRet, xExpr, xSet, mRaise, mM, isL, isS, mOrV, truD, mLc, lcL, sameC, wipeC, restC, mYes, *])
local macro_rules | `(tactic| walk_at "ef") => `(tactic| simp [semF, shared, after, mSeq, mSkip, mIf, mRet, mRetN, mRetV, mSet, mSetIx, mExpr, mB, mU, mTm, mPl, mK, mVar, mOp, mCons, mNil, bor, bors, mTst, mAndT, mOrT, mNotT, mAndE, mOrE, mNotE, mIfE, mIsi, isiD, mChn, chnL, cmpD, binD, addD, subD, mulD, modD, fdivD, powD, eqD, neD, ltD, leD, gtD, geD, isD, isnD, L2.M.isNon, negD, ixD, Bf.f, Bg.f, lenD, L2.M.intD, maxD, minD, repD, strD, gmaxD, gminD, sumD, sortD, anyD, allD, mCall, frz, fzO, lend, wb, mTup, mLst, fzs, cD, mAsg, bTup, bTps, mApp, tupD, lstD, mRev, revD, ofs_inj, ee_ii, ee_ss, ee_bb, ee_nn, ee_is, ee_si, ee_in, ee_ni, ee_tt, ee_ll, ee_maps, ee_0, ee_1, ee_2, ee_3, at_lit, at_nat, at_m1, at_m2, scD, emD, sizeLine_eq, ixN, sm_lit, mSrc, itemsD, plOf, rng1D, bNm, mSl, mPt, mNoP, slD, mPar, keepT, tmsO, setA, mFlow, zipX, enumX, itemsX, intsOf, ints_all, boolsOf, shaped_lay, lay_int, lay_bool, lay_none, lay_dict, lay_tup, lay_list, lay_ints, sortX_ints, mPlF, mPlI, mRd, mPU, mPB, mFSet, mFNew, mNSet, mPApp, mPSetIx, mPPop, mMeth, mNew, isIns, cellO, mLstN, mAddN, mAppN, semX, mTold, mCallX, xRet, xExpr, xSet, mRaise, mM, isL, isS, mOrV, truD, mFor, forL, mLc, lcL, sameC, wipeC, restC, mYes, *])
local macro_rules | `(tactic| walk_at "rg") => `(tactic| (and_intros <;> grind))
local macro_rules | `(tactic| walk_at "nx") => `(tactic| (apply wx_nx; focus (walk_at "ev"; try first | exact ⟨rfl, rfl⟩ | rfl)))
local macro_rules | `(tactic| walk_at "ns") => `(tactic| (apply wx_nx; focus (walk_at "es"; try first | exact ⟨rfl, rfl⟩ | rfl)))
local macro_rules | `(tactic| walk_at "rt") => `(tactic| (apply wx_rt; focus (walk_at "ev"; try first | exact ⟨rfl, rfl⟩ | rfl)))
local macro_rules | `(tactic| walk_at "rs") => `(tactic| (apply wx_rt; focus (walk_at "es"; try first | exact ⟨rfl, rfl⟩ | rfl)))
local macro_rules | `(tactic| walk_at "ed") => `(tactic| simp [semF, shared, after, mSeq, mSkip, mIf, mRet, mRetN, mRetV, mSet, mSetIx, mExpr, mB, mU, mTm, mPl, mK, mVar, mOp, mCons, mNil, bor, bors, mTst, mAndT, mOrT, mNotT, mAndE, mOrE, mNotE, mIfE, mIsi, isiD, mChn, chnL, cmpD, binD, addD, subD, mulD, modD, fdivD, powD, eqD, neD, ltD, leD, gtD, geD, isD, isnD, L2.M.isNon, negD, ixD, Bf.f, Bg.f, lenD, L2.M.intD, maxD, minD, repD, strD, gmaxD, gminD, sumD, sortD, anyD, allD, mCall, frz, fzO, lend, wb, mTup, mLst, fzs, cD, mAsg, bTup, bTps, mApp, tupD, lstD, mRev, revD, ofs_inj, ee_ii, ee_ss, ee_bb, ee_nn, ee_is, ee_si, ee_in, ee_ni, ee_tt, ee_ll, ee_maps, ee_0, ee_1, ee_2, ee_3, at_lit, at_nat, at_m1, at_m2, scD, emD, sizeLine_eq, ixN, sm_lit, mSrc, itemsD, plOf, rng1D, bNm, mSl, mPt, mNoP, slD, mPar, keepT, tmsO, setA, mFlow, zipX, enumX, itemsX, intsOf, ints_all, boolsOf, shaped_lay, lay_int, lay_bool, lay_none, lay_dict, lay_tup, lay_list, lay_ints, sortX_ints, mPlF, mPlI, mRd, mPU, mPB, mFSet, mFNew, mNSet, mPApp, mPSetIx, mPPop, mMeth, mNew, isIns, cellO, mLstN, mAddN, mAppN, semX, mTold, mCallX, xRet, xExpr, xSet, mRaise, mM, isL, isS, mOrV, truD, mDNew, mDIn, mDGet, mDLen, mDPut, kyD, mNNew, mN1, mTake, mFnV, mCallF, mNIn, mNGet, mNPut, mNVals, mNList, nKs, mDGetD, mDList, mNNe, *])
theorem pkD4 (A B D E : PyData) (p : Pn) : ∃ d, (d = A ∨ d = B ∨ d = D ∨ d = E) ∧ atI [A, B, D, E] (dr p 4) = some d := by
  have h0 := dr_nn (p := p) (n := 4) (by decide)
  have h1 := dr_lt (p := p) (n := 4) (by decide)
  obtain h | h | h | h : dr p 4 = 0 ∨ dr p 4 = 1 ∨ dr p 4 = 2 ∨ dr p 4 = 3 := by omega
  · exact ⟨A, .inl rfl, by rw [h]; rfl⟩
  · exact ⟨B, .inr (.inl rfl), by rw [h]; rfl⟩
  · exact ⟨D, .inr (.inr (.inl rfl)), by rw [h]; rfl⟩
  · exact ⟨E, .inr (.inr (.inr rfl)), by rw [h]; rfl⟩
theorem law_played_eq (p : Pn) : Rt (g_law_played [.ls (penL p)]) fun c cs => ∃ (q : Ca) (A : List Nat) (st : List (Int × Int)) (p' : Pn), Cl q ∧ Ak A ∧ A.length ≤ 12 ∧ st.length ≤ 5 ∧ (∀ x ∈ st, 0 ≤ x.1 ∧ x.1 < x.2) ∧ c = .sh (.tuple [q.d, .tuple (bsD A), stD st]) ∧ cs = [.ls (penL p')] := by
  unfold g_law_played m_law_played
  apply rt_sem rfl
  obtain ⟨_, _, e1, q, p1, hq, rfl, rfl⟩ := law_caller_eq p
  obtain ⟨_, _, e2, A, p2, hA, lA, rfl, rfl⟩ := law_askings_eq p1
  apply wx_nx (ε1 := [.ls (penL p2), .sh q.d, .sh (.tuple (bsD A)), .no, .no])
  · clear hq hA lA
    generalize q.d = qd at *
    generalize bsD A = B at *
    walk_at "es"
  clear e1 e2
  obtain ⟨a, ha, a0⟩ : ∃ a : Int, (bsD A ++ [PyData.int 0])[0]? = some (.int a) ∧ 0 ≤ a := by
    cases A with
    | nil => exact ⟨0, rfl, Int.le_refl _⟩
    | cons x A => exact ⟨(x : Int), by simp [bsD], by omega⟩
  obtain ⟨_, ha2⟩ := List.getElem?_eq_some_iff.mp ha
  have hz : (bsD A).length + 1 ≤ 16777216 := by simp [bsD]; omega
  have hz2 : (bsD A).length ≤ 16777215 := by simp [bsD]; omega
  apply wx_nx (ε1 := [.ls (penL p2), .sh q.d, .sh (.tuple (bsD A)), .sh (.int a), .no])
  · clear hq hA lA
    generalize q.d = qd at *
    generalize bsD A = B at *
    walk_at "es"
  clear ha ha2 hz hz2
  obtain ⟨_, _, e3, s1, p3, l1, o1, rfl, rfl⟩ := law_outage_eq p2 a a0
  obtain ⟨_, _, e4, s2, p4, l2, o2, rfl, rfl⟩ := law_outage_eq p3 a a0
  obtain ⟨S, hS, e5⟩ := pkD4 (stD s1) (stD [(a, a + 2500)]) (stD []) (stD s2) p4
  obtain ⟨st, rfl, hst, hos⟩ : ∃ st : List (Int × Int), S = stD st ∧ st.length ≤ 5 ∧ ∀ x ∈ st, 0 ≤ x.1 ∧ x.1 < x.2 := by
    rcases hS with rfl | rfl | rfl | rfl
    · exact ⟨_, rfl, l1, o1.pos⟩
    · exact ⟨_, rfl, by simp, by simp; omega⟩
    · exact ⟨_, rfl, by simp, by simp⟩
    · exact ⟨_, rfl, l2, o2.pos⟩
  apply wx_nx (ε1 := [.ls (penL (dn p4 4)), .sh q.d, .sh (.tuple (bsD A)), .sh (.int a), .sh (stD st)])
  · clear hq hA lA l1 l2 hS hst hos o1 o2
    have q1 : stD [(a, a + 2500)] = .tuple [.tuple [.int a, .int (a + 2500)]] := rfl
    have q2 : stD [] = .tuple [] := rfl
    rw [q1, q2] at e5
    clear q1 q2
    generalize stD s1 = S1 at *
    generalize stD s2 = S2 at *
    generalize stD st = S3 at *
    generalize q.d = qd at *
    generalize bsD A = B at *
    walk_at "es"
  clear e3 e4 e5 hS
  apply wx_rt (c := .sh (.tuple [q.d, .tuple (bsD A), stD st])) (ε1 := [.ls (penL (dn p4 4)), .sh q.d, .sh (.tuple (bsD A)), .sh (.int a), .sh (stD st)])
  · clear hq hA lA l1 l2 hst hos o1 o2
    generalize stD st = S3 at *
    generalize q.d = qd at *
    generalize bsD A = B at *
    walk_at "ev"
  exact ⟨q, A, st, dn p4 4, hq, hA, lA, hst, hos, rfl, rfl⟩
end KW
namespace KW
open PySem PySem.Spec PyProof.Rows L2 L2.M
local macro_rules | `(tactic| walk_at "ev") => `(tactic| simp [semF, shared, after, mSeq, mSkip, mIf, mRet, mRetN, mRetV, mSet, mSetIx, mExpr, mB, mU, mTm, mPl, mK, mVar, mOp, mCons, mNil, bor, bors, mTst, mAndT, mOrT, mNotT, mAndE, mOrE, mNotE, mIfE, mIsi, isiD, mChn, chnL, cmpD, binD, addD, subD, mulD, modD, fdivD, powD, eqD, neD, ltD, leD, gtD, geD, isD, isnD, L2.M.isNon, negD, ixD, Bf.f, Bg.f, lenD, L2.M.intD, maxD, minD, repD, strD, gmaxD, gminD, sumD, sortD, anyD, allD, mCall, frz, fzO, lend, wb, mTup, mLst, fzs, cD, mAsg, bTup, bTps, mApp, tupD, lstD, mRev, revD, ofs_inj, ee_ii, ee_ss, ee_bb, ee_nn, ee_is, ee_si, ee_in, ee_ni, ee_tt, ee_ll, ee_maps, ee_0, ee_1, ee_2, ee_3, at_lit, at_nat, at_m1, at_m2, scD, emD, sizeLine_eq, ixN, sm_lit, mSrc, itemsD, plOf, rng1D, bNm, mSl, mPt, mNoP, slD, mPar, keepT, tmsO, setA, mFlow, zipX, enumX, itemsX, intsOf, ints_all, boolsOf, shaped_lay, lay_int, lay_bool, lay_none, lay_dict, lay_tup, lay_list, lay_ints, sortX_ints, mPlF, mPlI, mRd, mPU, mPB, mFSet, mFNew, mNSet, mPApp, mPSetIx, mPPop, mMeth, mNew, isIns, cellO, mLstN, mAddN, mAppN, semX, mTold, mCallX, xRet, xExpr, xSet, mRaise, mM, isL, isS, mOrV, truD])
local macro_rules | `(tactic| walk_at "es") => `(tactic| simp [semF, shared, after, mSeq, mSkip, mIf, mRet, mRetN, mRetV, mSet, mSetIx, mExpr, mB, mU, mTm, mPl, mK, mVar, mOp, mCons, mNil, bor, bors, mTst, mAndT, mOrT, mNotT, mAndE, mOrE, mNotE, mIfE, mIsi, isiD, mChn, chnL, cmpD, binD, addD, subD, mulD, modD, fdivD, powD, eqD, neD, ltD, leD, gtD, geD, isD, isnD, L2.M.isNon, negD, ixD, Bf.f, Bg.f, lenD, L2.M.intD, maxD, minD, repD, strD, gmaxD, gminD, sumD, sortD, anyD, allD, mCall, frz, fzO, lend, wb, mTup, mLst, fzs, cD, mAsg, bTup, bTps, mApp, tupD, lstD, mRev, revD, ofs_inj, ee_ii, ee_ss, ee_bb, ee_nn, ee_is, ee_si, ee_in, ee_ni, ee_tt, ee_ll, ee_maps, ee_0, ee_1, ee_2, ee_3, at_lit, at_nat, at_m1, at_m2, scD, emD, sizeLine_eq, ixN, sm_lit, mSrc, itemsD, plOf, rng1D, bNm, mSl, mPt, mNoP, slD, mPar, keepT, tmsO, setA, mFlow, zipX, enumX, itemsX, intsOf, ints_all, boolsOf, shaped_lay, lay_int, lay_bool, lay_none, lay_dict, lay_tup, lay_list, lay_ints, sortX_ints, mPlF, mPlI, mRd, mPU, mPB, mFSet, mFNew, mNSet, mPApp, mPSetIx, mPPop, mMeth, mNew, isIns, cellO, mLstN, mAddN, mAppN, semX, mTold, mCallX, xRet, xExpr, xSet, mRaise, mM, isL, isS, mOrV, truD, *])
local macro_rules | `(tactic| walk_at "el") => `(tactic| simp [semF, shared, after, mSeq, mSkip, mIf, mRet, mRetN, mRetV, mSet, mSetIx, mExpr, mB, mU, mTm, mPl, mK, mVar, mOp, mCons, mNil, bor, bors, mTst, mAndT, mOrT, mNotT, mAndE, mOrE, mNotE, mIfE, mIsi, isiD, mChn, chnL, cmpD, binD, addD, subD, mulD, modD, fdivD, powD, eqD, neD, ltD, leD, gtD, geD, isD, isnD, L2.M.isNon, negD, ixD, Bf.f, Bg.f, lenD, L2.M.intD, maxD, minD, repD, strD, gmaxD, gminD, sumD, sortD, anyD, allD, mCall, frz, fzO, lend, wb, mTup, mLst, fzs, cD, mAsg, bTup, bTps, mApp, tupD, lstD, mRev, revD, ofs_inj, ee_ii, ee_ss, ee_bb, ee_nn, ee_is, ee_si, ee_in, ee_ni, ee_tt, ee_ll, ee_maps, ee_0, ee_1, ee_2, ee_3, at_lit, at_nat, at_m1, at_m2, scD, emD, sizeLine_eq, ixN, sm_lit, mSrc, itemsD, plOf, rng1D, bNm, mSl, mPt, mNoP, slD, mPar, keepT, tmsO, setA, mFlow, zipX, enumX, itemsX, intsOf, ints_all, boolsOf, shaped_lay, lay_int, lay_bool, lay_none, lay_dict, lay_tup, lay_list, lay_ints, sortX_ints, mPlF, mPlI, mRd, mPU, mPB, mFSet, mFNew, mNSet, mPApp, mPSetIx, mPPop, mMeth, mNew, isIns, cellO, mLstN, mAddN, mAppN, semX, mTold, mCallX, xRet, xExpr, xSet, mRaise, mM, isL, isS, mOrV, truD, mLc, lcL, sameC, wipeC, restC, mYes, *])
local macro_rules | `(tactic| walk_at "ef") => `(tactic| simp [semF, shared, after, mSeq, mSkip, mIf, mRet, mRetN, mRetV, mSet, mSetIx, mExpr, mB, mU, mTm, mPl, mK, mVar, mOp, mCons, mNil, bor, bors, mTst, mAndT, mOrT, mNotT, mAndE, mOrE, mNotE, mIfE, mIsi, isiD, mChn, chnL, cmpD, binD, addD, subD, mulD, modD, fdivD, powD, eqD, neD, ltD, leD, gtD, geD, isD, isnD, L2.M.isNon, negD, ixD, Bf.f, Bg.f, lenD, L2.M.intD, maxD, minD, repD, strD, gmaxD, gminD, sumD, sortD, anyD, allD, mCall, frz, fzO, lend, wb, mTup, mLst, fzs, cD, mAsg, bTup, bTps, mApp, tupD, lstD, mRev, revD, ofs_inj, ee_ii, ee_ss, ee_bb, ee_nn, ee_is, ee_si, ee_in, ee_ni, ee_tt, ee_ll, ee_maps, ee_0, ee_1, ee_2, ee_3, at_lit, at_nat, at_m1, at_m2, scD, emD, sizeLine_eq, ixN, sm_lit, mSrc, itemsD, plOf, rng1D, bNm, mSl, mPt, mNoP, slD, mPar, keepT, tmsO, setA, mFlow, zipX, enumX, itemsX, intsOf, ints_all, boolsOf, shaped_lay, lay_int, lay_bool, lay_none, lay_dict, lay_tup, lay_list, lay_ints, sortX_ints, mPlF, mPlI, mRd, mPU, mPB, mFSet, mFNew, mNSet, mPApp, mPSetIx, mPPop, mMeth, mNew, isIns, cellO, mLstN, mAddN, mAppN, semX, mTold, mCallX, xRet, xExpr, xSet, mRaise, mM, isL, isS, mOrV, truD, mFor, forL, mLc, lcL, sameC, wipeC, restC, mYes, *])
local macro_rules | `(tactic| walk_at "rg") => `(tactic| (and_intros <;> grind))
local macro_rules | `(tactic| walk_at "nx") => `(tactic| (apply wx_nx; focus (walk_at "ev"; try first | exact ⟨rfl, rfl⟩ | rfl)))
local macro_rules | `(tactic| walk_at "ns") => `(tactic| (apply wx_nx; focus (walk_at "es"; try first | exact ⟨rfl, rfl⟩ | rfl)))
local macro_rules | `(tactic| walk_at "rt") => `(tactic| (apply wx_rt; focus (walk_at "ev"; try first | exact ⟨rfl, rfl⟩ | rfl)))
local macro_rules | `(tactic| walk_at "rs") => `(tactic| (apply wx_rt; focus (walk_at "es"; try first | exact ⟨rfl, rfl⟩ | rfl)))
local macro_rules | `(tactic| walk_at "ed") => `(tactic| simp [semF, shared, after, mSeq, mSkip, mIf, mRet, mRetN, mRetV, mSet, mSetIx, mExpr, mB, mU, mTm, mPl, mK, mVar, mOp, mCons, mNil, bor, bors, mTst, mAndT, mOrT, mNotT, mAndE, mOrE, mNotE, mIfE, mIsi, isiD, mChn, chnL, cmpD, binD, addD, subD, mulD, modD, fdivD, powD, eqD, neD, ltD, leD, gtD, geD, isD, isnD, L2.M.isNon, negD, ixD, Bf.f, Bg.f, lenD, L2.M.intD, maxD, minD, repD, strD, gmaxD, gminD, sumD, sortD, anyD, allD, mCall, frz, fzO, lend, wb, mTup, mLst, fzs, cD, mAsg, bTup, bTps, mApp, tupD, lstD, mRev, revD, ofs_inj, ee_ii, ee_ss, ee_bb, ee_nn, ee_is, ee_si, ee_in, ee_ni, ee_tt, ee_ll, ee_maps, ee_0, ee_1, ee_2, ee_3, at_lit, at_nat, at_m1, at_m2, scD, emD, sizeLine_eq, ixN, sm_lit, mSrc, itemsD, plOf, rng1D, bNm, mSl, mPt, mNoP, slD, mPar, keepT, tmsO, setA, mFlow, zipX, enumX, itemsX, intsOf, ints_all, boolsOf, shaped_lay, lay_int, lay_bool, lay_none, lay_dict, lay_tup, lay_list, lay_ints, sortX_ints, mPlF, mPlI, mRd, mPU, mPB, mFSet, mFNew, mNSet, mPApp, mPSetIx, mPPop, mMeth, mNew, isIns, cellO, mLstN, mAddN, mAppN, semX, mTold, mCallX, xRet, xExpr, xSet, mRaise, mM, isL, isS, mOrV, truD, mDNew, mDIn, mDGet, mDLen, mDPut, kyD, mNNew, mN1, mTake, mFnV, mCallF, mNIn, mNGet, mNPut, mNVals, mNList, nKs, mDGetD, mDList, mNNe, *])
def evb : PyData → Int
  | .tuple (.int b :: _) => b
  | _ => 0
theorem lm_1 {p q : Pn} {a b d : PyData} (f : g_law_played [.ls (penL p)] = some (.sh (.tuple [a, b, d]), [.ls (penL q)])) (c0 c1 c3 c4 c5 c6 c7 c8 c9 c10 c11 c12 c13 c14 c15 c16 : C) : (mAsg [3, 4, 5] [] (bTup [bNm 3, bNm 4, bNm 5]) (mCall [true] g_law_played (mCons (mPl 2) (mNil)))) [c0, c1, .ls (penL p), c3, c4, c5, c6, c7, c8, c9, c10, c11, c12, c13, c14, c15, c16] = some (.nx, [c0, c1, .ls (penL q), .sh a, .sh b, .sh d, c6, c7, c8, c9, c10, c11, c12, c13, c14, c15, c16]) := by
  walk_at "es"
theorem lm_2 {Q A S E N : PyData} (f : g_gone [.sh Q, .sh A, .sh S] = some (.sh (.tuple [E, N]), [.sh Q, .sh A, .sh S])) (c0 c1 c2 c6 c7 c8 c9 c10 c11 c12 c13 c14 c15 c16 : C) : (mAsg [6, 7] [] (bTup [bNm 6, bNm 7]) (mCall [true, true, true] g_gone (mCons (mPl 3) (mCons (mPl 4) (mCons (mPl 5) (mNil)))))) [c0, c1, c2, .sh Q, .sh A, .sh S, c6, c7, c8, c9, c10, c11, c12, c13, c14, c15, c16] = some (.nx, [c0, c1, c2, .sh Q, .sh A, .sh S, .sh E, .sh N, c8, c9, c10, c11, c12, c13, c14, c15, c16]) := by
  walk_at "es"
theorem lm_3 {E : List PyData} (hE : ∀ d ∈ E, ∃ b n w x, d = .tuple [.int b, n, w, x]) (hl : E.length ≤ 5000000) (c0 c1 c2 c3 c4 c5 c7 c8 c9 c10 c11 c12 c13 c14 c15 c16 : C) : (mSet [] 8 (mOp (Bg.f .maxl) (mCons (mTm (mB (binD .Add) (mTm (mLst (mCons (mTm (mK (.int 0))) (mNil)))) (mTm (mLc (mSrc itemsD (mCons (mTm (mVar 6)) mNil)) (bNm 9) (mYes) (mB ixD (mPl 9) (mTm (mK (.int 0)))) [9])))) (mNil)))) [c0, c1, c2, c3, c4, c5, .sh (.tuple E), c7, c8, c9, c10, c11, c12, c13, c14, c15, c16] = some (.nx, [c0, c1, c2, c3, c4, c5, .sh (.tuple E), c7, .sh (.int ((E.map evb).foldl max 0)), c9, c10, c11, c12, c13, c14, c15, c16]) := by
  have key : mLc (mSrc itemsD (mCons (mTm (mVar 6)) mNil)) (bNm 9) (mYes) (mB ixD (mPl 9) (mTm (mK (.int 0)))) [9] [c0, c1, c2, c3, c4, c5, .sh (.tuple E), c7, c8, c9, c10, c11, c12, c13, c14, c15, c16] = some (.ls (E.map fun d => PyData.int (evb d)), [c0, c1, c2, c3, c4, c5, .sh (.tuple E), c7, c8, c9, c10, c11, c12, c13, c14, c15, c16]) := by
    refine mLc_enc id (fun d => PyData.int (evb d)) (xs := E) (ws := []) (c0 := c9) ?_ rfl ?_ (by rw [sizeLine_eq]; omega)
    · rw [List.map_id]
      clear hE hl
      walk_at "ev"
    · intro d hd
      obtain ⟨b, n, w, x, rfl⟩ := hE d hd
      refine ⟨.sh (.int b), ?_, rfl⟩
      clear hE hl hd
      walk_at "ev"
  have e1 : (E.map fun d => PyData.int (evb d)) = (E.map evb).map PyData.int := by rw [List.map_map]; rfl
  have e2 : intsOf ((E.map evb).map PyData.int) = some (E.map evb) := ints_all _
  have e3 : ((E.map evb).map PyData.int).length ≤ 5000000 := by simpa using hl
  have e4 : 1 + ((E.map evb).map PyData.int).length ≤ 16777216 := by omega
  have e5 : ((E.map evb).map PyData.int).length + 1 ≤ 16777216 := by omega
  have e6 : ((E.map evb).map PyData.int).length ≤ 16777215 := by omega
  rw [e1] at key
  clear e1 hE
  generalize (E.map evb).map PyData.int = I at *
  generalize E.map evb = J at *
  generalize mLc _ (bNm 9) mYes _ [9] = ML at *
  clear hl
  walk_at "es"
theorem lm_4 {q : Ca} (c0 c1 c2 c4 c5 c6 c7 c8 c9 c10 c11 c12 c13 c14 c15 c16 : C) : (mPar [] [10, 11, 12] (mCons (mTm (mCall [true] g_first_of (mCons (mPl 3) (mNil)))) (mCons (mTm (mLst (mNil))) (mCons (mTm (mK (.int 0))) (mNil))))) [c0, c1, c2, .sh q.d, c4, c5, c6, c7, c8, c9, c10, c11, c12, c13, c14, c15, c16] = some (.nx, [c0, c1, c2, .sh q.d, c4, c5, c6, c7, c8, c9, .sh (zb q (fun _ => true) [] 0).1.d, .ls [], .sh (.int 0), c13, c14, c15, c16]) := by
  have e0 : g_first_of [.sh q.d] = some (.sh (zb q (fun _ => true) [] 0).1.d, [.sh q.d]) := by
    rw [zb_0]
    unfold g_first_of m_first_of Sd.d Ca.d Ca.pu
    walk_at "ev"
    rfl
  generalize (zb q (fun _ => true) [] 0).1.d = Z at *
  generalize q.d = Q at *
  walk_at "es"
theorem lm_5 {Q Z n : PyData} {t : Int} (f : g_law_stands [.sh Q, .sh Z, .sh (.int t), .sh n] = some (.sh (.bool true), [.sh Q, .sh Z, .sh (.int t), .sh n])) (c0 c1 c2 c4 c5 c6 c7 c8 c9 c11 c14 c15 c16 : C) : (mIf (mNotT (mTst (mCall [true, true, true, true] g_law_stands (mCons (mPl 3) (mCons (mPl 10) (mCons (mPl 13) (mCons (mPl 12) (mNil)))))))) (mSeq (mRet (mK (.bool false))) (mSkip)) (mSkip)) [c0, c1, c2, .sh Q, c4, c5, c6, c7, c8, c9, .sh Z, c11, .sh n, .sh (.int t), c14, c15, c16] = some (.nx, [c0, c1, c2, .sh Q, c4, c5, c6, c7, c8, c9, .sh Z, c11, .sh n, .sh (.int t), c14, c15, c16]) := by
  walk_at "es"
theorem lm_6 (A : List Nat) (hA : A.length ≤ 1000) (b : Int) (c0 c1 c2 c3 c5 c6 c7 c8 c9 c10 c11 c12 c14 c15 c16 : C) : (mSet [] 14 (mOp (Bf.f .len) (mCons (mTm (mLc (mSrc itemsD (mCons (mTm (mVar 4)) mNil)) (bNm 15) (mTst (mB (cmpD .Eq) (mPl 15) (mPl 13))) (mVar 15) [15])) (mNil)))) [c0, c1, c2, c3, .sh (.tuple (bsD A)), c5, c6, c7, c8, c9, c10, c11, c12, .sh (.int b), c14, c15, c16] = some (.nx, [c0, c1, c2, c3, .sh (.tuple (bsD A)), c5, c6, c7, c8, c9, c10, c11, c12, .sh (.int b), .sh (.int (cnt A b)), c15, c16]) := by
  have key : mLc (mSrc itemsD (mCons (mTm (mVar 4)) mNil)) (bNm 15) (mTst (mB (cmpD .Eq) (mPl 15) (mPl 13))) (mVar 15) [15] [c0, c1, c2, c3, .sh (.tuple (bsD A)), c5, c6, c7, c8, c9, c10, c11, c12, .sh (.int b), c14, c15, c16] = some (.ls ((A.filter fun x : Nat => decide ((x : Int) = b)).map fun x : Nat => PyData.int (x : Int)), [c0, c1, c2, c3, .sh (.tuple (bsD A)), c5, c6, c7, c8, c9, c10, c11, c12, .sh (.int b), c14, c15, c16]) := by
    refine mLc_encF (fun x : Nat => PyData.int (x : Int)) (fun x : Nat => PyData.int (x : Int)) (fun x : Nat => decide ((x : Int) = b)) (xs := A) (ws := []) (c0 := c15) ?_ rfl ?_ ?_ (by rw [sizeLine_eq]; omega)
    · show _ = some ((bsD A, []), _)
      clear hA
      generalize bsD A = B
      walk_at "ev"
    · intro x _
      clear hA
      generalize bsD A = B
      generalize (x : Int) = y
      walk_at "ev"
    · intro x _ _
      refine ⟨.sh (.int (x : Int)), ?_, rfl⟩
      clear hA
      generalize bsD A = B
      generalize (x : Int) = y
      walk_at "ev"
  have e : ((((A.filter fun x : Nat => decide ((x : Int) = b)).map fun x : Nat => PyData.int (x : Int)).length : Nat) : Int) = (cnt A b : Int) := by
    rw [List.length_map, ← List.countP_eq_length_filter]
    rfl
  generalize ((A.filter fun x : Nat => decide ((x : Int) = b)).map fun x : Nat => PyData.int (x : Int)) = L at *
  generalize (cnt A b : Int) = k at *
  generalize bsD A = B at *
  generalize mLc _ (bNm 15) _ _ [15] = ML at *
  clear hA
  subst e
  walk_at "es"
theorem lm_7 {Q Z S R : PyData} {ev : List PyData} {b k : Int} {v : Bool} (f1 : g_law_silent [.sh S, .sh (.int b)] = some (.sh (.bool v), [.sh S, .sh (.int b)])) (f2 : g_stepped [.sh Q, .sh Z, .sh (.bool (!v)), .sh (.int k)] = some (.sh (.tuple [R, .tuple ev]), [.sh Q, .sh Z, .sh (.bool (!v)), .sh (.int k)])) (c0 c1 c2 c4 c6 c7 c8 c9 c11 c12 c15 c16 : C) : (mAsg [10, 16] [] (bTup [bNm 10, bNm 16]) (mCall [true, true, true, true] g_stepped (mCons (mPl 3) (mCons (mPl 10) (mCons (mTm (mNotE (mCall [true, true] g_law_silent (mCons (mPl 5) (mCons (mPl 13) (mNil)))))) (mCons (mPl 14) (mNil))))))) [c0, c1, c2, .sh Q, c4, .sh S, c6, c7, c8, c9, .sh Z, c11, c12, .sh (.int b), .sh (.int k), c15, c16] = some (.nx, [c0, c1, c2, .sh Q, c4, .sh S, c6, c7, c8, c9, .sh R, c11, c12, .sh (.int b), .sh (.int k), c15, .sh (.tuple ev)]) := by
  cases v <;> (simp only [Bool.not_true, Bool.not_false] at f2; walk_at "es")
theorem lm_8 {F ev : List PyData} {b N : Int} (hev : ∀ d ∈ ev, EvN N d) (hz : F.length + ev.length ≤ 16777216) (c0 c1 c2 c3 c4 c5 c6 c7 c8 c9 c10 c12 c14 c15 : C) : (mExt 11 (mLc (mSrc itemsD (mCons (mTm (mVar 16)) mNil)) (bNm 9) (mYes) (mB (binD .Add) (mTm (mTup (mCons (mPl 13) (mNil)))) (mPl 9)) [9])) [c0, c1, c2, c3, c4, c5, c6, c7, c8, c9, c10, .ls F, c12, .sh (.int b), c14, c15, .sh (.tuple ev)] = some (.nx, [c0, c1, c2, c3, c4, c5, c6, c7, c8, c9, c10, .ls (F ++ ev.map (evB b)), c12, .sh (.int b), c14, c15, .sh (.tuple ev)]) := by
  have key : mLc (mSrc itemsD (mCons (mTm (mVar 16)) mNil)) (bNm 9) (mYes) (mB (binD .Add) (mTm (mTup (mCons (mPl 13) (mNil)))) (mPl 9)) [9] [c0, c1, c2, c3, c4, c5, c6, c7, c8, c9, c10, .ls F, c12, .sh (.int b), c14, c15, .sh (.tuple ev)] = some (.ls (ev.map (evB b)), [c0, c1, c2, c3, c4, c5, c6, c7, c8, c9, c10, .ls F, c12, .sh (.int b), c14, c15, .sh (.tuple ev)]) := by
    refine mLc_enc id (evB b) (xs := ev) (ws := []) (c0 := c9) ?_ rfl ?_ (by rw [sizeLine_eq]; omega)
    · rw [List.map_id]
      clear hev hz
      walk_at "ev"
    · intro d hd
      obtain ⟨n, w, x, rfl, _⟩ := hev d hd
      refine ⟨.sh (.tuple [.int b, .int n, .str w, x]), ?_, rfl⟩
      clear hev hz hd
      unfold evD
      walk_at "ev"
  have hz2 : F.length + (ev.map (evB b)).length ≤ 16777216 := by rw [List.length_map]; exact hz
  generalize ev.map (evB b) = ev2 at *
  generalize mLc _ (bNm 9) mYes _ [9] = ML at *
  clear hev hz
  unfold mExt
  walk_at "es"
theorem lm_9 {n k : Int} (c0 c1 c2 c3 c4 c5 c6 c7 c8 c9 c10 c11 c13 c15 c16 : C) : (mSet [] 12 (mB (binD .Add) (mPl 12) (mPl 14))) [c0, c1, c2, c3, c4, c5, c6, c7, c8, c9, c10, c11, .sh (.int n), c13, .sh (.int k), c15, c16] = some (.nx, [c0, c1, c2, c3, c4, c5, c6, c7, c8, c9, c10, c11, .sh (.int (n + k)), c13, .sh (.int k), c15, c16]) := by
  walk_at "es"
theorem lm_10 {E B : List PyData} {z0 z2 z3 z4 : PyData} (f : cmpD .NotEq (.tuple E) (.tuple E) = some (.sh (.bool false))) (hE : E.length ≤ 16777216) (c0 c1 c2 c3 c5 c7 c8 c9 c13 c14 c15 c16 : C) : (mIf (mOrT (mTst (mB (cmpD .NotEq) (mTm (mOp (Bf.f .tuple) (mCons (mPl 11) (mNil)))) (mPl 6))) (mOrT (mTst (mB (cmpD .NotEq) (mTm (mB ixD (mPl 10) (mTm (mK (.int 1))))) (mTm (mTup (mNil))))) (mTst (mB (cmpD .NotEq) (mPl 12) (mTm (mOp (Bf.f .len) (mCons (mPl 4) (mNil)))))))) (mSeq (mRet (mK (.bool false))) (mSkip)) (mSkip)) [c0, c1, c2, c3, .sh (.tuple B), c5, .sh (.tuple E), c7, c8, c9, .sh (.tuple [z0, .tuple [], z2, z3, z4]), .ls E, .sh (.int (B.length : Nat)), c13, c14, c15, c16] = some (.nx, [c0, c1, c2, c3, .sh (.tuple B), c5, .sh (.tuple E), c7, c8, c9, .sh (.tuple [z0, .tuple [], z2, z3, z4]), .ls E, .sh (.int (B.length : Nat)), c13, c14, c15, c16]) := by
  have f2 : cmpD .NotEq (.tuple []) (.tuple []) = some (.sh (.bool false)) := ne_selfB (by decide)
  have f3 : cmpD .NotEq (.int (B.length : Nat)) (.int (B.length : Nat)) = some (.sh (.bool false)) := ne_selfB (by rw [shaped_lay]; exact lay_int _ _)
  generalize cmpD .NotEq = CN at *
  generalize hb : ((B.length : Nat) : Int) = n at *
  walk_at "es"
theorem fmax : ∀ (xs : List Int) (x : Int), x ≤ xs.foldl max x ∧ (∀ y ∈ xs, y ≤ xs.foldl max x) ∧ (xs.foldl max x = x ∨ xs.foldl max x ∈ xs)
  | [], x => ⟨Int.le_refl _, (fun y hy => by cases hy), .inl rfl⟩
  | u :: xs, x => by
    obtain ⟨h1, h2, h3⟩ := fmax xs (max x u)
    simp only [List.foldl_cons]
    refine ⟨by omega, fun y hy => ?_, ?_⟩
    · rcases List.mem_cons.mp hy with rfl | hy
      · omega
      · exact h2 y hy
    · rcases h3 with h | h
      · rw [h]
        by_cases c : u ≤ x
        · exact .inl (Int.max_eq_left c)
        · rw [Int.max_eq_right (by omega)]
          exact .inr List.mem_cons_self
      · exact .inr (List.mem_cons_of_mem _ h)
theorem shaped_ev {E : List PyData} {N : Int} (h : ∀ d ∈ E, EvB N d) : SeqAt.shaped (.tuple E) = true := by
  rw [shaped_lay, lay_tup _ (by decide), List.all_eq_true]
  intro d hd
  obtain ⟨b, n, w, x, rfl, -, -, -, -, hw, hx⟩ := h d hd
  cases hw <;> cases hx <;> simp [lay_tup, lay_int, lay_str, lay_none] <;> decide +kernel
theorem law_true (ns : List Int) (hl : ns.length ≤ 63) : ∃ cs', semF [false] 17 m_law [.sh (.list (ns.map PyData.int))] = some (.sh (.bool true), cs') := by
  have main : Rt (semF [false] 17 m_law [.sh (.list (ns.map PyData.int))]) fun c _ => c = .sh (.bool true) := by
    unfold m_law
    apply rt_sem rfl
    apply wx_seq
    apply wx_each (ds := (PyData.int (ns.getD 0 0)) :: (L2.M.cutL ns (some 1) (some 2)).map PyData.int) (ε1 := [.sh (.list (ns.map PyData.int)), .no, .no, .no, .no, .no, .no, .no, .no, .no, .no, .no, .no, .no, .no, .no, .no]) fun ε => ∃ c1 c2 c3 c4 c5 c6 c7 c8 c9 c10 c11 c12 c13 c14 c15 c16, ε = [.sh (.list (ns.map PyData.int)), c1, c2, c3, c4, c5, c6, c7, c8, c9, c10, c11, c12, c13, c14, c15, c16]
    · have hz := cut_len ns (some 1) (some 2)
      have h6 : 1 + (L2.M.cutL ns (some 1) (some 2)).length ≤ 16777216 := by omega
      have h7 : (L2.M.cutL ns (some 1) (some 2)).length + 1 ≤ 16777216 := by omega
      have h8 : (L2.M.cutL ns (some 1) (some 2)).length ≤ 16777215 := by omega
      have h9 := @cut_map
      walk_at "es"
    · exact ⟨_, _, _, _, _, _, _, _, _, _, _, _, _, _, _, _, rfl⟩
    · rintro d ε hd ⟨c1, c2, c3, c4, c5, c6, c7, c8, c9, c10, c11, c12, c13, c14, c15, c16, rfl⟩
      obtain ⟨x, rfl⟩ := cells_int ns 2 d hd
      clear hd hl
      generalize hsc : C.sh (PyData.list (ns.map PyData.int)) = sc
      clear hsc
      refine ⟨_, rfl, ?_⟩
      walk_at "nx"
      obtain ⟨_, _, e1, q, A, st, p1, hq, hA, lA, lst, hos, rfl, rfl⟩ := law_played_eq (pnOf x)
      apply wx_nx (lm_1 e1 _ _ _ _ _ _ _ _ _ _ _ _ _ _ _ _)
      clear e1
      have f1 := gone_eq hq.ok hA hq.Z1 st (by omega)
      have f5 : ∀ d ∈ goE q (fun b => !sil st b) A, EvB A.length d := gst_ev hq.ok hA hq.Z1 _ 2002
      have f6 : (goE q (fun b => !sil st b) A).length ≤ 2002 * 2000 := gst_len hq.ok hA hq.Z1 _ 2002
      apply wx_nx (lm_2 f1 _ _ _ _ _ _ _ _ _ _ _ _ _ _)
      clear f1
      apply wx_nx (lm_3 (fun d hd => by
        obtain ⟨b, n, w, y, rfl, _⟩ := f5 d hd
        exact ⟨b, _, _, _, rfl⟩) (by omega) _ _ _ _ _ _ _ _ _ _ _ _ _ _ _ _)
      obtain ⟨m1, m2, m3⟩ := fmax ((goE q (fun b => !sil st b) A).map evb) 0
      have m4 : ((goE q (fun b => !sil st b) A).map evb).foldl max 0 ≤ 2001 := by
        rcases m3 with m3 | m3
        · omega
        · obtain ⟨d, hd, e⟩ := List.mem_map.mp m3
          obtain ⟨b, n, w, y, rfl, _, hb, _⟩ := f5 d hd
          rw [← e]
          exact hb
      obtain ⟨L, hL⟩ : ∃ L : Nat, (L : Int) = ((goE q (fun b => !sil st b) A).map evb).foldl max 0 := ⟨_, Int.toNat_of_nonneg m1⟩
      rw [← hL] at m2 m4 ⊢
      clear m1 m3 hL
      obtain ⟨k1, k2, k3⟩ := zb_end hq.ok hA hq.Z1 (fun b => !sil st b) (L := L) (fun d hd b n w y e => by
        subst e
        exact m2 b (List.mem_map.mpr ⟨_, hd, rfl⟩))
      have hz0 : (zb q (fun _ => true) [] 0).1 = (zb q (fun b => !sil st b) A 0).1 := by rw [zb_0, zb_0]
      apply wx_nx (lm_4 _ _ _ _ _ _ _ _ _ _ _ _ _ _ _ _)
      rw [hz0]
      clear hz0
      have hsh := ne_selfB (shaped_ev f5)
      have zk := fun t : Nat => zk_all hq.ok hA hq.Z1 (fun b => !sil st b) t
      have sil := fun b : Int => law_silent_eq st b (by omega)
      have hn0 : (zb q (fun b => !KW.sil st b) A 0).1.n = 0 := by rw [zb_0]
      have hn1 : (zb q (fun b => !KW.sil st b) A 0).2 = [] := by rw [zb_0]
      have hlen : ∀ t : Nat, t ≤ 5000 → (zb q (fun b => !KW.sil st b) A t).2.length ≤ t * 24 := by
        intro t
        induction t with
        | zero => intro _; rw [hn1]; simp
        | succ t ih =>
          intro ht
          have := ih (by omega)
          rw [zb_s, List.length_append, List.length_map]
          have h1 := (nxS_len q (!KW.sil st t) (zb q (fun b => !KW.sil st b) A t).1 (cnt A t)).2
          have h2 := (zk t).l
          have h3 := (zk t).n1
          have h4 := cnt_le A t
          omega
      apply wx_seq
      have hrng : rng1D [PyData.int ((L : Int) + 2)] = some (rangeD 0 1 (L + 2)) := rng_nat0 (k := L + 2) _ (by push_cast; rfl) ⟨by omega, by omega⟩
      have hC : (bsD A).length = A.length := by simp [bsD]
      apply wx_for (ds := rangeD 0 1 (L + 2)) (ws := []) (ε1 := [sc, .sh (.int x), .ls (penL p1), .sh q.d, .sh (.tuple (bsD A)), .sh (stD st), .sh (.tuple (goE q (fun b => !KW.sil st b) A)), .sh (.tuple (goN q (fun b => !KW.sil st b) A)), .sh (.int L), c9, .sh (zb q (fun b => !KW.sil st b) A 0).1.d, .ls [], .sh (.int 0), c13, c14, c15, c16]) fun i ε => ∃ c13 c14 c16, ε = [sc, .sh (.int x), .ls (penL p1), .sh q.d, .sh (.tuple (bsD A)), .sh (stD st), .sh (.tuple (goE q (fun b => !KW.sil st b) A)), .sh (.tuple (goN q (fun b => !KW.sil st b) A)), .sh (.int L), c9, .sh (zb q (fun b => !KW.sil st b) A i).1.d, .ls (zb q (fun b => !KW.sil st b) A i).2, .sh (.int (zb q (fun b => !KW.sil st b) A i).1.n), c13, c14, c15, c16]
      · refine src_f (d := .int ((L : Int) + 2)) ?_ hrng
        clear k1 k2 k3 hsh zk sil hn0 hn1 hlen hrng f5 f6 m2 m4 hC hq hA lA lst hos
        generalize goE q (fun b => !KW.sil st b) A = E
        generalize goN q (fun b => !KW.sil st b) A = N
        generalize (zb q (fun b => !KW.sil st b) A 0).1.d = Z
        generalize (L : Int) = l
        generalize bsD A = B
        walk_at "ev"
      · rfl
      · exact ⟨_, _, _, by rw [hn0, hn1]⟩
      · intro i ε _ j hj
        cases hj
      · rintro i d ε hd ⟨c13, c14, c16, rfl⟩
        have hi : i < L + 2 := by
          have := (List.getElem?_eq_some_iff.mp hd).1
          simpa [rangeD] using this
        have hdi : d = .int (i : Int) := by
          obtain ⟨h1, h2⟩ := List.getElem?_eq_some_iff.mp hd
          rw [← h2]
          simp [rangeD]
        subst hdi
        clear hd hrng
        refine ⟨_, rfl, ?_⟩
        have zi := zk i
        apply wx_nx (lm_5 (stands_eq hq.c1 hq.Z1 hq.ok.k (by omega) (by omega) zi) _ _ _ _ _ _ _ _ _ _ _ _ _)
        apply wx_nx (lm_6 A (by omega) _ _ _ _ _ _ _ _ _ _ _ _ _ _ _ _)
        have s1 := stepped_eq hq.ok (!KW.sil st i) (zb q (fun b => !KW.sil st b) A i).1 (by rw [zi.at_]; omega) (by rw [zi.at_]; omega) zi.ok (by have := zi.l; have := zi.n1; omega) (cnt A i) (by have := cnt_le A i; omega)
        apply wx_nx (lm_7 (sil i) s1 _ _ _ _ _ _ _ _ _ _ _ _)
        have hE2 : ∀ d ∈ nxE q (!KW.sil st i) (zb q (fun b => !KW.sil st b) A i).1 (cnt A i), EvN A.length d := by
          obtain ⟨j, r1, r2, r3⟩ := zb_rel hq.ok hA hq.Z1 (fun b => !KW.sil st b) i
          have hs : (zb q (fun b => !KW.sil st b) A (i + 1)).1.n ≤ A.length := (zk (i + 1)).n1
          rw [zb_s] at hs
          dsimp only at hs
          rw [nxS_n] at hs
          rw [r3] at hs ⊢
          intro d hd
          exact (nxE_n (gi_all hq.ok hA hq.Z1 _ j) i _ _ d hd).up hs
        have ez : zb q (fun b => !KW.sil st b) A (i + 1) = (nxS q (!KW.sil st i) (zb q (fun b => !KW.sil st b) A i).1 (cnt A i), (zb q (fun b => !KW.sil st b) A i).2 ++ (nxE q (!KW.sil st i) (zb q (fun b => !KW.sil st b) A i).1 (cnt A i)).map (evB i)) := zb_s _ _ _ _
        have hle := hlen i (by omega)
        have hle2 := (nxS_len q (!KW.sil st i) (zb q (fun b => !KW.sil st b) A i).1 (cnt A i)).2
        apply wx_nx (lm_8 hE2 (by have := zi.l; have := zi.n1; have := cnt_le A i; omega) _ _ _ _ _ _ _ _ _ _ _ _ _ _)
        refine wx_nx (lm_9 _ _ _ _ _ _ _ _ _ _ _ _ _ _ _) (wx_skip ?_)
        rw [ez]
        dsimp only
        rw [nxS_n]
        exact ⟨_, _, _, rfl⟩
      · rintro ε ⟨c13, c14, c16, rfl⟩
        have hle : (rangeD 0 1 (L + 2)).length = L + 2 := by simp [rangeD]
        rw [hle, k1, k3, ← hC]
        have ed : (zb q (fun b => !KW.sil st b) A (L + 2)).1.d = .tuple [.int (zb q (fun b => !KW.sil st b) A (L + 2)).1.t, .tuple [], .int (zb q (fun b => !KW.sil st b) A (L + 2)).1.c, (zb q (fun b => !KW.sil st b) A (L + 2)).1.s.d, .int (zb q (fun b => !KW.sil st b) A (L + 2)).1.n] := by
          unfold Sd.d
          rw [k2]
          rfl
        rw [ed]
        exact wx_nx (lm_10 hsh (by omega) _ _ _ _ _ _ _ _ _ _ _ _) (wx_skip ⟨_, _, _, _, _, _, _, _, _, _, _, _, _, _, _, _, rfl⟩)
    rintro ε ⟨c1, c2, c3, c4, c5, c6, c7, c8, c9, c10, c11, c12, c13, c14, c15, c16, rfl⟩
    apply wx_rt
    · walk_at "ev"
      exact ⟨rfl, rfl⟩
    exact rfl
  obtain ⟨c, cs, e, rfl⟩ := main
  exact ⟨cs, e⟩
end KW
namespace KW
open PySem PySem.Spec PyProof.Rows L2 L2.M
abbrev R : PySem.W.OpenRow := PySem.W.OpenLaw.row PySem.Challenge.rw_knockpurse_k70_whole_beat_by_beat_alike
abbrev hk : PySem.W.Hook := He.hookD 4 fa fn
def ob (s : PySem.W.SharedT) : He.AlD := He.obsDG 4 fa fn (HandSHeadRun.getT s)
theorem ob_eq (s : PySem.W.SharedT) : ob s = hk.obs s.abs := He.obsDG_eq (HandSHeadRun.getT_eq s)
theorem run (w : World) : HandSHeadRun.RunEq R (PySem.W.view R.prog [38]) hk ob 2740 ((["is_whole", "is_from_to", "first_gap", "next_gap", "growing", "gap_at", "silent_at", "standing_good", "lets", "heard", "first_of", "stepped", "next_beat", "events_of", "gone", "_law_cell_at", "_law_next", "_law_pen_of", "_law_draw", "_law_row", "_law_purse", "_law_gate", "_law_caller", "_law_askings", "_law_outage"] : List PySem.Str) ++ (["_law_played", "_law_silent", "_law_stands", "MOST_UNTIL", "KnockError", "NoStep", "Beat"] : List PySem.Str)) w := by
  intro os
  kernel_rfl
end KW
open PySem PySem.W PySem.Calls PyProof.Rows
theorem PySem.Challenge.cw_knockpurse_k70_whole_beat_by_beat_alike_holds : PySem.Challenge.rw_knockpurse_k70_whole_beat_by_beat_alike.Holds := by
  w_on; o_law
  refine HandSHeadRun.head_any (r := OpenLaw.row PySem.Challenge.rw_knockpurse_k70_whole_beat_by_beat_alike) (q := view (OpenLaw.row PySem.Challenge.rw_knockpurse_k70_whole_beat_by_beat_alike).prog [38]) (H := KW.hk) (ob := KW.ob) (M := 2740) (loose := ((["is_whole", "is_from_to", "first_gap", "next_gap", "growing", "gap_at", "silent_at", "standing_good", "lets", "heard", "first_of", "stepped", "next_beat", "events_of", "gone", "_law_cell_at", "_law_next", "_law_pen_of", "_law_draw", "_law_row", "_law_purse", "_law_gate", "_law_caller", "_law_askings", "_law_outage"] : List PySem.Str) ++ (["_law_played", "_law_silent", "_law_stands", "MOST_UNTIL", "KnockError", "NoStep", "Beat"] : List PySem.Str))) (d := HandSHeadRun.topDef (OpenLaw.row PySem.Challenge.rw_knockpurse_k70_whole_beat_by_beat_alike).prog 38) (kwd := []) KW.ob_eq
    (by kernel_rfl) (fun s => by kernel_rfl) KW.run (by kernel_rfl) (by kernel_rfl) (by kernel_rfl) (by rfl) (by first | assumption | decide +kernel) (by decide +kernel) ⟨rfl, rfl, rfl, rfl, rfl, by decide +kernel⟩ ?hw ?hc
  case hw => w_witness2
  case hc =>
    refine L2.M.walkG (l := PySem.Challenge.rw_knockpurse_k70_whole_beat_by_beat_alike) (n := 63) (k := 11) (x := "_law_script") rfl (by decide) (by kernel_rfl) ⟨⟨rfl, by decide, by decide⟩, rfl⟩ ?F
    intro w mg fa h Y G hmg0
    obtain ⟨K, KX, c⟩ := Y
    have hmg : mg ("law" : PySem.Str) = some (.ref fa) := by
      have e : (HandSHeadRun.topDef (OpenLaw.row PySem.Challenge.rw_knockpurse_k70_whole_beat_by_beat_alike).prog 38).name = ("law" : PySem.Str) := by kernel_rfl
      rw [← e]
      exact hmg0
    obtain ⟨fd, hb, hF⟩ := L2.M.topG (P := (PySem.Challenge.rw_knockpurse_k70_whole_beat_by_beat_alike).prog) (w := w) ⟨h, KX, G, c⟩ 33 28 (k := 10) (m := KW.m_law) rfl rfl rfl KW.pl_law KW.sc_law hmg (fun base => KW.bd_law ⟨h, KX, G, c⟩)
    exact ⟨K, fd, _, KX, hb, fun H a ns hl O hS => L2.M.sp_law O hS (KW.law_true ns hl), hF⟩
