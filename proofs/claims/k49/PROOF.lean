import PyProof.Rows.All
import Wide.All
import OpenK.AllK
import Wide.FinOn
import KE.KStateDown
import HandS.Base
import HandS.Call
import HandS.Ends
import HandS.More
import HandS.Words
import HandS.WordsExc
import HandS.Defaults
import HandS.Head0
import HandS.Head1
import HandS.Head2
import HandS.HeadEnd
import HandS.HeadHook1
import HandS.HeadHook2
import HandS.ForMost
import HandS.IsInst
import KE.KDictKeyed
import HandS.TupAny
import HandS.TupMul
import HandS.Style
import HandS.Wide
import HandS.Deep
import HandS.SortInts
import HandS.RaiseMore
import HandS.WideBits
import KE.KEqNest
import HandS.Walk
import HandS.ExcCtx
import HandS.Dict
import HandS.Zip
import KE.GoesEnum
import KE.KSortTupG
import HandS.TupSets
import HandS.Conv
import HandS.TryOnly
import HandS.Small
import HandS.ExcIs
import HandS.ExcField
import HandS.HotCalls
import HandS.ExcInit
import HandS.Flow
import HandS.SetFor
import HandS.Rev
import HandS.WordsDict
import HandS.Iter
import KE.KDictLaw
import KE.KDictCopyH
import KE.KDictDisplayH
import KE.DataCmp
import KE.DataMinMax
import KE.SortData
import KE.KDictPairs
import HandS.Text
import HandS.Steps
import HandS.Replace
import HandS.ReplaceLit
import HandS.ReplaceDef
import KE.KEqDict
import PyProof.SeqIndex
import HandS.DeepEq
import PyProof.NeKinds
import KE.KDictList
import Flt.Ops
import PyProof.ListStr
import KE.KTupSum
import KE.KIntText
import PySem.Challenge.RW_knockpurse_k49_gates_that_keep_their_sta
set_option Elab.async false
set_option linter.all false
set_option maxRecDepth 100000
set_option maxHeartbeats 0
namespace L2.M
open PySem PySem.Spec PyProof.Rows
abbrev D := PyData
def keyD : Key → D
  | .inl i => .int i
  | .inr x => .str x
/-- a tuple, known to have no dict of its own -/
def HdT (F : Hp) (a : Addr) (xs : List V) : Prop := ∃ o : Obj, o.dict = none ∧ F a = some (.frz o (.tup xs))
theorem HdT.sq {K : PySem.W.Frag} {F : Hp} {a : Addr} {xs : List V} (h : HdT F a xs) : SqT K F a xs := by
  obtain ⟨o, _, h⟩ := h
  exact .inl (.inr ⟨o, h⟩)
theorem HdT.mono {F F' : Hp} {a : Addr} {xs : List V} (e : Same F F') (h : HdT F a xs) : HdT F' a xs := by
  obtain ⟨o, h1, h⟩ := h
  exact ⟨o, h1, e _ _ h⟩
mutual
def Rep (K : PySem.W.Frag) (F : Hp) : V → D → Prop
  | v, .none => v = .non
  | v, .bool b => v = .bl b
  | v, .int i => v = .int i
  | v, .str x => v = .str x
  | v, .list ds => ∃ a vs, v = .ref a ∧ SqL K F a vs ∧ Reps K F vs ds
  | v, .tuple ds => ∃ a vs, v = .ref a ∧ HdT F a vs ∧ Reps K F vs ds
  | v, .dict kds => ∃ a kvs, v = .ref a ∧ F a = some (.dK kvs) ∧ RepKs K F kvs kds
def Reps (K : PySem.W.Frag) (F : Hp) : List V → List D → Prop
  | vs, [] => vs = []
  | vs, d :: ds => ∃ v r, vs = v :: r ∧ Rep K F v d ∧ Reps K F r ds
def RepKs (K : PySem.W.Frag) (F : Hp) : List (Key × V) → List (D × D) → Prop
  | kvs, [] => kvs = []
  | kvs, (k, d) :: kds => ∃ key v r, kvs = (key, v) :: r ∧ k = keyD key ∧ Rep K F v d ∧ RepKs K F r kds
end
theorem sameL {K : PySem.W.Frag} {H H' : Hp} {a : Addr} {xs : List V} (e : Same H H') (h : SqL K H a xs) : SqL K H' a xs := e.seq h
theorem sameT {K : PySem.W.Frag} {H H' : Hp} {a : Addr} {xs : List V} (e : Same H H') (h : SqT K H a xs) : SqT K H' a xs := by
  rcases h with (h | ⟨o, h⟩) | h
  · exact .inl (.inl (e _ _ h))
  · exact .inl (.inr ⟨o, e _ _ h⟩)
  · exact .inr h
section
variable {K : PySem.W.Frag} {F F' : Hp}
mutual
theorem Rep.mono (e : Same F F') : ∀ (d : D) (v : V), Rep K F v d → Rep K F' v d
  | .none, v, h => h
  | .bool b, v, h => h
  | .int b, v, h => h
  | .str b, v, h => h
  | .list ds, v, ⟨a, vs, h1, h2, h3⟩ => ⟨a, vs, h1, sameL e h2, Reps.mono e ds vs h3⟩
  | .tuple ds, v, ⟨a, vs, h1, h2, h3⟩ => ⟨a, vs, h1, h2.mono e, Reps.mono e ds vs h3⟩
  | .dict kds, v, ⟨a, vs, h1, h2, h3⟩ => ⟨a, vs, h1, e _ _ h2, RepKs.mono e kds vs h3⟩
theorem Reps.mono (e : Same F F') : ∀ (ds : List D) (vs : List V), Reps K F vs ds → Reps K F' vs ds
  | [], vs, h => h
  | d :: ds, vs, ⟨v, r, h1, h2, h3⟩ => ⟨v, r, h1, Rep.mono e d v h2, Reps.mono e ds r h3⟩
theorem RepKs.mono (e : Same F F') : ∀ (ds : List (D × D)) (vs : List (Key × V)), RepKs K F vs ds → RepKs K F' vs ds
  | [], vs, h => h
  | (k, d) :: ds, vs, ⟨key, v, r, h1, h0, h2, h3⟩ => ⟨key, v, r, h1, h0, Rep.mono e d v h2, RepKs.mono e ds r h3⟩
end
theorem Reps.length : ∀ {ds : List D} {vs : List V}, Reps K F vs ds → vs.length = ds.length
  | [], vs, h => by cases (show vs = [] from h); rfl
  | d :: ds, vs, ⟨v, r, h1, h2, h3⟩ => by subst h1; simp [Reps.length h3]
theorem Reps.get : ∀ {ds : List D} {vs : List V} {i : Nat} {d : D}, Reps K F vs ds → ds[i]? = some d → ∃ v, vs[i]? = some v ∧ Rep K F v d
  | [], vs, i, d, h, e => by simp at e
  | d :: ds, vs, 0, d', ⟨v, r, h1, h2, h3⟩, e => by
    simp at e; subst e; subst h1; exact ⟨v, rfl, h2⟩
  | d :: ds, vs, i + 1, d', ⟨v, r, h1, h2, h3⟩, e => by
    subst h1
    obtain ⟨v', e1, e2⟩ := Reps.get (i := i) h3 (by simpa using e)
    exact ⟨v', by simpa using e1, e2⟩
theorem Reps.append : ∀ {ds es : List D} {vs ws : List V}, Reps K F vs ds → Reps K F ws es → Reps K F (vs ++ ws) (ds ++ es)
  | [], es, vs, ws, h, g => by cases (show vs = [] from h); exact g
  | d :: ds, es, vs, ws, ⟨v, r, h1, h2, h3⟩, g => by subst h1; exact ⟨v, r ++ ws, rfl, h2, Reps.append h3 g⟩
theorem Reps.one {v : V} {d : D} (h : Rep K F v d) : Reps K F [v] [d] := ⟨v, [], rfl, h, rfl⟩
theorem Reps.take : ∀ {ds : List D} {vs : List V} (n : Nat), Reps K F vs ds → Reps K F (vs.take n) (ds.take n)
  | _, _, 0, _ => by simp [Reps]
  | [], vs, n + 1, h => by cases (show vs = [] from h); simp [Reps]
  | d :: ds, vs, n + 1, ⟨v, r, h1, h2, h3⟩ => by subst h1; exact ⟨v, _, rfl, h2, Reps.take n h3⟩
theorem Reps.drop : ∀ {ds : List D} {vs : List V} (n : Nat), Reps K F vs ds → Reps K F (vs.drop n) (ds.drop n)
  | _, _, 0, h => h
  | [], vs, n + 1, h => by cases (show vs = [] from h); simp [Reps]
  | d :: ds, vs, n + 1, ⟨v, r, h1, h2, h3⟩ => by subst h1; exact Reps.drop n h3
theorem Reps.set {v : V} {d : D} (g : Rep K F v d) : ∀ {ds : List D} {vs : List V} (n : Nat), Reps K F vs ds → Reps K F (vs.set n v) (ds.set n d)
  | [], vs, n, h => by cases (show vs = [] from h); simp [Reps]
  | d' :: ds, vs, 0, ⟨v', r, h1, h2, h3⟩ => by subst h1; exact ⟨v, r, rfl, g, h3⟩
  | d' :: ds, vs, n + 1, ⟨v', r, h1, h2, h3⟩ => by subst h1; exact ⟨v', _, rfl, h2, Reps.set g n h3⟩
theorem Reps.reverse : ∀ {ds : List D} {vs : List V}, Reps K F vs ds → Reps K F vs.reverse ds.reverse
  | [], vs, h => by cases (show vs = [] from h); simp [Reps]
  | d :: ds, vs, ⟨v, r, h1, h2, h3⟩ => by
    subst h1
    rw [List.reverse_cons, List.reverse_cons]
    exact Reps.append (Reps.reverse h3) (Reps.one h2)
theorem Reps.replicate {ds : List D} {vs : List V} (h : Reps K F vs ds) : ∀ n : Nat, Reps K F (List.replicate n vs).flatten (List.replicate n ds).flatten
  | 0 => by simp [Reps]
  | n + 1 => by
    rw [List.replicate_succ, List.replicate_succ, List.flatten_cons, List.flatten_cons]
    exact Reps.append h (Reps.replicate h n)
end
inductive Kd where
  | ls | ins (cls : Str) (fs : List Str) | dn (ks : List D) | tp
/-- an error on its way: its class by its name, its fields -/
structure Xn where
  cls : Str
  as : List (Str × D)
inductive C where
  | no | sh (d : D) | ls (ds : List D) | dc (k : Nat) (kvs : List (D × D)) | ob (k : Kd) (cs : List C)
  | px (a : Addr) (cls : Value) (d : Option Addr) (x : Xn)
  | fn (x : Str) | fd (kds : List (D × D)) | fk (kds : List (D × D)) | fz (kks : List (D × List (D × D)))
abbrev Cs := List C
/-- what is written once and for all: the program's fragment, the world -/
abbrev Ek := PySem.W.Frag × World
abbrev _root_.L2.Cx.E (X : Cx) : Ek := (X.K, X.w)
mutual
def nKey : D → Option NestedKey
  | .none => some .none
  | .bool b => some (.num (if b = true then 1 else 0))
  | .int i => some (.num i)
  | .str x => some (.text x)
  | .tuple ds => (nKeys ds).map .tup
  | _ => none
def nKeys : List D → Option (List NestedKey)
  | [] => some []
  | d :: ds => match nKey d, nKeys ds with
    | some k, some ks => some (k :: ks)
    | _, _ => none
end
abbrev NEnt := NestedKey × Addr
def nkE (w : World) (x : NEnt × Value) : DictEntry := ⟨x.1.1.hash w, .ref x.1.2, x.2⟩
/-- a dict whose keys are tuples, nested, told by its object -/
def nkO (w : World) (a : Addr) (xs : List (NEnt × V)) : HO := .ext fun h => xs.length ≤ sizeLine ∧ (a == sysModules) = false ∧ ∃ vs : List (NEnt × Value), Paired (fun (p : NEnt × V) (q : NEnt × Value) => p.1 = q.1 ∧ RelV p.2 q.2) xs vs ∧ ∃ o es ep, h.get? a = some o ∧ o.ExactDict ∧ o.data = .dict es ep ∧ es.toList = vs.map (nkE w) ∧ (xs.map (·.1.1)).Nodup
def KeysN (K : PySem.W.Frag) (F : Hp) : List NEnt → List D → Prop
  | bs, [] => bs = []
  | bs, k :: ks => ∃ b r, bs = b :: r ∧ nKey k = some b.1 ∧ b.1.depth ≤ 8 ∧ Rep K F (.ref b.2) k ∧ KeysN K F r ks
def RepX (K : Ek) (F : Hp) (cls : Value) (d : Option Addr) (x : Xn) : Prop := cls = .ref (He.ga K.1 x.cls) ∧ ((x.as = [] ∧ d = none) ∨ ∃ dx fs, d = some dx ∧ F dx = some (.xd fs) ∧ fs.map (·.1) = x.as.map (·.1) ∧ Reps K.1 F (fs.map (·.2)) (x.as.map (·.2)))
def RepTs (K : PySem.W.Frag) (F : Hp) : List (List Key × V) → List (D × D) → Prop
  | kvs, [] => kvs = []
  | kvs, (k, d) :: kds => ∃ key v r, kvs = (key, v) :: r ∧ k = .tuple (key.map keyD) ∧ Rep K F v d ∧ RepTs K F r kds
/-- a dict of one's own -/
def DcAt (K : PySem.W.Frag) (F H : Hp) (a : Addr) : Nat → List (D × D) → Prop
  | 0, kds => ∃ kvs, H a = some (.dK kvs) ∧ RepKs K F kvs kds
  | 1, kds => ∃ kvs, H a = some (.dT kvs) ∧ RepTs K F kvs kds
  | _, _ => False
def ObAt (K : Ek) (F H : Hp) (a : Addr) (vs : List V) : Kd → Prop
  | .ls => H a = some (.lst vs)
  | .ins x fs => ∃ dx, H a = some (.ins (He.ga K.1 x) dx (fs.zip vs)) ∧ fs.length = vs.length ∧ fs.Nodup
  | .dn ks => ∃ bs : List NEnt, H a = some (nkO K.2 a (bs.zip vs)) ∧ bs.length = vs.length ∧ KeysN K.1 F bs ks ∧ (bs.map (·.1)).Nodup
  | .tp => ∃ o : Obj, o.dict = none ∧ H a = some (.frz o (.tup vs))
def Kd.pl : Kd → Prop
  | .dn _ => False
  | .tp => False
  | _ => True
/-- .. of a thing with places -/
def ObP (K : Ek) (H : Hp) (a : Addr) (vs : List V) : Kd → Prop
  | .ls => H a = some (.lst vs)
  | .ins x fs => ∃ dx, H a = some (.ins (He.ga K.1 x) dx (fs.zip vs)) ∧ fs.length = vs.length ∧ fs.Nodup
  | .dn _ => False
  | .tp => False
theorem ObP.at {K : Ek} {F H : Hp} {a : Addr} {vs : List V} : ∀ {k : Kd}, ObP K H a vs k → ObAt K F H a vs k
  | .ls, h => h
  | .ins _ _, h => h
  | .dn _, h => h.elim
  | .tp, h => h.elim
theorem ObP.pl {K : Ek} {H : Hp} {a : Addr} {vs : List V} : ∀ {k : Kd}, ObP K H a vs k → k.pl
  | .ls, h => trivial
  | .ins _ _, h => trivial
  | .dn _, h => h.elim
  | .tp, h => h.elim
theorem ObAt.p {K : Ek} {F H : Hp} {a : Addr} {vs : List V} : ∀ {k : Kd}, k.pl → ObAt K F H a vs k → ObP K H a vs k
  | .ls, _, h => h
  | .ins _ _, _, h => h
  | .dn _, h, _ => h.elim
  | .tp, h, _ => h.elim
theorem ObP.frame {K : Ek} {H H' : Hp} {a : Addr} {vs : List V} (h' : H' a = H a) : ∀ {k : Kd}, ObP K H a vs k → ObP K H' a vs k
  | .ls, h => h'.trans h
  | .ins _ _, ⟨dx, h2, h3⟩ => ⟨dx, h'.trans h2, h3⟩
  | .dn _, h => h.elim
  | .tp, h => h.elim
/-- a dict with nested keys that is changed no more -/
def FdAt (K : Ek) (F : Hp) (a : Addr) (kds : List (D × D)) : Prop := ∃ od bs vs, F a = some (.frz od (nkO K.2 a (bs.zip vs))) ∧ bs.length = vs.length ∧ KeysN K.1 F bs (kds.map (·.1)) ∧ Reps K.1 F vs (kds.map (·.2))
/-- a dict whose keys are numbers and texts that is changed no more -/
def FkAt (K : Ek) (F : Hp) (a : Addr) (kds : List (D × D)) : Prop := ∃ od kvs, F a = some (.frz od (.dK kvs)) ∧ RepKs K.1 F kvs kds
/-- dicts whose keys are numbers and texts, changed no more -/
def RepFk (K : Ek) (F : Hp) : List V → List (List (D × D)) → Prop
  | vs, [] => vs = []
  | vs, k :: ks => ∃ a r, vs = .ref a :: r ∧ FkAt K F a k ∧ RepFk K F r ks
/-- a dict with nested keys of such, changed no more -/
def FzAt (K : Ek) (F : Hp) (a : Addr) (kks : List (D × List (D × D))) : Prop := ∃ od bs vs, F a = some (.frz od (nkO K.2 a (bs.zip vs))) ∧ bs.length = vs.length ∧ KeysN K.1 F bs (kks.map (·.1)) ∧ RepFk K F vs (kks.map (·.2))
mutual
/-- a cell is held: the addresses that are its own -/
def RpC (K : Ek) (F H : Hp) : Option V → C → List Addr → Prop
  | o, .no, A => A = []
  | o, .sh d, A => A = [] ∧ ∃ v, o = some v ∧ Rep K.1 F v d
  | o, .ls ds, A => ∃ a vs, o = some (.ref a) ∧ A = [a] ∧ H a = some (.lst vs) ∧ Reps K.1 F vs ds
  | o, .dc k kds, A => ∃ a, o = some (.ref a) ∧ A = [a] ∧ DcAt K.1 F H a k kds
  | o, .px a cls d x, A => A = [] ∧ o = some (.ref a) ∧ RepX K F cls d x
  | o, .fn x, A => A = [] ∧ o = some (.ref (He.ga K.1 x))
  | o, .fd kds, A => A = [] ∧ ∃ a, o = some (.ref a) ∧ FdAt K F a kds
  | o, .fk kds, A => A = [] ∧ ∃ a, o = some (.ref a) ∧ FkAt K F a kds
  | o, .fz kks, A => A = [] ∧ ∃ a, o = some (.ref a) ∧ FzAt K F a kks
  | o, .ob k cs, A => ∃ a vs fs, o = some (.ref a) ∧ A = a :: fs.flatten ∧ ObAt K F H a vs k ∧ RpCs K F H (vs.map some) cs fs
def RpCs (K : Ek) (F H : Hp) : List (Option V) → List C → List (List Addr) → Prop
  | os, [], fs => os = [] ∧ fs = []
  | os, c :: cs, fs => ∃ o r f fr, os = o :: r ∧ fs = f :: fr ∧ RpC K F H o c f ∧ RpCs K F H r cs fr
end
section
variable {K : Ek} {F F' H H' : Hp}
theorem RepTs.mono (e : Same F F') : ∀ (ds : List (D × D)) (vs : List (List Key × V)), RepTs K.1 F vs ds → RepTs K.1 F' vs ds
  | [], vs, h => h
  | (k, d) :: ds, vs, ⟨key, v, r, h1, h0, h2, h3⟩ => ⟨key, v, r, h1, h0, Rep.mono e d v h2, RepTs.mono e ds r h3⟩
theorem RepX.mono {cls : Value} {d : Option Addr} {x : Xn} (e : Same F F') (h : RepX K F cls d x) : RepX K F' cls d x := by
  obtain ⟨h1, h2 | ⟨dx, fs, h2, h3, h4, h5⟩⟩ := h
  · exact ⟨h1, .inl h2⟩
  · exact ⟨h1, .inr ⟨dx, fs, h2, e _ _ h3, h4, Reps.mono e _ _ h5⟩⟩
theorem DcAt.frame (e : Same F F') {a : Addr} (h' : H' a = H a) : ∀ {k : Nat} {kds : List (D × D)}, DcAt K.1 F H a k kds → DcAt K.1 F' H' a k kds
  | 0, kds, ⟨kvs, h1, h2⟩ => ⟨kvs, h'.trans h1, RepKs.mono e _ _ h2⟩
  | 1, kds, ⟨kvs, h1, h2⟩ => ⟨kvs, h'.trans h1, RepTs.mono e _ _ h2⟩
  | _ + 2, kds, h => h
theorem DcAt.live {a : Addr} : ∀ {k : Nat} {kds : List (D × D)}, DcAt K.1 F H a k kds → H a ≠ none
  | 0, kds, ⟨kvs, h1, h2⟩ => by rw [h1]; exact fun z => nomatch z
  | 1, kds, ⟨kvs, h1, h2⟩ => by rw [h1]; exact fun z => nomatch z
  | _ + 2, kds, h => h.elim
theorem KeysN.mono (e : Same F F') : ∀ {ks : List D} {bs : List NEnt}, KeysN K.1 F bs ks → KeysN K.1 F' bs ks
  | [], bs, h => h
  | k :: ks, bs, ⟨b, r, h1, h2, h3, h4, h5⟩ => ⟨b, r, h1, h2, h3, Rep.mono e _ _ h4, KeysN.mono e h5⟩
theorem ObAt.frame (e : Same F F') {a : Addr} {vs : List V} (h' : H' a = H a) : ∀ {k : Kd}, ObAt K F H a vs k → ObAt K F' H' a vs k
  | .ls, h => h'.trans h
  | .ins _ _, ⟨dx, h2, h3⟩ => ⟨dx, h'.trans h2, h3⟩
  | .dn _, ⟨bs, h2, h3, h4, h5⟩ => ⟨bs, h'.trans h2, h3, h4.mono (K := K) e, h5⟩
  | .tp, ⟨o, h1, h2⟩ => ⟨o, h1, h'.trans h2⟩
theorem ObAt.live {a : Addr} {vs : List V} : ∀ {k : Kd}, ObAt K F H a vs k → H a ≠ none
  | .ls, h => by rw [show H a = _ from h]; exact fun z => nomatch z
  | .ins _ _, ⟨dx, h2, h3⟩ => by rw [h2]; exact fun z => nomatch z
  | .dn _, ⟨bs, h2, _⟩ => by rw [h2]; exact fun z => nomatch z
  | .tp, ⟨o, _, h2⟩ => by rw [h2]; exact fun z => nomatch z
theorem FkAt.mono (e : Same F F') {a : Addr} {kds : List (D × D)} (h : FkAt K F a kds) : FkAt K F' a kds := by
  obtain ⟨od, kvs, h1, h2⟩ := h
  exact ⟨od, kvs, e _ _ h1, RepKs.mono e _ _ h2⟩
theorem FdAt.mono (e : Same F F') {a : Addr} {kds : List (D × D)} (h : FdAt K F a kds) : FdAt K F' a kds := by
  obtain ⟨od, bs, vs, h1, h2, h3, h4⟩ := h
  exact ⟨od, bs, vs, e _ _ h1, h2, h3.mono (K := K) e, Reps.mono e _ _ h4⟩
theorem RepFk.mono (e : Same F F') : ∀ {ks : List (List (D × D))} {vs : List V}, RepFk K F vs ks → RepFk K F' vs ks
  | [], vs, h => h
  | k :: ks, vs, ⟨a, r, h1, h2, h3⟩ => ⟨a, r, h1, h2.mono e, RepFk.mono e h3⟩
theorem FzAt.mono (e : Same F F') {a : Addr} {kks : List (D × List (D × D))} (h : FzAt K F a kks) : FzAt K F' a kks := by
  obtain ⟨od, bs, vs, h1, h2, h3, h4⟩ := h
  exact ⟨od, bs, vs, e _ _ h1, h2, h3.mono (K := K) e, h4.mono e⟩
mutual
theorem RpC.frame (e : Same F F') : ∀ {c : C} {o : Option V} {A : List Addr}, (∀ b ∈ A, H' b = H b) → RpC K F H o c A → RpC K F' H' o c A
  | .no, o, A, k, h => h
  | .sh d, o, A, k, ⟨h1, v, h2, h3⟩ => ⟨h1, v, h2, Rep.mono e _ _ h3⟩
  | .ls ds, o, A, k, ⟨a, vs, h1, h2, h3, h4⟩ => ⟨a, vs, h1, h2, (k a (by rw [h2]; exact List.mem_cons_self)).trans h3, Reps.mono e _ _ h4⟩
  | .dc n kds, o, A, k, ⟨a, h1, h2, h3⟩ => ⟨a, h1, h2, DcAt.frame e (k a (by rw [h2]; exact List.mem_cons_self)) h3⟩
  | .px a cls d x, o, A, k, ⟨h1, h2, h3⟩ => ⟨h1, h2, h3.mono e⟩
  | .fn x, o, A, k, h => h
  | .fd kds, o, A, k, ⟨h1, a, h2, h3⟩ => ⟨h1, a, h2, h3.mono e⟩
  | .fk kds, o, A, k, ⟨h1, a, h2, h3⟩ => ⟨h1, a, h2, h3.mono e⟩
  | .fz kds, o, A, k, ⟨h1, a, h2, h3⟩ => ⟨h1, a, h2, h3.mono e⟩
  | .ob n cs, o, A, k, ⟨a, vs, fs, h1, h2, h3, h4⟩ => ⟨a, vs, fs, h1, h2, ObAt.frame e (k a (by rw [h2]; exact List.mem_cons_self)) h3, RpCs.frame e (fun b hb => k b (by rw [h2]; exact List.mem_cons_of_mem _ hb)) h4⟩
theorem RpCs.frame (e : Same F F') : ∀ {cs : List C} {os : List (Option V)} {fs : List (List Addr)}, (∀ b ∈ fs.flatten, H' b = H b) → RpCs K F H os cs fs → RpCs K F' H' os cs fs
  | [], os, fs, k, h => h
  | c :: cs, os, fs, k, ⟨o, r, f, fr, h1, h2, h3, h4⟩ => ⟨o, r, f, fr, h1, h2, RpC.frame e (fun b hb => k b (by rw [h2]; simp [hb])) h3, RpCs.frame e (fun b hb => k b (by rw [h2, List.flatten_cons]; exact List.mem_append_right _ hb)) h4⟩
end
mutual
theorem RpC.live : ∀ {c : C} {o : Option V} {A : List Addr}, RpC K F H o c A → ∀ b ∈ A, H b ≠ none
  | .no, o, A, h, b, hb => by rw [show A = [] from h] at hb; cases hb
  | .sh d, o, A, ⟨h1, _⟩, b, hb => by rw [h1] at hb; cases hb
  | .ls ds, o, A, ⟨a, vs, h1, h2, h3, h4⟩, b, hb => by
    rw [h2] at hb
    obtain rfl := List.mem_singleton.mp hb
    rw [h3]; exact fun z => nomatch z
  | .dc n kds, o, A, ⟨a, h1, h2, h3⟩, b, hb => by
    rw [h2] at hb
    obtain rfl := List.mem_singleton.mp hb
    exact h3.live (K := K)
  | .px a cls d x, o, A, ⟨h1, _⟩, b, hb => by rw [h1] at hb; cases hb
  | .fn x, o, A, ⟨h1, _⟩, b, hb => by rw [h1] at hb; cases hb
  | .fd kds, o, A, ⟨h1, _⟩, b, hb => by rw [h1] at hb; cases hb
  | .fk kds, o, A, ⟨h1, _⟩, b, hb => by rw [h1] at hb; cases hb
  | .fz kds, o, A, ⟨h1, _⟩, b, hb => by rw [h1] at hb; cases hb
  | .ob n cs, o, A, ⟨a, vs, fs, h1, h2, h3, h4⟩, b, hb => by
    rw [h2] at hb
    rcases List.mem_cons.mp hb with rfl | hb
    · exact h3.live
    · exact RpCs.live h4 b hb
theorem RpCs.live : ∀ {cs : List C} {os : List (Option V)} {fs : List (List Addr)}, RpCs K F H os cs fs → ∀ b ∈ fs.flatten, H b ≠ none
  | [], os, fs, ⟨_, h⟩, b, hb => by rw [h] at hb; cases hb
  | c :: cs, os, fs, ⟨o, r, f, fr, h1, h2, h3, h4⟩, b, hb => by
    rw [h2, List.flatten_cons] at hb
    rcases List.mem_append.mp hb with hb | hb
    · exact RpC.live h3 b hb
    · exact RpCs.live h4 b hb
end
theorem RpCs.len : ∀ {cs : List C} {os : List (Option V)} {fs : List (List Addr)}, RpCs K F H os cs fs → os.length = cs.length ∧ fs.length = cs.length
  | [], os, fs, ⟨h1, h2⟩ => by rw [h1, h2]; exact ⟨rfl, rfl⟩
  | c :: cs, os, fs, ⟨o, r, f, fr, h1, h2, h3, h4⟩ => by
    obtain ⟨e1, e2⟩ := h4.len
    rw [h1, h2]
    simp [e1, e2]
theorem RpCs.get : ∀ {cs : List C} {os : List (Option V)} {fs : List (List Addr)} {i : Nat} {c : C}, RpCs K F H os cs fs → cs[i]? = some c → ∃ o f, os[i]? = some o ∧ fs[i]? = some f ∧ RpC K F H o c f
  | [], os, fs, i, c, h, e => by simp at e
  | c :: cs, os, fs, 0, c', ⟨o, r, f, fr, h1, h2, h3, h4⟩, e => by
    simp at e; subst e h1 h2
    exact ⟨o, f, rfl, rfl, h3⟩
  | c :: cs, os, fs, i + 1, c', ⟨o, r, f, fr, h1, h2, h3, h4⟩, e => by
    subst h1 h2
    obtain ⟨o', f', e1, e2, e3⟩ := h4.get (by simpa using e)
    exact ⟨o', f', by simpa using e1, by simpa using e2, e3⟩
/-- a place rewritten -/
theorem RpCs.set {o : Option V} {c : C} {f : List Addr} (h0 : RpC K F H o c f) : ∀ {cs : List C} {os : List (Option V)} {fs : List (List Addr)} (i : Nat), RpCs K F H os cs fs → RpCs K F H (os.set i o) (cs.set i c) (fs.set i f)
  | [], os, fs, i, ⟨h1, h2⟩ => by rw [h1, h2]; exact ⟨rfl, rfl⟩
  | c' :: cs, os, fs, 0, ⟨o', r, f', fr, h1, h2, h3, h4⟩ => by rw [h1, h2]; exact ⟨o, r, f, fr, rfl, rfl, h0, h4⟩
  | c' :: cs, os, fs, i + 1, ⟨o', r, f', fr, h1, h2, h3, h4⟩ => by rw [h1, h2]; exact ⟨o', _, f', _, rfl, rfl, h3, RpCs.set h0 i h4⟩
theorem RpCs.append : ∀ {cs cs' : List C} {os os' : List (Option V)} {fs fs' : List (List Addr)}, RpCs K F H os cs fs → RpCs K F H os' cs' fs' → RpCs K F H (os ++ os') (cs ++ cs') (fs ++ fs')
  | [], cs', os, os', fs, fs', ⟨h1, h2⟩, g => by rw [h1, h2]; exact g
  | c :: cs, cs', os, os', fs, fs', ⟨o, r, f, fr, h1, h2, h3, h4⟩, g => by rw [h1, h2]; exact ⟨o, _, f, _, rfl, rfl, h3, h4.append g⟩
theorem RpCs.nos (n : Nat) (os : List (Option V)) (h : os.length = n) : RpCs K F H os (List.replicate n .no) (List.replicate n []) := by
  induction n generalizing os with
  | zero => exact ⟨List.length_eq_zero_iff.mp h, rfl⟩
  | succ n ih =>
    cases os with
    | nil => cases h
    | cons o r => exact ⟨o, r, [], _, rfl, rfl, rfl, ih r (by simpa using h)⟩
end
theorem flat_set {fs : List (List Addr)} {i : Nat} {f : List Addr} {b : Addr} (h : b ∈ (fs.set i f).flatten) : b ∈ f ∨ ∃ (j : Nat) (g : List Addr), j ≠ i ∧ fs[j]? = some g ∧ b ∈ g := by
  obtain ⟨g, hg, hb⟩ := List.mem_flatten.mp h
  obtain ⟨j, hj⟩ := List.mem_iff_getElem?.mp hg
  by_cases e : j = i
  · subst e
    by_cases hl : j < fs.length
    · rw [List.getElem?_set_self hl] at hj; cases hj; exact .inl hb
    · rw [List.getElem?_eq_none (by simpa using hl)] at hj; cases hj
  · rw [List.getElem?_set_ne (Ne.symm e)] at hj
    exact .inr ⟨j, g, e, hj, hb⟩
theorem flat_get {fs : List (List Addr)} {i : Nat} {f : List Addr} {b : Addr} (h : fs[i]? = some f) (hb : b ∈ f) : b ∈ fs.flatten := List.mem_flatten.mpr ⟨f, List.mem_of_getElem? h, hb⟩
theorem nodup_apart : ∀ {fs : List (List Addr)}, fs.flatten.Nodup → ∀ {i j : Nat} {f g : List Addr} {b : Addr}, fs[i]? = some f → fs[j]? = some g → b ∈ f → b ∈ g → i = j
  | [], _, i, j, f, g, b, h, _, _, _ => by simp at h
  | e :: fs, n, i, j, f, g, b, h1, h2, h3, h4 => by
    rw [List.flatten_cons, List.nodup_append] at n
    obtain ⟨n1, n2, n3⟩ := n
    cases i with
    | zero =>
      simp at h1; subst h1
      cases j with
      | zero => rfl
      | succ j => exact absurd rfl (n3 b h3 b (flat_get (by simpa using h2) h4))
    | succ i =>
      cases j with
      | zero =>
        simp at h2; subst h2
        exact absurd rfl (n3 b h4 b (flat_get (by simpa using h1) h3))
      | succ j => exact congrArg (· + 1) (nodup_apart n2 (by simpa using h1) (by simpa using h2) h3 h4)
theorem nodup_get : ∀ {fs : List (List Addr)} {i : Nat} {f : List Addr}, fs.flatten.Nodup → fs[i]? = some f → f.Nodup
  | [], i, f, _, h => by simp at h
  | e :: fs, 0, f, n, h => by
    simp at h; subst h
    rw [List.flatten_cons, List.nodup_append] at n
    exact n.1
  | e :: fs, i + 1, f, n, h => by
    rw [List.flatten_cons, List.nodup_append] at n
    exact nodup_get n.2.1 (by simpa using h)
theorem nodup_set {f : List Addr} (nf : f.Nodup) : ∀ {fs : List (List Addr)} {i : Nat}, fs.flatten.Nodup → (∀ (j : Nat) (g : List Addr), j ≠ i → fs[j]? = some g → ∀ b ∈ f, b ∉ g) → (fs.set i f).flatten.Nodup
  | [], i, n, h => by simp
  | e :: fs, 0, n, h => by
    rw [List.flatten_cons, List.nodup_append] at n
    show (f :: fs).flatten.Nodup
    rw [List.flatten_cons, List.nodup_append]
    refine ⟨nf, n.2.1, fun a ha b hb z => ?_⟩
    subst z
    obtain ⟨g, hg, hb⟩ := List.mem_flatten.mp hb
    obtain ⟨j, hj⟩ := List.mem_iff_getElem?.mp hg
    exact h (j + 1) g (by simp) (by simpa using hj) a ha hb
  | e :: fs, i + 1, n, h => by
    rw [List.flatten_cons, List.nodup_append] at n
    obtain ⟨n1, n2, n3⟩ := n
    show (e :: fs.set i f).flatten.Nodup
    rw [List.flatten_cons, List.nodup_append]
    refine ⟨n1, nodup_set nf n2 fun j g hj hg b hb => h (j + 1) g (by simpa using hj) (by simpa using hg) b hb, fun a ha b hb z => ?_⟩
    subst z
    rcases flat_set hb with hb | ⟨j, g, hj, hg, hb⟩
    · exact h 0 e (by simp) rfl a hb ha
    · exact n3 a ha a (flat_get hg hb) rfl
abbrev Tms := List (V × C)
structure Sep (K : Ek) (F R H : Hp) (σ : St) (ε : Cs) (T : Tms) : Prop where
  sub : Same F H
  rs : Same R H
  dis : ∀ b, F b ≠ none → R b = none
  ex : ∃ fs gs, RpCs K F H σ ε fs ∧ RpCs K F H (T.map fun p => some p.1) (T.map (·.2)) gs ∧ (fs.flatten ++ gs.flatten).Nodup ∧ ∀ b ∈ fs.flatten ++ gs.flatten, F b = none ∧ R b = none
section
variable {K : Ek} {F R H F' R' H' : Hp} {σ σ' : St} {ε ε' : Cs} {T T' : Tms} {v w : V} {c c' : C} {i : Nat} {d : D}
theorem Sep.len (s : Sep K F R H σ ε T) : σ.length = ε.length := by
  obtain ⟨_, _, _, ⟨fs, gs, h1, _⟩⟩ := s
  exact h1.len.1
/-- a temporary is dropped -/
theorem Sep.drop (s : Sep K F R H σ ε ((v, c) :: T)) : Sep K F R H σ ε T := by
  obtain ⟨a1, a2, a3, ⟨fs, gs, h1, ⟨o, r, f, fr, e1, e2, h2, h3⟩, n, m⟩⟩ := s
  subst e2
  obtain ⟨-, rfl⟩ := List.cons.inj e1
  have sl : ∀ b, b ∈ fs.flatten ++ fr.flatten → b ∈ fs.flatten ++ (f :: fr).flatten := fun b hb => by
    simp only [List.flatten_cons, List.mem_append] at hb ⊢
    rcases hb with hb | hb
    · exact .inl hb
    · exact .inr (.inr hb)
  refine ⟨a1, a2, a3, fs, fr, h1, h3, ?_, fun b hb => m b (sl b hb)⟩
  rw [List.flatten_cons, List.nodup_append] at n
  obtain ⟨n1, n2, n3⟩ := n
  rw [List.nodup_append] at n2
  rw [List.nodup_append]
  exact ⟨n1, n2.2.1, fun a ha b hb => n3 a ha b (List.mem_append_right _ hb)⟩
theorem Sep.drops : ∀ (T0 : Tms), Sep K F R H σ ε (T0 ++ T) → Sep K F R H σ ε T
  | [], s => s
  | (_, _) :: T0, s => Sep.drops T0 s.drop
/-- a temporary of no own addresses -/
theorem Sep.addSh (s : Sep K F R H σ ε T) (r : Rep K.1 F v d) : Sep K F R H σ ε ((v, .sh d) :: T) := by
  obtain ⟨a1, a2, a3, ⟨fs, gs, h1, h2, n, m⟩⟩ := s
  exact ⟨a1, a2, a3, fs, [] :: gs, h1, ⟨_, _, _, _, rfl, rfl, ⟨rfl, v, rfl, r⟩, h2⟩, by simpa using n, by simpa using m⟩
/-- the cell of a slot, read -/
theorem Sep.cell (s : Sep K F R H σ ε T) (h : ε[i]? = some c) : ∃ o f, σ[i]? = some o ∧ RpC K F H o c f := by
  obtain ⟨a1, a2, a3, ⟨fs, gs, h1, h2, n, m⟩⟩ := s
  obtain ⟨o, f, e1, e2, e3⟩ := h1.get h
  exact ⟨o, f, e1, e3⟩
theorem Sep.sh (s : Sep K F R H σ ε T) (h : ε[i]? = some (.sh d)) : ∃ v, σ[i]? = some (some v) ∧ Rep K.1 F v d := by
  obtain ⟨o, f, e1, _, v, rfl, r⟩ := s.cell h
  exact ⟨v, e1, r⟩
theorem Sep.lst {ds : List D} (s : Sep K F R H σ ε T) (h : ε[i]? = some (.ls ds)) : ∃ a vs, σ[i]? = some (some (.ref a)) ∧ H a = some (.lst vs) ∧ Reps K.1 F vs ds := by
  obtain ⟨o, f, e1, a, vs, rfl, _, h1, h2⟩ := s.cell h
  exact ⟨a, vs, e1, h1, h2⟩
theorem Sep.val (s : Sep K F R H σ ε T) (h : ε[i]? = some c) (hn : c ≠ .no) : ∃ v, σ[i]? = some (some v) := by
  obtain ⟨o, f, e1, h1⟩ := s.cell h
  cases c with
  | no => exact absurd rfl hn
  | sh d => obtain ⟨_, v, rfl, _⟩ := h1; exact ⟨v, e1⟩
  | ls d => obtain ⟨a, vs, rfl, _⟩ := h1; exact ⟨_, e1⟩
  | dc k d => obtain ⟨a, rfl, _⟩ := h1; exact ⟨_, e1⟩
  | ob k d => obtain ⟨a, vs, fs, rfl, _⟩ := h1; exact ⟨_, e1⟩
  | px _ _ _ _ => obtain ⟨_, rfl, _⟩ := h1; exact ⟨_, e1⟩
  | fn _ => obtain ⟨_, rfl⟩ := h1; exact ⟨_, e1⟩
  | fd _ => obtain ⟨_, _, rfl, _⟩ := h1; exact ⟨_, e1⟩
  | fk _ => obtain ⟨_, _, rfl, _⟩ := h1; exact ⟨_, e1⟩
  | fz _ => obtain ⟨_, _, rfl, _⟩ := h1; exact ⟨_, e1⟩
/-- a slot's cell is dropped -/
theorem Sep.dropAt (s : Sep K F R H σ ε T) (i : Nat) : Sep K F R H σ (ε.set i .no) T := by
  obtain ⟨a1, a2, a3, ⟨fs, gs, h1, h2, n, m⟩⟩ := s
  by_cases hi : i < ε.length
  · obtain ⟨o, f, e1, e2, e3⟩ := h1.get (List.getElem?_eq_getElem hi)
    have h1' := RpCs.set (o := o) (c := .no) (f := []) (K := K) (F := F) (H := H) rfl i h1
    have eo : σ.set i o = σ := by
      apply List.ext_getElem?
      intro j
      by_cases e : j = i
      · subst e
        rw [List.getElem?_set_self (by rw [h1.len.1]; exact hi), e1]
      · rw [List.getElem?_set_ne (Ne.symm e)]
    rw [eo] at h1'
    have sl : ∀ b, b ∈ (fs.set i []).flatten → b ∈ fs.flatten := fun b hb => by
      rcases flat_set hb with hb | ⟨j, g, _, hg, hb⟩
      · cases hb
      · exact flat_get hg hb
    rw [List.nodup_append] at n
    obtain ⟨n1, n2, n3⟩ := n
    refine ⟨a1, a2, a3, fs.set i [], gs, h1', h2, ?_, fun b hb => m b ?_⟩
    · rw [List.nodup_append]
      exact ⟨nodup_set (by simp) n1 (fun _ _ _ _ b hb => by cases hb), n2, fun a ha b hb => n3 a (sl a ha) b hb⟩
    · rcases List.mem_append.mp hb with hb | hb
      · exact List.mem_append_left _ (sl b hb)
      · exact List.mem_append_right _ hb
  · rw [List.set_eq_of_length_le (by omega)]
    exact ⟨a1, a2, a3, fs, gs, h1, h2, n, m⟩
/-- a slot's cell is taken out -/
theorem Sep.take (s : Sep K F R H σ ε T) (h : ε[i]? = some c) (hv : σ[i]? = some (some v)) : Sep K F R H σ (ε.set i .no) ((v, c) :: T) := by
  obtain ⟨a1, a2, a3, ⟨fs, gs, h1, h2, n, m⟩⟩ := s
  obtain ⟨o, f, e1, e2, e3⟩ := h1.get h
  rw [hv] at e1
  cases e1
  have hi : i < ε.length := (List.getElem?_eq_some_iff.mp h).1
  have h1' := RpCs.set (o := some v) (c := .no) (f := []) (K := K) (F := F) (H := H) rfl i h1
  have eo : σ.set i (some v) = σ := by
    apply List.ext_getElem?
    intro j
    by_cases e : j = i
    · subst e
      rw [List.getElem?_set_self (by rw [h1.len.1]; exact hi), hv]
    · rw [List.getElem?_set_ne (Ne.symm e)]
  rw [eo] at h1'
  have sl : ∀ b, b ∈ (fs.set i []).flatten → b ∈ fs.flatten ∧ b ∉ f := fun b hb => by
    rcases flat_set hb with hb | ⟨j, g, hj, hg, hb⟩
    · cases hb
    · refine ⟨flat_get hg hb, fun z => hj ?_⟩
      exact nodup_apart (List.nodup_append.mp n).1 hg e2 hb z
  rw [List.nodup_append] at n
  obtain ⟨n1, n2, n3⟩ := n
  refine ⟨a1, a2, a3, fs.set i [], f :: gs, h1', ⟨_, _, _, _, rfl, rfl, e3, h2⟩, ?_, fun b hb => m b ?_⟩
  · rw [List.flatten_cons, List.nodup_append, List.nodup_append]
    refine ⟨nodup_set (by simp) n1 (fun _ _ _ _ b hb => by cases hb), ⟨nodup_get n1 e2, n2, fun a ha b hb => n3 a (flat_get e2 ha) b hb⟩, fun a ha b hb z => ?_⟩
    subst z
    obtain ⟨k1, k2⟩ := sl a ha
    rcases List.mem_append.mp hb with hb | hb
    · exact k2 hb
    · exact n3 a k1 a hb rfl
  · simp only [List.flatten_cons, List.mem_append] at hb ⊢
    rcases hb with hb | hb | hb
    · exact .inl (sl b hb).1
    · exact .inl (flat_get e2 hb)
    · exact .inr hb
/-- a temporary is stored to a slot (the slot's value is v from then on) -/
theorem Sep.store (s : Sep K F R H σ ε ((v, c) :: T)) (i : Nat) : Sep K F R H (σ.set i (some v)) (ε.set i c) T := by
  obtain ⟨a1, a2, a3, ⟨fs, gs, h1, ⟨o, r, f, fr, e1, e2, h2, h3⟩, n, m⟩⟩ := s
  subst e2
  obtain ⟨rfl, rfl⟩ := List.cons.inj e1
  have h1' := RpCs.set h2 i h1
  rw [List.flatten_cons, List.nodup_append, List.nodup_append] at n
  obtain ⟨n1, ⟨n2, n4, n5⟩, n3⟩ := n
  refine ⟨a1, a2, a3, fs.set i f, fr, h1', h3, ?_, fun b hb => m b ?_⟩
  · rw [List.nodup_append]
    refine ⟨nodup_set n2 n1 fun j g hj hg b hb hg2 => n3 b (flat_get hg hg2) b (List.mem_append_left _ hb) rfl, n4, fun a ha b hb z => ?_⟩
    subst z
    rcases flat_set ha with ha | ⟨j, g, hj, hg, ha⟩
    · exact n5 a ha a hb rfl
    · exact n3 a (flat_get hg ha) a (List.mem_append_right _ hb) rfl
  · simp only [List.flatten_cons, List.mem_append] at hb ⊢
    rcases hb with hb | hb
    · rcases flat_set hb with hb | ⟨j, g, hj, hg, hb⟩
      · exact .inr (.inl hb)
      · exact .inl (flat_get hg hb)
    · exact .inr (.inr hb)
theorem set_same {α : Type} {xs : List α} {i : Nat} {x : α} (h : xs[i]? = some x) : xs.set i x = xs := by
  apply List.ext_getElem?
  intro j
  by_cases e : j = i
  · subst e
    rw [List.getElem?_set_self (List.getElem?_eq_some_iff.mp h).1, h]
  · rw [List.getElem?_set_ne (Ne.symm e)]
/-- .. where the slot's value is v already -/
theorem Sep.put (s : Sep K F R H σ ε ((v, c) :: T)) (hv : σ[i]? = some (some v)) : Sep K F R H σ (ε.set i c) T := by
  have := s.store i
  rwa [set_same hv] at this
theorem Sep.copy (s : Sep K F R H σ ε T) (h : ε[i]? = some (.sh d)) (hv : σ[i]? = some (some v)) : Sep K F R H σ ε ((v, .sh d) :: T) := by
  obtain ⟨w, e, r⟩ := s.sh h
  rw [hv] at e
  cases e
  exact s.addSh r
theorem Sep.repT (s : Sep K F R H σ ε ((v, .sh d) :: T)) : Rep K.1 F v d := by
  obtain ⟨a1, a2, a3, ⟨fs, gs, h1, ⟨o, r, f, fr, e1, e2, ⟨_, w, e3, h2⟩, h3⟩, n, m⟩⟩ := s
  obtain ⟨rfl, rfl⟩ := List.cons.inj e1
  cases e3
  exact h2
theorem Sep.headT (s : Sep K F R H σ ε ((v, c) :: T)) : ∃ f, RpC K F H (some v) c f ∧ ∀ b ∈ f, F b = none ∧ R b = none := by
  obtain ⟨a1, a2, a3, ⟨fs, gs, h1, ⟨o, r, f, fr, e1, e2, h2, h3⟩, n, m⟩⟩ := s
  obtain ⟨rfl, rfl⟩ := List.cons.inj e1
  exact ⟨f, h2, fun b hb => m b (by rw [e2]; simp [hb])⟩
/-- a temporary waits aside while all else goes on -/
theorem Sep.hide (s : Sep K F R H σ ε ((v, c) :: T)) : ∃ R1, Same R R1 ∧ Sep K F R1 H σ ε T ∧ ∀ F' H' σ' ε' T', Same F F' → Sep K F' R1 H' σ' ε' T' → Sep K F' R H' σ' ε' ((v, c) :: T') := by
  obtain ⟨a1, a2, a3, ⟨fs, gs, h1, ⟨o, r, f, fr, e1, e2, h2, h3⟩, n, m⟩⟩ := s
  subst e2
  obtain ⟨rfl, rfl⟩ := List.cons.inj e1
  let R1 : Hp := fun b => if b ∈ f then H b else R b
  have i1 : ∀ {b}, b ∈ f → R1 b = H b := fun {b} hb => if_pos hb
  have i2 : ∀ {b}, b ∉ f → R1 b = R b := fun {b} hb => if_neg hb
  have fin : ∀ b, b ∈ f → F b = none ∧ R b = none := fun b hb => m b (by simp [hb])
  have lv := RpC.live h2
  have sR : Same R R1 := fun b u e => by
    rw [i2 fun z => by rw [(fin b z).2] at e; cases e]; exact e
  rw [List.flatten_cons, List.nodup_append, List.nodup_append] at n
  obtain ⟨n1, ⟨n2, n4, n5⟩, n3⟩ := n
  refine ⟨R1, sR, ⟨a1, fun b u e => ?_, fun b hb => ?_, fs, fr, h1, h3, ?_, fun b hb => ?_⟩, fun F' H' σ' ε' T' fm s' => ?_⟩
  · by_cases q : b ∈ f
    · rw [i1 q] at e; exact e
    · rw [i2 q] at e; exact a2 b u e
  · rw [i2 fun z => hb (fin b z).1]; exact a3 b hb
  · rw [List.nodup_append]
    exact ⟨n1, n4, fun a ha b hb => n3 a ha b (List.mem_append_right _ hb)⟩
  · have q : b ∉ f := fun z => by
      rcases List.mem_append.mp hb with hb | hb
      · exact n3 b hb b (List.mem_append_left _ z) rfl
      · exact n5 b z b hb rfl
    rw [i2 q]
    refine m b ?_
    simp only [List.flatten_cons, List.mem_append] at hb ⊢
    rcases hb with hb | hb
    · exact .inl hb
    · exact .inr (.inr hb)
  · obtain ⟨b1, b2, b3, ⟨fs', gs', k1, k2, n', m'⟩⟩ := s'
    have live' : ∀ b, b ∈ f → R1 b ≠ none := fun b hb => by rw [i1 hb]; exact lv b hb
    have heq : ∀ b ∈ f, H' b = H b := fun b hb => by
      cases q : H b with
      | none => exact absurd q (lv b hb)
      | some u => exact b2 b u ((i1 hb).trans q)
    have fF : ∀ b ∈ f, F' b = none := fun b hb => by
      by_cases q : F' b = none
      · exact q
      · exact absurd (b3 b q) (live' b hb)
    have nf : ∀ b, b ∈ fs'.flatten ++ gs'.flatten → b ∉ f := fun b hb z => live' b z (m' b hb).2
    refine ⟨b1, fun b u e => b2 b u (sR b u e), fun b hb => ?_, fs', f :: gs', k1, ⟨_, _, _, _, rfl, rfl, RpC.frame fm heq h2, k2⟩, ?_, fun b hb => ?_⟩
    · have z := b3 b hb
      cases q : R b with
      | none => rfl
      | some u => rw [sR b u q] at z; cases z
    · rw [List.flatten_cons]
      rw [List.nodup_append] at n' ⊢
      rw [List.nodup_append]
      refine ⟨n'.1, ⟨n2, n'.2.1, fun a ha b hb z => nf b (List.mem_append_right _ hb) (z ▸ ha)⟩, fun a ha b hb z => ?_⟩
      rcases List.mem_append.mp hb with hb | hb
      · exact nf a (List.mem_append_left _ ha) (z ▸ hb)
      · exact n'.2.2 a ha b hb z
    · simp only [List.flatten_cons, List.mem_append] at hb
      rcases hb with hb | hb | hb
      · obtain ⟨z1, z2⟩ := m' b (List.mem_append_left _ hb)
        rw [i2 (nf b (List.mem_append_left _ hb))] at z2
        exact ⟨z1, z2⟩
      · exact ⟨fF b hb, (fin b hb).2⟩
      · obtain ⟨z1, z2⟩ := m' b (List.mem_append_right _ hb)
        rw [i2 (nf b (List.mem_append_right _ hb))] at z2
        exact ⟨z1, z2⟩
/-- the slots wait aside: the temporaries are a frame of their own -/
theorem Sep.enter (s : Sep K F R H σ ε T) : ∃ R1, Sep K F R1 H (T.map fun p => some p.1) (T.map (·.2)) [] ∧ ∀ F' H' cs' T', Same F F' → Sep K F' R1 H' (T.map fun p => some p.1) cs' T' → Sep K F' R H' σ ε ((T.map (·.1)).zip cs' ++ T') := by
  obtain ⟨a1, a2, a3, ⟨fs, gs, h1, h2, n, m⟩⟩ := s
  let f := fs.flatten
  let R1 : Hp := fun b => if b ∈ f then H b else R b
  have i1 : ∀ {b}, b ∈ f → R1 b = H b := fun {b} hb => if_pos hb
  have i2 : ∀ {b}, b ∉ f → R1 b = R b := fun {b} hb => if_neg hb
  have fin : ∀ b, b ∈ f → F b = none ∧ R b = none := fun b hb => m b (List.mem_append_left _ hb)
  have lv := RpCs.live h1
  have sR : Same R R1 := fun b u e => by
    rw [i2 fun z => by rw [(fin b z).2] at e; cases e]; exact e
  rw [List.nodup_append] at n
  obtain ⟨n1, n2, n3⟩ := n
  refine ⟨R1, ⟨a1, fun b u e => ?_, fun b hb => ?_, gs, [], h2, ⟨rfl, rfl⟩, by simpa using n2, fun b hb => ?_⟩, fun F' H' cs' T' fm s' => ?_⟩
  · by_cases q : b ∈ f
    · rw [i1 q] at e; exact e
    · rw [i2 q] at e; exact a2 b u e
  · rw [i2 fun z => hb (fin b z).1]; exact a3 b hb
  · have hb : b ∈ gs.flatten := by simpa using hb
    rw [i2 fun z => n3 b z b hb rfl]
    exact m b (List.mem_append_right _ hb)
  · obtain ⟨b1, b2, b3, ⟨fs', gs', k1, k2, n', m'⟩⟩ := s'
    have live' : ∀ b, b ∈ f → R1 b ≠ none := fun b hb => by rw [i1 hb]; exact lv b hb
    have heq : ∀ b ∈ fs.flatten, H' b = H b := fun b hb => by
      cases q : H b with
      | none => exact absurd q (lv b hb)
      | some u => exact b2 b u ((i1 hb).trans q)
    have fF : ∀ b ∈ f, F' b = none := fun b hb => by
      by_cases q : F' b = none
      · exact q
      · exact absurd (b3 b q) (live' b hb)
    have nf : ∀ b, b ∈ fs'.flatten ++ gs'.flatten → b ∉ f := fun b hb z => live' b z (m' b hb).2
    have lc : (T.map (·.1)).length = cs'.length := by
      have := k1.len.1
      simpa using this
    have ez1 : ((T.map (·.1)).zip cs').map (fun p => some p.1) = T.map fun p => some p.1 := by
      rw [show (fun p : V × C => some p.1) = (fun x => some x) ∘ (fun p : V × C => p.1) from rfl, ← List.map_map, List.map_fst_zip (by omega), List.map_map]
    have ez2 : ((T.map (·.1)).zip cs').map (·.2) = cs' := List.map_snd_zip (by omega)
    refine ⟨b1, fun b u e => b2 b u (sR b u e), fun b hb => ?_, fs, fs' ++ gs', RpCs.frame fm heq h1, ?_, ?_, fun b hb => ?_⟩
    · have z := b3 b hb
      cases q : R b with
      | none => rfl
      | some u => rw [sR b u q] at z; cases z
    · rw [List.map_append, List.map_append, ez1, ez2]
      exact k1.append k2
    · rw [List.flatten_append, List.nodup_append]
      exact ⟨n1, n', fun a ha b hb z => nf b hb (z ▸ ha)⟩
    · rw [List.flatten_append] at hb
      rcases List.mem_append.mp hb with hb | hb
      · exact ⟨fF b hb, (fin b hb).2⟩
      · obtain ⟨z1, z2⟩ := m' b hb
        rw [i2 (nf b hb)] at z2
        exact ⟨z1, z2⟩
end
end L2.M
namespace L2.M
open PySem PySem.Spec PyProof.Rows
def cD : C → Option D
  | .sh d => some d
  | .ls ds => some (.list ds)
  | _ => none
/-- a result of an operation, read where it came to -/
def RepC (K : PySem.W.Frag) (F H : Hp) (v : V) : C → Prop
  | .sh d => Rep K F v d
  | .ls ds => ∃ a vs, v = .ref a ∧ H a = some (.lst vs) ∧ F a = none ∧ Reps K F vs ds
  | _ => False
/-- what a pure operation leaves -/
structure Grow (K : PySem.W.Frag) (F H F' H' : Hp) (v : V) (c : C) : Prop where
  fm : Same F F'
  hm : Same H H'
  sub : Same F' H'
  ff : ∀ b, F b = none → F' b ≠ none → H b = none
  rep : RepC K F' H' v c
  new : ∀ (ds : List D) (a : Addr), c = .ls ds → v = .ref a → H a = none
/-- a heap that grew -/
structure Grw (F H F' H' : Hp) : Prop where
  fm : Same F F'
  hm : Same H H'
  sub : Same F' H'
  ff : ∀ b, F b = none → F' b ≠ none → H b = none
theorem Grow.grw {K : PySem.W.Frag} {F H F' H' : Hp} {v : V} {c : C} (g : Grow K F H F' H' v c) : Grw F H F' H' := ⟨g.fm, g.hm, g.sub, g.ff⟩
theorem Grw.refl {F H : Hp} (s : Same F H) : Grw F H F H := ⟨Same.refl F, Same.refl H, s, fun b h h' => absurd h h'⟩
theorem Grw.laid {F H : Hp} (s : Same F H) {p : Addr} {u : HO} (hp : H p = none) : Grw F H (upd F p u) (upd H p u) := by
  have fp : F p = none := s.free hp
  refine ⟨fun b x e => by rw [upd_ne (ne_of_none e fp)]; exact e, fun b x e => by rw [upd_ne (ne_of_none e hp)]; exact e, fun b x e => ?_, fun b h h' => ?_⟩
  · by_cases hb : b = p
    · subst hb; rw [upd_same] at e ⊢; exact e
    · rw [upd_ne hb] at e ⊢; exact s b x e
  · by_cases hb : b = p
    · subst hb; exact hp
    · rw [upd_ne hb] at h'; exact absurd h h'
section
variable {K : Ek} {F R H F' R' H' : Hp} {σ σ' : St} {ε ε' : Cs} {T T' T1 : Tms} {v w : V} {c c' : C} {i : Nat} {d : D}
theorem Sep.grow (s : Sep K F R H σ ε T) (g : Grw F H F' H') : Sep K F' R H' σ ε T := by
  obtain ⟨a1, a2, a3, ⟨fs, gs, h1, h2, n, m⟩⟩ := s
  have l1 := RpCs.live h1
  have l2 := RpCs.live h2
  have eq : ∀ b, H b ≠ none → H' b = H b := fun b hb => by
    cases q : H b with
    | none => exact absurd q hb
    | some u => exact g.hm b u q
  refine ⟨g.sub, a2.trans g.hm, fun b hb => ?_, fs, gs, RpCs.frame g.fm (fun b hb => eq b (l1 b hb)) h1, RpCs.frame g.fm (fun b hb => eq b (l2 b hb)) h2, n, fun b hb => ⟨?_, (m b hb).2⟩⟩
  · by_cases q : F b = none
    · exact a2.free (g.ff b q hb)
    · exact a3 b q
  · by_cases q : F' b = none
    · exact q
    · have z := g.ff b (m b hb).1 q
      rcases List.mem_append.mp hb with hb | hb
      · exact absurd z (l1 b hb)
      · exact absurd z (l2 b hb)
/-- what some temporaries hold, and what they may become -/
theorem Sep.opens (s : Sep K F R H σ ε (T1 ++ T)) : ∃ gs, RpCs K F H (T1.map fun p => some p.1) (T1.map (·.2)) gs ∧ gs.flatten.Nodup ∧ (∀ b ∈ gs.flatten, F b = none) ∧
    ∀ v c H' f, RpC K F H' (some v) c f → f.Nodup → (∀ b ∈ f, b ∈ gs.flatten ∨ H b = none) → (∀ b u, b ∉ gs.flatten → H b = some u → H' b = some u) → Sep K F R H' σ ε ((v, c) :: T) := by
  obtain ⟨a1, a2, a3, ⟨fs, gs, h1, h2, n, m⟩⟩ := s
  have split : ∀ (T1 : Tms) {gs : List (List Addr)}, RpCs K F H ((T1 ++ T).map fun p => some p.1) ((T1 ++ T).map (·.2)) gs → ∃ g1 g2, gs = g1 ++ g2 ∧ RpCs K F H (T1.map fun p => some p.1) (T1.map (·.2)) g1 ∧ RpCs K F H (T.map fun p => some p.1) (T.map (·.2)) g2 := by
    intro T1
    induction T1 with
    | nil => intro gs h; exact ⟨[], gs, rfl, ⟨rfl, rfl⟩, h⟩
    | cons x T1 ih =>
      intro gs h
      obtain ⟨o, r, f, fr, e1, e2, h3, h4⟩ := h
      obtain ⟨rfl, rfl⟩ := List.cons.inj e1
      obtain ⟨g1, g2, e3, h5, h6⟩ := ih h4
      exact ⟨f :: g1, g2, by rw [e2, e3]; rfl, ⟨_, _, _, _, rfl, rfl, h3, h5⟩, h6⟩
  obtain ⟨g1, g2, rfl, h3, h4⟩ := split T1 h2
  rw [List.flatten_append] at n m
  rw [List.nodup_append, List.nodup_append] at n
  obtain ⟨n1, ⟨n2, n4, n5⟩, n3⟩ := n
  refine ⟨g1, h3, n2, fun b hb => (m b (by simp [List.mem_append, hb])).1, fun v c H' f k1 k2 k3 k4 => ?_⟩
  have l1 := RpCs.live h1
  have l4 := RpCs.live h4
  have eq1 : ∀ b ∈ fs.flatten, H' b = H b := fun b hb => by
    cases q : H b with
    | none => exact absurd q (l1 b hb)
    | some u => exact k4 b u (fun z => n3 b hb b (List.mem_append_left _ z) rfl) q
  have eq2 : ∀ b ∈ g2.flatten, H' b = H b := fun b hb => by
    cases q : H b with
    | none => exact absurd q (l4 b hb)
    | some u => exact k4 b u (fun z => n5 b z b hb rfl) q
  have fin : ∀ b ∈ g1.flatten, F b = none ∧ R b = none := fun b hb => m b (by simp [List.mem_append, hb])
  refine ⟨fun b u e => k4 b u (fun z => by rw [(fin b z).1] at e; cases e) (a1 b u e), fun b u e => k4 b u (fun z => by rw [(fin b z).2] at e; cases e) (a2 b u e), a3, fs, f :: g2, RpCs.frame (Same.refl F) eq1 h1,
    ⟨_, _, _, _, rfl, rfl, k1, RpCs.frame (Same.refl F) eq2 h4⟩, ?_, fun b hb => ?_⟩
  · rw [List.flatten_cons, List.nodup_append, List.nodup_append]
    refine ⟨n1, ⟨k2, n4, fun a ha b hb z => ?_⟩, fun a ha b hb z => ?_⟩
    · subst z
      rcases k3 a ha with q | q
      · exact n5 a q a hb rfl
      · exact l4 a hb q
    · subst z
      rcases List.mem_append.mp hb with hb | hb
      · rcases k3 a hb with q | q
        · exact n3 a ha a (List.mem_append_left _ q) rfl
        · exact l1 a ha q
      · exact n3 a ha a (List.mem_append_right _ hb) rfl
  · simp only [List.flatten_cons, List.mem_append] at hb
    rcases hb with hb | hb | hb
    · exact m b (List.mem_append_left _ hb)
    · rcases k3 b hb with q | q
      · exact fin b q
      · exact ⟨a1.free q, a2.free q⟩
    · exact m b (List.mem_append_right _ (List.mem_append_right _ hb))
/-- some temporaries become one thing -/
theorem Sep.change (s : Sep K F R H σ ε (T1 ++ T)) (k : ∀ gs, RpCs K F H (T1.map fun p => some p.1) (T1.map (·.2)) gs → gs.flatten.Nodup → (∀ b ∈ gs.flatten, F b = none) → ∃ f, RpC K F H' (some v) c f ∧ f.Nodup ∧ (∀ b ∈ f, b ∈ gs.flatten ∨ H b = none) ∧ ∀ b u, b ∉ gs.flatten → H b = some u → H' b = some u) :
    Sep K F R H' σ ε ((v, c) :: T) := by
  obtain ⟨gs, g1, g2, g3, g4⟩ := s.opens
  obtain ⟨f, k1, k2, k3, k4⟩ := k gs g1 g2 g3
  exact g4 _ _ _ f k1 k2 k3 k4
/-- a new list -/
theorem Sep.newL (s : Sep K F R H σ ε T) {p : Addr} {vs : List V} {ds : List D} (hp : H p = none) (r : Reps K.1 F vs ds) : Sep K F R (upd H p (.lst vs)) σ ε ((.ref p, .ls ds) :: T) :=
  Sep.change (T1 := []) s fun gs h n _ => ⟨[p], ⟨p, vs, rfl, rfl, upd_same, r⟩, by simp, fun b hb => .inr (by rw [List.mem_singleton.mp hb]; exact hp), fun b u _ e => by rw [upd_ne (ne_of_none e hp)]; exact e⟩
theorem Sep.hd {a : Addr} {ds : List D} (s : Sep K F R H σ ε ((.ref a, .ls ds) :: T)) : ∃ vs, H a = some (.lst vs) ∧ Reps K.1 F vs ds ∧ F a = none := by
  obtain ⟨f, ⟨b, vs, e1, e2, e3, e4⟩, m⟩ := s.headT
  cases e1
  exact ⟨vs, e3, e4, (m a (by rw [e2]; exact List.mem_cons_self)).1⟩
theorem Sep.hdL {ds : List D} (s : Sep K F R H σ ε ((v, .ls ds) :: T)) : ∃ a vs, v = .ref a ∧ H a = some (.lst vs) ∧ F a = none ∧ Reps K.1 F vs ds := by
  obtain ⟨f, ⟨b, vs, e1, e2, e3, e4⟩, m⟩ := s.headT
  cases e1
  exact ⟨b, vs, rfl, e3, (m b (by rw [e2]; exact List.mem_cons_self)).1, e4⟩
/-- an own list rewritten -/
theorem Sep.wr {a : Addr} {ds es : List D} {ws : List V} (s : Sep K F R H σ ε ((.ref a, .ls ds) :: T)) (r : Reps K.1 F ws es) : Sep K F R (upd H a (.lst ws)) σ ε ((.ref a, .ls es) :: T) :=
  Sep.change (T1 := [(.ref a, .ls ds)]) s fun gs h n _ => by
    obtain ⟨o, r0, f, fr, e1, e2, ⟨b, vs, e3, e4, e5, e6⟩, h4⟩ := h
    obtain ⟨rfl, rfl⟩ := List.cons.inj e1
    cases e3
    have ha : a ∈ gs.flatten := by rw [e2, e4]; simp
    exact ⟨[a], ⟨a, ws, rfl, rfl, upd_same, r⟩, by simp, fun b hb => .inl (by rw [List.mem_singleton.mp hb]; exact ha), fun b u hb e => by rw [upd_ne (by rintro rfl; exact hb ha)]; exact e⟩
/-- what is held becomes frozen -/
theorem Sep.freeze (s : Sep K F R H σ ε ((v, c) :: T)) (h : cD c = some d) : ∃ F', Same F F' ∧ Rep K.1 F' v d ∧ Sep K F' R H σ ε T := by
  obtain ⟨a1, a2, a3, ⟨fs, gs, h1, ⟨o, r, f, fr, e1, e2, h2, h3⟩, n, m⟩⟩ := s
  subst e2
  obtain ⟨rfl, rfl⟩ := List.cons.inj e1
  let F' : Hp := fun b => if b ∈ f then H b else F b
  have i1 : ∀ {b}, b ∈ f → F' b = H b := fun {b} hb => if_pos hb
  have i2 : ∀ {b}, b ∉ f → F' b = F b := fun {b} hb => if_neg hb
  have fin : ∀ b, b ∈ f → F b = none ∧ R b = none := fun b hb => m b (by simp [hb])
  have fm : Same F F' := fun b u e => by
    rw [i2 fun z => by rw [(fin b z).1] at e; cases e]; exact e
  rw [List.flatten_cons, List.nodup_append, List.nodup_append] at n
  obtain ⟨n1, ⟨n2, n4, n5⟩, n3⟩ := n
  refine ⟨F', fm, ?_, ⟨fun b u e => ?_, a2, fun b hb => ?_, fs, fr, RpCs.frame fm (fun _ _ => rfl) h1, RpCs.frame fm (fun _ _ => rfl) h3, ?_, fun b hb => ?_⟩⟩
  · cases c with
    | no => cases h
    | sh d' =>
      cases h
      obtain ⟨_, w, e, q⟩ := h2
      cases e
      exact Rep.mono fm _ _ q
    | ls ds =>
      cases h
      obtain ⟨a, vs, e, e3, e4, e5⟩ := h2
      cases e
      exact ⟨a, vs, rfl, .inl (.inl ((i1 (by rw [e3]; exact List.mem_cons_self)).trans e4)), Reps.mono fm _ _ e5⟩
    | dc k kds => cases h
    | ob k cs => cases h
    | px _ _ _ _ => cases h
    | fn _ => cases h
    | fd _ => cases h
    | fk _ => cases h
    | fz _ => cases h
  · by_cases q : b ∈ f
    · rw [i1 q] at e; exact e
    · rw [i2 q] at e; exact a1 b u e
  · by_cases q : b ∈ f
    · exact (fin b q).2
    · rw [i2 q] at hb; exact a3 b hb
  · rw [List.nodup_append]
    exact ⟨n1, n4, fun a ha b hb => n3 a ha b (List.mem_append_right _ hb)⟩
  · have q : b ∉ f := fun z => by
      rcases List.mem_append.mp hb with hb | hb
      · exact n3 b hb b (List.mem_append_left _ z) rfl
      · exact n5 b z b hb rfl
    rw [i2 q]
    refine m b ?_
    simp only [List.flatten_cons, List.mem_append] at hb ⊢
    rcases hb with hb | hb
    · exact .inl hb
    · exact .inr (.inr hb)
/-- a slot's cell frozen -/
theorem Sep.freezeAt (s : Sep K F R H σ ε T) (h : ε[i]? = some c) (hd : cD c = some d) : ∃ F' v, Same F F' ∧ σ[i]? = some (some v) ∧ Rep K.1 F' v d ∧ Sep K F' R H σ (ε.set i (.sh d)) T := by
  obtain ⟨v, hv⟩ := s.val h (by rintro rfl; cases hd)
  obtain ⟨F', fm, r, s'⟩ := (s.take h hv).freeze hd
  have := (s'.addSh r).put hv
  rw [List.set_set] at this
  exact ⟨F', v, fm, hv, r, this⟩
/-- a pure operation's result is held -/
theorem Sep.res (s : Sep K F R H σ ε T) (g : Grow K.1 F H F' H' v c) : Sep K F' R H' σ ε ((v, c) :: T) := by
  have s' := s.grow g.grw
  cases c with
  | no => exact g.rep.elim
  | sh d => exact s'.addSh g.rep
  | ls ds =>
    obtain ⟨a, vs, rfl, h1, h2, h3⟩ := g.rep
    have hn := g.new ds a rfl rfl
    -- the rest does not hold a
    obtain ⟨a1, a2, a3, ⟨fs, gs, k1, k2, n, m⟩⟩ := s
    obtain ⟨b1, b2, b3, ⟨fs', gs', k1', k2', n', m'⟩⟩ := s'
    have eq : ∀ b, H b ≠ none → H' b = H b := fun b hb => by
      cases q : H b with
      | none => exact absurd q hb
      | some u => exact g.hm b u q
    have q1 := RpCs.frame g.fm (fun b hb => eq b (RpCs.live k1 b hb)) k1
    have q2 := RpCs.frame g.fm (fun b hb => eq b (RpCs.live k2 b hb)) k2
    have na1 : a ∉ fs.flatten := fun z => RpCs.live k1 a z hn
    have na2 : a ∉ gs.flatten := fun z => RpCs.live k2 a z hn
    have fF : ∀ b, b ∈ fs.flatten ++ gs.flatten → F' b = none := fun b hb => by
      by_cases q : F' b = none
      · exact q
      · have z := g.ff b (m b hb).1 q
        rcases List.mem_append.mp hb with hb | hb
        · exact absurd z (RpCs.live k1 b hb)
        · exact absurd z (RpCs.live k2 b hb)
    refine ⟨b1, b2, b3, fs, [a] :: gs, q1, ⟨_, _, _, _, rfl, rfl, ⟨a, vs, rfl, rfl, h1, h3⟩, q2⟩, ?_, fun b hb => ?_⟩
    · rw [List.nodup_append] at n
      rw [List.flatten_cons, List.nodup_append, List.nodup_append]
      refine ⟨n.1, ⟨by simp, n.2.1, fun x hx y hy z => na2 (by rw [← List.mem_singleton.mp hx, z]; exact hy)⟩, fun x hx y hy z => ?_⟩
      subst z
      rcases List.mem_append.mp hy with hy | hy
      · exact na1 (by rw [← List.mem_singleton.mp hy]; exact hx)
      · exact n.2.2 x hx x hy rfl
    · simp only [List.flatten_cons, List.mem_append, List.mem_singleton] at hb
      rcases hb with hb | rfl | hb
      · exact ⟨fF b (List.mem_append_left _ hb), (m b (List.mem_append_left _ hb)).2⟩
      · exact ⟨h2, a2.free hn⟩
      · exact ⟨fF b (List.mem_append_right _ hb), (m b (List.mem_append_right _ hb)).2⟩
  | dc k kds => exact g.rep.elim
  | ob k cs => exact g.rep.elim
  | px _ _ _ _ => exact g.rep.elim
  | fn _ => exact g.rep.elim
  | fd _ => exact g.rep.elim
  | fk _ => exact g.rep.elim
  | fz _ => exact g.rep.elim
end
abbrev EM := Cs → Option (C × Cs)
def tE (K : Ek) (m : EM) : TE := fun σ H Q => ∃ F R ε c ε', Sep K F R H σ ε [] ∧ m ε = some (c, ε') ∧ ∀ v F' H', Same F F' → Sep K F' R H' σ ε' [(v, c)] → Q v H'
/-- an operand: the object that a slot names (read when the operation is done), or a value of its own -/
inductive Opd where
  | pl (i : Nat) | tm (c : C)
inductive OpV (σ : St) : List V → List Opd → Prop where
  | nil : OpV σ [] []
  | pl {i : Nat} {v : V} {vs : List V} {os : List Opd} : σ[i]? = some (some v) → OpV σ vs os → OpV σ (v :: vs) (.pl i :: os)
  | tm {c : C} {v : V} {vs : List V} {os : List Opd} : OpV σ vs os → OpV σ (v :: vs) (.tm c :: os)
theorem OpV.len {σ : St} {vs : List V} {os : List Opd} (h : OpV σ vs os) : vs.length = os.length := by
  induction h with
  | nil => rfl
  | pl _ _ ih => simp [ih]
  | tm _ ih => simp [ih]
def tmO : List Opd → List V → Tms
  | .tm c :: os, v :: vs => (v, c) :: tmO os vs
  | .pl _ :: os, _ :: vs => tmO os vs
  | _, _ => []
abbrev OM := Cs → Option (Opd × Cs)
abbrev AM := Cs → Option (List Opd × Cs)
def tO (K : Ek) (m : OM) : TE := fun σ H Q => ∃ F R ε o ε', Sep K F R H σ ε [] ∧ m ε = some (o, ε') ∧ ∀ v F' H', Same F F' → OpV σ [v] [o] → Sep K F' R H' σ ε' (tmO [o] [v]) → Q v H'
def tA (K : Ek) (m : AM) : TA := fun σ H Q => ∃ F R ε os ε', Sep K F R H σ ε [] ∧ m ε = some (os, ε') ∧ ∀ vs F' H', Same F F' → OpV σ vs os → Sep K F' R H' σ ε' (tmO os vs) → Q vs H'
def mNil : AM := fun ε => some ([], ε)
def mCons (m : OM) (r : AM) : AM := fun ε => do
  let (o, ε1) ← m ε
  let (os, ε2) ← r ε1
  some (o :: os, ε2)
theorem tA_nil {K : Ek} {σ : St} {H : Hp} {Q : List V → Hp → Prop} (h : tA K mNil σ H Q) : tNil σ H Q := by
  obtain ⟨F, R, ε, os, ε', o, e, q⟩ := h
  cases e
  exact q [] F H (Same.refl F) .nil o
theorem tA_cons {K : Ek} {m : OM} {r : AM} {σ : St} {H : Hp} {Q : List V → Hp → Prop} (h : tA K (mCons m r) σ H Q) : tCons (tO K m) (tA K r) σ H Q := by
  obtain ⟨F, R, ε, os, ε', o, e, q⟩ := h
  unfold mCons at e
  cases e1 : m ε with
  | none => rw [e1] at e; cases e
  | some p =>
    obtain ⟨o1, ε1⟩ := p
    rw [e1] at e
    cases e2 : r ε1 with
    | none => simp [e2] at e
    | some p2 =>
      obtain ⟨os2, ε2⟩ := p2
      simp [e2] at e
      obtain ⟨rfl, rfl⟩ := e
      refine ⟨F, R, ε, o1, ε1, o, e1, fun v F1 H1 fm1 v1 s1 => ?_⟩
      cases v1 with
      | pl hv _ => exact ⟨F1, R, ε1, os2, ε2, s1, e2, fun vs F2 H2 fm2 v2 s2 => q (v :: vs) F2 H2 (fm1.trans fm2) (.pl hv v2) s2⟩
      | tm _ =>
        obtain ⟨R1, _, s1', back⟩ := s1.hide
        exact ⟨F1, R1, ε1, os2, ε2, s1', e2, fun vs F2 H2 fm2 v2 s2 => q (v :: vs) F2 H2 (fm1.trans fm2) (.tm v2) (back F2 H2 σ ε2 _ fm2 s2)⟩
def bor (ε : Cs) : Opd → Option D
  | .pl i => match ε[i]? with
    | some (.sh d) => some d
    | some (.ls ds) => some (.list ds)
    | _ => none
  | .tm (.sh d) => some d
  | .tm (.ls ds) => some (.list ds)
  | .tm _ => none
def bors (ε : Cs) : List Opd → Option (List D)
  | [] => some []
  | o :: os => do
    let d ← bor ε o
    let ds ← bors ε os
    some (d :: ds)
def RepB (K : PySem.W.Frag) (F H : Hp) (v : V) (d : D) : Prop := Rep K F v d ∨ ∃ a ws ds, v = .ref a ∧ d = .list ds ∧ H a = some (.lst ws) ∧ Reps K F ws ds
inductive RepBs (K : PySem.W.Frag) (F H : Hp) : List V → List D → Prop where
  | nil : RepBs K F H [] []
  | cons {v : V} {d : D} {vs : List V} {ds : List D} : RepB K F H v d → RepBs K F H vs ds → RepBs K F H (v :: vs) (d :: ds)
section
variable {K : Ek} {F R H : Hp} {σ : St} {ε : Cs} {T : Tms}
theorem Sep.repB_pl {i : Nat} {d : D} {v : V} (s : Sep K F R H σ ε T) (hv : σ[i]? = some (some v)) (e1 : bor ε (.pl i) = some d) : RepB K.1 F H v d := by
  unfold bor at e1
  cases e3 : ε[i]? with
  | none => simp [e3] at e1
  | some c =>
    cases c with
    | no => simp [e3] at e1
    | sh d' =>
      simp [e3] at e1
      subst e1
      obtain ⟨w, h1, h2⟩ := s.sh e3
      rw [hv] at h1
      cases h1
      exact .inl h2
    | ls es =>
      simp [e3] at e1
      subst e1
      obtain ⟨a, ws, h1, h2, h4⟩ := s.lst e3
      rw [hv] at h1
      cases h1
      exact .inr ⟨a, ws, es, rfl, rfl, h2, h4⟩
    | dc _ _ => simp [e3] at e1
    | ob _ _ => simp [e3] at e1
    | px _ _ _ _ => simp [e3] at e1
    | fn _ => simp [e3] at e1
    | fd _ => simp [e3] at e1
    | fk _ => simp [e3] at e1
    | fz _ => simp [e3] at e1
theorem Sep.repB_tm {c : C} {d : D} {v : V} (s : Sep K F R H σ ε ((v, c) :: T)) (e1 : bor ε (.tm c) = some d) : RepB K.1 F H v d := by
  cases c with
  | no => cases e1
  | sh d' => cases e1; exact .inl s.repT
  | ls es =>
    cases e1
    obtain ⟨a, vs, rfl, h1, h2, h3⟩ := s.hdL
    exact .inr ⟨a, vs, es, rfl, rfl, h1, h3⟩
  | dc _ _ => cases e1
  | ob _ _ => cases e1
  | px _ _ _ _ => cases e1
  | fn _ => cases e1
  | fd _ => cases e1
  | fk _ => cases e1
  | fz _ => cases e1
theorem bors_ok : ∀ {os : List Opd} {vs : List V} {T : Tms} {ds : List D}, Sep K F R H σ ε (tmO os vs ++ T) → OpV σ vs os → bors ε os = some ds → RepBs K.1 F H vs ds
  | [], vs, T, ds, s, h, e => by
    cases h
    cases e
    exact .nil
  | o :: os, vs, T, ds, s, h, e => by
    unfold bors at e
    cases e1 : bor ε o with
    | none => simp [e1] at e
    | some d =>
      cases e2 : bors ε os with
      | none => simp [e1, e2] at e
      | some ds2 =>
        simp [e1, e2] at e
        subst e
        cases h with
        | pl hv h2 => exact .cons (s.repB_pl hv e1) (bors_ok s h2 e2)
        | tm h2 => exact .cons (s.repB_tm e1) (bors_ok s.drop h2 e2)
end
/-- an operation by its table: f tells its answer, r is what the hand layer asks -/
def FnB (K : PySem.W.Frag) (f : List D → Option C) (r : List V → Hp → VK → Prop) : Prop :=
  ∀ F H vs ds c Q, Same F H → RepBs K F H vs ds → f ds = some c → (∀ v F' H', Grow K F H F' H' v c → Q v H') → r vs H Q
def mOp (f : List D → Option C) (ma : AM) : EM := fun ε => do
  let (os, ε1) ← ma ε
  let ds ← bors ε1 os
  let c ← f ds
  some (c, ε1)
theorem op_sem {K : Ek} {f : List D → Option C} {r : List V → Hp → VK → Prop} (hf : FnB K.1 f r) {ma : AM} {σ : St} {H : Hp} {Q : VK} (h : tE K (mOp f ma) σ H Q) : tA K ma σ H (fun vs H' => r vs H' Q) := by
  obtain ⟨F, R, ε, c, ε', o, e, q⟩ := h
  unfold mOp at e
  cases e1 : ma ε with
  | none => simp [e1] at e
  | some p =>
    obtain ⟨os, ε1⟩ := p
    cases e2 : bors ε1 os with
    | none => simp [e1, e2] at e
    | some ds =>
      cases e3 : f ds with
      | none => simp [e1, e2, e3] at e
      | some c' =>
        simp [e1, e2, e3] at e
        obtain ⟨rfl, rfl⟩ := e
        refine ⟨F, R, ε, os, ε1, o, e1, fun vs F1 H1 fm1 v1 s1 => ?_⟩
        rw [← List.append_nil (tmO os vs)] at s1
        refine hf F1 H1 vs ds c' Q s1.sub (bors_ok s1 v1 e2) e3 fun v F2 H2 g => ?_
        exact q v F2 H2 (fm1.trans g.fm) ((s1.drops _).res g)
end L2.M
namespace L2.M
open PySem PySem.Spec PyProof.Rows
section
variable {X : Cx} {e : Expr} {t t' : TE}
theorem _root_.L2.PE.weak (h : PE X e t) (w : ∀ σ H Q, t' σ H Q → t σ H Q) : PE X e t' := ⟨fun pins s σ H Q I q => h.run pins s σ H Q I (w σ H Q q)⟩
theorem _root_.L2.PT.weak {t t' : TT} (h : PT X e t) (w : ∀ σ H Q, t' σ H Q → t σ H Q) : PT X e t' := ⟨fun pins s σ H Q I q => h.run pins s σ H Q I (w σ H Q q)⟩
theorem _root_.L2.PW.weak {t t' : TT} (h : PW X e t) (w : ∀ σ H Q, t' σ H Q → t σ H Q) : PW X e t' := ⟨fun wh pins s σ H Q I q => h.run wh pins s σ H Q I (w σ H Q q)⟩
theorem _root_.L2.PA.weak {es : List Expr} {t t' : TA} (h : PA X es t) (w : ∀ σ H Q, t' σ H Q → t σ H Q) : PA X es t' := ⟨fun pos pins s σ H Q I q => h.run pos pins s σ H Q I (w σ H Q q)⟩
end
theorem tO_mono {K : Ek} {m : OM} {σ : St} {H : Hp} {Q Q' : VK} (h : tO K m σ H Q) (w : ∀ v H', Q v H' → Q' v H') : tO K m σ H Q' := by
  obtain ⟨F, R, ε, o, ε', a, b, c⟩ := h
  exact ⟨F, R, ε, o, ε', a, b, fun v F' H' fm s r => w _ _ (c v F' H' fm s r)⟩
theorem tA_mono {K : Ek} {m : AM} {σ : St} {H : Hp} {Q Q' : List V → Hp → Prop} (h : tA K m σ H Q) (w : ∀ v H', Q v H' → Q' v H') : tA K m σ H Q' := by
  obtain ⟨F, R, ε, o, ε', a, b, c⟩ := h
  exact ⟨F, R, ε, o, ε', a, b, fun v F' H' fm s r => w _ _ (c v F' H' fm s r)⟩
def mK (d : D) : EM := fun ε => some (.sh d, ε)
theorem tE_k {K : Ek} {d : D} {v : V} (r : ∀ F, Rep K.1 F v d) {σ : St} {H : Hp} {Q : VK} (h : tE K (mK d) σ H Q) : tC v σ H Q := by
  obtain ⟨F, R, ε, c, ε', o, e, q⟩ := h
  cases e
  exact q v F H (Same.refl F) (o.addSh (r F))
section
variable {X : Cx} {pos : Pos} {j : Nat}
theorem me_int {i : Int} : PE X (.Constant (.int i) j pos) (tE X.E (mK (.int i))) := pe_int.weak fun _ _ _ => tE_k (d := .int i) (v := .int i) fun _ => by simp [Rep]
theorem me_str {i : Str} : PE X (.Constant (.str i) j pos) (tE X.E (mK (.str i))) := pe_str.weak fun _ _ _ => tE_k (d := .str i) (v := .str i) fun _ => by simp [Rep]
theorem me_bl {i : Bool} : PE X (.Constant (.bool i) j pos) (tE X.E (mK (.bool i))) := pe_bl.weak fun _ _ _ => tE_k (d := .bool i) (v := .bl i) fun _ => by simp [Rep]
theorem me_non : PE X (.Constant .none j pos) (tE X.E (mK .none)) := pe_non.weak fun _ _ _ => tE_k (d := .none) (v := .non) fun _ => by simp [Rep]
end
def mPl (i : Nat) : OM := fun ε => match ε[i]? with
  | some (.sh _) => some (.pl i, ε)
  | some (.ls _) => some (.pl i, ε)
  | some (.dc _ _) => some (.pl i, ε)
  | some (.ob _ _) => some (.pl i, ε)
  | some (.px _ _ _ _) => some (.pl i, ε)
  | some (.fn _) => some (.pl i, ε)
  | some (.fd _) => some (.pl i, ε)
  | some (.fk _) => some (.pl i, ε)
  | _ => none
theorem mPl_eq {i : Nat} {ε ε' : Cs} {o : Opd} (h : mPl i ε = some (o, ε')) : o = .pl i ∧ ε' = ε ∧ ∃ c, ε[i]? = some c ∧ c ≠ .no := by
  unfold mPl at h
  split at h
  · rename_i hh; cases h; exact ⟨rfl, rfl, _, hh, fun z => nomatch z⟩
  · rename_i hh; cases h; exact ⟨rfl, rfl, _, hh, fun z => nomatch z⟩
  · rename_i hh; cases h; exact ⟨rfl, rfl, _, hh, fun z => nomatch z⟩
  · rename_i hh; cases h; exact ⟨rfl, rfl, _, hh, fun z => nomatch z⟩
  · rename_i hh; cases h; exact ⟨rfl, rfl, _, hh, fun z => nomatch z⟩
  · rename_i hh; cases h; exact ⟨rfl, rfl, _, hh, fun z => nomatch z⟩
  · rename_i hh; cases h; exact ⟨rfl, rfl, _, hh, fun z => nomatch z⟩
  · rename_i hh; cases h; exact ⟨rfl, rfl, _, hh, fun z => nomatch z⟩
  · cases h
theorem mo_name {X : Cx} {i : Nat} {x : Str} {pos : Pos} (h : PE X (.Name x pos) (tVar i)) : PE X (.Name x pos) (tO X.E (mPl i)) := h.weak fun σ H Q q => by
  obtain ⟨F, R, ε, o, ε', s, e, q⟩ := q
  obtain ⟨rfl, rfl, c, hc, hn⟩ := mPl_eq e
  obtain ⟨v, hv⟩ := s.val hc hn
  exact ⟨v, hv, q v F H (Same.refl F) (.pl hv .nil) s⟩
/-- a name as a value: an owned list is frozen -/
def mVar (i : Nat) : EM := fun ε => match ε[i]? with
  | some (.sh d) => some (.sh d, ε)
  | some (.ls ds) => some (.sh (.list ds), ε.set i (.sh (.list ds)))
  | _ => none
theorem Sep.frzVal {K : Ek} {F R H : Hp} {σ : St} {ε : Cs} {i : Nat} {c : C} {d : D} (s : Sep K F R H σ ε []) (h : ε[i]? = some c) (hd : cD c = some d) {Q : VK} (q : ∀ v F' H', Same F F' → Sep K F' R H' σ (ε.set i (.sh d)) [(v, .sh d)] → Q v H') : ∃ v, σ[i]? = some (some v) ∧ Q v H := by
  obtain ⟨F', v, fm, hv, r, s'⟩ := s.freezeAt h hd
  exact ⟨v, hv, q v F' H fm (s'.addSh r)⟩
theorem me_name {X : Cx} {i : Nat} {x : Str} {pos : Pos} (h : PE X (.Name x pos) (tVar i)) : PE X (.Name x pos) (tE X.E (mVar i)) := h.weak fun σ H Q q => by
  obtain ⟨F, R, ε, c, ε', s, e, q⟩ := q
  unfold mVar at e
  split at e
  · rename_i d hd
    cases e
    obtain ⟨v, h1, h2⟩ := s.sh hd
    exact ⟨v, h1, q v F H (Same.refl F) (s.addSh h2)⟩
  · rename_i ds hd
    cases e
    exact s.frzVal hd rfl q
  · cases e
def mTm (m : EM) : OM := fun ε => do
  let (c, ε1) ← m ε
  some (.tm c, ε1)
theorem tO_tm {K : Ek} {m : EM} {σ : St} {H : Hp} {Q : VK} (h : tO K (mTm m) σ H Q) : tE K m σ H Q := by
  obtain ⟨F, R, ε, o, ε', s, e, q⟩ := h
  unfold mTm at e
  cases e1 : m ε with
  | none => simp [e1] at e
  | some p =>
    obtain ⟨c, ε1⟩ := p
    simp [e1] at e
    obtain ⟨rfl, rfl⟩ := e
    exact ⟨F, R, ε, c, ε1, s, e1, fun v F' H' fm p => q v F' H' fm (.tm .nil) p⟩
theorem mo_tm {X : Cx} {e : Expr} {m : EM} (h : PE X e (tE X.E m)) : PE X e (tO X.E (mTm m)) := h.weak fun _ _ _ => tO_tm
def fzO : Opd → Cs → Option (D × Cs)
  | .pl i, ε => match ε[i]? with
    | some (.sh d) => some (d, ε)
    | some (.ls ds) => some (.list ds, ε.set i (.sh (.list ds)))
    | _ => none
  | .tm (.sh d), ε => some (d, ε)
  | .tm (.ls ds), ε => some (.list ds, ε)
  | .tm _, _ => none
def fzs : List Opd → Cs → Option (List D × Cs)
  | [], ε => some ([], ε)
  | o :: os, ε => do
    let (d, ε1) ← fzO o ε
    let (ds, ε2) ← fzs os ε1
    some (d :: ds, ε2)
section
variable {K : Ek} {F R H : Hp} {σ : St} {ε ε' : Cs} {T : Tms}
theorem fzO_pl {i : Nat} {v : V} {d : D} (s : Sep K F R H σ ε T) (hv : σ[i]? = some (some v)) (e : fzO (.pl i) ε = some (d, ε')) : ∃ F', Same F F' ∧ Rep K.1 F' v d ∧ Sep K F' R H σ ε' T := by
  have own : ∀ {c : C}, ε[i]? = some c → cD c = some d → ε' = ε.set i (.sh d) → ∃ F', Same F F' ∧ Rep K.1 F' v d ∧ Sep K F' R H σ ε' T := fun {c} h1 h2 h3 => by
    obtain ⟨F', w, fm, hw, r, s'⟩ := s.freezeAt h1 h2
    rw [hv] at hw
    cases hw
    exact ⟨F', fm, r, h3 ▸ s'⟩
  unfold fzO at e
  simp only at e
  split at e
  · rename_i d' hd
    cases e
    obtain ⟨w, h1, h2⟩ := s.sh hd
    rw [hv] at h1
    cases h1
    exact ⟨F, Same.refl F, h2, s⟩
  · rename_i ds hd
    cases e
    exact own hd rfl rfl
  · cases e
theorem fzO_tm {c : C} {v : V} {d : D} (s : Sep K F R H σ ε ((v, c) :: T)) (e : fzO (.tm c) ε = some (d, ε')) : ε' = ε ∧ ∃ F', Same F F' ∧ Rep K.1 F' v d ∧ Sep K F' R H σ ε T := by
  have h : cD c = some d ∧ ε' = ε := by
    unfold fzO at e
    split at e
    · rename_i h; cases h
    · rename_i h; cases h; cases e; exact ⟨rfl, rfl⟩
    · rename_i h; cases h; cases e; exact ⟨rfl, rfl⟩
    · cases e
  exact ⟨h.2, s.freeze h.1⟩
end
theorem fzs_ok {K : Ek} {R H : Hp} {σ : St} {T : Tms} : ∀ {os : List Opd} {vs : List V} {F : Hp} {ε ε' : Cs} {ds : List D}, Sep K F R H σ ε (tmO os vs ++ T) → OpV σ vs os → fzs os ε = some (ds, ε') → ∃ F', Same F F' ∧ Reps K.1 F' vs ds ∧ Sep K F' R H σ ε' T
  | [], vs, F, ε, ε', ds, s, h, e => by
    cases h
    cases e
    exact ⟨F, Same.refl F, rfl, s⟩
  | o :: os, vs, F, ε, ε', ds, s, h, e => by
    unfold fzs at e
    cases e1 : fzO o ε with
    | none => simp [e1] at e
    | some p =>
      obtain ⟨d, ε1⟩ := p
      cases e2 : fzs os ε1 with
      | none => simp [e1, e2] at e
      | some p2 =>
        obtain ⟨ds2, ε2⟩ := p2
        simp [e1, e2] at e
        obtain ⟨rfl, rfl⟩ := e
        cases h with
        | @pl _ v vs' _ hv h2 =>
          obtain ⟨F1, fm1, r1, s1⟩ := fzO_pl s hv e1
          obtain ⟨F2, fm2, r2, s2⟩ := fzs_ok (os := os) (vs := vs') s1 h2 e2
          exact ⟨F2, fm1.trans fm2, ⟨_, _, rfl, Rep.mono fm2 _ _ r1, r2⟩, s2⟩
        | tm h2 =>
          obtain ⟨rfl, F1, fm1, r1, s1⟩ := fzO_tm s e1
          obtain ⟨F2, fm2, r2, s2⟩ := fzs_ok s1 h2 e2
          exact ⟨F2, fm1.trans fm2, ⟨_, _, rfl, Rep.mono fm2 _ _ r1, r2⟩, s2⟩
def lend : List Opd → Cs → Option (List C × Cs)
  | [], ε => some ([], ε)
  | .pl i :: os, ε => match ε[i]? with
    | some (.sh d) => do
      let (cs, ε1) ← lend os ε
      some (.sh d :: cs, ε1)
    | some .no => none
    | none => none
    | some c => do
      let (cs, ε1) ← lend os (ε.set i .no)
      some (c :: cs, ε1)
  | .tm c :: os, ε => do
    let (cs, ε1) ← lend os ε
    some (c :: cs, ε1)
theorem lend_ok {K : Ek} {F H : Hp} {σ : St} {T : Tms} : ∀ {os : List Opd} {vs : List V} {R : Hp} {ε ε' : Cs} {cs : List C}, Sep K F R H σ ε (tmO os vs ++ T) → OpV σ vs os → lend os ε = some (cs, ε') → Sep K F R H σ ε' (vs.zip cs ++ T) ∧ cs.length = os.length
  | [], vs, R, ε, ε', cs, s, h, e => by
    cases h
    cases e
    exact ⟨s, rfl⟩
  | .tm c :: os, vs, R, ε, ε', cs, s, h, e => by
    unfold lend at e
    cases e2 : lend os ε with
    | none => simp [e2] at e
    | some p =>
      obtain ⟨cs2, ε2⟩ := p
      simp [e2] at e
      obtain ⟨rfl, rfl⟩ := e
      cases h with
      | tm h2 =>
        obtain ⟨R1, _, s1, back⟩ := s.hide
        obtain ⟨s2, l2⟩ := lend_ok s1 h2 e2
        exact ⟨back F H σ ε2 _ (Same.refl F) s2, by simp [l2]⟩
  | .pl i :: os, vs, R, ε, ε', cs, s, h, e => by
    cases h with
    | @pl _ v vs' _ hv h2 =>
      have fin : ∀ {c : C} {ε1 : Cs}, Sep K F R H σ ε1 ((v, c) :: (tmO os vs' ++ T)) → (do let (cs, ε2) ← lend os ε1; some (c :: cs, ε2)) = some (cs, ε') → Sep K F R H σ ε' ((v :: vs').zip cs ++ T) ∧ cs.length = (Opd.pl i :: os).length := fun {c ε1} s1 e => by
        cases e2 : lend os ε1 with
        | none => simp [e2] at e
        | some p =>
          obtain ⟨cs2, ε2⟩ := p
          simp [e2] at e
          obtain ⟨rfl, rfl⟩ := e
          obtain ⟨R1, _, s2, back⟩ := s1.hide
          obtain ⟨s3, l3⟩ := lend_ok s2 h2 e2
          exact ⟨back F H σ ε2 _ (Same.refl F) s3, by simp [l3]⟩
      unfold lend at e
      cases hc : ε[i]? with
      | none => simp [hc] at e
      | some c =>
        cases c with
        | no => simp [hc] at e
        | sh d => exact fin (s.copy hc hv) (by simpa [hc] using e)
        | ls ds => exact fin (s.take hc hv) (by simpa [hc] using e)
        | dc k ds => exact fin (s.take hc hv) (by simpa [hc] using e)
        | ob k ds => exact fin (s.take hc hv) (by simpa [hc] using e)
        | px _ _ _ _ => exact fin (s.take hc hv) (by simpa [hc] using e)
        | fn _ => exact fin (s.take hc hv) (by simpa [hc] using e)
        | fd _ => exact fin (s.take hc hv) (by simpa [hc] using e)
        | fk _ => exact fin (s.take hc hv) (by simpa [hc] using e)
        | fz _ => exact fin (s.take hc hv) (by simpa [hc] using e)
def tTupH (t : TA) : TE := fun σ H Q => t σ H fun xs H1 => xs.length ≤ sizeLine ∧ ∀ (p : Addr) (o : Obj), o.dict = none → H1 p = none → Q (.ref p) (upd H1 p (.frz o (.tup xs)))
/-- a tuple is laid, known to have no dict -/
theorem pe_tupH {X : Cx} {es : List Expr} {t : TA} {x1 : Nat} {pos : Pos} (h : PA X es t) : PE X (.Tuple es x1 pos) (tTupH t) := by
  refine ⟨fun pins s σ H Q I hq => ?_⟩
  refine wpAny_Tuple_spliced (thn (h.run pos pins s σ H _ I hq) fun us s1 ⟨xs, H1, I1, r, z, q⟩ => ⟨by rw [← r.length]; exact z, ?_⟩)
  have hf : H1 s1.heap.objs.size = none := I1.hok.fresh (Nat.le_refl _)
  refine ⟨.ref s1.heap.objs.size, upd H1 s1.heap.objs.size (.frz { cls := .type "tuple", data := .seq us.toArray } (.tup xs)), I1.laid (t' := s1.toks) (fun b u e => Heap.get?_push_of_some _ e) (Nat.le_refl _) ?_, rfl, q _ _ rfl hf⟩
  exact ⟨Heap.get?_push_size _ rfl, z, us, r, IsTup.new _ _⟩
def mTup (ma : AM) : EM := fun ε => do
  let (os, ε1) ← ma ε
  let (ds, ε2) ← fzs os ε1
  if ds.length ≤ sizeLine then some (.sh (.tuple ds), ε2) else none
def mLst (ma : AM) : EM := fun ε => do
  let (os, ε1) ← ma ε
  let (ds, ε2) ← fzs os ε1
  if ds.length ≤ sizeLine then some (.ls ds, ε2) else none
/-- a list of own things -/
def mLstN (ma : AM) : EM := fun ε => do
  let (os, ε1) ← ma ε
  let (cs, ε2) ← lend os ε1
  if cs.length ≤ sizeLine then some (.ob .ls cs, ε2) else none
theorem tE_tup {K : Ek} {ma : AM} {σ : St} {H : Hp} {Q : VK} (h : tE K (mTup ma) σ H Q) : tTupH (tA K ma) σ H Q := by
  obtain ⟨F, R, ε, c, ε', s, e, q⟩ := h
  unfold mTup at e
  cases e1 : ma ε with
  | none => simp [e1] at e
  | some p =>
    obtain ⟨os, ε1⟩ := p
    cases e2 : fzs os ε1 with
    | none => simp [e1, e2] at e
    | some p2 =>
      obtain ⟨ds, ε2⟩ := p2
      simp [e1, e2] at e
      obtain ⟨hl, rfl, rfl⟩ := e
      refine ⟨F, R, ε, os, ε1, s, e1, fun vs F1 H1 fm1 v1 s1 => ?_⟩
      rw [← List.append_nil (tmO os vs)] at s1
      obtain ⟨F2, fm2, r2, s2⟩ := fzs_ok s1 v1 e2
      refine ⟨by rw [r2.length]; exact hl, fun p o ho hp => ?_⟩
      have g := Grw.laid (u := .frz o (.tup vs)) s2.sub hp
      exact q _ _ _ ((fm1.trans fm2).trans g.fm) ((s2.grow g).addSh ⟨p, vs, rfl, ⟨o, ho, upd_same⟩, Reps.mono g.fm _ _ r2⟩)
theorem tE_lst {K : Ek} {ma : AM} {σ : St} {H : Hp} {Q : VK} (h : tE K (mLst ma) σ H Q) : tLst (tA K ma) σ H Q := by
  obtain ⟨F, R, ε, c, ε', s, e, q⟩ := h
  unfold mLst at e
  cases e1 : ma ε with
  | none => simp [e1] at e
  | some p =>
    obtain ⟨os, ε1⟩ := p
    cases e2 : fzs os ε1 with
    | none => simp [e1, e2] at e
    | some p2 =>
      obtain ⟨ds, ε2⟩ := p2
      simp [e1, e2] at e
      obtain ⟨hl, rfl, rfl⟩ := e
      refine ⟨F, R, ε, os, ε1, s, e1, fun vs F1 H1 fm1 v1 s1 => ?_⟩
      rw [← List.append_nil (tmO os vs)] at s1
      obtain ⟨F2, fm2, r2, s2⟩ := fzs_ok s1 v1 e2
      refine ⟨by rw [r2.length]; exact hl, fun p hp => ?_⟩
      exact q _ _ _ (fm1.trans fm2) (s2.newL hp r2)
/-- a new list of what temporaries hold -/
theorem Sep.newN {K : Ek} {F R H : Hp} {σ : St} {ε : Cs} {T : Tms} {vs : List V} {cs : List C} {p : Addr} (hl : cs.length = vs.length) (s : Sep K F R H σ ε (vs.zip cs ++ T)) (hp : H p = none) : Sep K F R (upd H p (.lst vs)) σ ε ((.ref p, .ob .ls cs) :: T) :=
  Sep.change (T1 := vs.zip cs) s fun gs h n _ => by
    have e1 : (vs.zip cs).map (fun q => some q.1) = vs.map some := by
      rw [show (fun q : V × C => some q.1) = (fun x => some x) ∘ (fun q : V × C => q.1) from rfl, ← List.map_map, List.map_fst_zip (by omega)]
    have e2 : (vs.zip cs).map (·.2) = cs := List.map_snd_zip (by omega)
    rw [e1, e2] at h
    have np : p ∉ gs.flatten := fun z => RpCs.live h p z hp
    refine ⟨p :: gs.flatten, ⟨p, vs, gs, rfl, rfl, upd_same, RpCs.frame (Same.refl F) (fun b hb => upd_ne fun z => np (z ▸ hb)) h⟩, List.nodup_cons.mpr ⟨np, n⟩, fun b hb => ?_, fun b u _ e => by rw [upd_ne (ne_of_none e hp)]; exact e⟩
    rcases List.mem_cons.mp hb with rfl | hb
    · exact .inr hp
    · exact .inl hb
theorem tE_lstN {K : Ek} {ma : AM} {σ : St} {H : Hp} {Q : VK} (h : tE K (mLstN ma) σ H Q) : tLst (tA K ma) σ H Q := by
  obtain ⟨F, R, ε, c, ε', s, e, q⟩ := h
  unfold mLstN at e
  cases e1 : ma ε with
  | none => simp [e1] at e
  | some p =>
    obtain ⟨os, ε1⟩ := p
    cases e2 : lend os ε1 with
    | none => simp [e1, e2] at e
    | some p2 =>
      obtain ⟨cs, ε2⟩ := p2
      simp [e1, e2] at e
      obtain ⟨hl, rfl, rfl⟩ := e
      refine ⟨F, R, ε, os, ε1, s, e1, fun vs F1 H1 fm1 v1 s1 => ?_⟩
      rw [← List.append_nil (tmO os vs)] at s1
      obtain ⟨s2, l2⟩ := lend_ok s1 v1 e2
      have lv := v1.len
      refine ⟨by omega, fun p hp => ?_⟩
      exact q _ _ _ fm1 (s2.newN (by omega) hp)
section
variable {X : Cx} {es : List Expr} {m : AM} {pos : Pos} {k : Nat}
theorem me_tup (h : PA X es (tA X.E m)) : PE X (.Tuple es k pos) (tE X.E (mTup m)) := (pe_tupH h).weak fun _ _ _ => tE_tup
theorem me_lst (h : PA X es (tA X.E m)) : PE X (.List es pos) (tE X.E (mLst m)) := (pe_lst h).weak fun _ _ _ => tE_lst
theorem me_lstN (h : PA X es (tA X.E m)) : PE X (.List es pos) (tE X.E (mLstN m)) := (pe_lst h).weak fun _ _ _ => tE_lstN
theorem ma_nil : PA X [] (tA X.E mNil) := pa_nil.weak fun _ _ _ => tA_nil
end
def mU (f : D → Option C) (a : OM) : EM := fun ε => do
  let (o1, ε1) ← a ε
  let d1 ← bor ε1 o1
  let c ← f d1
  some (c, ε1)
def mB (f : D → D → Option C) (a b : OM) : EM := fun ε => do
  let (o1, ε1) ← a ε
  let (o2, ε2) ← b ε1
  let d1 ← bor ε2 o1
  let d2 ← bor ε2 o2
  let c ← f d1 d2
  some (c, ε2)
def Fn1 (K : PySem.W.Frag) (f : D → Option C) (r : V → Hp → VK → Prop) : Prop :=
  ∀ F H x d c Q, Same F H → RepB K F H x d → f d = some c → (∀ v F' H', Grow K F H F' H' v c → Q v H') → r x H Q
def Fn2 (K : PySem.W.Frag) (f : D → D → Option C) (r : V → V → Hp → VK → Prop) : Prop :=
  ∀ F H x y d e c Q, Same F H → RepB K F H x d → RepB K F H y e → f d e = some c → (∀ v F' H', Grow K F H F' H' v c → Q v H') → r x y H Q
def lf1 (f : D → Option C) : List D → Option C | [a] => f a | _ => none
def lf2 (f : D → D → Option C) : List D → Option C | [a, b] => f a b | _ => none
theorem mU_eq (f : D → Option C) (a : OM) : mU f a = mOp (lf1 f) (mCons a mNil) := by
  funext ε
  unfold mU mOp mCons mNil
  cases a ε with
  | none => rfl
  | some p =>
    obtain ⟨o, ε1⟩ := p
    simp [bors]
    cases bor ε1 o <;> rfl
theorem mB_eq (f : D → D → Option C) (a b : OM) : mB f a b = mOp (lf2 f) (mCons a (mCons b mNil)) := by
  funext ε
  unfold mB mOp mCons mNil
  cases a ε with
  | none => rfl
  | some p =>
    obtain ⟨o, ε1⟩ := p
    cases hb : b ε1 with
    | none => simp [hb]
    | some p2 =>
      obtain ⟨o2, ε2⟩ := p2
      simp [hb, bors]
      cases bor ε2 o <;> simp
      cases bor ε2 o2 <;> rfl
theorem RepBs.one {K : PySem.W.Frag} {F H : Hp} {vs : List V} {d : D} (h : RepBs K F H vs [d]) : ∃ x, vs = [x] ∧ RepB K F H x d := by
  cases h with
  | cons h t => cases t; exact ⟨_, rfl, h⟩
theorem RepBs.two {K : PySem.W.Frag} {F H : Hp} {vs : List V} {d e : D} (h : RepBs K F H vs [d, e]) : ∃ x y, vs = [x, y] ∧ RepB K F H x d ∧ RepB K F H y e := by
  cases h with
  | cons h t =>
    obtain ⟨y, rfl, h2⟩ := t.one
    exact ⟨_, y, rfl, h, h2⟩
theorem tE_u {K : Ek} {f : D → Option C} {r : V → Hp → VK → Prop} (hf : Fn1 K.1 f r) {a : OM} {σ : St} {H : Hp} {Q : VK} (h : tE K (mU f a) σ H Q) : tO K a σ H fun x H1 => r x H1 Q := by
  rw [mU_eq] at h
  have hB : FnB K.1 (lf1 f) (fun vs H Q => ∃ x, vs = [x] ∧ r x H Q) := by
    intro F H vs ds c Q s hr e q
    match ds, e with
    | [d], e =>
      obtain ⟨x, rfl, h1⟩ := hr.one
      exact ⟨x, rfl, hf F H x d c Q s h1 e q⟩
  have := tA_cons (op_sem hB h)
  refine tO_mono this fun v H' h2 => ?_
  have h3 := tA_nil h2
  obtain ⟨x, e, h4⟩ := h3
  cases e
  exact h4
theorem tE_b {K : Ek} {f : D → D → Option C} {r : R2} (hf : Fn2 K.1 f r) {a b : OM} {σ : St} {H : Hp} {Q : VK} (h : tE K (mB f a b) σ H Q) : tOp r (tO K a) (tO K b) σ H Q := by
  rw [mB_eq] at h
  have hB : FnB K.1 (lf2 f) (fun vs H Q => ∃ x y, vs = [x, y] ∧ r x y H Q) := by
    intro F H vs ds c Q s hr e q
    match ds, e with
    | [d, d2], e =>
      obtain ⟨x, y, rfl, h1, h2⟩ := hr.two
      exact ⟨x, y, rfl, hf F H x y d d2 c Q s h1 h2 e q⟩
  have := tA_cons (op_sem hB h)
  refine tO_mono this fun v H' h2 => ?_
  refine tO_mono (tA_cons h2) fun w H'' h3 => ?_
  have h4 := tA_nil h3
  obtain ⟨x, y, e, h5⟩ := h4
  cases e
  exact h5
section
variable {X : Cx} {a b : Expr} {ma mb : OM} {pos : Pos}
theorem me_bin {op : Operator} {f : D → D → Option C} {r : R2} (ho : OpR X (binaryOp op) r) (hf : Fn2 X.K f r) (ha : PE X a (tO X.E ma)) (hb : PE X b (tO X.E mb)) : PE X (.BinOp a op b pos) (tE X.E (mB f ma mb)) :=
  (pe_op ho ha hb).weak fun _ _ _ => tE_b hf
theorem me_un {op : UnaryOp} {f : D → Option C} {r : V → Hp → VK → Prop} (ho : UnR X (unaryOp op) r) (hf : Fn1 X.K f r) (ha : PE X a (tO X.E ma)) : PE X (.UnaryOp op a pos) (tE X.E (mU f ma)) :=
  (pe_un ho ha).weak fun _ _ _ => tE_u hf
theorem me_cmp {op : CmpOp} {f : D → D → Option C} {r : R2} (ho : OpR X (compareOp op) r) (hf : Fn2 X.K f r) (ha : PE X a (tO X.E ma)) (hb : PE X b (tO X.E mb)) (hm : behindInMarks op b = false) : PE X (.Compare a [op] [b] pos) (tE X.E (mB f ma mb)) :=
  (pe_cmpR ho ha hb hm).weak fun _ _ _ => tE_b hf
theorem me_ix {f : D → D → Option C} {r : R2} (ho : IxR X r) (hf : Fn2 X.K f r) (ha : PE X a (tO X.E ma)) (hb : PE X b (tO X.E mb)) (hs : PlainIx b) : PE X (.Subscript a b pos) (tE X.E (mB f ma mb)) :=
  (pe_ix ho ha hb hs).weak fun _ _ _ => tE_b hf
end
section
variable {X : Cx} {e : Expr} {es : List Expr} {m : AM} {x : Str} {p pos : Pos} {id T : String} {r : List V → Hp → VK → Prop} {f : List D → Option C}
theorem me_callB (hc : CallR X (.builtin id) r) (hf : FnB X.K f r) (hg : Gl X x) (hm : X.mg x = none) (hv : bootBuiltins x = some (.builtin id)) (ha : PA X (e :: es) (tA X.E m)) (hn : x ≠ "__name__") (hdb : (x == ("__debug__" : Str)) = false)
    (he : starEach (e :: es) X.env = (false, eval e X.env) :: starEach es X.env) (hpl : (backTo pos (starEach es X.env)).any (·.1) = false) : PE X (.Call (.Name x p) (e :: es) [] pos) (tE X.E (mOp f m)) :=
  (pe_callB hc hg hm hv ha hn hdb he hpl).weak fun _ _ _ h => op_sem hf h
theorem me_callTy (hc : CallR X (.type T) r) (hf : FnB X.K f r) (hg : Gl X x) (hm : X.mg x = none) (hv : bootBuiltins x = some (.type T)) (ha : PA X (e :: es) (tA X.E m)) (hn : x ≠ "__name__") (hdb : (x == ("__debug__" : Str)) = false)
    (he : starEach (e :: es) X.env = (false, eval e X.env) :: starEach es X.env) (hpl : (backTo pos (starEach es X.env)).any (·.1) = false) : PE X (.Call (.Name x p) (e :: es) [] pos) (tE X.E (mOp f m)) :=
  (pe_callTy hc hg hm hv ha hn hdb he hpl).weak fun _ _ _ h => op_sem hf h
end
end L2.M
namespace L2.M
open PySem PySem.Spec PyProof.Rows
abbrev TM := Cs → Option (Bool × Cs)
def tT (K : Ek) (m : TM) : TT := fun σ H Q => ∃ F R ε b ε', Sep K F R H σ ε [] ∧ m ε = some (b, ε') ∧ ∀ F' H', Same F F' → Sep K F' R H' σ ε' [] → Q b H'
def mTst (m : EM) : TM := fun ε => match m ε with
  | some (.sh (.bool b), ε') => some (b, ε')
  | _ => none
theorem Sep.boolT {K : Ek} {F R H : Hp} {σ : St} {ε : Cs} {T : Tms} {v : V} {b : Bool} (s : Sep K F R H σ ε ((v, .sh (.bool b)) :: T)) : v = .bl b := by
  have r := s.repT
  simpa only [Rep] using r
theorem Sep.addB {K : Ek} {F R H : Hp} {σ : St} {ε : Cs} {T : Tms} (s : Sep K F R H σ ε T) (b : Bool) : Sep K F R H σ ε ((.bl b, .sh (.bool b)) :: T) := s.addSh (by simp only [Rep])
section
variable {K : Ek} {σ : St} {H : Hp}
theorem tE_tst {m : EM} {Q : Bool → Hp → Prop} (h : tT K (mTst m) σ H Q) : tE K m σ H (fun x H' => ∃ k, x = .bl k ∧ Q k H') := by
  obtain ⟨F, R, ε, b, ε', o, e, q⟩ := h
  unfold mTst at e
  split at e
  · rename_i b' ε1 hm
    cases e
    exact ⟨F, R, ε, _, ε', o, hm, fun v F' H' fm p => ⟨b, p.boolT, q F' H' fm p.drop⟩⟩
  · cases e
end
section
variable {X : Cx} {a b e : Expr} {ma mb : OM} {m : EM} {pos : Pos} {rest : List Expr}
theorem mt_val (h : PE X e (tE X.E m)) (he : ∀ whole, isTrue e X.env whole = (do let v ← whole; standAt e.pos; holding [v] (truthy v))) : PT X e (tT X.E (mTst m)) :=
  (pt_val h he).weak fun _ _ _ => tE_tst
theorem mt_cmp {op : CmpOp} {f : D → D → Option C} {r : R2} (ho : OpR X (compareOp op) r) (hf : Fn2 X.K f r) (ha : PE X a (tO X.E ma)) (hb : PE X b (tO X.E mb)) (hm : behindInMarks op b = false) : PT X (.Compare a [op] [b] pos) (tT X.E (mTst (mB f ma mb))) :=
  (pt_cmpR ho ha hb hm).weak fun _ _ _ h => tE_b hf (tE_tst h)
def mNotT (m : TM) : TM := fun ε => do
  let (b, ε1) ← m ε
  some (!b, ε1)
def mAndT (m n : TM) : TM := fun ε => do
  let (b, ε1) ← m ε
  if b then n ε1 else some (false, ε1)
def mOrT (m n : TM) : TM := fun ε => do
  let (b, ε1) ← m ε
  if b then some (true, ε1) else n ε1
theorem tT_bind {K : Ek} {m : TM} {n : Bool → TM} {σ : St} {H : Hp} {Q : Bool → Hp → Prop} (h : tT K (fun ε => do let (b, ε1) ← m ε; n b ε1) σ H Q) : tT K m σ H fun b H1 => tT K (n b) σ H1 Q := by
  obtain ⟨F, R, ε, c, ε', o, e, q⟩ := h
  cases e1 : m ε with
  | none => simp [e1] at e
  | some p =>
    obtain ⟨b, ε1⟩ := p
    simp [e1] at e
    exact ⟨F, R, ε, b, ε1, o, e1, fun F1 H1 fm1 s1 => ⟨F1, R, ε1, c, ε', s1, e, fun F2 H2 fm2 s2 => q F2 H2 (fm1.trans fm2) s2⟩⟩
theorem tT_pure {K : Ek} {b : Bool} {σ : St} {H : Hp} {Q : Bool → Hp → Prop} (h : tT K (fun ε => some (b, ε)) σ H Q) : Q b H := by
  obtain ⟨F, R, ε, c, ε', o, e, q⟩ := h
  cases e
  exact q F H (Same.refl F) o
theorem tT_mono {K : Ek} {m : TM} {σ : St} {H : Hp} {Q Q' : Bool → Hp → Prop} (h : tT K m σ H Q) (w : ∀ v H', Q v H' → Q' v H') : tT K m σ H Q' := by
  obtain ⟨F, R, ε, o, ε', a, b, c⟩ := h
  exact ⟨F, R, ε, o, ε', a, b, fun F' H' fm s => w _ _ (c F' H' fm s)⟩
theorem mt_not {m : TM} (h : PT X e (tT X.E m)) : PT X (.UnaryOp .Not e pos) (tT X.E (mNotT m)) := (pt_not h).weak fun σ H Q q =>
  tT_mono (tT_bind (n := fun b ε => some (!b, ε)) q) fun _ _ z => tT_pure z
theorem mt_and {m n : TM} (h : PT X a (tT X.E m)) (g : PW X (.BoolOp .And (b :: rest) pos) (tT X.E n)) : PW X (.BoolOp .And (a :: b :: rest) pos) (tT X.E (mAndT m n)) := (pw_and h g).weak fun σ H Q q =>
  tT_mono (tT_bind (n := fun b ε => if b then n ε else some (false, ε)) q) fun b _ z => by
    cases b with
    | true => rw [if_pos rfl]; exact z
    | false => rw [if_neg Bool.false_ne_true]; exact tT_pure z
theorem mt_or {m n : TM} (h : PT X a (tT X.E m)) (g : PW X (.BoolOp .Or (b :: rest) pos) (tT X.E n)) : PW X (.BoolOp .Or (a :: b :: rest) pos) (tT X.E (mOrT m n)) := (pw_or h g).weak fun σ H Q q =>
  tT_mono (tT_bind (n := fun b ε => if b then some (true, ε) else n ε) q) fun b _ z => by
    cases b with
    | true => rw [if_pos rfl]; exact tT_pure z
    | false => rw [if_neg Bool.false_ne_true]; exact z
theorem mt_and1 {m : TM} (h : PT X a (tT X.E m)) : PW X (.BoolOp .And [a] pos) (tT X.E m) := pw_and1 h
theorem mt_or1 {m : TM} (h : PT X a (tT X.E m)) : PW X (.BoolOp .Or [a] pos) (tT X.E m) := pw_or1 h
def mNotE (m : EM) : EM := fun ε => match m ε with
  | some (.sh (.bool b), ε1) => some (.sh (.bool (!b)), ε1)
  | _ => none
def mAndE (m n : EM) : EM := fun ε => match m ε with
  | some (.sh (.bool true), ε1) => n ε1
  | some (.sh (.bool false), ε1) => some (.sh (.bool false), ε1)
  | _ => none
def mOrE (m n : EM) : EM := fun ε => match m ε with
  | some (.sh (.bool true), ε1) => some (.sh (.bool true), ε1)
  | some (.sh (.bool false), ε1) => n ε1
  | _ => none
def mIfE (t : TM) (m n : EM) : EM := fun ε => do
  let (b, ε1) ← t ε
  if b then m ε1 else n ε1
theorem me_not (h : PE X e (tE X.E m)) : PE X (.UnaryOp .Not e pos) (tE X.E (mNotE m)) := (pe_not h).weak fun σ H Q q => by
  obtain ⟨F, R, ε, c, ε', o, e, q⟩ := q
  unfold mNotE at e
  split at e
  · rename_i b ε1 hm
    cases e
    exact ⟨F, R, ε, _, ε', o, hm, fun v F' H' fm p => ⟨b, p.boolT, q _ F' H' fm (p.drop.addB _)⟩⟩
  · cases e
theorem me_and {n : EM} (h : PE X a (tE X.E m)) (g : PE X (.BoolOp .And (b :: rest) pos) (tE X.E n)) : PE X (.BoolOp .And (a :: b :: rest) pos) (tE X.E (mAndE m n)) := (pe_and h g).weak fun σ H Q q => by
  obtain ⟨F, R, ε, c, ε', o, e, q⟩ := q
  unfold mAndE at e
  split at e
  · rename_i ε1 hm
    refine ⟨F, R, ε, _, ε1, o, hm, fun v F' H' fm p => ⟨true, p.boolT, ?_⟩⟩
    rw [if_pos rfl]
    exact ⟨F', R, ε1, c, ε', p.drop, e, fun w F2 H2 fm2 p2 => q w F2 H2 (fm.trans fm2) p2⟩
  · rename_i ε1 hm
    cases e
    refine ⟨F, R, ε, _, ε', o, hm, fun v F' H' fm p => ⟨false, p.boolT, ?_⟩⟩
    rw [if_neg Bool.false_ne_true]
    exact q _ F' H' fm (p.drop.addB _)
  · cases e
theorem me_one {op : BoolOp} (h : PE X a (tE X.E m)) : PE X (.BoolOp op [a] pos) (tE X.E m) := pe_one h
theorem me_ife {c : Expr} {t : TM} {n : EM} (hc : PT X c (tT X.E t)) (h : PE X a (tE X.E m)) (g : PE X b (tE X.E n)) : PE X (.IfExp c a b pos) (tE X.E (mIfE t m n)) := (pe_ifExp hc h g).weak fun σ H Q q => by
  obtain ⟨F, R, ε, c, ε', o, e, q⟩ := q
  unfold mIfE at e
  cases e1 : t ε with
  | none => simp [e1] at e
  | some p =>
    obtain ⟨k, ε1⟩ := p
    simp [e1] at e
    refine ⟨F, R, ε, k, ε1, o, e1, fun F1 H1 fm1 s1 => ?_⟩
    cases k with
    | true =>
      rw [if_pos rfl]
      simp at e
      exact ⟨F1, R, ε1, c, ε', s1, e, fun w F2 H2 fm2 p2 => q w F2 H2 (fm1.trans fm2) p2⟩
    | false =>
      rw [if_neg Bool.false_ne_true]
      simp at e
      exact ⟨F1, R, ε1, c, ε', s1, e, fun w F2 H2 fm2 p2 => q w F2 H2 (fm1.trans fm2) p2⟩
end
abbrev GM := List C → Option (C × List C)
def spOf (K : Ek) (np : Nat) (g : GM) : Sp := fun vs H Q _ => vs.length = np ∧ ∃ F R cs c cs', Sep K F R H (vs.map some) cs [] ∧ g cs = some (c, cs') ∧ ∀ v F' H', Same F F' → Sep K F' R H' (vs.map some) cs' [(v, c)] → Q v H'
def frz : List Bool → List Opd → Cs → Option (List Opd × Cs)
  | [], [], ε => some ([], ε)
  | true :: bs, o :: os, ε => do
    let (os', ε1) ← frz bs os ε
    some (o :: os', ε1)
  | false :: bs, o :: os, ε => do
    let (d, ε1) ← fzO o ε
    let (os', ε2) ← frz bs os ε1
    some (.tm (.sh d) :: os', ε2)
  | _, _, _ => none
def wb : List Opd → List C → Cs → Cs
  | .pl i :: os, c :: cs, ε => wb os cs (ε.set i c)
  | .tm _ :: os, _ :: cs, ε => wb os cs ε
  | _, _, ε => ε
def mCall (io : List Bool) (g : GM) (ma : AM) : EM := fun ε => do
  let (os, ε1) ← ma ε
  let (os2, ε2) ← frz io os ε1
  let (cs, ε3) ← lend os2 ε2
  let (c, cs') ← g cs
  some (c, wb os2 cs' ε3)
theorem frz_ok {K : Ek} {H : Hp} {σ : St} {T : Tms} : ∀ {bs : List Bool} {os os2 : List Opd} {vs : List V} {F R : Hp} {ε ε' : Cs}, Sep K F R H σ ε (tmO os vs ++ T) → OpV σ vs os → frz bs os ε = some (os2, ε') →
    ∃ F', Same F F' ∧ Sep K F' R H σ ε' (tmO os2 vs ++ T) ∧ OpV σ vs os2 ∧ os2.length = bs.length
  | [], [], os2, vs, F, R, ε, ε', s, h, e => by
    cases h
    cases e
    exact ⟨F, Same.refl F, s, .nil, rfl⟩
  | true :: bs, o :: os, os2, vs, F, R, ε, ε', s, h, e => by
    unfold frz at e
    cases e1 : frz bs os ε with
    | none => simp [e1] at e
    | some p =>
      obtain ⟨os', ε1⟩ := p
      simp [e1] at e
      obtain ⟨rfl, rfl⟩ := e
      cases h with
      | @pl _ v vs' _ hv h2 =>
        obtain ⟨F', fm, s', v', l'⟩ := frz_ok (os := os) (vs := vs') s h2 e1
        exact ⟨F', fm, s', .pl hv v', by simp [l']⟩
      | @tm c v vs' _ h2 =>
        obtain ⟨R1, _, s1, back⟩ := Sep.hide (T := tmO os vs' ++ T) s
        obtain ⟨F', fm, s', v', l'⟩ := frz_ok s1 h2 e1
        exact ⟨F', fm, back F' H σ ε1 _ fm s', .tm v', by simp [l']⟩
  | false :: bs, o :: os, os2, vs, F, R, ε, ε', s, h, e => by
    unfold frz at e
    cases e1 : fzO o ε with
    | none => simp [e1] at e
    | some p =>
      obtain ⟨d, ε1⟩ := p
      cases e2 : frz bs os ε1 with
      | none => simp [e1, e2] at e
      | some p2 =>
        obtain ⟨os', ε2⟩ := p2
        simp [e1, e2] at e
        obtain ⟨rfl, rfl⟩ := e
        cases h with
        | @pl _ v vs' _ hv h2 =>
          obtain ⟨F1, fm1, r1, s1⟩ := fzO_pl s hv e1
          obtain ⟨F2, fm2, s2, v2, l2⟩ := frz_ok (os := os) (vs := vs') s1 h2 e2
          exact ⟨F2, fm1.trans fm2, s2.addSh (Rep.mono fm2 _ _ r1), .tm v2, by simp [l2]⟩
        | @tm c v vs' _ h2 =>
          obtain ⟨rfl, F1, fm1, r1, s1⟩ := fzO_tm (T := tmO os vs' ++ T) s e1
          obtain ⟨F2, fm2, s2, v2, l2⟩ := frz_ok s1 h2 e2
          exact ⟨F2, fm1.trans fm2, s2.addSh (Rep.mono fm2 _ _ r1), .tm v2, by simp [l2]⟩
  | [], _ :: _, _, _, _, _, _, _, _, _, e => by simp [frz] at e
  | true :: _, [], _, _, _, _, _, _, _, _, e => by simp [frz] at e
  | false :: _, [], _, _, _, _, _, _, _, _, e => by simp [frz] at e
theorem wb_ok {K : Ek} {F R H : Hp} {σ : St} {T : Tms} : ∀ {os : List Opd} {vs : List V} {cs : List C} {ε : Cs}, Sep K F R H σ ε (vs.zip cs ++ T) → OpV σ vs os → cs.length = os.length → Sep K F R H σ (wb os cs ε) T
  | [], vs, cs, ε, s, h, l => by
    cases h
    cases cs with
    | nil => exact s
    | cons _ _ => cases l
  | o :: os, vs, [], ε, s, h, l => by cases l
  | o :: os, vs, c :: cs, ε, s, h, l => by
    cases h with
    | pl hv h2 =>
      unfold wb
      exact wb_ok (Sep.put s hv) h2 (by simpa using l)
    | tm h2 =>
      unfold wb
      exact wb_ok (Sep.drop s) h2 (by simpa using l)
theorem zip_snd {α β : Type} {xs : List α} {ys : List β} (h : ys.length = xs.length) : (xs.zip ys).map (·.2) = ys := List.map_snd_zip (by omega)
theorem zip_fst {α β : Type} {xs : List α} {ys : List β} (h : ys.length = xs.length) : (xs.zip ys).map (·.1) = xs := List.map_fst_zip (by omega)
theorem zip_fsts {β : Type} {xs : List V} {ys : List β} (h : ys.length = xs.length) : (xs.zip ys).map (fun p => some p.1) = xs.map some := by
  rw [show (fun p : V × β => some p.1) = (fun x => some x) ∘ (fun p : V × β => p.1) from rfl, ← List.map_map, zip_fst h]
/-- the callee's frame, and the way back -/
theorem call_sep {K : Ek} {F R H : Hp} {σ : St} {ε3 : Cs} {os : List Opd} {vs : List V} {cs : List C} (s : Sep K F R H σ ε3 (vs.zip cs)) (ho : OpV σ vs os) (hl : cs.length = os.length) :
    ∃ R1, Sep K F R1 H (vs.map some) cs [] ∧ ∀ F' H' cs' T', Same F F' → Sep K F' R1 H' (vs.map some) cs' T' → Sep K F' R H' σ (wb os cs' ε3) T' := by
  have lv := ho.len
  obtain ⟨R1, s1, back⟩ := s.enter
  rw [zip_fsts (by omega), zip_snd (by omega)] at s1
  refine ⟨R1, s1, fun F' H' cs' T' fm s' => ?_⟩
  have lc : cs'.length = vs.length := by have := s'.len; simp at this; omega
  have := back F' H' cs' T' fm (by rw [zip_fsts (by omega)]; exact s')
  rw [zip_fst (by omega)] at this
  exact wb_ok this ho (by omega)
theorem tE_call {K : Ek} {np : Nat} {g : GM} {io : List Bool} {ma : AM} {σ : St} {H : Hp} {Q : VK} (hio : io.length = np) (h : tE K (mCall io g ma) σ H Q) : tCall (spOf K np g) [] E0 (tA K ma) σ H Q := by
  obtain ⟨F, R, ε, c, ε', ok, e, q⟩ := h
  unfold mCall at e
  cases e1 : ma ε with
  | none => simp [e1] at e
  | some p =>
    obtain ⟨os, ε1⟩ := p
    cases e2 : frz io os ε1 with
    | none => simp [e1, e2] at e
    | some p2 =>
      obtain ⟨os2, ε2⟩ := p2
      cases e3 : lend os2 ε2 with
      | none => simp [e1, e2, e3] at e
      | some p3 =>
        obtain ⟨cs, ε3⟩ := p3
        cases e4 : g cs with
        | none => simp [e1, e2, e3, e4] at e
        | some p4 =>
          obtain ⟨c', cs'⟩ := p4
          simp [e1, e2, e3, e4] at e
          obtain ⟨rfl, rfl⟩ := e
          refine ⟨F, R, ε, os, ε1, ok, e1, fun vs F1 H1 fm1 v1 s1 => ?_⟩
          rw [← List.append_nil (tmO os vs)] at s1
          obtain ⟨F2, fm2, s2, v2, l2⟩ := frz_ok s1 v1 e2
          obtain ⟨s3, l3⟩ := lend_ok s2 v2 e3
          rw [List.append_nil] at s3
          obtain ⟨R1, s4, back⟩ := call_sep s3 v2 l3
          refine ⟨by rw [List.append_nil, v2.len, l2]; exact hio, F2, R1, cs, c', cs', by rw [List.append_nil]; exact s4, e4, fun v F' H' fm p => ?_⟩
          rw [List.append_nil] at p
          exact q v F' H' ((fm1.trans fm2).trans fm) (back F' H' cs' _ fm p)
end L2.M
namespace L2.M
open PySem PySem.Spec PyProof.Rows
section
variable {K : PySem.W.Frag} {F H : Hp} {x : V}
theorem rb_non (h : RepB K F H x .none) : x = .non := by
  rcases h with h | ⟨_, _, _, _, h, _⟩
  · simpa only [Rep] using h
  · cases h
theorem rb_bool {b : Bool} (h : RepB K F H x (.bool b)) : x = .bl b := by
  rcases h with h | ⟨_, _, _, _, h, _⟩
  · simpa only [Rep] using h
  · cases h
theorem rb_int {i : Int} (h : RepB K F H x (.int i)) : x = .int i := by
  rcases h with h | ⟨_, _, _, _, h, _⟩
  · simpa only [Rep] using h
  · cases h
theorem rb_str {i : Str} (h : RepB K F H x (.str i)) : x = .str i := by
  rcases h with h | ⟨_, _, _, _, h, _⟩
  · simpa only [Rep] using h
  · cases h
theorem rb_tup {ds : List D} (s : Same F H) (h : RepB K F H x (.tuple ds)) : ∃ a vs, x = .ref a ∧ HdT F a vs ∧ SqT K H a vs ∧ Reps K F vs ds := by
  rcases h with ⟨a, vs, h1, h2, h3⟩ | ⟨_, _, _, _, h, _⟩
  · exact ⟨a, vs, h1, h2, (h2.mono s).sq, h3⟩
  · cases h
theorem rb_lst {ds : List D} (s : Same F H) (h : RepB K F H x (.list ds)) : ∃ a vs, x = .ref a ∧ SqL K H a vs ∧ Reps K F vs ds := by
  rcases h with ⟨a, vs, h1, h2, h3⟩ | ⟨a, ws, es, h1, h2, h3, h4⟩
  · exact ⟨a, vs, h1, sameL s h2, h3⟩
  · cases h2
    exact ⟨a, ws, h1, .inl (.inl h3), h4⟩
theorem rb_dct {kds : List (D × D)} (s : Same F H) (h : RepB K F H x (.dict kds)) : ∃ a kvs, x = .ref a ∧ H a = some (.dK kvs) ∧ RepKs K F kvs kds := by
  rcases h with ⟨a, vs, h1, h2, h3⟩ | ⟨_, _, _, _, h, _⟩
  · exact ⟨a, vs, h1, s _ _ h2, h3⟩
  · cases h
mutual
theorem Rep.dp (s : Same F H) : ∀ (d : D) (v : V), Rep K F v d → PyData.canLay0 d = true → Dp K H v d
  | .none, v, h, _ => by simp only [Rep] at h; subst h; exact .non
  | .bool b, v, h, _ => by simp only [Rep] at h; subst h; exact .bl b
  | .int b, v, h, _ => by simp only [Rep] at h; subst h; exact .int b
  | .str b, v, h, _ => by simp only [Rep] at h; subst h; exact .str b
  | .list ds, v, ⟨a, vs, h1, h2, h3⟩, hc => by subst h1; exact .lst (sameL s h2) (Reps.dp s ds vs h3 (by simpa [PyData.canLay0] using hc))
  | .tuple ds, v, ⟨a, vs, h1, h2, h3⟩, hc => by subst h1; exact .tup (h2.mono s).sq (Reps.dp s ds vs h3 (by simpa [PyData.canLay0] using hc))
  | .dict kds, v, _, hc => by simp [PyData.canLay0] at hc
theorem Reps.dp (s : Same F H) : ∀ (ds : List D) (vs : List V), Reps K F vs ds → PyData.canLayAll0 ds = true → DpAll K H vs ds
  | [], vs, h, _ => by cases (show vs = [] from h); exact .nil
  | d :: ds, vs, ⟨v, r, h1, h2, h3⟩, hc => by
    subst h1
    simp only [PyData.canLayAll0, Bool.and_eq_true] at hc
    exact .cons (Rep.dp s d v h2 hc.1) (Reps.dp s ds r h3 hc.2)
end
theorem rb_dp {d : D} (s : Same F H) (h : RepB K F H x d) (hc : PyData.canLay0 d = true) : Dp K H x d := by
  rcases h with h | ⟨a, ws, ds, h1, h2, h3, h4⟩
  · exact Rep.dp s d x h hc
  · subst h1 h2
    exact .lst (.inl (.inl h3)) (Reps.dp s ds ws h4 (by simpa [PyData.canLay0] using hc))
end
theorem list_mulW (l : Addr) (items : Array Value) (n : Nat) (x : Int) (u : Tok) (dd : Option Addr) (sl : Array (Option Value)) (hc0 : ¬(!Builtin.List.listFitsIndex x) = true) (hc1 : ¬items.size * x.toNat > (2 ^ 63 - 1) / 8) (hc2 : ¬Builtin.List.listTooLong (items.size * x.toNat) = true) :
    Meets (Builtin.«list.__mul__» ⟨[.ref l, .int x u], []⟩) (fun _ R s => s.heap.get? l = some { cls := .type "list", dict := dd, data := .seq items n, slots := sl } ∧ R (.ok (.ret (Value.ref s.heap.objs.size))) { s with heap := s.heap.push { cls := Value.type "list", data := Data.seq (List.foldl (fun x1 x2 => x1 ++ x2) #[] (List.replicate (if items.isEmpty = true then 0 else x.toNat) items)) }, toks := s.toks }) :=
  .of_wp fun prog w A R s h => by
    obtain ⟨hp, g, d, tk, os⟩ := s; obtain ⟨hl, h⟩ := h
    have hsz := AutoListH.joined_fits hc2
    wp_walk using wpAny_loadPart' hl; refine wpAny_ite_false (decide_eq_false (Nat.not_lt.mpr hsz)) ?_; wp_walk using wpAny_loadPart' hl; exact ⟨_, rfl, h⟩
theorem int_rmulW (a : Int) (t : Tok) (l : Addr) (items : Array Value) (n : Nat) (dd : Option Addr) (sl : Array (Option Value)) :
    Meets (Builtin.«int.__rmul__» ⟨[.int a t, .ref l], []⟩) (fun _ R s => s.heap.get? l = some { cls := .type "list", dict := dd, data := .seq items n, slots := sl } ∧ R (.ok (.ret Value.notImplemented)) s) :=
  .of_wp fun prog w A R s h => by obtain ⟨hp, g, d, tk, os⟩ := s; obtain ⟨hl, h⟩ := h; wp_walk using wpAny_loadPart' hl; exact ⟨_, rfl, h⟩
section
variable {K : PySem.W.Frag} {F H : Hp} {Q : VK}
theorem gv {v : V} {d : D} (s : Same F H) (r : Rep K F v d) (q : ∀ v F' H', Grow K F H F' H' v (.sh d) → Q v H') : Q v H :=
  q v F H ⟨Same.refl F, Same.refl H, s, fun b h h' => absurd h h', r, fun _ _ z => nomatch z⟩
theorem g_int {i : Int} (s : Same F H) (q : ∀ v F' H', Grow K F H F' H' v (.sh (.int i)) → Q v H') : Q (.int i) H := gv s (by simp only [Rep]) q
theorem g_bool {i : Bool} (s : Same F H) (q : ∀ v F' H', Grow K F H F' H' v (.sh (.bool i)) → Q v H') : Q (.bl i) H := gv s (by simp only [Rep]) q
theorem g_str {i : Str} (s : Same F H) (q : ∀ v F' H', Grow K F H F' H' v (.sh (.str i)) → Q v H') : Q (.str i) H := gv s (by simp only [Rep]) q
theorem g_tup {vs : List V} {ds : List D} (s : Same F H) (r : Reps K F vs ds) (q : ∀ v F' H', Grow K F H F' H' v (.sh (.tuple ds)) → Q v H') : ∀ (p : Addr) (o : Obj), o.dict = none → H p = none → Q (.ref p) (upd H p (.frz o (.tup vs))) := fun p o ho hp => by
  have g := Grw.laid (u := .frz o (.tup vs)) s hp
  exact q (.ref p) _ _ ⟨g.fm, g.hm, g.sub, g.ff, ⟨p, vs, rfl, ⟨o, ho, upd_same⟩, Reps.mono g.fm _ _ r⟩, fun _ _ z => nomatch z⟩
theorem g_lst {vs : List V} {ds : List D} (s : Same F H) (r : Reps K F vs ds) (q : ∀ v F' H', Grow K F H F' H' v (.ls ds) → Q v H') : ∀ p, H p = none → Q (.ref p) (upd H p (.lst vs)) := fun p hp => by
  have hm : Same H (upd H p (.lst vs)) := fun b x e => by rw [upd_ne (ne_of_none e hp)]; exact e
  exact q (.ref p) F _ ⟨Same.refl F, hm, s.trans hm, fun b h h' => absurd h h', ⟨p, vs, rfl, upd_same, s.free hp, r⟩, fun ds a _ z => by cases z; exact hp⟩
end
section
variable {X : Cx}
/-- a tuple laid behind an operation, known to have no dict -/
theorem laidH {pins : List (Addr × Obj)} {σ : St} {H : Hp} {s : Shared} {Q : VK} {ys : List V} {us : List Value} (I : Inv X pins σ H s) (r : Vals ys us) (hz : ys.length ≤ sizeLine) (q : ∀ (p : Addr) (o : Obj), o.dict = none → H p = none → Q (.ref p) (upd H p (.frz o (.tup ys)))) : EP X pins σ Q (.ref s.heap.objs.size) { s with heap := s.heap.push { cls := .type "tuple", data := .seq us.toArray } } := by
  refine ⟨.ref s.heap.objs.size, _, I.laid (t' := s.toks) (o := .frz { cls := .type "tuple", data := .seq us.toArray } (.tup ys)) (fun b ob q => Heap.get?_push_of_some _ q) (Nat.le_refl _) ?_, rfl, q _ _ rfl (I.hok.fresh (Nat.le_refl _))⟩
  exact ⟨Heap.get?_push_size _ rfl, hz, us, r, IsTup.new _ _⟩
def rCatH (K : PySem.W.Frag) : R2 := fun x y H Q => ∃ a b xs ys, x = .ref a ∧ y = .ref b ∧ SqT K H a xs ∧ SqT K H b ys ∧ xs.length + ys.length ≤ sizeLine ∧
  (xs = [] → Q (.ref b) H) ∧ (xs ≠ [] → ys = [] → Q (.ref a) H) ∧ (xs ≠ [] → ys ≠ [] → ∀ (p : Addr) (o : Obj), o.dict = none → H p = none → Q (.ref p) (upd H p (.frz o (.tup (xs ++ ys)))))
theorem op_catH : OpR X (binaryOp .Add) (rCatH X.K) := by
  rintro pins s σ H x y v u Q I rx ry ⟨a, b, xs, ys, rfl, rfl, ha, hb, hz, q0, q1, q2⟩
  cases rx
  cases ry
  obtain ⟨its, r1, p1, _⟩ := I.tuple ha
  obtain ⟨its2, r2, p2, _⟩ := I.tuple hb
  by_cases hx : xs = []
  · subst hx
    cases r1
    exact cat_tup0 p1 p2 ⟨.ref b, H, I, rfl, q0 rfl⟩
  · refine HT.cat_tup p1 p2 (fun z => hx (r1.nil_iff.mp z)) (fun z => ⟨.ref a, H, I, rfl, q1 hx (r2.nil_iff.mp z)⟩) (fun z => ?_) (by rw [← r1.length, ← r2.length]; exact hz)
    exact laidH I (r1.append r2) (by rw [List.length_append]; exact hz) (q2 hx fun w => z (r2.nil_iff.mpr w))
def rRepH (K : PySem.W.Frag) : R2 := fun x y H Q => ∃ l k xs, x = .ref l ∧ y = .int k ∧ SqT K H l xs ∧ xs ≠ [] ∧ 2 ≤ k ∧ k ≤ 1000 ∧ xs.length ≤ 1000 ∧ ∀ (p : Addr) (o : Obj), o.dict = none → H p = none → Q (.ref p) (upd H p (.frz o (.tup (List.replicate k.toNat xs).flatten)))
theorem op_repH : OpR X (binaryOp .Mult) (rRepH X.K) := by
  rintro pins s σ H x y v u Q I rx ry ⟨l, k, xs, rfl, rfl, hT, hne, h1, h2, hz, q⟩
  cases rx
  obtain ⟨t, rfl⟩ := ry
  obtain ⟨its, r, ⟨⟨cls, dd, data, sl⟩, ho, hc, n, hd⟩, hs⟩ := I.tuple hT
  cases (show cls = .type "tuple" from hc)
  cases (show data = .seq its.toArray n from hd)
  have le : its.length = xs.length := r.length.symm
  have hn : its ≠ [] := fun e => hne (r.nil_iff.mp e)
  have e0 : its.toArray.isEmpty = false := by cases its <;> simp_all
  have e1 : ((its.toArray.size : Nat) : Int) * k ≤ 1000000 := by
    rw [List.size_toArray, le]
    have : ((xs.length : Nat) : Int) * k ≤ 1000 * k := Int.mul_le_mul_of_nonneg_right (by omega) (by omega)
    omega
  have e2 : k.toNat * xs.length ≤ 1000 * 1000 := Nat.mul_le_mul (by omega) hz
  have b0 : (decide (k < -(2 ^ 63)) || decide (k ≥ 2 ^ 63)) = false := by simp; omega
  have b1 : (its.toArray.isEmpty || k == 1) = false := by rw [e0]; simp; omega
  have b2 : (decide (k ≤ 0) || its.toArray.isEmpty) = false := by rw [e0]; simp; omega
  have b3 : Builtin.Tuple.tupleTooMany (((its.toArray.size : Nat) : Int) * k) = false := by
    unfold Builtin.Tuple.tupleTooMany
    rw [sizeLine_eq]
    exact decide_eq_false (by omega)
  have z1 : (List.replicate k.toNat its).flatten.length ≤ sizeLine := by
    rw [PyProof.Rows.lm_len_rep_flat, le, sizeLine_eq]
    omega
  have z2 : (List.replicate k.toNat xs).flatten.length ≤ sizeLine := by
    rw [PyProof.Rows.lm_len_rep_flat, sizeLine_eq]
    omega
  have tis : s.TypeIs (.ref l) "tuple" := ⟨_, ho, rfl⟩
  refine wpAny_binaryOp_repeat_ref (T := "tuple") (U := "int") (by decide) tis (fun s' => typeIs_int s' k t) noFill_tuple_mul F.fills_int_mul F.slot_int_rmul repeat_tuple F.slot_int_index.lookup
    (call_meets F.slot_int_rmul (typeIs_int s k t) F.entry_int_rmul (F.args_int_rmul_2 _ _) (int_rmul_tuple k t l its.toArray n dd sl)
      ⟨ho, rfl, tis, call_meets F.slot_tuple_mul tis F.entry_tuple_mul (F.args_tuple_mul_2 _ _) (tuple_mulW l its.toArray n dd sl k t b0 b1 b2 (by omega) b3 (by rw [size_rep, List.size_toArray]; exact z1)) ⟨ho, ?_⟩⟩)
  rw [size_rep]
  exact laidH I (r.rep k.toNat) z2 q
def rCatL (K : PySem.W.Frag) : R2 := fun x y H Q => ∃ l b xs zs, x = .ref l ∧ y = .ref b ∧ SqL K H l xs ∧ SqL K H b zs ∧ xs.length + zs.length ≤ sizeLine ∧ ∀ p, H p = none → Q (.ref p) (upd H p (.lst (xs ++ zs)))
theorem op_catL : OpR X (binaryOp .Add) (rCatL X.K) := by
  intro pins s σ H x y v u Q I rx ry h
  obtain ⟨l, b, xs, zs, rfl, rfl, hH, hB, hz, q⟩ := h
  cases rx
  cases ry
  obtain ⟨its, r, ⟨o, n, e, hc, hd, hq⟩, _⟩ := I.list hH
  obtain ⟨its2, r2, ⟨o2, n2, e2, hc2, hd2, hq2⟩, _⟩ := I.list hB
  have hl := r.length
  have hl2 := r2.length
  obtain ⟨cls, dd, data, sl⟩ := o
  obtain ⟨cls2, dd2, data2, sl2⟩ := o2
  simp only at hc hd hq hc2 hd2 hq2
  subst hc hd hq hc2 hd2 hq2
  refine concat_meets ⟨_, e, rfl⟩ ⟨_, e2, rfl⟩ noFill_list_add seq_list_add F.slot_list_add F.entry_list_add (F.args_list_add_2 _ _) (list_addW l b its.toArray its2.toArray n n2 none none sl sl2 (by rw [List.size_toArray, List.size_toArray]; omega)) ⟨e, e2, ?_⟩
  have ea : its.toArray ++ its2.toArray = (its ++ its2).toArray := by simp
  rw [ea]
  exact ⟨.ref _, _, I.lnew (t' := s.toks) (r.append r2) (by rw [List.length_append]; omega), rfl, q _ I.fresh⟩
end
theorem OpR.no {X : Cx} {f : Value → Value → Sem Value} : OpR X f (fun _ _ _ _ => False) := fun _ _ _ _ _ _ _ _ _ _ _ _ h => h.elim
theorem CallR.no {X : Cx} {f : Value} : CallR X f (fun _ _ _ => False) := fun _ _ _ _ _ _ _ _ _ h => h.elim
def sm (i : Int) : Prop := -(2 ^ 200) < i ∧ i < 2 ^ 200
instance (i : Int) : Decidable (sm i) := inferInstanceAs (Decidable (_ ∧ _))
theorem sm_lit {i : Int} (h1 : -(2 ^ 200) < i) (h2 : i < 2 ^ 200) : sm i := ⟨h1, h2⟩
theorem log2_le {i : Int} (h1 : -(2 ^ 200) < i) (h2 : i < 2 ^ 200) : i.natAbs.log2 < 200 := by
  by_cases hz : i.natAbs = 0
  · rw [hz]; decide
  · exact (Nat.log2_lt hz).mpr (by omega)
def addD : D → D → Option C
  | .int i, .int j => some (.sh (.int (i + j)))
  | .str a, .str b => if a.length + b.length ≤ sizeLine then some (.sh (.str (a ++ b))) else none
  | .list a, .list b => if a.length + b.length ≤ sizeLine then some (.ls (a ++ b)) else none
  | .tuple a, .tuple b => if a.length + b.length ≤ sizeLine then some (.sh (.tuple (a ++ b))) else none
  | _, _ => none
def subD : D → D → Option C
  | .int i, .int j => some (.sh (.int (i - j)))
  | _, _ => none
def mulD : D → D → Option C
  | .int i, .int j => if sm i ∧ sm j then some (.sh (.int (i * j))) else none
  | .list a, .int k => if -(2 ^ 63) ≤ k ∧ k < 2 ^ 63 ∧ a.length * k.toNat ≤ sizeLine then some (.ls (List.replicate k.toNat a).flatten) else none
  | .tuple a, .int k => if (0 < a.length ∧ 2 ≤ k ∧ k ≤ 1000 ∧ a.length ≤ 1000) ∨ (-(2 ^ 63) ≤ k ∧ k < 2 ^ 63 ∧ (a.length = 0 ∨ k ≤ 1)) then some (.sh (.tuple (List.replicate k.toNat a).flatten)) else none
  | _, _ => none
def fdivD : D → D → Option C
  | .int i, .int j => if 0 < j ∧ sm j then some (.sh (.int (i / j))) else none
  | _, _ => none
def modD : D → D → Option C
  | .int i, .int j => if 0 < j then some (.sh (.int (i % j))) else none
  | _, _ => none
def powD : D → D → Option C
  | .int i, .int j => if 0 ≤ j ∧ j ≤ 1000000 ∧ i.natAbs < 2 ^ 64 then some (.sh (.int (i ^ j.toNat))) else none
  | _, _ => none
def shlD : D → D → Option C
  | .int i, .int j => if 0 ≤ j ∧ j ≤ 1000000 ∧ i.natAbs < 2 ^ 64 then some (.sh (.int (i * 2 ^ j.toNat))) else none
  | _, _ => none
def shrD : D → D → Option C
  | .int i, .int j => if 0 ≤ j then some (.sh (.int (i / 2 ^ j.toNat))) else none
  | _, _ => none
def andD : D → D → Option C
  | .int i, .int j => some (.sh (.int (Builtin.bitAnd i j)))
  | _, _ => none
def orD : D → D → Option C
  | .int i, .int j => some (.sh (.int (Builtin.bitOr i j)))
  | _, _ => none
def binD : Operator → D → D → Option C
  | .Add => addD
  | .Sub => subD
  | .Mult => mulD
  | .FloorDiv => fdivD
  | .Mod => modD
  | .Pow => powD
  | .LShift => shlD
  | .RShift => shrD
  | .BitAnd => andD
  | .BitOr => orD
  | _ => fun _ _ => none
section
variable {X : Cx}
/-- an operator on whole numbers -/
theorem ints_ok {f : Value → Value → Sem Value} {C0 : Int → Int → Prop} {g : Int → Int → Int} (h : OpR X f (rI C0 fun i j => .int (g i j))) {t : D → D → Option C}
    (ht : ∀ d e c, t d e = some c → ∃ i j, d = .int i ∧ e = .int j ∧ C0 i j ∧ c = .sh (.int (g i j))) : ∃ r, OpR X f r ∧ Fn2 X.K t r := by
  refine ⟨_, h, fun F H x y d e c Q s h1 h2 he q => ?_⟩
  obtain ⟨i, j, rfl, rfl, hc, rfl⟩ := ht d e c he
  exact ⟨i, j, rb_int h1, rb_int h2, hc, g_int s q⟩
theorem ints_ok0 {f : Value → Value → Sem Value} {g : Int → Int → Int} (h : OpR X f (rI0 fun i j => .int (g i j))) {t : D → D → Option C}
    (ht : ∀ d e c, t d e = some c → ∃ i j, d = .int i ∧ e = .int j ∧ c = .sh (.int (g i j))) : ∃ r, OpR X f r ∧ Fn2 X.K t r := by
  refine ⟨_, h, fun F H x y d e c Q s h1 h2 he q => ?_⟩
  obtain ⟨i, j, rfl, rfl, rfl⟩ := ht d e c he
  exact ⟨i, j, rb_int h1, rb_int h2, g_int s q⟩
theorem add_ok : ∃ r, OpR X (binaryOp .Add) r ∧ Fn2 X.K addD r := by
  refine ⟨_, op_add.or (op_add_str.or (op_catL.or op_catH)), fun F H x y d e c Q s h1 h2 he q => ?_⟩
  unfold addD at he
  split at he
  · cases he
    exact .inl ⟨_, _, rb_int h1, rb_int h2, g_int s q⟩
  · split at he
    · cases he
      exact .inr (.inl ⟨_, _, rb_str h1, rb_str h2, by assumption, g_str s q⟩)
    · cases he
  · split at he
    · rename_i hl
      cases he
      obtain ⟨a, vs, rfl, g1, g2⟩ := rb_lst s h1
      obtain ⟨b, ws, rfl, k1, k2⟩ := rb_lst s h2
      refine .inr (.inr (.inl ⟨a, b, vs, ws, rfl, rfl, g1, k1, by rw [g2.length, k2.length]; exact hl, g_lst s (g2.append k2) q⟩))
    · cases he
  · split at he
    · rename_i hl
      cases he
      obtain ⟨a, vs, rfl, g0, g1, g2⟩ := rb_tup s h1
      obtain ⟨b, ws, rfl, k0, k1, k2⟩ := rb_tup s h2
      refine .inr (.inr (.inr ⟨a, b, vs, ws, rfl, rfl, g1, k1, by rw [g2.length, k2.length]; exact hl, fun e => ?_, fun _ e => ?_, fun _ _ => g_tup s (g2.append k2) q⟩))
      · subst e
        have hz := g2.length
        have e2 : _ = [] := List.eq_nil_of_length_eq_zero hz.symm
        rw [e2] at q
        exact gv s (d := .tuple _) ⟨b, ws, rfl, k0, k2⟩ q
      · subst e
        have hz := k2.length
        have e2 : _ = [] := List.eq_nil_of_length_eq_zero hz.symm
        rw [e2, List.append_nil] at q
        exact gv s (d := .tuple _) ⟨a, vs, rfl, g0, g2⟩ q
    · cases he
  · cases he
def rRepL (K : PySem.W.Frag) : R2 := fun x y H Q => ∃ l k xs, x = .ref l ∧ y = .int k ∧ SqL K H l xs ∧ -(2 ^ 63) ≤ k ∧ k < 2 ^ 63 ∧ xs.length * k.toNat ≤ sizeLine ∧ ∀ p, H p = none → Q (.ref p) (upd H p (.lst (List.replicate k.toNat xs).flatten))
theorem op_repL : OpR X (binaryOp .Mult) (rRepL X.K) := by
  intro pins s σ H x y v u Q I rx ry h
  obtain ⟨l, k, xs, rfl, rfl, hH, h1, h2, hz, q⟩ := h
  cases rx
  obtain ⟨t, rfl⟩ := ry
  obtain ⟨its, r, ⟨o, n, e, hc, hd, hq⟩, _⟩ := I.list hH
  have hl := r.length
  obtain ⟨cls, dd, data, sl⟩ := o
  simp only at hc hd hq
  subst hc hd hq
  have hlen : its.toArray.size * k.toNat ≤ sizeLine := by rw [List.size_toArray, ← hl]; exact hz
  have hcap : ¬ its.toArray.size * k.toNat > (2 ^ 63 - 1) / 8 := by
    have : (sizeLine : Nat) ≤ (2 ^ 63 - 1) / 8 := by decide
    omega
  have hfit : ¬ (!Builtin.List.listFitsIndex k) = true := by
    rw [fitsIndex_both h1 h2]
    exact Bool.false_ne_true
  have hlong : ¬ Builtin.List.listTooLong (its.toArray.size * k.toNat) = true := by
    rw [notLongL hlen]
    exact Bool.false_ne_true
  have hnew : List.foldl (fun x1 x2 => x1 ++ x2) #[] (List.replicate (if its.toArray.isEmpty = true then 0 else k.toNat) its.toArray) = (List.replicate k.toNat its).flatten.toArray := by
    have f0 : ∀ m : Nat, List.foldl (fun x1 x2 => x1 ++ x2) #[] (List.replicate m its.toArray) = (List.replicate m its).flatten.toArray := fun m => by
      have := foldl_rep its m []
      rw [List.nil_append] at this
      exact this
    rw [f0]
    cases its with
    | nil => simp
    | cons a r' => rw [if_neg (by simp)]
  refine wpAny_binaryOp_repeat_ref (T := "list") (U := "int") (by decide) ⟨_, e, rfl⟩ (fun s' => typeIs_int s' k t) noFill_list_mul F.fills_int_mul F.slot_int_rmul repeat_list F.slot_int_index.lookup
    (call_meets F.slot_int_rmul (typeIs_int s k t) F.entry_int_rmul (F.args_int_rmul_2 _ _) (int_rmulW k t l its.toArray n none sl)
      ⟨e, rfl, ⟨_, e, rfl⟩, call_meets F.slot_list_mul ⟨_, e, rfl⟩ F.entry_list_mul (F.args_list_mul_2 _ _) (list_mulW l its.toArray n k t none sl hfit hcap hlong) ⟨e, ?_⟩⟩)
  rw [hnew]
  exact ⟨.ref _, _, I.lnew (t' := s.toks) (r.rep k.toNat) (by rw [PyProof.Rows.lm_len_rep_flat, Nat.mul_comm]; exact hz), rfl, q _ I.fresh⟩
theorem int2 {t : D → D → Option C} (hno : ∀ d e, (∀ i j, d = .int i → e = .int j → False) → t d e = none) {P : Int → Int → C → Prop} (hi : ∀ i j c, t (.int i) (.int j) = some c → P i j c) : ∀ d e c, t d e = some c → ∃ i j, d = .int i ∧ e = .int j ∧ P i j c := by
  intro d e c h
  by_cases hd : ∃ i, d = .int i
  · obtain ⟨i, rfl⟩ := hd
    by_cases he : ∃ j, e = .int j
    · obtain ⟨j, rfl⟩ := he
      exact ⟨i, j, rfl, rfl, hi i j c h⟩
    · rw [hno _ _ fun i' j _ z => he ⟨j, z⟩] at h
      cases h
  · rw [hno _ _ fun i j z _ => hd ⟨i, z⟩] at h
    cases h
theorem tuple_mul1 (l : Addr) (items : Array Value) (n : Nat) (dd : Option Addr) (sl : Array (Option Value)) (x : Int) (u : Tok) (c0 : (decide (x < -(2 ^ 63)) || decide (x ≥ 2 ^ 63)) = false) (c1 : (items.isEmpty || x == 1) = true) :
    Meets (Builtin.«tuple.__mul__» ⟨[.ref l, .int x u], []⟩) (fun _ R s => s.heap.get? l = some { cls := .type "tuple", dict := dd, data := .seq items n, slots := sl } ∧ R (.ok (.ret (Value.ref l))) s) := .of_wp fun prog w A R ⟨hp, g, d, tk, os⟩ ⟨hl, h⟩ => by
  have f1 := AutoSeq1.idx_int; wp_walk using wpAny_loadPart' hl
  repeat (first | (refine wpAny_ite_false (decide_eq_false (by rw [c0]; decide)) ?_; wp_walk using wpAny_loadPart' hl) | (refine wpAny_ite_true (decide_eq_true c1) ?_; wp_walk using wpAny_loadPart' hl))
  exact ⟨_, rfl, h⟩
theorem tuple_mul0 (l : Addr) (items : Array Value) (n : Nat) (dd : Option Addr) (sl : Array (Option Value)) (x : Int) (u : Tok) (c0 : (decide (x < -(2 ^ 63)) || decide (x ≥ 2 ^ 63)) = false) (c1 : (items.isEmpty || x == 1) = false) (c2 : (decide (x ≤ 0) || items.isEmpty) = true) :
    Meets (Builtin.«tuple.__mul__» ⟨[.ref l, .int x u], []⟩) (fun _ R s => s.heap.get? l = some { cls := .type "tuple", dict := dd, data := .seq items n, slots := sl } ∧ R (.ok (.ret (Value.ref s.heap.objs.size))) { s with heap := s.heap.push { cls := Value.type "tuple", data := Data.seq #[] } }) := .of_wp fun prog w A R ⟨hp, g, d, tk, os⟩ ⟨hl, h⟩ => by
  have f1 := AutoSeq1.idx_int; wp_walk using wpAny_loadPart' hl
  repeat (first | (refine wpAny_ite_false (decide_eq_false (by rw [c0]; decide)) ?_; wp_walk using wpAny_loadPart' hl) | (refine wpAny_ite_false (decide_eq_false (by rw [c1]; decide)) ?_; wp_walk using wpAny_loadPart' hl) | (refine wpAny_ite_true (decide_eq_true c2) ?_; wp_walk using wpAny_loadPart' hl))
  exact ⟨_, rfl, h⟩
def rRepT1 (K : PySem.W.Frag) : R2 := fun x y H Q => ∃ l k xs, x = .ref l ∧ y = .int k ∧ SqT K H l xs ∧ -(2 ^ 63) ≤ k ∧ k < 2 ^ 63 ∧ ((xs = [] ∨ k = 1) ∧ Q (.ref l) H ∨ xs ≠ [] ∧ k ≤ 0 ∧ ∀ (p : Addr) (o : Obj), o.dict = none → H p = none → Q (.ref p) (upd H p (.frz o (.tup []))))
theorem op_repT1 {X : Cx} : OpR X (binaryOp .Mult) (rRepT1 X.K) := by
  rintro pins s σ H x y v u Q I rx ry ⟨l, k, xs, rfl, rfl, hT, k0, k1, q⟩
  cases rx
  obtain ⟨t, rfl⟩ := ry
  obtain ⟨its, r, ⟨⟨cls, dd, data, sl⟩, ho, hc, n, hd⟩, hs⟩ := I.tuple hT
  cases (show cls = .type "tuple" from hc)
  cases (show data = .seq its.toArray n from hd)
  have le : its.length = xs.length := r.length.symm
  have b0 : (decide (k < -(2 ^ 63)) || decide (k ≥ 2 ^ 63)) = false := by simp; omega
  have tis : s.TypeIs (.ref l) "tuple" := ⟨_, ho, rfl⟩
  have road := fun (Q0 : Value → Shared → Prop) (E : Value → Shared → Prop) (m : wpAny (model X.prog X.w) X.A (call (.builtin "tuple.__mul__") [.ref l, .int k t]) Q0 E s) => wpAny_binaryOp_repeat_ref (T := "tuple") (U := "int") (by decide) tis (fun s' => typeIs_int s' k t) noFill_tuple_mul F.fills_int_mul F.slot_int_rmul repeat_tuple F.slot_int_index.lookup
    (call_meets F.slot_int_rmul (typeIs_int s k t) F.entry_int_rmul (F.args_int_rmul_2 _ _) (int_rmul_tuple k t l its.toArray n dd sl) ⟨ho, rfl, tis, m⟩)
  rcases q with ⟨hx, q⟩ | ⟨hx, hk, q⟩
  · have c1 : (its.toArray.isEmpty || k == 1) = true := by
      rcases hx with rfl | rfl
      · have : its = [] := List.eq_nil_of_length_eq_zero (by simpa using le)
        subst this
        rfl
      · simp
    exact road _ _ (call_meets F.slot_tuple_mul tis F.entry_tuple_mul (F.args_tuple_mul_2 _ _) (tuple_mul1 l its.toArray n dd sl k t b0 c1) ⟨ho, .ref l, H, I, rfl, q⟩)
  · have ne : its ≠ [] := by
      rintro rfl
      exact hx (List.eq_nil_of_length_eq_zero (by simpa using le.symm))
    have c1 : (its.toArray.isEmpty || k == 1) = false := by
      cases its with
      | nil => exact absurd rfl ne
      | cons a as => simp; omega
    have c2 : (decide (k ≤ 0) || its.toArray.isEmpty) = true := by simp [hk]
    refine road _ _ (call_meets F.slot_tuple_mul tis F.entry_tuple_mul (F.args_tuple_mul_2 _ _) (tuple_mul0 l its.toArray n dd sl k t b0 c1 c2) ⟨ho, laidH (us := []) I .nil (by simp) q⟩)
theorem mul_ok : ∃ r, OpR X (binaryOp .Mult) r ∧ Fn2 X.K mulD r := by
  refine ⟨_, op_mulW.or (op_repL.or (op_repH.or op_repT1)), fun F H x y d e c Q s h1 h2 he q => ?_⟩
  unfold mulD at he
  split at he
  · split at he
    · cases he
      rename_i hb
      exact .inl ⟨_, _, rb_int h1, rb_int h2, by have a := log2_le hb.1.1 hb.1.2; have b := log2_le hb.2.1 hb.2.2; show _ < _; omega, g_int s q⟩
    · cases he
  · split at he
    · rename_i hk
      cases he
      obtain ⟨a, vs, rfl, g1, g2⟩ := rb_lst s h1
      exact .inr (.inl ⟨a, _, vs, rfl, rb_int h2, g1, hk.1, hk.2.1, by rw [g2.length]; exact hk.2.2, g_lst s (Reps.replicate g2 _) q⟩)
    · cases he
  · split at he
    · rename_i hk
      cases he
      obtain ⟨a, vs, rfl, gF, g1, g2⟩ := rb_tup s h1
      have le := g2.length
      rcases hk with hk | ⟨k0, k1, hk⟩
      · refine .inr (.inr (.inl ⟨a, _, vs, rfl, rb_int h2, g1, ?_, hk.2.1, hk.2.2.1, by rw [le]; exact hk.2.2.2, g_tup s (Reps.replicate g2 _) q⟩))
        rintro rfl
        have := hk.1
        simp at le
        omega
      · refine .inr (.inr (.inr ⟨a, _, vs, rfl, rb_int h2, g1, k0, k1, ?_⟩))
        rename_i as z
        by_cases e : vs = [] ∨ z = 1
        · refine .inl ⟨e, ?_⟩
          have e2 : (List.replicate z.toNat as).flatten = as := by
            rcases e with rfl | rfl
            · have : as = [] := List.eq_nil_of_length_eq_zero (by simpa using le.symm)
              subst this
              simp
            · simp
          rw [e2] at q
          exact gv (d := .tuple as) s (show Rep X.K F (.ref a) (.tuple as) from ⟨a, vs, rfl, gF, g2⟩) q
        · simp only [not_or] at e
          have hz : z ≤ 0 := by
            rcases hk with hk | hk
            · exact absurd (List.eq_nil_of_length_eq_zero (by omega)) e.1
            · have := e.2
              omega
          have e2 : (List.replicate z.toNat as).flatten = [] := by
            have : z.toNat = 0 := by omega
            rw [this]
            simp
          rw [e2] at q
          exact .inr ⟨e.1, hz, g_tup (vs := []) (ds := []) s (by simp [Reps]) q⟩
    · cases he
  · cases he
theorem bin_ok (op : Operator) : ∃ r, OpR X (binaryOp op) r ∧ Fn2 X.K (binD op) r := by
  have no : ∀ op', binD op' = (fun _ _ => none) → ∃ r, OpR X (binaryOp op') r ∧ Fn2 X.K (binD op') r := fun op' h => ⟨_, OpR.no, fun F H x y d e c Q s _ _ he _ => by rw [h] at he; cases he⟩
  cases op with
  | Add => exact add_ok
  | Sub => exact ints_ok0 op_sub (int2 (fun d e h => by cases d <;> cases e <;> first | rfl | exact (h _ _ rfl rfl).elim) fun i j c h => by cases h; rfl)
  | Mult => exact mul_ok
  | FloorDiv => exact ints_ok op_fdivW (int2 (fun d e h => by cases d <;> cases e <;> first | rfl | exact (h _ _ rfl rfl).elim) fun i j c h => by
      simp only [binD, fdivD] at h
      split at h
      · rename_i hb
        cases h
        exact ⟨⟨hb.1, by have := log2_le hb.2.1 hb.2.2; omega⟩, rfl⟩
      · cases h)
  | Mod => exact ints_ok op_mod (int2 (fun d e h => by cases d <;> cases e <;> first | rfl | exact (h _ _ rfl rfl).elim) fun i j c h => by
      simp only [binD, modD] at h
      split at h
      · cases h; exact ⟨by assumption, rfl⟩
      · cases h)
  | Pow => exact ints_ok op_pow (int2 (fun d e h => by cases d <;> cases e <;> first | rfl | exact (h _ _ rfl rfl).elim) fun i j c h => by
      simp only [binD, powD] at h
      split at h
      · cases h; exact ⟨by assumption, rfl⟩
      · cases h)
  | LShift => exact ints_ok op_shl (int2 (fun d e h => by cases d <;> cases e <;> first | rfl | exact (h _ _ rfl rfl).elim) fun i j c h => by
      simp only [binD, shlD] at h
      split at h
      · cases h; exact ⟨by assumption, rfl⟩
      · cases h)
  | RShift => exact ints_ok op_shr (int2 (fun d e h => by cases d <;> cases e <;> first | rfl | exact (h _ _ rfl rfl).elim) fun i j c h => by
      simp only [binD, shrD] at h
      split at h
      · cases h; exact ⟨by assumption, rfl⟩
      · cases h)
  | BitAnd => exact ints_ok0 op_and (int2 (fun d e h => by cases d <;> cases e <;> first | rfl | exact (h _ _ rfl rfl).elim) fun i j c h => by cases h; rfl)
  | BitOr => exact ints_ok0 op_or (int2 (fun d e h => by cases d <;> cases e <;> first | rfl | exact (h _ _ rfl rfl).elim) fun i j c h => by cases h; rfl)
  | BitXor => exact no _ rfl
  | Div => exact no _ rfl
  | MatMult => exact no _ rfl
end
end L2.M
namespace L2.M
open PySem PySem.Spec PyProof.Rows
def scD : D → D → Bool
  | .none, .none => true
  | .none, .int _ => true
  | .none, .bool _ => true
  | .none, .str _ => true
  | .int _, .none => true
  | .int _, .int _ => true
  | .int _, .str _ => true
  | .bool _, .none => true
  | .bool _, .bool _ => true
  | .bool _, .str _ => true
  | .str _, .none => true
  | .str _, .int _ => true
  | .str _, .bool _ => true
  | .str _, .str _ => true
  | _, _ => false
/-- two tuples, one of them empty -/
def emD : D → D → Bool
  | .tuple ds, .tuple es => ds.isEmpty || es.isEmpty
  | _, _ => false
def eqD : D → D → Option C := fun d e => if scD d e || emD d e || (SeqAt.shaped d && SeqAt.shaped e) then some (.sh (.bool (PyData.eqv d e))) else none
def neD : D → D → Option C := fun d e => if scD d e || (SeqAt.shaped d && SeqAt.shaped e) then some (.sh (.bool (!PyData.eqv d e))) else none
def ltD : D → D → Option C
  | .int i, .int j => some (.sh (.bool (decide (i < j))))
  | .str i, .str j => some (.sh (.bool (decide (i.cps.toList < j.cps.toList))))
  | _, _ => none
def leD : D → D → Option C
  | .int i, .int j => some (.sh (.bool (decide (i ≤ j))))
  | _, _ => none
def gtD : D → D → Option C
  | .int i, .int j => some (.sh (.bool (decide (j < i))))
  | _, _ => none
def geD : D → D → Option C
  | .int i, .int j => some (.sh (.bool (decide (j ≤ i))))
  | _, _ => none
def isNon : D → Bool
  | .none => true
  | _ => false
def isD : D → D → Option C
  | d, .none => some (.sh (.bool (isNon d)))
  | .bool a, .bool b => some (.sh (.bool (decide (a = b))))
  | _, _ => none
def isnD : D → D → Option C
  | d, .none => some (.sh (.bool (!isNon d)))
  | .bool a, .bool b => some (.sh (.bool (!decide (a = b))))
  | _, _ => none
def inD : D → D → Option C := fun d e => match e with
  | .list ds => if SeqAt.shaped d && SeqAt.shaped (.list ds) then some (.sh (.bool (ds.any fun z => PyData.eqv z d))) else none
  | .tuple ds => if SeqAt.shaped d && SeqAt.shaped (.tuple ds) then some (.sh (.bool (ds.any fun z => PyData.eqv z d))) else none
  | _ => none
def ninD : D → D → Option C := fun d e => match e with
  | .list ds => if SeqAt.shaped d && SeqAt.shaped (.list ds) then some (.sh (.bool (!ds.any fun z => PyData.eqv z d))) else none
  | .tuple ds => if SeqAt.shaped d && SeqAt.shaped (.tuple ds) then some (.sh (.bool (!ds.any fun z => PyData.eqv z d))) else none
  | _ => none
def cmpD : CmpOp → D → D → Option C
  | .Eq => eqD
  | .NotEq => neD
  | .Lt => ltD
  | .LtE => leD
  | .Gt => gtD
  | .GtE => geD
  | .Is => isD
  | .IsNot => isnD
  | .In => inD
  | .NotIn => ninD
section
variable {X : Cx}
theorem isNon_ok {K : PySem.W.Frag} {F H : Hp} {x : V} {d : D} (h : RepB K F H x d) : decide (x = .non) = isNon d := by
  cases d with
  | none => rw [rb_non h]; rfl
  | bool b => rw [rb_bool h]; rfl
  | int b => rw [rb_int h]; rfl
  | str b => rw [rb_str h]; rfl
  | list b =>
    rcases h with ⟨a, vs, rfl, _⟩ | ⟨a, ws, es, rfl, _⟩ <;> rfl
  | tuple b =>
    rcases h with ⟨a, vs, rfl, _⟩ | ⟨a, ws, es, rfl, _⟩ <;> rfl
  | dict b =>
    rcases h with ⟨a, vs, rfl, _⟩ | ⟨a, ws, es, rfl, _⟩ <;> rfl
theorem sc_ok {K : PySem.W.Frag} {F H : Hp} {x y : V} {d e : D} (h1 : RepB K F H x d) (h2 : RepB K F H y e) (h : scD d e = true) : scal x y = true ∧ decide (x = y) = PyData.eqv d e := by
  have sb : ∀ {x : V} {d : D}, RepB K F H x d → (d = .none → x = .non) ∧ (∀ i, d = .int i → x = .int i) ∧ (∀ i, d = .bool i → x = .bl i) ∧ ∀ i, d = .str i → x = .str i := fun {x d} h =>
    ⟨fun e => rb_non (e ▸ h), fun i e => rb_int (e ▸ h), fun i e => rb_bool (e ▸ h), fun i e => rb_str (e ▸ h)⟩
  obtain ⟨a1, a2, a3, a4⟩ := sb h1
  obtain ⟨b1, b2, b3, b4⟩ := sb h2
  cases d <;> cases e <;> (try cases h) <;> first
    | (rw [a1 rfl, b1 rfl]; exact ⟨rfl, rfl⟩)
    | (rw [a1 rfl, b2 _ rfl]; exact ⟨rfl, rfl⟩)
    | (rw [a1 rfl, b3 _ rfl]; exact ⟨rfl, rfl⟩)
    | (rw [a1 rfl, b4 _ rfl]; exact ⟨rfl, rfl⟩)
    | (rw [a2 _ rfl, b1 rfl]; exact ⟨rfl, rfl⟩)
    | (rw [a2 _ rfl, b2 _ rfl]; exact ⟨rfl, by simp only [PyData.eqv]; exact dec_int⟩)
    | (rw [a2 _ rfl, b4 _ rfl]; exact ⟨rfl, rfl⟩)
    | (rw [a3 _ rfl, b1 rfl]; exact ⟨rfl, rfl⟩)
    | (rw [a3 _ rfl, b3 _ rfl]; exact ⟨rfl, by simp only [PyData.eqv]; exact dec_bl⟩)
    | (rw [a3 _ rfl, b4 _ rfl]; exact ⟨rfl, rfl⟩)
    | (rw [a4 _ rfl, b1 rfl]; exact ⟨rfl, rfl⟩)
    | (rw [a4 _ rfl, b2 _ rfl]; exact ⟨rfl, rfl⟩)
    | (rw [a4 _ rfl, b3 _ rfl]; exact ⟨rfl, rfl⟩)
    | (rw [a4 _ rfl, b4 _ rfl]; exact ⟨rfl, by simp only [PyData.eqv]; exact dec_str⟩)
def rEqE (K : PySem.W.Frag) : R2 := fun x y H Q => ∃ l b xs ys, x = .ref l ∧ y = .ref b ∧ SqT K H l xs ∧ SqT K H b ys ∧ (xs = [] ∨ ys = []) ∧ Q (.bl (xs.isEmpty && ys.isEmpty)) H
theorem op_eqE (hu : X.A.units + 64 < cLine) : OpR X (compareOp .Eq) (rEqE X.K) := by
  rintro pins s σ H x y v u Q I rx ry ⟨l, b, xs, ys, rfl, rfl, h1, h2, he, q⟩
  cases rx
  cases ry
  obtain ⟨is, r1, p1, _⟩ := I.tuple h1
  obtain ⟨js, r2, p2, _⟩ := I.tuple h2
  have l1 := r1.length
  have l2 := r2.length
  refine PySem.W.eq_tuplesT (n := 0) (e := fun _ => true) p1 p2 (fun j a c => ?_) (by omega) ⟨.bl (xs.isEmpty && ys.isEmpty), H, I, ?_, q⟩
  · exfalso
    simp at a c
    rcases he with rfl | rfl
    · simp at l1; omega
    · simp at l2; omega
  · have : ((List.range (min is.toArray.size js.toArray.size)).all (fun _ => true) && is.toArray.size == js.toArray.size) = (xs.isEmpty && ys.isEmpty) := by
      rcases he with rfl | rfl
      · have : is = [] := List.eq_nil_of_length_eq_zero (by simpa using l1.symm)
        subst this
        cases ys with
        | nil =>
          have : js = [] := List.eq_nil_of_length_eq_zero (by simpa using l2.symm)
          subst this
          rfl
        | cons y ys =>
          cases js with
          | nil => simp at l2
          | cons z zs => simp
      · have : js = [] := List.eq_nil_of_length_eq_zero (by simpa using l2.symm)
        subst this
        cases xs with
        | nil =>
          have : is = [] := List.eq_nil_of_length_eq_zero (by simpa using l1.symm)
          subst this
          rfl
        | cons y ys =>
          cases is with
          | nil => simp at l1
          | cons z zs => simp
    rw [this]
    exact rfl
theorem em_ok {K : PySem.W.Frag} {F H : Hp} {x y : V} {d e : D} (s : Same F H) (h1 : RepB K F H x d) (h2 : RepB K F H y e) (h : emD d e = true) : ∃ l b xs ys, x = .ref l ∧ y = .ref b ∧ SqT K H l xs ∧ SqT K H b ys ∧ (xs = [] ∨ ys = []) ∧ (xs.isEmpty && ys.isEmpty) = PyData.eqv d e := by
  have main : ∀ ds es : List D, d = .tuple ds → e = .tuple es → (ds = [] ∨ es = []) → ∃ l b xs ys, x = .ref l ∧ y = .ref b ∧ SqT K H l xs ∧ SqT K H b ys ∧ (xs = [] ∨ ys = []) ∧ (xs.isEmpty && ys.isEmpty) = PyData.eqv d e := by
    rintro ds es rfl rfl hh
    obtain ⟨a, vs, rfl, _, g1, r1⟩ := rb_tup s h1
    obtain ⟨b, ws, rfl, _, g2, r2⟩ := rb_tup s h2
    have l1 := r1.length
    have l2 := r2.length
    refine ⟨a, b, vs, ws, rfl, rfl, g1, g2, ?_, ?_⟩
    · rcases hh with rfl | rfl
      · exact .inl (List.eq_nil_of_length_eq_zero (by simpa using l1))
      · exact .inr (List.eq_nil_of_length_eq_zero (by simpa using l2))
    · have e1 : vs.isEmpty = ds.isEmpty := by cases vs <;> cases ds <;> simp_all
      have e2 : ws.isEmpty = es.isEmpty := by cases ws <;> cases es <;> simp_all
      rw [e1, e2]
      simp only [PyData.eqv]
      rcases hh with rfl | rfl
      · cases es <;> simp [PyData.eqvAll]
      · cases ds <;> simp [PyData.eqvAll]
  match d, e, h with
  | .tuple ds, .tuple es, h => exact main _ _ rfl rfl (by simpa [emD] using h)
theorem eq_ok (hu : X.A.units + 64 < cLine) : ∃ r, OpR X (compareOp .Eq) r ∧ Fn2 X.K eqD r := by
  refine ⟨_, (op_eqD hu).or ((op_eqE hu).or op_eq), fun F H x y d e c Q s h1 h2 he q => ?_⟩
  unfold eqD at he
  split at he
  · rename_i h
    simp only [Bool.or_eq_true, Bool.and_eq_true] at h
    cases he
    rcases h with (h | h) | h
    · obtain ⟨k1, k2⟩ := sc_ok h1 h2 h
      refine .inr (.inr ⟨k1, ?_⟩)
      rw [k2]
      exact g_bool s q
    · obtain ⟨l, b, xs, ys, rfl, rfl, g1, g2, g3, g4⟩ := em_ok s h1 h2 h
      refine .inr (.inl ⟨l, b, xs, ys, rfl, rfl, g1, g2, g3, ?_⟩)
      rw [g4]
      exact g_bool s q
    · exact .inl ⟨d, e, rb_dp s h1 (SeqAt.canLay_of_shaped h.1), rb_dp s h2 (SeqAt.canLay_of_shaped h.2), h.1, h.2, g_bool s q⟩
  · cases he
theorem ne_ok (hu : X.A.units + 64 < cLine) : ∃ r, OpR X (compareOp .NotEq) r ∧ Fn2 X.K neD r := by
  refine ⟨_, (op_neD hu).or op_ne, fun F H x y d e c Q s h1 h2 he q => ?_⟩
  unfold neD at he
  split at he
  · rename_i h
    simp only [Bool.or_eq_true, Bool.and_eq_true] at h
    cases he
    rcases h with h | h
    · obtain ⟨k1, k2⟩ := sc_ok h1 h2 h
      refine .inr ⟨k1, ?_⟩
      rw [k2]
      exact g_bool s q
    · exact .inl ⟨d, e, rb_dp s h1 (SeqAt.canLay_of_shaped h.1), rb_dp s h2 (SeqAt.canLay_of_shaped h.2), h.1, h.2, g_bool s q⟩
  · cases he
theorem lt_ok : ∃ r, OpR X (compareOp .Lt) r ∧ Fn2 X.K ltD r := by
  refine ⟨_, op_lt.or op_lt_str, fun F H x y d e c Q s h1 h2 he q => ?_⟩
  unfold ltD at he
  split at he
  · cases he; exact .inl ⟨_, _, rb_int h1, rb_int h2, g_bool s q⟩
  · cases he; exact .inr ⟨_, _, rb_str h1, rb_str h2, g_bool s q⟩
  · cases he
theorem is_ok : ∃ r, OpR X (compareOp .Is) r ∧ Fn2 X.K isD r := by
  refine ⟨_, op_isN.or op_isBl, fun F H x y d e c Q s h1 h2 he q => ?_⟩
  unfold isD at he
  split at he
  · cases he
    refine .inl ⟨rb_non h2, ?_⟩
    rw [isNon_ok h1]
    exact g_bool s q
  · cases he
    exact .inr ⟨_, _, rb_bool h1, rb_bool h2, g_bool s q⟩
  · cases he
theorem isn_ok : ∃ r, OpR X (compareOp .IsNot) r ∧ Fn2 X.K isnD r := by
  refine ⟨_, op_notN.or op_notBl, fun F H x y d e c Q s h1 h2 he q => ?_⟩
  unfold isnD at he
  split at he
  · cases he
    refine .inl ⟨rb_non h2, ?_⟩
    rw [isNon_ok h1]
    exact g_bool s q
  · cases he
    exact .inr ⟨_, _, rb_bool h1, rb_bool h2, g_bool s q⟩
  · cases he
def rAnyIn (K : PySem.W.Frag) : R2 := fun x y H Q => ∃ d ds, Dp K H x d ∧ (Dp K H y (.list ds) ∨ Dp K H y (.tuple ds)) ∧ SeqAt.shaped d = true ∧ (SeqAt.shaped (.list ds) = true ∨ SeqAt.shaped (.tuple ds) = true) ∧ Q (.bl (ds.any fun z => PyData.eqv z d)) H
theorem op_anyIn (hu : X.A.units + 65 < cLine) : OpR X (compareOp .In) (rAnyIn X.K) := by
  intro pins s σ H x y v u Q I rx ry h
  obtain ⟨d, ds, hd, he, sd, se, q⟩ := h
  obtain ⟨as, r1⟩ := Dp.reads I d x v hd rx
  have sa : PyData.canLayAll0 ds = true := se.elim (fun h => SeqAt.canLay_of_shaped h) (fun h => SeqAt.canLay_of_shaped h)
  rcases he with he | he
  · obtain ⟨bs, r2⟩ := Dp.reads I (.list ds) y u he ry
    exact SeqAt.in_list_reads r2 r1 sa (SeqAt.canLay_of_shaped sd) (room_in_shaped sd hu) ⟨.bl _, H, I, rfl, q⟩
  · obtain ⟨bs, r2⟩ := Dp.reads I (.tuple ds) y u he ry
    exact SeqAt.in_tuple_reads r2 r1 sa (SeqAt.canLay_of_shaped sd) (room_in_shaped sd hu) ⟨.bl _, H, I, rfl, q⟩
theorem in_ok (hu : X.A.units + 65 < cLine) : ∃ r, OpR X (compareOp .In) r ∧ Fn2 X.K inD r := by
  refine ⟨_, op_anyIn hu, fun F H x y d e c Q s h1 h2 he q => ?_⟩
  unfold inD at he
  split at he
  · split at he
    · rename_i h
      simp only [Bool.and_eq_true] at h
      cases he
      exact ⟨d, _, rb_dp s h1 (SeqAt.canLay_of_shaped h.1), .inl (rb_dp s h2 (SeqAt.canLay_of_shaped h.2)), h.1, .inl h.2, g_bool s q⟩
    · cases he
  · split at he
    · rename_i h
      simp only [Bool.and_eq_true] at h
      cases he
      exact ⟨d, _, rb_dp s h1 (SeqAt.canLay_of_shaped h.1), .inr (rb_dp s h2 (SeqAt.canLay_of_shaped h.2)), h.1, .inr h.2, g_bool s q⟩
    · cases he
  · cases he
def rAnyNotIn (K : PySem.W.Frag) : R2 := fun x y H Q => ∃ d ds, Dp K H x d ∧ (Dp K H y (.list ds) ∨ Dp K H y (.tuple ds)) ∧ SeqAt.shaped d = true ∧ (SeqAt.shaped (.list ds) = true ∨ SeqAt.shaped (.tuple ds) = true) ∧ Q (.bl (!ds.any fun z => PyData.eqv z d)) H
theorem op_anyNotIn (hu : X.A.units + 65 < cLine) : OpR X (compareOp .NotIn) (rAnyNotIn X.K) := by
  intro pins s σ H x y v u Q I rx ry h
  obtain ⟨d, ds, hd, he, sd, se, q⟩ := h
  obtain ⟨as, r1⟩ := Dp.reads I d x v hd rx
  have sa : PyData.canLayAll0 ds = true := se.elim (fun h => SeqAt.canLay_of_shaped h) (fun h => SeqAt.canLay_of_shaped h)
  rcases he with he | he
  · obtain ⟨bs, r2⟩ := Dp.reads I (.list ds) y u he ry
    exact SeqAt.notIn_list_reads r2 r1 sa (SeqAt.canLay_of_shaped sd) (room_in_shaped sd hu) ⟨.bl _, H, I, rfl, q⟩
  · obtain ⟨bs, r2⟩ := Dp.reads I (.tuple ds) y u he ry
    exact SeqAt.notIn_tuple_reads r2 r1 sa (SeqAt.canLay_of_shaped sd) (room_in_shaped sd hu) ⟨.bl _, H, I, rfl, q⟩
theorem nin_ok (hu : X.A.units + 65 < cLine) : ∃ r, OpR X (compareOp .NotIn) r ∧ Fn2 X.K ninD r := by
  refine ⟨_, op_anyNotIn hu, fun F H x y d e c Q s h1 h2 he q => ?_⟩
  unfold ninD at he
  split at he
  · split at he
    · rename_i h
      simp only [Bool.and_eq_true] at h
      cases he
      exact ⟨d, _, rb_dp s h1 (SeqAt.canLay_of_shaped h.1), .inl (rb_dp s h2 (SeqAt.canLay_of_shaped h.2)), h.1, .inl h.2, g_bool s q⟩
    · cases he
  · split at he
    · rename_i h
      simp only [Bool.and_eq_true] at h
      cases he
      exact ⟨d, _, rb_dp s h1 (SeqAt.canLay_of_shaped h.1), .inr (rb_dp s h2 (SeqAt.canLay_of_shaped h.2)), h.1, .inr h.2, g_bool s q⟩
    · cases he
  · cases he
theorem bools_ok {f : Value → Value → Sem Value} {g : Int → Int → Bool} (h : OpR X f (rI0 fun i j => .bl (g i j))) {t : D → D → Option C}
    (ht : ∀ d e c, t d e = some c → ∃ i j, d = .int i ∧ e = .int j ∧ c = .sh (.bool (g i j))) : ∃ r, OpR X f r ∧ Fn2 X.K t r := by
  refine ⟨_, h, fun F H x y d e c Q s h1 h2 he q => ?_⟩
  obtain ⟨i, j, rfl, rfl, rfl⟩ := ht d e c he
  exact ⟨i, j, rb_int h1, rb_int h2, g_bool s q⟩
theorem cmp_ok (hu : X.A.units + 65 < cLine) (op : CmpOp) : ∃ r, OpR X (compareOp op) r ∧ Fn2 X.K (cmpD op) r := by
  have hu' : X.A.units + 64 < cLine := by omega
  cases op with
  | Eq => exact eq_ok hu'
  | NotEq => exact ne_ok hu'
  | Lt => exact lt_ok
  | LtE => exact bools_ok op_le (int2 (fun d e h => by cases d <;> cases e <;> first | rfl | exact (h _ _ rfl rfl).elim) fun i j c h => by cases h; rfl)
  | Gt => exact bools_ok op_gt (int2 (fun d e h => by cases d <;> cases e <;> first | rfl | exact (h _ _ rfl rfl).elim) fun i j c h => by cases h; rfl)
  | GtE => exact bools_ok op_ge (int2 (fun d e h => by cases d <;> cases e <;> first | rfl | exact (h _ _ rfl rfl).elim) fun i j c h => by cases h; rfl)
  | Is => exact is_ok
  | IsNot => exact isn_ok
  | In => exact in_ok hu
  | NotIn => exact nin_ok hu
def negD : D → Option C
  | .int i => some (.sh (.int (-i)))
  | _ => none
theorem neg_ok : ∃ r, UnR X (unaryOp .USub) r ∧ Fn1 X.K negD r := by
  refine ⟨_, un_neg, fun F H x d c Q s h1 he q => ?_⟩
  unfold negD at he
  split at he
  · cases he; exact ⟨_, rb_int h1, g_int s q⟩
  · cases he
def ixD : D → D → Option C
  | .list ds, .int i => (atI ds i).map .sh
  | .tuple ds, .int i => (atI ds i).map .sh
  | .str z, .int i => if z.length ≤ sizeLine then (atI z.cps.toList i).map fun c => .sh (.str ⟨#[c]⟩) else none
  | _, _ => none
theorem Reps.atI {K : PySem.W.Frag} {F : Hp} {vs : List V} {ds : List D} {i : Int} {d : D} (h : Reps K F vs ds) (e : L2.atI ds i = some d) : ∃ v, L2.atI vs i = some v ∧ Rep K F v d := by
  unfold L2.atI at e ⊢
  rw [h.length]
  cases e1 : ixN ds.length i with
  | none => rw [e1] at e; cases e
  | some j =>
    rw [e1] at e
    exact h.get e
theorem ix_ok : ∃ r, IxR X r ∧ Fn2 X.K ixD r := by
  refine ⟨_, ix_seq, fun F H x y d e c Q s h1 h2 he q => ?_⟩
  unfold ixD at he
  split at he
  · simp only [Option.map_eq_some_iff] at he
    obtain ⟨d, hd, rfl⟩ := he
    obtain ⟨a, vs, rfl, g1, g2⟩ := rb_lst s h1
    rename_i ds i
    have hg : ∃ v, L2.atI vs i = some v ∧ Q v H := by
      obtain ⟨v, e1, e2⟩ := g2.atI hd
      exact ⟨v, e1, gv s e2 q⟩
    obtain ⟨v, e1, e2⟩ := hg
    exact .inl ⟨a, vs, _, v, rfl, rb_int h2, g1, e1, e2⟩
  · simp only [Option.map_eq_some_iff] at he
    obtain ⟨d, hd, rfl⟩ := he
    obtain ⟨a, vs, rfl, g0, g1, g2⟩ := rb_tup s h1
    obtain ⟨v, e1, e2⟩ := g2.atI hd
    exact .inr (.inl ⟨a, vs, _, v, rfl, rb_int h2, g1, e1, gv s e2 q⟩)
  · split at he
    · simp only [Option.map_eq_some_iff] at he
      obtain ⟨d, hd, rfl⟩ := he
      exact .inr (.inr ⟨_, _, _, rb_str h1, rb_int h2, by assumption, hd, g_str s q⟩)
    · cases he
  · cases he
def cutL {α : Type} (xs : List α) (lo hi : Option Int) : List α := (xs.drop (HT.sIx xs.length 0 lo)).take (HT.sIx xs.length xs.length hi - HT.sIx xs.length 0 lo)
def slD : D → Option Int → Option Int → Option C
  | .list ds, lo, hi => some (.ls (cutL ds lo hi))
  | .tuple ds, lo, hi => some (.sh (.tuple (cutL ds lo hi)))
  | .str z, lo, hi => if z.length ≤ sizeLine then some (.sh (.str (cutS z lo hi))) else none
  | _, _, _ => none
abbrev PM := Cs → Option (Option Int × Cs)
def mNoP : PM := fun ε => some (none, ε)
def mPt (m : OM) : PM := fun ε => do
  let (o, ε1) ← m ε
  let d ← bor ε1 o
  match d with
    | .int i => some (some i, ε1)
    | _ => none
def tP (K : Ek) (m : PM) : TO := fun σ H Q => ∃ F R ε o ε', Sep K F R H σ ε [] ∧ m ε = some (o, ε') ∧ ∀ F' H', Same F F' → Sep K F' R H' σ ε' [] → Q o H'
theorem _root_.L2.PO.weak {e : Option Expr} {t t' : TO} (h : PO X e t) (w : ∀ σ H Q, t' σ H Q → t σ H Q) : PO X e t' := ⟨fun pins s σ H Q I q => h.run pins s σ H Q I (w σ H Q q)⟩
theorem mp_some {e : Expr} {m : OM} (h : PE X e (tO X.E m)) : PO X (some e) (tP X.E (mPt m)) := (po_some h).weak fun σ H Q h => by
  obtain ⟨F, R, ε, o, ε', ok, e, q⟩ := h
  unfold mPt at e
  cases e1 : m ε with
  | none => simp [e1] at e
  | some p =>
    obtain ⟨o1, ε1⟩ := p
    cases e2 : bor ε1 o1 with
    | none => simp [e1, e2] at e
    | some d =>
      simp only [e1, e2, Option.bind_eq_bind, Option.bind_some] at e
      split at e
      · rename_i i
        cases e
        refine ⟨F, R, ε, o1, _, ok, e1, fun v F1 H1 fm1 v1 s1 => ?_⟩
        have hb : bors ε' [o1] = some [.int i] := by simp [bors, e2]
        rw [← List.append_nil (tmO [o1] [v])] at s1
        obtain ⟨x, ex, rx⟩ := (bors_ok s1 v1 hb).one
        cases ex
        exact ⟨i, rb_int rx, q F1 H1 fm1 (s1.drops _)⟩
      · cases e
/-- the value is looked at behind the parts: it must be frozen, or a list of its own -/
def mSl (m : OM) (lo hi : PM) : EM := fun ε => do
  let (o, ε1) ← m ε
  let (l, ε2) ← lo ε1
  let (h, ε3) ← hi ε2
  let d ← bor ε3 o
  let c ← slD d l h
  some (c, ε3)
theorem Reps.cut {K : PySem.W.Frag} {F : Hp} {vs : List V} {ds : List D} (h : Reps K F vs ds) (lo hi : Option Int) : Reps K F (cutV vs lo hi) (cutL ds lo hi) := by
  unfold cutV cutL
  rw [h.length]
  exact Reps.take _ (Reps.drop _ h)
theorem cut_whole {α : Type} {xs : List α} {lo hi : Option Int} (h : HT.sIx xs.length 0 lo = 0 ∧ HT.sIx xs.length xs.length hi = xs.length) : cutL xs lo hi = xs := by
  unfold cutL
  rw [h.1, h.2]
  simp
def rSlH (K : PySem.W.Frag) : V → Option Int → Option Int → Hp → VK → Prop := fun x lo hi H Q => ∃ a xs, x = .ref a ∧ SqT K H a xs ∧
  (HT.sIx xs.length 0 lo = 0 ∧ HT.sIx xs.length xs.length hi = xs.length → Q (.ref a) H) ∧ (¬ (HT.sIx xs.length 0 lo = 0 ∧ HT.sIx xs.length xs.length hi = xs.length) → ∀ (p : Addr) (o : Obj), o.dict = none → H p = none → Q (.ref p) (upd H p (.frz o (.tup (cutV xs lo hi)))))
theorem sl_tupH : SlR X (rSlH X.K) := by
  rintro pins s σ H x v vl vu lo hi sl Q I rx hs pl pu ⟨a, xs, rfl, hx, q1, q2⟩
  cases rx
  obtain ⟨its, r, ht, hz⟩ := I.tuple hx
  have le : its.toArray.size = xs.length := by rw [List.size_toArray]; exact r.length.symm
  refine ⟨"tuple", _, PyProof.Rows.slot_tuple_getitem.lookup, ht.typeIs, ?_⟩
  by_cases hw : HT.sIx xs.length 0 lo = 0 ∧ HT.sIx xs.length xs.length hi = xs.length
  · exact getItem_tuple_whole ht hs pl pu (by rw [le]; exact hw) ⟨.ref a, H, I, rfl, q1 hw⟩
  · refine HT.getItem_tuple_cut ht hs pl pu (by rw [le]; exact hw) ?_ (by rw [le]; exact hz)
    rw [le]
    exact laidH I ((r.drop (HT.sIx xs.length 0 lo)).take (HT.sIx xs.length xs.length hi - HT.sIx xs.length 0 lo)) (Nat.le_trans (cutV_length xs lo hi) hz) (q2 hw)
def slR (K : PySem.W.Frag) : V → Option Int → Option Int → Hp → VK → Prop := fun x lo hi H Q => rSlL K x lo hi H Q ∨ rSlH K x lo hi H Q ∨ rSlS x lo hi H Q
theorem sl_fn {K : PySem.W.Frag} {F H : Hp} {x : V} {d : D} {c : C} {lo hi : Option Int} {Q : VK} (s : Same F H) (h1 : RepB K F H x d) (he : slD d lo hi = some c) (q : ∀ v F' H', Grow K F H F' H' v c → Q v H') : slR K x lo hi H Q := by
  unfold slD at he
  split at he
  · cases he
    obtain ⟨a, vs, rfl, g1, g2⟩ := rb_lst s h1
    exact .inl ⟨a, vs, rfl, g1, g_lst s (g2.cut _ _) q⟩
  · cases he
    obtain ⟨a, vs, rfl, g0, g1, g2⟩ := rb_tup s h1
    refine .inr (.inl ⟨a, vs, rfl, g1, fun hw => ?_, fun _ => g_tup s (g2.cut _ _) q⟩)
    rw [g2.length] at hw
    rw [cut_whole hw] at q
    exact gv s (d := .tuple _) ⟨a, vs, rfl, g0, g2⟩ q
  · split at he
    · cases he
      exact .inr (.inr ⟨_, rb_str h1, by assumption, g_str s q⟩)
    · cases he
  · cases he
/-- the operands wait aside -/
theorem Sep.hides {K : Ek} {H : Hp} {σ : St} {ε : Cs} : ∀ {T0 : Tms} {F R : Hp}, Sep K F R H σ ε T0 → ∃ R1, Sep K F R1 H σ ε [] ∧ ∀ F' H' σ' ε' T', Same F F' → Sep K F' R1 H' σ' ε' T' → Sep K F' R H' σ' ε' (T0 ++ T')
  | [], F, R, s => ⟨R, s, fun F' H' σ' ε' T' _ s' => s'⟩
  | (v, c) :: T0, F, R, s => by
    obtain ⟨R1, _, s1, b1⟩ := s.hide
    obtain ⟨R2, s2, b2⟩ := Sep.hides s1
    exact ⟨R2, s2, fun F' H' σ' ε' T' fm s' => b1 F' H' σ' ε' _ fm (b2 F' H' σ' ε' T' fm s')⟩
theorem me_slice {e : Expr} {lo hi : Option Expr} {m : OM} {ml mh : PM} {p2 pos : Pos} (he : PE X e (tO X.E m)) (hl : PO X lo (tP X.E ml)) (hh : PO X hi (tP X.E mh)) : PE X (.Subscript e (.Slice lo hi none p2) pos) (tE X.E (mSl m ml mh)) :=
  (pe_slice (sl_list.or (sl_tupH.or sl_str)) he hl hh).weak fun σ H Q h => by
    obtain ⟨F, R, ε, c, ε', ok, e, q⟩ := h
    unfold mSl at e
    cases e1 : m ε with
    | none => simp [e1] at e
    | some p =>
      obtain ⟨o, ε1⟩ := p
      cases e2 : ml ε1 with
      | none => simp [e1, e2] at e
      | some p2 =>
        obtain ⟨l, ε2⟩ := p2
        cases e3 : mh ε2 with
        | none => simp [e1, e2, e3] at e
        | some p3 =>
          obtain ⟨u, ε3⟩ := p3
          cases e4 : bor ε3 o with
          | none => simp [e1, e2, e3, e4] at e
          | some d =>
            cases e5 : slD d l u with
            | none => simp [e1, e2, e3, e4, e5] at e
            | some c' =>
              simp [e1, e2, e3, e4, e5] at e
              obtain ⟨rfl, rfl⟩ := e
              refine ⟨F, R, ε, o, ε1, ok, e1, fun v F1 H1 fm1 v1 s1 => ?_⟩
              obtain ⟨R1, s1', back⟩ := s1.hides
              refine ⟨F1, R1, ε1, l, ε2, s1', e2, fun F2 H2 fm2 s2 => ⟨F2, R1, ε2, u, ε3, s2, e3, fun F3 H3 fm3 s3 => ?_⟩⟩
              have s3' := back F3 H3 σ ε3 [] (fm2.trans fm3) s3
              have hb : bors ε3 [o] = some [d] := by simp [bors, e4]
              obtain ⟨x, ex, rx⟩ := (bors_ok s3' v1 hb).one
              cases ex
              refine sl_fn s3'.sub rx e5 fun w F4 H4 g => ?_
              exact q w F4 H4 (((fm1.trans fm2).trans fm3).trans g.fm) ((s3'.drops _).res g)
def lenD : List D → Option C
  | [.list ds] => some (.sh (.int ds.length))
  | [.tuple ds] => some (.sh (.int ds.length))
  | [.str z] => if z.length ≤ sizeLine then some (.sh (.int z.length)) else none
  | _ => none
theorem len_ok : ∃ r, CallR X (.builtin "len") r ∧ FnB X.K lenD r := by
  refine ⟨_, call_len, fun F H vs ds c Q s hr he q => ?_⟩
  match ds, he, hr with
  | [.list ds], he, hr =>
    cases he
    obtain ⟨x, rfl, h1⟩ := hr.one
    obtain ⟨a, vs, rfl, g1, g2⟩ := rb_lst s h1
    refine ⟨_, ds.length, rfl, .inl ⟨vs, g1, g2.length.symm⟩, g_int s q⟩
  | [.tuple ds], he, hr =>
    cases he
    obtain ⟨x, rfl, h1⟩ := hr.one
    obtain ⟨a, vs, rfl, g0, g1, g2⟩ := rb_tup s h1
    refine ⟨_, ds.length, rfl, .inr ⟨vs, g1, g2.length.symm⟩, g_int s q⟩
  | [.str z], he, hr =>
    simp only [lenD] at he
    split at he
    · rename_i hz
      cases he
      obtain ⟨x, rfl, h1⟩ := hr.one
      rw [rb_str h1]
      exact ⟨_, z.length, rfl, ⟨hz, rfl⟩, g_int s q⟩
    · cases he
def intD : List D → Option C
  | [.int i] => some (.sh (.int i))
  | [.bool k] => some (.sh (.int (if k then 1 else 0)))
  | _ => none
theorem int_ok : ∃ r, CallR X (.type "int") r ∧ FnB X.K intD r := by
  refine ⟨_, call_int1, fun F H vs ds c Q s hr he q => ?_⟩
  match ds, he, hr with
  | [.int i], he, hr =>
    cases he
    obtain ⟨x, rfl, h1⟩ := hr.one
    rw [rb_int h1]
    exact .inl ⟨i, rfl, g_int s q⟩
  | [.bool k], he, hr =>
    cases he
    obtain ⟨x, rfl, h1⟩ := hr.one
    rw [rb_bool h1]
    exact .inr ⟨k, rfl, g_int s q⟩
def maxD : List D → Option C
  | [.int i, .int j] => some (.sh (.int (if j > i then j else i)))
  | _ => none
theorem max_ok (hc : X.calm = true) : ∃ r, CallR X (.builtin "max") r ∧ FnB X.K maxD r := by
  refine ⟨_, call_max2 hc, fun F H vs ds c Q s hr he q => ?_⟩
  match ds, he, hr with
  | [.int i, .int j], he, hr =>
    cases he
    obtain ⟨x, y, rfl, h1, h2⟩ := hr.two
    rw [rb_int h1, rb_int h2]
    exact ⟨i, j, rfl, g_int s q⟩
def minD : List D → Option C
  | [.int i, .int j] => some (.sh (.int (if j < i then j else i)))
  | _ => none
theorem min_ok (hc : X.calm = true) : ∃ r, CallR X (.builtin "min") r ∧ FnB X.K minD r := by
  refine ⟨_, call_min2 hc, fun F H vs ds c Q s hr he q => ?_⟩
  match ds, he, hr with
  | [.int i, .int j], he, hr =>
    cases he
    obtain ⟨x, y, rfl, h1, h2⟩ := hr.two
    rw [rb_int h1, rb_int h2]
    exact ⟨i, j, rfl, g_int s q⟩
def absD : List D → Option C
  | [.int i] => some (.sh (.int (if i < 0 then -i else i)))
  | _ => none
theorem abs_ok : ∃ r, CallR X (.builtin "abs") r ∧ FnB X.K absD r := by
  refine ⟨_, call_abs, fun F H vs ds c Q s hr he q => ?_⟩
  match ds, he, hr with
  | [.int i], he, hr =>
    cases he
    obtain ⟨x, rfl, h1⟩ := hr.one
    rw [rb_int h1]
    exact ⟨i, rfl, g_int s q⟩
def tupD : List D → Option C
  | [.list ds] => some (.sh (.tuple ds))
  | [.tuple ds] => some (.sh (.tuple ds))
  | _ => none
theorem call_tupleH : CallR X (.type "tuple") (fun xs H Q => ∃ p ys, xs = [.ref p] ∧ ((SqL X.K H p ys ∧ ∀ (l : Addr) (o : Obj), o.dict = none → H l = none → Q (.ref l) (upd H l (.frz o (.tup ys)))) ∨ (SqT X.K H p ys ∧ Q (.ref p) H))) := by
  rintro pins s σ H xs us Q I r ⟨p, ys, rfl, h⟩
  obtain ⟨u, rfl, rx⟩ := vals1 r
  cases rx
  rcases h with ⟨hq, q⟩ | ⟨hq, q⟩
  · obtain ⟨its, r', pl, hz⟩ := I.list hq
    have le := r'.length
    refine call_tuple_list pl.isList (fun h' kp => ?_) (by simp only [List.size_toArray] <;> omega)
    have I1 : Inv X pins σ H { s with heap := h' } := I.kept (t' := s.toks) kp
    exact laidH I1 r' hz q
  · obtain ⟨its, r', pl, hz⟩ := I.tuple hq
    exact call_tuple_same pl ⟨.ref p, H, I, rfl, q⟩
theorem tup_ok : ∃ r, CallR X (.type "tuple") r ∧ FnB X.K tupD r := by
  refine ⟨_, call_tupleH, fun F H vs ds c Q s hr he q => ?_⟩
  match ds, he, hr with
  | [.list ds], he, hr =>
    cases he
    obtain ⟨x, rfl, h1⟩ := hr.one
    obtain ⟨a, vs, rfl, g1, g2⟩ := rb_lst s h1
    exact ⟨a, vs, rfl, .inl ⟨g1, g_tup s g2 q⟩⟩
  | [.tuple ds], he, hr =>
    cases he
    obtain ⟨x, rfl, h1⟩ := hr.one
    obtain ⟨a, vs, rfl, g0, g1, g2⟩ := rb_tup s h1
    exact ⟨a, vs, rfl, .inr ⟨g1, gv s (d := .tuple _) ⟨a, vs, rfl, g0, g2⟩ q⟩⟩
def lstD : List D → Option C
  | [.list ds] => some (.ls ds)
  | [.tuple ds] => some (.ls ds)
  | _ => none
theorem lst_ok : ∃ r, CallR X (.type "list") r ∧ FnB X.K lstD r := by
  refine ⟨_, call_list_of, fun F H vs ds c Q s hr he q => ?_⟩
  match ds, he, hr with
  | [.list ds], he, hr =>
    cases he
    obtain ⟨x, rfl, h1⟩ := hr.one
    obtain ⟨a, vs, rfl, g1, g2⟩ := rb_lst s h1
    exact ⟨a, vs, rfl, .inl g1, g_lst s g2 q⟩
  | [.tuple ds], he, hr =>
    cases he
    obtain ⟨x, rfl, h1⟩ := hr.one
    obtain ⟨a, vs, rfl, g0, g1, g2⟩ := rb_tup s h1
    exact ⟨a, vs, rfl, .inr g1, g_lst s g2 q⟩
def repD : List D → Option C
  | [.none] => some (.sh (.str "None"))
  | [.bool b] => some (.sh (.str (if b then "True" else "False")))
  | [.int i] => if sm i then some (.sh (.str (toString i))) else none
  | _ => none
theorem rep_ok : ∃ r, CallR X (.builtin "repr") r ∧ FnB X.K repD r := by
  refine ⟨fun xs H Q => (xs = [.non] ∧ Q (.str "None") H) ∨ (∃ b, xs = [.bl b] ∧ Q (.str (if b then "True" else "False")) H) ∨ (∃ i, xs = [.int i] ∧ i.natAbs.log2 < 1920 ∧ Q (.str (toString i)) H), ?_, fun F H vs ds c Q s hr he q => ?_⟩
  · intro pins s σ H xs us Q I r h
    rcases h with ⟨rfl, q⟩ | ⟨b, rfl, q⟩ | ⟨i, rfl, hz, q⟩
    · obtain ⟨u, rfl, h⟩ := vals1 r
      cases h
      exact PySem.P.repr_of_none ⟨.str _, H, I.tok _, ⟨_, rfl⟩, q⟩
    · obtain ⟨u, rfl, h⟩ := vals1 r
      cases h
      exact PySem.P.repr_of_bool ⟨.str _, H, I.tok _, ⟨_, rfl⟩, q⟩
    · obtain ⟨u, rfl, t, rfl⟩ := vals1 r
      exact PySem.P.repr_of_int hz ⟨.str _, H, I.tok _, ⟨_, rfl⟩, q⟩
  match ds, he, hr with
  | [.none], he, hr =>
    cases he
    obtain ⟨x, rfl, h1⟩ := hr.one
    rw [rb_non h1]
    exact .inl ⟨rfl, g_str s q⟩
  | [.bool b], he, hr =>
    cases he
    obtain ⟨x, rfl, h1⟩ := hr.one
    rw [rb_bool h1]
    exact .inr (.inl ⟨b, rfl, g_str s q⟩)
  | [.int i], he, hr =>
    simp only [repD] at he
    split at he
    · rename_i hz
      cases he
      obtain ⟨x, rfl, h1⟩ := hr.one
      rw [rb_int h1]
      exact .inr (.inr ⟨i, rfl, by have := log2_le hz.1 hz.2; omega, g_str s q⟩)
    · cases he
end
end L2.M
namespace L2.M
open PySem PySem.Spec PyProof.Rows
abbrev BM := D → Cs → Option Cs
def bNm (i : Nat) : BM := fun d ε => if i < ε.length then some (ε.set i (.sh d)) else none
def bTps : List BM → List D → Cs → Option Cs
  | [], [], ε => some ε
  | b :: bs, d :: ds, ε => do
    let ε1 ← b d ε
    bTps bs ds ε1
  | _, _, _ => none
def bTup (bs : List BM) : BM := fun d ε => match d with
  | .tuple ds => if ds.length = bs.length then bTps bs ds ε else none
  | _ => none
/-- what a target leaves: the slots but S stay -/
structure Bnd (K : Ek) (F R H : Hp) (S : Nat → Prop) (σ : St) (ε : Cs) (H' : Hp) (σ' : St) (ε' : Cs) : Prop where
  sep : Sep K F R H' σ' ε' []
  st : ∀ i : Nat, ¬ S i → σ'[i]? = σ[i]?
  ln : σ'.length = σ.length
def Gd (K : Ek) (g : TG) (b : BM) (S : Nat → Prop) : Prop :=
  ∀ F R H σ ε x d ε' (Q : St → Hp → Prop), Sep K F R H σ ε [] → Rep K.1 F x d → b d ε = some ε' → (∀ H' σ', Bnd K F R H S σ ε H' σ' ε' → Q σ' H') → g x σ H Q
def Gds (K : Ek) (g : TGs) (b : List D → Cs → Option Cs) (S : Nat → Prop) : Prop :=
  ∀ F R H σ ε xs ds ε' (Q : St → Hp → Prop), Sep K F R H σ ε [] → Reps K.1 F xs ds → b ds ε = some ε' → (∀ H' σ', Bnd K F R H S σ ε H' σ' ε' → Q σ' H') → g xs σ H Q
section
variable {K : Ek} {F R H H1 H2 : Hp} {σ σ1 σ2 : St} {ε ε1 ε2 : Cs} {S S' : Nat → Prop}
theorem Bnd.trans (a : Bnd K F R H S σ ε H1 σ1 ε1) (b : Bnd K F R H1 S σ1 ε1 H2 σ2 ε2) : Bnd K F R H S σ ε H2 σ2 ε2 :=
  ⟨b.sep, fun i h => (b.st i h).trans (a.st i h), b.ln.trans a.ln⟩
theorem Bnd.imp (a : Bnd K F R H S σ ε H1 σ1 ε1) (h : ∀ i, S i → S' i) : Bnd K F R H S' σ ε H1 σ1 ε1 := ⟨a.sep, fun i n => a.st i fun z => n (h i z), a.ln⟩
theorem gd_name {i : Nat} : Gd K (gName i) (bNm i) (· = i) := by
  intro F R H σ ε x d ε' Q o r e q
  unfold bNm at e
  split at e
  · cases e
    exact q H _ ⟨(o.addSh r).store i, fun j h => List.getElem?_set_ne (Ne.symm h), by simp⟩
  · cases e
theorem gds_nil : Gds K gNil (bTps []) (fun _ => False) := by
  intro F R H σ ε xs ds ε' Q o r e q
  cases ds with
  | nil =>
    cases e
    exact ⟨r, q H σ ⟨o, fun _ _ => rfl, rfl⟩⟩
  | cons _ _ => simp [bTps] at e
theorem gds_cons {t : TG} {u : TGs} {b : BM} {bs : List BM} (h1 : Gd K t b S) (h2 : Gds K u (bTps bs) S') : Gds K (gCons t u) (bTps (b :: bs)) (fun i => S i ∨ S' i) := by
  intro F R H σ ε xs ds ε' Q o r e q
  cases ds with
  | nil => simp [bTps] at e
  | cons d ds =>
    obtain ⟨v, vr, rfl, r1, r2⟩ := r
    unfold bTps at e
    cases e1 : b d ε with
    | none => simp [e1] at e
    | some ε1 =>
      simp [e1] at e
      refine ⟨v, vr, rfl, h1 F R H σ ε v d ε1 _ o r1 e1 fun H1 σ1 b1 => ?_⟩
      exact h2 F R H1 σ1 ε1 vr ds ε' Q b1.sep r2 e fun H2 σ2 b2 => q H2 σ2 ((b1.imp fun _ z => .inl z).trans (b2.imp fun _ z => .inr z))
theorem gd_tup {t : TGs} {bs : List BM} {n : Nat} (hn : n = bs.length) (h : Gds K t (bTps bs) S) : Gd K (gTup K.1 n t) (bTup bs) S := by
  intro F R H σ ε x d ε' Q o r e q
  unfold bTup at e
  split at e
  · rename_i ds
    split at e
    · rename_i hl
      obtain ⟨a, vs, rfl, h1, h2⟩ := r
      exact ⟨a, vs, rfl, sameT o.sub h1.sq, by rw [h2.length, hl, hn], h F R H σ ε vs ds ε' Q o h2 e q⟩
    · cases e
  · cases e
end
def Src (K : Ek) (F R H : Hp) (σ : St) (ε : Cs) (J : It) (ds : List D) (ws : List Nat) : Prop :=
  ∃ G Y, Walk J ds.length G Y ∧ ∀ F2 H2 σ2 ε2, Same F F2 → Sep K F2 R H2 σ2 ε2 [] → (∀ i ∈ ws, σ2[i]? = σ[i]? ∧ ε2[i]? = ε[i]?) →
    G H2 ∧ ∀ i x H3, i < ds.length → Y i H2 x H3 → ∃ F3 d, ds[i]? = some d ∧ Rep K.1 F3 x d ∧ Grw F2 H2 F3 H3
/-- what waits aside comes back -/
def Back (K : Ek) (F R1 R : Hp) : Prop := ∀ F' H' σ' ε' T', Same F F' → Sep K F' R1 H' σ' ε' T' → Sep K F' R H' σ' ε' T'
abbrev SM := Cs → Option ((List D × List Nat) × Cs)
def tI (K : Ek) (m : SM) : TI := fun σ H Q => ∃ F R ε ds ws ε', Sep K F R H σ ε [] ∧ m ε = some ((ds, ws), ε') ∧ ∀ F' R' H' J, Same F F' → Sep K F' R' H' σ ε' [] → Back K F' R' R → Src K F' R' H' σ ε' J ds ws → Q J H'
def plOf : List Opd → List Nat
  | [] => []
  | .pl i :: os => i :: plOf os
  | .tm _ :: os => plOf os
def mSrc (kind : List D → Option (List D)) (ma : AM) : SM := fun ε => do
  let (os, ε1) ← ma ε
  let ds ← bors ε1 os
  let out ← kind ds
  some ((out, plOf os), ε1)
/-- the operands, looked at later -/
def Later (K : Ek) (F R : Hp) (σ : St) (ε : Cs) (ws : List Nat) (vs : List V) (ds : List D) : Prop := ∀ F2 H2 σ2 ε2, Same F F2 → Sep K F2 R H2 σ2 ε2 [] → (∀ i ∈ ws, σ2[i]? = σ[i]? ∧ ε2[i]? = ε[i]?) → RepBs K.1 F2 H2 vs ds
theorem opv_to {σ σ2 : St} : ∀ {os : List Opd} {vs : List V}, OpV σ vs os → (∀ i ∈ plOf os, σ2[i]? = σ[i]?) → OpV σ2 vs os
  | [], vs, h, k => by cases h; exact .nil
  | _ :: os, vs, h, k => by
    cases h with
    | pl hv h2 => exact .pl ((k _ (by simp [plOf])).trans hv) (opv_to h2 fun i hi => k i (by simp [plOf, hi]))
    | tm h2 => exact .tm (opv_to h2 k)
theorem bors_to {ε ε2 : Cs} : ∀ {os : List Opd} {ds : List D}, bors ε os = some ds → (∀ i ∈ plOf os, ε2[i]? = ε[i]?) → bors ε2 os = some ds
  | [], ds, h, k => h
  | o :: os, ds, h, k => by
    unfold bors at h ⊢
    have e1 : bor ε2 o = bor ε o := by
      cases o with
      | pl i => simp only [bor, k i (by simp [plOf])]
      | tm c => cases c <;> rfl
    have hk : ∀ i ∈ plOf os, ε2[i]? = ε[i]? := fun i hi => k i (by
      cases o with
      | pl j => simp [plOf, hi]
      | tm c => exact hi)
    rw [e1]
    cases e2 : bor ε o with
    | none => simp [e2] at h
    | some d =>
      cases e3 : bors ε os with
      | none => simp [e2, e3] at h
      | some ds2 =>
        rw [bors_to e3 hk]
        simpa [e2, e3] using h
theorem later_ok {K : Ek} {F R H : Hp} {σ : St} {ε : Cs} {os : List Opd} {vs : List V} {ds : List D} (s : Sep K F R H σ ε (tmO os vs)) (h : OpV σ vs os) (e : bors ε os = some ds) :
    ∃ R1, Sep K F R1 H σ ε [] ∧ Back K F R1 R ∧ Later K F R1 σ ε (plOf os) vs ds := by
  obtain ⟨R1, s1, back⟩ := s.hides
  refine ⟨R1, s1, fun F' H' σ' ε' T' fm s' => (back F' H' σ' ε' T' fm s').drops _, fun F2 H2 σ2 ε2 fm s2 k => ?_⟩
  exact bors_ok (back F2 H2 σ2 ε2 [] fm s2) (opv_to h fun i hi => (k i hi).1) (bors_to e fun i hi => (k i hi).2)
def itemsD : List D → Option (List D)
  | [.list ds] => some ds
  | [.tuple ds] => some ds
  | [.str z] => some (z.cps.toList.map fun c => .str ⟨#[c]⟩)
  | _ => none
def rangeD (lo c : Int) (n : Nat) : List D := (List.range n).map fun i => PyData.int (lo + (i : Nat) * c)
def rng1D : List D → Option (List D)
  | [.int j] => if -(2 ^ 62) ≤ j ∧ j < 2 ^ 62 then some (rangeD 0 1 j.toNat) else none
  | _ => none
theorem _root_.L2.PI.or {X : Cx} {tg e : Expr} {w1 w2 : TI} (a : PI X tg e w1) (b : PI X tg e w2) : PI X tg e (fun σ H R => w1 σ H R ∨ w2 σ H R) :=
  ⟨fun pins s σ H R I h => h.elim (a.run pins s σ H R I) (b.run pins s σ H R I)⟩
theorem _root_.L2.PI.weak {X : Cx} {tg e : Expr} {w1 w2 : TI} (a : PI X tg e w1) (h : ∀ σ H R, w2 σ H R → w1 σ H R) : PI X tg e w2 := ⟨fun pins s σ H R I q => a.run pins s σ H R I (h σ H R q)⟩
theorem src_parts {K : Ek} {kind : List D → Option (List D)} {ma : AM} {σ : St} {H : Hp} {Q : It → Hp → Prop} (h : tI K (mSrc kind ma) σ H Q) : tA K ma σ H fun vs H1 => ∃ F R ε ws ds out, Sep K F R H1 σ ε [] ∧ Later K F R σ ε ws vs ds ∧ kind ds = some out ∧
    ∀ F' H' J, Same F F' → Sep K F' R H' σ ε [] → Src K F' R H' σ ε J out ws → Q J H' := by
  obtain ⟨F, R, ε, ds, ws, ε', o, e, q⟩ := h
  unfold mSrc at e
  cases e1 : ma ε with
  | none => simp [e1] at e
  | some p =>
    obtain ⟨os, ε1⟩ := p
    cases e2 : bors ε1 os with
    | none => simp [e1, e2] at e
    | some ds' =>
      cases e3 : kind ds' with
      | none => simp [e1, e2, e3] at e
      | some out =>
        simp [e1, e2, e3] at e
        obtain ⟨⟨rfl, rfl⟩, rfl⟩ := e
        refine ⟨F, R, ε, os, ε1, o, e1, fun vs F1 H1 fm1 v1 s1 => ?_⟩
        obtain ⟨R1, s2, bk, lt⟩ := later_ok s1 v1 e2
        exact ⟨F1, R1, ε1, plOf os, ds', out, s2, lt, e3, fun F' H' J fm s' sr => q F' R1 H' J (fm1.trans fm) s' (fun F2 H2 σ2 ε2 T2 fm2 => bk F2 H2 σ2 ε2 T2 (fm.trans fm2)) sr⟩
theorem Later.now {K : Ek} {F R H : Hp} {σ : St} {ε : Cs} {ws : List Nat} {vs : List V} {ds : List D} (l : Later K F R σ ε ws vs ds) (s : Sep K F R H σ ε []) : RepBs K.1 F H vs ds := l F H σ ε (Same.refl F) s fun _ _ => ⟨rfl, rfl⟩
theorem walkL {K : PySem.W.Frag} {a : Addr} {n : Nat} : Walk (Itl K a) n (fun H => ∃ vs, SqL K H a vs ∧ vs.length = n) (fun i H x H' => H' = H ∧ ∀ vs, SqL K H a vs → vs[i]? = some x) :=
  ⟨fun i _ hi ⟨vs, q, e⟩ => ⟨vs, vs[i]'(by omega), q, by simp [show i < vs.length by omega]⟩, fun _ ⟨vs, q, e⟩ => ⟨vs, q, by omega⟩, fun _ _ _ _ _ _ y => y⟩
theorem RepBs.inj1 {K : PySem.W.Frag} {F H : Hp} {x : V} {d : D} (h : RepBs K F H [x] [d]) : RepB K F H x d := by
  cases h with
  | cons h _ => exact h
section
variable {X : Cx} {tg e : Expr} {m : OM} {ma : AM}
/-- for x in e, e a list, a tuple or a text -/
theorem mi_any (h : PE X e (tO X.E m)) : PI X tg e (tI X.E (mSrc itemsD (mCons m mNil))) := by
  refine ((pi_list h).or ((pi_tup h).or (pi_str h))).weak fun σ H Q q => ?_
  -- the data of the operand is told ahead
  obtain ⟨F0, R0, ε0, ds0, ws0, ε0', s0, e0, q0⟩ := q
  unfold mSrc mCons mNil at e0
  cases em : m ε0 with
  | none => simp [em] at e0
  | some p =>
    obtain ⟨o0, εm⟩ := p
    cases eb : bor εm o0 with
    | none => simp [em, bors, eb] at e0
    | some d =>
      cases ek : itemsD [d] with
      | none => simp [em, bors, eb, ek] at e0
      | some out =>
        simp [em, bors, eb, ek] at e0
        obtain ⟨⟨rfl, rfl⟩, rfl⟩ := e0
        have hb : bors εm [o0] = some [d] := by simp [bors, eb]
        have go : ∀ v F' H', Same F0 F' → OpV σ [v] [o0] → Sep X.E F' R0 H' σ εm (tmO [o0] [v]) → ∃ R1, Sep X.E F' R1 H' σ εm [] ∧ Later X.E F' R1 σ εm (plOf [o0]) [v] [d] ∧ ∀ J, Src X.E F' R1 H' σ εm J out (plOf [o0]) → Q J H' := fun v F' H' fm v1 s1 => by
          obtain ⟨R1, s2, bk, lt⟩ := later_ok s1 v1 hb
          exact ⟨R1, s2, lt, fun J sr => q0 F' R1 H' J fm s2 bk sr⟩
        match d, ek with
        | .list ds, ek =>
          cases ek
          refine .inl ⟨F0, R0, ε0, o0, εm, s0, em, fun v F1 H1 fm1 v1 s1 => ?_⟩
          obtain ⟨R1, s2, lt, q3⟩ := go v F1 H1 fm1 v1 s1
          obtain ⟨a, vs, rfl, g1, g2⟩ := rb_lst s2.sub (lt.now s2).inj1
          refine ⟨a, rfl, ⟨vs, g1⟩, q3 _ ⟨_, _, walkL, fun F2 H2 σ2 ε2 fm2 s3 hw => ?_⟩⟩
          obtain ⟨a', us, ea, k1, k2⟩ := rb_lst s3.sub (lt F2 H2 σ2 ε2 fm2 s3 hw).inj1
          cases ea
          refine ⟨⟨us, k1, k2.length⟩, fun i x H3 hi y => ?_⟩
          obtain ⟨rfl, y⟩ := y
          obtain ⟨w, j1, j2⟩ := k2.get (List.getElem?_eq_getElem hi)
          rw [y us k1] at j1
          cases j1
          exact ⟨F2, _, List.getElem?_eq_getElem hi, j2, Grw.refl s3.sub⟩
        | .tuple ds, ek =>
          cases ek
          refine .inr (.inl ⟨F0, R0, ε0, o0, εm, s0, em, fun v F1 H1 fm1 v1 s1 => ?_⟩)
          obtain ⟨R1, s2, lt, q3⟩ := go v F1 H1 fm1 v1 s1
          obtain ⟨a, vs, rfl, h2, _, h3⟩ := rb_tup s2.sub (lt.now s2).inj1
          refine ⟨a, rfl, ⟨vs, sameT s2.sub h2.sq⟩, q3 _ ⟨_, _, (show Walk (Itt X.K a) out.length (fun H => SqT X.K H a vs) (YAt vs) by rw [← h3.length]; exact walk_tup), fun F2 H2 σ2 ε2 fm2 s3 hw => ?_⟩⟩
          refine ⟨sameT s3.sub (sameT fm2 h2.sq), fun i x H3 hi y => ?_⟩
          obtain ⟨rfl, y⟩ := y
          obtain ⟨w, k1, k2⟩ := h3.get (List.getElem?_eq_getElem hi)
          rw [y] at k1
          cases k1
          exact ⟨F2, _, List.getElem?_eq_getElem hi, Rep.mono fm2 _ _ k2, Grw.refl s3.sub⟩
        | .str z, ek =>
          cases ek
          refine .inr (.inr ⟨F0, R0, ε0, o0, εm, s0, em, fun v F1 H1 fm1 v1 s1 => ?_⟩)
          obtain ⟨R1, s2, lt, q3⟩ := go v F1 H1 fm1 v1 s1
          refine ⟨z, rb_str (lt.now s2).inj1, q3 _ ⟨_, _, (show Walk (Its z) (z.cps.toList.map fun c => PyData.str ⟨#[c]⟩).length _ _ by rw [List.length_map, Array.length_toList]; exact walk_str), fun F2 H2 σ2 ε2 fm2 s3 hw => ?_⟩⟩
          refine ⟨trivial, fun i x H3 hi y => ?_⟩
          obtain ⟨rfl, c, y1, rfl⟩ := y
          refine ⟨F2, .str ⟨#[c]⟩, ?_, by simp [Rep], Grw.refl s3.sub⟩
          rw [List.getElem?_map, Array.getElem?_toList, y1]
          rfl
theorem src_range {K : Ek} {F R H : Hp} {σ : St} {ε : Cs} {lo : Int} {n : Nat} {ws : List Nat} : Src K F R H σ ε (Itr lo n) (rangeD lo 1 n) ws := by
  refine ⟨_, _, (show Walk (Itr lo n) (rangeD lo 1 n).length (fun _ => True) (YFn fun i => .int (lo + i)) by simp only [rangeD, List.length_map, List.length_range]; exact walk_range), fun F2 H2 σ2 ε2 fm2 s2 _ => ⟨trivial, fun i x H3 hi y => ?_⟩⟩
  obtain ⟨rfl, rfl⟩ := y
  refine ⟨F2, .int (lo + i), ?_, by simp [Rep], Grw.refl s2.sub⟩
  simp only [rangeD, List.length_map, List.length_range] at hi
  simp [rangeD, hi]
theorem mi_range1 {a : Expr} {p pos : Pos} (hg : Gl X "range") (hm : X.mg "range" = none) (ha : PA X [a] (tA X.E ma)) (hs : starEach [a] X.env = [(false, eval a X.env)]) : PI X tg (.Call (.Name "range" p) [a] [] pos) (tI X.E (mSrc rng1D ma)) := by
  refine (pi_range1 hg hm ha hs).weak fun σ H Q q => tA_mono (src_parts q) fun vs H1 h => ?_
  obtain ⟨F, R, ε, ws, ds, out, s, lt, ek, q⟩ := h
  have rb := lt.now s
  match ds, ek, rb with
  | [.int j], ek, rb =>
    simp only [rng1D] at ek
    split at ek
    · rename_i hj
      cases ek
      obtain ⟨x, rfl, h1⟩ := rb.one
      exact ⟨j, by rw [rb_int h1], hj.1, hj.2, q F H1 _ (Same.refl F) s src_range⟩
    · cases ek
end
end L2.M
namespace L2.M
open PySem PySem.Spec PyProof.Rows
def wipeC (ε : Cs) : List Nat → Cs
  | [] => ε
  | v :: vs => (wipeC ε vs).set v .no
def restC (ε ε1 : Cs) : List Nat → Cs
  | [] => ε
  | v :: vs => match ε1[v]? with
    | some c => (restC ε ε1 vs).set v c
    | none => restC ε ε1 vs
def sameC (ws : List Nat) (ε0 ε : Cs) : Prop := ∀ i ∈ ws, ε[i]? = ε0[i]?
open Classical in
noncomputable def lcL (ws : List Nat) (ε0 : Cs) (bind : BM) (tests : TM) (elt : EM) (own : List Nat) : List D → Nat → Cs → Option (List D × Cs)
  | [], _, ε => if sameC ws ε0 ε then some ([], ε) else none
  | d :: ds, n, ε => if sameC ws ε0 ε then do
      let ε1 ← bind d ε
      let (b, ε2) ← tests ε1
      if b then do
        let (c, ε3) ← elt ε2
        let e ← cD c
        if n < sizeLine then do
          let (r, ε4) ← lcL ws ε0 bind tests elt own ds (n + 1) (wipeC ε3 own)
          some (e :: r, ε4)
        else none
      else lcL ws ε0 bind tests elt own ds n (wipeC ε2 own)
    else none
noncomputable def mLc (src : SM) (bind : BM) (tests : TM) (elt : EM) (own : List Nat) : EM := fun ε => do
  let ((ds, ws), ε1) ← src ε
  if ws.all (fun i => !own.contains i) then do
    let (out, ε2) ← lcL ws ε1 bind tests elt own ds 0 (wipeC ε1 own)
    some (.ls out, restC ε2 ε1 own)
  else none
def mYes : TM := fun ε => some (true, ε)
section
variable {K : Ek} {F R H H' : Hp} {σ : St} {ε : Cs} {T : Tms} {v : V} {c : C} {a : Addr}
theorem flat_rep (n : Nat) : (List.replicate n ([] : List Addr)).flatten = [] := by
  induction n with
  | zero => rfl
  | succ n ih => rw [List.replicate_succ, List.flatten_cons, ih]; rfl
end
section
variable {K : Ek} {F R H : Hp} {σ : St} {ε : Cs} {T : Tms}
/-- a slot of which nothing is told may hold anything -/
theorem Sep.free (s : Sep K F R H σ ε T) {i : Nat} (h : ε[i]? = some .no) (o : Option V) : Sep K F R H (σ.set i o) ε T := by
  obtain ⟨a1, a2, a3, ⟨fs, gs, h1, h2, n, m⟩⟩ := s
  obtain ⟨o', f, e1, e2, e3⟩ := h1.get h
  have h1' := RpCs.set (o := o) (c := .no) (f := f) (K := K) (F := F) (H := H) e3 i h1
  rw [set_same h, set_same e2] at h1'
  exact ⟨a1, a2, a3, fs, gs, h1', h2, n, m⟩
end
end L2.M
namespace L2.M
open PySem PySem.Spec PyProof.Rows
abbrev Xw := Value → Option Addr → St → Hp → Prop
inductive Fl where
  | nx | bk | ct | rt (c : C) | xc (x : Xn)
abbrev XM := Cs → Option (Fl × Cs)
/-- the slots in io stay -/
structure StS (io : List Nat) (σ σ' : St) : Prop where
  st : ∀ i ∈ io, σ'[i]? = σ[i]?
  ln : σ'.length = σ.length
theorem StS.refl {io : List Nat} (σ : St) : StS io σ σ := ⟨fun _ _ => rfl, rfl⟩
theorem StS.trans {io : List Nat} {σ σ1 σ2 : St} (a : StS io σ σ1) (b : StS io σ1 σ2) : StS io σ σ2 := ⟨fun i h => (b.st i h).trans (a.st i h), b.ln.trans a.ln⟩
theorem StS.imp {io io' : List Nat} {σ σ1 : St} (a : StS io' σ σ1) (h : ∀ i ∈ io, i ∈ io') : StS io σ σ1 := ⟨fun i hi => a.st i (h i hi), a.ln⟩
theorem StS.set {io : List Nat} {σ : St} {i : Nat} {o : Option V} (h : i ∉ io) : StS io σ (σ.set i o) := ⟨fun j hj => List.getElem?_set_ne (by rintro rfl; exact h hj), by simp⟩
theorem Bnd.sts {K : Ek} {F R H H1 : Hp} {S : Nat → Prop} {σ σ1 : St} {ε ε1 : Cs} {io : List Nat} (b : Bnd K F R H S σ ε H1 σ1 ε1) (h : ∀ i, S i → i ∉ io) : StS io σ σ1 := ⟨fun i hi => b.st i fun z => h i z hi, b.ln⟩
def Fin (K : Ek) (R : Hp) (De : Ends) (W : Xw) (F' H' : Hp) (σ' : St) (ε' : Cs) : Fl → Prop
  | .nx => Sep K F' R H' σ' ε' [] → De.nx σ' H'
  | .bk => Sep K F' R H' σ' ε' [] → De.bk σ' H'
  | .ct => Sep K F' R H' σ' ε' [] → De.ct σ' H'
  | .rt c => ∀ v, Sep K F' R H' σ' ε' [(v, c)] → De.rt v H'
  | .xc x => ∀ cls d, Sep K F' R H' σ' ε' [] → RepX K F' cls d x → W cls d σ' H'
def tS (K : Ek) (W : Xw) (io : List Nat) (m : XM) : TS := fun De σ H => ∃ F R ε f ε', Sep K F R H σ ε [] ∧ m ε = some (f, ε') ∧ ∀ F' H' σ', Same F F' → StS io σ σ' → Fin K R De W F' H' σ' ε' f
theorem Fin.back {K : Ek} {F1 R R1 : Hp} {De : Ends} {W : Xw} {F' H' : Hp} {σ' : St} {ε' : Cs} {f : Fl} (bk : Back K F1 R1 R) (fm : Same F1 F') (h : Fin K R De W F' H' σ' ε' f) : Fin K R1 De W F' H' σ' ε' f := by
  cases f with
  | nx => exact fun s => h (bk F' H' σ' ε' [] fm s)
  | bk => exact fun s => h (bk F' H' σ' ε' [] fm s)
  | ct => exact fun s => h (bk F' H' σ' ε' [] fm s)
  | rt c => exact fun v s => h v (bk F' H' σ' ε' _ fm s)
  | xc x => exact fun cls d s => h cls d (bk F' H' σ' ε' _ fm s)
def mSkip : XM := fun ε => some (.nx, ε)
def mSeq (m n : XM) : XM := fun ε => match m ε with
  | some (.nx, ε1) => n ε1
  | r => r
section
variable {X : Cx} {W : Xw} {io : List Nat} {st : Stmt} {rest : List Stmt} {m n : XM} {e : Expr} {pos : Pos}
theorem ms_nil : PSs X [] (tS X.E W io mSkip) := ⟨fun pins s σ H De I h => by
  obtain ⟨F, R, ε, f, ε', o, e, q⟩ := h
  cases e
  exact pss_nil.run pins s σ H De I (q F H σ (Same.refl F) (StS.refl σ) o)⟩
theorem ms_cons (h1 : PS X st (tS X.E W io m)) (h2 : PSs X rest (tS X.E W io n)) : PSs X (st :: rest) (tS X.E W io (mSeq m n)) := ⟨fun pins s σ H De I h => by
  obtain ⟨F, R, ε, f, ε', o, e, q⟩ := h
  refine (pss_cons h1 h2).run pins s σ H De I ?_
  unfold mSeq at e
  split at e
  · rename_i ε1 e1
    exact ⟨F, R, ε, .nx, ε1, o, e1, fun F1 H1 σ1 fm1 t1 s1 => ⟨F1, R, ε1, f, ε', s1, e, fun F2 H2 σ2 fm2 t2 => q F2 H2 σ2 (fm1.trans fm2) (t1.trans t2)⟩⟩
  · rename_i r hr
    refine ⟨F, R, ε, f, ε', o, e, fun F1 H1 σ1 fm1 t1 => ?_⟩
    have := q F1 H1 σ1 fm1 t1
    cases f with
    | nx => exact (hr ε' e).elim
    | _ => exact this⟩
def mFlow (f : Fl) : XM := fun ε => some (f, ε)
theorem _root_.L2.PS.weak {t t' : TS} (h : PS X st t) (w : ∀ De σ H, t' De σ H → t De σ H) : PS X st t' := ⟨fun pins s σ H De I q => h.run pins s σ H De I (w De σ H q)⟩
def mExpr (m : EM) : XM := fun ε => do
  let (_, ε1) ← m ε
  some (.nx, ε1)
def mRet (m : EM) : XM := fun ε => do
  let (c, ε1) ← m ε
  some (.rt c, ε1)
theorem ms_ret {m : EM} (he : PE X e (tE X.E m)) : PS X (.Return (some e) pos) (tS X.E W io (mRet m)) := (ps_ret he).weak fun De σ H h => by
  obtain ⟨F, R, ε, f, ε', o, e, q⟩ := h
  unfold mRet at e
  cases e1 : m ε with
  | none => simp [e1] at e
  | some p =>
    obtain ⟨c, ε1⟩ := p
    simp [e1] at e
    obtain ⟨rfl, rfl⟩ := e
    exact ⟨F, R, ε, c, ε1, o, e1, fun v F1 H1 fm p => q F1 H1 σ fm (StS.refl σ) v p⟩
def mRetN : XM := fun ε => some (.rt (.sh .none), ε)
/-- return name: an own thing is handed out -/
def mRetV (io : List Nat) (i : Nat) : XM := fun ε => match ε[i]? with
  | some (.sh d) => some (.rt (.sh d), ε)
  | some (.ls ds) => if io.contains i then some (.rt (.sh (.list ds)), ε.set i (.sh (.list ds))) else some (.rt (.ls ds), ε.set i .no)
  | some (.dc k ds) => some (.rt (.dc k ds), ε.set i .no)
  | some (.ob k cs) => some (.rt (.ob k cs), ε.set i .no)
  | _ => none
theorem ms_retV {i : Nat} {x : Str} {p : Pos} (h : PE X (.Name x p) (tVar i)) : PS X (.Return (some (.Name x p)) pos) (tS X.E W io (mRetV io i)) := (ps_ret h).weak fun De σ H h => by
  obtain ⟨F, R, ε, f, ε', o, e, q⟩ := h
  have mv : ∀ {c : C}, ε[i]? = some c → c ≠ .no → f = .rt c → ε' = ε.set i .no → ∃ v, σ[i]? = some (some v) ∧ De.rt v H := fun {c} h1 h2 h3 h4 => by
    obtain ⟨v, hv⟩ := o.val h1 h2
    subst h3 h4
    exact ⟨v, hv, q F H σ (Same.refl F) (StS.refl σ) v (o.take h1 hv)⟩
  unfold mRetV at e
  split at e
  · rename_i d hd
    cases e
    obtain ⟨v, h1, h2⟩ := o.sh hd
    exact ⟨v, h1, q F H σ (Same.refl F) (StS.refl σ) v (o.addSh h2)⟩
  · rename_i ds hd
    split at e
    · cases e
      exact o.frzVal hd rfl fun v F' H' fm s => q F' H' σ fm (StS.refl σ) v s
    · cases e
      exact mv hd (fun z => nomatch z) rfl rfl
  · rename_i hd
    cases e
    exact mv hd (fun z => nomatch z) rfl rfl
  · rename_i hd
    cases e
    exact mv hd (fun z => nomatch z) rfl rfl
  · cases e
def mIf (t : TM) (m n : XM) : XM := fun ε => do
  let (b, ε1) ← t ε
  if b then m ε1 else n ε1
theorem ms_if {c : Expr} {a b : List Stmt} {t : TM} (hc : PT X c (tT X.E t)) (ha : PSs X a (tS X.E W io m)) (hb : PSs X b (tS X.E W io n)) : PS X (.If c a b pos) (tS X.E W io (mIf t m n)) := (ps_if hc ha hb).weak fun De σ H h => by
  obtain ⟨F, R, ε, f, ε', o, e, q⟩ := h
  unfold mIf at e
  cases e1 : t ε with
  | none => simp [e1] at e
  | some p =>
    obtain ⟨k, ε1⟩ := p
    simp [e1] at e
    refine ⟨F, R, ε, k, ε1, o, e1, fun F1 H1 fm1 s1 => ?_⟩
    cases k with
    | true =>
      simp at e
      exact iteT ⟨F1, R, ε1, f, ε', s1, e, fun F2 H2 σ2 fm2 t2 => q F2 H2 σ2 (fm1.trans fm2) t2⟩
    | false =>
      simp at e
      exact iteF ⟨F1, R, ε1, f, ε', s1, e, fun F2 H2 σ2 fm2 t2 => q F2 H2 σ2 (fm1.trans fm2) t2⟩
def mSet (io : List Nat) (i : Nat) (m : EM) : XM := fun ε => do
  let (c, ε1) ← m ε
  if i < ε1.length ∧ i ∉ io then some (.nx, ε1.set i c) else none
theorem tS_set {K : Ek} {i : Nat} {m : EM} {De : Ends} {σ : St} {H : Hp} (h : tS K W io (mSet io i m) De σ H) : tAsg (tE K m) (gName i) De σ H := by
  obtain ⟨F, R, ε, f, ε', o, e, q⟩ := h
  unfold mSet at e
  cases e1 : m ε with
  | none => simp [e1] at e
  | some p =>
    obtain ⟨c, ε1⟩ := p
    simp [e1] at e
    obtain ⟨⟨hi, hio⟩, rfl, rfl⟩ := e
    exact ⟨F, R, ε, c, ε1, o, e1, fun v F1 H1 fm p => q F1 H1 _ fm (StS.set hio) (p.store i)⟩
theorem ms_set {i : Nat} {x : Str} {m : EM} {p : Pos} (hN : X.N.Nodup) (hi : X.N[i]? = some x) (hx : Loc X.env.scope x) (he : PE X e (tE X.E m)) (hs : swapsWith e (some (.Name x p)) pos.line X.env = pure false) (hf : X.fn x = true ∨ X.env.scope.names.lookup x = some .local) :
    PS X (.Assign [.Name x p] e pos) (tS X.E W io (mSet io i m)) := (ps_set hN hi hx he hs hf).weak fun De σ H h => tS_set h
/-- a target of several names: the value is frozen data -/
def mAsg (ts io : List Nat) (b : BM) (m : EM) : XM := fun ε => do
  let (c, ε1) ← m ε
  let d ← (match c with | .sh d => some d | _ => none)
  let ε2 ← b d ε1
  if ts.all (fun i => !io.contains i) then some (.nx, ε2) else none
theorem tS_asg {K : Ek} {ts : List Nat} {b : BM} {g : TG} {m : EM} (hg : Gd K g b (· ∈ ts)) {De : Ends} {σ : St} {H : Hp} (h : tS K W io (mAsg ts io b m) De σ H) : tAsg (tE K m) g De σ H := by
  obtain ⟨F, R, ε, f, ε', o, e, q⟩ := h
  unfold mAsg at e
  cases e1 : m ε with
  | none => simp [e1] at e
  | some p =>
    obtain ⟨c, ε1⟩ := p
    cases c with
    | sh d =>
      cases e2 : b d ε1 with
      | none => simp [e1, e2] at e
      | some ε2 =>
        simp only [e1, e2, Option.bind_eq_bind, Option.bind_some] at e
        split at e
        · rename_i hts
          cases e
          have hts : ∀ i ∈ ts, i ∉ io := by simpa using hts
          refine ⟨F, R, ε, .sh d, ε1, o, e1, fun v F1 H1 fm p => ?_⟩
          refine hg F1 R H1 σ ε1 v d ε' _ p.drop p.repT e2 fun H2 σ2 bd => ?_
          exact q F1 H2 σ2 fm (bd.sts hts) bd.sep
        · cases e
    | no => simp [e1] at e
    | ls ds => simp [e1] at e
    | dc k ds => simp [e1] at e
    | ob k ds => simp [e1] at e
    | px _ _ _ _ => simp [e1] at e
    | fn _ => simp [e1] at e
    | fd _ => simp [e1] at e
    | fk _ => simp [e1] at e
    | fz _ => simp [e1] at e
theorem ms_asg {tg : Expr} {ts : List Nat} {b : BM} {g : TG} {m : EM} (hg : Gd X.E g b (· ∈ ts)) (he : PE X e (tE X.E m)) (hp : PG X tg g) (hs : swapsWithSole [tg] e pos.line X.env = pure false) (hw : swappedStores [tg] e X.env = pure none)
    (h1 : (assignEach [tg] X.env).map (·.2) = [assign tg X.env]) : PS X (.Assign [tg] e pos) (tS X.E W io (mAsg ts io b m)) := (ps_asg he hp hs hw h1).weak fun De σ H h => tS_asg hg h
end
section
variable {K : Ek} {F R H : Hp} {σ : St} {ε : Cs} {T : Tms}
/-- an own list in a slot: what stands there, and how it is rewritten -/
theorem Sep.atL {i : Nat} {ds : List D} (s : Sep K F R H σ ε T) (h : ε[i]? = some (.ls ds)) : ∃ a vs, σ[i]? = some (some (.ref a)) ∧ H a = some (.lst vs) ∧ Reps K.1 F vs ds ∧ ∀ ws es, Reps K.1 F ws es → Sep K F R (upd H a (.lst ws)) σ (ε.set i (.ls es)) T := by
  obtain ⟨a, vs, h1, h2, h3⟩ := s.lst h
  refine ⟨a, vs, h1, h2, h3, fun ws es r => ?_⟩
  have := ((s.take h h1).wr r).put h1
  rw [List.set_set] at this
  exact this
end
/-- xs.append(e) -/
def mApp (i : Nat) (m : EM) : XM := fun ε => match ε[i]? with
  | some (.ls _) => do
    let (c, ε1) ← m ε
    let d ← cD c
    match ε1[i]? with
      | some (.ls xs) => if xs.length < sizeLine then some (.nx, ε1.set i (.ls (xs ++ [d]))) else none
      | _ => none
  | _ => none
/-- .. to a list of own things -/
def mAppN (i : Nat) (m : EM) : XM := fun ε => match ε[i]? with
  | some (.ob .ls _) => do
    let (c, ε1) ← m ε
    match ε1[i]? with
      | some (.ob .ls cs) => if cs.length < sizeLine then some (.nx, ε1.set i (.ob .ls (cs ++ [c]))) else none
      | _ => none
  | _ => none
section
variable {X : Cx} {W : Xw} {io : List Nat} {pos : Pos}
/-- xs[k] = e -/
def mSetIx (i : Nat) (m : EM) (ix : OM) : XM := fun ε => do
  let (c, ε1) ← m ε
  let d ← cD c
  match ε1[i]? with
  | some (.ls _) => do
    let (p, ε2) ← ix ε1
    let k ← bor ε2 p
    match k, ε2[i]? with
      | .int k, some (.ls xs) => do
        let j ← ixN xs.length k
        some (.nx, ε2.set i (.ls (xs.set j d)))
      | _, _ => none
  | _ => none
theorem ms_setIx {i : Nat} {m : EM} {ix : OM} {e k : Expr} {x : Str} {p p2 : Pos} (hv : PE X (.Name x p) (tVar i)) (he : PE X e (tE X.E m)) (hk : PE X k (tO X.E ix))
    (ha : ∀ v, assign (.Subscript (.Name x p) k p2) X.env v = (do
      let ov ← holding [v] (eval (.Name x p) X.env)
      let iv ← holding [v, ov] (eval k X.env)
      standAt p2
      holding [v, ov, iv] (setItem ov iv v)
      release [v, ov, iv] []))
    (hs : swapsWithSole [.Subscript (.Name x p) k p2] e pos.line X.env = pure false) (hw : swappedStores [.Subscript (.Name x p) k p2] e X.env = pure none)
    (h1 : (assignEach [.Subscript (.Name x p) k p2] X.env).map (·.2) = [assign (.Subscript (.Name x p) k p2) X.env]) : PS X (.Assign [.Subscript (.Name x p) k p2] e pos) (tS X.E W io (mSetIx i m ix)) :=
  (ps_asg he (pg_sub hv hk set_list ha) hs hw h1).weak fun De σ H h => by
    obtain ⟨F, R, ε, f, ε', o, e, q⟩ := h
    unfold mSetIx at e
    cases e1 : m ε with
    | none => simp [e1] at e
    | some p =>
      obtain ⟨c, ε1⟩ := p
      cases ec : cD c with
      | none => simp [e1, ec] at e
      | some d =>
        simp only [e1, ec, Option.bind_eq_bind, Option.bind_some] at e
        split at e
        · rename_i xs0 hx0
          cases e2 : ix ε1 with
          | none => simp [e2] at e
          | some p2 =>
            obtain ⟨p, ε2⟩ := p2
            cases e3 : bor ε2 p with
            | none => simp [e2, e3] at e
            | some kd =>
              simp only [e2, e3, Option.bind_some] at e
              split at e
              · rename_i k xs hx
                cases e4 : ixN xs.length k with
                | none => simp [e4] at e
                | some j =>
                  simp [e4] at e
                  obtain ⟨rfl, rfl⟩ := e
                  refine ⟨F, R, ε, c, ε1, o, e1, fun v F1 H1 fm1 p1 => ?_⟩
                  obtain ⟨F2, fm2, r2, s2⟩ := p1.freeze ec
                  obtain ⟨w, hw⟩ := s2.val hx0 fun z => nomatch z
                  refine ⟨w, hw, F2, R, ε1, p, ε2, s2, e2, fun kv F3 H3 fm3 v3 s3 => ?_⟩
                  rw [← List.append_nil (tmO [p] [kv])] at s3
                  have rb := bors_ok (ds := [.int k]) s3 v3 (by simp [bors, e3])
                  obtain ⟨x', ex, hx'⟩ := rb.one
                  cases ex
                  rw [rb_int hx']
                  obtain ⟨a, vs, g1, g2, g4, wr⟩ := (s3.drops _).atL hx
                  rw [hw] at g1
                  cases g1
                  refine ⟨a, vs, k, j, rfl, rfl, g2, by rw [g4.length]; exact e4, ?_⟩
                  exact q F3 _ σ ((fm1.trans fm2).trans fm3) (StS.refl σ) (wr _ _ (Reps.set (Rep.mono fm3 _ _ r2) j g4))
              · cases e
        · cases e
open Classical in
noncomputable def forL (ws : List Nat) (ε0 : Cs) (bind : BM) (body : XM) : List M.D → XM
  | [], ε => if sameC ws ε0 ε then some (.nx, ε) else none
  | d :: ds, ε => if sameC ws ε0 ε then do
      let ε1 ← bind d ε
      let (f, ε2) ← body ε1
      match f with
        | .nx => forL ws ε0 bind body ds ε2
        | .ct => forL ws ε0 bind body ds ε2
        | .bk => some (.nx, ε2)
        | .rt c => some (.rt c, ε2)
        | .xc x => some (.xc x, ε2)
    else none
noncomputable def mFor (io' : List Nat) (src : SM) (bind : BM) (body : XM) : XM := fun ε => do
  let ((ds, ws), ε1) ← src ε
  if ws.all (fun i => io'.contains i) then forL ws ε1 bind body ds ε1 else none
theorem ms_for {iter tg : Expr} {body : List Stmt} {io' ts : List Nat} {src : SM} {g : TG} {bind : BM} {b : XM} (hp : PassesOwn (model X.prog X.w) X.A X.env X.xe) (hc : X.calm = true) (hi : PI X tg iter (tI X.E src)) (hg : PG X tg g) (hgd : Gd X.E g bind (· ∈ ts))
    (hb : PSs X body (tS X.E W io' b)) (hio : ∀ i ∈ io, i ∈ io') (hts : ∀ i ∈ ts, i ∉ io') (hs : ∀ x, foldedSetIterable iter X.env x = pure x) : PS X (.For tg iter body [] pos) (tS X.E W io (mFor io' src bind b)) :=
  (ps_for hp hc hi hg hb hs).weak fun De σ H h => by
    obtain ⟨F, R, ε, f, ε', o, e, q⟩ := h
    unfold mFor at e
    cases e1 : src ε with
    | none => simp [e1] at e
    | some p =>
      obtain ⟨⟨ds, ws⟩, ε1⟩ := p
      simp only [e1, Option.bind_eq_bind, Option.bind_some] at e
      split at e
      · rename_i hws
        have hws : ∀ i ∈ ws, i ∈ io' := by simpa using hws
        refine ⟨F, R, ε, ds, ws, ε1, o, e1, fun F1 R1 H1 J fm1 s1 bk sr => ?_⟩
        obtain ⟨G, Y, w, hw⟩ := sr
        have same : ∀ {l : List M.D} {ε2 : Cs} {r : Fl × Cs}, forL ws ε1 bind b l ε2 = some r → sameC ws ε1 ε2 := fun {l ε2 r} h => by
          cases l with
          | nil =>
            unfold forL at h
            split at h
            · assumption
            · cases h
          | cons d l =>
            unfold forL at h
            split at h
            · assumption
            · cases h
        have q1 : ∀ F' H' σ', Same F1 F' → StS io' σ σ' → Fin X.E R1 De W F' H' σ' ε' f := fun F' H' σ' fm t => (q F' H' σ' (fm1.trans fm) (t.imp hio)).back bk fm
        refine for_it w (fun i σ2 H2 => ∃ F2 ε2, Same F1 F2 ∧ StS io' σ σ2 ∧ Sep X.E F2 R1 H2 σ2 ε2 [] ∧ forL ws ε1 bind b (ds.drop i) ε2 = some (f, ε')) ⟨F1, ε1, Same.refl F1, StS.refl σ, s1, e⟩ ?_ ?_ ?_
        · rintro i σ2 H2 _ ⟨F2, ε2, fm2, t2, s2, C1⟩
          exact (hw F2 H2 σ2 ε2 fm2 s2 fun j hj => ⟨t2.st j (hws j hj), same C1 j hj⟩).1
        · rintro i x σ2 H2 H3 hi ⟨F2, ε2, fm2, t2, s2, C1⟩ y
          obtain ⟨_, hy⟩ := hw F2 H2 σ2 ε2 fm2 s2 fun j hj => ⟨t2.st j (hws j hj), same C1 j hj⟩
          obtain ⟨F3, d, hdi, rd, gr⟩ := hy i x H3 hi y
          rw [List.getElem?_eq_getElem hi] at hdi
          cases hdi
          have s3 := s2.grow gr
          have hd : ds.drop i = ds[i] :: ds.drop (i + 1) := by rw [List.drop_eq_getElem_cons hi]
          rw [hd] at C1
          unfold forL at C1
          split at C1
          · cases eb : bind ds[i] ε2 with
            | none => simp [eb] at C1
            | some εb =>
              refine hgd F3 R1 H3 σ2 ε2 x _ εb _ s3 rd eb fun H4 σ4 bd => ?_
              have t4 := t2.trans (bd.sts (io := io') fun j hj => hts j hj)
              simp only [eb, Option.bind_eq_bind, Option.bind_some] at C1
              cases e5 : b εb with
              | none => simp [e5] at C1
              | some p5 =>
                obtain ⟨g, ε5⟩ := p5
                simp only [e5, Option.bind_some] at C1
                refine ⟨F3, R1, εb, g, ε5, bd.sep, e5, fun F5 H5 σ5 fm5 t5 => ?_⟩
                have fm := (fm2.trans gr.fm).trans fm5
                have tt := t4.trans t5
                cases g with
                | nx => exact fun s5 => ⟨F5, ε5, fm, tt, s5, C1⟩
                | ct => exact fun s5 => ⟨F5, ε5, fm, tt, s5, C1⟩
                | bk => cases C1; exact fun s5 => q1 F5 H5 σ5 fm tt s5
                | rt c => cases C1; exact q1 F5 H5 σ5 fm tt
                | xc x => cases C1; exact q1 F5 H5 σ5 fm tt
          · cases C1
        · rintro σ2 H2 ⟨F2, ε2, fm2, t2, s2, C1⟩
          rw [List.drop_length] at C1
          unfold forL at C1
          split at C1
          · cases C1
            exact q1 F2 H2 σ2 fm2 t2 s2
          · cases C1
      · cases e
end
end L2.M
namespace L2.M
open PySem PySem.Spec PyProof.Rows
def chnL : Opd → List ((D → D → Option C) × OM) → EM
  | _, [], _ => none
  | o, [(f, m)], ε => do
    let (p, ε1) ← m ε
    let d ← bor ε1 o
    let e ← bor ε1 p
    let c ← f d e
    some (c, ε1)
  | o, (f, m) :: x :: l, ε => do
    let (p, ε1) ← m ε
    let d ← bor ε1 o
    let e ← bor ε1 p
    match f d e with
      | some (.sh (.bool true)) => chnL p (x :: l) ε1
      | some (.sh (.bool false)) => some (.sh (.bool false), ε1)
      | _ => none
def mChn (m : OM) (l : List ((D → D → Option C) × OM)) : EM := fun ε => do
  let (o, ε1) ← m ε
  chnL o l ε1
inductive Chn (X : Cx) : List CmpOp → List Expr → List ((D → D → Option C) × OM) → Prop where
  | one {op : CmpOp} {e : Expr} {f : D → D → Option C} {m : OM} {r : R2} : OpR X (compareOp op) r → Fn2 X.K f r → PE X e (tO X.E m) → Chn X [op] [e] [(f, m)]
  | cons {op : CmpOp} {e : Expr} {f : D → D → Option C} {m : OM} {r : R2} {op' : CmpOp} {ops : List CmpOp} {e' : Expr} {es : List Expr} {x : (D → D → Option C) × OM} {l : List ((D → D → Option C) × OM)} :
      OpR X (compareOp op) r → Fn2 X.K f r → PE X e (tO X.E m) → Chn X (op' :: ops) (e' :: es) (x :: l) → Chn X (op :: op' :: ops) (e :: e' :: es) ((f, m) :: x :: l)
section
variable {X : Cx}
/-- two operands, the first one waiting while the second is reckoned -/
structure Two (X : Cx) (F R H : Hp) (σ : St) (ε : Cs) (x : V) (o : Opd) : Prop where
  ov : OpV σ [x] [o]
  sep : Sep X.E F R H σ ε (tmO [o] [x])
theorem Two.borne {F R H : Hp} {σ : St} {ε : Cs} {x : V} {o : Opd} {d : D} (t : Two X F R H σ ε x o) (e : bor ε o = some d) : RepB X.K F H x d := by
  have s := t.sep
  rw [← List.append_nil (tmO [o] [x])] at s
  exact (bors_ok s t.ov (by simp [bors, e])).inj1
/-- behind the second operand -/
theorem Two.next {F R H : Hp} {σ : St} {ε ε1 : Cs} {x : V} {o p : Opd} {m : OM} (t : Two X F R H σ ε x o) (em : m ε = some (p, ε1)) {Q : VK}
    (k : ∀ y F1 H1, Same F F1 → Two X F1 R H1 σ ε1 x o → (∀ F2 H2, Same F1 F2 → Sep X.E F2 R H2 σ ε1 (tmO [o] [x] ++ tmO [p] [y]) → Two X F2 R H2 σ ε1 y p) → OpV σ [y] [p] → Sep X.E F1 R H1 σ ε1 (tmO [o] [x] ++ tmO [p] [y]) → Q y H1) : tO X.E m σ H Q := by
  obtain ⟨R1, s1, bk⟩ := t.sep.hides
  refine ⟨F, R1, ε, p, ε1, s1, em, fun y F1 H1 fm vy sy => ?_⟩
  have s2 := bk F1 H1 σ ε1 _ fm sy
  refine k y F1 H1 fm ⟨t.ov, ?_⟩ (fun F2 H2 fm2 s3 => ⟨vy, s3.drops _⟩) vy s2
  have s3 := s1.grow (Grw.refl s1.sub)
  -- the first one alone
  have ov := t.ov
  cases o with
  | pl i => exact Sep.drops (T := []) (tmO [p] [y]) (by simpa [tmO] using s2)
  | tm c =>
    obtain ⟨R2, _, s4, bk2⟩ := Sep.hide (T := tmO [p] [y]) s2
    exact bk2 F1 H1 σ ε1 [] (Same.refl F1) (Sep.drops (T := []) (tmO [p] [y]) (by simpa using s4))
theorem chn_run : ∀ {ops : List CmpOp} {es : List Expr} {l : List ((D → D → Option C) × OM)}, Chn X ops es l → ∀ {pins : List (Addr × Obj)} {s : Shared} {σ : St} {F R H : Hp} {ε : Cs} {o : Opd} {x : V} {v : Value} {c : C} {ε' : Cs} {pos : Pos} {Q : VK}, Two X F R H σ ε x o →
    Inv X pins σ H s → RelV x v → chnL o l ε = some (c, ε') → (∀ w F' H', Same F F' → Sep X.E F' R H' σ ε' [(w, c)] → Q w H') →
    wpAny (model X.prog X.w) X.A (compareChain pos v ops (evalEach es X.env)) (EP X pins σ Q) X.xe s := by
  intro ops es l h
  induction h with
  | one ho hf he =>
    intro pins s σ F R H ε o x v c ε' pos Q tw I rx e q
    rename_i op ex f m rr
    simp only [chnL] at e
    cases e1 : m ε with
    | none => simp [e1] at e
    | some p =>
      obtain ⟨p, ε1⟩ := p
      cases e2 : bor ε1 o with
      | none => simp [e1, e2] at e
      | some d =>
        cases e3 : bor ε1 p with
        | none => simp [e1, e2, e3] at e
        | some d2 =>
          cases e4 : f d d2 with
          | none => simp [e1, e2, e3, e4] at e
          | some c' =>
            simp [e1, e2, e3, e4] at e
            obtain ⟨rfl, rfl⟩ := e
            refine chain_last (thn (he.run pins s σ H (fun y H1 => rr x y H1 Q) I (tw.next e1 fun y F1 H1 fm t1 t2 vy s1 => ?_)) fun u s4 ⟨y, H4, I4, r4, q4⟩ => ho pins s4 σ H4 x y v u Q I4 rx r4 q4)
            refine hf F1 H1 x y d d2 c' Q s1.sub (t1.borne e2) ((t2 F1 H1 (Same.refl F1) s1).borne e3) e4 fun w F2 H2 g => ?_
            exact q w F2 H2 (fm.trans g.fm) (Sep.res (Sep.drops (T := []) (tmO [o] [x] ++ tmO [p] [y]) (by simpa using s1)) g)
  | cons ho hf he hr ih =>
    intro pins s σ F R H ε o x v c ε' pos Q tw I rx e q
    rename_i op ex f m rr op' ops e' es y0 l
    simp only [chnL] at e
    cases e1 : m ε with
    | none => simp [e1] at e
    | some p =>
      obtain ⟨p, ε1⟩ := p
      cases e2 : bor ε1 o with
      | none => simp [e1, e2] at e
      | some d =>
        cases e3 : bor ε1 p with
        | none => simp [e1, e2, e3] at e
        | some d2 =>
          simp only [e1, e2, e3, Option.bind_eq_bind, Option.bind_some] at e
          refine chain_link (thn (he.run pins s σ H (fun y H1 => rr x y H1 fun z H2 => ∃ k F2, z = .bl k ∧ f d d2 = some (.sh (.bool k)) ∧ Same F F2 ∧ Two X F2 R H2 σ ε1 y p) I (tw.next e1 fun y F1 H1 fm t1 t2 vy s1 => ?_))
            fun u s4 ⟨y, H4, I4, r4, q4⟩ => thn (ho pins s4 σ H4 x y v u _ I4 rx r4 q4) fun dd s5 ⟨z, H5, I5, r5, k, F5, ez, ek, fm5, T5⟩ => ?_)
          · have fin : ∀ k, f d d2 = some (.sh (.bool k)) → rr x y H1 fun z H2 => ∃ k F2, z = .bl k ∧ f d d2 = some (.sh (.bool k)) ∧ Same F F2 ∧ Two X F2 R H2 σ ε1 y p := fun k ek => by
              refine hf F1 H1 x y d d2 _ _ s1.sub (t1.borne e2) ((t2 F1 H1 (Same.refl F1) s1).borne e3) ek fun w F2 H2 g => ?_
              have hw : w = .bl k := by
                have r := g.rep
                simpa only [RepC, Rep] using r
              exact ⟨k, F2, hw, ek, fm.trans g.fm, t2 F2 H2 g.fm (s1.grow g.grw)⟩
            split at e
            · exact fin true (by assumption)
            · exact fin false (by assumption)
            · cases e
          · subst ez
            cases r5
            refine wpAny_truthy_bool ?_
            cases k with
            | false =>
              rw [ek] at e
              cases e
              exact ite_ff ⟨.bl false, H5, I5, rfl, q _ F5 H5 fm5 (Sep.addB (Sep.drops (T := []) (tmO [p] [y]) (by simpa using T5.sep)) false)⟩
            | true =>
              rw [ek] at e
              exact ite_tt (ih T5 I5 r4 e fun w F' H' fm => q w F' H' (fm5.trans fm))
variable {a e1 e2 : Expr} {es : List Expr} {op1 op2 : CmpOp} {ops : List CmpOp} {m : OM} {l : List ((D → D → Option C) × OM)} {pos : Pos}
theorem me_chain (ha : PE X a (tO X.E m)) (h : Chn X (op1 :: op2 :: ops) (e1 :: e2 :: es) l) (hm : lastMarks (op1 :: op2 :: ops) (e1 :: e2 :: es) = false) : PE X (.Compare a (op1 :: op2 :: ops) (e1 :: e2 :: es) pos) (tE X.E (mChn m l)) :=
  ⟨fun pins s σ H Q I hh => by
    obtain ⟨F, R, ε, c, ε', ok, e, q⟩ := hh
    unfold mChn at e
    cases e0 : m ε with
    | none => simp [e0] at e
    | some p =>
      obtain ⟨o, ε1⟩ := p
      simp only [e0, Option.bind_eq_bind, Option.bind_some] at e
      refine Compare_chain (thn (ha.run pins s σ H (fun x H1 => ∃ F1, Same F F1 ∧ Two X F1 R H1 σ ε1 x o) I ⟨F, R, ε, o, ε1, ok, e0, fun v F1 H1 fm v1 s1 => ⟨F1, fm, v1, s1⟩⟩) fun v s1 ⟨x, H1, I1, r1, F1, fm1, T1⟩ => ?_) hm
      exact chn_run h T1 I1 r1 e fun w F' H' fm => q w F' H' (fm1.trans fm)⟩
end
def tyS : D → String
  | .none => "NoneType"
  | .bool _ => "bool"
  | .int _ => "int"
  | .str _ => "str"
  | .list _ => "list"
  | .tuple _ => "tuple"
  | .dict _ => "dict"
inductive Ty where
  | int | bool | str | list | tuple | dict
def Ty.nm : Ty → String
  | .int => "int"
  | .bool => "bool"
  | .str => "str"
  | .list => "list"
  | .tuple => "tuple"
  | .dict => "dict"
def isiD : Ty → D → Bool
  | .int, .int _ => true
  | .int, .bool _ => true
  | .bool, .bool _ => true
  | .str, .str _ => true
  | .list, .list _ => true
  | .tuple, .tuple _ => true
  | .dict, .dict _ => true
  | _, _ => false
theorem isi_kit : ∀ (T : Ty) (d : D), kitB (tyS d) T.nm = some (isiD T d) := by
  intro T d
  cases T <;> cases d <;> (simp only [tyS, Ty.nm, isiD]; decide +kernel)
theorem rb_ty {K : PySem.W.Frag} {F H : Hp} {x : V} {d : D} (s : Same F H) (h : RepB K F H x d) : TyX K H x (.type (tyS d)) := by
  cases d with
  | none => rw [rb_non h]; exact .base .non
  | bool b => rw [rb_bool h]; exact .base (.bl b)
  | int b => rw [rb_int h]; exact .base (.int b)
  | str b => rw [rb_str h]; exact .base (.str b)
  | list b =>
    obtain ⟨a, vs, rfl, g1, _⟩ := rb_lst s h
    rcases g1 with (g1 | ⟨o, g1⟩) | ⟨o, its, n, hk, hc, _⟩
    · exact .base (.lst g1)
    · exact .base (.frz g1)
    · exact .kList hk hc
  | tuple b =>
    obtain ⟨a, vs, rfl, _, g1, _⟩ := rb_tup s h
    rcases g1 with (g1 | ⟨o, g1⟩) | ⟨o, its, n, hk, hc, _⟩
    · exact .base (.tup g1)
    · exact .fTuple g1
    · exact .kTuple hk hc
  | dict b =>
    obtain ⟨a, kvs, rfl, g1, _⟩ := rb_dct s h
    exact .base (.dK g1)
def mIsi (T : Ty) (m : OM) : EM := mU (fun d => some (.sh (.bool (isiD T d)))) m
section
variable {X : Cx} {e : Expr} {m : OM} {x p pos : Pos}
theorem me_isi {T : Ty} {y : Str} (hm : X.mg "isinstance" = none) (hmT : X.mg y = none) (hg : Gl X "isinstance") (hgT : Gl X y) (hv : bootBuiltins y = some (.type T.nm)) (he : PE X e (tO X.E m)) (hn : y ≠ "__name__") (hdb : (y == ("__debug__" : Str)) = false)
    (hs : starEach [e, .Name y p] X.env = (false, eval e X.env) :: starEach [.Name y p] X.env) (hs2 : starEach [.Name y p] X.env = [(false, eval (.Name y p) X.env)]) (hpl : (backTo pos (starEach [.Name y p] X.env)).any (·.1) = false) :
    PE X (.Call (.Name "isinstance" x) [e, .Name y p] [] pos) (tE X.E (mIsi T m)) :=
  (pe_callB call_isi hg hm boot_isinstance (pa_cons he (pa_cons (pe_bltn (v := .ty T.nm) hgT hmT hv rfl hn hdb) pa_nil hs2) hs) (by decide) (by decide) hs hpl).weak fun σ H Q h => by
    have h2 := tE_u (r := fun x H Q => rIsi X.K [x, .ty T.nm] H Q) (fun F H x d c Q s h1 he q => by
      cases he
      exact ⟨x, .ty T.nm, _, _, isiD T d, rfl, .ty _, rb_ty s h1, kit_ty (isi_kit T d), g_bool s q⟩) h
    refine tO_mono h2 fun v H' q => ?_
    exact q
end
end L2.M
namespace L2.M
open PySem PySem.Spec PyProof.Rows
def keepT : List Opd → List Bool
  | [] => []
  | .pl _ :: os => false :: keepT os
  | .tm _ :: os => true :: keepT os
def tmsO : List Opd → Option (List C)
  | [] => some []
  | .tm (.sh d) :: os => (tmsO os).map (C.sh d :: ·)
  | .tm (.ls ds) :: os => (tmsO os).map (C.ls ds :: ·)
  | .tm (.dc k ds) :: os => (tmsO os).map (C.dc k ds :: ·)
  | .tm (.ob k cs) :: os => (tmsO os).map (C.ob k cs :: ·)
  | _ => none
theorem tmsO_zip : ∀ {os : List Opd} {vs : List V} {cs : List C}, os.length = vs.length → tmsO os = some cs → tmO os vs = vs.zip cs ∧ cs.length = os.length
  | [], vs, cs, l, e => by
    cases e
    cases vs with
    | nil => exact ⟨rfl, rfl⟩
    | cons _ _ => cases l
  | o :: os, [], cs, l, e => by cases l
  | .pl i :: os, v :: vs, cs, l, e => by cases e
  | .tm c :: os, v :: vs, cs, l, e => by
    have one : ∀ {c : C}, (tmsO os).map (c :: ·) = some cs → tmO (.tm c :: os) (v :: vs) = (v :: vs).zip cs ∧ cs.length = (Opd.tm c :: os).length := fun {c} e => by
      obtain ⟨cs2, e2, rfl⟩ := Option.map_eq_some_iff.mp e
      obtain ⟨h1, h2⟩ := tmsO_zip (vs := vs) (by simpa using l) e2
      exact ⟨by simp [tmO, h1], by simp [h2]⟩
    cases c with
    | no => cases e
    | sh d => exact one e
    | ls d => exact one e
    | dc k d => exact one e
    | ob k d => exact one e
    | px _ _ _ _ => cases e
    | fn _ => cases e
    | fd _ => cases e
    | fk _ => cases e
    | fz _ => cases e
def setA : List Nat → List C → Cs → Cs
  | i :: is, c :: cs, ε => setA is cs (ε.set i c)
  | _, _, ε => ε
def setV : List Nat → List V → St → St
  | i :: is, v :: vs, σ => setV is vs (σ.set i (some v))
  | _, _, σ => σ
theorem putAll {K : Ek} {F R H : Hp} {T : Tms} : ∀ {is : List Nat} {vs : List V} {cs : List C} {σ : St} {ε : Cs}, Sep K F R H σ ε (vs.zip cs ++ T) → is.length = vs.length → cs.length = vs.length → Sep K F R H (setV is vs σ) (setA is cs ε) T
  | [], [], [], σ, ε, s, _, _ => s
  | i :: is, v :: vs, c :: cs, σ, ε, s, l1, l2 => putAll (is := is) (Sep.store s i) (by simpa using l1) (by simpa using l2)
  | [], v :: vs, cs, σ, ε, s, l1, l2 => by cases l1
  | i :: is, [], cs, σ, ε, s, l1, l2 => by cases l1
  | [], [], c :: cs, σ, ε, s, l1, l2 => by cases l2
  | i :: is, v :: vs, [], σ, ε, s, l1, l2 => by cases l2
theorem setV_sts {io : List Nat} : ∀ {is : List Nat} {vs : List V} {σ : St}, (∀ i ∈ is, i ∉ io) → StS io σ (setV is vs σ)
  | [], vs, σ, h => StS.refl σ
  | i :: is, [], σ, h => StS.refl σ
  | i :: is, v :: vs, σ, h => (StS.set (h i List.mem_cons_self)).trans (setV_sts fun j hj => h j (List.mem_cons_of_mem _ hj))
/-- a, b, .. = x, y, .. (names that no other def holds on to) -/
def mPar (io is : List Nat) (ma : AM) : XM := fun ε => do
  let (os, ε1) ← ma ε
  let (os2, ε2) ← frz (keepT os) os ε1
  let cs ← tmsO os2
  if cs.length = is.length ∧ cs.length ≤ sizeLine ∧ (∀ i ∈ is, i < ε2.length ∧ i ∉ io) then some (.nx, setA is cs ε2) else none
theorem Grw.junk {F H : Hp} (s : Same F H) {p : Addr} {u : HO} (hp : H p = none) : Grw F H F (upd H p u) :=
  ⟨Same.refl F, fun b x e => by rw [upd_ne (ne_of_none e hp)]; exact e, fun b x e => by rw [upd_ne (ne_of_none (s b x e) hp)]; exact s b x e, fun b h h' => absurd h h'⟩
theorem tS_par {K : Ek} {W : Xw} {io is : List Nat} {ma : AM} {De : Ends} {σ : St} {H : Hp} (h : tS K W io (mPar io is ma) De σ H) :
    tA K ma σ H fun vs H1 => vs.length = is.length ∧ vs.length ≤ sizeLine ∧ De.nx (setV is vs σ) H1 ∧ ∀ p, H1 p = none → De.nx (setV is vs σ) (upd H1 p (.tup vs)) := by
  obtain ⟨F, R, ε, f, ε', o, e, q⟩ := h
  unfold mPar at e
  cases e1 : ma ε with
  | none => simp [e1] at e
  | some p =>
    obtain ⟨os, ε1⟩ := p
    cases e2 : frz (keepT os) os ε1 with
    | none => simp [e1, e2] at e
    | some p2 =>
      obtain ⟨os2, ε2⟩ := p2
      cases e3 : tmsO os2 with
      | none => simp [e1, e2, e3] at e
      | some cs =>
        simp only [e1, e2, e3, Option.bind_eq_bind, Option.bind_some] at e
        split at e
        · rename_i hc
          cases e
          obtain ⟨hc1, hc2, hc3⟩ := hc
          refine ⟨F, R, ε, os, ε1, o, e1, fun vs F1 H1 fm1 v1 s1 => ?_⟩
          rw [← List.append_nil (tmO os vs)] at s1
          obtain ⟨F2, fm2, s2, v2, l2⟩ := frz_ok s1 v1 e2
          have lv := v2.len
          obtain ⟨z1, z2⟩ := tmsO_zip lv.symm e3
          rw [z1] at s2
          have vl : vs.length = is.length := by omega
          have t := setV_sts (vs := vs) (σ := σ) fun i hi => (hc3 i hi).2
          have s3 := putAll (is := is) s2 vl.symm (by omega)
          exact ⟨vl, by omega, q F2 H1 _ (fm1.trans fm2) t s3, fun p hp => q F2 _ _ (fm1.trans fm2) t (s3.grow (Grw.junk s3.sub hp))⟩
        · cases e
section
variable {X : Cx} {W : Xw} {io : List Nat} {ma : AM}
theorem ms_par2 {i j : Nat} {x y : Str} {a b : Expr} {px py pt pos : Pos} {kt k2 pt2} (hc : X.calm = true) (hN : X.N.Nodup) (hi : X.N[i]? = some x) (hj : X.N[j]? = some y) (hij : i ≠ j) (hx : X.env.scope.names.lookup x = some .local) (hy : X.env.scope.names.lookup y = some .local)
    (ha : PA X [a, b] (tA X.E ma)) (hw : swappedStores [.Tuple [.Name x px, .Name y py] kt pt] (.Tuple [a, b] k2 pt2) X.env = pure (some [x, y]))
    (hs : swapsWithSole [.Tuple [.Name x px, .Name y py] kt pt] (.Tuple [a, b] k2 pt2) pos.line X.env = pure false) :
    PS X (.Assign [.Tuple [.Name x px, .Name y py] kt pt] (.Tuple [a, b] k2 pt2) pos) (tS X.E W io (mPar io [i, j] ma)) := (ps_par hc hN hi hj hij hx hy ha hw hs).weak fun De σ H h => by
  refine tA_mono (tS_par h) fun vs H1 q => ?_
  obtain ⟨hl, _, q, _⟩ := q
  match vs, hl, q with
  | [u, v], _, q => exact ⟨u, v, rfl, q⟩
theorem ms_par3 {i j l : Nat} {x y z : Str} {a b c : Expr} {px py pz pt pos : Pos} {kt k2 pt2} (hc : X.calm = true) (hN : X.N.Nodup) (hi : X.N[i]? = some x) (hj : X.N[j]? = some y) (hl : X.N[l]? = some z) (hij : i ≠ j) (hil : i ≠ l) (hjl : j ≠ l)
    (hx : X.env.scope.names.lookup x = some .local) (hy : X.env.scope.names.lookup y = some .local) (hz : X.env.scope.names.lookup z = some .local) (ha : PA X [a, b, c] (tA X.E ma))
    (hw : swappedStores [.Tuple [.Name x px, .Name y py, .Name z pz] kt pt] (.Tuple [a, b, c] k2 pt2) X.env = pure (some [x, y, z]))
    (hs : swapsWithSole [.Tuple [.Name x px, .Name y py, .Name z pz] kt pt] (.Tuple [a, b, c] k2 pt2) pos.line X.env = pure false) :
    PS X (.Assign [.Tuple [.Name x px, .Name y py, .Name z pz] kt pt] (.Tuple [a, b, c] k2 pt2) pos) (tS X.E W io (mPar io [i, j, l] ma)) := (ps_par3 hc hN hi hj hl hij hil hjl hx hy hz ha hw hs).weak fun De σ H h => by
  refine tA_mono (tS_par h) fun vs H1 q => ?_
  obtain ⟨hl, _, q, _⟩ := q
  match vs, hl, q with
  | [u, v, w], _, q => exact ⟨u, v, w, rfl, q⟩
end
def shared : List Bool → List C → Bool
  | [], [] => true
  | true :: bs, c :: cs => shared bs cs
  | false :: bs, .sh _ :: cs => shared bs cs
  | _, _ => false
/-- what the caller's cells are behind the call -/
def after : List Bool → List C → Cs → List C
  | true :: bs, _ :: cs, e :: ε => e :: after bs cs ε
  | false :: bs, c :: cs, _ :: ε => c :: after bs cs ε
  | _, _, _ => []
def iosAt (k : Nat) : List Bool → List Nat
  | [] => []
  | true :: bs => k :: iosAt (k + 1) bs
  | false :: bs => iosAt (k + 1) bs
abbrev ios (bs : List Bool) : List Nat := iosAt 0 bs
def semF (io : List Bool) (ns : Nat) (m : XM) : GM := fun cs =>
  if shared io cs then
    match m (cs ++ List.replicate (ns - cs.length) .no) with
    | some (.rt c, ε') => some (c, after io cs ε')
    | some (.nx, ε') => some (.sh .none, after io cs ε')
    | _ => none
  else none
theorem mem_ios : ∀ {bs : List Bool} {k j : Nat}, j ∈ iosAt k bs ↔ k ≤ j ∧ bs[j - k]? = some true
  | [], k, j => by simp [iosAt]
  | true :: bs, k, j => by
    unfold iosAt
    rw [List.mem_cons, mem_ios]
    constructor
    · rintro (rfl | ⟨h1, h2⟩)
      · simp
      · refine ⟨by omega, ?_⟩
        rw [show j - k = (j - (k + 1)) + 1 by omega, List.getElem?_cons_succ]
        exact h2
    · rintro ⟨h1, h2⟩
      by_cases e : j = k
      · exact .inl e
      · refine .inr ⟨by omega, ?_⟩
        rw [show j - k = (j - (k + 1)) + 1 by omega, List.getElem?_cons_succ] at h2
        exact h2
  | false :: bs, k, j => by
    unfold iosAt
    rw [mem_ios]
    constructor
    · rintro ⟨h1, h2⟩
      refine ⟨by omega, ?_⟩
      rw [show j - k = (j - (k + 1)) + 1 by omega, List.getElem?_cons_succ]
      exact h2
    · rintro ⟨h1, h2⟩
      by_cases e : j = k
      · subst e
        simp at h2
      · refine ⟨by omega, ?_⟩
        rw [show j - k = (j - (k + 1)) + 1 by omega, List.getElem?_cons_succ] at h2
        exact h2
theorem mem_ios0 {bs : List Bool} {j : Nat} : j ∈ ios bs ↔ bs[j]? = some true := by
  unfold ios
  rw [mem_ios]
  simp
theorem leaveA {K : Ek} {F F' H H' : Hp} (fm : Same F F') : ∀ {bs : List Bool} {vs : List V} {cs : List C} {σ : St} {ε : Cs} {f0 fs : List (List Addr)}, RpCs K F H (vs.map some) cs f0 → RpCs K F' H' σ ε fs → shared bs cs = true → (∀ j : Nat, bs[j]? = some true → σ[j]? = (vs.map some)[j]?) → cs.length ≤ ε.length →
    ∃ f2, RpCs K F' H' (vs.map some) (after bs cs ε) f2 ∧ f2.flatten.Sublist fs.flatten
  | [], vs, [], σ, ε, f0, fs, h0, h, hs, hj, hl => ⟨[], by simpa [after] using ⟨h0.1, rfl⟩, by simp⟩
  | [], vs, c :: cs, σ, ε, f0, fs, h0, h, hs, hj, hl => by simp [shared] at hs
  | true :: bs, vs, [], σ, ε, f0, fs, h0, h, hs, hj, hl => by simp [shared] at hs
  | false :: bs, vs, [], σ, ε, f0, fs, h0, h, hs, hj, hl => by simp [shared] at hs
  | b :: bs, vs, c :: cs, σ, [], f0, fs, h0, h, hs, hj, hl => by simp at hl
  | b :: bs, vs, c :: cs, σ, e :: ε, f0, fs, h0, h, hs, hj, hl => by
    obtain ⟨o, r, f, fr, e1, e2, k1, k2⟩ := h0
    obtain ⟨o', r', f', fr', e1', e2', k1', k2'⟩ := h
    cases vs with
    | nil => cases e1
    | cons v vs =>
      obtain ⟨rfl, rfl⟩ := List.cons.inj e1
      subst e1' e2'
      have hs' : shared bs cs = true := by cases b <;> cases c <;> simp_all [shared]
      obtain ⟨f2, g1, g2⟩ := leaveA fm (bs := bs) k2 k2' hs' (fun j h => by simpa using hj (j + 1) (by simpa using h)) (by simpa using hl)
      cases b with
      | true =>
        have ho : o' = some v := by simpa using hj 0 rfl
        subst ho
        exact ⟨f' :: f2, ⟨_, _, _, _, rfl, rfl, k1', g1⟩, by rw [List.flatten_cons, List.flatten_cons]; exact List.Sublist.append (List.Sublist.refl _) g2⟩
      | false =>
        cases c with
        | sh d =>
          obtain ⟨_, w, ew, rw⟩ := k1
          refine ⟨[] :: f2, ⟨_, _, _, _, rfl, rfl, ⟨rfl, w, ew, Rep.mono fm _ _ rw⟩, g1⟩, ?_⟩
          rw [List.flatten_cons, List.flatten_cons, List.nil_append]
          exact g2.trans (List.sublist_append_right _ _)
        | no => simp [shared] at hs
        | ls d => simp [shared] at hs
        | dc k d => simp [shared] at hs
        | ob k d => simp [shared] at hs
        | px _ _ _ _ => simp [shared] at hs
        | fn _ => simp [shared] at hs
        | fd _ => simp [shared] at hs
        | fk _ => simp [shared] at hs
        | fz _ => simp [shared] at hs
/-- the callee's frame at its begin -/
theorem Sep.ext {K : Ek} {F R H : Hp} {σ : St} {ε : Cs} (s : Sep K F R H σ ε []) (n : Nat) : Sep K F R H (σ ++ List.replicate n none) (ε ++ List.replicate n .no) [] := by
  obtain ⟨a1, a2, a3, ⟨fs, gs, h1, h2, n1, m1⟩⟩ := s
  have e : (fs ++ List.replicate n ([] : List Addr)).flatten = fs.flatten := by rw [List.flatten_append, flat_rep, List.append_nil]
  exact ⟨a1, a2, a3, fs ++ List.replicate n [], gs, h1.append (RpCs.nos n _ (by simp)), h2, by rw [e]; exact n1, by rw [e]; exact m1⟩
/-- .. and at its end -/
theorem Sep.leave {K : Ek} {F R H F' R' H' : Hp} {vs : List V} {cs : List C} {n : Nat} {io : List Bool} {σ' : St} {ε' : Cs} {T : Tms} (s : Sep K F R' H (vs.map some) cs []) (hs : shared io cs = true) (fm : Same F F') (t : StS (ios io) (vs.map some ++ List.replicate n none) σ')
    (s' : Sep K F' R H' σ' ε' T) : Sep K F' R H' (vs.map some) (after io cs ε') T := by
  have l0 := s.len
  have l1 := s'.len
  have l2 := t.ln
  rw [List.length_append, List.length_replicate, List.length_map] at l2
  rw [List.length_map] at l0
  obtain ⟨_, _, _, ⟨f0, _, k0, _⟩⟩ := s
  obtain ⟨a1, a2, a3, ⟨fs, gs, h1, h2, n1, m1⟩⟩ := s'
  have lb : ∀ {bs : List Bool} {cs : List C}, shared bs cs = true → bs.length = cs.length := by
    intro bs
    induction bs with
    | nil => intro cs h; cases cs <;> simp_all [shared]
    | cons b bs ih => intro cs h; cases cs with
      | nil => cases b <;> simp [shared] at h
      | cons c cs =>
        have : shared bs cs = true := by cases b <;> cases c <;> simp_all [shared]
        simp [ih this]
  obtain ⟨f2, g1, g2⟩ := leaveA fm k0 h1 hs (fun j hj => by
    have hlt : j < vs.length := by
      have := (List.getElem?_eq_some_iff.mp hj).1
      have := lb hs
      omega
    rw [t.st j (mem_ios0.mpr hj), List.getElem?_append_left (by simpa using hlt)]) (by omega)
  have sb := List.Sublist.append g2 (List.Sublist.refl gs.flatten)
  exact ⟨a1, a2, a3, f2, gs, g1, h2, sb.nodup n1, fun b hb => m1 b (sb.subset hb)⟩
theorem sem_run {K : Ek} {W : Xw} {np ns : Nat} {io : List Bool} {m : XM} {vs : List V} {H : Hp} {Q : VK} {E : XK} (h : spOf K np (semF io ns m) vs H Q E) :
    tS K W (ios io) m { nx := fun _ H' => Q .non H', rt := Q } (vs.map some ++ List.replicate (ns - vs.length) none) H := by
  obtain ⟨hl, F, R, cs, c, cs', s, e, q⟩ := h
  have lc : cs.length = vs.length := by rw [← s.len, List.length_map]
  unfold semF at e
  split at e
  · rename_i hs
    rw [lc] at e
    generalize hn : ns - vs.length = n at e ⊢
    have s2 := s.ext n
    split at e
    · rename_i c1 ε' hm
      cases e
      exact ⟨F, R, _, _, ε', s2, hm, fun F' H' σ' fm t v s' => q v F' H' fm (s.leave hs fm t s')⟩
    · rename_i ε' hm
      cases e
      exact ⟨F, R, _, _, ε', s2, hm, fun F' H' σ' fm t s' => q .non F' H' fm ((s.leave hs fm t s').addSh (by simp only [Rep]))⟩
    · cases e
  · cases e
end L2.M
namespace L2.M
open PySem PySem.Spec PyProof.Rows
section
variable {X : Cx} {a b c e : Expr} {es rest : List Expr} {ma mb mo : OM} {m n : EM} {mr : AM} {t t1 t2 : TM} {pos p x : Pos} {k : Nat}
theorem ma_cons (h1 : PE X e (tO X.E mo)) (h2 : PA X es (tA X.E mr)) (hs : starEach (e :: es) X.env = (false, eval e X.env) :: starEach es X.env := by rfl) : PA X (e :: es) (tA X.E (mCons mo mr)) :=
  (pa_cons h1 h2 hs).weak fun _ _ _ h => tA_cons h
theorem x_bin {op : Operator} (ha : PE X a (tO X.E ma)) (hb : PE X b (tO X.E mb)) : PE X (.BinOp a op b pos) (tE X.E (mB (binD op) ma mb)) :=
  let ⟨_, h1, h2⟩ := bin_ok op
  me_bin h1 h2 ha hb
theorem x_cmp {op : CmpOp} (hr : Room k X.A) (ha : PE X a (tO X.E ma)) (hb : PE X b (tO X.E mb)) (hm : behindInMarks op b = false := by rfl) : PE X (.Compare a [op] [b] pos) (tE X.E (mB (cmpD op) ma mb)) :=
  let ⟨_, h1, h2⟩ := cmp_ok (by have := hr.un; omega) op
  me_cmp h1 h2 ha hb hm
theorem y_cmp {op : CmpOp} (hr : Room k X.A) (ha : PE X a (tO X.E ma)) (hb : PE X b (tO X.E mb)) (hm : behindInMarks op b = false := by rfl) : PT X (.Compare a [op] [b] pos) (tT X.E (mTst (mB (cmpD op) ma mb))) :=
  let ⟨_, h1, h2⟩ := cmp_ok (by have := hr.un; omega) op
  mt_cmp h1 h2 ha hb hm
theorem x_neg (ha : PE X a (tO X.E ma)) : PE X (.UnaryOp .USub a pos) (tE X.E (mU negD ma)) :=
  let ⟨_, h1, h2⟩ := neg_ok
  me_un h1 h2 ha
theorem x_ix (ha : PE X a (tO X.E ma)) (hb : PE X b (tO X.E mb)) (hs : PlainIx b := by exact fun _ _ => rfl) : PE X (.Subscript a b pos) (tE X.E (mB ixD ma mb)) :=
  let ⟨_, h1, h2⟩ := ix_ok
  me_ix h1 h2 ha hb hs
theorem ch_one {op : CmpOp} (hr : Room k X.A) (hb : PE X b (tO X.E mb)) : Chn X [op] [b] [(cmpD op, mb)] :=
  let ⟨_, h1, h2⟩ := cmp_ok (by have := hr.un; omega) op
  .one h1 h2 hb
theorem ch_cons {op op' : CmpOp} {ops : List CmpOp} {e' : Expr} {z : (D → D → Option C) × OM} {l : List ((D → D → Option C) × OM)} (hr : Room k X.A) (hb : PE X b (tO X.E mb)) (h : Chn X (op' :: ops) (e' :: es) (z :: l)) : Chn X (op :: op' :: ops) (b :: e' :: es) ((cmpD op, mb) :: z :: l) :=
  let ⟨_, h1, h2⟩ := cmp_ok (by have := hr.un; omega) op
  .cons h1 h2 hb h
theorem x_chain {op1 op2 : CmpOp} {ops : List CmpOp} {l : List ((D → D → Option C) × OM)} (ha : PE X a (tO X.E ma)) (h : Chn X (op1 :: op2 :: ops) (b :: c :: es) l) (hm : lastMarks (op1 :: op2 :: ops) (b :: c :: es) = false := by rfl) : PE X (.Compare a (op1 :: op2 :: ops) (b :: c :: es) pos) (tE X.E (mChn ma l)) := me_chain ha h hm
theorem y_val (h : PE X e (tE X.E m)) (he : ∀ whole, isTrue e X.env whole = (do let v ← whole; standAt e.pos; holding [v] (truthy v)) := by intro _; rfl) : PT X e (tT X.E (mTst m)) := mt_val h he
/-- a built-in function's call -/
inductive Bf where
  | len | int | max | min | abs | tuple | list | repr
def Bf.nm : Bf → Str
  | .len => "len"
  | .int => "int"
  | .max => "max"
  | .min => "min"
  | .abs => "abs"
  | .tuple => "tuple"
  | .list => "list"
  | .repr => "repr"
def Bf.f : Bf → List D → Option C
  | .len => lenD
  | .int => intD
  | .max => maxD
  | .min => minD
  | .abs => absD
  | .tuple => tupD
  | .list => lstD
  | .repr => repD
theorem boot_abs : bootBuiltins "abs" = some (.builtin "abs") := by decide +kernel
theorem x_bf (q : Bf) {y : Str} (hy : y = q.nm) (hm : X.mg q.nm = none) (hc : X.calm = true) (hg : Gl X y) (ha : PA X (e :: es) (tA X.E mr)) (he : starEach (e :: es) X.env = (false, eval e X.env) :: starEach es X.env := by rfl) (hpl : (backTo pos (starEach es X.env)).any (·.1) = false := by rfl) :
    PE X (.Call (.Name y p) (e :: es) [] pos) (tE X.E (mOp q.f mr)) := by
  subst hy
  cases q with
  | len => exact let ⟨_, h1, h2⟩ := len_ok; me_callB h1 h2 hg hm boot_len ha (by decide) (by decide) he hpl
  | int => exact let ⟨_, h1, h2⟩ := int_ok; me_callTy h1 h2 hg hm boot_int ha (by decide) (by decide) he hpl
  | max => exact let ⟨_, h1, h2⟩ := max_ok hc; me_callB h1 h2 hg hm boot_max ha (by decide) (by decide) he hpl
  | min => exact let ⟨_, h1, h2⟩ := min_ok hc; me_callB h1 h2 hg hm boot_min ha (by decide) (by decide) he hpl
  | abs => exact let ⟨_, h1, h2⟩ := abs_ok; me_callB h1 h2 hg hm boot_abs ha (by decide) (by decide) he hpl
  | tuple => exact let ⟨_, h1, h2⟩ := tup_ok; me_callTy h1 h2 hg hm boot_tuple ha (by decide) (by decide) he hpl
  | list => exact let ⟨_, h1, h2⟩ := lst_ok; me_callTy h1 h2 hg hm boot_list ha (by decide) (by decide) he hpl
  | repr => exact let ⟨_, h1, h2⟩ := rep_ok; me_callB h1 h2 hg hm boot_repr ha (by decide) (by decide) he hpl
theorem Ty.boot : ∀ T : Ty, bootBuiltins T.nm = some (.type T.nm) := fun T => by
  cases T with
  | int => exact boot_int
  | bool => exact boot_bool
  | str => exact boot_str
  | list => exact boot_list
  | tuple => exact boot_tuple
  | dict => exact boot_dict
theorem x_isi (T : Ty) {y : Str} (hy : y = T.nm) (hm : X.mg "isinstance" = none) (hmT : X.mg T.nm = none) (hg : Gl X "isinstance") (hgT : Gl X y) (he : PE X e (tO X.E mo)) (hs : starEach [e, .Name y p] X.env = (false, eval e X.env) :: starEach [.Name y p] X.env := by rfl) :
    PE X (.Call (.Name "isinstance" x) [e, .Name y p] [] pos) (tE X.E (mIsi T mo)) := by
  subst hy
  exact me_isi (T := T) hm hmT hg hgT T.boot he (by cases T <;> decide) (by cases T <;> decide) hs rfl rfl
/-- a module's number, text -/
theorem x_gint {y : Str} {i : Int} (hm : ∃ t, X.mg y = some (.int i t)) (hg : Gl X y) (hd : (y == ("__debug__" : Str)) = false := by decide) : PE X (.Name y pos) (tE X.E (mK (.int i))) := by
  obtain ⟨t, hm⟩ := hm
  exact (pe_glob hg hm (show RelV (.int i) (.int i t) from ⟨t, rfl⟩) hd).weak fun _ _ _ => tE_k (d := .int i) (v := .int i) fun _ => by simp [Rep]
end
section
variable {X : Cx} {W : Xw} {io : List Nat} {pos p p2 p3 : Pos} {e : Expr} {m : EM}
theorem z_set (i : Nat) {y : Str} (hN : X.N.Nodup) (he : PE X e (tE X.E m)) (hi : X.N[i]? = some y := by rfl) (hx : Loc X.env.scope y := by first | exact .inl rfl | exact .inr rfl) (hf : X.fn y = true ∨ X.env.scope.names.lookup y = some .local := by first | exact .inr rfl | exact .inl rfl) (hs : swapsWith e (some (.Name y p)) pos.line X.env = pure false := by rfl) : PS X (.Assign [.Name y p] e pos) (tS X.E W io (mSet io i m)) :=
  ms_set hN hi hx he hs hf
theorem z_asg {tg : Expr} {ts : List Nat} {g : TG} {bd : BM} (hg : Gd X.E g bd (· ∈ ts)) (hp : PG X tg g) (he : PE X e (tE X.E m)) (hs : swapsWithSole [tg] e pos.line X.env = pure false := by rfl) (hw : swappedStores [tg] e X.env = pure none := by rfl)
    (h1 : (assignEach [tg] X.env).map (·.2) = [assign tg X.env] := by rfl) : PS X (.Assign [tg] e pos) (tS X.E W io (mAsg ts io bd m)) := ms_asg hg he hp hs hw h1
theorem Gd.imp {K : Ek} {g : TG} {b : BM} {S S' : Nat → Prop} (h : Gd K g b S) (i : ∀ j, S j → S' j) : Gd K g b S' := fun F R H σ ε x d ε' Q o r e q => h F R H σ ε x d ε' Q o r e fun H' σ' bd => q H' σ' (bd.imp i)
theorem g_nm (i : Nat) {y : Str} (hN : X.N.Nodup) (hi : X.N[i]? = some y := by rfl) (hx : Loc X.env.scope y := by first | exact .inl rfl | exact .inr rfl) (hf : X.fn y = true ∨ X.env.scope.names.lookup y = some .local := by first | exact .inr rfl | exact .inl rfl) : PG X (.Name y p) (gName i) := pg_name hN hi hx hf
theorem z_ix (i : Nat) {y : Str} {kx : Expr} {ix : OM} (hv : PE X (.Name y p) (tVar i)) (hk : PE X kx (tO X.E ix)) (he : PE X e (tE X.E m))
    (ha : ∀ v, assign (.Subscript (.Name y p) kx p2) X.env v = (do
      let ov ← holding [v] (eval (.Name y p) X.env)
      let iv ← holding [v, ov] (eval kx X.env)
      standAt p2
      holding [v, ov, iv] (setItem ov iv v)
      release [v, ov, iv] []) := by intro _; rfl)
    (hs : swapsWithSole [.Subscript (.Name y p) kx p2] e pos.line X.env = pure false := by rfl) (hw : swappedStores [.Subscript (.Name y p) kx p2] e X.env = pure none := by rfl)
    (h1 : (assignEach [.Subscript (.Name y p) kx p2] X.env).map (·.2) = [assign (.Subscript (.Name y p) kx p2) X.env] := by rfl) : PS X (.Assign [.Subscript (.Name y p) kx p2] e pos) (tS X.E W io (mSetIx i m ix)) := ms_setIx hv he hk ha hs hw h1
theorem z_par2 (i j : Nat) {y z : Str} {a b : Expr} {kt k2 : Nat} {pt pt2 py pz : Pos} {ma : AM} (hc : X.calm = true) (hN : X.N.Nodup) (ha : PA X [a, b] (tA X.E ma)) (hi : X.N[i]? = some y := by rfl) (hj : X.N[j]? = some z := by rfl) (hij : i ≠ j := by decide)
    (hx : X.env.scope.names.lookup y = some .local := by rfl) (hy : X.env.scope.names.lookup z = some .local := by rfl)
    (hw : swappedStores [.Tuple [.Name y py, .Name z pz] kt pt] (.Tuple [a, b] k2 pt2) X.env = pure (some [y, z]) := by rfl)
    (hs : swapsWithSole [.Tuple [.Name y py, .Name z pz] kt pt] (.Tuple [a, b] k2 pt2) pos.line X.env = pure false := by rfl) :
    PS X (.Assign [.Tuple [.Name y py, .Name z pz] kt pt] (.Tuple [a, b] k2 pt2) pos) (tS X.E W io (mPar io [i, j] ma)) := ms_par2 hc hN hi hj hij hx hy ha hw hs
theorem z_par3 (i j l : Nat) {y z w : Str} {a b c : Expr} {kt k2 : Nat} {pt pt2 py pz pw : Pos} {ma : AM} (hc : X.calm = true) (hN : X.N.Nodup) (ha : PA X [a, b, c] (tA X.E ma)) (hi : X.N[i]? = some y := by rfl) (hj : X.N[j]? = some z := by rfl) (hl : X.N[l]? = some w := by rfl) (hij : i ≠ j := by decide) (hil : i ≠ l := by decide) (hjl : j ≠ l := by decide)
    (hx : X.env.scope.names.lookup y = some .local := by rfl) (hy : X.env.scope.names.lookup z = some .local := by rfl) (hz : X.env.scope.names.lookup w = some .local := by rfl)
    (hw : swappedStores [.Tuple [.Name y py, .Name z pz, .Name w pw] kt pt] (.Tuple [a, b, c] k2 pt2) X.env = pure (some [y, z, w]) := by rfl)
    (hs : swapsWithSole [.Tuple [.Name y py, .Name z pz, .Name w pw] kt pt] (.Tuple [a, b, c] k2 pt2) pos.line X.env = pure false := by rfl) :
    PS X (.Assign [.Tuple [.Name y py, .Name z pz, .Name w pw] kt pt] (.Tuple [a, b, c] k2 pt2) pos) (tS X.E W io (mPar io [i, j, l] ma)) := ms_par3 hc hN hi hj hl hij hil hjl hx hy hz ha hw hs
theorem z_for {iter tg : Expr} {body : List Stmt} {io' ts : List Nat} {src : SM} {g : TG} {bind : BM} {b : XM} (hp : PassesOwn (model X.prog X.w) X.A X.env X.xe) (hc : X.calm = true) (hi : PI X tg iter (tI X.E src)) (hgd : Gd X.E g bind (· ∈ ts)) (hg : PG X tg g)
    (hb : PSs X body (tS X.E W io' b)) (hio : ∀ i ∈ io, i ∈ io' := by decide) (hts : ∀ i ∈ ts, i ∉ io' := by decide) (hs : ∀ x, foldedSetIterable iter X.env x = pure x := by intro _; rfl) : PS X (.For tg iter body [] pos) (tS X.E W io (mFor io' src bind b)) := ms_for hp hc hi hg hgd hb hio hts hs
theorem z_rng1 {tg a : Expr} {ma : AM} (hm : X.mg "range" = none) (hg : Gl X "range") (ha : PA X [a] (tA X.E ma)) (hs : starEach [a] X.env = [(false, eval a X.env)] := by rfl) : PI X tg (.Call (.Name "range" p) [a] [] pos) (tI X.E (mSrc rng1D ma)) := mi_range1 hg hm ha hs
end
def Wo (fa : List He.Fa) (fn : List He.DefD) (K : PySem.W.Frag) (mg : Str → Option Value) : Prop := ∃ h : Heap, K.In h ∧ h.Ns mainGlobals mg ∧ He.SaysD fa fn K
section
variable {fa : List He.Fa} {fn : List He.DefD} {K : PySem.W.Frag} {mg : Str → Option Value}
theorem Wo.free (W : Wo fa fn K mg) (i : Nat) {x : Str} (h : fa[i]? = some (.free x) := by rfl) : mg x = none :=
  let ⟨_, X, G, c⟩ := W
  He.free_ok X G (c.fact i h)
theorem Wo.int (W : Wo fa fn K mg) (i : Nat) {x : Str} {n : Int} (h : fa[i]? = some (.int x n) := by rfl) : ∃ t, mg x = some (.int n t) :=
  let ⟨_, X, G, c⟩ := W
  He.int_ok X G (c.fact i h)
theorem Wo.str (W : Wo fa fn K mg) (i : Nat) {x z : Str} (h : fa[i]? = some (.str x z) := by rfl) : ∃ t, mg x = some (.str z t) :=
  let ⟨_, X, G, c⟩ := W
  He.str_ok X G (c.fact i h)
end
def Plain (d : He.DefD) (ps : List Str) : Prop := d.dfl = [] ∧ d.kwd = [] ∧ ∀ (kV doc pm : Value) (an : Option Addr) (cdv ct : Value) (us : List Value), us.length = ps.length → bindArgs (PySem.W.fnOf d.name d.qual d.params d.body d.scope .none kV doc pm an cdv ct) ⟨us, []⟩ = pure (ps.zip us)
abbrev cxN (P : Program) (w : World) (K : PySem.W.Frag) (mg : Str → Option Value) (base : Heap) (N : List Str) (d : He.DefD) (f : Addr) (cdv : Value) (A : Around) (outer : List Env) (s : Shared) (H : Hp) (E : XK) : Cx := (cxOf CX0 P w K mg base N d.qual d.scope f cdv A outer s H E).nox
/-- nothing is raised -/
abbrev W0 : Xw := fun _ _ _ _ => False
/-- a script in the first heap: read as frozen data -/
theorem sp_law {K : Ek} {m : XM} {n : Nat} {H : Hp} {a : Addr} {ns : List Int} (O : Only H) (h : SqL K.1 H a (ns.map V.int)) (hm : ∃ cs', semF [false] n m [.sh (.list (ns.map PyData.int))] = some (.sh (.bool true), cs')) :
    spOf K 1 (semF [false] n m) [.ref a] H (fun v _ => v = .bl true) fun _ _ _ => False := by
  obtain ⟨cs', hm⟩ := hm
  have reps : ∀ ns : List Int, Reps K.1 H (ns.map V.int) (ns.map PyData.int) := fun ns => by
    induction ns with
    | nil => rfl
    | cons x r ih => exact ⟨_, _, rfl, by simp only [Rep], ih⟩
  refine ⟨rfl, H, fun _ => none, [.sh (.list (ns.map PyData.int))], _, _, ⟨Same.refl H, fun b u z => (nomatch z), fun b _ => rfl, [[]], [], ⟨_, _, _, _, rfl, rfl, ⟨rfl, _, rfl, a, _, rfl, h, reps ns⟩, rfl, rfl⟩, ⟨rfl, rfl⟩, by simp, fun b hb => by simp at hb⟩, hm, fun v F' H' fm p => p.boolT⟩
end L2.M
namespace L2.M
open PySem PySem.Spec PyProof.Rows
section
variable {X : Cx} {pos p : Pos}
def revD : D → Option C
  | .list ds => some (.ls ds.reverse)
  | .tuple ds => some (.sh (.tuple ds.reverse))
  | _ => none
end
section
variable {X : Cx} {e : Expr} {k : Nat} {p1 p2 p3 pos : Pos}
def mRev (m : OM) : EM := mU revD m
end
end L2.M
namespace L2.M
open PySem PySem.Spec PyProof.Rows
def intsOf : List D → Option (List Int)
  | [] => some []
  | .int i :: ds => (intsOf ds).map (i :: ·)
  | _ => none
def boolsOf : List D → Option (List Bool)
  | [] => some []
  | .bool i :: ds => (boolsOf ds).map (i :: ·)
  | _ => none
def anyD : List D → Option C
  | [.list ds] => (boolsOf ds).map fun bs => .sh (.bool (bs.any id))
  | _ => none
def allD : List D → Option C
  | [.list ds] => (boolsOf ds).map fun bs => .sh (.bool (bs.all id))
  | _ => none
def sumD : List D → Option C
  | [.list ds] => (intsOf ds).map fun ns => .sh (.int ns.sum)
  | _ => none
def isort (ns : List Int) : List Int := ns.mergeSort fun a b => decide (a ≤ b)
def sortD : List D → Option C
  | [.list ds] => (intsOf ds).map fun ns => .ls ((isort ns).map PyData.int)
  | _ => none
def strD : List D → Option C
  | [.int i] => if sm i then some (.sh (.str (toString i))) else none
  | _ => none
def gmaxD : List D → Option C
  | [.list ds] => match intsOf ds with
    | some (n :: ns) => some (.sh (.int (ns.foldl max n)))
    | _ => none
  | _ => none
def gminD : List D → Option C
  | [.list ds] => match intsOf ds with
    | some (n :: ns) => some (.sh (.int (ns.foldl min n)))
    | _ => none
  | _ => none
section
variable {X : Cx}
theorem str_ok : ∃ r, CallR X (.type "str") r ∧ FnB X.K strD r := by
  refine ⟨_, call_str_int, fun F H vs ds c Q s hr he q => ?_⟩
  match ds, he, hr with
  | [.int i], he, hr =>
    simp only [strD] at he
    split at he
    · rename_i hz
      cases he
      obtain ⟨x, rfl, h1⟩ := hr.one
      rw [rb_int h1]
      exact ⟨i, rfl, by have := log2_le hz.1 hz.2; omega, g_str s q⟩
    · cases he
end
/-- more built-in functions of one list -/
inductive Bg where
  | any | all | sum | sorted | str | maxl | minl
def Bg.nm : Bg → Str
  | .any => "any"
  | .all => "all"
  | .sum => "sum"
  | .sorted => "sorted"
  | .str => "str"
  | .maxl => "max"
  | .minl => "min"
def Bg.f : Bg → List D → Option C
  | .any => anyD
  | .all => allD
  | .sum => sumD
  | .sorted => sortD
  | .str => strD
  | .maxl => gmaxD
  | .minl => gminD
section
variable {X : Cx} {e : Expr} {es : List Expr} {mr : AM} {p pos : Pos}
def enumFrom (k : Nat) : List D → List D
  | [] => []
  | d :: ds => .tuple [.int (k : Int), d] :: enumFrom (k + 1) ds
end
end L2.M
namespace L2.M
open PySem PySem.Spec PyProof.Rows
structure Rm (k : Nat) (A : Around) : Prop extends Room k A where
  gd : A.guards = some []
theorem Rm.mono {j k : Nat} {A : Around} (r : Rm k A) (h : j ≤ k) : Rm j A := ⟨r.toRoom.mono h, r.gd⟩
structure FnG (P : Program) (w : World) (K : PySem.W.Frag) (mg : Str → Option Value) (base : Heap) (CX : CXT) (k : Nat) (f : Addr) (fd : FuncData) (ps : List Str) (sp : Sp) : Prop where
  len : ∀ vs H Q E, sp vs H Q E → vs.length = ps.length
  run : ∀ (A : Around) (outer : List Env) (s : Shared) (H : Hp) (args : Args) (us : List Value) (vs : List V) (Q : VK) (E : XK), Rm k A → Env0 P w K mg base A outer s H → BindsTo s fd args (ps.zip us) → Vals vs us → sp vs H Q E →
    codeAny (model P w) A (.call (.ref f) args) (CR CX outer P w H s Q E) s
section
variable {P : Program} {w : World} {K : PySem.W.Frag} {mg : Str → Option Value} {base : Heap} {CX : CXT}
theorem FnG.mono {j k : Nat} {f : Addr} {fd : FuncData} {ps : List Str} {sp : Sp} (F : FnG P w K mg base CX j f fd ps sp) (h : j ≤ k) : FnG P w K mg base CX k f fd ps sp :=
  ⟨F.len, fun A outer s H args us vs Q E hr => F.run A outer s H args us vs Q E (hr.mono h)⟩
/-- a def's body, run where the guards are known -/
theorem fnG_of {N ps : List Str} {k : Nat} {sp : Sp} {f : Addr} {name qual : Str} {params : Arguments} {body : List Stmt} {scope : Scope} {dV kV doc pm cdv ct oc : Value} {an od : Option Addr} {osl : Array (Option Value)}
    (l0 : K.lookup f = some ⟨oc, od, .func (PySem.W.fnOf name qual params body scope dV kV doc pm an cdv ct), osl⟩) (c0 : PySem.W.codeIn K cdv qual = true) (S : FnScope N ps scope) (len : ∀ vs H Q E, sp vs H Q E → vs.length = ps.length)
    (hb : ∀ (A : Around) (outer : List Env) (s : Shared) (H : Hp) (vs : List V) (Q : VK) (E : XK), Rm k (A.deeper (envOfC qual scope s.heap.objs.size f cdv)) → sp vs H Q E →
      ∃ t, PSs (cxOf CX P w K mg base N qual scope f cdv A outer s H E) body t ∧ t { nx := fun _ H' => Q .non H', rt := Q } (start N vs) H) :
    FnG P w K mg base CX (k + 1) f (PySem.W.fnOf name qual params body scope dV kV doc pm an cdv ct) ps sp := by
  refine ⟨len, fun A outer s H args us vs Q E r0 env0 bd rv h0 => ?_⟩
  have inK : K.In s.heap := env0.mod.kin.keeps fun b o z => (env0.bs b o z).1
  have nl : s.heap.NoLimit := env0.mod.nolimit.keeps fun b o z => (env0.bs b o z).1
  have kinds : ∀ y ∈ ps.zip us, scope.names.lookup y.1 = some .local ∨ (scope.names.lookup y.1 = some .cell ∧ ((cellsFrom (s.heap.objs.size + 1) scope.names []).lookup y.1).isSome = true) := by
    rintro ⟨n, v⟩ hy
    have hn := S.par n (List.of_mem_zip hy).1
    rcases hn with z | z
    · exact .inl z
    · exact .inr ⟨z, PySem.W.cellsFrom_some _ _ _ (.inl z)⟩
  refine codeAny_call_function r0.toRoom.depth (inK _ _ l0) rfl S.co S.gen rfl (PySem.W.codeRec_of inK c0) (bd _ _ _ _ ?_)
  refine wpAny_newFunctionEnv_cells S.kind kinds fun env ee s2 x2 => ?_
  subst ee
  refine ⟨nl.keeps x2.toInCall.keep, codeAny_func ?_⟩
  obtain ⟨t, ht, hq⟩ := hb A outer s H vs Q E ⟨r0.toRoom.deeper _, r0.gd⟩ h0
  have J : Inv (cxOf CX P w K mg base N qual scope f cdv A outer s H E) [] (start N vs) H s2 := inv_start S r0.hd env0 (len _ _ _ _ h0) rv x2
  refine wpAny_mono (ht.run [] s2 (start N vs) H _ J hq) (fun fl s' z => ?_) fun e s' z => z
  cases fl with
  | ret u =>
    obtain ⟨v, σ', H', I, r, q⟩ := z
    exact ⟨v, H', I.os, I.bare, I.base, I.hok, r, q⟩
  | next =>
    obtain ⟨σ', H', I, q⟩ := z
    exact ⟨.non, H', I.os, I.bare, I.base, I.hok, rfl, q⟩
  | brk =>
    obtain ⟨_, _, _, q⟩ := z
    exact q.elim
  | cont =>
    obtain ⟨_, _, _, q⟩ := z
    exact q.elim
end
/-- a def that keeps its promise there, by its name -/
structure KnG (P : Program) (w : World) (K : PySem.W.Frag) (mg : Str → Option Value) (base : Heap) (k : Nat) (x : Str) (ps : List Str) (sp : Sp) : Prop where
  ex : ∃ (f : Addr) (fd : FuncData), mg x = some (.ref f) ∧ PySem.W.keepIn K (.ref f) = true ∧ Binds K fd ps [] ∧ FnG P w K mg base CX0 k f fd ps sp
section
variable {fa : List He.Fa} {fn : List He.DefD} {K : PySem.W.Frag} {mg : Str → Option Value} {P : Program} {w : World} {base : Heap}
theorem defG {N ps : List Str} {d : He.DefD} {k : Nat} {io : List Bool} {m : XM} {f : Addr} {fd : FuncData} {dvs : List V} {kws : List (Str × V)} (F : FunD K d.name d.qual d.params d.body d.scope dvs kws f fd) (S : FnScope N ps d.scope)
    (hb : ∀ (f : Addr) (cdv : Value) (A : Around) (outer : List Env) (s : Shared) (H : Hp) (E : XK), Rm k (cxN P w K mg base N d f cdv A outer s H E).A → PSs (cxN P w K mg base N d f cdv A outer s H E) d.body (tS (K, w) W0 (ios io) m)) :
    FnG P w K mg base CX0 (k + 1) f fd ps (spOf (K, w) ps.length (semF io N.length m)) := by
  obtain ⟨oc, od, dV, kV, doc, pm, an, cdv, ct, osl, rfl, l0, c0, _, _⟩ := F.ex
  exact fnG_of l0 c0 S (fun vs H Q E h => h.1) fun A outer s H vs Q E hr h => ⟨tS (K, w) W0 (ios io) m, PSs.nox (hb f cdv A outer s H E hr), sem_run h⟩
theorem kng_mk (W : Wo fa fn K mg) (i j : Nat) {N ps : List Str} {d : He.DefD} {k : Nat} {io : List Bool} {m : XM} {x : Str} (hd : fn[i]? = some d) (hx : d.at_ = (x, none)) (hf : fa[j]? = some (.glo x)) (pl : Plain d ps) (S : FnScope N ps d.scope)
    (hb : ∀ (f : Addr) (cdv : Value) (A : Around) (outer : List Env) (s : Shared) (H : Hp) (E : XK), Rm k (cxN P w K mg base N d f cdv A outer s H E).A → PSs (cxN P w K mg base N d f cdv A outer s H E) d.body (tS (K, w) W0 (ios io) m)) :
    KnG P w K mg base (k + 1) x ps (spOf (K, w) ps.length (semF io N.length m)) := by
  obtain ⟨h, X, G, c⟩ := W
  obtain ⟨fd, F⟩ := c.def_ i hd
  have g := He.glo_ok X G (c.fact j hf)
  have eD : d.dvs K = [] := by unfold He.DefD.dvs; rw [pl.1]; rfl
  have eA : He.fAd K d.at_ = He.ga K x := by rw [hx]; rfl
  rw [eD, eA] at F
  exact ⟨⟨_, fd, g, F.kp, F.bindsN pl.2.2, defG F S hb⟩⟩
/-- the callee runs, the guards known -/
theorem runG {X : Cx} {pins : List (Addr × Obj)} {σ : St} {H : Hp} {s : Shared} {Q : VK} {us : List Value} {vs : List V} {k : Nat} {f : Addr} {fd : FuncData} {ps : List Str} {sp : Sp} (F : FnG X.prog X.w X.K X.mg X.base CX0 k f fd ps sp) (hr : Rm k X.A) (hb : Binds X.K fd ps []) (I : Inv X pins σ H s) (r : Vals vs us) (h : sp vs H Q E0) :
    wpAny (model X.prog X.w) X.A (call (.ref f) us) (EP X pins σ Q) X.xe s := by
  have hl : us.length = ps.length := by rw [← r.length]; exact F.len _ _ _ _ h
  have bd := hb s us I.kIn (by rw [List.append_nil]; exact hl)
  rw [List.append_nil] at bd
  refine wpAny_call (codeAny_mono (F.run X.A X.stack s H ⟨us, []⟩ us vs Q E0 hr I.env0 bd r h) fun res s' hq => ?_)
  cases res with
  | error e => exact hq.elim
  | ok fl =>
    cases fl with
    | ret u => exact I.after hq
    | next => exact False.elim hq
    | brk => exact False.elim hq
    | cont => exact False.elim hq
theorem g_call {X : Cx} {k k' np : Nat} {x : Str} {ps : List Str} {g : GM} {io : List Bool} {ma : AM} {e : Expr} {es : List Expr} {p pos : Pos} (h : KnG X.prog X.w X.K X.mg X.base k x ps (spOf X.E np g)) (hr : Rm k' X.A) (hk : k ≤ k') (hg : Gl X x) (ha : PA X (e :: es) (tA X.E ma)) (hio : io.length = np := by rfl)
    (hdb : (x == ("__debug__" : Str)) = false := by decide) (he : starEach (e :: es) X.env = (false, eval e X.env) :: starEach es X.env := by rfl) (hpl : (backTo pos (starEach es X.env)).any (·.1) = false := by rfl) : PE X (.Call (.Name x p) (e :: es) [] pos) (tE X.E (mCall io g ma)) := by
  obtain ⟨f, fd, hm, hkp, hbi, F⟩ := h.ex
  refine ⟨fun pins s σ H Q I q => ?_⟩
  have q2 := tE_call hio q
  refine wpAny_Call_Name_kw (ld_glob I hg hm ?_ hdb)
  refine PySem.W.callWith_K (h₀ := X.base) I.ok.mod.kin hkp (thn (ha.run pos pins s σ H _ I q2) fun us s1 ⟨vs, H1, I1, r, q3⟩ => ⟨I1.kIn, ?_⟩) he hpl
  have q3 : spOf X.E np g (vs ++ []) H1 Q E0 := q3
  rw [List.append_nil] at q3
  exact runG (F.mono hk) hr hbi I1 r q3
end
section
variable {P : Program} {w : World} {K : PySem.W.Frag} {mg mb : Str → Option Value} {k : Nat} {fA a : Addr} {fd : FuncData} {x : Str} {sp : Sp} {s : Shared} {vs : List Value} {ns : List Int}
abbrev LawEnd (s : Shared) (r : Result) (s' : Shared) : Prop := r = .ok (.ret (.bool true)) ∧ OldK s.heap s'.heap ∧ s'.os = s.os ∧ AllBare s'.gens
theorem top_core {H : Hp} (inK : K.In s.heap) (n1 : s.heap.Ns mainGlobals mg) (n2 : s.heap.Ns builtinsNs mb) (bb : ∀ y : Str, y ≠ "__name__" → mb y = bootBuiltins y) (nl : s.heap.NoLimit) (g0 : s.gens = #[])
    (ea : s.heap.get? a = some { cls := .type "list", data := .seq vs.toArray }) (hr : Rm k callerA) (F : ∀ base : Heap, K.In base → base.Ns mainGlobals mg → FnG P w K mg base CX0 k fA fd [x] sp) (bd : ∀ (s : Shared) (u : Value), BindsTo s fd ⟨[u], []⟩ [(x, u)])
    (h0 : sp [.ref a] H (fun v _ => v = .bl true) fun _ _ _ => False) (hO : Only H) (hok : HOk P w H s.heap) (hA : ∀ b, H b ≠ none → b = a) (hK : H a ≠ none → K.lookup a = none) : codeAny (model P w) callerA (.call (.ref fA) ⟨[.ref a], []⟩) (LawEnd s) s := by
  have untr : ∀ {b : Addr} {o : Obj}, s.heap.get? b = some o → (b = a → o.data ≠ .seq vs.toArray → False) → (b = a → False) → H b = none := fun {b o} _ _ no => by
    by_cases z : H b = none
    · exact z
    · exact (no (hA b z)).elim
  have dictN : ∀ {b : Addr} {o : Obj} {es : Array DictEntry} {ep : Nat}, s.heap.get? b = some o → o.data = .dict es ep → H b = none := fun {b o es ep} e d => by
    refine untr e (fun _ _ => ?_) fun eb => ?_
    · rename_i eb ne
      subst eb
      rw [ea] at e
      cases e
      exact ne rfl
    · subst eb
      rw [ea] at e
      cases e
      have d2 : Data.seq vs.toArray _ = Data.dict es ep := d
      cases d2
  have ns2 : ∀ {b : Addr} {m : Str → Option Value}, s.heap.Ns b m → (hidT s.heap H).Ns b m := by
    rintro b m ⟨o, es, ep, e, d, r⟩
    exact ⟨o, es, ep, hidT_get e (dictN e d), d, r⟩
  have inB : K.In (hidT s.heap H) := by
    intro b o e
    refine hidT_get (inK b o e) ?_
    by_cases z : H b = none
    · exact z
    · have eb := hA b z
      subst eb
      rw [hK z] at e
      cases e
  obtain ⟨mc, l1, l2⟩ := nl
  have md : Mod K mg (hidT s.heap H) := ⟨inB, ns2 n1, ⟨mb, ns2 n2, bb⟩, ⟨mc, ns2 l1, l2⟩⟩
  have ev : Env0 P w K mg (hidT s.heap H) callerA [] s H := ⟨rfl, md, fun b o z => of_hidT z, Nat.le_of_eq (hidT_size _ _), trivial, fun b z => absurd (show b ∈ ([] : List Addr) from z) (by simp), hok, .of_eq g0⟩
  refine codeAny_mono ((F _ inB (ns2 n1)).run callerA [] s H ⟨[.ref a], []⟩ [.ref a] [.ref a] _ _ hr ev (bd s (.ref a)) (.cons rfl .nil) h0) fun r s' z => ?_
  match r, z with
  | .error e, z => exact z.elim
  | .ok .next, z => exact z.elim
  | .ok .brk, z => exact z.elim
  | .ok .cont, z => exact z.elim
  | .ok (.ret u), ⟨v, H', os, bare, un, hok2, rv, q⟩ =>
    have q : v = .bl true := q
    subst q
    obtain rfl : u = Value.bool true := rv
    refine ⟨rfl, OldK.of_keep fun b o e => ?_, os, bare⟩
    cases z : H b with
    | none => exact un.keep b o e z (fun y => absurd (show b ∈ ([] : List Addr) from y) (by simp)) (by simp)
    | some t =>
      rcases hO b with y | ⟨ob, xs, y⟩
      · rw [z] at y; cases y
      · obtain ⟨e1, _⟩ := hok b _ y
        obtain ⟨e2, _⟩ := hok2 b _ (un.frzs b ob _ y)
        rw [e] at e1
        cases e1
        exact e2
theorem top_call (inK : K.In s.heap) (n1 : s.heap.Ns mainGlobals mg) (n2 : s.heap.Ns builtinsNs mb) (bb : ∀ y : Str, y ≠ "__name__" → mb y = bootBuiltins y) (nl : s.heap.NoLimit) (g0 : s.gens = #[])
    (ea : s.heap.get? a = some { cls := .type "list", data := .seq vs.toArray }) (hi : IntsAre vs ns) (hl : ns.length ≤ sizeLine) (hr : Rm k callerA) (F : ∀ base : Heap, K.In base → base.Ns mainGlobals mg → FnG P w K mg base CX0 k fA fd [x] sp) (bd : ∀ (s : Shared) (u : Value), BindsTo s fd ⟨[u], []⟩ [(x, u)])
    (h0 : ∀ H : Hp, Only H → SqL K H a (ns.map V.int) → sp [.ref a] H (fun v _ => v = .bl true) fun _ _ _ => False) : codeAny (model P w) callerA (.call (.ref fA) ⟨[.ref a], []⟩) (LawEnd s) s := by
  have rv := vals_ints hi
  have len := hi.length
  by_cases hk : ∃ o, K.lookup a = some o
  · obtain ⟨o, hk⟩ := hk
    have e := inK a o hk
    rw [ea] at e
    cases e
    have sq : SqL K (fun _ => none) a (ns.map V.int) := .inr ⟨_, vs.toArray, _, hk, rfl, rfl, rfl, by rw [List.size_toArray, len]; exact hl, by simpa using rv⟩
    exact top_core inK n1 n2 bb nl g0 ea hr F bd (h0 _ (fun _ => .inl rfl) sq) (fun _ => .inl rfl) (fun b u z => by have z2 : (none : Option HO) = some u := z; cases z2) (fun b z => absurd rfl z) fun z => absurd rfl z
  · have hk : K.lookup a = none := by
      cases z : K.lookup a with
      | none => rfl
      | some o => exact absurd ⟨o, z⟩ hk
    let Hs : Hp := fun b => if b = a then some (.frz { cls := .type "list", data := .seq vs.toArray } (.lst (ns.map V.int))) else none
    have at1 : Hs a = some (.frz { cls := .type "list", data := .seq vs.toArray } (.lst (ns.map V.int))) := if_pos rfl
    have at2 : ∀ {b : Addr}, b ≠ a → Hs b = none := fun {b} n => if_neg n
    have on : Only Hs := fun b => by
      by_cases eb : b = a
      · subst eb; exact .inr ⟨_, _, at1⟩
      · exact .inl (at2 eb)
    refine top_core (H := Hs) inK n1 n2 bb nl g0 ea hr F bd (h0 Hs on (.inl (.inr ⟨_, at1⟩))) on (fun b u z => ?_) (fun b z => ?_) fun _ => hk
    · by_cases eb : b = a
      · subst eb
        rw [at1] at z
        cases z
        exact ⟨ea, by rw [List.length_map]; exact hl, vs, _, rv, ea⟩
      · rw [at2 eb] at z; cases z
    · by_cases eb : b = a
      · exact eb
      · exact absurd (at2 eb) z
end
theorem walkG {l : PySem.W.OpenLaw} {n k : Nat} {q : Program} {loose : List Str} {XP : (Str → Option Value) → Heap → Prop} {YP : World → Heap → Prop} {d : DefRec} {x : Str} (hn : l.most = some n) (h2 : n ≤ sizeLine) (h3 : d.params.defaults = []) (hr : Rm k callerA)
    (F : ∀ (w : World) (mg : Str → Option Value) (fA : Addr) (h : Heap), YP w h → h.Ns mainGlobals mg → mg d.name = some (.ref fA) → ∃ (K : PySem.W.Frag) (fd : FuncData) (sp : Sp), K.In h ∧ (∀ (s : Shared) (u : Value), BindsTo s fd ⟨[u], []⟩ [(x, u)]) ∧
      (∀ (H : Hp) (a : Addr) (ns : List Int), ns.length ≤ n → Only H → SqL K H a (ns.map V.int) → sp [.ref a] H (fun v _ => v = .bl true) fun _ _ _ => False) ∧ ∀ base : Heap, K.In base → base.Ns mainGlobals mg → FnG l.prog w K mg base CX0 k fA fd [x] sp) :
    PySem.W.WalkO q loose XP YP l.row.toRowW d [] (fun f vs => PySem.call f vs) := by
  refine Att.attach_call hn h3 fun w s0 s1 mg mb fA o pm cd doc a vs ns G Y ho hd hcd hmg hobj hints hlen hg => ?_
  obtain ⟨K, fd, sp, KX, hb, h0, hF⟩ := F w mg fA _ Y G.T.g hmg
  exact top_call KX G.T.g G.T.b G.T.builtins G.T.nolimit hg hobj hints (Nat.le_trans hlen h2) hr hF hb fun H hO hS => h0 H a ns hlen hO hS
theorem topG {fa : List He.Fa} {fn : List He.DefD} {K : PySem.W.Frag} {mg : Str → Option Value} {P : Program} {w : World} (W : Wo fa fn K mg) (i j : Nat) {N : List Str} {d : He.DefD} {k : Nat} {m : XM} {x f0 : Str} (hd : fn[i]? = some d) (hx : d.at_ = (f0, none)) (hf : fa[j]? = some (.glo f0)) (pl : Plain d [x]) (S : FnScope N [x] d.scope) {fA : Addr} (hfa : mg f0 = some (.ref fA))
    (hb : ∀ (base : Heap) (f : Addr) (cdv : Value) (A : Around) (outer : List Env) (s : Shared) (H : Hp) (E : XK), Rm k (cxN P w K mg base N d f cdv A outer s H E).A → PSs (cxN P w K mg base N d f cdv A outer s H E) d.body (tS (K, w) W0 (ios [false]) m)) :
    ∃ fd : FuncData, (∀ (s : Shared) (v : Value), BindsTo s fd ⟨[v], []⟩ [(x, v)]) ∧ ∀ base : Heap, K.In base → base.Ns mainGlobals mg → FnG P w K mg base CX0 (k + 1) fA fd [x] (spOf (K, w) 1 (semF [false] N.length m)) := by
  obtain ⟨h, X, G, c⟩ := W
  obtain ⟨fd, F⟩ := c.def_ i hd
  have g := He.glo_ok X G (c.fact j hf)
  have eD : d.dvs K = [] := by unfold He.DefD.dvs; rw [pl.1]; rfl
  have eA : He.fAd K d.at_ = He.ga K f0 := by rw [hx]; rfl
  have e := hfa.symm.trans g
  cases e
  rw [eD, eA] at F
  exact ⟨fd, fun s v => FunD.bindsA F pl.2.2 s [v] rfl, fun base _ _ => defG F S (hb base)⟩
def reprG : List D → Option C
  | [d] => if SeqAt.shaped d = true ∧ PyData.showable d = true ∧ d.shown.length ≤ sizeLine then some (.sh (.str d.shown)) else none
  | _ => none
section
variable {X : Cx}
theorem reprG_ok {k : Nat} (hr : Rm k X.A) : ∃ r, CallR X (.builtin "repr") r ∧ FnB X.K reprG r := by
  refine ⟨fun xs H Q => ∃ x d, xs = [x] ∧ Dp X.K H x d ∧ SeqAt.shaped d = true ∧ PyData.showable d = true ∧ d.shown.length ≤ sizeLine ∧ Q (.str d.shown) H, ?_, fun F H vs ds c Q s hrb he q => ?_⟩
  · rintro pins s σ H xs us Q I r ⟨x, d, rfl, dp, hs, hw, hz, q⟩
    obtain ⟨u, rfl, ru⟩ := vals1 r
    obtain ⟨as, rd⟩ := Dp.reads I d x u dp ru
    have fin : ∀ (t tk : Tok), EP X pins σ Q (.str d.shown t) { s with toks := tk } := fun t tk => ⟨.str d.shown, H, I.tok tk, ⟨t, rfl⟩, q⟩
    have big : ∀ {a : Addr}, Reads s.heap (.ref a) d as → wpAny (model X.prog X.w) X.A (call (.builtin "repr") [.ref a]) (EP X pins σ Q) X.xe s := fun {a} rd => by
      have hd := SeqAt.depth_of_shaped hs
      have hu := hr.un
      exact repr_of_reads' rd hw (PyData.noDict_hsm (PyData.hasDict_of_canLay d (SeqAt.canLay_of_shaped hs))) hr.gd (by omega) (fun _ _ e => e) (fun h' u tk hk => ⟨.str d.shown, H, I.kept (h' := h') (t' := tk) hk, ⟨u, rfl⟩, q⟩) hz
    cases rd with
    | none => exact PySem.P.repr_of_none (by have := fin s.toks (s.toks + 1); simp only [PyData.shown] at this; exact this)
    | bool b => exact PySem.P.repr_of_bool (by have := fin s.toks (s.toks + 1); simp only [PyData.shown] at this; exact this)
    | int i t => exact PySem.P.repr_of_int (by simpa [PyData.showable] using hw) (by have := fin s.toks (s.toks + 1); simp only [PyData.shown] at this; exact this)
    | str z t => exact PySem.P.repr_of_str (by have := fin s.toks (s.toks + 1); simp only [PyData.shown] at this; exact this) (by simpa only [PyData.shown] using hz)
    | list h1 h2 h3 h4 => exact big (.list h1 h2 h3 h4)
    | tuple h1 h2 h3 h4 => exact big (.tuple h1 h2 h3 h4)
    | dict h1 h2 h3 h4 h5 => exact big (.dict h1 h2 h3 h4 h5)
  · match ds, he, hrb with
    | [d], he, hrb =>
      simp only [reprG] at he
      split at he
      · rename_i h
        cases he
        obtain ⟨x, rfl, h1⟩ := hrb.one
        exact ⟨x, d, rfl, rb_dp s h1 (SeqAt.canLay_of_shaped h.1), h.1, h.2.1, h.2.2, g_str s q⟩
      · cases he
theorem x_repr {k : Nat} {e : Expr} {es : List Expr} {mr : AM} {p pos : Pos} (hm : X.mg "repr" = none) (hr : Rm k X.A) (hg : Gl X "repr") (ha : PA X (e :: es) (tA X.E mr)) (he : starEach (e :: es) X.env = (false, eval e X.env) :: starEach es X.env := by rfl) (hpl : (backTo pos (starEach es X.env)).any (·.1) = false := by rfl) :
    PE X (.Call (.Name "repr" p) (e :: es) [] pos) (tE X.E (mOp reprG mr)) :=
  let ⟨_, h1, h2⟩ := reprG_ok hr
  me_callB h1 h2 hg hm boot_repr ha (by decide) (by decide) he hpl
end
end L2.M
namespace L2.M
open PySem PySem.Spec PyProof.Rows
theorem ints_all : ∀ ns : List Int, intsOf (ns.map PyData.int) = some ns
  | [] => rfl
  | d :: ds => by
    simp only [List.map_cons, intsOf, ints_all ds, Option.map_some]
inductive Sk where
  | l | t
def itX : Sk → Heap → Addr → Addr → Nat → Prop
  | .l => fun h it a i => h.IsListIter it a i
  | .t => fun h it a i => h.IsTupleIter it a i
def newX : Sk → Addr → Obj
  | .l => fun a => { cls := .type "list_iterator", data := .fields #[.ref a, .int 0 0] }
  | .t => fun a => { cls := .type "tuple_iterator", data := .fields #[.ref a, .int 0 0] }
theorem itX.new {k : Sk} {h : Heap} {it a : Addr} (g : h.get? it = some (newX k a)) : itX k h it a 0 := by
  cases k <;> exact ⟨_, g, rfl, rfl⟩
theorem itX.at {k : Sk} {h h' : Heap} {it a : Addr} {i : Nat} (g : itX k h it a i) (e : ∀ o, h.get? it = some o → h'.get? it = some o) : itX k h' it a i := by
  cases k
  · exact Heap.IsListIter.at g e
  · exact Heap.IsTupleIter.at g e
theorem two {P : Addr → Prop} {a b : Addr} (ha : P a) (hb : P b) : ∀ x ∈ [a, b], P x := by
  simp only [List.forall_mem_cons]
  exact ⟨ha, hb, fun x h => (by cases h)⟩
def itemsX : D → Option (Sk × List D)
  | .list ds => some (.l, ds)
  | .tuple ds => some (.t, ds)
  | _ => none
def zipX : List D → Option (List D)
  | [d, e] => do
    let (_, ds) ← itemsX d
    let (_, es) ← itemsX e
    some (List.zipWith (fun a b => .tuple [a, b]) ds es)
  | _ => none
def enumX : List D → Option (List D)
  | [d] => (itemsX d).map fun p => enumFrom 0 p.2
  | _ => none
end L2.M
namespace L2.M
open PySem PySem.Spec PyProof.Rows
abbrev Lk := List (Int ⊕ List Nat)
def dItems (sh : Nat → Bool) : Nat → List D → Option Lk
  | _, [] => some []
  | i, .int n :: r => if sh i = true then none else (dItems sh (i + 1) r).map (Sum.inl n :: ·)
  | i, .str x :: r => if sh i = true then (dItems sh (i + 1) r).map (Sum.inr x.cps.toList :: ·) else none
  | _, _ :: _ => none
def dKey (sh : Nat → Bool) : D → Option Lk
  | .tuple (d :: ds) => dItems sh 0 (d :: ds)
  | _ => none
/-- at which places the first one has texts -/
def shp : List D → Nat → Bool
  | .tuple es :: _ => fun i => match es[i]? with
    | some (.str _) => true
    | _ => false
  | _ => fun _ => false
def kLe (a b : Lk) : Bool := !lexLt itemOrd b a
def tle (sh : Nat → Bool) (d e : D) : Bool := kLe ((dKey sh d).getD []) ((dKey sh e).getD [])
def tsort (ds : List D) : List D := ds.mergeSort (tle (shp ds))
def tups (ds : List D) : Bool := ds.all fun d => (dKey (shp ds) d).isSome
def sortX : List D → Option C
  | [.list ds] => match intsOf ds with
    | some ns => some (.ls ((isort ns).map PyData.int))
    | none => if tups ds then some (.ls (tsort ds)) else none
  | _ => none
theorem sortX_ints (ns : List Int) : sortX [.list (ns.map PyData.int)] = some (.ls ((isort ns).map PyData.int)) := by
  have : ∀ ns : List Int, intsOf (ns.map PyData.int) = some ns := fun ns => by
    induction ns with
    | nil => rfl
    | cons n ns ih => simp [intsOf, ih]
  simp only [sortX, this]
end L2.M
namespace L2.M
open PySem PySem.Spec PyProof.Rows
def mM (f : List D → Option C) (kind : D → Bool) (mo : OM) (ma : AM) : EM := fun ε => do
  let (o, ε1) ← mo ε
  let d0 ← bor ε1 o
  if kind d0 then
    let (os, ε2) ← ma ε1
    let ds ← bors ε2 (o :: os)
    let c ← f ds
    some (c, ε2)
  else none
def isL : D → Bool
  | .list _ => true
  | _ => false
def isS : D → Bool
  | .str _ => true
  | _ => false
def FnM (K : PySem.W.Frag) (f : List D → Option C) (r : V → List V → Hp → VK → Prop) : Prop :=
  ∀ F H x xs ds c Q, Same F H → RepBs K F H (x :: xs) ds → f ds = some c → (∀ v F' H', Grow K F H F' H' v c → Q v H') → r x xs H Q
theorem tyV_L {K : PySem.W.Frag} {F H : Hp} {x : V} {d : D} (s : Same F H) (h : RepB K F H x d) (k : isL d = true) : tyV K "list" x H := by
  cases d with
  | list ds =>
    obtain ⟨a, vs, rfl, g1, _⟩ := rb_lst s h
    exact .inl ⟨rfl, vs, g1⟩
  | _ => cases k
theorem tE_m {K : Ek} {T : String} {f : List D → Option C} {r : V → List V → Hp → VK → Prop} {kind : D → Bool} (hf : FnM K.1 f r) (hk : ∀ (F H : Hp) (x : V) (d : D), Same F H → RepB K.1 F H x d → kind d = true → tyV K.1 T x H) {mo : OM} {ma : AM} {σ : St} {H : Hp} {Q : VK}
    (h : tE K (mM f kind mo ma) σ H Q) : tBM K.1 T r (tO K mo) (tA K ma) σ H Q := by
  obtain ⟨F, R, ε, c, ε', ok, e, q⟩ := h
  unfold mM at e
  cases e1 : mo ε with
  | none => simp [e1] at e
  | some p =>
    obtain ⟨o, ε1⟩ := p
    cases e2 : bor ε1 o with
    | none => simp [e1, e2] at e
    | some d0 =>
      cases e3 : kind d0 with
      | false => simp [e1, e2, e3] at e
      | true =>
        cases e4 : ma ε1 with
        | none => simp [e1, e2, e3, e4] at e
        | some p2 =>
          obtain ⟨os, ε2⟩ := p2
          cases e5 : bors ε2 (o :: os) with
          | none => simp [e1, e2, e3, e4, e5] at e
          | some ds =>
            cases e6 : f ds with
            | none => simp [e1, e2, e3, e4, e5, e6] at e
            | some c' =>
              simp [e1, e2, e3, e4, e5, e6] at e
              obtain ⟨rfl, rfl⟩ := e
              refine ⟨F, R, ε, o, ε1, ok, e1, fun v F1 H1 fm1 v1 s1 => ?_⟩
              have b1 : bors ε1 [o] = some [d0] := by simp [bors, e2]
              have hx := (bors_ok (T := []) (by simpa using s1) v1 b1).inj1
              obtain ⟨R1, s1', bk⟩ := s1.hides
              refine ⟨hk F1 H1 v d0 s1.sub hx e3, F1, R1, ε1, os, ε2, s1', e4, fun vs F2 H2 fm2 v2 s2 => ?_⟩
              have s3 := bk F2 H2 σ ε2 _ fm2 s2
              have v3 : OpV σ (v :: vs) (o :: os) := by
                cases v1 with
                | pl h _ => exact .pl h v2
                | tm _ => exact .tm v2
              have s4 : Sep K F2 R H2 σ ε2 (tmO (o :: os) (v :: vs) ++ []) := by
                rw [List.append_nil]
                cases o with
                | pl i => exact s3
                | tm c => exact s3
              refine hf F2 H2 v vs ds c' Q s4.sub (bors_ok s4 v3 e5) e6 fun w F3 H3 g => ?_
              exact q w F3 H3 ((fm1.trans fm2).trans g.fm) ((s4.drops _).res g)
def indexD : List D → Option C
  | [.list ds, d] => if SeqAt.shaped (.list ds) && SeqAt.shaped d then (ds.findIdx? fun z => PyData.eqv z d).map fun j => .sh (.int (j : Nat)) else none
  | _ => none
section
variable {X : Cx}
theorem index_ok (hu : X.A.units + 65 < cLine) : ∃ r, MtR X "list.index" r ∧ FnM X.K indexD r := by
  refine ⟨_, mt_indexD hu, fun F H x xs ds c Q s hr he q => ?_⟩
  match ds, he, hr with
  | [.list ds, d], he, hr =>
    simp only [indexD] at he
    split at he
    · rename_i hs
      simp only [Bool.and_eq_true] at hs
      obtain ⟨j, hj, rfl⟩ := Option.map_eq_some_iff.mp he
      obtain ⟨y, w, e, h1, h2⟩ := hr.two
      cases e
      obtain ⟨hjl, g1, g2⟩ := List.findIdx?_eq_some_iff_getElem.mp hj
      have dl := rb_dp s h1 (SeqAt.canLay_of_shaped hs.1)
      obtain ⟨a, vs, rfl, _, _⟩ := rb_lst s h1
      refine ⟨a, w, d, ds, j, ds[j], rfl, rfl, dl, rb_dp s h2 (SeqAt.canLay_of_shaped hs.2), hs.1, hs.2, List.getElem?_eq_getElem hjl, g1, fun m z' hm hz => ?_, g_int s q⟩
      obtain ⟨hml, rfl⟩ := List.getElem?_eq_some_iff.mp hz
      have := g2 m hm
      simpa using this
    · cases he
variable {o e : Expr} {es : List Expr} {mo : OM} {mr : AM} {apos cpos : Pos} {k : Nat}
end
end L2.M
namespace L2.M
open PySem PySem.Spec PyProof.Rows
theorem ObP.set {K : Ek} {H : Hp} {a : Addr} {vs : List V} {k : Nat} {v : V} (hv : vs[k]? = some v) : ∀ {kd : Kd}, ObP K H a vs kd → ObP K H a (vs.set k v) kd := fun {kd} h => by rw [set_same hv]; exact h
def PlV (K : Ek) (H : Hp) (σ : St) (ε : Cs) (i k : Nat) (v : V) : Prop := ∃ a kd cs vs, σ[i]? = some (some (.ref a)) ∧ ε[i]? = some (.ob kd cs) ∧ ObP K H a vs kd ∧ vs[k]? = some v ∧ vs.length = cs.length
section
variable {K : Ek} {F R H : Hp} {σ : St} {ε : Cs} {T : Tms} {i k : Nat} {v : V} {c : C} {kd : Kd} {cs : List C}
theorem ObP.inj {a : Addr} {vs us : List V} : ∀ {kd : Kd}, ObP K H a vs kd → ObP K H a us kd → vs = us
  | .dn _, h, _ => h.elim
  | .tp, h, _ => h.elim
  | .ls, h, g => by
    have h : H a = _ := h
    have g : H a = _ := g
    rw [h] at g
    cases g
    rfl
  | .ins x fs, ⟨dx, h1, h2, _⟩, ⟨dy, g1, g2, _⟩ => by
    rw [h1] at g1
    injection g1 with g1
    injection g1 with _ _ g1
    have := congrArg (List.map (·.2)) g1
    rwa [List.map_snd_zip (by omega), List.map_snd_zip (by omega)] at this
/-- the place's value, by the cells -/
theorem Sep.plv (s : Sep K F R H σ ε T) (h : ε[i]? = some (.ob kd cs)) (hk : k < cs.length) (hp : kd.pl) : ∃ a vs v, σ[i]? = some (some (.ref a)) ∧ ObP K H a vs kd ∧ vs.length = cs.length ∧ vs[k]? = some v ∧ PlV K H σ ε i k v := by
  obtain ⟨o, f, e1, a, vs, fs, rfl, e2, h1, h2⟩ := s.cell h
  have l := h2.len
  rw [List.length_map] at l
  have hv : vs[k]? = some (vs[k]'(by omega)) := List.getElem?_eq_getElem (by omega)
  have h1 := h1.p hp
  exact ⟨a, vs, _, e1, h1, l.1, hv, a, kd, cs, vs, e1, h, h1, hv, l.1⟩
/-- a part is taken out -/
theorem Sep.focus (s : Sep K F R H σ ε T) (h : ε[i]? = some (.ob kd cs)) (hc : cs[k]? = some c) (p : PlV K H σ ε i k v) : Sep K F R H σ (ε.set i (.ob kd (cs.set k .no))) ((v, c) :: T) := by
  obtain ⟨a, kd', cs', vs, p1, p2, p3, p4, p5⟩ := p
  rw [h] at p2
  cases p2
  have s1 := s.take h p1
  obtain ⟨a1, a2, a3, ⟨fs, gs, h1, ⟨o, r, f, fr, e1, e2, ⟨b, us, gg, g1, g2, g3, g4⟩, h3⟩, n, m⟩⟩ := s1
  obtain ⟨rfl, rfl⟩ := List.cons.inj e1
  cases g1
  have := (g3.p p3.pl).inj p3
  subst this
  subst e2
  have hl := g4.len
  obtain ⟨o', f', k1, k2, k3⟩ := g4.get hc
  rw [List.getElem?_map, p4] at k1
  cases k1
  have g4' : RpCs K F H (us.map some) (cs.set k .no) (gg.set k []) := by
    have := RpCs.set (K := K) (F := F) (H := H) (o := some v) (c := .no) (f := []) rfl k g4
    rwa [set_same (by rw [List.getElem?_map, p4]; rfl)] at this
  rw [List.flatten_cons, List.nodup_append, List.nodup_append] at n
  obtain ⟨n1, ⟨n2, n4, n5⟩, n3⟩ := n
  rw [g2, List.nodup_cons] at n2
  have sl : ∀ b, b ∈ (gg.set k []).flatten → b ∈ gg.flatten ∧ b ∉ f' := fun b hb => by
    rcases flat_set hb with hb | ⟨j, g, hj, hg, hb⟩
    · cases hb
    · exact ⟨flat_get hg hb, fun z => hj (nodup_apart n2.2 hg k2 hb z)⟩
  have s2 : Sep K F R H σ (ε.set i .no) ((.ref a, .ob kd (cs.set k .no)) :: (v, c) :: T) := by
    refine ⟨a1, a2, a3, fs, (a :: (gg.set k []).flatten) :: f' :: fr, h1, ⟨_, _, _, _, rfl, rfl, ⟨a, us, _, rfl, rfl, g3, g4'⟩, _, _, _, _, rfl, rfl, k3, h3⟩, ?_, fun b hb => m b ?_⟩
    · simp only [List.flatten_cons]
      rw [List.nodup_append, List.nodup_append, List.nodup_append]
      refine ⟨n1, ⟨List.nodup_cons.mpr ⟨fun z => n2.1 (sl a z).1, nodup_set (by simp) n2.2 fun _ _ _ _ b hb => by cases hb⟩, ⟨nodup_get n2.2 k2, n4, fun x hx y hy => n5 x (by rw [g2]; exact List.mem_cons_of_mem _ (flat_get k2 hx)) y hy⟩, fun x hx y hy z => ?_⟩, fun x hx y hy => n3 x hx y ?_⟩
      · subst z
        rcases List.mem_append.mp hy with hy | hy
        · rcases List.mem_cons.mp hx with rfl | hx
          · exact n2.1 (flat_get k2 hy)
          · exact (sl x hx).2 hy
        · refine n5 x ?_ x hy rfl
          rw [g2]
          rcases List.mem_cons.mp hx with rfl | hx
          · exact List.mem_cons_self
          · exact List.mem_cons_of_mem _ (sl x hx).1
      · simp only [List.mem_append, g2, List.mem_cons] at hy ⊢
        rcases hy with (hy | hy) | hy | hy
        · exact .inl (.inl hy)
        · exact .inl (.inr (sl y hy).1)
        · exact .inl (.inr (flat_get k2 hy))
        · exact .inr hy
    · simp only [List.flatten_cons, List.mem_append, g2, List.mem_cons] at hb ⊢
      rcases hb with hb | (hb | hb) | hb | hb
      · exact .inl hb
      · exact .inr (.inl (.inl hb))
      · exact .inr (.inl (.inr (sl b hb).1))
      · exact .inr (.inl (.inr (flat_get k2 hb)))
      · exact .inr (.inr hb)
  have s3 := s2.put p1
  rw [List.set_set] at s3
  exact s3
/-- a part is put to its place: what stood there of its own is forgotten -/
theorem Sep.unfocus (s : Sep K F R H σ ε ((v, c) :: T)) (h : ε[i]? = some (.ob kd cs)) (p : PlV K H σ ε i k v) : Sep K F R H σ (ε.set i (.ob kd (cs.set k c))) T := by
  obtain ⟨a, kd', cs', vs, p1, p2, p3, p4, p5⟩ := p
  rw [h] at p2
  cases p2
  have s1 := s.take h p1
  have s2 : Sep K F R H σ (ε.set i .no) ((.ref a, .ob kd (cs.set k c)) :: T) := by
    refine Sep.change (T1 := [(.ref a, .ob kd cs), (v, c)]) s1 fun gs q n _ => ?_
    obtain ⟨o, r, f, fr, e1, e2, ⟨b, us, gg, g1, g2, g3, g4⟩, o', r', f', fr', e1', e2', q2, q3, q4⟩ := q
    obtain ⟨rfl, rfl⟩ := List.cons.inj e1
    obtain ⟨rfl, rfl⟩ := List.cons.inj e1'
    cases g1
    have := (g3.p p3.pl).inj p3
    subst this
    subst e2' e2 q4
    have g4' := RpCs.set q2 k g4
    rw [set_same (by rw [List.getElem?_map, p4]; rfl)] at g4'
    have e : ([f, f'] : List (List Addr)).flatten = (a :: gg.flatten) ++ f' := by simp [g2]
    rw [e] at n ⊢
    rw [List.nodup_append, List.nodup_cons] at n
    obtain ⟨⟨n1, n2⟩, n3, n4⟩ := n
    refine ⟨a :: (gg.set k f').flatten, ⟨a, us, _, rfl, rfl, g3, g4'⟩, List.nodup_cons.mpr ⟨fun z => ?_, nodup_set n3 n2 fun j g hj hg b hb hb2 => n4 b (List.mem_cons_of_mem _ (flat_get hg hb2)) b hb rfl⟩, fun b hb => ?_, fun b u _ e => e⟩
    · rcases flat_set z with z | ⟨j, g, _, hg, z⟩
      · exact n4 a List.mem_cons_self a z rfl
      · exact n1 (flat_get hg z)
    · left
      rcases List.mem_cons.mp hb with rfl | hb
      · simp
      · rcases flat_set hb with hb | ⟨j, g, _, hg, hb⟩
        · exact List.mem_append_right _ hb
        · exact List.mem_append_left _ (List.mem_cons_of_mem _ (flat_get hg hb))
  have s3 := s2.put p1
  rw [List.set_set] at s3
  exact s3
theorem PlV.hole (p : PlV K H σ ε i k v) (h : ε[i]? = some (.ob kd cs)) (c : C) : PlV K H σ (ε.set i (.ob kd (cs.set k c))) i k v := by
  obtain ⟨a, kd', cs', vs, p1, p2, p3, p4, p5⟩ := p
  rw [h] at p2
  cases p2
  exact ⟨a, kd, _, vs, p1, List.getElem?_set_self (List.getElem?_eq_some_iff.mp h).1, p3, p4, by simpa using p5⟩
theorem PlV.heap {H' : Hp} (p : PlV K H σ ε i k v) (h : ∀ a, σ[i]? = some (some (.ref a)) → H' a = H a) : PlV K H' σ ε i k v := by
  obtain ⟨a, kd, cs, vs, p1, p2, p3, p4, p5⟩ := p
  exact ⟨a, kd, cs, vs, p1, p2, ObP.frame (h a p1) p3, p4, p5⟩
/-- a slot's whole thing waits aside, and nothing of it is changed -/
theorem Sep.hideX (s : Sep K F R H σ ε T) (h : ε[i]? = some c) (hn : c ≠ .no) : ∃ w f R1, σ[i]? = some (some w) ∧ RpC K F H (some w) c f ∧ Sep K F R1 H σ (ε.set i .no) T ∧
    ∀ F' H' ε' T', Same F F' → Sep K F' R1 H' σ ε' T' → Sep K F' R H' σ (ε'.set i c) T' ∧ (∀ b ∈ f, H' b = H b) := by
  obtain ⟨w, hw⟩ := s.val h hn
  have s1 := s.take h hw
  obtain ⟨a1, a2, a3, ⟨fs, gs, h1, ⟨o, r, f, fr, e1, e2, h2, h3⟩, n, m⟩⟩ := id s1
  obtain ⟨rfl, rfl⟩ := List.cons.inj e1
  have lv := RpC.live h2
  -- as hide, and the heap at f told
  let R1 : Hp := fun b => if b ∈ f then H b else R b
  have i1 : ∀ {b}, b ∈ f → R1 b = H b := fun {b} hb => if_pos hb
  have i2 : ∀ {b}, b ∉ f → R1 b = R b := fun {b} hb => if_neg hb
  subst e2
  have fin : ∀ b, b ∈ f → F b = none ∧ R b = none := fun b hb => m b (by simp [hb])
  have sR : Same R R1 := fun b u e => by
    rw [i2 fun z => by rw [(fin b z).2] at e; cases e]; exact e
  rw [List.flatten_cons, List.nodup_append, List.nodup_append] at n
  obtain ⟨n1, ⟨n2, n4, n5⟩, n3⟩ := n
  refine ⟨w, f, R1, hw, h2, ⟨a1, fun b u e => ?_, fun b hb => ?_, fs, fr, h1, h3, ?_, fun b hb => ?_⟩, fun F' H' ε' T' fm s' => ?_⟩
  · by_cases q : b ∈ f
    · rw [i1 q] at e; exact e
    · rw [i2 q] at e; exact a2 b u e
  · rw [i2 fun z => hb (fin b z).1]; exact a3 b hb
  · rw [List.nodup_append]
    exact ⟨n1, n4, fun a ha b hb => n3 a ha b (List.mem_append_right _ hb)⟩
  · have q : b ∉ f := fun z => by
      rcases List.mem_append.mp hb with hb | hb
      · exact n3 b hb b (List.mem_append_left _ z) rfl
      · exact n5 b z b hb rfl
    rw [i2 q]
    refine m b ?_
    simp only [List.flatten_cons, List.mem_append] at hb ⊢
    rcases hb with hb | hb
    · exact .inl hb
    · exact .inr (.inr hb)
  · obtain ⟨b1, b2, b3, ⟨fs', gs', k1, k2, n', m'⟩⟩ := s'
    have live' : ∀ b, b ∈ f → R1 b ≠ none := fun b hb => by rw [i1 hb]; exact lv b hb
    have heq : ∀ b ∈ f, H' b = H b := fun b hb => by
      cases q : H b with
      | none => exact absurd q (lv b hb)
      | some u => exact b2 b u ((i1 hb).trans q)
    have fF : ∀ b ∈ f, F' b = none := fun b hb => by
      by_cases q : F' b = none
      · exact q
      · exact absurd (b3 b q) (live' b hb)
    have nf : ∀ b, b ∈ fs'.flatten ++ gs'.flatten → b ∉ f := fun b hb z => live' b z (m' b hb).2
    refine ⟨Sep.put (v := w) ⟨b1, fun b u e => b2 b u (sR b u e), fun b hb => ?_, fs', f :: gs', k1, ⟨_, _, _, _, rfl, rfl, RpC.frame fm heq h2, k2⟩, ?_, fun b hb => ?_⟩ hw, heq⟩
    · have z := b3 b hb
      cases q : R b with
      | none => rfl
      | some u => rw [sR b u q] at z; cases z
    · rw [List.flatten_cons]
      rw [List.nodup_append] at n' ⊢
      rw [List.nodup_append]
      refine ⟨n'.1, ⟨n2, n'.2.1, fun a ha b hb z => nf b (List.mem_append_right _ hb) (z ▸ ha)⟩, fun a ha b hb z => ?_⟩
      rcases List.mem_append.mp hb with hb | hb
      · exact nf a (List.mem_append_left _ ha) (z ▸ hb)
      · exact n'.2.2 a ha b hb z
    · simp only [List.flatten_cons, List.mem_append] at hb
      rcases hb with hb | hb | hb
      · obtain ⟨z1, z2⟩ := m' b (List.mem_append_left _ hb)
        rw [i2 (nf b (List.mem_append_left _ hb))] at z2
        exact ⟨z1, z2⟩
      · exact ⟨fF b hb, (fin b hb).2⟩
      · obtain ⟨z1, z2⟩ := m' b (List.mem_append_right _ hb)
        rw [i2 (nf b (List.mem_append_right _ hb))] at z2
        exact ⟨z1, z2⟩
end
end L2.M
namespace L2.M
open PySem PySem.Spec PyProof.Rows
abbrev PlM := Cs → Option ((Nat × Nat) × Cs)
def tPl (K : Ek) (m : PlM) : TE := fun σ H Q => ∃ F R ε i k ε', Sep K F R H σ ε [] ∧ m ε = some ((i, k), ε') ∧ ∀ v F' H', Same F F' → Sep K F' R H' σ ε' [] → PlV K H' σ ε' i k v → Q v H'
/-- x.f -/
def mPlF (i k : Nat) (x f : Str) : PlM := fun ε => match ε[i]? with
  | some (.ob (.ins y fs) cs) => if y = x ∧ fs[k]? = some f ∧ k < cs.length then some ((i, k), ε) else none
  | _ => none
/-- x[e] -/
def mPlI (i : Nat) (ix : OM) : PlM := fun ε => match ε[i]? with
  | some (.ob .ls _) => do
    let (o, ε1) ← ix ε
    let d ← bor ε1 o
    match d, ε1[i]? with
      | .int z, some (.ob .ls cs) => do
        let j ← ixN cs.length z
        some ((i, j), ε1)
      | _, _ => none
  | _ => none
theorem lookup_zip {fs : List Str} {vs : List V} {k : Nat} {f : Str} {v : V} (n : fs.Nodup) (hf : fs[k]? = some f) (hv : vs[k]? = some v) : (fs.zip vs).lookup f = some v := by
  induction fs generalizing vs k with
  | nil => simp at hf
  | cons g fs ih =>
    cases vs with
    | nil => simp at hv
    | cons u vs =>
      rw [List.nodup_cons] at n
      cases k with
      | zero =>
        simp at hf hv
        subst hf hv
        simp [List.lookup]
      | succ k =>
        have hf : fs[k]? = some f := by simpa using hf
        have hv : vs[k]? = some v := by simpa using hv
        have ne : (f == g) = false := by
          rw [beq_eq_false_iff_ne]
          rintro rfl
          exact n.1 (List.mem_of_getElem? hf)
        rw [List.zip_cons_cons, List.lookup_cons, ne]
        exact ih n.2 hf hv
theorem lookup_none {fs : List Str} {vs : List V} {f : Str} (h : f ∉ fs) : (fs.zip vs).lookup f = none := by
  induction fs generalizing vs with
  | nil => rfl
  | cons g fs ih =>
    cases vs with
    | nil => rfl
    | cons u vs =>
      have ne : (f == g) = false := by
        rw [beq_eq_false_iff_ne]
        rintro rfl
        exact h List.mem_cons_self
      rw [List.zip_cons_cons, List.lookup_cons, ne]
      exact ih fun z => h (List.mem_cons_of_mem _ z)
section
variable {X : Cx} {pos : Pos}
theorem mp_fld {i k : Nat} {x f y : Str} {p : Pos} (c : Cls X.K (He.ga X.K x)) (n : NoAttr X.K (He.ga X.K x) f) (hv : PE X (.Name y p) (tVar i)) (hb : attributeBase (.Name y p) f X.env (eval (.Name y p) X.env) = eval (.Name y p) X.env) :
    PE X (.Attribute (.Name y p) f pos) (tPl X.E (mPlF i k x f)) := (pe_fld hv hb).weak fun σ H Q h => by
  obtain ⟨F, R, ε, i', k', ε', s, e, q⟩ := h
  unfold mPlF at e
  split at e
  · rename_i z fs cs hx
    split at e
    · rename_i hc
      cases e
      obtain ⟨rfl, hf, hk⟩ := hc
      obtain ⟨a, vs, v, h1, ⟨dx, h2, h3, h4⟩, h5, h6, h7⟩ := s.plv hx hk trivial
      exact ⟨_, h1, a, _, dx, _, v, rfl, h2, c, n, lookup_zip h4 hf h6, q v F H (Same.refl F) s h7⟩
    · cases e
  · cases e
theorem mp_item {i : Nat} {ix : OM} {y : Str} {b : Expr} {p : Pos} (hv : PE X (.Name y p) (tVar i)) (hb : PE X b (tO X.E ix)) (hs : PlainIx b) : PE X (.Subscript (.Name y p) b pos) (tPl X.E (mPlI i ix)) := (pe_ix ix_list hv hb hs).weak fun σ H Q h => by
  obtain ⟨F, R, ε, i', k', ε', s, e, q⟩ := h
  unfold mPlI at e
  split at e
  · rename_i cs0 hx0
    cases e1 : ix ε with
    | none => simp [e1] at e
    | some p =>
      obtain ⟨o, ε1⟩ := p
      cases e2 : bor ε1 o with
      | none => simp [e1, e2] at e
      | some d =>
        simp only [e1, e2, Option.bind_eq_bind, Option.bind_some] at e
        split at e
        · rename_i z cs hx
          cases e3 : ixN cs.length z with
          | none => simp [e3] at e
          | some j =>
            simp [e3] at e
            obtain ⟨⟨rfl, rfl⟩, rfl⟩ := e
            obtain ⟨w, hw⟩ := s.val hx0 fun z => nomatch z
            refine ⟨w, hw, F, R, ε, o, ε1, s, e1, fun y F1 H1 fm v1 s1 => ?_⟩
            rw [← List.append_nil (tmO [o] [y])] at s1
            have rb := (bors_ok s1 v1 (by simp [bors, e2] : bors ε1 [o] = some [PyData.int z])).inj1
            have s2 := s1.drops _
            obtain ⟨a, vs, v, h1, h2, h5, h6, h7⟩ := s2.plv hx (ixN_seq e3).2.1 trivial
            rw [hw] at h1
            cases h1
            exact ⟨a, vs, z, v, rfl, rb_int rb, .inl (.inl h2), by unfold atI; rw [h5, e3]; exact h6, q v F1 H1 fm s2 h7⟩
        · cases e
  · cases e
end
section
variable {K : Ek} {F R H : Hp} {σ : St} {ε : Cs} {T : Tms} {i k : Nat} {v : V} {c : C} {kd : Kd} {cs : List C} {d : D}
theorem Sep.viewP (s : Sep K F R H σ ε T) (h : ε[i]? = some (.ob kd cs)) (hc : cs[k]? = some c) (hd : cD c = some d) (p : PlV K H σ ε i k v) : RepB K.1 F H v d := by
  have s1 := s.focus h hc p
  cases c with
  | sh d' => cases hd; exact .inl s1.repT
  | ls ds =>
    cases hd
    obtain ⟨a, vs, rfl, g1, g2, g3⟩ := s1.hdL
    exact .inr ⟨a, vs, ds, rfl, rfl, g1, g3⟩
  | no => cases hd
  | dc _ _ => cases hd
  | ob _ _ => cases hd
  | px _ _ _ _ => cases hd
  | fn _ => cases hd
  | fd _ => cases hd
  | fk _ => cases hd
  | fz _ => cases hd
end
/-- the value there: an own list is frozen -/
def mRd (m : PlM) : EM := fun ε => do
  let ((i, k), ε1) ← m ε
  match ε1[i]? with
  | some (.ob kd cs) => match cs[k]? with
    | some (.sh d) => some (.sh d, ε1)
    | some (.ls ds) => some (.sh (.list ds), ε1.set i (.ob kd (cs.set k (.sh (.list ds)))))
    | _ => none
  | _ => none
/-- an operation of one, on what stands there -/
def mPU (f : List D → Option C) (m : PlM) : EM := fun ε => do
  let ((i, k), ε1) ← m ε
  match ε1[i]? with
  | some (.ob _ cs) => do
    let c0 ← cs[k]?
    let d ← cD c0
    let c ← f [d]
    some (c, ε1)
  | _ => none
/-- an operation of two, the first one there -/
def mPB (f : D → D → Option C) (m : PlM) (b : OM) : EM := fun ε => do
  let ((i, k), ε1) ← m ε
  match ε1[i]? with
  | some (.ob kd cs) => do
    let c0 ← cs[k]?
    let d ← cD c0
    let (o, ε2) ← b (ε1.set i .no)
    let e ← bor ε2 o
    let c ← f d e
    some (c, ε2.set i (.ob kd cs))
  | _ => none
section
variable {K : Ek} {σ : St} {H : Hp}
theorem tE_rd {m : PlM} {Q : VK} (h : tE K (mRd m) σ H Q) : tPl K m σ H Q := by
  obtain ⟨F, R, ε, c, ε', s, e, q⟩ := h
  unfold mRd at e
  cases e1 : m ε with
  | none => simp [e1] at e
  | some p =>
    obtain ⟨⟨i, k⟩, ε1⟩ := p
    simp only [e1, Option.bind_eq_bind, Option.bind_some] at e
    refine ⟨F, R, ε, i, k, ε1, s, e1, fun v F1 H1 fm s1 p => ?_⟩
    split at e
    · rename_i kd cs hx
      split at e
      · rename_i d hd
        cases e
        exact q v F1 H1 fm (s1.addSh (s1.focus hx hd p).repT)
      · rename_i ds hd
        cases e
        obtain ⟨F2, fm2, r, s2⟩ := (s1.focus hx hd p).freeze (d := .list ds) rfl
        have hi := (List.getElem?_eq_some_iff.mp hx).1
        have s3 := (s2.addSh r).unfocus (List.getElem?_set_self hi) (p.hole hx .no)
        rw [List.set_set, List.set_set] at s3
        exact q v F2 H1 (fm.trans fm2) (s3.addSh r)
      · cases e
    · cases e
theorem tE_pb {f : D → D → Option C} {r : R2} (hf : Fn2 K.1 f r) {m : PlM} {b : OM} {Q : VK} (h : tE K (mPB f m b) σ H Q) : tOp r (tPl K m) (tO K b) σ H Q := by
  obtain ⟨F, R, ε, c, ε', s, e, q⟩ := h
  unfold mPB at e
  cases e1 : m ε with
  | none => simp [e1] at e
  | some p =>
    obtain ⟨⟨i, k⟩, ε1⟩ := p
    simp only [e1, Option.bind_eq_bind, Option.bind_some] at e
    refine ⟨F, R, ε, i, k, ε1, s, e1, fun v F1 H1 fm s1 p => ?_⟩
    split at e
    · rename_i kd cs hx
      cases e2 : cs[k]? with
      | none => simp [e2] at e
      | some c0 =>
        cases e3 : cD c0 with
        | none => simp [e2, e3] at e
        | some d =>
          cases e4 : b (ε1.set i .no) with
          | none => simp [e2, e3, e4] at e
          | some p4 =>
            obtain ⟨o, ε2⟩ := p4
            cases e5 : bor ε2 o with
            | none => simp [e2, e3, e4, e5] at e
            | some d2 =>
              cases e6 : f d d2 with
              | none => simp [e2, e3, e4, e5, e6] at e
              | some c' =>
                simp [e2, e3, e4, e5, e6] at e
                obtain ⟨rfl, rfl⟩ := e
                obtain ⟨w, ff, R1, hw, rp, s2, bk⟩ := s1.hideX hx fun z => nomatch z
                refine ⟨F1, R1, _, o, ε2, s2, e4, fun y F2 H2 fm2 v2 s3 => ?_⟩
                have rb := (bors_ok (T := []) (by simpa using s3) v2 (by simp [bors, e5] : bors ε2 [o] = some [d2])).inj1
                obtain ⟨s4, eqh⟩ := bk F2 H2 ε2 _ fm2 s3
                have hi : i < ε2.length := by
                  have h1 := s1.len
                  have h2 := s3.len
                  have h3 := (List.getElem?_eq_some_iff.mp hx).1
                  omega
                obtain ⟨a, kd', cs', vs, p1, p2, p3, p4, p5⟩ := p
                rw [hx] at p2
                cases p2
                rw [hw] at p1
                cases p1
                obtain ⟨a', us, gg, g1, g2, _⟩ := rp
                cases g1
                have ea : H2 a = H1 a := eqh a (by rw [g2]; exact List.mem_cons_self)
                have pl : PlV K H2 σ (ε2.set i (.ob kd cs)) i k v := ⟨a, kd, cs, vs, hw, List.getElem?_set_self hi, ObP.frame ea p3, p4, p5⟩
                refine hf F2 H2 v y d d2 c' Q s4.sub (s4.viewP (List.getElem?_set_self hi) e2 e3 pl) rb e6 fun w F3 H3 g => ?_
                exact q w F3 H3 ((fm.trans fm2).trans g.fm) ((Sep.drops (T := []) (tmO [o] [y]) (by simpa using s4)).res g)
    · cases e
end
section
variable {X : Cx} {a b e : Expr} {m : PlM} {mb : OM} {pos p : Pos}
theorem x_rd (h : PE X e (tPl X.E m)) : PE X e (tE X.E (mRd m)) := h.weak fun _ _ _ => tE_rd
theorem x_pix (ha : PE X a (tPl X.E m)) (hb : PE X b (tO X.E mb)) (hs : PlainIx b := by exact fun _ _ => rfl) : PE X (.Subscript a b pos) (tE X.E (mPB ixD m mb)) :=
  let ⟨_, h1, h2⟩ := ix_ok
  (pe_ix h1 ha hb hs).weak fun _ _ _ => tE_pb h2
theorem x_fld (i k : Nat) {x f y : Str} {p : Pos} (c : Cls X.K (He.ga X.K x)) (n : NoAttr X.K (He.ga X.K x) f) (hv : PE X (.Name y p) (tVar i)) (hb : attributeBase (.Name y p) f X.env (eval (.Name y p) X.env) = eval (.Name y p) X.env := by rfl) :
    PE X (.Attribute (.Name y p) f pos) (tPl X.E (mPlF i k x f)) := mp_fld c n hv hb
theorem x_item (i : Nat) {ix : OM} {y : Str} {b : Expr} {p : Pos} (hv : PE X (.Name y p) (tVar i)) (hb : PE X b (tO X.E ix)) (hs : PlainIx b := by exact fun _ _ => rfl) : PE X (.Subscript (.Name y p) b pos) (tPl X.E (mPlI i ix)) := mp_item hv hb hs
end
end L2.M
namespace L2.M
open PySem PySem.Spec PyProof.Rows
section
variable {K : Ek} {F R H H' : Hp} {σ : St} {ε : Cs} {T : Tms} {i k : Nat} {y : V} {c : C} {kd kd' : Kd} {cs : List C}
/-- a part stored (or a new one behind the others), the object itself rewritten -/
theorem Sep.part (s : Sep K F R H σ ε ((y, c) :: T)) (h : ε[i]? = some (.ob kd cs)) : ∃ a vs, σ[i]? = some (some (.ref a)) ∧ ObAt K F H a vs kd ∧ vs.length = cs.length ∧ ∀ o us ds, (∀ gg f, RpCs K F H (vs.map some) cs gg → RpC K F H (some y) c f → (gg.flatten ++ f).Nodup → ∃ g2, RpCs K F H (us.map some) ds g2 ∧ g2.flatten.Nodup ∧ ∀ b ∈ g2.flatten, b ∈ gg.flatten ++ f) →
    ObAt K F (upd H a o) a us kd' → Sep K F R (upd H a o) σ (ε.set i (.ob kd' ds)) T := by
  obtain ⟨o0, f0, e1, h0⟩ := s.cell h
  obtain ⟨w, hw⟩ := s.val h fun z => nomatch z
  have s1 := s.take h hw
  obtain ⟨gs, q, n, nf, close⟩ := Sep.opens (T1 := [(w, .ob kd cs), (y, c)]) s1
  obtain ⟨o', r, f, fr, q1, q2, ⟨a, vs, gg, g1, g2, g3, g4⟩, o2, r2, f2, fr2, q3, q4, g5, g6, g7⟩ := q
  obtain ⟨rfl, rfl⟩ := List.cons.inj q1
  obtain ⟨rfl, rfl⟩ := List.cons.inj q3
  cases g1
  have l := g4.len
  rw [List.length_map] at l
  subst q4 q2 g7
  have e : ([f, f2] : List (List Addr)).flatten = a :: (gg.flatten ++ f2) := by simp [g2]
  rw [e] at n close
  rw [List.nodup_cons] at n
  refine ⟨a, vs, hw, g3, l.1, fun o us ds k1 k2 => ?_⟩
  obtain ⟨g8, m1, m2, m3⟩ := k1 gg f2 g4 g5 n.2
  have na : ∀ b ∈ g8.flatten, b ≠ a := fun b hb z => n.1 (by rw [← z]; exact m3 b hb)
  have s2 : Sep K F R (upd H a o) σ (ε.set i .no) ((.ref a, .ob kd' ds) :: T) := by
    refine close _ _ _ (a :: g8.flatten) ⟨a, us, g8, rfl, rfl, k2, RpCs.frame (Same.refl F) (fun b hb => upd_ne (na b hb)) m1⟩ (List.nodup_cons.mpr ⟨fun z => na a z rfl, m2⟩) (fun b hb => ?_) (fun b u hb e => ?_)
    · left
      rcases List.mem_cons.mp hb with rfl | hb
      · exact List.mem_cons_self
      · exact List.mem_cons_of_mem _ (m3 b hb)
    · rw [upd_ne]
      · exact e
      · rintro rfl
        exact hb List.mem_cons_self
  have s3 := s2.put hw
  rw [List.set_set] at s3
  exact s3
theorem part_set {vs : List V} {gg : List (List Addr)} {f : List Addr} {k : Nat} (g : RpCs K F H (vs.map some) cs gg) (r : RpC K F H (some y) c f) (n : (gg.flatten ++ f).Nodup) : ∃ g2, RpCs K F H ((vs.set k y).map some) (cs.set k c) g2 ∧ g2.flatten.Nodup ∧ ∀ b ∈ g2.flatten, b ∈ gg.flatten ++ f := by
  rw [List.nodup_append] at n
  refine ⟨gg.set k f, by rw [List.map_set]; exact RpCs.set r k g, nodup_set n.2.1 n.1 fun j x hj hx b hb hb2 => n.2.2 b (flat_get hx hb2) b hb rfl, fun b hb => ?_⟩
  rcases flat_set hb with hb | ⟨j, x, _, hx, hb⟩
  · exact List.mem_append_right _ hb
  · exact List.mem_append_left _ (flat_get hx hb)
theorem part_add {vs : List V} {gg : List (List Addr)} {f : List Addr} (g : RpCs K F H (vs.map some) cs gg) (r : RpC K F H (some y) c f) (n : (gg.flatten ++ f).Nodup) : ∃ g2, RpCs K F H ((vs ++ [y]).map some) (cs ++ [c]) g2 ∧ g2.flatten.Nodup ∧ ∀ b ∈ g2.flatten, b ∈ gg.flatten ++ f := by
  have e : (gg ++ [f]).flatten = gg.flatten ++ f := by simp
  refine ⟨gg ++ [f], by rw [List.map_append]; exact g.append ⟨_, _, _, _, rfl, rfl, r, rfl, rfl⟩, by rw [e]; exact n, fun b hb => by rw [e] at hb; exact hb⟩
end
theorem putF_zip {f : Str} {y : V} : ∀ {fs : List Str} {vs : List V} {k : Nat}, fs.Nodup → fs.length = vs.length → fs[k]? = some f → putF f y (fs.zip vs) = fs.zip (vs.set k y)
  | [], vs, k, _, _, h => by simp at h
  | g :: fs, [], k, _, l, _ => by cases l
  | g :: fs, u :: vs, 0, n, l, h => by
    simp at h
    subst h
    simp [putF]
  | g :: fs, u :: vs, k + 1, n, l, h => by
    rw [List.nodup_cons] at n
    have h : fs[k]? = some f := by simpa using h
    have ne : ¬ g = f := fun z => n.1 (z ▸ List.mem_of_getElem? h)
    show (if g = f then (g, y) :: fs.zip vs else (g, u) :: putF f y (fs.zip vs)) = _
    rw [if_neg ne, putF_zip n.2 (by simpa using l) h]
    rfl
theorem putF_new {f : Str} {y : V} : ∀ {fs : List Str} {vs : List V}, fs.length = vs.length → f ∉ fs → putF f y (fs.zip vs) = (fs ++ [f]).zip (vs ++ [y])
  | [], [], _, _ => rfl
  | [], u :: vs, l, _ => by cases l
  | g :: fs, [], l, _ => by cases l
  | g :: fs, u :: vs, l, h => by
    have ne : ¬ g = f := fun z => h (z ▸ List.mem_cons_self)
    show (if g = f then (g, y) :: fs.zip vs else (g, u) :: putF f y (fs.zip vs)) = _
    rw [if_neg ne, putF_new (by simpa using l) fun z => h (List.mem_cons_of_mem _ z)]
    rfl
/-- x.f = e -/
def mFSet (i k : Nat) (x f : Str) (m : EM) : XM := fun ε => do
  let (c, ε1) ← m ε
  match ε1[i]? with
  | some (.ob (.ins y fs) cs) =>
    if y = x ∧ fs[k]? = some f ∧ k < cs.length ∧ cs.length < 1000 then some (.nx, ε1.set i (.ob (.ins y fs) (cs.set k c)))
    else none
  | _ => none
/-- .. for the first time -/
def mFNew (i : Nat) (x f : Str) (m : EM) : XM := fun ε => do
  let (c, ε1) ← m ε
  match ε1[i]? with
  | some (.ob (.ins y fs) cs) =>
    if y = x ∧ f ∉ fs ∧ cs.length < 1000 then some (.nx, ε1.set i (.ob (.ins y (fs ++ [f])) (cs ++ [c])))
    else none
  | _ => none
section
variable {X : Cx} {W : Xw} {io : List Nat} {pos : Pos} {e : Expr} {m : EM}
theorem z_fset (i k : Nat) {x f y : Str} {p p2 : Pos} (hc : Cls X.K (He.ga X.K x)) (hn : NoAttr X.K (He.ga X.K x) f) (hv : PE X (.Name y p) (tVar i)) (he : PE X e (tE X.E m)) (hs : swapsWith e (some (.Attribute (.Name y p) f p2)) pos.line X.env = pure false := by rfl) :
    PS X (.Assign [.Attribute (.Name y p) f p2] e pos) (tS X.E W io (mFSet i k x f m)) := (ps_fld hv he hs).weak fun De σ H h => by
  obtain ⟨F, R, ε, fl, ε', s, e, q⟩ := h
  unfold mFSet at e
  cases e1 : m ε with
  | none => simp [e1] at e
  | some p =>
    obtain ⟨c, ε1⟩ := p
    simp only [e1, Option.bind_eq_bind, Option.bind_some] at e
    split at e
    · rename_i z fs cs hx
      split at e
      · rename_i hq
        cases e
        obtain ⟨rfl, hf, hk, hl⟩ := hq
        refine ⟨F, R, ε, c, ε1, s, e1, fun v F1 H1 fm s1 => ?_⟩
        obtain ⟨a, vs, h1, ⟨dx, h2, h3, h4⟩, h5, k1⟩ := s1.part (kd' := .ins z fs) hx
        refine ⟨_, h1, a, _, dx, _, rfl, h2, hc, hn, by rw [List.length_zip]; omega, ?_⟩
        rw [putF_zip h4 h3 hf]
        exact q F1 _ σ fm (StS.refl σ) (k1 _ (vs.set k v) (cs.set k c) (fun gg f g r n => part_set g r n) ⟨dx, upd_same, by simpa using h3, h4⟩)
      · cases e
    · cases e
theorem z_fnew (i : Nat) {x f y : Str} {p p2 : Pos} (hc : Cls X.K (He.ga X.K x)) (hn : NoAttr X.K (He.ga X.K x) f) (hv : PE X (.Name y p) (tVar i)) (he : PE X e (tE X.E m)) (hs : swapsWith e (some (.Attribute (.Name y p) f p2)) pos.line X.env = pure false := by rfl) :
    PS X (.Assign [.Attribute (.Name y p) f p2] e pos) (tS X.E W io (mFNew i x f m)) := (ps_fld hv he hs).weak fun De σ H h => by
  obtain ⟨F, R, ε, fl, ε', s, e, q⟩ := h
  unfold mFNew at e
  cases e1 : m ε with
  | none => simp [e1] at e
  | some p =>
    obtain ⟨c, ε1⟩ := p
    simp only [e1, Option.bind_eq_bind, Option.bind_some] at e
    split at e
    · rename_i z fs cs hx
      split at e
      · rename_i hq
        cases e
        obtain ⟨rfl, hf, hl⟩ := hq
        refine ⟨F, R, ε, c, ε1, s, e1, fun v F1 H1 fm s1 => ?_⟩
        obtain ⟨a, vs, h1, ⟨dx, h2, h3, h4⟩, h5, k1⟩ := s1.part (kd' := .ins z (fs ++ [f])) hx
        refine ⟨_, h1, a, _, dx, _, rfl, h2, hc, hn, by rw [List.length_zip]; omega, ?_⟩
        rw [putF_new h3 hf]
        refine q F1 _ σ fm (StS.refl σ) (k1 _ (vs ++ [v]) (cs ++ [c]) (fun gg f g r n => part_add g r n) ⟨dx, upd_same, by simpa using h3, ?_⟩)
        rw [List.nodup_append]
        exact ⟨h4, by simp, fun a ha b hb z => hf (by rw [← List.mem_singleton.mp hb, ← z]; exact ha)⟩
      · cases e
    · cases e
end
/-- x[ix] = e, x a list of own things -/
def mNSet (i : Nat) (m : EM) (ix : OM) : XM := fun ε => do
  let (c, ε1) ← m ε
  match ε1[i]? with
  | some (.ob .ls _) => do
    let (p, ε2) ← ix ε1
    let k ← bor ε2 p
    match k, ε2[i]? with
      | .int k, some (.ob .ls cs) => do
        let j ← ixN cs.length k
        some (.nx, ε2.set i (.ob .ls (cs.set j c)))
      | _, _ => none
  | _ => none
/-- p.append(e) -/
def mPApp (m : PlM) (e : EM) : XM := fun ε => do
  let ((i, k), ε1) ← m ε
  match ε1[i]? with
  | some (.ob kd cs) => match cs[k]? with
    | some (.ls ds) => do
      let (c, ε2) ← e (ε1.set i .no)
      let d ← cD c
      if ds.length < sizeLine then some (.nx, ε2.set i (.ob kd (cs.set k (.ls (ds ++ [d]))))) else none
    | _ => none
  | _ => none
/-- p[ix] = e -/
def mPSetIx (m : PlM) (e : EM) (ix : OM) : XM := fun ε => do
  let (c, ε0) ← e ε
  let d ← cD c
  let ((i, k), ε1) ← m ε0
  match ε1[i]? with
  | some (.ob kd cs) => match cs[k]? with
    | some (.ls ds) => do
      let (o, ε2) ← ix (ε1.set i .no)
      let z ← bor ε2 o
      match z with
        | .int z => do
          let j ← ixN ds.length z
          some (.nx, ε2.set i (.ob kd (cs.set k (.ls (ds.set j d)))))
        | _ => none
    | _ => none
  | _ => none
/-- p.pop() -/
def mPPop (m : PlM) : EM := fun ε => do
  let ((i, k), ε1) ← m ε
  match ε1[i]? with
  | some (.ob kd cs) => match cs[k]? with
    | some (.ls ds) => do
      let d ← ds.getLast?
      some (.sh d, ε1.set i (.ob kd (cs.set k (.ls ds.dropLast))))
    | _ => none
  | _ => none
end L2.M
namespace L2.M
open PySem PySem.Spec PyProof.Rows
def cellO (ε : Cs) : Opd → Option C
  | .pl i => ε[i]?
  | .tm c => some c
/-- an object of the class x that has no attribute m of its own -/
def isIns (x m : Str) : Option C → Bool
  | some (.ob (.ins y fs) _) => decide (y = x ∧ m ∉ fs)
  | _ => false
def mMeth (x m : Str) (io : List Bool) (g : GM) (mo : OM) (ma : AM) : EM := fun ε => do
  let (o, ε1) ← mo ε
  if isIns x m (cellO ε1 o) = true then do
    let (os, ε2) ← ma ε1
    let (os2, ε3) ← frz io (o :: os) ε2
    let (cs, ε4) ← lend os2 ε3
    let (c, cs') ← g cs
    some (c, wb os2 cs' ε4)
  else none
def mNew (x : Str) (io : List Bool) (g : GM) (ma : AM) : EM := fun ε => do
  let (os, ε1) ← ma ε
  let (os2, ε2) ← frz io os ε1
  let (cs, ε3) ← lend os2 ε2
  match g (.ob (.ins x []) [] :: cs) with
  | some (.sh .none, c :: cs') => some (c, wb os2 cs' ε3)
  | _ => none
theorem isIns_eq {x m : Str} {c : Option C} (h : isIns x m c = true) : ∃ fs cs, c = some (.ob (.ins x fs) cs) ∧ m ∉ fs := by
  unfold isIns at h
  split at h
  · obtain ⟨rfl, h2⟩ := of_decide_eq_true h
    exact ⟨_, _, rfl, h2⟩
  · cases h
theorem tE_meth {K : Ek} {np : Nat} {g : GM} {x m : Str} {io : List Bool} {mo : OM} {ma : AM} {σ : St} {H : Hp} {Q : VK} (hio : io.length = np) (h : tE K (mMeth x m io g mo ma) σ H Q) : tMeth (He.ga K.1 x) m (spOf K np g) [] E0 (tO K mo) (tA K ma) σ H Q := by
  obtain ⟨F, R, ε, c, ε', ok, e, q⟩ := h
  unfold mMeth at e
  cases e0 : mo ε with
  | none => simp [e0] at e
  | some p0 =>
    obtain ⟨o, ε1⟩ := p0
    simp only [e0, Option.bind_eq_bind, Option.bind_some] at e
    split at e
    · rename_i hi
      obtain ⟨fs, cs0, hc, hm⟩ := isIns_eq hi
      cases e1 : ma ε1 with
      | none => simp [e1] at e
      | some p =>
        obtain ⟨os, ε2⟩ := p
        cases e2 : frz io (o :: os) ε2 with
        | none => simp [e1, e2] at e
        | some p2 =>
          obtain ⟨os2, ε3⟩ := p2
          cases e3 : lend os2 ε3 with
          | none => simp [e1, e2, e3] at e
          | some p3 =>
            obtain ⟨cs, ε4⟩ := p3
            cases e4 : g cs with
            | none => simp [e1, e2, e3, e4] at e
            | some p4 =>
              obtain ⟨c', cs'⟩ := p4
              simp [e1, e2, e3, e4] at e
              obtain ⟨rfl, rfl⟩ := e
              refine ⟨F, R, ε, o, ε1, ok, e0, fun v F0 H0 fm0 v0 s0 => ?_⟩
              have ins : ∃ a dx as, v = .ref a ∧ H0 a = some (.ins (He.ga K.1 x) dx as) ∧ as.lookup m = none := by
                cases v0 with
                | @pl i _ _ _ hv _ =>
                  obtain ⟨o', f, k1, a, vs, gg, rfl, _, ⟨dx, k2, k3, _⟩, _⟩ := s0.cell hc
                  rw [hv] at k1
                  cases k1
                  exact ⟨a, dx, _, rfl, k2, lookup_none hm⟩
                | @tm c0 _ _ _ _ =>
                  cases hc
                  obtain ⟨f, ⟨a, vs, gg, k1, _, ⟨dx, k2, k3, _⟩, _⟩, _⟩ := s0.headT
                  cases k1
                  exact ⟨a, dx, _, rfl, k2, lookup_none hm⟩
              obtain ⟨a, dx, as, rfl, ha, hl⟩ := ins
              refine ⟨a, dx, as, rfl, ha, hl, ?_⟩
              obtain ⟨R1, s0', bk⟩ := s0.hides
              refine ⟨F0, R1, ε1, os, ε2, s0', e1, fun vs F1 H1 fm1 v1 s1 => ?_⟩
              have s1' := bk F1 H1 σ ε2 _ fm1 s1
              have v1' : OpV σ (.ref a :: vs) (o :: os) := by
                cases v0 with
                | pl h _ => exact .pl h v1
                | tm _ => exact .tm v1
              have s2 : Sep K F1 R H1 σ ε2 (tmO (o :: os) (.ref a :: vs) ++ []) := by
                rw [List.append_nil]
                cases o with
                | pl i => exact s1'
                | tm c => exact s1'
              obtain ⟨F2, fm2, s3, v2, l2⟩ := frz_ok s2 v1' e2
              obtain ⟨s4, l3⟩ := lend_ok s3 v2 e3
              rw [List.append_nil] at s4
              obtain ⟨R2, s5, back⟩ := call_sep s4 v2 l3
              refine ⟨by rw [List.append_nil, v2.len, l2]; exact hio, F2, R2, cs, c', cs', by rw [List.append_nil]; exact s5, e4, fun w F' H' fm p => ?_⟩
              rw [List.append_nil] at p
              exact q w F' H' (((fm0.trans fm1).trans fm2).trans fm) (back F' H' cs' _ fm p)
    · cases e
theorem tE_new {K : Ek} {np : Nat} {g : GM} {x : Str} {io : List Bool} {ma : AM} {σ : St} {H : Hp} {Q : VK} (hio : io.length + 1 = np) (h : tE K (mNew x io g ma) σ H Q) : tMake (He.ga K.1 x) (spOf K np g) [] E0 (tA K ma) σ H Q := by
  obtain ⟨F, R, ε, c, ε', ok, e, q⟩ := h
  unfold mNew at e
  cases e1 : ma ε with
  | none => simp [e1] at e
  | some p =>
    obtain ⟨os, ε1⟩ := p
    cases e2 : frz io os ε1 with
    | none => simp [e1, e2] at e
    | some p2 =>
      obtain ⟨os2, ε2⟩ := p2
      cases e3 : lend os2 ε2 with
      | none => simp [e1, e2, e3] at e
      | some p3 =>
        obtain ⟨cs, ε3⟩ := p3
        simp only [e1, e2, e3, Option.bind_eq_bind, Option.bind_some] at e
        split at e
        · rename_i c' cs' e4
          cases e
          refine ⟨F, R, ε, os, ε1, ok, e1, fun vs F1 H1 fm1 v1 s1 xx dx hx hdx ne => ?_⟩
          rw [← List.append_nil (tmO os vs)] at s1
          obtain ⟨F2, fm2, s2, v2, l2⟩ := frz_ok s1 v1 e2
          obtain ⟨s3, l3⟩ := lend_ok s2 v2 e3
          rw [List.append_nil] at s3
          have lv := v2.len
          have s4 : Sep K F2 R (upd (upd H1 dx (.own xx)) xx (.ins (He.ga K.1 x) dx [])) σ ε3 ((.ref xx, .ob (.ins x []) []) :: vs.zip cs) :=
            Sep.change (T1 := []) s3 fun gs h n _ => ⟨[xx], ⟨xx, [], [], rfl, rfl, ⟨dx, upd_same, rfl, List.nodup_nil⟩, rfl, rfl⟩, by simp, fun b hb => .inr (by rw [List.mem_singleton.mp hb]; exact hx), fun b u _ e => by rw [upd_ne (ne_of_none e hx), upd_ne (ne_of_none e hdx)]; exact e⟩
          have s5 : Sep K F2 R (upd (upd H1 dx (.own xx)) xx (.ins (He.ga K.1 x) dx [])) σ ε3 ((V.ref xx :: vs).zip (C.ob (.ins x []) [] :: cs)) := s4
          obtain ⟨R1, s6, back⟩ := s5.enter
          rw [zip_fsts (by simp; omega), zip_snd (by simp; omega)] at s6
          refine ⟨by simp [l2, lv, hio], F2, R1, _, _, _, by rw [List.append_nil]; exact s6, e4, fun w F' H' fm p => ?_⟩
          rw [List.append_nil] at p
          have lc : (c :: cs').length = (V.ref xx :: vs).length := by have := p.len; simp at this ⊢; omega
          have b := back F' H' (c :: cs') _ fm (by rw [zip_fsts (by simp; omega)]; exact p)
          rw [zip_fst (by simp; omega)] at b
          have hw : w = .non := by
            have r := p.repT
            simpa only [Rep] using r
          refine ⟨hw, q _ F' H' ((fm1.trans fm2).trans fm) ?_⟩
          have b : Sep K F' R H' σ ε3 ((V.ref xx, c) :: (vs.zip cs' ++ [(w, C.sh .none)])) := b
          obtain ⟨R2, _, b2, bk⟩ := b.hide
          exact bk F' H' σ _ [] (Same.refl F') ((wb_ok b2 v2 (by simp at lc; omega)).drop)
        · cases e
structure KnM (P : Program) (w : World) (K : PySem.W.Frag) (mg : Str → Option Value) (base : Heap) (k : Nat) (x m : Str) (ps : List Str) (sp : Sp) : Prop where
  ex : ∃ (f : Addr) (fd : FuncData), Cls K (He.ga K x) ∧ Meth K (He.ga K x) m f ∧ Binds K fd ps [] ∧ FnG P w K mg base CX0 k f fd ps sp
/-- a class whose __init__ does -/
structure KnI (P : Program) (w : World) (K : PySem.W.Frag) (mg : Str → Option Value) (base : Heap) (k : Nat) (x : Str) (ps : List Str) (sp : Sp) : Prop where
  ex : ∃ (f : Addr) (fd : FuncData), mg x = some (.ref (He.ga K x)) ∧ Mk K (He.ga K x) f ∧ Binds K fd ps [] ∧ FnG P w K mg base CX0 k f fd ps sp
section
variable {fa : List He.Fa} {fn : List He.DefD} {K : PySem.W.Frag} {mg : Str → Option Value} {P : Program} {w : World} {base : Heap}
theorem Wo.cls (W : Wo fa fn K mg) (i : Nat) {x : Str} (h : fa[i]? = some (.cls x) := by rfl) : Cls K (He.ga K x) := let ⟨_, _, _, c⟩ := W; He.cls_ok (c.fact i h)
theorem Wo.noat (W : Wo fa fn K mg) (i : Nat) {x f : Str} (h : fa[i]? = some (.noat x f) := by rfl) : NoAttr K (He.ga K x) f := let ⟨_, _, _, c⟩ := W; He.noat_ok (c.fact i h)
theorem Wo.meth (W : Wo fa fn K mg) (i : Nat) {x m : Str} (h : fa[i]? = some (.meth x m) := by rfl) : Meth K (He.ga K x) m (He.ma K (He.ga K x) m) := let ⟨_, _, _, c⟩ := W; He.meth_ok (c.fact i h)
theorem Wo.mkr (W : Wo fa fn K mg) (i : Nat) {x : Str} (h : fa[i]? = some (.mkr x) := by rfl) : Mk K (He.ga K x) (He.ma K (He.ga K x) "__init__") := let ⟨_, _, _, c⟩ := W; He.mkr_ok (c.fact i h)
theorem Wo.glo (W : Wo fa fn K mg) (i : Nat) {x : Str} (h : fa[i]? = some (.glo x) := by rfl) : mg x = some (.ref (He.ga K x)) := let ⟨_, X, G, c⟩ := W; He.glo_ok X G (c.fact i h)
theorem fnG_mk (W : Wo fa fn K mg) (i : Nat) {N ps : List Str} {d : He.DefD} {k : Nat} {io : List Bool} {m : XM} (hd : fn[i]? = some d) (pl : Plain d ps) (S : FnScope N ps d.scope)
    (hb : ∀ (f : Addr) (cdv : Value) (A : Around) (outer : List Env) (s : Shared) (H : Hp) (E : XK), Rm k (cxN P w K mg base N d f cdv A outer s H E).A → PSs (cxN P w K mg base N d f cdv A outer s H E) d.body (tS (K, w) W0 (ios io) m)) :
    ∃ fd, Binds K fd ps [] ∧ FnG P w K mg base CX0 (k + 1) (He.fAd K d.at_) fd ps (spOf (K, w) ps.length (semF io N.length m)) := by
  obtain ⟨h, X, G, c⟩ := W
  obtain ⟨fd, F⟩ := c.def_ i hd
  have eD : d.dvs K = [] := by unfold He.DefD.dvs; rw [pl.1]; rfl
  rw [eD] at F
  exact ⟨fd, F.bindsN pl.2.2, defG F S hb⟩
theorem knm_mk (W : Wo fa fn K mg) (i j l : Nat) {N ps : List Str} {d : He.DefD} {k : Nat} {io : List Bool} {m : XM} {x y : Str} (hd : fn[i]? = some d) (hx : d.at_ = (x, some y)) (hc : fa[j]? = some (.cls x)) (hm : fa[l]? = some (.meth x y)) (pl : Plain d ps) (S : FnScope N ps d.scope)
    (hb : ∀ (f : Addr) (cdv : Value) (A : Around) (outer : List Env) (s : Shared) (H : Hp) (E : XK), Rm k (cxN P w K mg base N d f cdv A outer s H E).A → PSs (cxN P w K mg base N d f cdv A outer s H E) d.body (tS (K, w) W0 (ios io) m)) :
    KnM P w K mg base (k + 1) x y ps (spOf (K, w) ps.length (semF io N.length m)) := by
  obtain ⟨fd, F⟩ := fnG_mk W i hd pl S hb
  have e : He.fAd K d.at_ = He.ma K (He.ga K x) y := by rw [hx]; rfl
  rw [e] at F
  exact ⟨⟨_, fd, W.cls j hc, W.meth l hm, F⟩⟩
theorem kni_mk (W : Wo fa fn K mg) (i j l : Nat) {N ps : List Str} {d : He.DefD} {k : Nat} {io : List Bool} {m : XM} {x : Str} (hd : fn[i]? = some d) (hx : d.at_ = (x, some ("__init__" : Str))) (hg : fa[j]? = some (.glo x)) (hm : fa[l]? = some (.mkr x)) (pl : Plain d ps) (S : FnScope N ps d.scope)
    (hb : ∀ (f : Addr) (cdv : Value) (A : Around) (outer : List Env) (s : Shared) (H : Hp) (E : XK), Rm k (cxN P w K mg base N d f cdv A outer s H E).A → PSs (cxN P w K mg base N d f cdv A outer s H E) d.body (tS (K, w) W0 (ios io) m)) :
    KnI P w K mg base (k + 1) x ps (spOf (K, w) ps.length (semF io N.length m)) := by
  obtain ⟨fd, F⟩ := fnG_mk W i hd pl S hb
  have e : He.fAd K d.at_ = He.ma K (He.ga K x) "__init__" := by rw [hx]; rfl
  rw [e] at F
  exact ⟨⟨_, fd, W.glo j hg, W.mkr l hm, F⟩⟩
end
section
variable {X : Cx}
theorem Rm.make {k : Nat} {A : Around} (r : Rm (k + 1) A) (C : Addr) (us : List Value) (kw : List (Str × Value)) : Rm k (A.under (.builtin "type.__call__" ⟨.ref C :: us, kw⟩)) :=
  ⟨r.toRoom.make C us kw, by first | exact r.gd | simpa [Around.under, Code.weight, Code.isCreation, Code.isGuard, Code.isCaller, Code.frames, Code.isFrame, guardIds] using r.gd⟩
theorem g_meth0 {pl : Sem Bool} {k k' np : Nat} {x m : Str} {ps : List Str} {g : GM} {io : List Bool} {mo : OM} {o : Expr} {apos pos : Pos} (h : KnM X.prog X.w X.K X.mg X.base k x m ps (spOf X.E np g)) (hr : Rm k' X.A) (hk : k ≤ k') (ho : PE X o (tO X.E mo)) (hio : io.length = np := by rfl)
    (ht : eval (.Call (.Attribute o m apos) [] [] pos) X.env = (do
      let ov ← eval o X.env
      standAt apos.atName
      let (f, first) ← holding [ov] (getMethod ov m pl)
      callWith pos f first (backTo pos (starEach [] X.env)) (backToKw pos (keywordEach [] X.env))) := by rfl) :
    PE X (.Call (.Attribute o m apos) [] [] pos) (tE X.E (mMeth x m io g mo mNil)) := by
  obtain ⟨f, fd, hc, hm, hbi, F⟩ := h.ex
  refine ⟨fun pins s σ H Q I q => ?_⟩
  have q2 := tE_meth hio q
  refine PySem.W.methodCall_KW (pl := pl) (thn (ho.run pins s σ H _ I q2) fun u s1 ⟨v, H1, I1, rx, a, dx, fs, ex, ea, l, q3⟩ => ?_) ht
  subst ex
  obtain rfl : u = Value.ref a := rx
  refine getmeth_ok I1 ea hc hm l ?_
  have q4 := tA_nil q3
  have q5 : spOf X.E np g (.ref a :: ([] ++ [])) H1 Q E0 := q4
  rw [List.append_nil] at q5
  exact PySem.W.callWith_K0 (first := [.ref a]) I1.kIn hm.kp (runG (us := [.ref a]) (vs := [.ref a]) (F.mono hk) hr hbi I1 (.cons rfl .nil) q5)
/-- C(..) -/
theorem g_new {k k' np : Nat} {x : Str} {ps : List Str} {g : GM} {io : List Bool} {ma : AM} {e : Expr} {es : List Expr} {p pos : Pos} (h : KnI X.prog X.w X.K X.mg X.base k x ps (spOf X.E np g)) (hr : Rm k' X.A) (hk : k + 1 ≤ k') (hg : Gl X x) (ha : PA X (e :: es) (tA X.E ma)) (hio : io.length + 1 = np := by rfl)
    (hdb : (x == ("__debug__" : Str)) = false := by decide) (he : starEach (e :: es) X.env = (false, eval e X.env) :: starEach es X.env := by rfl) (hpl : (backTo pos (starEach es X.env)).any (·.1) = false := by rfl) : PE X (.Call (.Name x p) (e :: es) [] pos) (tE X.E (mNew x io g ma)) := by
  obtain ⟨f, fd, hm, M, hbi, F⟩ := h.ex
  refine ⟨fun pins s σ H Q I q => ?_⟩
  have q2 := tE_new hio q
  refine wpAny_Call_Name_kw (ld_glob I hg hm ?_ hdb)
  refine PySem.W.callWith_K (h₀ := X.base) I.ok.mod.kin M.kp (thn (ha.run pos pins s σ H _ I q2) fun us s1 ⟨vs, H1, I1, r, q3⟩ => ⟨I1.kIn, ?_⟩) he hpl
  have hq := q3 (s1.heap.objs.size + 1) s1.heap.objs.size (I1.hok.fresh (Nat.le_succ _)) (I1.hok.fresh (Nat.le_refl _)) (Nat.ne_of_lt (Nat.lt_succ_self _))
  rw [List.append_nil] at hq
  have I2 := Inv.made (C := He.ga X.K x) I1
  have r2 : Vals (V.ref (s1.heap.objs.size + 1) :: vs) (Value.ref (s1.heap.objs.size + 1) :: us) := .cons rfl r
  have hl : (Value.ref (s1.heap.objs.size + 1) :: us).length = ps.length := by
    rw [← r2.length]
    exact F.len _ _ _ _ hq
  have bd := hbi _ (Value.ref (s1.heap.objs.size + 1) :: us) I2.kIn (by rw [List.append_nil]; exact hl)
  rw [List.append_nil] at bd
  refine wpAny_call (make_map (f := f) I1.kIn M.makes M.init (beq_iff_eq.mp M.fn) (codeAny_mono (F.run _ X.stack _ _ ⟨Value.ref (s1.heap.objs.size + 1) :: us, []⟩ (Value.ref (s1.heap.objs.size + 1) :: us) _ _ E0 ((hr.mono hk).make _ us [])
    (I2.env0.make _ us []) bd r2 hq) fun r s' hq' => ?_))
  cases r with
  | error e => exact hq'.elim
  | ok fl =>
    cases fl with
    | ret u =>
      obtain ⟨v, H', I3, rv, ev, q3⟩ := I2.after hq'
      subst ev
      exact ⟨rv, ⟨V.ref (s1.heap.objs.size + 1), H', I3, rfl, q3⟩⟩
    | next => exact False.elim hq'
    | brk => exact False.elim hq'
    | cont => exact False.elim hq'
end
end L2.M
namespace L2.M
open PySem PySem.Spec PyProof.Rows
def clsBody (s : Stmt) : List Stmt := match s with
  | .ClassDef _ _ _ b _ _ _ _ _ _ _ => b
  | _ => []
def mAddN (a : OM) (b : EM) : EM := fun ε => do
  let (o, ε1) ← a ε
  let (c, ε2) ← b ε1
  let d ← bor ε2 o
  match d, c with
    | .list ds, .ob .ls cs => if ds.length + cs.length ≤ sizeLine then some (.ob .ls (ds.map .sh ++ cs), ε2) else none
    | _, _ => none
end L2.M
namespace L2.M
open PySem PySem.Spec PyProof.Rows
end L2.M
namespace L2.M
end L2.M
namespace L2.M
open PySem PySem.Spec PyProof.Rows
/-- what the kit asks of an own exception class over ValueError -/
structure XcK (K : PySem.W.Frag) (x : Str) : Prop where
  q : ∃ bmB B newId initId, ExcBaseFacts B newId initId bmB ∧ PySem.W.excIn K (He.ga K x) bmB newId = true
  k : PySem.W.keepIn K (.ref (He.ga K x)) = true
  b : PySem.W.subIn K (.ref (He.ga K x)) (.type "BaseException") = some true
  t : PySem.W.typeIn K (.ref (He.ga K x)) = some (.type "type")
section
variable {X : Cx}
theorem pmk_own0 {x : Str} {C : Addr} {bmB : List Value} {B newId initId : String} {p pos : Pos} (F : ExcBaseFacts B newId initId bmB) (q : PySem.W.excIn X.K C bmB newId = true) (gC : X.mg x = some (.ref C)) (kC : PySem.W.keepIn X.K (.ref C) = true) (r : Raises X (.ref C)) (hg : Gl X x)
    (hdb : (x == ("__debug__" : Str)) = false := by decide) : L2N.PMk X (.Call (.Name x p) [] [] pos) (fun _ H Q => Q (.ref C) none H) := by
  intro pins s σ H Q I h
  refine wpAny_Call_Name_kw (ld_glob I hg gC ?_ hdb)
  refine PySem.W.callWith_K0 I.kIn kC ?_
  obtain ⟨bm, N, nm, qn, bs, hdct, sn, sub, ab, col, dd, k0, k1, k2, k3, k5, mN, hC, hN, hni, T⟩ := exc_obj I.kIn q
  refine wpAny_call_exc_subT F T hC hN hni (fun h' e hm => ?_) (by show 0 ≤ sizeLine; rw [sizeLine_eq]; omega)
  exact L2N.mk_of I hm r h (I.hok.gone hm.new)
def mRaise (x : Str) : XM := fun ε => some (.xc ⟨x, []⟩, ε)
theorem z_raise0 {W : Xw} {io : List Nat} {x : Str} {p p2 pos : Pos} (hc : X.calm = true) (tk : L2N.Takes X W) (c : XcK X.K x) (gC : X.mg x = some (.ref (He.ga X.K x))) (hg : Gl X x) (hdb : (x == ("__debug__" : Str)) = false := by decide) :
    PS X (.Raise (some (.Call (.Name x p) [] [] p2)) none pos) (tS X.E W io (mRaise x)) := by
  obtain ⟨bmB, B, newId, initId, F, q⟩ := c.q
  refine (L2N.ps_raise hc tk (pmk_own0 F q gC c.k (raises_own c.b c.t) hg hdb)).weak fun De σ H h => ?_
  obtain ⟨F0, R, ε, f, ε', s, e, z⟩ := h
  cases e
  exact z F0 H σ (Same.refl F0) (StS.refl ..) _ _ s ⟨rfl, .inl ⟨rfl, rfl⟩⟩
end
abbrev GX := List C → Option ((C ⊕ Xn) × List C)
abbrev EXM := Cs → Option ((C ⊕ Xn) × Cs)
def semX (io : List Bool) (ns : Nat) (m : XM) : GX := fun cs =>
  if shared io cs then
    match m (cs ++ List.replicate (ns - cs.length) .no) with
    | some (.rt c, ε') => some (.inl c, after io cs ε')
    | some (.nx, ε') => some (.inl (.sh .none), after io cs ε')
    | some (.xc x, ε') => some (.inr x, after io cs ε')
    | _ => none
  else none
/-- what comes of an expression that may raise -/
def FinX (K : Ek) (R : Hp) (σ : St) (Q : VK) (E : XK) (F' H' : Hp) (ε' : Cs) : C ⊕ Xn → Prop
  | .inl c => ∀ v, Sep K F' R H' σ ε' [(v, c)] → Q v H'
  | .inr x => ∀ cls d, Sep K F' R H' σ ε' [] → RepX K F' cls d x → E cls d H'
def spX (K : Ek) (np : Nat) (g : GX) : Sp := fun vs H Q E => vs.length = np ∧ ∃ F R cs r cs', Sep K F R H (vs.map some) cs [] ∧ g cs = some (r, cs') ∧ ∀ F' H', Same F F' → FinX K R (vs.map some) Q E F' H' cs' r
def tEX (K : Ek) (W : Xw) (m : EXM) : TE := fun σ H Q => ∃ F R ε r ε', Sep K F R H σ ε [] ∧ m ε = some (r, ε') ∧ ∀ F' H', Same F F' → FinX K R σ Q (fun cls d H' => W cls d σ H') F' H' ε' r
theorem sem_runX {K : Ek} {np ns : Nat} {io : List Bool} {m : XM} {vs : List V} {H : Hp} {Q : VK} {E : XK} (h : spX K np (semX io ns m) vs H Q E) :
    tS K (fun cls d _ H' => E cls d H') (ios io) m { nx := fun _ H' => Q .non H', rt := Q } (vs.map some ++ List.replicate (ns - vs.length) none) H := by
  obtain ⟨hl, F, R, cs, r, cs', s, e, q⟩ := h
  have lc : cs.length = vs.length := by rw [← s.len, List.length_map]
  unfold semX at e
  split at e
  · rename_i hs
    rw [lc] at e
    generalize hn : ns - vs.length = n at e ⊢
    have s2 := s.ext n
    split at e
    · rename_i c1 ε' hm
      cases e
      exact ⟨F, R, _, _, ε', s2, hm, fun F' H' σ' fm t v s' => q F' H' fm v (s.leave hs fm t s')⟩
    · rename_i ε' hm
      cases e
      exact ⟨F, R, _, _, ε', s2, hm, fun F' H' σ' fm t s' => q F' H' fm .non ((s.leave hs fm t s').addSh (by simp only [Rep]))⟩
    · rename_i x ε' hm
      cases e
      exact ⟨F, R, _, _, ε', s2, hm, fun F' H' σ' fm t cls d s' rx => q F' H' fm cls d (s.leave hs fm t s') rx⟩
    · cases e
  · cases e
/-- a call of a def that raises -/
def mCallX (io : List Bool) (g : GX) (ma : AM) : EXM := fun ε => do
  let (os, ε1) ← ma ε
  let (os2, ε2) ← frz io os ε1
  let (cs, ε3) ← lend os2 ε2
  let (r, cs') ← g cs
  some (r, wb os2 cs' ε3)
theorem tEX_call {K : Ek} {W : Xw} {np : Nat} {g : GX} {io : List Bool} {ma : AM} {σ : St} {H : Hp} {Q : VK} (hio : io.length = np) (h : tEX K W (mCallX io g ma) σ H Q) : tA K ma σ H fun vs H1 => spX K np g vs H1 Q fun cls d H' => W cls d σ H' := by
  obtain ⟨F, R, ε, r, ε', ok, e, q⟩ := h
  unfold mCallX at e
  cases e1 : ma ε with
  | none => simp [e1] at e
  | some p =>
    obtain ⟨os, ε1⟩ := p
    cases e2 : frz io os ε1 with
    | none => simp [e1, e2] at e
    | some p2 =>
      obtain ⟨os2, ε2⟩ := p2
      cases e3 : lend os2 ε2 with
      | none => simp [e1, e2, e3] at e
      | some p3 =>
        obtain ⟨cs, ε3⟩ := p3
        cases e4 : g cs with
        | none => simp [e1, e2, e3, e4] at e
        | some p4 =>
          obtain ⟨r', cs'⟩ := p4
          simp [e1, e2, e3, e4] at e
          obtain ⟨rfl, rfl⟩ := e
          refine ⟨F, R, ε, os, ε1, ok, e1, fun vs F1 H1 fm1 v1 s1 => ?_⟩
          rw [← List.append_nil (tmO os vs)] at s1
          obtain ⟨F2, fm2, s2, v2, l2⟩ := frz_ok s1 v1 e2
          obtain ⟨s3, l3⟩ := lend_ok s2 v2 e3
          rw [List.append_nil] at s3
          obtain ⟨R1, s4, back⟩ := call_sep s3 v2 l3
          refine ⟨by rw [v2.len, l2]; exact hio, F2, R1, cs, r', cs', s4, e4, fun F' H' fm => ?_⟩
          cases r' with
          | inl c => exact fun v p => q F' H' ((fm1.trans fm2).trans fm) v (back F' H' cs' _ fm p)
          | inr x => exact fun cls d p rx => q F' H' ((fm1.trans fm2).trans fm) cls d (back F' H' cs' _ fm p) rx
section
variable {X : Cx} {W : Xw} {io : List Nat} {pos : Pos} {e : Expr} {m : EXM}
def xRet (m : EXM) : XM := fun ε => do
  let (r, ε1) ← m ε
  match r with
  | .inl c => some (.rt c, ε1)
  | .inr x => some (.xc x, ε1)
def xExpr (m : EXM) : XM := fun ε => do
  let (r, ε1) ← m ε
  match r with
  | .inl _ => some (.nx, ε1)
  | .inr x => some (.xc x, ε1)
def xSet (io : List Nat) (i : Nat) (m : EXM) : XM := fun ε => do
  let (r, ε1) ← m ε
  match r with
  | .inl c => if i < ε1.length ∧ i ∉ io then some (.nx, ε1.set i c) else none
  | .inr x => some (.xc x, ε1)
theorem z_xret (he : PE X e (tEX X.E W m)) : PS X (.Return (some e) pos) (tS X.E W io (xRet m)) := (ps_ret he).weak fun De σ H h => by
  obtain ⟨F, R, ε, f, ε', s, e, q⟩ := h
  unfold xRet at e
  cases e1 : m ε with
  | none => simp [e1] at e
  | some p =>
    obtain ⟨r, ε1⟩ := p
    cases r with
    | inl c =>
      simp [e1] at e
      obtain ⟨rfl, rfl⟩ := e
      exact ⟨F, R, ε, .inl c, ε1, s, e1, fun F' H' fm v s' => q F' H' σ fm (StS.refl ..) v s'⟩
    | inr x =>
      simp [e1] at e
      obtain ⟨rfl, rfl⟩ := e
      exact ⟨F, R, ε, .inr x, ε1, s, e1, fun F' H' fm cls d s' rx => q F' H' σ fm (StS.refl ..) cls d s' rx⟩
theorem z_xexpr (he : PE X e (tEX X.E W m)) (hs : swapsWith e none pos.line X.env = pure false := by rfl) : PS X (.Expr e pos) (tS X.E W io (xExpr m)) := (ps_expr he hs).weak fun De σ H h => by
  obtain ⟨F, R, ε, f, ε', s, e, q⟩ := h
  unfold xExpr at e
  cases e1 : m ε with
  | none => simp [e1] at e
  | some p =>
    obtain ⟨r, ε1⟩ := p
    cases r with
    | inl c =>
      simp [e1] at e
      obtain ⟨rfl, rfl⟩ := e
      exact ⟨F, R, ε, .inl c, ε1, s, e1, fun F' H' fm v s' => q F' H' σ fm (StS.refl ..) s'.drop⟩
    | inr x =>
      simp [e1] at e
      obtain ⟨rfl, rfl⟩ := e
      exact ⟨F, R, ε, .inr x, ε1, s, e1, fun F' H' fm cls d s' rx => q F' H' σ fm (StS.refl ..) cls d s' rx⟩
end
/-- a def that may raise, by its name -/
structure KnX (P : Program) (w : World) (K : PySem.W.Frag) (mg : Str → Option Value) (base : Heap) (k : Nat) (x : Str) (ps : List Str) (sp : Sp) : Prop where
  ex : ∃ (f : Addr) (fd : FuncData), mg x = some (.ref f) ∧ PySem.W.keepIn K (.ref f) = true ∧ Binds K fd ps [] ∧ FnG P w K mg base (L2N.CX P w) k f fd ps sp
abbrev cxX (P : Program) (w : World) (K : PySem.W.Frag) (mg : Str → Option Value) (base : Heap) (N : List Str) (d : He.DefD) (f : Addr) (cdv : Value) (A : Around) (outer : List Env) (s : Shared) (H : Hp) (E : XK) : Cx := cxOf (L2N.CX P w) P w K mg base N d.qual d.scope f cdv A outer s H E
section
variable {fa : List He.Fa} {fn : List He.DefD} {K : PySem.W.Frag} {mg : Str → Option Value} {P : Program} {w : World} {base : Heap}
theorem defX {N ps : List Str} {d : He.DefD} {k : Nat} {io : List Bool} {m : XM} {f : Addr} {fd : FuncData} {dvs : List V} {kws : List (Str × V)} (F : FunD K d.name d.qual d.params d.body d.scope dvs kws f fd) (S : FnScope N ps d.scope)
    (hb : ∀ (f : Addr) (cdv : Value) (A : Around) (outer : List Env) (s : Shared) (H : Hp) (E : XK) (W : Xw), Rm k (cxX P w K mg base N d f cdv A outer s H E).A → L2N.Takes (cxX P w K mg base N d f cdv A outer s H E) W → PSs (cxX P w K mg base N d f cdv A outer s H E) d.body (tS (K, w) W (ios io) m)) :
    FnG P w K mg base (L2N.CX P w) (k + 1) f fd ps (spX (K, w) ps.length (semX io N.length m)) := by
  obtain ⟨oc, od, dV, kV, doc, pm, an, cdv, ct, osl, rfl, l0, c0, _, _⟩ := F.ex
  exact fnG_of l0 c0 S (fun vs H Q E h => h.1) fun A outer s H vs Q E hr h => ⟨tS (K, w) (fun cls d _ H => E cls d H) (ios io) m, hb f cdv A outer s H E _ hr (L2N.takes_of rfl rfl rfl rfl), sem_runX h⟩
theorem knx_mk (W : Wo fa fn K mg) (i j : Nat) {N ps : List Str} {d : He.DefD} {k : Nat} {io : List Bool} {m : XM} {x : Str} (hd : fn[i]? = some d) (hx : d.at_ = (x, none)) (hf : fa[j]? = some (.glo x)) (pl : Plain d ps) (S : FnScope N ps d.scope)
    (hb : ∀ (f : Addr) (cdv : Value) (A : Around) (outer : List Env) (s : Shared) (H : Hp) (E : XK) (W : Xw), Rm k (cxX P w K mg base N d f cdv A outer s H E).A → L2N.Takes (cxX P w K mg base N d f cdv A outer s H E) W → PSs (cxX P w K mg base N d f cdv A outer s H E) d.body (tS (K, w) W (ios io) m)) :
    KnX P w K mg base (k + 1) x ps (spX (K, w) ps.length (semX io N.length m)) := by
  obtain ⟨h, X, G, c⟩ := W
  obtain ⟨fd, F⟩ := c.def_ i hd
  have g := He.glo_ok X G (c.fact j hf)
  have eD : d.dvs K = [] := by unfold He.DefD.dvs; rw [pl.1]; rfl
  have eA : He.fAd K d.at_ = He.ga K x := by rw [hx]; rfl
  rw [eD, eA] at F
  exact ⟨⟨_, fd, g, F.kp, F.bindsN pl.2.2, defX F S hb⟩⟩
theorem runX {X : Cx} {pins : List (Addr × Obj)} {σ : St} {H : Hp} {s : Shared} {Q : VK} {E : XK} {us : List Value} {vs : List V} {k : Nat} {f : Addr} {fd : FuncData} {ps : List Str} {sp : Sp} (F : FnG X.prog X.w X.K X.mg X.base (L2N.CX X.prog X.w) k f fd ps sp) (hr : Rm k X.A) (hb : Binds X.K fd ps []) (hx : PassesAt (L2N.CX X.prog X.w) X σ E) (I : Inv X pins σ H s) (r : Vals vs us) (h : sp vs H Q E) :
    wpAny (model X.prog X.w) X.A (call (.ref f) us) (EP X pins σ Q) X.xe s := by
  have hl : us.length = ps.length := by rw [← r.length]; exact F.len _ _ _ _ h
  have bd := hb s us I.kIn (by rw [List.append_nil]; exact hl)
  rw [List.append_nil] at bd
  refine wpAny_call (codeAny_mono (F.run X.A X.stack s H ⟨us, []⟩ us vs Q E hr I.env0 bd r h) fun res s' hq => ?_)
  cases res with
  | error e => exact hx pins H s e s' I hq
  | ok fl =>
    cases fl with
    | ret u => exact I.after hq
    | next => exact False.elim hq
    | brk => exact False.elim hq
    | cont => exact False.elim hq
/-- a raising def's call -/
theorem x_callX {X : Cx} {W : Xw} {k k' np : Nat} {x : Str} {ps : List Str} {g : GX} {io : List Bool} {ma : AM} {e : Expr} {es : List Expr} {p pos : Pos} (h : KnX X.prog X.w X.K X.mg X.base k x ps (spX X.E np g)) (tk : L2N.Takes X W) (hr : Rm k' X.A) (hk : k ≤ k') (hg : Gl X x) (ha : PA X (e :: es) (tA X.E ma)) (hio : io.length = np := by rfl)
    (hdb : (x == ("__debug__" : Str)) = false := by decide) (he : starEach (e :: es) X.env = (false, eval e X.env) :: starEach es X.env := by rfl) (hpl : (backTo pos (starEach es X.env)).any (·.1) = false := by rfl) : PE X (.Call (.Name x p) (e :: es) [] pos) (tEX X.E W (mCallX io g ma)) := by
  obtain ⟨f, fd, hm, hkp, hbi, F⟩ := h.ex
  refine ⟨fun pins s σ H Q I q => ?_⟩
  have q2 := tEX_call hio q
  refine wpAny_Call_Name_kw (ld_glob I hg hm ?_ hdb)
  refine PySem.W.callWith_K (h₀ := X.base) I.ok.mod.kin hkp (thn (ha.run pos pins s σ H _ I q2) fun us s1 ⟨vs, H1, I1, r, q3⟩ => ⟨I1.kIn, ?_⟩) he hpl
  exact runX (F.mono hk) hr hbi (L2N.passAt tk σ) I1 r q3
end
end L2.M
namespace L2.M
open PySem PySem.Spec PyProof.Rows
theorem Sep.addPx {K : Ek} {F R H : Hp} {σ : St} {ε : Cs} {T : Tms} {a : Addr} {cls : Value} {d : Option Addr} {x : Xn} (s : Sep K F R H σ ε T) (r : RepX K F cls d x) : Sep K F R H σ ε ((.ref a, .px a cls d x) :: T) := by
  obtain ⟨a1, a2, a3, fs, gs, h1, h2, n, m⟩ := s
  exact ⟨a1, a2, a3, fs, [] :: gs, h1, ⟨_, _, _, _, rfl, rfl, ⟨rfl, rfl, r⟩, h2⟩, by simpa using n, by simpa using m⟩
open Classical in
/-- the refusal's answer: slot i is the exception's name -/
noncomputable def mRefX (i : Nat) (a : Addr) (cls : Value) (d : Option Addr) (ref : Xn → Option D) : EM := fun ε => match ε[i]? with
  | some (.px a' cls' d' x) => if a' = a ∧ cls' = cls ∧ d' = d then (ref x).map fun r => (.sh r, ε) else none
  | _ => none
def mTold (io : List Nat) (i : Nat) (ref : Xn → Option D) (m : EXM) : XM := fun ε => do
  let (r, ε1) ← m ε
  match r with
  | .inl c => some (.rt c, ε1)
  | .inr x => match ε1[i]? with
    | some .no => if i ∉ io then (ref x).map fun d => (.rt (.sh d), ε1) else none
    | _ => none
section
variable {X : Cx} {W : Xw} {io : List Nat} {m : EXM} {ref : Xn → Option D}
theorem z_told (i : Nat) {n x : Str} {c : Value} {call rcall : Expr} {rp rp2 np pos pos' : Pos} (hs : X.stack = X.env :: X.outer) (hf : X.env.frame = some X.env.locals) (hN : X.N.Nodup) (hi : X.N[i]? = some n) (hln : X.env.kindOf n = some .local) (hc : Names X x c) (tk : L2N.Takes X W)
    (hcall : ∀ (W : Xw) (pn : List (Addr × Obj)) (xe : Value → Shared → Prop), L2N.Takes (X.tr pn xe) W → PE (X.tr pn xe) call (tEX X.E W m))
    (hk : ∀ (F : Hp) cls d y r, RepX X.E F cls d y → ref y = some r → PySem.W.exmOne X.K cls c = some true)
    (hR : ∀ (a : Addr) (oe : Obj) (cls : Value) (d : Option Addr) (pn : List (Addr × Obj)), L2N.Zn cls d oe → (∃ vs, oe.data = .fields vs) → PE (X.suite a ((a, oe) :: pn)) rcall (tE X.E (mRefX i a cls d ref))) :
    PS X (.Try [.Return (some call) rp] [.ExceptHandler (some (.Name x np)) (some n) [.Return (some rcall) rp2] pos'] [] [] pos) (tS X.E W io (mTold io i ref m)) := by
  refine (L2N.ps_try_as (tb := fun W => tS X.E W io (xRet m)) (ts := fun a cls d => tRet (tE X.E (mRefX i a cls d ref))) hs hf hN hi hln hc tk (fun W pn xe t _ => ?_) (fun a oe cls d pn z hd => ?_)).weak fun De σ H h => ?_
  · exact pss_one (z_xret (hcall W pn xe t))
  · exact pss_one (ps_ret (hR a oe cls d pn z hd))
  · obtain ⟨F, R, ε, f, ε', s, e, q⟩ := h
    unfold mTold at e
    cases e1 : m ε with
    | none => simp [e1] at e
    | some p =>
      obtain ⟨r, ε1⟩ := p
      cases r with
      | inl c =>
        simp [e1] at e
        obtain ⟨rfl, rfl⟩ := e
        exact ⟨F, R, ε, .rt c, ε1, s, by simp [xRet, e1], q⟩
      | inr y =>
        simp only [e1, Option.bind_eq_bind, Option.bind_some] at e
        split at e
        · rename_i hno
          split at e
          · rename_i hio
            cases e2 : ref y with
            | none => simp [e2] at e
            | some d =>
              simp only [e2, Option.map_some, Option.some.injEq, Prod.mk.injEq] at e
              obtain ⟨rfl, rfl⟩ := e
              have hl := (List.getElem?_eq_some_iff.mp hno).1
              refine ⟨F, R, ε, .xc y, ε1, s, by simp [xRet, e1], fun F' H' σ' fm st cls dd s' rx => ⟨true, hk F' cls dd y d rx e2, fun _ a ha => ?_, fun z => nomatch z⟩⟩
              refine ⟨F', R, _, .sh d, ε1.set i (.px a cls dd y), (s'.addPx (a := a) rx).store i, (by simp only [mRefX, List.getElem?_set_self hl]; simp [e2]), fun v F2 H2 fm2 s2 => ?_⟩
              have s3 := s2.dropAt i
              have e5 : ε1.set i .no = ε1 := by
                obtain ⟨_, he⟩ := List.getElem?_eq_some_iff.mp hno
                rw [← he]
                exact List.set_getElem_self hl
              rw [List.set_set, e5] at s3
              exact q F2 H2 _ (fm.trans fm2) (st.trans (StS.set hio)) v s3
          · cases e
        · cases e
end
section
variable {fa : List He.Fa} {fn : List He.DefD} {K : PySem.W.Frag} {mg : Str → Option Value}
theorem Wo.exc (W : Wo fa fn K mg) (i : Nat) {x : Str} (h : fa[i]? = some (.exc x) := by rfl) : XcK K x :=
  let ⟨_, _, _, c⟩ := W
  let ⟨h1, h2, h3, h4⟩ := He.exc_ok (c.fact i h)
  ⟨⟨_, _, _, _, PySem.F.excBase_ValueError, h1⟩, h2, h3, h4⟩
end
end L2.M
namespace L2.M
open PySem PySem.Spec PyProof.Rows
abbrev Ck := PySem.W.Frag → Bool
def frOf (n : Nat) (g : Addr → Option Obj) : PySem.W.Frag := He.frG g (He.asD g n)
def obsXG (n : Nat) (fa : List He.Fa) (fn : List He.DefD) (cs : List Ck) (g : Addr → Option Obj) : Bool × He.AlD := (cs.all fun c => c (frOf n g), He.obsDG n fa fn g)
def hookX (n : Nat) (fa : List He.Fa) (fn : List He.DefD) (cs : List Ck) : PySem.W.Hook where
  α := Bool × He.AlD
  obs := fun s => obsXG n fa fn cs s.heap.get?
  val := fun _ => (true, He.valD fn)
  says := fun _ h => ∃ K : PySem.W.Frag, K.In h ∧ He.SaysD fa fn K ∧ ∀ c ∈ cs, c K = true
  of := fun _ _ e => ⟨_, He.frG_in, congrArg Prod.snd e, List.all_eq_true.mp (congrArg Prod.fst e)⟩
  keeps := fun _ _ _ ⟨K, hK, c, d⟩ k => ⟨K, PySem.W.Frag.In.keeps hK k, c, d⟩
theorem obsXG_eq {n : Nat} {fa : List He.Fa} {fn : List He.DefD} {cs : List Ck} {g : Addr → Option Obj} {s : Shared} (h : ∀ a, g a = s.heap.get? a) : obsXG n fa fn cs g = (hookX n fa fn cs).obs s := by
  have e : g = s.heap.get? := funext h
  rw [e] <;> rfl
def excB (x : Str) : Ck := fun K => decide (PySem.W.findIn K (.ref (He.ga K x)) "__getattribute__" = some (some (.builtin "BaseException.__getattribute__"))) && (decide (PySem.W.findIn K (.ref (He.ga K x)) "__getattr__" = some none) && (decide (PySem.W.subIn K (.ref (He.ga K x)) (.type "BaseException") = some true) &&
  (PySem.W.hasDictIn K (He.ga K x) && (decide (PySem.W.findIn K (.ref (He.ga K x)) "__class__" = some (some (.builtin "object.__class__"))) && (decide (PySem.W.specialIn K (.builtin "object.__class__") "__get__" = some (some (.builtin "getset_descriptor.__get__"))) &&
  (decide (PySem.W.takesIn K (.builtin "object.__class__") = some true) && decide (PySem.W.mroIn K (He.ga K x) (.type "object") = some true)))))))
theorem excB_ok {K : PySem.W.Frag} {x : Str} (h : excB x K = true) : ExcC K (He.ga K x) := by
  obtain ⟨h1, h⟩ := Bool.and_eq_true_iff.mp h
  obtain ⟨h2, h⟩ := Bool.and_eq_true_iff.mp h
  obtain ⟨h3, h⟩ := Bool.and_eq_true_iff.mp h
  obtain ⟨h4, h⟩ := Bool.and_eq_true_iff.mp h
  obtain ⟨h5, h⟩ := Bool.and_eq_true_iff.mp h
  obtain ⟨h6, h⟩ := Bool.and_eq_true_iff.mp h
  obtain ⟨h7, h8⟩ := Bool.and_eq_true_iff.mp h
  exact ⟨of_decide_eq_true h1, of_decide_eq_true h2, of_decide_eq_true h3, h4, of_decide_eq_true h5, of_decide_eq_true h6, of_decide_eq_true h7, of_decide_eq_true h8⟩
/-- isinstance of an x, asked of the class y of the module -/
def kitB (x y : Str) (b : Bool) : Ck := fun K => decide (PySem.W.kitOne K (.ref (He.ga K x)) (.ref (He.ga K y)) = some b)
/-- .. of built-in types -/
def kitTB (x : Str) (ts : List String) (b : Bool) : Ck := fun K => decide (PySem.W.kitAny K (.ref (He.ga K x)) (ts.map Value.type) = some b)
def exmB (x y : Str) (b : Bool) : Ck := fun K => decide (PySem.W.exmOne K (.ref (He.ga K x)) (.ref (He.ga K y)) = some b)
end L2.M
namespace L2.M
open PySem PySem.Spec PyProof.Rows PySem.Calls
open PySem.W (findIn specialIn subIn hasDictIn takesIn mroIn clsIn findObj looks_findIn looks_find looks_subIn any_some class_get KitX kitOne kitAny kia_one kia_tup)
section
variable {K : PySem.W.Frag} {D x : Addr} {ox : Obj} {od : Option Obj}
theorem obj_data {C : Addr} {name : Str} {a g : Value} (hc : (clsIn K C).isSome = true) (ha : findIn K (.ref C) name = some (some a)) (hg : specialIn K a "__get__" = some (some g)) (ht : takesIn K a = some true) : findObj K C od name = some (.bind g a) := by
  obtain ⟨cd, hc⟩ := Option.isSome_iff_exists.mp hc
  simp [findObj, hc, ha, hg, ht]
/-- the class of an exception, whatever its own dict holds -/
theorem kin_cls {prog : Program} {w : World} {A : Around} {E : Value → Shared → Prop} {s : Shared} {Q : Option Value → Shared → Prop} (C : ExcC K D) (X : K.In s.heap) (I : PySem.W.InstAt s.heap x ox D od) (h : Q (some (.ref D)) { s with toks := s.toks + 1 }) :
    wpAny (model prog w) A (getAttr? (.ref x) "__class__") Q E s := by
  have hcl : (clsIn K D).isSome = true := by
    obtain ⟨cd, hc, _⟩ := any_some C.hd
    rw [hc]
    rfl
  have hf : findObj K D od "__class__" = some (.bind (.builtin "getset_descriptor.__get__") (.builtin "object.__class__")) := obj_data hcl C.ha C.hn C.ht
  obtain ⟨hp, g, d, t, os⟩ := s
  have L0 := I.type (M := model prog w)
  have L1 := looks_findIn (M := model prog w) X C.hg
  have L2 := looks_findIn (M := model prog w) X C.hk
  have L3 := looks_find (M := model prog w) X I hf
  have sub : PySem.W.Looks (model prog w) hp (isInstance (.ref x) (.type "BaseException")) true := L0.andThen (looks_subIn X C.hs)
  have z1 : (Value.builtin "BaseException.__getattribute__" == Value.builtin "object.__getattribute__") = false := by decide +kernel
  have z2 : (onTheHeap (Value.ref D) && Value.builtin "BaseException.__getattribute__" == Value.builtin "object.__getattribute__") = false := by rw [z1]; rfl
  unfold getAttr? getAttrBy? getAttrBy
  refine wpAny_bind (wpAny_mkText (wpAny_bind (wpAny_attempt (wpAny_holding (wpAny_bind (L0.at (wpAny_bind (L1.at ?_))))))))
  show wpAny _ _ (if (onTheHeap (Value.ref D) && Value.builtin "BaseException.__getattribute__" == Value.builtin "object.__getattribute__") = true then _ else _) _ _ _
  rw [z2, if_neg Bool.false_ne_true]
  unfold getAttrByItsOwn hookBefore
  refine wpAny_bind ?_
  rw [if_pos (show onTheHeap (Value.ref D) = true from rfl)]
  refine L2.at ?_
  refine wpAny_bind (wpAny_attempt (wpAny_holding ?_))
  unfold callGetattribute
  rw [show (false && onTheHeap (Value.builtin "BaseException.__getattribute__")) = false from rfl, if_neg Bool.false_ne_true]
  unfold boundAndCalled
  rw [PySem.F.excAttr_ValueError.ga.bind (.ref x)]
  refine wpAny_bind (wpAny_pure ?_)
  show wpAny _ _ (call (.builtin "BaseException.__getattribute__") [.ref x, .str "__class__" t]) _ _ _
  refine wpAny_call (codeAny_call_builtin PySem.F.excAttr_ValueError.ga.plain PySem.F.entry_bexc_ga ?_)
  refine @PySem.W.check_slot (model prog w) _ _ ⟨hp, g, d, t + 1, os⟩ "BaseException.__getattribute__" "BaseException" "__getattribute__" (.ref x) [.str "__class__" t] [] _ (by decide +kernel) (by decide +kernel) sub (PySem.F.args_bexc_ga (.ref x) (.str "__class__" t)) ?_
  unfold Builtin.«object.__getattribute__»
  refine wpAny_bind (wpAny_of_eq (a := ((Value.ref x : Value), [Value.str "__class__" t])) (by first | rfl | (simp only [slotArgs]; rfl)) ?_)
  refine wpAny_bind (wpAny_pure (wpAny_bind (L0.at (wpAny_bind (L3.at ?_)))))
  show wpAny _ _ (holding [Value.builtin "object.__class__"] (call (.builtin "getset_descriptor.__get__") [.builtin "object.__class__", .ref x, .ref D]) >>= ret) _ _ _
  refine wpAny_bind (wpAny_holding (wpAny_call (class_get (s := ⟨hp, g, d, t + 1, os⟩) (ox := ox) (od := od) X I C.hm ?_)))
  refine wpAny_pure ?_
  show wpAny _ _ (handedOut (.ref D)) _ _ _
  rw [PySem.W.handedOut_of (v := .ref D) rfl]
  first
    | exact wpAny_pure (wpAny_pure h)
    | exact wpAny_pure h
    | exact wpAny_pure (wpAny_bind (wpAny_pure (wpAny_pure h)))
theorem kitx_exc (C : ExcC K D) : KitX K (.ref x) (.ref D) (fun h => PySem.W.InstAt h x ox D od) where
  ty := fun _ _ _ I => I.type
  it := fun _ _ X _ => by
    obtain ⟨cdD, hcD, _⟩ := any_some C.hd
    unfold clsIn at hcD
    split at hcD
    · rename_i c' d' cd' sl' ho
      intro A' Q' E' s' k q
      unfold isType loadHead
      exact wpAny_bind (wpAny_loadPart (k _ _ (X _ _ ho)) (wpAny_pure q))
    · cases hcD
  ne := fun h tp dd its n sl X htp => by
    obtain ⟨cdD, hcD, _⟩ := any_some C.hd
    refine Bool.eq_false_iff.mpr fun q => ?_
    have e : D = tp := Value.ref.inj (beq_iff_eq.mp q)
    subst e
    unfold clsIn at hcD
    split at hcD
    · rename_i c' d' cd' sl' ho
      have z := (X _ _ ho).symm.trans htp
      cases z
    · cases hcD
  ca := fun X I k => kin_cls C X I k
end
end L2.M
namespace L2.M
open PySem PySem.Spec PyProof.Rows
def XdAt (H : Hp) (d : Option Addr) : Prop := d = none ∨ ∃ dd fs, d = some dd ∧ H dd = some (.xd fs)
theorem RepX.at_ {K : Ek} {F H : Hp} {cls : Value} {d : Option Addr} {x : Xn} (s : Same F H) (h : RepX K F cls d x) : XdAt H d := by
  obtain ⟨_, ⟨_, h2⟩ | ⟨dx, fs, h2, h3, _⟩⟩ := h
  · exact .inl h2
  · exact .inr ⟨dx, fs, h2, s _ _ h3⟩
/-- the context bears the exception a of the class cls, its dict d -/
structure PinX (X : Cx) (a : Addr) (cls : Value) (d : Option Addr) : Prop where
  ex : ∃ oe, (a, oe) ∈ X.pn ∧ Zc cls d oe ∧ ∃ vs, oe.data = .fields vs
section
variable {X : Cx} {a D : Addr} {d : Option Addr}
theorem kit_pin {pins : List (Addr × Obj)} {σ : St} {H : Hp} {s : Shared} (p : PinX X a (.ref D) d) (C : ExcC X.K D) (I : Inv X pins σ H s) (hd : XdAt H d) : ∃ P, PySem.W.KitX X.K (.ref a) (.ref D) P ∧ P s.heap := by
  obtain ⟨oe, hp, hz, vs, hv⟩ := p.ex
  obtain ⟨hget, _⟩ := I.pin (a, oe) (List.mem_append_left _ hp)
  rcases hd with rfl | ⟨dd, fs, rfl, hx⟩
  · refine ⟨_, kitx_exc (x := a) (ox := oe) (od := none) C, hget, hz.1, by unfold PySem.W.notCls; rw [hv] <;> rfl, by rw [hz.2]; exact trivial⟩
  · have hx : ObjOk X.prog X.w H s.heap dd (.xd fs) := I.hok dd _ hx
    obtain ⟨mA, hns, _⟩ := hx
    obtain ⟨od, ho, _⟩ := L2.lookIn_ns hns
    exact ⟨_, kitx_exc (x := a) (ox := oe) (od := some od) C, hget, hz.1, by unfold PySem.W.notCls; rw [hv] <;> rfl, by rw [hz.2]; exact ho⟩
def rIsG (K : PySem.W.Frag) (D a : Addr) (d : Option Addr) : List V → Hp → VK → Prop := fun xs H Q => ∃ (c : V) (u : Value) (b : Bool), xs = [.ref a, c] ∧ ClsV c u ∧ XdAt H d ∧ PySem.W.kitOne K (.ref D) u = some b ∧ Q (.bl b) H
def rIsGT (K : PySem.W.Frag) (D a : Addr) (d : Option Addr) : List V → Hp → VK → Prop := fun xs H Q => ∃ (tp : Addr) (cs : List V) (us : List Value) (b : Bool), xs = [.ref a, .ref tp] ∧ H tp = some (.tup cs) ∧ Paired ClsV cs us ∧ XdAt H d ∧ PySem.W.kitAny K (.ref D) us = some b ∧ Q (.bl b) H
theorem call_isG (p : PinX X a (.ref D) d) (C : ExcC X.K D) : CallR X (.builtin "isinstance") (rIsG X.K D a d) := by
  intro pins s σ H xs us Q I r h
  obtain ⟨c, u, b, rfl, k, hd, e, q⟩ := h
  obtain ⟨u1, u2, rfl, r1, r2⟩ := vals2 r
  have e2 := k.eq r2
  subst e2
  cases (show u1 = Value.ref a from r1)
  obtain ⟨P, Z, pp⟩ := kit_pin p C I hd
  exact PySem.W.kia_one Z I.kIn pp e (fun z => nomatch z) fun tk => ⟨.bl b, H, I.tok tk, rfl, q⟩
theorem call_isGT (p : PinX X a (.ref D) d) (C : ExcC X.K D) : CallR X (.builtin "isinstance") (rIsGT X.K D a d) := by
  intro pins s σ H xs us Q I r h
  obtain ⟨tp, cs, ws, b, rfl, hT, k, hd, e, q⟩ := h
  obtain ⟨u1, u2, rfl, r1, r2⟩ := vals2 r
  cases (show u1 = Value.ref a from r1)
  cases (show u2 = Value.ref tp from r2)
  obtain ⟨P, Z, pp⟩ := kit_pin p C I hd
  obtain ⟨_, its, rv, o, h1, h2, n, h3⟩ := (show ObjOk X.prog X.w H s.heap tp (.tup cs) from I.hok tp _ hT)
  have e3 := ClsV.all k rv
  subst e3
  obtain ⟨oc, od, dt, sl⟩ := o
  simp only at h2 h3
  subst h2 h3
  exact PySem.W.kia_tup Z I.kIn pp h1 e (fun z => nomatch z) fun tk => ⟨.bl b, H, I.tok tk, rfl, q⟩
end
end L2.M
namespace L2.M
open PySem PySem.Spec PyProof.Rows
open Classical in
noncomputable def mIsX (i : Nat) (a : Addr) (cls : Value) (d : Option Addr) (f : Xn → Option Bool) : EM := fun ε => match ε[i]? with
  | some (.px a' cls' d' x) => if a' = a ∧ cls' = cls ∧ d' = d then (f x).map fun b => (.sh (.bool b), ε) else none
  | _ => none
/-- what isinstance tells of the exceptions that f knows, asked of the class u -/
def IsT (K : PySem.W.Frag) (f : Xn → Option Bool) (u : Value) : Prop := ∀ x b, f x = some b → ExcC K (He.ga K x.cls) ∧ PySem.W.kitOne K (.ref (He.ga K x.cls)) u = some b
def IsTs (K : PySem.W.Frag) (f : Xn → Option Bool) (us : List Value) : Prop := ∀ x b, f x = some b → ExcC K (He.ga K x.cls) ∧ PySem.W.kitAny K (.ref (He.ga K x.cls)) us = some b
def rIsU (K : PySem.W.Frag) (a : Addr) (cls : Value) (d : Option Addr) : List V → Hp → VK → Prop := fun xs H Q => ∃ D, cls = .ref D ∧ ExcC K D ∧ (rIsG K D a d xs H Q ∨ rIsGT K D a d xs H Q)
section
variable {X : Cx} {a : Addr} {cls : Value} {d : Option Addr}
theorem call_isU (p : PinX X a cls d) : CallR X (.builtin "isinstance") (rIsU X.K a cls d) := by
  intro pins s σ H xs us Q I r h
  obtain ⟨D, rfl, C, h | h⟩ := h
  · exact call_isG p C _ _ _ _ _ _ _ I r h
  · exact call_isGT p C _ _ _ _ _ _ _ I r h
theorem Sep.pxAt {K : Ek} {F R H : Hp} {σ : St} {ε : Cs} {T : Tms} {i : Nat} {x : Xn} (s : Sep K F R H σ ε T) (h : ε[i]? = some (.px a cls d x)) : σ[i]? = some (some (.ref a)) ∧ RepX K F cls d x := by
  obtain ⟨o, f, e1, _, rfl, r⟩ := s.cell h
  exact ⟨e1, r⟩
theorem x_isX (i : Nat) {f : Xn → Option Bool} {e y : Str} {v : V} {u : Value} {ep yp p pos : Pos} (pn : PinX X a cls d) (hm : X.mg "isinstance" = none) (hg : Gl X "isinstance") (hv : PE X (.Name e ep) (tVar i)) (hy : PE X (.Name y yp) (tC v)) (hc : ClsV v u) (ht : IsT X.K f u)
    (hs : starEach [.Name e ep, .Name y yp] X.env = (false, eval (.Name e ep) X.env) :: starEach [.Name y yp] X.env := by rfl) (hs2 : starEach [.Name y yp] X.env = [(false, eval (.Name y yp) X.env)] := by rfl) (hpl : (backTo pos (starEach [.Name y yp] X.env)).any (·.1) = false := by rfl) :
    PE X (.Call (.Name "isinstance" p) [.Name e ep, .Name y yp] [] pos) (tE X.E (mIsX i a cls d f)) :=
  (pe_callB (call_isU pn) hg hm boot_isinstance (pa_cons hv (pa_cons hy pa_nil hs2) hs) (by decide) (by decide) hs hpl).weak fun σ H Q h => by
    obtain ⟨F, R, ε, c, ε', s, e, q⟩ := h
    unfold mIsX at e
    split at e
    · rename_i a' cls' d' x hx
      split at e
      · rename_i hh
        obtain ⟨rfl, rfl, rfl⟩ := hh
        cases e1 : f x with
        | none => simp [e1] at e
        | some b =>
          simp only [e1, Option.map_some, Option.some.injEq, Prod.mk.injEq] at e
          obtain ⟨rfl, rfl⟩ := e
          obtain ⟨g1, g2⟩ := s.pxAt hx
          obtain ⟨C, k⟩ := ht x b e1
          exact ⟨_, g1, _, g2.1, C, .inl ⟨v, u, b, rfl, hc, g2.at_ s.sub, k, g_bool s.sub fun w F2 H2 g => q w F2 H2 g.fm (s.res g)⟩⟩
      · cases e
    · cases e
theorem x_isXT (i : Nat) {f : Xn → Option Bool} {e : Str} {te : Expr} {cs : List V} {us : List Value} {ep p pos : Pos} (pn : PinX X a cls d) (hm : X.mg "isinstance" = none) (hg : Gl X "isinstance") (hv : PE X (.Name e ep) (tVar i))
    (hT : PE X te fun σ H Q => ∀ p, H p = none → Q (.ref p) (upd H p (.tup cs))) (hc : Paired ClsV cs us) (ht : IsTs X.K f us)
    (hs : starEach [.Name e ep, te] X.env = (false, eval (.Name e ep) X.env) :: starEach [te] X.env := by rfl) (hs2 : starEach [te] X.env = [(false, eval te X.env)] := by rfl) (hpl : (backTo pos (starEach [te] X.env)).any (·.1) = false := by rfl) :
    PE X (.Call (.Name "isinstance" p) [.Name e ep, te] [] pos) (tE X.E (mIsX i a cls d f)) :=
  (pe_callB (call_isU pn) hg hm boot_isinstance (pa_cons hv (pa_cons hT pa_nil hs2) hs) (by decide) (by decide) hs hpl).weak fun σ H Q h => by
    obtain ⟨F, R, ε, c, ε', s, e, q⟩ := h
    unfold mIsX at e
    split at e
    · rename_i a' cls' d' x hx
      split at e
      · rename_i hh
        obtain ⟨rfl, rfl, rfl⟩ := hh
        cases e1 : f x with
        | none => simp [e1] at e
        | some b =>
          simp only [e1, Option.map_some, Option.some.injEq, Prod.mk.injEq] at e
          obtain ⟨rfl, rfl⟩ := e
          obtain ⟨g1, g2⟩ := s.pxAt hx
          obtain ⟨C, k⟩ := ht x b e1
          refine ⟨_, g1, fun p hp => ?_⟩
          have g := Grw.laid (u := .tup cs) s.sub hp
          have s2 := s.grow g
          exact ⟨_, g2.1, C, .inr ⟨p, cs, us, b, rfl, by simp [upd], hc, (g2.mono g.fm).at_ s2.sub, k, g_bool s2.sub fun w F2 H2 g' => q w F2 H2 (g.fm.trans g'.fm) (s2.res g')⟩⟩
      · cases e
    · cases e
end
end L2.M
namespace L2.M
open PySem PySem.Spec PyProof.Rows
theorem xas_lookup {K : PySem.W.Frag} {F : Hp} {n : Str} {dv : D} : ∀ {as : List (Str × D)} {fs : List (Str × V)}, fs.map (·.1) = as.map (·.1) → Reps K F (fs.map (·.2)) (as.map (·.2)) → as.lookup n = some dv → ∃ v, fs.lookup n = some v ∧ Rep K F v dv
  | [], fs, _, _, h => by cases h
  | (k, e) :: as, [], h1, _, _ => by cases h1
  | (k, e) :: as, (k', w) :: fs, h1, h2, h => by
    simp only [List.map_cons, List.cons.injEq] at h1
    obtain ⟨rfl, h1⟩ := h1
    obtain ⟨v, r, e1, e2, e3⟩ := h2
    simp only [List.map_cons, List.cons.injEq] at e1
    obtain ⟨rfl, rfl⟩ := e1
    simp only [List.lookup] at h ⊢
    split at h
    · cases h
      exact ⟨_, rfl, e2⟩
    · exact xas_lookup h1 e3 h
section
variable {X : Cx} {a : Addr} {cls : Value} {d : Option Addr}
def tXfU (K : PySem.W.Frag) (a : Addr) (cls : Value) (d : Option Addr) (n : Str) (te : TE) : TE := fun σ H Q => te σ H fun y H1 => y = .ref a ∧ ∃ C, cls = .ref C ∧ XfC K C ∧ PySem.W.findIn K (.ref C) n = some none ∧ ∃ dd fs v, d = some dd ∧ H1 dd = some (.xd fs) ∧ fs.lookup n = some v ∧ Q v H1
theorem pe_xfU {e : Expr} {te : TE} {pos : Pos} {n : Str} (pn : PinX X a cls d) (he : PE X e te) (hb : attributeBase e n X.env (eval e X.env) = eval e X.env := by rfl) : PE X (.Attribute e n pos) (tXfU X.K a cls d n te) := by
  refine ⟨fun pins s σ H Q I h => ?_⟩
  refine attr_of hb (thn (he.run pins s σ H _ I h) fun u s1 hh => ?_)
  obtain ⟨x, H1, I1, rx, ex, C, ec, T, hno, dd, fs, v, ed, ea, l, q⟩ := hh
  subst ex
  obtain rfl : u = Value.ref a := rx
  subst ec
  subst ed
  obtain ⟨oe, hp, hz, vs, hd⟩ := pn.ex
  obtain ⟨ha, _⟩ := I1.pin (a, oe) (List.mem_append_left _ hp)
  have hx : ObjOk X.prog X.w H1 s1.heap dd (.xd fs) := I1.hok dd _ ea
  obtain ⟨mA, hns, hr⟩ := hx
  obtain ⟨od, ho, hl⟩ := L2.lookIn_ns hns
  obtain ⟨u, hu, ru⟩ := RelO.some_of (v := v) (o := mA n) (by rw [← l]; exact hr n)
  have J : PySem.W.InstAt s1.heap a oe C (some od) := ⟨ha, hz.1, by unfold PySem.W.notCls; rw [hd] <;> rfl, by rw [hz.2]; exact ho⟩
  exact HandSPX.exc_get I1.kIn J T.ga T.gg T.exC (PySem.W.findObj_own T.hdC hno rfl (by rw [hl, hu])) (handed_of ru) ⟨v, H1, I1.tok _, ru, q⟩
open Classical in
noncomputable def mFldX (i : Nat) (a : Addr) (cls : Value) (d : Option Addr) (n : Str) (ok : Xn → Bool) : EM := fun ε => match ε[i]? with
  | some (.px a' cls' d' x) => if a' = a ∧ cls' = cls ∧ d' = d ∧ ok x = true then (x.as.lookup n).map fun v => (.sh v, ε) else none
  | _ => none
theorem x_fldX (i : Nat) {ok : Xn → Bool} {e n : Str} {ep pos : Pos} (pn : PinX X a cls d) (hv : PE X (.Name e ep) (tVar i)) (ht : ∀ x, ok x = true → XfC X.K (He.ga X.K x.cls) ∧ PySem.W.findIn X.K (.ref (He.ga X.K x.cls)) n = some none)
    (hb : attributeBase (.Name e ep) n X.env (eval (.Name e ep) X.env) = eval (.Name e ep) X.env := by rfl) : PE X (.Attribute (.Name e ep) n pos) (tE X.E (mFldX i a cls d n ok)) :=
  (pe_xfU pn hv hb).weak fun σ H Q h => by
    obtain ⟨F, R, ε, c, ε', s, e, q⟩ := h
    unfold mFldX at e
    split at e
    · rename_i a' cls' d' x hx
      split at e
      · rename_i hh
        obtain ⟨rfl, rfl, rfl, ho⟩ := hh
        cases e1 : x.as.lookup n with
        | none => simp [e1] at e
        | some dv =>
          simp only [e1, Option.map_some, Option.some.injEq, Prod.mk.injEq] at e
          obtain ⟨rfl, rfl⟩ := e
          obtain ⟨g1, g2⟩ := s.pxAt hx
          obtain ⟨T, hno⟩ := ht x ho
          obtain ⟨g3, ⟨h1, _⟩ | ⟨dd, fs, h1, h2, h3, h4⟩⟩ := g2
          · rw [h1] at e1; cases e1
          · obtain ⟨v, l, r⟩ := xas_lookup h3 h4 e1
            exact ⟨_, g1, rfl, _, g3, T, hno, dd, fs, v, h1, s.sub _ _ h2, l, q v F H (Same.refl F) (s.addSh r)⟩
      · cases e
    · cases e
end
end L2.M
namespace L2.M
open PySem PySem.Spec PyProof.Rows
abbrev RGM := Addr → Value → Option Addr → GM
abbrev cxR (P : Program) (w : World) (K : PySem.W.Frag) (mg : Str → Option Value) (base : Heap) (N : List Str) (d : He.DefD) (f : Addr) (cdv : Value) (A : Around) (outer : List Env) (s : Shared) (H : Hp) (p : Addr × Obj) : Cx := (L2H.cxH CX0 P w K mg base N d.qual d.scope f cdv A outer s H E0 p).nox
structure FnR (P : Program) (w : World) (K : PySem.W.Frag) (mg : Str → Option Value) (base : Heap) (k : Nat) (f : Addr) (fd : FuncData) (ps : List Str) (g : RGM) : Prop where
  one : ps.length = 1
  run : ∀ (A : Around) (outer : List Env) (s : Shared) (H : Hp) (args : Args) (Q : VK) (p : Addr × Obj) (cls : Value) (d : Option Addr), L2H.RoomH k A → L2H.Hot1 A p → Zc cls d p.2 → L2H.PinOk outer H s p → Env0 P w K mg base A outer s H →
    BindsTo s fd args (ps.zip [.ref p.1]) → spOf (K, w) 1 (g p.1 cls d) [.ref p.1] H Q E0 → codeAny (model P w) A (.call (.ref f) args) (CR CX0 outer P w H s Q E0) s
section
variable {P : Program} {w : World} {K : PySem.W.Frag} {mg : Str → Option Value} {base : Heap}
theorem defR {N ps : List Str} {d : He.DefD} {k : Nat} {m : Addr → Value → Option Addr → XM} {f : Addr} {fd : FuncData} {dvs : List V} {kws : List (Str × V)} (F : FunD K d.name d.qual d.params d.body d.scope dvs kws f fd) (S : FnScope N ps d.scope) (h1 : ps.length = 1)
    (hb : ∀ (f : Addr) (cdv : Value) (A : Around) (outer : List Env) (s : Shared) (H : Hp) (p : Addr × Obj) (cls : Value) (dd : Option Addr), L2H.RoomH k (cxR P w K mg base N d f cdv A outer s H p).A → PinX (cxR P w K mg base N d f cdv A outer s H p) p.1 cls dd →
      PSs (cxR P w K mg base N d f cdv A outer s H p) d.body (tS (K, w) W0 (ios [true]) (m p.1 cls dd))) :
    FnR P w K mg base (k + 1) f fd ps (fun a cls dd => semF [true] N.length (m a cls dd)) := by
  obtain ⟨oc, od, dV, kV, doc, pm, an, cdv, ct, osl, rfl, l0, c0, _, _⟩ := F.ex
  refine ⟨h1, fun A outer s H args Q p cls dd room hot zc pin env0 bd h0 => ?_⟩
  have inK : K.In s.heap := env0.mod.kin.keeps fun b o z => (env0.bs b o z).1
  have nl : s.heap.NoLimit := env0.mod.nolimit.keeps fun b o z => (env0.bs b o z).1
  have vr : Vals [V.ref p.1] [Value.ref p.1] := .cons rfl .nil
  have kinds : ∀ y ∈ ps.zip [Value.ref p.1], d.scope.names.lookup y.1 = some .local ∨ (d.scope.names.lookup y.1 = some .cell ∧ ((cellsFrom (s.heap.objs.size + 1) d.scope.names []).lookup y.1).isSome = true) := by
    rintro ⟨n, v⟩ hy
    have hn := S.par n (List.of_mem_zip hy).1
    rcases hn with z | z
    · exact .inl z
    · exact .inr ⟨z, PySem.W.cellsFrom_some _ _ _ (.inl z)⟩
  refine codeAny_call_function room.depth (inK _ _ l0) rfl S.co S.gen rfl (PySem.W.codeRec_of inK c0) (bd _ _ _ _ ?_)
  refine wpAny_newFunctionEnv_cells S.kind kinds fun env ee s2 x2 => ?_
  subst ee
  refine ⟨nl.keeps x2.toInCall.keep, codeAny_func ?_⟩
  have px : PinX (cxR P w K mg base N d f cdv A outer s H p) p.1 cls dd := ⟨p.2, by simp [L2H.cxH], zc, let ⟨vs, e, _⟩ := hot.2; ⟨vs, e⟩⟩
  have J : Inv (L2H.cxH CX0 P w K mg base N d.qual d.scope f cdv A outer s H E0 p) [] (start N [.ref p.1]) H s2 := L2H.inv_startH S pin env0 (by rw [h1]; rfl) vr x2
  refine wpAny_mono ((PSs.nox (hb f cdv A outer s H p cls dd (room.deeper _) px)).run [] s2 (start N [.ref p.1]) H _ J (sem_run h0)) (fun fl s' z => ?_) fun e s' z => z
  cases fl with
  | ret u =>
    obtain ⟨v, σ', H', I, r, q⟩ := z
    exact ⟨v, H', I.os, I.bare, I.base, I.hok, r, q⟩
  | next =>
    obtain ⟨σ', H', I, q⟩ := z
    exact ⟨.non, H', I.os, I.bare, I.base, I.hok, rfl, q⟩
  | brk =>
    obtain ⟨_, _, _, q⟩ := z
    exact q.elim
  | cont =>
    obtain ⟨_, _, _, q⟩ := z
    exact q.elim
end
structure KnR (P : Program) (w : World) (K : PySem.W.Frag) (mg : Str → Option Value) (base : Heap) (k : Nat) (x : Str) (ps : List Str) (g : RGM) : Prop where
  ex : ∃ (f : Addr) (fd : FuncData), mg x = some (.ref f) ∧ PySem.W.keepIn K (.ref f) = true ∧ Binds K fd ps [] ∧ FnR P w K mg base k f fd ps g
section
variable {fa : List He.Fa} {fn : List He.DefD} {K : PySem.W.Frag} {mg : Str → Option Value} {P : Program} {w : World} {base : Heap}
theorem knr_mk (W : Wo fa fn K mg) (i j : Nat) {N ps : List Str} {d : He.DefD} {k : Nat} {m : Addr → Value → Option Addr → XM} {x : Str} (hd : fn[i]? = some d) (hx : d.at_ = (x, none)) (hf : fa[j]? = some (.glo x)) (pl : Plain d ps) (S : FnScope N ps d.scope) (h1 : ps.length = 1)
    (hb : ∀ (f : Addr) (cdv : Value) (A : Around) (outer : List Env) (s : Shared) (H : Hp) (p : Addr × Obj) (cls : Value) (dd : Option Addr), L2H.RoomH k (cxR P w K mg base N d f cdv A outer s H p).A → PinX (cxR P w K mg base N d f cdv A outer s H p) p.1 cls dd →
      PSs (cxR P w K mg base N d f cdv A outer s H p) d.body (tS (K, w) W0 (ios [true]) (m p.1 cls dd))) :
    KnR P w K mg base (k + 1) x ps (fun a cls dd => semF [true] N.length (m a cls dd)) := by
  obtain ⟨h, X, G, c⟩ := W
  obtain ⟨fd, F⟩ := c.def_ i hd
  have g := He.glo_ok X G (c.fact j hf)
  have eD : d.dvs K = [] := by unfold He.DefD.dvs; rw [pl.1]; rfl
  have eA : He.fAd K d.at_ = He.ga K x := by rw [hx]; rfl
  rw [eD, eA] at F
  exact ⟨⟨_, fd, g, F.kp, F.bindsN pl.2.2, defR F S h1 hb⟩⟩
end
section
variable {X : Cx}
/-- f(e) in the suite, e the exception that was caught -/
theorem x_callR {a : Addr} {oe : Obj} {cls : Value} {d : Option Addr} {pn : List (Addr × Obj)} {k k' : Nat} {x y : Str} {ps : List Str} {g : RGM} {ref : Xn → Option D} (i : Nat) {yp p pos : Pos} (h : KnR X.prog X.w X.K X.mg X.base k x ps g) (hr : Room k' X.A) (hk : k ≤ k')
    (hg : Gl (X.suite a ((a, oe) :: pn)) x) (hz : L2N.Zn cls d oe) (hf : ∃ vs, oe.data = .fields vs) (hv : PE (X.suite a ((a, oe) :: pn)) (.Name y yp) (tVar i))
    (hG : ∀ (xn : Xn) (r : D), ref xn = some r → g a cls d [.px a cls d xn] = some (.sh r, [.px a cls d xn]))
    (hdb : (x == ("__debug__" : Str)) = false := by decide) (he : starEach [.Name y yp] X.env = [(false, eval (.Name y yp) X.env)] := by rfl) :
    PE (X.suite a ((a, oe) :: pn)) (.Call (.Name x p) [.Name y yp] [] pos) (tE X.E (mRefX i a cls d ref)) := by
  obtain ⟨f, fd, hm, hkp, hbi, F⟩ := h.ex
  refine ⟨fun pins s σ H Q I q => ?_⟩
  obtain ⟨F0, R, ε, c, ε', sep, e, q⟩ := q
  unfold mRefX at e
  split at e
  · rename_i a' cls' d' xn hx
    split at e
    · rename_i hh
      obtain ⟨rfl, rfl, rfl⟩ := hh
      cases e1 : ref xn with
      | none => simp [e1] at e
      | some rr =>
        simp only [e1, Option.map_some, Option.some.injEq, Prod.mk.injEq] at e
        obtain ⟨rfl, rfl⟩ := e
        obtain ⟨g1, g2⟩ := sep.pxAt hx
        have hgx := hG xn rr e1
        refine wpAny_Call_Name_kw (ld_glob I hg hm ?_ hdb)
        refine PySem.W.callWith_K (h₀ := X.base) I.ok.mod.kin hkp (thn ((pa_cons hv pa_nil he).run pos pins s σ H (fun vs H1 => vs = [.ref a'] ∧ H1 = H) I ⟨_, g1, rfl, rfl⟩) fun us s1 ⟨vs, H1, I1, r, ev, eH⟩ => ⟨I1.kIn, ?_⟩) he rfl
        subst ev eH
        obtain ⟨u1, rfl, r1⟩ := vals1 r
        cases (show u1 = Value.ref a' from r1)
        have hl1 := F.one
        have bd := hbi s1 [.ref a'] I1.kIn (by rw [List.append_nil, hl1]; rfl)
        rw [List.append_nil] at bd
        obtain ⟨fl, hfl⟩ := hf
        have hot : L2H.Hot1 (X.suite a' ((a', oe) :: pn)).A (a', oe) := ⟨rfl, fl, hfl, hz.2.2 fl hfl⟩
        have P1 := I1.pin (a', oe) (List.mem_append_left _ List.mem_cons_self)
        have hpin : L2H.PinOk (X.suite a' ((a', oe) :: pn)).stack H1 s1 (a', oe) := ⟨P1.1, P1.2.1, fun hm => (List.mem_cons.mp (I1.stkSub a' hm)).elim P1.2.2.1 P1.2.2.2.1, P1.2.2.2.2⟩
        have room : L2H.RoomH k (X.suite a' ((a', oe) :: pn)).A := ⟨by have := (hr.mono hk).dp; exact this, by have := (hr.mono hk).un; exact this⟩
        obtain ⟨R1, s3, back⟩ := (sep.take hx g1).enter
        have hs : spOf X.E 1 (g a' cls' d') [.ref a'] H1 (fun v H' => Q v H') E0 := by
          refine ⟨rfl, F0, R1, [.px a' cls' d' xn], .sh rr, [.px a' cls' d' xn], s3, hgx, fun v F' H' fm s' => q v F' H' fm ?_⟩
          have s4 := Sep.put (i := i) (back F' H' [.px a' cls' d' xn] [(v, .sh rr)] fm s') g1
          obtain ⟨_, he5⟩ := List.getElem?_eq_some_iff.mp hx
          rw [List.set_set, ← he5, List.set_getElem_self] at s4
          exact s4
        refine wpAny_call (codeAny_mono (F.run _ (X.suite a' ((a', oe) :: pn)).stack s1 H1 ⟨[.ref a'], []⟩ _ (a', oe) cls' d' room hot hz.zc hpin I1.env0 bd hs) fun res s' hq => ?_)
        cases res with
        | error e => exact hq.elim
        | ok fl =>
          cases fl with
          | ret u => exact I1.after hq
          | next => exact False.elim hq
          | brk => exact False.elim hq
          | cont => exact False.elim hq
    · cases e
  · cases e
end
end L2.M
namespace L2.M
open PySem PySem.Spec PyProof.Rows
def cntL : List D → Option C
  | [.list ds, d] => if SeqAt.shaped (.list ds) && SeqAt.shaped d then some (.sh (.int ((ds.countP fun z => PyData.eqv z d : Nat) : Int))) else none
  | _ => none
def rCntD (K : PySem.W.Frag) (wr : List PyData → PyData) : V → List V → Hp → VK → Prop := fun x xs H Q => ∃ (a : Addr) (y : V) (d : PyData) (ds : List PyData), x = V.ref a ∧ xs = [y] ∧ Dp K H (V.ref a) (wr ds) ∧ Dp K H y d ∧
  SeqAt.shaped (wr ds) = true ∧ SeqAt.shaped d = true ∧ Q (.int ((ds.countP fun z => PyData.eqv z d : Nat) : Int)) H
theorem cnt_map {h : Heap} {ds : List PyData} {d : PyData} {its : List Value} (e : its.map (SeqAt.readOf h) = ds) : its.countP (fun u => PyData.eqv (SeqAt.readOf h u) d) = ds.countP fun z => PyData.eqv z d := by
  rw [← e, List.countP_map]
  rfl
section
variable {X : Cx}
theorem mt_cntL (hu : X.A.units + 65 < cLine) : MtR X "list.count" (rCntD X.K .list) := by
  intro pins s σ H x xs v us Q I rx rxs h
  obtain ⟨a, y, d, ds, rfl, rfl, hl, hy, sl, sd, q⟩ := h
  cases rx
  obtain ⟨uy, rfl, ry⟩ := rxs.one
  obtain ⟨bs, r1⟩ := Dp.reads I d y uy hy ry
  have hxs : PyData.canLayAll0 ds = true := SeqAt.canLay_of_shaped sl
  have hroom : X.A.units + 1 + min (PyData.depthAll ds) d.depth < cLine := room_in_shaped sd hu
  cases hl with
  | lst hs ha =>
    obtain ⟨its, rv, ⟨⟨cls, dd, data, sls⟩, n, ho, hc, hdn, hdt⟩, hlen⟩ := I.list hs
    simp only at hc hdt
    subst hc hdt
    obtain ⟨as, h4⟩ := Dp.readsAll I ds _ its ha rv
    have hmap : its.map (SeqAt.readOf s.heap) = ds := SeqAt.readsAll_map ds its as hxs h4
    refine call_meets PySem.F.slot_list_count ⟨_, ho, rfl⟩ PySem.F.entry_list_count (PySem.F.args_list_count_2 _ _)
      (SeqAt.list_countAt a its.toArray n dd sls uy (fun u => PyData.eqv (SeqAt.readOf s.heap u) d)) ⟨ho, SeqAt.items_eqAt (vs := its.toArray) (show ReadsAll s.heap its.toArray.toList ds as from h4) r1 hxs (SeqAt.canLay_of_shaped sd) hroom, ?_⟩
    have ec : its.toArray.toList.countP (fun u => PyData.eqv (SeqAt.readOf s.heap u) d) = ds.countP fun z => PyData.eqv z d := cnt_map hmap
    rw [ec]
    exact ⟨.int _, H, I.tok _, ⟨_, rfl⟩, q⟩
theorem cntL_ok (hu : X.A.units + 65 < cLine) : ∃ r, MtR X "list.count" r ∧ FnM X.K cntL r := by
  refine ⟨_, mt_cntL hu, fun F H x xs ds c Q s hr he q => ?_⟩
  match ds, he, hr with
  | [.list ds, d], he, hr =>
    simp only [cntL] at he
    split at he
    · rename_i hs
      simp only [Bool.and_eq_true] at hs
      cases he
      obtain ⟨y, w, e, h1, h2⟩ := hr.two
      cases e
      have dl := rb_dp s h1 (SeqAt.canLay_of_shaped hs.1)
      obtain ⟨a, vs, rfl, _, _⟩ := rb_lst s h1
      exact ⟨a, w, d, ds, rfl, rfl, dl, rb_dp s h2 (SeqAt.canLay_of_shaped hs.2), hs.1, hs.2, g_int s q⟩
    · cases he
variable {o e : Expr} {es : List Expr} {mo : OM} {mr : AM} {apos cpos : Pos} {k : Nat}
theorem x_cntL (hu : X.A.units + 65 < cLine) (ho : PE X o (tO X.E mo)) (ha : PA X (e :: es) (tA X.E mr))
    (hb : attributeBase o "count" X.env (eval o X.env) = eval o X.env := by rfl)
    (hfw : ((backTo cpos (starEach (e :: es) X.env)).all (fun x => !x.1) && (backToKw cpos (keywordEach [] X.env)).all (fun x => x.1.isSome) && decide ((e :: es).length + ([] : List Keyword).length + (if ([] : List Keyword).isEmpty then 0 else 1) < 30)) = true := by rfl)
    (hln : (apos.endLine == cpos.line) = true := by rfl) (hs : starEach (e :: es) X.env = (false, eval e X.env) :: starEach es X.env := by rfl) (hp : (backTo cpos (starEach es X.env)).any (·.1) = false := by rfl) :
    PE X (.Call (.Attribute o "count" apos) (e :: es) [] cpos) (tE X.E (mM cntL isL mo mr)) :=
  let ⟨_, h1, h2⟩ := cntL_ok hu
  (pe_bm PySem.F.plainAttrs_list PySem.F.slot_list_count PySem.F.type_list_count h1 ho ha hb hfw hln hs hp).weak fun _ _ _ h => tE_m h2 (fun _ _ _ _ s r k => tyV_L s r k) h
theorem x_indexU (hu : X.A.units + 65 < cLine) (ho : PE X o (tO X.E mo)) (ha : PA X (e :: es) (tA X.E mr))
    (hb : attributeBase o "index" X.env (eval o X.env) = eval o X.env := by rfl)
    (hfw : ((backTo cpos (starEach (e :: es) X.env)).all (fun x => !x.1) && (backToKw cpos (keywordEach [] X.env)).all (fun x => x.1.isSome) && decide ((e :: es).length + ([] : List Keyword).length + (if ([] : List Keyword).isEmpty then 0 else 1) < 30)) = true := by rfl)
    (hln : (apos.endLine == cpos.line) = true := by rfl) (hs : starEach (e :: es) X.env = (false, eval e X.env) :: starEach es X.env := by rfl) (hp : (backTo cpos (starEach es X.env)).any (·.1) = false := by rfl) :
    PE X (.Call (.Attribute o "index" apos) (e :: es) [] cpos) (tE X.E (mM indexD isL mo mr)) :=
  let ⟨_, h1, h2⟩ := index_ok hu
  (pe_bm PySem.F.plainAttrs_list PySem.F.slot_list_index PySem.F.type_list_index h1 ho ha hb hfw hln hs hp).weak fun _ _ _ h => tE_m h2 (fun _ _ _ _ s r k => tyV_L s r k) h
end
end L2.M
namespace L2.M
open PySem PySem.Spec PyProof.Rows
section
variable {X : Cx} {a b : Expr} {ma mb : OM} {pos : Pos}
theorem takes0 : L2N.Takes X W0 := fun u s' x => by
  obtain ⟨a, B, sI, pins, σ, H, cls, d, e, I, nb, up, sky, na, os, ag, w⟩ := x
  exact w.elim
theorem y_cmpU {op : CmpOp} (hu : X.A.units + 65 < cLine) (ha : PE X a (tO X.E ma)) (hb : PE X b (tO X.E mb)) (hm : behindInMarks op b = false := by rfl) : PT X (.Compare a [op] [b] pos) (tT X.E (mTst (mB (cmpD op) ma mb))) :=
  let ⟨_, h1, h2⟩ := cmp_ok hu op
  mt_cmp h1 h2 ha hb hm
end
def isC (P : List Str) (C : Str) : Xn → Option Bool := fun x => if x.cls ∈ P then some (x.cls == C) else none
def isK (P : List Str) (b : Bool) : Xn → Option Bool := fun x => if x.cls ∈ P then some b else none
def isCs (P : List Str) (Cs : List Str) : Xn → Option Bool := fun x => if x.cls ∈ P then some (Cs.contains x.cls) else none
def kitOB (x : Str) (u : Value) (b : Bool) : Ck := fun K => decide (PySem.W.kitOne K (.ref (He.ga K x)) u = some b)
theorem isC_ok {K : PySem.W.Frag} {P : List Str} {C : Str} (h : ∀ c ∈ P, excB c K = true ∧ kitB c C (c == C) K = true) : IsT K (isC P C) (.ref (He.ga K C)) := fun x b e => by
  unfold isC at e
  split at e
  · rename_i hx
    cases e
    obtain ⟨h1, h2⟩ := h _ hx
    exact ⟨excB_ok h1, of_decide_eq_true h2⟩
  · cases e
theorem isK_ok {K : PySem.W.Frag} {P : List Str} {u : Value} {b : Bool} (h : ∀ c ∈ P, excB c K = true ∧ kitOB c u b K = true) : IsT K (isK P b) u := fun x b' e => by
  unfold isK at e
  split at e
  · rename_i hx
    cases e
    obtain ⟨h1, h2⟩ := h _ hx
    exact ⟨excB_ok h1, of_decide_eq_true h2⟩
  · cases e
theorem isKs_ok {K : PySem.W.Frag} {P : List Str} {ts : List String} {b : Bool} (h : ∀ c ∈ P, excB c K = true ∧ kitTB c ts b K = true) : IsTs K (isK P b) (ts.map Value.type) := fun x b' e => by
  unfold isK at e
  split at e
  · rename_i hx
    cases e
    obtain ⟨h1, h2⟩ := h _ hx
    exact ⟨excB_ok h1, of_decide_eq_true h2⟩
  · cases e
/-- what the hook looks at, for the classes P, asked of the classes Cs -/
def csOf (P Cs : List Str) : List Ck := P.flatMap fun c => excB c :: exmB c "KnockError" true :: kitOB c (.type "ValueError") true :: kitTB c ["LookupError", "TypeError", "ArithmeticError", "RuntimeError"] false :: Cs.map fun C => kitB c C (c == C)
section
variable {K : PySem.W.Frag} {P Cs : List Str} {c : Str}
theorem cs_exc (V : ∀ k ∈ csOf P Cs, k K = true) (h : c ∈ P) : excB c K = true := V _ (List.mem_flatMap.mpr ⟨c, h, by simp⟩)
theorem cs_exm (V : ∀ k ∈ csOf P Cs, k K = true) (h : c ∈ P) : PySem.W.exmOne K (.ref (He.ga K c)) (.ref (He.ga K "KnockError")) = some true := of_decide_eq_true (V (exmB c "KnockError" true) (List.mem_flatMap.mpr ⟨c, h, by simp⟩))
theorem cs_ve (V : ∀ k ∈ csOf P Cs, k K = true) : IsT K (isK P true) (.type "ValueError") := isK_ok fun c h => ⟨cs_exc V h, V _ (List.mem_flatMap.mpr ⟨c, h, by simp⟩)⟩
theorem cs_bt (V : ∀ k ∈ csOf P Cs, k K = true) : IsTs K (isK P false) (["LookupError", "TypeError", "ArithmeticError", "RuntimeError"].map Value.type) := isKs_ok fun c h => ⟨cs_exc V h, V _ (List.mem_flatMap.mpr ⟨c, h, by simp⟩)⟩
theorem cs_is (V : ∀ k ∈ csOf P Cs, k K = true) {C : Str} (hC : C ∈ Cs := by decide) : IsT K (isC P C) (.ref (He.ga K C)) := isC_ok fun c h => ⟨cs_exc V h, V _ (List.mem_flatMap.mpr ⟨c, h, by simp only [List.mem_cons, List.mem_map]; exact .inr (.inr (.inr (.inr ⟨C, hC, rfl⟩)))⟩)⟩
end
section
variable {X : Cx}
/-- (LookupError, ..): a tuple of built-in classes -/
theorem pe_bts {es : List Expr} {cs : List V} {kt : Nat} {pos : Pos} (ha : PA X es (fun σ H Q => Q cs H)) (hz : cs.length ≤ sizeLine) : PE X (.Tuple es kt pos) fun σ H Q => ∀ p, H p = none → Q (.ref p) (upd H p (.tup cs)) :=
  (pe_tup ha).weak fun σ H Q h => ⟨hz, fun p hp => h p hp⟩
theorem pa_c {e : Expr} {es : List Expr} {v : V} {cs : List V} (h1 : PE X e (tC v)) (h2 : PA X es (fun σ H Q => Q cs H)) (hs : starEach (e :: es) X.env = (false, eval e X.env) :: starEach es X.env := by rfl) : PA X (e :: es) (fun σ H Q => Q (v :: cs) H) :=
  (pa_cons h1 h2 hs).weak fun σ H Q h => h
theorem boot_ve : bootBuiltins "ValueError" = some (.type "ValueError") := by decide +kernel
theorem boot_le : bootBuiltins "LookupError" = some (.type "LookupError") := by decide +kernel
theorem boot_te : bootBuiltins "TypeError" = some (.type "TypeError") := by decide +kernel
theorem boot_ae : bootBuiltins "ArithmeticError" = some (.type "ArithmeticError") := by decide +kernel
theorem boot_re : bootBuiltins "RuntimeError" = some (.type "RuntimeError") := by decide +kernel
end
end L2.M
namespace L2.M
open PySem PySem.Spec PyProof.Rows
def oexB (x : Str) : Ck := fun K => (match K.lookup (He.ga K x) with
  | some ⟨.type "type", _, .cls cd, sl⟩ => (match cd.mro, sl.toList with
    | .ref C' :: bm, [_, _, _, _, some (.builtin n), _] => C' == He.ga K x && (n == "ValueError.__new__" && (!cd.hasDel && (cd.hasDict && PySem.HandSPX.refsVE bm)))
    | _, _ => false)
  | _ => false) && (decide (PySem.W.findIn K (.ref (He.ga K x)) "__setattr__" = some (some (.builtin "object.__setattr__"))) && (decide (PySem.W.subIn K (.ref (He.ga K x)) (.type "BaseException") = some true) && (decide (PySem.W.typeIn K (.ref (He.ga K x)) = some (.type "type")) && PySem.W.keepIn K (.ref (He.ga K x)))))
/-- KnockError's own __init__ is ValueError's -/
def keiB : Ck := fun K => decide (PySem.W.specialIn K (.ref (He.ga K "KnockError")) "__getattribute__" = some (some (.builtin "type.__getattribute__"))) && (PySem.W.readsIn K (He.ga K "KnockError") (.type "type") &&
  (match PySem.W.findCls K (.ref (He.ga K "KnockError")) (.type "type") "__init__" with
    | some (.val (.builtin n)) => n == "ValueError.__init__"
    | _ => false))
def natB (x f : Str) : Ck := fun K => decide (PySem.W.findIn K (.ref (He.ga K x)) f = some none)
def iniB (x : Str) : Ck := fun K => decide (PySem.W.findIn K (.ref (He.ga K x)) "__init__" = some (some (.ref (He.ma K (He.ga K x) "__init__")))) && decide (PySem.W.typeIn K (.ref (He.ma K (He.ga K x) "__init__")) = some (.type "function"))
end L2.M
namespace L2.M
open PySem PySem.Spec PyProof.Rows
section
variable {X : Cx} {e : Expr} {es : List Expr} {ta : TA} {p pos : Pos}
/-- plain values: the fields of the exceptions here -/
def scal : D → Bool
  | .none => true
  | .bool _ => true
  | .int _ => true
  | .str _ => true
  | _ => false
end
end L2.M
namespace L2.M
open PySem PySem.Spec PyProof.Rows
def xfK (x : Str) : Ck := fun K => xfB K (He.ga K x)
def csF (FF : List (Str × Str)) : List Ck := FF.flatMap fun p => [xfK p.1, natB p.1 p.2]
def csI (II : List Str) : List Ck := II.flatMap fun c => [keiB, oexB c, iniB c]
section
variable {K : PySem.W.Frag} {FF : List (Str × Str)} {II : List Str} {c f : Str}
theorem csF_nat (V : ∀ k ∈ csF FF, k K = true) (h : (c, f) ∈ FF) : PySem.W.findIn K (.ref (He.ga K c)) f = some none := of_decide_eq_true (V (natB c f) (List.mem_flatMap.mpr ⟨_, h, by simp⟩))
theorem csF_ok (V : ∀ k ∈ csF FF, k K = true) (h : (c, f) ∈ FF) : XfC K (He.ga K c) ∧ PySem.W.findIn K (.ref (He.ga K c)) f = some none :=
  ⟨xfB_ok (V (xfK c) (List.mem_flatMap.mpr ⟨_, h, by simp⟩)), csF_nat V h⟩
end
end L2.M
namespace L2.M
open PySem PySem.Spec PyProof.Rows
end L2.M
namespace L2.M
open PySem PySem.Spec PyProof.Rows
def truD : D → Option Bool
  | .none => some false
  | .bool b => some b
  | .tuple ds => some (!ds.isEmpty)
  | .list ds => some (!ds.isEmpty)
  | _ => none
def mOrV (m n : EM) : EM := fun ε => match m ε with
  | some (.sh d, ε1) => (match truD d with
    | some true => some (.sh d, ε1)
    | some false => n ε1
    | none => none)
  | _ => none
end L2.M
namespace L2.M
open PySem PySem.Spec PyProof.Rows
end L2.M
namespace L2.M
open PySem PySem.Spec PyProof.Rows
end L2.M
namespace L2.M
open PySem PySem.Spec PyProof.Rows
end L2.M
namespace L2.M
open PySem PySem.Spec PyProof.Rows
end L2.M
namespace L2.M
open PySem PySem.Spec PyProof.Rows
end L2.M
namespace L2.M
open PySem PySem.Spec PyProof.Rows
end L2.M
namespace L2.M
open PySem PySem.Spec PyProof.Rows
def kyD : D → Option Key
  | .int i => some (.inl i)
  | .str x => some (.inr x)
  | _ => none
def dLk (kds : List (D × D)) (k : D) : Option D := (kds.find? fun p => PyData.eqv p.1 k).map (·.2)
def dPt (kds : List (D × D)) (k d : D) : List (D × D) := if (kds.any fun p => PyData.eqv p.1 k) = true then kds.map (fun p => if PyData.eqv p.1 k = true then (p.1, d) else p) else kds ++ [(k, d)]
def mDNew : EM := fun ε => some (.dc 0 [], ε)
def mDIn (n : Bool) (i : Nat) (m : OM) : EM := fun ε => do
  let (o, ε1) ← m ε
  let k ← bor ε1 o
  let _ ← kyD k
  match ε1[i]? with
  | some (.dc 0 kds) => some (.sh (.bool (if n then !(dLk kds k).isSome else (dLk kds k).isSome)), ε1)
  | _ => none
def mDGet (i : Nat) (m : OM) : EM := fun ε => match ε[i]? with
  | some (.dc _ _) => do
    let (o, ε1) ← m ε
    let k ← bor ε1 o
    let _ ← kyD k
    match ε1[i]? with
      | some (.dc 0 kds) => do
        let d ← dLk kds k
        some (.sh d, ε1)
      | _ => none
  | _ => none
def mDLen (i : Nat) : EM := fun ε => match ε[i]? with
  | some (.dc 0 kds) => some (.sh (.int kds.length), ε)
  | _ => none
def mDPut (i : Nat) (m : EM) (ix : OM) : XM := fun ε => do
  let (c, ε1) ← m ε
  let d ← cD c
  match ε1[i]? with
  | some (.dc 0 _) => do
    let (p, ε2) ← ix ε1
    let k ← bor ε2 p
    let _ ← kyD k
    match ε2[i]? with
      | some (.dc 0 kds) => if kds.length < sizeLine then some (.nx, ε2.set i (.dc 0 (dPt kds k d))) else none
      | _ => none
  | _ => none
end L2.M
namespace L2.M
open PySem PySem.Spec PyProof.Rows
def NVal (w : World) : NEnt × Value → NestedKey × Addr × Value := fun x => (x.1.1, x.1.2, x.2)
abbrev NX := List (NEnt × V)
abbrev nkR (p : NEnt × V) (q : NEnt × Value) : Prop := p.1 = q.1 ∧ RelV p.2 q.2
def lkN (xs : NX) (k : NestedKey) : Option V := (xs.find? fun x => decide (x.1.1 = k)).map (·.2)
def ptN (xs : NX) (b : NEnt) (v : V) : NX := if (lkN xs b.1).isSome then xs.map (fun x => if x.1.1 = b.1 then (x.1, v) else x) else xs ++ [(b, v)]
section
variable {w : World}
theorem lk_val : ∀ {xs : NX} {vs : List (NEnt × Value)} {k : NestedKey}, Paired nkR xs vs → RelO (lkN xs k) ((atKey (vs.map (NVal w)) k).map (·.2))
  | _, _, k, .nil => by simp [lkN, atKey, RelO]
  | x :: xs, y :: vs, k, .cons q r => by
    obtain ⟨q1, q2⟩ := q
    by_cases c : x.1.1 = k
    · have c2 : (NVal w y).1 = k := by show y.1.1 = k; rw [← q1]; exact c
      have e1 : lkN (x :: xs) k = some x.2 := by simp [lkN, c]
      have e2 : (atKey ((y :: vs).map (NVal w)) k).map (·.2) = some y.2 := by
        unfold atKey
        rw [List.map_cons, List.find?_cons_of_pos (by simpa using c2)]
        rfl
      rw [e1, e2]
      exact q2
    · have c2 : ¬ (NVal w y).1 = k := by show ¬ y.1.1 = k; rw [← q1]; exact c
      have e1 : lkN (x :: xs) k = lkN xs k := by simp [lkN, c]
      have e2 : (atKey ((y :: vs).map (NVal w)) k).map (·.2) = (atKey (vs.map (NVal w)) k).map (·.2) := by simp [atKey, c2]
      rw [e1, e2]
      exact lk_val r
theorem lk_some {xs : NX} {vs : List (NEnt × Value)} {k : NestedKey} (r : Paired nkR xs vs) : (atKey (vs.map (NVal w)) k).isSome = (lkN xs k).isSome := by
  have := (lk_val (w := w) (k := k) r).isSome_eq
  rw [Option.isSome_map] at this
  exact this.symm
theorem pt_val {xs : NX} {vs : List (NEnt × Value)} {b : NEnt} {v : V} {u : Value} (r : Paired nkR xs vs) (rv : RelV v u) : ∃ ws, Paired nkR (ptN xs b v) ws ∧ storedH (vs.map (NVal w)) b.1 b.2 u = ws.map (NVal w) := by
  unfold ptN storedH
  rw [lk_some r]
  by_cases c : (lkN xs b.1).isSome = true
  · rw [if_pos c, if_pos c]
    refine ⟨vs.map fun y => if y.1.1 = b.1 then (y.1, u) else y, ?_, ?_⟩
    · clear c
      induction r with
      | nil => exact .nil
      | @cons x y xs vs q r ih =>
        obtain ⟨q1, q2⟩ := q
        simp only [List.map_cons]
        refine .cons ?_ ih
        by_cases c : x.1.1 = b.1
        · rw [if_pos c, if_pos (by rw [← q1]; exact c)]
          exact ⟨q1, rv⟩
        · rw [if_neg c, if_neg (by rw [← q1]; exact c)]
          exact ⟨q1, q2⟩
    · rw [List.map_map, List.map_map]
      refine List.map_congr_left fun y _ => ?_
      show putAt b.1 u (NVal w y) = NVal w (if y.1.1 = b.1 then (y.1, u) else y)
      unfold putAt
      by_cases c3 : y.1.1 = b.1
      · rw [if_pos c3, if_pos (show (NVal w y).1 = b.1 from c3)]
        rfl
      · rw [if_neg c3, if_neg (show ¬ (NVal w y).1 = b.1 from c3)]
  · rw [if_neg c, if_neg c]
    refine ⟨vs ++ [(b, u)], Paired.snoc r ⟨rfl, rv⟩, ?_⟩
    rw [List.map_append]
    rfl
end
end L2.M
namespace L2.M
open PySem PySem.Spec PyProof.Rows
def okKey : D → Option NestedKey
  | .tuple ds => (nKey (.tuple ds)).bind fun n => if n.depth ≤ 8 then some n else none
  | _ => none
def idxN (ks : List D) (key : NestedKey) : Option Nat := ks.findIdx? fun k => decide (nKey k = some key)
def nKs : C → Option (List D)
  | .ob (.dn ks) _ => some ks
  | .fd kds => some (kds.map (·.1))
  | _ => none
def nVl : C → Nat → Option D
  | .ob (.dn _) cs, j => match cs[j]? with
    | some (.sh d) => some d
    | _ => none
  | .fd kds, j => (kds[j]?).map (·.2)
  | _, _ => none
section
variable {K : Ek} {F R H : Hp} {σ : St} {ε : Cs} {T : Tms} {i : Nat} {c : C} {ks : List D} {bs : List NEnt} {vs : List V} {key : NestedKey}
theorem KeysN.len : ∀ {ks : List D} {bs : List NEnt}, KeysN K.1 F bs ks → bs.length = ks.length
  | [], bs, h => by cases (show bs = [] from h); rfl
  | k :: ks, bs, ⟨b, r, h1, _, _, _, h5⟩ => by rw [h1, List.length_cons, List.length_cons, KeysN.len h5]
end
def mNNew : EM := fun ε => some (.ob (.dn []) [], ε)
def mNIn (n : Bool) (i : Nat) (m : OM) : EM := fun ε => do
  let (o, ε1) ← m ε
  let k ← bor ε1 o
  let key ← okKey k
  let c ← ε1[i]?
  let ks ← nKs c
  some (.sh (.bool (if n then !(idxN ks key).isSome else (idxN ks key).isSome)), ε1)
def mNGet (i : Nat) (m : OM) : EM := fun ε => do
  let c0 ← ε[i]?
  let _ ← nKs c0
  let (o, ε1) ← m ε
  let k ← bor ε1 o
  let key ← okKey k
  let c ← ε1[i]?
  let ks ← nKs c
  let j ← idxN ks key
  let d ← nVl c j
  some (.sh d, ε1)
/-- d[k] = e -/
def mNPut (i : Nat) (m : EM) (ix : OM) : XM := fun ε => do
  let (c, ε1) ← m ε
  match ε1[i]? with
  | some (.ob (.dn _) _) => do
    let (p, ε2) ← ix ε1
    let k ← bor ε2 p
    let key ← okKey k
    match ε2[i]? with
      | some (.ob (.dn ks) cs) => if cs.length < sizeLine then some (.nx, ε2.set i (match idxN ks key with
          | some j => .ob (.dn ks) (cs.set j c)
          | none => .ob (.dn (ks ++ [k])) (cs ++ [c]))) else none
      | _ => none
  | _ => none
end L2.M
namespace L2.M
open PySem PySem.Spec PyProof.Rows
section
variable {K : Ek} {F F' R H : Hp} {σ : L2.St} {ε : Cs} {T : Tms} {i : Nat}
theorem KeysN.get {F : Hp} : ∀ {ks : List D} {bs : List NEnt} {i : Nat} {b : NEnt}, KeysN K.1 F bs ks → bs[i]? = some b → ∃ k, ks[i]? = some k ∧ Rep K.1 F (.ref b.2) k
  | [], bs, i, b, h, e => by
    cases (show bs = [] from h)
    simp at e
  | k :: ks, bs, 0, b, ⟨b', r, h1, _, _, h4, _⟩, e => by
    subst h1
    simp at e
    subst e
    exact ⟨k, rfl, h4⟩
  | k :: ks, bs, i + 1, b, ⟨b', r, h1, _, _, h4, h5⟩, e => by
    subst h1
    obtain ⟨k', q1, q2⟩ := KeysN.get (i := i) h5 (by simpa using e)
    exact ⟨k', by simpa using q1, q2⟩
end
end L2.M
namespace L2.M
open PySem PySem.Spec PyProof.Rows
def mNList (i : Nat) : EM := fun ε => do
  let c ← ε[i]?
  let ks ← nKs c
  some (.ls ks, ε)
def shs : List C → Option (List D)
  | [] => some []
  | .sh d :: cs => (shs cs).map (d :: ·)
  | _ => none
def nVs : C → Option (List D)
  | .ob (.dn _) cs => shs cs
  | .fd kds => some (kds.map (·.2))
  | _ => none
def mNVals (i : Nat) : EM := fun ε => do
  let c ← ε[i]?
  let ds ← nVs c
  some (.ls ds, ε)
section
variable {X : Cx} {W : Xw} {io : List Nat} {e kx vx : Expr} {y : Str} {p p2 pos apos cpos : Pos} {m : OM} {i k : Nat}
def mN1 (mk mv : EM) : EM := fun ε => do
  let (ck, ε1) ← mk ε
  let kd ← cD ck
  let _ ← okKey kd
  let (cv, ε2) ← mv ε1
  some (.ob (.dn [kd]) [cv], ε2)
def mFnV (x : Str) : EM := fun ε => some (.fn x, ε)
def mCallF (i : Nat) (io : List Bool) (cands : List (Str × GM)) (ma : AM) : EM := fun ε => match ε[i]? with
  | some (.fn x) => match cands.lookup x with
    | some g => mCall io g ma ε
    | none => none
  | _ => none
/-- a slot's thing taken out -/
def mTake (i : Nat) : EM := fun ε => match ε[i]? with
  | some .no => none
  | some c => some (c, ε.set i .no)
  | none => none
end
end L2.M
namespace L2.M
open PySem PySem.Spec PyProof.Rows
end L2.M
namespace L2.M
open PySem PySem.Spec PyProof.Rows
end L2.M
namespace L2.M
open PySem PySem.Spec PyProof.Rows
end L2.M
namespace L2.M
open PySem PySem.Spec PyProof.Rows
section
variable {K : PySem.W.Frag} {w : World} {P Cs : List Str} {c : Str}
theorem cs_hkw (V : ∀ k ∈ csOf P Cs, k K = true) {ref : Xn → Option D} (hr : ∀ y r, ref y = some r → y.cls ∈ P) : ∀ (F : Hp) cls d y r, RepX (K, w) F cls d y → ref y = some r → PySem.W.exmOne K cls (.ref (He.ga K "KnockError")) = some true := fun F cls d y r rx e => by
  rw [rx.1]
  exact cs_exm V (hr y r e)
end
section
variable {X : Cx}
theorem pe_own {x : Str} {C : Addr} {pos : Pos} (hg : Gl X x) (hm : X.mg x = some (.ref C)) (hd : (x == ("__debug__" : Str)) = false := by decide) : PE X (.Name x pos) (tC (.ref C)) := pe_glob hg hm (show RelV (.ref C) (.ref C) from rfl) hd
end
theorem strEq (a b : String) : (Str.ofString a = Str.ofString b) = (a = b) := by
  apply propext
  refine ⟨fun h => ?_, fun h => h ▸ rfl⟩
  rw [Str.ofString_eq_toList, Str.ofString_eq_toList] at h
  have h2 : a.toList.map Char.toNat = b.toList.map Char.toNat := by simpa using congrArg Str.cps h
  exact String.toList_inj.mp (List.map_inj_right (fun x y h => Char.toNat_inj.mp h) |>.mp h2)
theorem strB (i j : Str) : (i == j) = decide (i = j) := by
  by_cases h : i = j <;> simp [h]
theorem eqBB (i j : Bool) : PyData.eqv (.bool i) (.bool j) = (i == j) := by cases i <;> cases j <;> rfl
theorem eqII (i j : Int) : PyData.eqv (.int i) (.int j) = decide (i = j) := by
  simp only [PyData.eqv]
  by_cases h : i = j <;> simp [h]
theorem eqSS (i j : Str) : PyData.eqv (.str i) (.str j) = decide (i = j) := by simp only [PyData.eqv]; exact strB i j
end L2.M
namespace L2.M
open PySem PySem.Spec PyProof.Rows
end L2.M
namespace L2.M
open PySem PySem.Spec PyProof.Rows
end L2.M
namespace L2.M
open PySem PySem.Spec PyProof.Rows
end L2.M
namespace L2.M
open PySem PySem.Spec PyProof.Rows
end L2.M
namespace L2.M
open PySem PySem.Spec PyProof.Rows
end L2.M
namespace L2.M
open PySem PySem.Spec PyProof.Rows
inductive SelOk (X : Cx) (k' np : Nat) : List Expr → List V → List GX → Prop where
  | nil : SelOk X k' np [] [] []
  | cons {x : Str} {p : Pos} {g : GX} {k : Nat} {ps : List Str} {es : List Expr} {vs : List V} {gs : List GX} (h : KnX X.prog X.w X.K X.mg X.base k x ps (spX X.E np g)) (hk : k ≤ k') (hg : Gl X x) (hm : X.mg x = some (.ref (He.ga X.K x))) (hd : (x == ("__debug__" : Str)) = false) (hs : starEach (.Name x p :: es) X.env = (false, eval (.Name x p) X.env) :: starEach es X.env) (r : SelOk X k' np es vs gs) : SelOk X k' np (.Name x p :: es) (.ref (He.ga X.K x) :: vs) (g :: gs)
section
variable {X : Cx} {k' np : Nat}
theorem SelOk.len : ∀ {es : List Expr} {vs : List V} {gs : List GX}, SelOk X k' np es vs gs → vs.length = gs.length ∧ es.length = gs.length
  | _, _, _, .nil => ⟨rfl, rfl⟩
  | _, _, _, .cons _ _ _ _ _ _ r => ⟨congrArg (· + 1) r.len.1, congrArg (· + 1) r.len.2⟩
theorem SelOk.get : ∀ {es : List Expr} {vs : List V} {gs : List GX}, SelOk X k' np es vs gs → ∀ (j : Nat) (g : GX), gs[j]? = some g → ∃ x k ps, vs[j]? = some (.ref (He.ga X.K x)) ∧ k ≤ k' ∧ KnX X.prog X.w X.K X.mg X.base k x ps (spX X.E np g) ∧ X.mg x = some (.ref (He.ga X.K x))
  | _, _, _, .nil, j, g, e => by cases e
  | _, _, _, .cons (x := x) (k := k) (ps := ps) h hk hg hm hd hs r, 0, g, e => by
    cases e
    exact ⟨x, k, ps, rfl, hk, h, hm⟩
  | _, _, _, .cons h hk hg hm hd hs r, j + 1, g, e => r.get j g e
end
end L2.M
namespace L2.M
open PySem PySem.Spec PyProof.Rows
end L2.M
namespace L2.M
open PySem PySem.Spec PyProof.Rows
end L2.M
namespace L2.M
open PySem PySem.Spec PyProof.Rows
open PySem.Builtin PySem.Builtin.Str
section
variable {P : Program} {w : World} {K : PySem.W.Frag} {mg : Str → Option Value} {base : Heap} {CX : CXT}
theorem PSsT.nox {X : Cx} {st : List Stmt} {t : TS} (h : PSsT X.nox st t) : PSsT X st t := fun pins s σ H D h0 I hw =>
  wpAny_mono (h pins s σ H D h0 (I.wish _) hw) (fun _ _ q => q.unwish) fun _ _ z => False.elim z
end
end L2.M
namespace L2.M
open PySem PySem.Spec PyProof.Rows
end L2.M
namespace L2.M
open PySem PySem.Spec PyProof.Rows
end L2.M
namespace L2.M
open PySem PySem.Spec PyProof.Rows
def mDGetD (i : Nat) (m n : EM) : EM := fun ε => match ε[i]? with
  | some (.dc 0 _) => do
    let (c1, ε1) ← m ε
    let (c2, ε2) ← n ε1
    match c1, c2, ε2[i]? with
      | .sh kd, .sh d, some (.dc 0 kds) => if (kyD kd).isSome = true then some (.sh ((dLk kds kd).getD d), ε2) else none
      | _, _, _ => none
  | _ => none
def mDList (i : Nat) : EM := fun ε => match ε[i]? with
  | some (.dc 0 kds) => some (.ls (kds.map (·.1)), ε)
  | _ => none
end L2.M
namespace L2.M
open PySem PySem.Spec PyProof.Rows
end L2.M
namespace L2.M
open PySem PySem.Spec PyProof.Rows
end L2.M
namespace L2.M
open PySem PySem.Spec PyProof.Rows
end L2.M
namespace L2.M
open PySem PySem.Spec PyProof.Rows
/-- a dict is not empty -/
def mNNe (i : Nat) : EM := fun ε => match ε[i]? with
  | some c => (nKs c).map fun ks => (.sh (.bool (!ks.isEmpty)), ε)
  | none => none
end L2.M
namespace L2.M
open PySem PySem.Spec PyProof.Rows
end L2.M
namespace L2.M
open PySem PySem.Spec PyProof.Rows
end L2.M
namespace PySem.SeqAt
open AutoSeq1 (wpAny_loadPart')
open MeetsSeq MeetsSeq2 MeetsSeq3
end PySem.SeqAt
namespace L2.M
open PySem PySem.Spec PyProof.Rows
end L2.M
namespace L2.M
open PySem PySem.Spec PyProof.Rows
end L2.M
namespace L2.M
open PySem PySem.Spec PyProof.Rows
end L2.M
namespace L2.M
open PySem PySem.Spec PyProof.Rows
end L2.M
namespace L2.M
open PySem PySem.Spec PyProof.Rows
end L2.M
namespace L2.M
open PySem PySem.Spec PyProof.Rows
end L2.M
namespace L2.M
open PySem PySem.Spec PyProof.Rows
end L2.M
namespace L2.M
open PySem PySem.Spec PyProof.Rows
structure RisT (ks : List (List Int)) : Prop where
  l : ks.length < 64
  d : ∀ k ∈ ks, k.length = max 1 (ks.headD []).length ∧ TS.Bd 1000000 k
  s : ks.Pairwise fun j k => TS.code 1000000 j < TS.code 1000000 k
theorem RisT.inj {ks : List (List Int)} (h : RisT ks) {j k : List Int} (hj : j ∈ ks) (hk : k ∈ ks) (e : TS.code 1000000 j = TS.code 1000000 k) : j = k := by
  obtain ⟨a, ha, rfl⟩ := List.getElem_of_mem hj
  obtain ⟨b, hb, rfl⟩ := List.getElem_of_mem hk
  have q := List.pairwise_iff_getElem.mp h.s
  rcases Nat.lt_trichotomy a b with c | c | c
  · have := q a b ha hb c
    omega
  · subst c
    rfl
  · have := q b a hb ha c
    omega
theorem RisT.nd {ks : List (List Int)} (h : RisT ks) : ks.Nodup := h.s.imp fun hlt e => by rw [e] at hlt; exact absurd hlt (Int.lt_irrefl _)
end L2.M
namespace L2.M
open PySem PySem.Spec PyProof.Rows
end L2.M
namespace L2.M
open PySem PySem.Spec PyProof.Rows
end L2.M
namespace L2.M
open PySem PySem.Spec PyProof.Rows
section
variable {K : Ek} {F H : Hp}
theorem RpCs.cut : ∀ (n : Nat) {cs : List C} {os : List (Option V)} {gg : List (List Addr)}, RpCs K F H os cs gg → RpCs K F H (os.take n) (cs.take n) (gg.take n) ∧ RpCs K F H (os.drop n) (cs.drop n) (gg.drop n)
  | 0, cs, os, gg, h => by simp only [List.take_zero, List.drop_zero]; exact ⟨⟨rfl, rfl⟩, h⟩
  | n + 1, [], os, gg, h => by
    obtain ⟨rfl, rfl⟩ := h
    simp only [List.take_nil, List.drop_nil]
    exact ⟨⟨rfl, rfl⟩, ⟨rfl, rfl⟩⟩
  | n + 1, c :: cs, os, gg, ⟨o, r, f, fr, e1, e2, h1, h2⟩ => by
    subst e1 e2
    obtain ⟨g1, g2⟩ := RpCs.cut n h2
    simp only [List.take_succ_cons, List.drop_succ_cons]
    exact ⟨⟨o, _, f, _, rfl, rfl, h1, g1⟩, g2⟩
end
end L2.M
namespace L2.M
open PySem PySem.Spec PyProof.Rows
inductive LkH : Hp → (Hp → Prop) → Prop
  | here {H : Hp} {P : Hp → Prop} : P H → LkH H P
  | step {H : Hp} {P : Hp → Prop} {d : Addr} {kvs : List (Key × V)} : H d = some (.dK kvs) → (∀ o, LkH (upd H d (.frz o (.dK kvs))) P) → LkH H P
theorem LkH.mono {P Q : Hp → Prop} (h : ∀ H, P H → Q H) {H : Hp} (l : LkH H P) : LkH H Q := by
  induction l with
  | here p => exact .here (h _ p)
  | step e _ ih => exact .step e fun o => ih o h
section
variable {K : Ek} {F R H : Hp} {σ : St} {ε : Cs} {T : Tms} {i : Nat} {c : C} {kks : List (D × List (D × D))}
theorem RepFk.get : ∀ {ks : List (List (D × D))} {vs : List V} {j : Nat} {k : List (D × D)}, RepFk K F vs ks → ks[j]? = some k → ∃ d, vs[j]? = some (.ref d) ∧ FkAt K F d k
  | [], vs, j, k, h, e => by simp at e
  | k :: ks, vs, 0, k', ⟨a, r, h1, h2, h3⟩, e => by
    subst h1
    simp at e
    subst e
    exact ⟨a, rfl, h2⟩
  | k :: ks, vs, j + 1, k', ⟨a, r, h1, h2, h3⟩, e => by
    subst h1
    obtain ⟨d, q1, q2⟩ := RepFk.get (j := j) h3 (by simpa using e)
    exact ⟨d, by simpa using q1, q2⟩
end
end L2.M
namespace L2.M
open PySem PySem.Spec PyProof.Rows
end L2.M
namespace L2.M
open PySem PySem.Spec PyProof.Rows
end L2.M
namespace L2.M
open PySem PySem.Spec PyProof.Rows
end L2.M
namespace L2.M
open PySem PySem.Spec PyProof.Rows
theorem call_part {K : Ek} {F R H : Hp} {σ : St} {ε : Cs} {i k : Nat} {v : V} {kd : Kd} {cs : List C} {c0 c c1 : C} {g : GM} {Q : VK} {E : XK} (s : Sep K F R H σ ε []) (hx : ε[i]? = some (.ob kd cs)) (hc : cs[k]? = some c0) (p : PlV K H σ ε i k v) (e : g [c0] = some (c, [c1]))
    (q : ∀ w F' H', Same F F' → Sep K F' R H' σ (ε.set i (.ob kd (cs.set k c1))) [(w, c)] → Q w H') : spOf K 1 g [v] H Q E := by
  have s1 := s.focus hx hc p
  have hi := (List.getElem?_eq_some_iff.mp hx).1
  have hx1 : (ε.set i (.ob kd (cs.set k .no)))[i]? = some (.ob kd (cs.set k .no)) := List.getElem?_set_self hi
  obtain ⟨w0, f, R1, hw, hr, s2, back1⟩ := s1.hideX hx1 fun z => nomatch z
  obtain ⟨R2, s3, back2⟩ := s2.enter
  refine ⟨rfl, F, R2, [c0], c, [c1], s3, e, fun w F' H' fm p' => ?_⟩
  have b2 : Sep K F' R1 H' σ ((ε.set i (.ob kd (cs.set k .no))).set i .no) [(v, c1), (w, c)] := back2 F' H' [c1] [(w, c)] fm p'
  obtain ⟨b1, hh⟩ := back1 F' H' _ _ fm b2
  rw [List.set_set, List.set_set] at b1
  have pv := p.hole hx .no
  have pv2 : PlV K H' σ (ε.set i (.ob kd (cs.set k .no))) i k v := pv.heap fun a ha => by
    obtain ⟨a', us, gg, e1, e2, _⟩ := hr
    rw [ha] at hw
    cases hw
    cases e1
    exact hh a (by rw [e2]; exact List.mem_cons_self)
  have b3 := b1.unfocus hx1 pv2
  rw [List.set_set, List.set_set] at b3
  exact q w F' H' fm b3
def tMethV (K : Ek) (x m : Str) (g : GM) (te : TE) : TE := fun σ H Q => te σ H fun v H1 => ∃ a dx fs, v = .ref a ∧ H1 a = some (.ins (He.ga K.1 x) dx fs) ∧ fs.lookup m = none ∧ spOf K 1 g [v] H1 Q E0
theorem pe_methV {X : Cx} {pl : Sem Bool} {k k' : Nat} {x m : Str} {ps : List Str} {g : GM} {te : TE} {o : Expr} {apos pos : Pos} (h : KnM X.prog X.w X.K X.mg X.base k x m ps (spOf X.E 1 g)) (hr : Rm k' X.A) (hk : k ≤ k') (ho : PE X o te)
    (ht : eval (.Call (.Attribute o m apos) [] [] pos) X.env = (do
      let ov ← eval o X.env
      standAt apos.atName
      let (f, first) ← holding [ov] (getMethod ov m pl)
      callWith pos f first (backTo pos (starEach [] X.env)) (backToKw pos (keywordEach [] X.env))) := by rfl) :
    PE X (.Call (.Attribute o m apos) [] [] pos) (tMethV X.E x m g te) := by
  obtain ⟨f, fd, hc, hm, hbi, F⟩ := h.ex
  refine ⟨fun pins s σ H Q I q => ?_⟩
  refine PySem.W.methodCall_KW (pl := pl) (thn (ho.run pins s σ H _ I q) fun u s1 ⟨v, H1, I1, rx, a, dx, fs, ex, ea, l, q3⟩ => ?_) ht
  subst ex
  obtain rfl : u = Value.ref a := rx
  refine getmeth_ok I1 ea hc hm l ?_
  exact PySem.W.callWith_K0 (first := [.ref a]) I1.kIn hm.kp (runG (us := [.ref a]) (vs := [.ref a]) (F.mono hk) hr hbi I1 (.cons rfl .nil) q3)
/-- p.m(), p a part -/
def oneC : Option (C × Cs) → Option (C × C)
  | some (c, [c1]) => some (c, c1)
  | _ => none
theorem oneC_eq {o : Option (C × Cs)} {c c1 : C} (h : oneC o = some (c, c1)) : o = some (c, [c1]) := by
  unfold oneC at h
  split at h
  · cases h
    rfl
  · cases h
def mMethP (x m : Str) (g : GM) (mp : PlM) : EM := fun ε => do
  let ((i, k), ε1) ← mp ε
  match ε1[i]? with
  | some (.ob kd cs) => match cs[k]? with
    | some c0 => if isIns x m (some c0) = true then (oneC (g [c0])).map fun r => (r.1, ε1.set i (.ob kd (cs.set k r.2))) else none
    | none => none
  | _ => none
theorem ins_part {K : Ek} {F R H : Hp} {σ : St} {ε : Cs} {i k : Nat} {v : V} {kd : Kd} {cs : List C} {c0 : C} {x m : Str} (s : Sep K F R H σ ε []) (hx : ε[i]? = some (.ob kd cs)) (hc : cs[k]? = some c0) (p : PlV K H σ ε i k v) (hi : isIns x m (some c0) = true) : ∃ a dx fs, v = .ref a ∧ H a = some (.ins (He.ga K.1 x) dx fs) ∧ fs.lookup m = none := by
  obtain ⟨fs, cs0, e, hm⟩ := isIns_eq hi
  cases e
  obtain ⟨f, ⟨a, vs, gg, k1, _, ⟨dx, k2, k3, _⟩, _⟩, _⟩ := (s.focus hx hc p).headT
  cases k1
  exact ⟨a, dx, _, rfl, k2, lookup_none hm⟩
section
variable {X : Cx}
theorem g_methP {pl : Sem Bool} {k k' : Nat} {x m : Str} {ps : List Str} {g : GM} {mp : PlM} {o : Expr} {apos pos : Pos} (h : KnM X.prog X.w X.K X.mg X.base k x m ps (spOf X.E 1 g)) (hr : Rm k' X.A) (hk : k ≤ k') (ho : PE X o (tPl X.E mp))
    (ht : eval (.Call (.Attribute o m apos) [] [] pos) X.env = (do
      let ov ← eval o X.env
      standAt apos.atName
      let (f, first) ← holding [ov] (getMethod ov m pl)
      callWith pos f first (backTo pos (starEach [] X.env)) (backToKw pos (keywordEach [] X.env))) := by rfl) :
    PE X (.Call (.Attribute o m apos) [] [] pos) (tE X.E (mMethP x m g mp)) :=
  (pe_methV h hr hk ho ht).weak fun σ H Q q => by
    obtain ⟨F, R, ε, c, ε', s, e, q⟩ := q
    unfold mMethP at e
    cases e1 : mp ε with
    | none => simp [e1] at e
    | some p =>
      obtain ⟨⟨i, k0⟩, ε1⟩ := p
      simp only [e1, Option.bind_eq_bind, Option.bind_some] at e
      split at e
      · rename_i kd cs hx
        split at e
        · rename_i c0 hc
          split at e
          · rename_i hi
            obtain ⟨⟨c', c1⟩, eg, er⟩ := Option.map_eq_some_iff.mp e
            cases er
            refine ⟨F, R, ε, i, k0, ε1, s, e1, fun v F1 H1 fm s1 pv => ?_⟩
            obtain ⟨a, dx, fs, ev, ha, hl⟩ := ins_part s1 hx hc pv hi
            exact ⟨a, dx, fs, ev, ha, hl, call_part s1 hx hc pv (oneC_eq eg) fun w F' H' fm2 s2 => q w F' H' (fm.trans fm2) s2⟩
          · cases e
        · cases e
      · cases e
end
def isNoC : C → Bool
  | .no => true
  | _ => false
end L2.M
namespace L2.M
open PySem PySem.Spec PyProof.Rows
end L2.M
namespace L2.M
open PySem PySem.Spec PyProof.Rows
end L2.M
namespace L2.M
open PySem PySem.Spec PyProof.Rows
end L2.M
namespace L2.M
open PySem PySem.Spec PyProof.Rows
def mMethX (x m : Str) (io : List Bool) (g : GX) (mo : OM) (ma : AM) : EXM := fun ε => do
  let (o, ε1) ← mo ε
  if isIns x m (cellO ε1 o) = true then do
    let (os, ε2) ← ma ε1
    let (os2, ε3) ← frz io (o :: os) ε2
    let (cs, ε4) ← lend os2 ε3
    let (r, cs') ← g cs
    some (r, wb os2 cs' ε4)
  else none
theorem tEX_meth {K : Ek} {W : Xw} {np : Nat} {g : GX} {x m : Str} {io : List Bool} {mo : OM} {ma : AM} {σ : St} {H : Hp} {Q : VK} (hio : io.length = np) (h : tEX K W (mMethX x m io g mo ma) σ H Q) : tMeth (He.ga K.1 x) m (spX K np g) [] (fun cls d H' => W cls d σ H') (tO K mo) (tA K ma) σ H Q := by
  obtain ⟨F, R, ε, r, ε', ok, e, q⟩ := h
  unfold mMethX at e
  cases e0 : mo ε with
  | none => simp [e0] at e
  | some p0 =>
    obtain ⟨o, ε1⟩ := p0
    simp only [e0, Option.bind_eq_bind, Option.bind_some] at e
    split at e
    · rename_i hi
      obtain ⟨fs, cs0, hc, hm⟩ := isIns_eq hi
      cases e1 : ma ε1 with
      | none => simp [e1] at e
      | some p =>
        obtain ⟨os, ε2⟩ := p
        cases e2 : frz io (o :: os) ε2 with
        | none => simp [e1, e2] at e
        | some p2 =>
          obtain ⟨os2, ε3⟩ := p2
          cases e3 : lend os2 ε3 with
          | none => simp [e1, e2, e3] at e
          | some p3 =>
            obtain ⟨cs, ε4⟩ := p3
            cases e4 : g cs with
            | none => simp [e1, e2, e3, e4] at e
            | some p4 =>
              obtain ⟨r', cs'⟩ := p4
              simp [e1, e2, e3, e4] at e
              obtain ⟨rfl, rfl⟩ := e
              refine ⟨F, R, ε, o, ε1, ok, e0, fun v F0 H0 fm0 v0 s0 => ?_⟩
              have ins : ∃ a dx as, v = .ref a ∧ H0 a = some (.ins (He.ga K.1 x) dx as) ∧ as.lookup m = none := by
                cases v0 with
                | @pl i _ _ _ hv _ =>
                  obtain ⟨o', f, k1, a, vs, gg, rfl, _, ⟨dx, k2, k3, _⟩, _⟩ := s0.cell hc
                  rw [hv] at k1
                  cases k1
                  exact ⟨a, dx, _, rfl, k2, lookup_none hm⟩
                | @tm c0 _ _ _ _ =>
                  cases hc
                  obtain ⟨f, ⟨a, vs, gg, k1, _, ⟨dx, k2, k3, _⟩, _⟩, _⟩ := s0.headT
                  cases k1
                  exact ⟨a, dx, _, rfl, k2, lookup_none hm⟩
              obtain ⟨a, dx, as, rfl, ha, hl⟩ := ins
              refine ⟨a, dx, as, rfl, ha, hl, ?_⟩
              obtain ⟨R1, s0', bk⟩ := s0.hides
              refine ⟨F0, R1, ε1, os, ε2, s0', e1, fun vs F1 H1 fm1 v1 s1 => ?_⟩
              have s1' := bk F1 H1 σ ε2 _ fm1 s1
              have v1' : OpV σ (.ref a :: vs) (o :: os) := by
                cases v0 with
                | pl h _ => exact .pl h v1
                | tm _ => exact .tm v1
              have s2 : Sep K F1 R H1 σ ε2 (tmO (o :: os) (.ref a :: vs) ++ []) := by
                rw [List.append_nil]
                cases o with
                | pl i => exact s1'
                | tm c => exact s1'
              obtain ⟨F2, fm2, s3, v2, l2⟩ := frz_ok s2 v1' e2
              obtain ⟨s4, l3⟩ := lend_ok s3 v2 e3
              rw [List.append_nil] at s4
              obtain ⟨R2, s5, back⟩ := call_sep s4 v2 l3
              refine ⟨by rw [List.append_nil, v2.len, l2]; exact hio, F2, R2, cs, r', cs', by rw [List.append_nil]; exact s5, e4, fun F' H' fm => ?_⟩
              cases r' with
              | inl c =>
                intro w p
                rw [List.append_nil] at p
                exact q F' H' (((fm0.trans fm1).trans fm2).trans fm) w (back F' H' cs' _ fm p)
              | inr y =>
                intro cls d p rx
                rw [List.append_nil] at p
                exact q F' H' (((fm0.trans fm1).trans fm2).trans fm) cls d (back F' H' cs' _ fm p) rx
    · cases e
/-- a class's method that may raise -/
structure KnMX (P : Program) (w : World) (K : PySem.W.Frag) (mg : Str → Option Value) (base : Heap) (k : Nat) (x m : Str) (ps : List Str) (sp : Sp) : Prop where
  ex : ∃ (f : Addr) (fd : FuncData), Cls K (He.ga K x) ∧ Meth K (He.ga K x) m f ∧ Binds K fd ps [] ∧ FnG P w K mg base (L2N.CX P w) k f fd ps sp
section
variable {fa : List He.Fa} {fn : List He.DefD} {K : PySem.W.Frag} {mg : Str → Option Value} {P : Program} {w : World} {base : Heap}
theorem knmx_mk (W : Wo fa fn K mg) (i j l : Nat) {N ps : List Str} {d : He.DefD} {k : Nat} {io : List Bool} {m : XM} {x y : Str} (hd : fn[i]? = some d) (hx : d.at_ = (x, some y)) (hc : fa[j]? = some (.cls x)) (hm : fa[l]? = some (.meth x y)) (pl : Plain d ps) (S : FnScope N ps d.scope)
    (hb : ∀ (f : Addr) (cdv : Value) (A : Around) (outer : List Env) (s : Shared) (H : Hp) (E : XK) (W : Xw), Rm k (cxX P w K mg base N d f cdv A outer s H E).A → L2N.Takes (cxX P w K mg base N d f cdv A outer s H E) W → PSs (cxX P w K mg base N d f cdv A outer s H E) d.body (tS (K, w) W (ios io) m)) :
    KnMX P w K mg base (k + 1) x y ps (spX (K, w) ps.length (semX io N.length m)) := by
  have W0 := W
  obtain ⟨h, X, G, c⟩ := W
  obtain ⟨fd, F⟩ := c.def_ i hd
  have eD : d.dvs K = [] := by unfold He.DefD.dvs; rw [pl.1]; rfl
  have eA : He.fAd K d.at_ = He.ma K (He.ga K x) y := by rw [hx]; rfl
  rw [eD, eA] at F
  exact ⟨⟨_, fd, W0.cls j hc, W0.meth l hm, F.bindsN pl.2.2, defX F S hb⟩⟩
end
section
variable {X : Cx} {W : Xw}
theorem x_methX {pl : Sem Bool} {k k' np : Nat} {x m : Str} {ps : List Str} {g : GX} {io : List Bool} {mo : OM} {ma : AM} {o e : Expr} {es : List Expr} {apos pos : Pos} (h : KnMX X.prog X.w X.K X.mg X.base k x m ps (spX X.E np g)) (tk : L2N.Takes X W) (hr : Rm k' X.A) (hk : k ≤ k') (ho : PE X o (tO X.E mo)) (ha : PA X (e :: es) (tA X.E ma)) (hio : io.length = np := by rfl)
    (hst : starEach (e :: es) X.env = (false, eval e X.env) :: starEach es X.env := by rfl) (hpl : (backTo pos (starEach es X.env)).any (·.1) = false := by rfl)
    (ht : eval (.Call (.Attribute o m apos) (e :: es) [] pos) X.env = (do
      let ov ← eval o X.env
      standAt apos.atName
      let (f, first) ← holding [ov] (getMethod ov m pl)
      callWith pos f first (backTo pos (starEach (e :: es) X.env)) (backToKw pos (keywordEach [] X.env))) := by rfl) :
    PE X (.Call (.Attribute o m apos) (e :: es) [] pos) (tEX X.E W (mMethX x m io g mo ma)) := by
  obtain ⟨f, fd, hc, hm, hbi, F⟩ := h.ex
  refine ⟨fun pins s σ H Q I q => ?_⟩
  have q2 := tEX_meth hio q
  refine PySem.W.methodCall_KW (pl := pl) (thn (ho.run pins s σ H _ I q2) fun u s1 ⟨v, H1, I1, rx, a, dx, fs, ex, ea, l, q3⟩ => ?_) ht
  subst ex
  obtain rfl : u = Value.ref a := rx
  refine getmeth_ok I1 ea hc hm l ?_
  refine PySem.W.callWith_K (first := [.ref a]) (h₀ := X.base) I.ok.mod.kin hm.kp (thn (ha.run pos pins s1 σ H1 _ I1 q3) fun us s2 ⟨vs, H2, I2, r, q4⟩ => ⟨I2.kIn, ?_⟩) hst hpl
  have q5 : spX X.E np g (.ref a :: (vs ++ [])) H2 Q (fun cls d H' => W cls d σ H') := q4
  rw [List.append_nil] at q5
  exact runX (us := .ref a :: us) (vs := .ref a :: vs) (F.mono hk) hr hbi (L2N.passAt tk σ) I2 (.cons rfl r) q5
end
def xFSet (i k : Nat) (x f : Str) (m : EXM) : XM := fun ε => do
  let (r, ε1) ← m ε
  match r with
  | .inl c => match ε1[i]? with
    | some (.ob (.ins y fs) cs) =>
      if y = x ∧ fs[k]? = some f ∧ k < cs.length ∧ cs.length < 1000 then some (.nx, ε1.set i (.ob (.ins y fs) (cs.set k c)))
      else none
    | _ => none
  | .inr y => some (.xc y, ε1)
section
variable {X : Cx} {W : Xw} {io : List Nat} {pos : Pos} {e : Expr} {m : EXM}
theorem z_xfset (i k : Nat) {x f y : Str} {p p2 : Pos} (hc : Cls X.K (He.ga X.K x)) (hn : NoAttr X.K (He.ga X.K x) f) (hv : PE X (.Name y p) (tVar i)) (he : PE X e (tEX X.E W m)) (hs : swapsWith e (some (.Attribute (.Name y p) f p2)) pos.line X.env = pure false := by rfl) :
    PS X (.Assign [.Attribute (.Name y p) f p2] e pos) (tS X.E W io (xFSet i k x f m)) := (ps_fld hv he hs).weak fun De σ H h => by
  obtain ⟨F, R, ε, fl, ε', s, e, q⟩ := h
  unfold xFSet at e
  cases e1 : m ε with
  | none => simp [e1] at e
  | some p =>
    obtain ⟨r, ε1⟩ := p
    simp only [e1, Option.bind_eq_bind, Option.bind_some] at e
    cases r with
    | inr y =>
      simp only [Option.some.injEq, Prod.mk.injEq] at e
      obtain ⟨rfl, rfl⟩ := e
      exact ⟨F, R, ε, .inr y, ε1, s, e1, fun F' H' fm cls d s' rx => q F' H' σ fm (StS.refl ..) cls d s' rx⟩
    | inl c =>
      dsimp only at e
      split at e
      · rename_i z fs cs hx
        split at e
        · rename_i hq
          cases e
          obtain ⟨rfl, hf, hk, hl⟩ := hq
          refine ⟨F, R, ε, .inl c, ε1, s, e1, fun F1 H1 fm v s1 => ?_⟩
          obtain ⟨a, vs, h1, ⟨dx, h2, h3, h4⟩, h5, k1⟩ := s1.part (kd' := .ins z fs) hx
          refine ⟨_, h1, a, _, dx, _, rfl, h2, hc, hn, by rw [List.length_zip]; omega, ?_⟩
          rw [putF_zip h4 h3 hf]
          exact q F1 _ σ fm (StS.refl σ) (k1 _ (vs.set k v) (cs.set k c) (fun gg f g r n => part_set g r n) ⟨dx, upd_same, by simpa using h3, h4⟩)
        · cases e
      · cases e
end
end L2.M
namespace L2.M
open PySem PySem.Spec PyProof.Rows
noncomputable def mCall2P (g : GM) (i0 i1 i2 j : Nat) : EM := fun ε => match ε[i0]?, ε[i1]?, ε[i2]?, ε[j]? with
  | some c0, some (.ob .ls cs1), some (.ob .ls cs2), some (.sh (.int n)) =>
    if isNoC c0 = false ∧ i0 ≠ i1 ∧ i0 ≠ i2 ∧ i1 ≠ i2 ∧ j ≠ i1 ∧ 0 ≤ n then
      match cs1[n.toNat]?, cs2[n.toNat]? with
        | some p1, some p2 => match g [c0, p1, p2] with
          | some (c, [d0, q1, q2]) => some (c, ((ε.set i0 d0).set i1 (.ob .ls (cs1.set n.toNat q1))).set i2 (.ob .ls (cs2.set n.toNat q2)))
          | _ => none
        | _, _ => none
    else none
  | _, _, _, _ => none
theorem pli_at {i j : Nat} {ε : Cs} {cs : List C} {n : Int} {p : C} (hi : ε[i]? = some (.ob .ls cs)) (hj : ε[j]? = some (.sh (.int n))) (h0 : 0 ≤ n) (hp : cs[n.toNat]? = some p) : mPlI i (mPl j) ε = some ((i, n.toNat), ε) := by
  have hl := (List.getElem?_eq_some_iff.mp hp).1
  have e : ixN cs.length n = some n.toNat := by
    unfold ixN
    rw [if_pos h0]
    by_cases c : n < cs.length
    · rw [if_pos c]
    · omega
  simp [mPlI, hi, mPl, hj, bor, e]
def tCall2P (K : Ek) (np : Nat) (g : GM) (ta : TA) : TE := fun σ H Q => ta σ H fun vs H1 => spOf K np g vs H1 Q E0
theorem tE_call2P {K : Ek} {g : GM} {i0 i1 i2 j : Nat} {σ : St} {H : Hp} {Q : VK} (h : tE K (mCall2P g i0 i1 i2 j) σ H Q) : tCall2P K 3 g (tCons (tVar i0) (tCons (tPl K (mPlI i1 (mPl j))) (tCons (tPl K (mPlI i2 (mPl j))) tNil))) σ H Q := by
  obtain ⟨F, R, ε, c, ε', s, e, q⟩ := h
  unfold mCall2P at e
  split at e
  · rename_i c0 cs1 cs2 n x0 x1 x2 xj
    split at e
    · rename_i hh
      obtain ⟨hn, n01, n02, n12, nj, h0⟩ := hh
      split at e
      · rename_i p1 p2 y1 y2
        split at e
        · rename_i c' d0 q1 q2 eg
          cases e
          have hne : c0 ≠ .no := by
            rintro rfl
            cases hn
          obtain ⟨v0, hv0⟩ := s.val x0 hne
          refine ⟨v0, hv0, F, R, ε, i1, n.toNat, ε, s, pli_at x1 xj h0 y1, fun v1 F1 H1 fm1 s1 pv1 => ?_⟩
          obtain ⟨w1, f1, R1, hw1, hr1, s1', back1⟩ := s1.hideX x1 fun z => nomatch z
          have x2' : (ε.set i1 .no)[i2]? = some (.ob .ls cs2) := by rw [List.getElem?_set_ne n12]; exact x2
          have xj' : (ε.set i1 .no)[j]? = some (.sh (.int n)) := by rw [List.getElem?_set_ne (Ne.symm nj)]; exact xj
          refine ⟨F1, R1, ε.set i1 .no, i2, n.toNat, ε.set i1 .no, s1', pli_at x2' xj' h0 y2, fun v2 F2 H2 fm2 s2 pv2 => ?_⟩
          obtain ⟨s3, hh1⟩ := back1 F2 H2 (ε.set i1 .no) [] fm2 s2
          rw [List.set_set, set_same x1] at s3
          have pv1' : PlV K H2 σ ε i1 n.toNat v1 := pv1.heap fun a ha => by
            obtain ⟨a', us, gg, e1, e2, _⟩ := hr1
            rw [ha] at hw1
            cases hw1
            cases e1
            exact hh1 a (by rw [e2]; exact List.mem_cons_self)
          have pv2' : PlV K H2 σ ε i2 n.toNat v2 := by
            obtain ⟨a, kd, cs, vs, z1, z2, z3, z4, z5⟩ := pv2
            rw [List.getElem?_set_ne n12] at z2
            exact ⟨a, kd, cs, vs, z1, z2, z3, z4, z5⟩
          have s4 := s3.focus x2 y2 pv2'
          have hx1 : (ε.set i2 (.ob .ls (cs2.set n.toNat .no)))[i1]? = some (.ob .ls cs1) := by rw [List.getElem?_set_ne (Ne.symm n12)]; exact x1
          have pv1'' : PlV K H2 σ (ε.set i2 (.ob .ls (cs2.set n.toNat .no))) i1 n.toNat v1 := by
            obtain ⟨a, kd, cs, vs, z1, z2, z3, z4, z5⟩ := pv1'
            exact ⟨a, kd, cs, vs, z1, by rw [List.getElem?_set_ne (Ne.symm n12)]; exact z2, z3, z4, z5⟩
          have s5 := s4.focus hx1 y1 pv1''
          have hx0 : ((ε.set i2 (.ob .ls (cs2.set n.toNat .no))).set i1 (.ob .ls (cs1.set n.toNat .no)))[i0]? = some c0 := by rw [List.getElem?_set_ne (Ne.symm n01), List.getElem?_set_ne (Ne.symm n02)]; exact x0
          have s6 := s5.take hx0 hv0
          have hl1 := (List.getElem?_eq_some_iff.mp x1).1
          have hl2 := (List.getElem?_eq_some_iff.mp x2).1
          have b1 : (((ε.set i2 (.ob .ls (cs2.set n.toNat .no))).set i1 (.ob .ls (cs1.set n.toNat .no))).set i0 .no)[i1]? = some (.ob .ls (cs1.set n.toNat .no)) := by
            rw [List.getElem?_set_ne n01]
            exact List.getElem?_set_self (by rw [List.length_set]; exact hl1)
          obtain ⟨w3, f3, R3, hw3, hr3, s7, back3⟩ := s6.hideX b1 fun z => nomatch z
          have b2 : ((((ε.set i2 (.ob .ls (cs2.set n.toNat .no))).set i1 (.ob .ls (cs1.set n.toNat .no))).set i0 .no).set i1 .no)[i2]? = some (.ob .ls (cs2.set n.toNat .no)) := by
            rw [List.getElem?_set_ne n12, List.getElem?_set_ne n02, List.getElem?_set_ne n12]
            exact List.getElem?_set_self hl2
          obtain ⟨w4, f4, R4, hw4, hr4, s8, back4⟩ := s7.hideX b2 fun z => nomatch z
          obtain ⟨R5, s9, back5⟩ := s8.enter
          refine ⟨rfl, F2, R5, [c0, p1, p2], c, [d0, q1, q2], s9, eg, fun w F' H' fm p' => ?_⟩
          have t1 := back5 F' H' [d0, q1, q2] [(w, c)] fm p'
          obtain ⟨t2, hh4⟩ := back4 F' H' _ _ fm t1
          obtain ⟨t3, hh3⟩ := back3 F' H' _ _ fm t2
          have t4 : Sep K F' R H' σ _ ((v0, d0) :: (v1, q1) :: (v2, q2) :: [(w, c)]) := t3
          have t5 := t4.put hv0
          have k1 : PlV K H' σ (ε.set i1 (.ob .ls (cs1.set n.toNat .no))) i1 n.toNat v1 := (pv1'.hole x1 .no).heap fun a ha => by
            obtain ⟨a', us, gg, e1, e2, _⟩ := hr3
            rw [ha] at hw3
            cases hw3
            cases e1
            exact hh3 a (by rw [e2]; exact List.mem_cons_self)
          have k2 : PlV K H' σ (ε.set i2 (.ob .ls (cs2.set n.toNat .no))) i2 n.toNat v2 := (pv2'.hole x2 .no).heap fun a ha => by
            obtain ⟨a', us, gg, e1, e2, _⟩ := hr4
            rw [ha] at hw4
            cases hw4
            cases e1
            exact hh4 a (by rw [e2]; exact List.mem_cons_self)
          have es : ((((((ε.set i2 (.ob .ls (cs2.set n.toNat .no))).set i1 (.ob .ls (cs1.set n.toNat .no))).set i0 .no).set i1 .no).set i2 .no).set i2 (.ob .ls (cs2.set n.toNat .no))).set i1 (.ob .ls (cs1.set n.toNat .no)) = ((ε.set i0 .no).set i1 (.ob .ls (cs1.set n.toNat .no))).set i2 (.ob .ls (cs2.set n.toNat .no)) := by
            refine List.ext_getElem? fun m => ?_
            by_cases m1 : i1 = m
            · subst m1
              simp [List.getElem?_set, n01, n02, n12, Ne.symm n01, Ne.symm n02, Ne.symm n12, hl1, hl2]
            · by_cases m2 : i2 = m
              · subst m2
                simp [List.getElem?_set, n01, n02, n12, Ne.symm n01, Ne.symm n02, Ne.symm n12, hl1, hl2]
              · simp [List.getElem?_set, m1, m2]
          rw [es] at t5
          have es2 : (((ε.set i0 .no).set i1 (.ob .ls (cs1.set n.toNat .no))).set i2 (.ob .ls (cs2.set n.toNat .no))).set i0 d0 = ((ε.set i0 d0).set i1 (.ob .ls (cs1.set n.toNat .no))).set i2 (.ob .ls (cs2.set n.toNat .no)) := by
            rw [List.set_comm _ _ (Ne.symm n02), List.set_comm _ _ (Ne.symm n01), List.set_set]
          rw [es2] at t5
          have g1 : (((ε.set i0 d0).set i1 (.ob .ls (cs1.set n.toNat .no))).set i2 (.ob .ls (cs2.set n.toNat .no)))[i1]? = some (.ob .ls (cs1.set n.toNat .no)) := by
            rw [List.getElem?_set_ne (Ne.symm n12)]
            exact List.getElem?_set_self (by rw [List.length_set]; exact hl1)
          have k1' : PlV K H' σ (((ε.set i0 d0).set i1 (.ob .ls (cs1.set n.toNat .no))).set i2 (.ob .ls (cs2.set n.toNat .no))) i1 n.toNat v1 := by
            obtain ⟨a, kd, cs, vs, z1, z2, z3, z4, z5⟩ := k1
            rw [List.getElem?_set_self hl1] at z2
            cases z2
            exact ⟨a, _, _, vs, z1, g1, z3, z4, z5⟩
          have t6 := t5.unfocus g1 k1'
          have es3 : (((ε.set i0 d0).set i1 (.ob .ls (cs1.set n.toNat .no))).set i2 (.ob .ls (cs2.set n.toNat .no))).set i1 (.ob .ls ((cs1.set n.toNat .no).set n.toNat q1)) = ((ε.set i0 d0).set i1 (.ob .ls (cs1.set n.toNat q1))).set i2 (.ob .ls (cs2.set n.toNat .no)) := by
            rw [List.set_comm _ _ (Ne.symm n12), List.set_set, List.set_set]
          rw [es3] at t6
          have g2 : (((ε.set i0 d0).set i1 (.ob .ls (cs1.set n.toNat q1))).set i2 (.ob .ls (cs2.set n.toNat .no)))[i2]? = some (.ob .ls (cs2.set n.toNat .no)) := List.getElem?_set_self (by rw [List.length_set, List.length_set]; exact hl2)
          have k2' : PlV K H' σ (((ε.set i0 d0).set i1 (.ob .ls (cs1.set n.toNat q1))).set i2 (.ob .ls (cs2.set n.toNat .no))) i2 n.toNat v2 := by
            obtain ⟨a, kd, cs, vs, z1, z2, z3, z4, z5⟩ := k2
            rw [List.getElem?_set_self hl2] at z2
            cases z2
            exact ⟨a, _, _, vs, z1, g2, z3, z4, z5⟩
          have t7 := t6.unfocus g2 k2'
          rw [List.set_set, List.set_set] at t7
          exact q w F' H' ((fm1.trans fm2).trans fm) t7
        · cases e
      · cases e
    · cases e
  · cases e
theorem g_call2P {X : Cx} {k k' : Nat} {x : Str} {ps : List Str} {g : GM} {i0 i1 i2 j : Nat} {e : Expr} {es : List Expr} {p pos : Pos} (h : KnG X.prog X.w X.K X.mg X.base k x ps (spOf X.E 3 g)) (hr : Rm k' X.A) (hk : k ≤ k') (hg : Gl X x) (ha : PA X (e :: es) (tCons (tVar i0) (tCons (tPl X.E (mPlI i1 (mPl j))) (tCons (tPl X.E (mPlI i2 (mPl j))) tNil))))
    (hdb : (x == ("__debug__" : Str)) = false := by decide) (he : starEach (e :: es) X.env = (false, eval e X.env) :: starEach es X.env := by rfl) (hpl : (backTo pos (starEach es X.env)).any (·.1) = false := by rfl) : PE X (.Call (.Name x p) (e :: es) [] pos) (tE X.E (mCall2P g i0 i1 i2 j)) := by
  obtain ⟨f, fd, hm, hkp, hbi, F⟩ := h.ex
  refine ⟨fun pins s σ H Q I q => ?_⟩
  have q2 := tE_call2P q
  refine wpAny_Call_Name_kw (ld_glob I hg hm ?_ hdb)
  exact PySem.W.callWith_K (h₀ := X.base) I.ok.mod.kin hkp (thn (ha.run pos pins s σ H _ I q2) fun us s1 ⟨vs, H1, I1, r, q3⟩ => ⟨I1.kIn, runG (F.mono hk) hr hbi I1 r q3⟩) he hpl
end L2.M
namespace KW
open PySem PySem.Spec PyProof.Rows L2 L2.M
def top (i : Nat) : Stmt := PySem.Challenge.pw_knockpurse_k49_gates_that_keep_their_sta.main.body.getD i (.Pass ⟨0, 0, 0, 0⟩)
abbrev st_is_whole : Stmt := top 10
def d_is_whole : He.DefD := ⟨("is_whole", none), "is_whole", "is_whole", defArgs st_is_whole, defBody st_is_whole, defScope st_is_whole, [], []⟩
abbrev st_is_from_to : Stmt := top 11
def d_is_from_to : He.DefD := ⟨("is_from_to", none), "is_from_to", "is_from_to", defArgs st_is_from_to, defBody st_is_from_to, defScope st_is_from_to, [], []⟩
abbrev st_lets : Stmt := top 14
def d_lets : He.DefD := ⟨("lets", none), "lets", "lets", defArgs st_lets, defBody st_lets, defScope st_lets, [], []⟩
abbrev st_heard : Stmt := top 15
def d_heard : He.DefD := ⟨("heard", none), "heard", "heard", defArgs st_heard, defBody st_heard, defScope st_heard, [], []⟩
abbrev st_Gate___init__ : Stmt := (clsBody (top 16)).getD 0 (.Pass ⟨0, 0, 0, 0⟩)
def d_Gate___init__ : He.DefD := ⟨("Gate", some "__init__"), "__init__", "Gate.__init__", defArgs st_Gate___init__, defBody st_Gate___init__, defScope st_Gate___init__, [], []⟩
abbrev st_Gate_check : Stmt := (clsBody (top 16)).getD 1 (.Pass ⟨0, 0, 0, 0⟩)
def d_Gate_check : He.DefD := ⟨("Gate", some "check"), "check", "Gate.check", defArgs st_Gate_check, defBody st_Gate_check, defScope st_Gate_check, [], []⟩
abbrev st_Gate_come : Stmt := (clsBody (top 16)).getD 2 (.Pass ⟨0, 0, 0, 0⟩)
def d_Gate_come : He.DefD := ⟨("Gate", some "come"), "come", "Gate.come", defArgs st_Gate_come, defBody st_Gate_come, defScope st_Gate_come, [], []⟩
abbrev st_Gate_hear : Stmt := (clsBody (top 16)).getD 3 (.Pass ⟨0, 0, 0, 0⟩)
def d_Gate_hear : He.DefD := ⟨("Gate", some "hear"), "hear", "Gate.hear", defArgs st_Gate_hear, defBody st_Gate_hear, defScope st_Gate_hear, [], []⟩
abbrev st_Gate_stands : Stmt := (clsBody (top 16)).getD 4 (.Pass ⟨0, 0, 0, 0⟩)
def d_Gate_stands : He.DefD := ⟨("Gate", some "stands"), "stands", "Gate.stands", defArgs st_Gate_stands, defBody st_Gate_stands, defScope st_Gate_stands, [], []⟩
abbrev st_law_cell_at : Stmt := top 18
def d_law_cell_at : He.DefD := ⟨("_law_cell_at", none), "_law_cell_at", "_law_cell_at", defArgs st_law_cell_at, defBody st_law_cell_at, defScope st_law_cell_at, [], []⟩
abbrev st_law_next : Stmt := top 19
def d_law_next : He.DefD := ⟨("_law_next", none), "_law_next", "_law_next", defArgs st_law_next, defBody st_law_next, defScope st_law_next, [], []⟩
abbrev st_law_pen_of : Stmt := top 20
def d_law_pen_of : He.DefD := ⟨("_law_pen_of", none), "_law_pen_of", "_law_pen_of", defArgs st_law_pen_of, defBody st_law_pen_of, defScope st_law_pen_of, [], []⟩
abbrev st_law_draw : Stmt := top 21
def d_law_draw : He.DefD := ⟨("_law_draw", none), "_law_draw", "_law_draw", defArgs st_law_draw, defBody st_law_draw, defScope st_law_draw, [], []⟩
abbrev st_law_gate : Stmt := top 22
def d_law_gate : He.DefD := ⟨("_law_gate", none), "_law_gate", "_law_gate", defArgs st_law_gate, defBody st_law_gate, defScope st_law_gate, [], []⟩
abbrev st_law_small_gate : Stmt := top 23
def d_law_small_gate : He.DefD := ⟨("_law_small_gate", none), "_law_small_gate", "_law_small_gate", defArgs st_law_small_gate, defBody st_law_small_gate, defScope st_law_small_gate, [], []⟩
abbrev st_law_lets : Stmt := top 24
def d_law_lets : He.DefD := ⟨("_law_lets", none), "_law_lets", "_law_lets", defArgs st_law_lets, defBody st_law_lets, defScope st_law_lets, [], []⟩
abbrev st_law_heard : Stmt := top 25
def d_law_heard : He.DefD := ⟨("_law_heard", none), "_law_heard", "_law_heard", defArgs st_law_heard, defBody st_law_heard, defScope st_law_heard, [], []⟩
abbrev st_law_flags : Stmt := top 26
def d_law_flags : He.DefD := ⟨("_law_flags", none), "_law_flags", "_law_flags", defArgs st_law_flags, defBody st_law_flags, defScope st_law_flags, [], []⟩
abbrev st_law_came : Stmt := top 27
def d_law_came : He.DefD := ⟨("_law_came", none), "_law_came", "_law_came", defArgs st_law_came, defBody st_law_came, defScope st_law_came, [], []⟩
abbrev st_law_was_told : Stmt := top 28
def d_law_was_told : He.DefD := ⟨("_law_was_told", none), "_law_was_told", "_law_was_told", defArgs st_law_was_told, defBody st_law_was_told, defScope st_law_was_told, [], []⟩
abbrev st_law_number : Stmt := top 29
def d_law_number : He.DefD := ⟨("_law_number", none), "_law_number", "_law_number", defArgs st_law_number, defBody st_law_number, defScope st_law_number, [], []⟩
abbrev st_law_beat : Stmt := top 30
def d_law_beat : He.DefD := ⟨("_law_beat", none), "_law_beat", "_law_beat", defArgs st_law_beat, defBody st_law_beat, defScope st_law_beat, [], []⟩
abbrev st_law_deed_right : Stmt := top 31
def d_law_deed_right : He.DefD := ⟨("_law_deed_right", none), "_law_deed_right", "_law_deed_right", defArgs st_law_deed_right, defBody st_law_deed_right, defScope st_law_deed_right, [], []⟩
abbrev st_law : Stmt := top 32
def d_law : He.DefD := ⟨("law", none), "law", "law", defArgs st_law, defBody st_law, defScope st_law, [], []⟩
def fn : List He.DefD := [d_is_whole, d_is_from_to, d_lets, d_heard, d_Gate___init__, d_Gate_check, d_Gate_come, d_Gate_hear, d_Gate_stands, d_law_cell_at, d_law_next, d_law_pen_of, d_law_draw, d_law_gate, d_law_small_gate, d_law_lets, d_law_heard, d_law_flags, d_law_came, d_law_was_told, d_law_number, d_law_beat, d_law_deed_right, d_law]
def fa : List He.Fa := [.glo "is_whole", .glo "is_from_to", .glo "lets", .glo "heard", .glo "_law_cell_at", .glo "_law_next", .glo "_law_pen_of", .glo "_law_draw", .glo "_law_gate", .glo "_law_small_gate", .glo "_law_lets", .glo "_law_heard", .glo "_law_flags", .glo "_law_came", .glo "_law_was_told", .glo "_law_number", .glo "_law_beat", .glo "_law_deed_right", .glo "law", .int "MOST_BEAT" 1000000, .free "isinstance", .free "int", .free "bool", .free "min", .free "len", .free "max", .free "ValueError", .free "RuntimeError", .free "ArithmeticError", .free "TypeError", .free "LookupError", .free "repr", .free "range", .exc "NoStep", .glo "NoStep", .cls "Gate", .noat "Gate" "latest", .noat "Gate" "now", .noat "Gate" "gate", .exc "NoNumber", .glo "NoNumber", .glo "TooGreat", .glo "NoText", .glo "NoStory", .glo "NoLine", .glo "NoBeat", .glo "KnockError", .meth "Gate" "__init__", .meth "Gate" "check", .meth "Gate" "come", .meth "Gate" "hear", .meth "Gate" "stands", .mkr "Gate", .glo "Gate"]
abbrev PP : List Str := ["NoStep", "NoNumber"]
abbrev CC : List Str := ["NoBeat", "NoStep", "NoNumber", "NoLine", "NoStory", "NoText", "TooGreat"]
abbrev FFs : List (Str × Str) := []
abbrev IIs : List Str := []
abbrev csA : List Ck := csOf PP CC ++ csF FFs ++ csI IIs
abbrev Vd (K : PySem.W.Frag) : Prop := ∀ k ∈ csA, k K = true
theorem vC {K : PySem.W.Frag} (V : Vd K) : ∀ k ∈ csOf PP CC, k K = true := fun k h => V k (List.mem_append_left _ (List.mem_append_left _ h))
theorem vF {K : PySem.W.Frag} (V : Vd K) : ∀ k ∈ csF FFs, k K = true := fun k h => V k (List.mem_append_left _ (List.mem_append_right _ h))
def okF (n : Str) : Xn → Bool := fun x => FFs.contains (x.cls, n)
theorem okF_ok {K : PySem.W.Frag} {n : Str} (V : Vd K) : ∀ x, okF n x = true → XfC K (He.ga K x.cls) ∧ PySem.W.findIn K (.ref (He.ga K x.cls)) n = some none := fun x h => csF_ok (vF V) (List.contains_iff_mem.mp h)
abbrev Wd (K : PySem.W.Frag) (mg : Str → Option Value) : Prop := Wo fa fn K mg
noncomputable def m_is_whole : XM := mSeq (mRet (mAndE (mIsi .int (mPl 0)) (mNotE (mIsi .bool (mPl 0))))) (mSkip)
noncomputable def g_is_whole : GM := semF [true] 1 m_is_whole
noncomputable def m_is_from_to : XM := mSeq (mRet (mAndE (mCall [true] g_is_whole (mCons (mPl 0) (mNil))) (mChn (mPl 1) [(cmpD .LtE, mPl 0), (cmpD .LtE, mPl 2)]))) (mSkip)
noncomputable def g_is_from_to : GM := semF [true, true, true] 3 m_is_from_to
noncomputable def m_lets : XM := mSeq (mIf (mTst (mB (cmpD .NotEq) (mTm (mB ixD (mPl 1) (mTm (mK (.int 0))))) (mTm (mK (.str "shut"))))) (mSeq (mRet (mTup (mCons (mTm (mK (.bool true))) (mCons (mPl 1) (mNil))))) (mSkip)) (mSkip)) (mSeq (mIf (mTst (mB (cmpD .Lt) (mPl 2) (mTm (mB ixD (mPl 1) (mTm (mK (.int 1))))))) (mSeq (mRet (mTup (mCons (mTm (mK (.bool false))) (mCons (mPl 1) (mNil))))) (mSkip)) (mSkip)) (mSeq (mRet (mTup (mCons (mTm (mK (.bool true))) (mCons (mTm (mTup (mCons (mTm (mK (.str "trying"))) (mCons (mTm (mK (.int 0))) (mCons (mTm (mB ixD (mPl 1) (mTm (mK (.int 2))))) (mNil)))))) (mNil))))) (mSkip)))
noncomputable def g_lets : GM := semF [true, true, true] 3 m_lets
noncomputable def m_heard : XM := mSeq (mAsg [4, 5, 6, 7, 8] [0, 1, 2, 3] (bTup [bNm 4, bNm 5, bNm 6, bNm 7, bNm 8]) (mVar 0)) (mSeq (mIf (mTst (mB (cmpD .Eq) (mTm (mB ixD (mPl 1) (mTm (mK (.int 0))))) (mTm (mK (.str "shut"))))) (mSeq (mRaise "NoStep") (mSkip)) (mSkip)) (mSeq (mIf (mTst (mB (cmpD .Eq) (mTm (mB ixD (mPl 1) (mTm (mK (.int 0))))) (mTm (mK (.str "open"))))) (mSeq (mIf (mTst (mVar 3)) (mSeq (mRet (mTup (mCons (mTm (mK (.str "open"))) (mCons (mTm (mK (.int 0))) (mNil))))) (mSkip)) (mSkip)) (mSeq (mIf (mTst (mB (cmpD .Lt) (mTm (mB (binD .Add) (mTm (mB ixD (mPl 1) (mTm (mK (.int 1))))) (mTm (mK (.int 1))))) (mPl 4))) (mSeq (mRet (mTup (mCons (mTm (mK (.str "open"))) (mCons (mTm (mB (binD .Add) (mTm (mB ixD (mPl 1) (mTm (mK (.int 1))))) (mTm (mK (.int 1))))) (mNil))))) (mSkip)) (mSkip)) (mSeq (mRet (mTup (mCons (mTm (mK (.str "shut"))) (mCons (mTm (mB (binD .Add) (mPl 2) (mPl 5))) (mCons (mPl 5) (mNil)))))) (mSkip)))) (mSkip)) (mSeq (mIf (mNotT (mTst (mVar 3))) (mSeq (mSet [0, 1, 2, 3] 9 (mOp (Bf.f .min) (mCons (mPl 7) (mCons (mTm (mB (binD .Mult) (mPl 6) (mTm (mB ixD (mPl 1) (mTm (mK (.int 2))))))) (mNil))))) (mSeq (mRet (mTup (mCons (mTm (mK (.str "shut"))) (mCons (mTm (mB (binD .Add) (mPl 2) (mPl 9))) (mCons (mPl 9) (mNil)))))) (mSkip))) (mSkip)) (mSeq (mIf (mTst (mB (cmpD .Lt) (mTm (mB (binD .Add) (mTm (mB ixD (mPl 1) (mTm (mK (.int 1))))) (mTm (mK (.int 1))))) (mPl 8))) (mSeq (mRet (mTup (mCons (mTm (mK (.str "trying"))) (mCons (mTm (mB (binD .Add) (mTm (mB ixD (mPl 1) (mTm (mK (.int 1))))) (mTm (mK (.int 1))))) (mCons (mTm (mB ixD (mPl 1) (mTm (mK (.int 2))))) (mNil)))))) (mSkip)) (mSkip)) (mSeq (mRet (mTup (mCons (mTm (mK (.str "open"))) (mCons (mTm (mK (.int 0))) (mNil))))) (mSkip))))))
noncomputable def g_heard : GX := semX [true, true, true, true] 10 m_heard
noncomputable def m_Gate___init__ : XM := mSeq (mFNew 0 "Gate" "gate" (mVar 1)) (mSeq (mFNew 0 "Gate" "now" (mTup (mCons (mTm (mK (.str "open"))) (mCons (mTm (mK (.int 0))) (mNil))))) (mSeq (mFNew 0 "Gate" "latest" (mK (.int 0))) (mSkip)))
noncomputable def g_Gate___init__ : GM := semF [true, true] 2 m_Gate___init__
noncomputable def m_Gate_check : XM := mSeq (mIf (mNotT (mTst (mCall [true, true, true] g_is_from_to (mCons (mPl 1) (mCons (mTm (mRd (mPlF 0 2 "Gate" "latest"))) (mCons (mTm (mK (.int 1000000))) (mNil))))))) (mSeq (mRaise "NoNumber") (mSkip)) (mSkip)) (mSkip)
noncomputable def g_Gate_check : GX := semX [true, true] 2 m_Gate_check
noncomputable def m_Gate_come : XM := mSeq (xExpr (mMethX "Gate" "check" [true, true] g_Gate_check (mPl 0) (mCons (mPl 1) (mNil)))) (mSeq (mFSet 0 2 "Gate" "latest" (mVar 1)) (mSeq (mSet [0, 1] 2 (mCall [true, true, true] g_lets (mCons (mTm (mRd (mPlF 0 0 "Gate" "gate"))) (mCons (mTm (mRd (mPlF 0 1 "Gate" "now"))) (mCons (mPl 1) (mNil)))))) (mSeq (mFSet 0 1 "Gate" "now" (mB ixD (mPl 2) (mTm (mK (.int 1))))) (mSeq (mRet (mB ixD (mPl 2) (mTm (mK (.int 0))))) (mSkip)))))
noncomputable def g_Gate_come : GX := semX [true, true] 3 m_Gate_come
noncomputable def m_Gate_hear : XM := mSeq (xExpr (mMethX "Gate" "check" [true, true] g_Gate_check (mPl 0) (mCons (mPl 1) (mNil)))) (mSeq (xFSet 0 1 "Gate" "now" (mCallX [true, true, true, true] g_heard (mCons (mTm (mRd (mPlF 0 0 "Gate" "gate"))) (mCons (mTm (mRd (mPlF 0 1 "Gate" "now"))) (mCons (mPl 1) (mCons (mPl 2) (mNil))))))) (mSeq (mFSet 0 2 "Gate" "latest" (mVar 1)) (mSkip)))
noncomputable def g_Gate_hear : GX := semX [true, true, true] 3 m_Gate_hear
noncomputable def m_Gate_stands : XM := mSeq (mRet (mRd (mPlF 0 1 "Gate" "now"))) (mSkip)
noncomputable def g_Gate_stands : GM := semF [true] 1 m_Gate_stands
noncomputable def m_law_cell_at : XM := mSeq (mIf (mTst (mB (cmpD .Lt) (mPl 1) (mTm (mOp (Bf.f .len) (mCons (mPl 0) (mNil)))))) (mSeq (mRet (mB ixD (mPl 0) (mPl 1))) (mSkip)) (mSkip)) (mSeq (mRet (mK (.int 0))) (mSkip))
noncomputable def g_law_cell_at : GM := semF [true, true] 2 m_law_cell_at
noncomputable def m_law_next : XM := mSeq (mSet [] 0 (mB (binD .Mod) (mTm (mB (binD .Add) (mPl 0) (mTm (mK (.int 7919))))) (mTm (mK (.int 2147483647))))) (mSeq (mRet (mB (binD .Mod) (mTm (mB (binD .Add) (mTm (mB (binD .Add) (mTm (mB (binD .Mult) (mPl 0) (mPl 0))) (mTm (mB (binD .Mult) (mTm (mK (.int 48271))) (mPl 0))))) (mTm (mK (.int 12345))))) (mTm (mK (.int 2147483629))))) (mSkip))
noncomputable def g_law_next : GM := semF [false] 1 m_law_next
noncomputable def m_law_pen_of : XM := mSeq (mSet [0] 1 (mOp (Bf.f .max) (mCons (mPl 0) (mCons (mTm (mB (binD .Sub) (mTm (mK (.int 0))) (mPl 0))) (mNil))))) (mSeq (mRet (mLst (mCons (mPl 1) (mCons (mTm (mOp (Bf.f .int) (mCons (mTm (mB (cmpD .GtE) (mPl 1) (mTm (mB (binD .Pow) (mTm (mK (.int 10))) (mTm (mK (.int 18))))))) (mNil)))) (mCons (mTm (mB (binD .Mod) (mPl 1) (mTm (mK (.int 1000003))))) (mNil)))))) (mSkip))
noncomputable def g_law_pen_of : GM := semF [true] 2 m_law_pen_of
noncomputable def m_law_draw : XM := mSeq (mIf (mAndT (mTst (mB (cmpD .Eq) (mTm (mB ixD (mPl 0) (mTm (mK (.int 1))))) (mTm (mK (.int 1))))) (mTst (mB (cmpD .Gt) (mTm (mB ixD (mPl 0) (mTm (mK (.int 0))))) (mTm (mK (.int 0)))))) (mSeq (mSet [0, 1] 2 (mB (binD .Mod) (mTm (mB ixD (mPl 0) (mTm (mK (.int 0))))) (mPl 1))) (mSeq (mSetIx 0 (mB (binD .FloorDiv) (mTm (mB ixD (mPl 0) (mTm (mK (.int 0))))) (mPl 1)) (mTm (mK (.int 0)))) (mSeq (mRetV [0, 1] 2) (mSkip)))) (mSkip)) (mSeq (mSetIx 0 (mCall [false] g_law_next (mCons (mTm (mB (binD .Add) (mTm (mCall [false] g_law_next (mCons (mTm (mB ixD (mPl 0) (mTm (mK (.int 2))))) (mNil)))) (mTm (mK (.int 7))))) (mNil))) (mTm (mK (.int 2)))) (mSeq (mRet (mB (binD .Mod) (mTm (mB (binD .FloorDiv) (mTm (mB ixD (mPl 0) (mTm (mK (.int 2))))) (mTm (mK (.int 64))))) (mPl 1))) (mSkip)))
noncomputable def g_law_draw : GM := semF [true, true] 3 m_law_draw
noncomputable def m_law_gate : XM := mSeq (mPar [0] [1, 2] (mCons (mTm (mCall [true, true] g_law_draw (mCons (mPl 0) (mCons (mTm (mK (.int 4))) (mNil))))) (mCons (mTm (mCall [true, true] g_law_draw (mCons (mPl 0) (mCons (mTm (mK (.int 4))) (mNil))))) (mNil)))) (mSeq (mSet [0] 3 (mB ixD (mTm (mLst (mCons (mTm (mK (.int 1))) (mCons (mTm (mB (binD .Add) (mTm (mK (.int 1))) (mTm (mCall [true, true] g_law_draw (mCons (mPl 0) (mCons (mTm (mK (.int 3))) (mNil))))))) (mCons (mTm (mK (.int 20))) (mCons (mTm (mB (binD .Add) (mTm (mK (.int 1))) (mTm (mCall [true, true] g_law_draw (mCons (mPl 0) (mCons (mTm (mK (.int 20))) (mNil))))))) (mNil))))))) (mPl 1))) (mSeq (mSet [0] 4 (mB ixD (mTm (mLst (mCons (mTm (mK (.int 1))) (mCons (mTm (mB (binD .Add) (mTm (mK (.int 1))) (mTm (mCall [true, true] g_law_draw (mCons (mPl 0) (mCons (mTm (mK (.int 12))) (mNil))))))) (mCons (mTm (mB (binD .Add) (mTm (mK (.int 1))) (mTm (mCall [true, true] g_law_draw (mCons (mPl 0) (mCons (mTm (mK (.int 1000))) (mNil))))))) (mCons (mTm (mK (.int 1000))) (mNil))))))) (mPl 2))) (mSeq (mPar [0] [5, 6] (mCons (mTm (mB (binD .Add) (mTm (mK (.int 1))) (mTm (mCall [true, true] g_law_draw (mCons (mPl 0) (mCons (mTm (mK (.int 10))) (mNil))))))) (mCons (mTm (mB (binD .Add) (mTm (mK (.int 1))) (mTm (mCall [true, true] g_law_draw (mCons (mPl 0) (mCons (mTm (mK (.int 10))) (mNil))))))) (mNil)))) (mSeq (mSet [0] 7 (mB ixD (mTm (mLst (mCons (mPl 4) (mCons (mTm (mK (.int 1000))) (mCons (mTm (mB (binD .Add) (mPl 4) (mTm (mCall [true, true] g_law_draw (mCons (mPl 0) (mCons (mTm (mB (binD .Sub) (mTm (mK (.int 1001))) (mPl 4))) (mNil))))))) (mNil)))))) (mTm (mCall [true, true] g_law_draw (mCons (mPl 0) (mCons (mTm (mK (.int 3))) (mNil))))))) (mSeq (mRet (mTup (mCons (mPl 3) (mCons (mPl 4) (mCons (mTm (mB ixD (mTm (mLst (mCons (mTm (mK (.int 1))) (mCons (mTm (mK (.int 2))) (mCons (mPl 5) (mNil)))))) (mTm (mCall [true, true] g_law_draw (mCons (mPl 0) (mCons (mTm (mK (.int 3))) (mNil))))))) (mCons (mPl 7) (mCons (mTm (mB ixD (mTm (mLst (mCons (mTm (mK (.int 1))) (mCons (mTm (mK (.int 2))) (mCons (mPl 6) (mNil)))))) (mTm (mCall [true, true] g_law_draw (mCons (mPl 0) (mCons (mTm (mK (.int 3))) (mNil))))))) (mNil)))))))) (mSkip))))))
noncomputable def g_law_gate : GM := semF [true] 8 m_law_gate
noncomputable def m_law_small_gate : XM := mSeq (mPar [0] [1, 2, 3] (mCons (mTm (mB (binD .Add) (mTm (mK (.int 1))) (mTm (mCall [true, true] g_law_draw (mCons (mPl 0) (mCons (mTm (mK (.int 4))) (mNil))))))) (mCons (mTm (mB (binD .Add) (mTm (mK (.int 1))) (mTm (mCall [true, true] g_law_draw (mCons (mPl 0) (mCons (mTm (mK (.int 6))) (mNil))))))) (mCons (mTm (mB (binD .Add) (mTm (mK (.int 1))) (mTm (mCall [true, true] g_law_draw (mCons (mPl 0) (mCons (mTm (mK (.int 3))) (mNil))))))) (mNil))))) (mSeq (mRet (mTup (mCons (mPl 1) (mCons (mPl 2) (mCons (mPl 3) (mCons (mTm (mB (binD .Add) (mPl 2) (mTm (mCall [true, true] g_law_draw (mCons (mPl 0) (mCons (mTm (mK (.int 20))) (mNil))))))) (mCons (mTm (mB (binD .Add) (mTm (mK (.int 1))) (mTm (mCall [true, true] g_law_draw (mCons (mPl 0) (mCons (mTm (mK (.int 3))) (mNil))))))) (mNil)))))))) (mSkip))
noncomputable def g_law_small_gate : GM := semF [true] 4 m_law_small_gate
noncomputable def m_law_lets : XM := mSeq (mIf (mAndT (mTst (mB (cmpD .Eq) (mTm (mB ixD (mPl 0) (mTm (mK (.int 0))))) (mTm (mK (.str "shut"))))) (mTst (mB (cmpD .GtE) (mPl 1) (mTm (mB ixD (mPl 0) (mTm (mK (.int 1)))))))) (mSeq (mRet (mTup (mCons (mTm (mK (.bool true))) (mCons (mTm (mTup (mCons (mTm (mK (.str "trying"))) (mCons (mTm (mK (.int 0))) (mCons (mTm (mB ixD (mPl 0) (mTm (mK (.int 2))))) (mNil)))))) (mNil))))) (mSkip)) (mSkip)) (mSeq (mRet (mTup (mCons (mTm (mB (cmpD .NotEq) (mTm (mB ixD (mPl 0) (mTm (mK (.int 0))))) (mTm (mK (.str "shut"))))) (mCons (mPl 0) (mNil))))) (mSkip))
noncomputable def g_law_lets : GM := semF [true, true] 2 m_law_lets
noncomputable def m_law_heard : XM := mSeq (mPar [0, 1, 2, 3] [4, 5] (mCons (mTm (mB ixD (mPl 1) (mTm (mK (.int 0))))) (mCons (mTm (mB (binD .Add) (mTm (mB ixD (mPl 1) (mTm (mK (.int 1))))) (mTm (mK (.int 1))))) (mNil)))) (mSeq (mIf (mAndT (mTst (mB (cmpD .Eq) (mPl 4) (mTm (mK (.str "open"))))) (mTst (mVar 3))) (mSeq (mRet (mTup (mCons (mTm (mK (.str "open"))) (mCons (mTm (mK (.int 0))) (mNil))))) (mSkip)) (mSkip)) (mSeq (mIf (mTst (mB (cmpD .Eq) (mPl 4) (mTm (mK (.str "open"))))) (mSeq (mRet (mIfE (mTst (mB (cmpD .Lt) (mPl 5) (mTm (mB ixD (mPl 0) (mTm (mK (.int 0))))))) (mTup (mCons (mTm (mK (.str "open"))) (mCons (mPl 5) (mNil)))) (mTup (mCons (mTm (mK (.str "shut"))) (mCons (mTm (mB (binD .Add) (mPl 2) (mTm (mB ixD (mPl 0) (mTm (mK (.int 1))))))) (mCons (mTm (mB ixD (mPl 0) (mTm (mK (.int 1))))) (mNil))))))) (mSkip)) (mSkip)) (mSeq (mIf (mTst (mVar 3)) (mSeq (mRet (mIfE (mTst (mB (cmpD .Lt) (mPl 5) (mTm (mB ixD (mPl 0) (mTm (mK (.int 4))))))) (mTup (mCons (mTm (mK (.str "trying"))) (mCons (mPl 5) (mCons (mTm (mB ixD (mPl 1) (mTm (mK (.int 2))))) (mNil))))) (mTup (mCons (mTm (mK (.str "open"))) (mCons (mTm (mK (.int 0))) (mNil)))))) (mSkip)) (mSkip)) (mSeq (mSet [0, 1, 2, 3] 6 (mOp (Bf.f .min) (mCons (mTm (mB ixD (mPl 0) (mTm (mK (.int 3))))) (mCons (mTm (mB (binD .Mult) (mTm (mB ixD (mPl 0) (mTm (mK (.int 2))))) (mTm (mB ixD (mPl 1) (mTm (mK (.int 2))))))) (mNil))))) (mSeq (mRet (mTup (mCons (mTm (mK (.str "shut"))) (mCons (mTm (mB (binD .Add) (mPl 2) (mPl 6))) (mCons (mPl 6) (mNil)))))) (mSkip))))))
noncomputable def g_law_heard : GM := semF [true, true, true, true] 7 m_law_heard
noncomputable def m_law_flags (a : Addr) (cls : Value) (d : Option Addr) : XM := mSeq (mSet [0] 1 (mLst (mCons (mTm (mIsX 0 a cls d (isC PP "NoBeat"))) (mCons (mTm (mIsX 0 a cls d (isC PP "NoStep"))) (mCons (mTm (mIsX 0 a cls d (isC PP "NoNumber"))) (mCons (mTm (mIsX 0 a cls d (isC PP "NoLine"))) (mNil))))))) (mSeq (mSet [0] 1 (mB (binD .Add) (mPl 1) (mTm (mLst (mCons (mTm (mIsX 0 a cls d (isC PP "NoStory"))) (mCons (mTm (mIsX 0 a cls d (isC PP "NoText"))) (mCons (mTm (mIsX 0 a cls d (isC PP "TooGreat"))) (mNil)))))))) (mSeq (mIf (mOrT (mNotT (mTst (mIsX 0 a cls d (isK PP true)))) (mTst (mIsX 0 a cls d (isK PP false)))) (mSeq (mRet (mTup (mCons (mTm (mK (.str "other"))) (mNil)))) (mSkip)) (mSkip)) (mSeq (mIf (mTst (mB (cmpD .NotEq) (mTm (mM cntL isL (mPl 1) (mCons (mTm (mK (.bool true))) (mNil)))) (mTm (mK (.int 1))))) (mSeq (mRet (mTup (mCons (mTm (mK (.str "other"))) (mNil)))) (mSkip)) (mSkip)) (mSeq (mSet [0] 2 (mB ixD (mTm (mLst (mCons (mTm (mK (.str "beat"))) (mCons (mTm (mK (.str "step"))) (mCons (mTm (mK (.str "number"))) (mCons (mTm (mK (.str "line"))) (mCons (mTm (mK (.str "story"))) (mCons (mTm (mK (.str "text"))) (mCons (mTm (mK (.str "great"))) (mNil)))))))))) (mTm (mM indexD isL (mPl 1) (mCons (mTm (mK (.bool true))) (mNil)))))) (mSeq (mRet (mIfE (mTst (mB (cmpD .Eq) (mPl 2) (mTm (mK (.str "great"))))) (mTup (mCons (mPl 2) (mCons (mTm (mFldX 0 a cls d "many" (okF "many"))) (mCons (mTm (mFldX 0 a cls d "most" (okF "most"))) (mNil))))) (mTup (mCons (mPl 2) (mNil))))) (mSkip))))))
noncomputable def g_law_flags : RGM := fun a cls d => semF [true] 3 (m_law_flags a cls d)
open Classical in
noncomputable def ref_law_flags : Xn → Option D := fun x => if x = ⟨"NoStep", []⟩ then some (.tuple [.str "step"]) else if x = ⟨"NoNumber", []⟩ then some (.tuple [.str "number"]) else none
theorem rf_law_flags : ∀ y r, ref_law_flags y = some r → y.cls ∈ PP := by
  intro y r h
  unfold ref_law_flags at h
  repeat' split at h
  all_goals first | (cases h; done) | (rename_i e; rw [e]; decide) | (rename_i e; obtain ⟨a, rfl⟩ := e; decide) | (rename_i e; obtain ⟨a, b, rfl⟩ := e; decide) | (rename_i e; obtain ⟨a, rfl⟩ := e; simp [PP]; done) | (rename_i e; obtain ⟨a, b, rfl⟩ := e; simp [PP]; done) | (subst_vars; decide)
theorem hG_law_flags (a : Addr) (cls : Value) (d : Option Addr) : ∀ x r, ref_law_flags x = some r → g_law_flags a cls d [.px a cls d x] = some (.sh r, [.px a cls d x]) := by
  intro x r h
  unfold ref_law_flags at h
  repeat' split at h
  all_goals first | (cases h; done) | (subst_vars; cases h; unfold g_law_flags m_law_flags; simp [semF, shared, after, mSeq, mSkip, mIf, mRet, mRetN, mRetV, mSet, mSetIx, mExpr, mB, mU, mTm, mPl, mK, mVar, mOp, mCons, mNil, bor, bors, mTst, mAndT, mOrT, mNotT, mAndE, mOrE, mNotE, mIfE, mIsi, isiD, mChn, chnL, cmpD, binD, addD, subD, mulD, modD, fdivD, powD, eqD, neD, ltD, leD, gtD, geD, isD, isnD, L2.M.isNon, negD, ixD, Bf.f, Bg.f, lenD, L2.M.intD, maxD, minD, repD, strD, gmaxD, gminD, sumD, sortD, anyD, allD, mCall, frz, fzO, lend, wb, mTup, mLst, fzs, cD, mAsg, bTup, bTps, mApp, tupD, lstD, mRev, revD, scD, emD, sizeLine_eq, ixN, sm_lit, mSrc, itemsD, plOf, rng1D, bNm, mSl, mPt, mNoP, slD, mPar, keepT, tmsO, setA, mFlow, zipX, enumX, itemsX, intsOf, ints_all, boolsOf, sortX_ints, mPlF, mPlI, mRd, mPU, mPB, mFSet, mFNew, mNSet, mPApp, mPSetIx, mPPop, mMeth, mNew, isIns, cellO, mLstN, mAddN, mAppN, semX, mTold, mCallX, mMethX, xFSet, mMethP, oneC, xRet, xExpr, xSet, mRaise, mM, isL, isS, mOrV, truD, strEq, strB, eqBB, eqII, eqSS, atI, PyData.canLay0, PyData.canLayAll0, mIsX, isC, isK, isCs, mFldX, okF, mM, isL, cntL, indexD, PP, List.lookup, List.findIdx?, List.findIdx?.go, SeqAt.shaped, PyData.depth, PyData.depthAll, List.countP, List.countP.go]; done) | (rename_i e; obtain ⟨a0, rfl⟩ := e; cases h; unfold g_law_flags m_law_flags; simp [semF, shared, after, mSeq, mSkip, mIf, mRet, mRetN, mRetV, mSet, mSetIx, mExpr, mB, mU, mTm, mPl, mK, mVar, mOp, mCons, mNil, bor, bors, mTst, mAndT, mOrT, mNotT, mAndE, mOrE, mNotE, mIfE, mIsi, isiD, mChn, chnL, cmpD, binD, addD, subD, mulD, modD, fdivD, powD, eqD, neD, ltD, leD, gtD, geD, isD, isnD, L2.M.isNon, negD, ixD, Bf.f, Bg.f, lenD, L2.M.intD, maxD, minD, repD, strD, gmaxD, gminD, sumD, sortD, anyD, allD, mCall, frz, fzO, lend, wb, mTup, mLst, fzs, cD, mAsg, bTup, bTps, mApp, tupD, lstD, mRev, revD, scD, emD, sizeLine_eq, ixN, sm_lit, mSrc, itemsD, plOf, rng1D, bNm, mSl, mPt, mNoP, slD, mPar, keepT, tmsO, setA, mFlow, zipX, enumX, itemsX, intsOf, ints_all, boolsOf, sortX_ints, mPlF, mPlI, mRd, mPU, mPB, mFSet, mFNew, mNSet, mPApp, mPSetIx, mPPop, mMeth, mNew, isIns, cellO, mLstN, mAddN, mAppN, semX, mTold, mCallX, mMethX, xFSet, mMethP, oneC, xRet, xExpr, xSet, mRaise, mM, isL, isS, mOrV, truD, strEq, strB, eqBB, eqII, eqSS, atI, PyData.canLay0, PyData.canLayAll0, mIsX, isC, isK, isCs, mFldX, okF, mM, isL, cntL, indexD, PP, List.lookup, List.findIdx?, List.findIdx?.go, SeqAt.shaped, PyData.depth, PyData.depthAll, List.countP, List.countP.go]; done) | (rename_i e; obtain ⟨a0, a1, rfl⟩ := e; cases h; unfold g_law_flags m_law_flags; simp [semF, shared, after, mSeq, mSkip, mIf, mRet, mRetN, mRetV, mSet, mSetIx, mExpr, mB, mU, mTm, mPl, mK, mVar, mOp, mCons, mNil, bor, bors, mTst, mAndT, mOrT, mNotT, mAndE, mOrE, mNotE, mIfE, mIsi, isiD, mChn, chnL, cmpD, binD, addD, subD, mulD, modD, fdivD, powD, eqD, neD, ltD, leD, gtD, geD, isD, isnD, L2.M.isNon, negD, ixD, Bf.f, Bg.f, lenD, L2.M.intD, maxD, minD, repD, strD, gmaxD, gminD, sumD, sortD, anyD, allD, mCall, frz, fzO, lend, wb, mTup, mLst, fzs, cD, mAsg, bTup, bTps, mApp, tupD, lstD, mRev, revD, scD, emD, sizeLine_eq, ixN, sm_lit, mSrc, itemsD, plOf, rng1D, bNm, mSl, mPt, mNoP, slD, mPar, keepT, tmsO, setA, mFlow, zipX, enumX, itemsX, intsOf, ints_all, boolsOf, sortX_ints, mPlF, mPlI, mRd, mPU, mPB, mFSet, mFNew, mNSet, mPApp, mPSetIx, mPPop, mMeth, mNew, isIns, cellO, mLstN, mAddN, mAppN, semX, mTold, mCallX, mMethX, xFSet, mMethP, oneC, xRet, xExpr, xSet, mRaise, mM, isL, isS, mOrV, truD, strEq, strB, eqBB, eqII, eqSS, atI, PyData.canLay0, PyData.canLayAll0, mIsX, isC, isK, isCs, mFldX, okF, mM, isL, cntL, indexD, PP, List.lookup, List.findIdx?, List.findIdx?.go, SeqAt.shaped, PyData.depth, PyData.depthAll, List.countP, List.countP.go]; done)
noncomputable def m_law_came : XM := mSeq (mTold [0, 1] 2 ref_law_flags (mMethX "Gate" "come" [true, true] g_Gate_come (mPl 0) (mCons (mPl 1) (mNil)))) (mSkip)
noncomputable def g_law_came : GM := semF [true, true] 3 m_law_came
noncomputable def m_law_was_told : XM := mSeq (mTold [0, 1, 2] 3 ref_law_flags (mMethX "Gate" "hear" [true, true, true] g_Gate_hear (mPl 0) (mCons (mPl 1) (mCons (mPl 2) (mNil))))) (mSkip)
noncomputable def g_law_was_told : GM := semF [true, true, true] 4 m_law_was_told
noncomputable def m_law_number : XM := mSeq (mRet (mAndE (mIsi .int (mPl 0)) (mAndE (mNotE (mIsi .bool (mPl 0))) (mChn (mPl 1) [(cmpD .LtE, mPl 0), (cmpD .LtE, mTm (mK (.int 1000000)))])))) (mSkip)
noncomputable def g_law_number : GM := semF [true, true] 2 m_law_number
noncomputable def m_law_beat : XM := mSeq (mPar [0, 1] [2, 3] (mCons (mTm (mCall [true, true] g_law_draw (mCons (mPl 0) (mCons (mTm (mK (.int 12))) (mNil))))) (mCons (mTm (mCall [true, true] g_law_draw (mCons (mPl 0) (mCons (mTm (mK (.int 14))) (mNil))))) (mNil)))) (mSeq (mSet [0, 1] 4 (mLst (mCons (mTm (mB (binD .Sub) (mPl 1) (mTm (mK (.int 1))))) (mCons (mTm (mU negD (mTm (mK (.int 1))))) (mCons (mTm (mK (.int 1000001))) (mCons (mTm (mK (.bool true))) (mCons (mTm (mK (.str "1"))) (mCons (mTm (mK .none)) (mCons (mTm (mLst (mCons (mPl 1) (mNil)))) (mCons (mTm (mB (binD .Pow) (mTm (mK (.int 10))) (mTm (mK (.int 60))))) (mNil))))))))))) (mSeq (mRet (mIfE (mTst (mB (cmpD .Lt) (mPl 3) (mTm (mK (.int 10))))) (mB (binD .Add) (mPl 1) (mTm (mB ixD (mTm (mLst (mCons (mTm (mK (.int 0))) (mCons (mTm (mK (.int 1))) (mCons (mPl 2) (mCons (mPl 2) (mNil))))))) (mTm (mB (binD .Mod) (mPl 3) (mTm (mK (.int 4)))))))) (mB ixD (mPl 4) (mTm (mCall [true, true] g_law_draw (mCons (mPl 0) (mCons (mTm (mK (.int 8))) (mNil)))))))) (mSkip)))
noncomputable def g_law_beat : GM := semF [true, true] 5 m_law_beat
noncomputable def m_law_deed_right : XM := mSeq (mPar [0, 1, 2] [3, 4, 5] (mCons (mTm (mCall [true, true] g_law_draw (mCons (mPl 0) (mCons (mTm (mK (.int 2))) (mNil))))) (mCons (mTm (mCall [true, true] g_law_beat (mCons (mPl 0) (mCons (mTm (mB ixD (mPl 2) (mTm (mK (.int 2))))) (mNil))))) (mCons (mTm (mB (cmpD .Eq) (mTm (mCall [true, true] g_law_draw (mCons (mPl 0) (mCons (mTm (mK (.int 3))) (mNil))))) (mTm (mK (.int 0))))) (mNil))))) (mSeq (mIf (mNotT (mTst (mCall [true, true] g_law_number (mCons (mPl 4) (mCons (mTm (mB ixD (mPl 2) (mTm (mK (.int 2))))) (mNil)))))) (mSeq (mSet [0, 1, 2] 6 (mIfE (mTst (mB (cmpD .Eq) (mPl 3) (mTm (mK (.int 0))))) (mCall [true, true] g_law_came (mCons (mPl 1) (mCons (mPl 4) (mNil)))) (mCall [true, true, true] g_law_was_told (mCons (mPl 1) (mCons (mPl 4) (mCons (mPl 5) (mNil))))))) (mSeq (mRet (mAndE (mB (cmpD .Eq) (mPl 6) (mTm (mTup (mCons (mTm (mK (.str "number"))) (mNil))))) (mB (cmpD .Eq) (mTm (mMeth "Gate" "stands" [true] g_Gate_stands (mPl 1) mNil)) (mTm (mB ixD (mPl 2) (mTm (mK (.int 1)))))))) (mSkip))) (mSkip)) (mSeq (mIf (mTst (mB (cmpD .Eq) (mPl 3) (mTm (mK (.int 0))))) (mSeq (mSet [0, 1, 2] 7 (mCall [true, true] g_law_lets (mCons (mTm (mB ixD (mPl 2) (mTm (mK (.int 1))))) (mCons (mPl 4) (mNil))))) (mSeq (mSet [0, 1, 2] 6 (mCall [true, true] g_law_came (mCons (mPl 1) (mCons (mPl 4) (mNil))))) (mSeq (mSetIx 2 (mB ixD (mPl 7) (mTm (mK (.int 1)))) (mTm (mK (.int 1)))) (mSeq (mSetIx 2 (mVar 4) (mTm (mK (.int 2)))) (mSeq (mRet (mAndE (mB (cmpD .Eq) (mTm (mOp reprG (mCons (mPl 6) (mNil)))) (mTm (mOp reprG (mCons (mTm (mB ixD (mPl 7) (mTm (mK (.int 0))))) (mNil))))) (mB (cmpD .Eq) (mTm (mOp reprG (mCons (mTm (mMeth "Gate" "stands" [true] g_Gate_stands (mPl 1) mNil)) (mNil)))) (mTm (mOp reprG (mCons (mTm (mB ixD (mPl 2) (mTm (mK (.int 1))))) (mNil))))))) (mSkip)))))) (mSkip)) (mSeq (mSet [0, 1, 2] 6 (mCall [true, true, true] g_law_was_told (mCons (mPl 1) (mCons (mPl 4) (mCons (mPl 5) (mNil)))))) (mSeq (mIf (mTst (mB (cmpD .Eq) (mTm (mB ixD (mTm (mB ixD (mPl 2) (mTm (mK (.int 1))))) (mTm (mK (.int 0))))) (mTm (mK (.str "shut"))))) (mSeq (mRet (mAndE (mB (cmpD .Eq) (mPl 6) (mTm (mTup (mCons (mTm (mK (.str "step"))) (mNil))))) (mB (cmpD .Eq) (mTm (mMeth "Gate" "stands" [true] g_Gate_stands (mPl 1) mNil)) (mTm (mB ixD (mPl 2) (mTm (mK (.int 1)))))))) (mSkip)) (mSkip)) (mSeq (mSetIx 2 (mCall [true, true, true, true] g_law_heard (mCons (mTm (mB ixD (mPl 2) (mTm (mK (.int 0))))) (mCons (mTm (mB ixD (mPl 2) (mTm (mK (.int 1))))) (mCons (mPl 4) (mCons (mPl 5) (mNil)))))) (mTm (mK (.int 1)))) (mSeq (mSetIx 2 (mVar 4) (mTm (mK (.int 2)))) (mSeq (mRet (mAndE (mB (cmpD .Is) (mPl 6) (mTm (mK .none))) (mB (cmpD .Eq) (mTm (mOp reprG (mCons (mTm (mMeth "Gate" "stands" [true] g_Gate_stands (mPl 1) mNil)) (mNil)))) (mTm (mOp reprG (mCons (mTm (mB ixD (mPl 2) (mTm (mK (.int 1))))) (mNil))))))) (mSkip))))))))
noncomputable def g_law_deed_right : GM := semF [true, true, true] 8 m_law_deed_right
noncomputable def m_law : XM := mSeq (mFor [] (mSrc itemsD (mCons (mTm (mB (binD .Add) (mTm (mLst (mCons (mTm (mCall [true, true] g_law_cell_at (mCons (mPl 0) (mCons (mTm (mK (.int 0))) (mNil))))) (mNil)))) (mTm (mSl (mPl 0) (mPt (mTm (mK (.int 1)))) (mPt (mTm (mK (.int 2)))))))) mNil)) (bNm 1) (mSeq (mSet [] 2 (mCall [true] g_law_pen_of (mCons (mPl 1) (mNil)))) (mSeq (mSet [] 3 (mCall [true] g_law_small_gate (mCons (mPl 2) (mNil)))) (mSeq (mSet [] 4 (mB ixD (mTm (mLst (mCons (mPl 3) (mCons (mTm (mCall [true] g_law_gate (mCons (mPl 2) (mNil)))) (mNil))))) (mTm (mCall [true, true] g_law_draw (mCons (mPl 2) (mCons (mTm (mK (.int 2))) (mNil))))))) (mSeq (mSet [] 5 (mLstN (mCons (mTm (mNew "Gate" [true] g_Gate___init__ (mCons (mPl 3) (mNil)))) (mCons (mTm (mNew "Gate" [true] g_Gate___init__ (mCons (mPl 4) (mNil)))) (mNil))))) (mSeq (mSet [] 6 (mLstN (mCons (mTm (mLst (mCons (mPl 3) (mCons (mTm (mTup (mCons (mTm (mK (.str "open"))) (mCons (mTm (mK (.int 0))) (mNil))))) (mCons (mTm (mK (.int 0))) (mNil)))))) (mCons (mTm (mLst (mCons (mPl 4) (mCons (mTm (mTup (mCons (mTm (mK (.str "open"))) (mCons (mTm (mK (.int 0))) (mNil))))) (mCons (mTm (mK (.int 0))) (mNil)))))) (mNil))))) (mSeq (mFor [] (mSrc rng1D (mCons (mTm (mK (.int 80))) (mNil))) (bNm 7) (mSeq (mSet [] 8 (mCall [true, true] g_law_draw (mCons (mPl 2) (mCons (mTm (mK (.int 2))) (mNil))))) (mSeq (mIf (mNotT (mTst (mCall2P g_law_deed_right 2 5 6 8))) (mSeq (mRet (mK (.bool false))) (mSkip)) (mSkip)) (mSeq (mIf (mTst (mB (cmpD .NotEq) (mTm (mOp reprG (mCons (mTm (mMethP "Gate" "stands" g_Gate_stands (mPlI 5 (mTm (mB (binD .Sub) (mTm (mK (.int 1))) (mPl 8)))))) (mNil)))) (mTm (mOp reprG (mCons (mTm (mPB ixD (mPlI 6 (mTm (mB (binD .Sub) (mTm (mK (.int 1))) (mPl 8)))) (mTm (mK (.int 1))))) (mNil)))))) (mSeq (mRet (mK (.bool false))) (mSkip)) (mSkip)) (mSkip))))) (mSkip)))))))) (mSeq (mRet (mK (.bool true))) (mSkip))
section
variable {P : Program} {w : World} {K : PySem.W.Frag} {mg : Str → Option Value} {base : Heap}
theorem sc_is_whole : FnScope ["thing"] ["thing"] (defScope st_is_whole) := ⟨rfl, rfl, rfl, by decide +kernel, rfl, by decide +kernel, by decide +kernel⟩
theorem pl_is_whole : Plain d_is_whole ["thing"] := ⟨rfl, rfl, fun _ _ _ _ _ _ us hl => match us, hl with | [_], _ => rfl⟩
theorem bd_is_whole (W : Wd K mg) (V : Vd K) (f : Addr) (cdv : Value) (A : Around) (outer : List Env) (s : Shared) (H : Hp) (E : XK) (hr : Rm 0 (cxN P w K mg base ["thing"] d_is_whole f cdv A outer s H E).A) : PSs (cxN P w K mg base ["thing"] d_is_whole f cdv A outer s H E) d_is_whole.body (tS (K, w) W0 (ios [true]) m_is_whole) :=
  have nd : (["thing"] : List Str).Nodup := sc_is_whole.nd
  ms_cons (ms_ret (me_and (x_isi .int rfl (W.free 20) (W.free 21) rfl rfl (mo_name (pv 0))) (me_one (me_not (x_isi .bool rfl (W.free 20) (W.free 22) rfl rfl (mo_name (pv 0))))))) (ms_nil)
theorem ok_is_whole (W : Wd K mg) (V : Vd K) : KnG P w K mg base 1 "is_whole" ["thing"] (spOf (K, w) 1 g_is_whole) := kng_mk W 0 0 rfl rfl rfl pl_is_whole sc_is_whole (bd_is_whole W V)
theorem sc_is_from_to : FnScope ["thing", "least", "most"] ["thing", "least", "most"] (defScope st_is_from_to) := ⟨rfl, rfl, rfl, by decide +kernel, rfl, by decide +kernel, by decide +kernel⟩
theorem pl_is_from_to : Plain d_is_from_to ["thing", "least", "most"] := ⟨rfl, rfl, fun _ _ _ _ _ _ us hl => match us, hl with | [_, _, _], _ => rfl⟩
theorem bd_is_from_to (W : Wd K mg) (V : Vd K) (f : Addr) (cdv : Value) (A : Around) (outer : List Env) (s : Shared) (H : Hp) (E : XK) (hr : Rm 1 (cxN P w K mg base ["thing", "least", "most"] d_is_from_to f cdv A outer s H E).A) : PSs (cxN P w K mg base ["thing", "least", "most"] d_is_from_to f cdv A outer s H E) d_is_from_to.body (tS (K, w) W0 (ios [true, true, true]) m_is_from_to) :=
  have nd : (["thing", "least", "most"] : List Str).Nodup := sc_is_from_to.nd
  ms_cons (ms_ret (me_and (g_call (ok_is_whole W V) hr (by decide) rfl (ma_cons (mo_name (pv 0)) (ma_nil))) (me_one (x_chain (mo_name (pv 1)) (ch_cons hr.toRoom (mo_name (pv 0)) (ch_one hr.toRoom (mo_name (pv 2)))))))) (ms_nil)
theorem ok_is_from_to (W : Wd K mg) (V : Vd K) : KnG P w K mg base 2 "is_from_to" ["thing", "least", "most"] (spOf (K, w) 3 g_is_from_to) := kng_mk W 1 1 rfl rfl rfl pl_is_from_to sc_is_from_to (bd_is_from_to W V)
theorem sc_lets : FnScope ["gate", "standing", "beat"] ["gate", "standing", "beat"] (defScope st_lets) := ⟨rfl, rfl, rfl, by decide +kernel, rfl, by decide +kernel, by decide +kernel⟩
theorem pl_lets : Plain d_lets ["gate", "standing", "beat"] := ⟨rfl, rfl, fun _ _ _ _ _ _ us hl => match us, hl with | [_, _, _], _ => rfl⟩
theorem bd_lets (W : Wd K mg) (V : Vd K) (f : Addr) (cdv : Value) (A : Around) (outer : List Env) (s : Shared) (H : Hp) (E : XK) (hr : Rm 0 (cxN P w K mg base ["gate", "standing", "beat"] d_lets f cdv A outer s H E).A) : PSs (cxN P w K mg base ["gate", "standing", "beat"] d_lets f cdv A outer s H E) d_lets.body (tS (K, w) W0 (ios [true, true, true]) m_lets) :=
  have nd : (["gate", "standing", "beat"] : List Str).Nodup := sc_lets.nd
  ms_cons (ms_if (y_cmp hr.toRoom (mo_tm (x_ix (mo_name (pv 1)) (mo_tm (me_int)))) (mo_tm (me_str))) (ms_cons (ms_ret (me_tup (ma_cons (mo_tm (me_bl)) (ma_cons (mo_name (pv 1)) (ma_nil))))) (ms_nil)) (ms_nil)) (ms_cons (ms_if (y_cmp hr.toRoom (mo_name (pv 2)) (mo_tm (x_ix (mo_name (pv 1)) (mo_tm (me_int))))) (ms_cons (ms_ret (me_tup (ma_cons (mo_tm (me_bl)) (ma_cons (mo_name (pv 1)) (ma_nil))))) (ms_nil)) (ms_nil)) (ms_cons (ms_ret (me_tup (ma_cons (mo_tm (me_bl)) (ma_cons (mo_tm (me_tup (ma_cons (mo_tm (me_str)) (ma_cons (mo_tm (me_int)) (ma_cons (mo_tm (x_ix (mo_name (pv 1)) (mo_tm (me_int)))) (ma_nil)))))) (ma_nil))))) (ms_nil)))
theorem ok_lets (W : Wd K mg) (V : Vd K) : KnG P w K mg base 1 "lets" ["gate", "standing", "beat"] (spOf (K, w) 3 g_lets) := kng_mk W 2 2 rfl rfl rfl pl_lets sc_lets (bd_lets W V)
theorem sc_heard : FnScope ["gate", "standing", "beat", "answered", "fails", "rest", "times", "most", "trials", "now"] ["gate", "standing", "beat", "answered"] (defScope st_heard) := ⟨rfl, rfl, rfl, by decide +kernel, rfl, by decide +kernel, by decide +kernel⟩
theorem pl_heard : Plain d_heard ["gate", "standing", "beat", "answered"] := ⟨rfl, rfl, fun _ _ _ _ _ _ us hl => match us, hl with | [_, _, _, _], _ => rfl⟩
theorem bd_heard (W : Wd K mg) (V : Vd K) (f : Addr) (cdv : Value) (A : Around) (outer : List Env) (s : Shared) (H : Hp) (E : XK) (Wx : Xw) (hr : Rm 0 (cxX P w K mg base ["gate", "standing", "beat", "answered", "fails", "rest", "times", "most", "trials", "now"] d_heard f cdv A outer s H E).A) (tk : L2N.Takes (cxX P w K mg base ["gate", "standing", "beat", "answered", "fails", "rest", "times", "most", "trials", "now"] d_heard f cdv A outer s H E) Wx) : PSs (cxX P w K mg base ["gate", "standing", "beat", "answered", "fails", "rest", "times", "most", "trials", "now"] d_heard f cdv A outer s H E) d_heard.body (tS (K, w) Wx (ios [true, true, true, true]) m_heard) :=
  have nd : (["gate", "standing", "beat", "answered", "fails", "rest", "times", "most", "trials", "now"] : List Str).Nodup := sc_heard.nd
  ms_cons (z_asg (Gd.imp (gd_tup rfl (gds_cons (gd_name) (gds_cons (gd_name) (gds_cons (gd_name) (gds_cons (gd_name) (gds_cons (gd_name) (gds_nil))))))) (by intro j h; simpa using h)) (pg_tup rfl (pgs_cons (g_nm 4 nd) (pgs_cons (g_nm 5 nd) (pgs_cons (g_nm 6 nd) (pgs_cons (g_nm 7 nd) (pgs_cons (g_nm 8 nd) (pgs_nil))))))) (me_name (pv 0))) (ms_cons (ms_if (y_cmp hr.toRoom (mo_tm (x_ix (mo_name (pv 1)) (mo_tm (me_int)))) (mo_tm (me_str))) (ms_cons (z_raise0 rfl tk (W.exc 33) (W.glo 34) rfl) (ms_nil)) (ms_nil)) (ms_cons (ms_if (y_cmp hr.toRoom (mo_tm (x_ix (mo_name (pv 1)) (mo_tm (me_int)))) (mo_tm (me_str))) (ms_cons (ms_if (y_val (me_name (pv 3))) (ms_cons (ms_ret (me_tup (ma_cons (mo_tm (me_str)) (ma_cons (mo_tm (me_int)) (ma_nil))))) (ms_nil)) (ms_nil)) (ms_cons (ms_if (y_cmp hr.toRoom (mo_tm (x_bin (mo_tm (x_ix (mo_name (pv 1)) (mo_tm (me_int)))) (mo_tm (me_int)))) (mo_name (pv 4))) (ms_cons (ms_ret (me_tup (ma_cons (mo_tm (me_str)) (ma_cons (mo_tm (x_bin (mo_tm (x_ix (mo_name (pv 1)) (mo_tm (me_int)))) (mo_tm (me_int)))) (ma_nil))))) (ms_nil)) (ms_nil)) (ms_cons (ms_ret (me_tup (ma_cons (mo_tm (me_str)) (ma_cons (mo_tm (x_bin (mo_name (pv 2)) (mo_name (pv 5)))) (ma_cons (mo_name (pv 5)) (ma_nil)))))) (ms_nil)))) (ms_nil)) (ms_cons (ms_if (mt_not (y_val (me_name (pv 3)))) (ms_cons (z_set 9 nd (x_bf .min rfl (W.free 23) rfl rfl (ma_cons (mo_name (pv 7)) (ma_cons (mo_tm (x_bin (mo_name (pv 6)) (mo_tm (x_ix (mo_name (pv 1)) (mo_tm (me_int)))))) (ma_nil))))) (ms_cons (ms_ret (me_tup (ma_cons (mo_tm (me_str)) (ma_cons (mo_tm (x_bin (mo_name (pv 2)) (mo_name (pv 9)))) (ma_cons (mo_name (pv 9)) (ma_nil)))))) (ms_nil))) (ms_nil)) (ms_cons (ms_if (y_cmp hr.toRoom (mo_tm (x_bin (mo_tm (x_ix (mo_name (pv 1)) (mo_tm (me_int)))) (mo_tm (me_int)))) (mo_name (pv 8))) (ms_cons (ms_ret (me_tup (ma_cons (mo_tm (me_str)) (ma_cons (mo_tm (x_bin (mo_tm (x_ix (mo_name (pv 1)) (mo_tm (me_int)))) (mo_tm (me_int)))) (ma_cons (mo_tm (x_ix (mo_name (pv 1)) (mo_tm (me_int)))) (ma_nil)))))) (ms_nil)) (ms_nil)) (ms_cons (ms_ret (me_tup (ma_cons (mo_tm (me_str)) (ma_cons (mo_tm (me_int)) (ma_nil))))) (ms_nil))))))
theorem ok_heard (W : Wd K mg) (V : Vd K) : KnX P w K mg base 1 "heard" ["gate", "standing", "beat", "answered"] (spX (K, w) 4 g_heard) := knx_mk W 3 3 rfl rfl rfl pl_heard sc_heard (fun f cdv A outer s H E Wx hr tk => bd_heard W V f cdv A outer s H E Wx hr tk)
theorem sc_Gate___init__ : FnScope ["self", "gate"] ["self", "gate"] (defScope st_Gate___init__) := ⟨rfl, rfl, rfl, by decide +kernel, rfl, by decide +kernel, by decide +kernel⟩
theorem pl_Gate___init__ : Plain d_Gate___init__ ["self", "gate"] := ⟨rfl, rfl, fun _ _ _ _ _ _ us hl => match us, hl with | [_, _], _ => rfl⟩
theorem bd_Gate___init__ (W : Wd K mg) (V : Vd K) (f : Addr) (cdv : Value) (A : Around) (outer : List Env) (s : Shared) (H : Hp) (E : XK) (hr : Rm 0 (cxN P w K mg base ["self", "gate"] d_Gate___init__ f cdv A outer s H E).A) : PSs (cxN P w K mg base ["self", "gate"] d_Gate___init__ f cdv A outer s H E) d_Gate___init__.body (tS (K, w) W0 (ios [true, true]) m_Gate___init__) :=
  have nd : (["self", "gate"] : List Str).Nodup := sc_Gate___init__.nd
  ms_cons (z_fnew 0 (W.cls 35) (W.noat 38) (pv 0) (me_name (pv 1))) (ms_cons (z_fnew 0 (W.cls 35) (W.noat 37) (pv 0) (me_tup (ma_cons (mo_tm (me_str)) (ma_cons (mo_tm (me_int)) (ma_nil))))) (ms_cons (z_fnew 0 (W.cls 35) (W.noat 36) (pv 0) (me_int)) (ms_nil)))
theorem ok_Gate___init__ (W : Wd K mg) (V : Vd K) : KnI P w K mg base 1 "Gate" ["self", "gate"] (spOf (K, w) 2 g_Gate___init__) := kni_mk W 4 53 52 rfl rfl rfl rfl pl_Gate___init__ sc_Gate___init__ (bd_Gate___init__ W V)
theorem sc_Gate_check : FnScope ["self", "beat"] ["self", "beat"] (defScope st_Gate_check) := ⟨rfl, rfl, rfl, by decide +kernel, rfl, by decide +kernel, by decide +kernel⟩
theorem pl_Gate_check : Plain d_Gate_check ["self", "beat"] := ⟨rfl, rfl, fun _ _ _ _ _ _ us hl => match us, hl with | [_, _], _ => rfl⟩
theorem bd_Gate_check (W : Wd K mg) (V : Vd K) (f : Addr) (cdv : Value) (A : Around) (outer : List Env) (s : Shared) (H : Hp) (E : XK) (Wx : Xw) (hr : Rm 2 (cxX P w K mg base ["self", "beat"] d_Gate_check f cdv A outer s H E).A) (tk : L2N.Takes (cxX P w K mg base ["self", "beat"] d_Gate_check f cdv A outer s H E) Wx) : PSs (cxX P w K mg base ["self", "beat"] d_Gate_check f cdv A outer s H E) d_Gate_check.body (tS (K, w) Wx (ios [true, true]) m_Gate_check) :=
  have nd : (["self", "beat"] : List Str).Nodup := sc_Gate_check.nd
  ms_cons (ms_if (mt_not (y_val (g_call (ok_is_from_to W V) hr (by decide) rfl (ma_cons (mo_name (pv 1)) (ma_cons (mo_tm (x_rd (x_fld 0 2 (W.cls 35) (W.noat 36) (pv 0)))) (ma_cons (mo_tm (x_gint (W.int 19) rfl)) (ma_nil))))))) (ms_cons (z_raise0 rfl tk (W.exc 39) (W.glo 40) rfl) (ms_nil)) (ms_nil)) (ms_nil)
theorem ok_Gate_check (W : Wd K mg) (V : Vd K) : KnMX P w K mg base 3 "Gate" "check" ["self", "beat"] (spX (K, w) 2 g_Gate_check) := knmx_mk W 5 35 48 rfl rfl rfl rfl pl_Gate_check sc_Gate_check (fun f cdv A outer s H E Wx hr tk => bd_Gate_check W V f cdv A outer s H E Wx hr tk)
theorem sc_Gate_come : FnScope ["self", "beat", "found"] ["self", "beat"] (defScope st_Gate_come) := ⟨rfl, rfl, rfl, by decide +kernel, rfl, by decide +kernel, by decide +kernel⟩
theorem pl_Gate_come : Plain d_Gate_come ["self", "beat"] := ⟨rfl, rfl, fun _ _ _ _ _ _ us hl => match us, hl with | [_, _], _ => rfl⟩
theorem bd_Gate_come (W : Wd K mg) (V : Vd K) (f : Addr) (cdv : Value) (A : Around) (outer : List Env) (s : Shared) (H : Hp) (E : XK) (Wx : Xw) (hr : Rm 3 (cxX P w K mg base ["self", "beat", "found"] d_Gate_come f cdv A outer s H E).A) (tk : L2N.Takes (cxX P w K mg base ["self", "beat", "found"] d_Gate_come f cdv A outer s H E) Wx) : PSs (cxX P w K mg base ["self", "beat", "found"] d_Gate_come f cdv A outer s H E) d_Gate_come.body (tS (K, w) Wx (ios [true, true]) m_Gate_come) :=
  have nd : (["self", "beat", "found"] : List Str).Nodup := sc_Gate_come.nd
  ms_cons (z_xexpr (x_methX (ok_Gate_check W V) tk hr (by decide) (mo_name (pv 0)) (ma_cons (mo_name (pv 1)) (ma_nil)))) (ms_cons (z_fset 0 2 (W.cls 35) (W.noat 36) (pv 0) (me_name (pv 1))) (ms_cons (z_set 2 nd (g_call (ok_lets W V) hr (by decide) rfl (ma_cons (mo_tm (x_rd (x_fld 0 0 (W.cls 35) (W.noat 38) (pv 0)))) (ma_cons (mo_tm (x_rd (x_fld 0 1 (W.cls 35) (W.noat 37) (pv 0)))) (ma_cons (mo_name (pv 1)) (ma_nil)))))) (ms_cons (z_fset 0 1 (W.cls 35) (W.noat 37) (pv 0) (x_ix (mo_name (pv 2)) (mo_tm (me_int)))) (ms_cons (ms_ret (x_ix (mo_name (pv 2)) (mo_tm (me_int)))) (ms_nil)))))
theorem ok_Gate_come (W : Wd K mg) (V : Vd K) : KnMX P w K mg base 4 "Gate" "come" ["self", "beat"] (spX (K, w) 2 g_Gate_come) := knmx_mk W 6 35 49 rfl rfl rfl rfl pl_Gate_come sc_Gate_come (fun f cdv A outer s H E Wx hr tk => bd_Gate_come W V f cdv A outer s H E Wx hr tk)
theorem sc_Gate_hear : FnScope ["self", "beat", "answered"] ["self", "beat", "answered"] (defScope st_Gate_hear) := ⟨rfl, rfl, rfl, by decide +kernel, rfl, by decide +kernel, by decide +kernel⟩
theorem pl_Gate_hear : Plain d_Gate_hear ["self", "beat", "answered"] := ⟨rfl, rfl, fun _ _ _ _ _ _ us hl => match us, hl with | [_, _, _], _ => rfl⟩
theorem bd_Gate_hear (W : Wd K mg) (V : Vd K) (f : Addr) (cdv : Value) (A : Around) (outer : List Env) (s : Shared) (H : Hp) (E : XK) (Wx : Xw) (hr : Rm 3 (cxX P w K mg base ["self", "beat", "answered"] d_Gate_hear f cdv A outer s H E).A) (tk : L2N.Takes (cxX P w K mg base ["self", "beat", "answered"] d_Gate_hear f cdv A outer s H E) Wx) : PSs (cxX P w K mg base ["self", "beat", "answered"] d_Gate_hear f cdv A outer s H E) d_Gate_hear.body (tS (K, w) Wx (ios [true, true, true]) m_Gate_hear) :=
  have nd : (["self", "beat", "answered"] : List Str).Nodup := sc_Gate_hear.nd
  ms_cons (z_xexpr (x_methX (ok_Gate_check W V) tk hr (by decide) (mo_name (pv 0)) (ma_cons (mo_name (pv 1)) (ma_nil)))) (ms_cons (z_xfset 0 1 (W.cls 35) (W.noat 37) (pv 0) (x_callX (ok_heard W V) tk hr (by decide) rfl (ma_cons (mo_tm (x_rd (x_fld 0 0 (W.cls 35) (W.noat 38) (pv 0)))) (ma_cons (mo_tm (x_rd (x_fld 0 1 (W.cls 35) (W.noat 37) (pv 0)))) (ma_cons (mo_name (pv 1)) (ma_cons (mo_name (pv 2)) (ma_nil))))))) (ms_cons (z_fset 0 2 (W.cls 35) (W.noat 36) (pv 0) (me_name (pv 1))) (ms_nil)))
theorem ok_Gate_hear (W : Wd K mg) (V : Vd K) : KnMX P w K mg base 4 "Gate" "hear" ["self", "beat", "answered"] (spX (K, w) 3 g_Gate_hear) := knmx_mk W 7 35 50 rfl rfl rfl rfl pl_Gate_hear sc_Gate_hear (fun f cdv A outer s H E Wx hr tk => bd_Gate_hear W V f cdv A outer s H E Wx hr tk)
theorem sc_Gate_stands : FnScope ["self"] ["self"] (defScope st_Gate_stands) := ⟨rfl, rfl, rfl, by decide +kernel, rfl, by decide +kernel, by decide +kernel⟩
theorem pl_Gate_stands : Plain d_Gate_stands ["self"] := ⟨rfl, rfl, fun _ _ _ _ _ _ us hl => match us, hl with | [_], _ => rfl⟩
theorem bd_Gate_stands (W : Wd K mg) (V : Vd K) (f : Addr) (cdv : Value) (A : Around) (outer : List Env) (s : Shared) (H : Hp) (E : XK) (hr : Rm 0 (cxN P w K mg base ["self"] d_Gate_stands f cdv A outer s H E).A) : PSs (cxN P w K mg base ["self"] d_Gate_stands f cdv A outer s H E) d_Gate_stands.body (tS (K, w) W0 (ios [true]) m_Gate_stands) :=
  have nd : (["self"] : List Str).Nodup := sc_Gate_stands.nd
  ms_cons (ms_ret (x_rd (x_fld 0 1 (W.cls 35) (W.noat 37) (pv 0)))) (ms_nil)
theorem ok_Gate_stands (W : Wd K mg) (V : Vd K) : KnM P w K mg base 1 "Gate" "stands" ["self"] (spOf (K, w) 1 g_Gate_stands) := knm_mk W 8 35 51 rfl rfl rfl rfl pl_Gate_stands sc_Gate_stands (bd_Gate_stands W V)
theorem sc_law_cell_at : FnScope ["_law_script", "_law_k"] ["_law_script", "_law_k"] (defScope st_law_cell_at) := ⟨rfl, rfl, rfl, by decide +kernel, rfl, by decide +kernel, by decide +kernel⟩
theorem pl_law_cell_at : Plain d_law_cell_at ["_law_script", "_law_k"] := ⟨rfl, rfl, fun _ _ _ _ _ _ us hl => match us, hl with | [_, _], _ => rfl⟩
theorem bd_law_cell_at (W : Wd K mg) (V : Vd K) (f : Addr) (cdv : Value) (A : Around) (outer : List Env) (s : Shared) (H : Hp) (E : XK) (hr : Rm 0 (cxN P w K mg base ["_law_script", "_law_k"] d_law_cell_at f cdv A outer s H E).A) : PSs (cxN P w K mg base ["_law_script", "_law_k"] d_law_cell_at f cdv A outer s H E) d_law_cell_at.body (tS (K, w) W0 (ios [true, true]) m_law_cell_at) :=
  have nd : (["_law_script", "_law_k"] : List Str).Nodup := sc_law_cell_at.nd
  ms_cons (ms_if (y_cmp hr.toRoom (mo_name (pv 1)) (mo_tm (x_bf .len rfl (W.free 24) rfl rfl (ma_cons (mo_name (pv 0)) (ma_nil))))) (ms_cons (ms_ret (x_ix (mo_name (pv 0)) (mo_name (pv 1)))) (ms_nil)) (ms_nil)) (ms_cons (ms_ret (me_int)) (ms_nil))
theorem ok_law_cell_at (W : Wd K mg) (V : Vd K) : KnG P w K mg base 1 "_law_cell_at" ["_law_script", "_law_k"] (spOf (K, w) 2 g_law_cell_at) := kng_mk W 9 4 rfl rfl rfl pl_law_cell_at sc_law_cell_at (bd_law_cell_at W V)
theorem sc_law_next : FnScope ["_law_seed"] ["_law_seed"] (defScope st_law_next) := ⟨rfl, rfl, rfl, by decide +kernel, rfl, by decide +kernel, by decide +kernel⟩
theorem pl_law_next : Plain d_law_next ["_law_seed"] := ⟨rfl, rfl, fun _ _ _ _ _ _ us hl => match us, hl with | [_], _ => rfl⟩
theorem bd_law_next (W : Wd K mg) (V : Vd K) (f : Addr) (cdv : Value) (A : Around) (outer : List Env) (s : Shared) (H : Hp) (E : XK) (hr : Rm 0 (cxN P w K mg base ["_law_seed"] d_law_next f cdv A outer s H E).A) : PSs (cxN P w K mg base ["_law_seed"] d_law_next f cdv A outer s H E) d_law_next.body (tS (K, w) W0 (ios [false]) m_law_next) :=
  have nd : (["_law_seed"] : List Str).Nodup := sc_law_next.nd
  ms_cons (z_set 0 nd (x_bin (mo_tm (x_bin (mo_name (pv 0)) (mo_tm (me_int)))) (mo_tm (me_int)))) (ms_cons (ms_ret (x_bin (mo_tm (x_bin (mo_tm (x_bin (mo_tm (x_bin (mo_name (pv 0)) (mo_name (pv 0)))) (mo_tm (x_bin (mo_tm (me_int)) (mo_name (pv 0)))))) (mo_tm (me_int)))) (mo_tm (me_int)))) (ms_nil))
theorem ok_law_next (W : Wd K mg) (V : Vd K) : KnG P w K mg base 1 "_law_next" ["_law_seed"] (spOf (K, w) 1 g_law_next) := kng_mk W 10 5 rfl rfl rfl pl_law_next sc_law_next (bd_law_next W V)
theorem sc_law_pen_of : FnScope ["_law_cell", "_law_left"] ["_law_cell"] (defScope st_law_pen_of) := ⟨rfl, rfl, rfl, by decide +kernel, rfl, by decide +kernel, by decide +kernel⟩
theorem pl_law_pen_of : Plain d_law_pen_of ["_law_cell"] := ⟨rfl, rfl, fun _ _ _ _ _ _ us hl => match us, hl with | [_], _ => rfl⟩
theorem bd_law_pen_of (W : Wd K mg) (V : Vd K) (f : Addr) (cdv : Value) (A : Around) (outer : List Env) (s : Shared) (H : Hp) (E : XK) (hr : Rm 0 (cxN P w K mg base ["_law_cell", "_law_left"] d_law_pen_of f cdv A outer s H E).A) : PSs (cxN P w K mg base ["_law_cell", "_law_left"] d_law_pen_of f cdv A outer s H E) d_law_pen_of.body (tS (K, w) W0 (ios [true]) m_law_pen_of) :=
  have nd : (["_law_cell", "_law_left"] : List Str).Nodup := sc_law_pen_of.nd
  ms_cons (z_set 1 nd (x_bf .max rfl (W.free 25) rfl rfl (ma_cons (mo_name (pv 0)) (ma_cons (mo_tm (x_bin (mo_tm (me_int)) (mo_name (pv 0)))) (ma_nil))))) (ms_cons (ms_ret (me_lst (ma_cons (mo_name (pv 1)) (ma_cons (mo_tm (x_bf .int rfl (W.free 21) rfl rfl (ma_cons (mo_tm (x_cmp hr.toRoom (mo_name (pv 1)) (mo_tm (x_bin (mo_tm (me_int)) (mo_tm (me_int)))))) (ma_nil)))) (ma_cons (mo_tm (x_bin (mo_name (pv 1)) (mo_tm (me_int)))) (ma_nil)))))) (ms_nil))
theorem ok_law_pen_of (W : Wd K mg) (V : Vd K) : KnG P w K mg base 1 "_law_pen_of" ["_law_cell"] (spOf (K, w) 1 g_law_pen_of) := kng_mk W 11 6 rfl rfl rfl pl_law_pen_of sc_law_pen_of (bd_law_pen_of W V)
theorem sc_law_draw : FnScope ["_law_pen", "_law_many", "_law_found"] ["_law_pen", "_law_many"] (defScope st_law_draw) := ⟨rfl, rfl, rfl, by decide +kernel, rfl, by decide +kernel, by decide +kernel⟩
theorem pl_law_draw : Plain d_law_draw ["_law_pen", "_law_many"] := ⟨rfl, rfl, fun _ _ _ _ _ _ us hl => match us, hl with | [_, _], _ => rfl⟩
theorem bd_law_draw (W : Wd K mg) (V : Vd K) (f : Addr) (cdv : Value) (A : Around) (outer : List Env) (s : Shared) (H : Hp) (E : XK) (hr : Rm 1 (cxN P w K mg base ["_law_pen", "_law_many", "_law_found"] d_law_draw f cdv A outer s H E).A) : PSs (cxN P w K mg base ["_law_pen", "_law_many", "_law_found"] d_law_draw f cdv A outer s H E) d_law_draw.body (tS (K, w) W0 (ios [true, true]) m_law_draw) :=
  have nd : (["_law_pen", "_law_many", "_law_found"] : List Str).Nodup := sc_law_draw.nd
  ms_cons (ms_if (PW.pt (mt_and (y_cmp hr.toRoom (mo_tm (x_ix (mo_name (pv 0)) (mo_tm (me_int)))) (mo_tm (me_int))) (mt_and1 (y_cmp hr.toRoom (mo_tm (x_ix (mo_name (pv 0)) (mo_tm (me_int)))) (mo_tm (me_int)))))) (ms_cons (z_set 2 nd (x_bin (mo_tm (x_ix (mo_name (pv 0)) (mo_tm (me_int)))) (mo_name (pv 1)))) (ms_cons (z_ix 0 (pv 0) (mo_tm (me_int)) (x_bin (mo_tm (x_ix (mo_name (pv 0)) (mo_tm (me_int)))) (mo_name (pv 1)))) (ms_cons (ms_retV (pv 2)) (ms_nil)))) (ms_nil)) (ms_cons (z_ix 0 (pv 0) (mo_tm (me_int)) (g_call (ok_law_next W V) hr (by decide) rfl (ma_cons (mo_tm (x_bin (mo_tm (g_call (ok_law_next W V) hr (by decide) rfl (ma_cons (mo_tm (x_ix (mo_name (pv 0)) (mo_tm (me_int)))) (ma_nil)))) (mo_tm (me_int)))) (ma_nil)))) (ms_cons (ms_ret (x_bin (mo_tm (x_bin (mo_tm (x_ix (mo_name (pv 0)) (mo_tm (me_int)))) (mo_tm (me_int)))) (mo_name (pv 1)))) (ms_nil)))
theorem ok_law_draw (W : Wd K mg) (V : Vd K) : KnG P w K mg base 2 "_law_draw" ["_law_pen", "_law_many"] (spOf (K, w) 2 g_law_draw) := kng_mk W 12 7 rfl rfl rfl pl_law_draw sc_law_draw (bd_law_draw W V)
theorem sc_law_gate : FnScope ["_law_pen", "_law_mode", "_law_wide", "_law_fails", "_law_rest", "_law_times", "_law_trials", "_law_most"] ["_law_pen"] (defScope st_law_gate) := ⟨rfl, rfl, rfl, by decide +kernel, rfl, by decide +kernel, by decide +kernel⟩
theorem pl_law_gate : Plain d_law_gate ["_law_pen"] := ⟨rfl, rfl, fun _ _ _ _ _ _ us hl => match us, hl with | [_], _ => rfl⟩
theorem bd_law_gate (W : Wd K mg) (V : Vd K) (f : Addr) (cdv : Value) (A : Around) (outer : List Env) (s : Shared) (H : Hp) (E : XK) (hr : Rm 2 (cxN P w K mg base ["_law_pen", "_law_mode", "_law_wide", "_law_fails", "_law_rest", "_law_times", "_law_trials", "_law_most"] d_law_gate f cdv A outer s H E).A) : PSs (cxN P w K mg base ["_law_pen", "_law_mode", "_law_wide", "_law_fails", "_law_rest", "_law_times", "_law_trials", "_law_most"] d_law_gate f cdv A outer s H E) d_law_gate.body (tS (K, w) W0 (ios [true]) m_law_gate) :=
  have nd : (["_law_pen", "_law_mode", "_law_wide", "_law_fails", "_law_rest", "_law_times", "_law_trials", "_law_most"] : List Str).Nodup := sc_law_gate.nd
  ms_cons (z_par2 1 2 rfl nd (ma_cons (mo_tm (g_call (ok_law_draw W V) hr (by decide) rfl (ma_cons (mo_name (pv 0)) (ma_cons (mo_tm (me_int)) (ma_nil))))) (ma_cons (mo_tm (g_call (ok_law_draw W V) hr (by decide) rfl (ma_cons (mo_name (pv 0)) (ma_cons (mo_tm (me_int)) (ma_nil))))) (ma_nil)))) (ms_cons (z_set 3 nd (x_ix (mo_tm (me_lst (ma_cons (mo_tm (me_int)) (ma_cons (mo_tm (x_bin (mo_tm (me_int)) (mo_tm (g_call (ok_law_draw W V) hr (by decide) rfl (ma_cons (mo_name (pv 0)) (ma_cons (mo_tm (me_int)) (ma_nil))))))) (ma_cons (mo_tm (me_int)) (ma_cons (mo_tm (x_bin (mo_tm (me_int)) (mo_tm (g_call (ok_law_draw W V) hr (by decide) rfl (ma_cons (mo_name (pv 0)) (ma_cons (mo_tm (me_int)) (ma_nil))))))) (ma_nil))))))) (mo_name (pv 1)))) (ms_cons (z_set 4 nd (x_ix (mo_tm (me_lst (ma_cons (mo_tm (me_int)) (ma_cons (mo_tm (x_bin (mo_tm (me_int)) (mo_tm (g_call (ok_law_draw W V) hr (by decide) rfl (ma_cons (mo_name (pv 0)) (ma_cons (mo_tm (me_int)) (ma_nil))))))) (ma_cons (mo_tm (x_bin (mo_tm (me_int)) (mo_tm (g_call (ok_law_draw W V) hr (by decide) rfl (ma_cons (mo_name (pv 0)) (ma_cons (mo_tm (me_int)) (ma_nil))))))) (ma_cons (mo_tm (me_int)) (ma_nil))))))) (mo_name (pv 2)))) (ms_cons (z_par2 5 6 rfl nd (ma_cons (mo_tm (x_bin (mo_tm (me_int)) (mo_tm (g_call (ok_law_draw W V) hr (by decide) rfl (ma_cons (mo_name (pv 0)) (ma_cons (mo_tm (me_int)) (ma_nil))))))) (ma_cons (mo_tm (x_bin (mo_tm (me_int)) (mo_tm (g_call (ok_law_draw W V) hr (by decide) rfl (ma_cons (mo_name (pv 0)) (ma_cons (mo_tm (me_int)) (ma_nil))))))) (ma_nil)))) (ms_cons (z_set 7 nd (x_ix (mo_tm (me_lst (ma_cons (mo_name (pv 4)) (ma_cons (mo_tm (me_int)) (ma_cons (mo_tm (x_bin (mo_name (pv 4)) (mo_tm (g_call (ok_law_draw W V) hr (by decide) rfl (ma_cons (mo_name (pv 0)) (ma_cons (mo_tm (x_bin (mo_tm (me_int)) (mo_name (pv 4)))) (ma_nil))))))) (ma_nil)))))) (mo_tm (g_call (ok_law_draw W V) hr (by decide) rfl (ma_cons (mo_name (pv 0)) (ma_cons (mo_tm (me_int)) (ma_nil))))))) (ms_cons (ms_ret (me_tup (ma_cons (mo_name (pv 3)) (ma_cons (mo_name (pv 4)) (ma_cons (mo_tm (x_ix (mo_tm (me_lst (ma_cons (mo_tm (me_int)) (ma_cons (mo_tm (me_int)) (ma_cons (mo_name (pv 5)) (ma_nil)))))) (mo_tm (g_call (ok_law_draw W V) hr (by decide) rfl (ma_cons (mo_name (pv 0)) (ma_cons (mo_tm (me_int)) (ma_nil))))))) (ma_cons (mo_name (pv 7)) (ma_cons (mo_tm (x_ix (mo_tm (me_lst (ma_cons (mo_tm (me_int)) (ma_cons (mo_tm (me_int)) (ma_cons (mo_name (pv 6)) (ma_nil)))))) (mo_tm (g_call (ok_law_draw W V) hr (by decide) rfl (ma_cons (mo_name (pv 0)) (ma_cons (mo_tm (me_int)) (ma_nil))))))) (ma_nil)))))))) (ms_nil))))))
theorem ok_law_gate (W : Wd K mg) (V : Vd K) : KnG P w K mg base 3 "_law_gate" ["_law_pen"] (spOf (K, w) 1 g_law_gate) := kng_mk W 13 8 rfl rfl rfl pl_law_gate sc_law_gate (bd_law_gate W V)
theorem sc_law_small_gate : FnScope ["_law_pen", "_law_fails", "_law_rest", "_law_times"] ["_law_pen"] (defScope st_law_small_gate) := ⟨rfl, rfl, rfl, by decide +kernel, rfl, by decide +kernel, by decide +kernel⟩
theorem pl_law_small_gate : Plain d_law_small_gate ["_law_pen"] := ⟨rfl, rfl, fun _ _ _ _ _ _ us hl => match us, hl with | [_], _ => rfl⟩
theorem bd_law_small_gate (W : Wd K mg) (V : Vd K) (f : Addr) (cdv : Value) (A : Around) (outer : List Env) (s : Shared) (H : Hp) (E : XK) (hr : Rm 2 (cxN P w K mg base ["_law_pen", "_law_fails", "_law_rest", "_law_times"] d_law_small_gate f cdv A outer s H E).A) : PSs (cxN P w K mg base ["_law_pen", "_law_fails", "_law_rest", "_law_times"] d_law_small_gate f cdv A outer s H E) d_law_small_gate.body (tS (K, w) W0 (ios [true]) m_law_small_gate) :=
  have nd : (["_law_pen", "_law_fails", "_law_rest", "_law_times"] : List Str).Nodup := sc_law_small_gate.nd
  ms_cons (z_par3 1 2 3 rfl nd (ma_cons (mo_tm (x_bin (mo_tm (me_int)) (mo_tm (g_call (ok_law_draw W V) hr (by decide) rfl (ma_cons (mo_name (pv 0)) (ma_cons (mo_tm (me_int)) (ma_nil))))))) (ma_cons (mo_tm (x_bin (mo_tm (me_int)) (mo_tm (g_call (ok_law_draw W V) hr (by decide) rfl (ma_cons (mo_name (pv 0)) (ma_cons (mo_tm (me_int)) (ma_nil))))))) (ma_cons (mo_tm (x_bin (mo_tm (me_int)) (mo_tm (g_call (ok_law_draw W V) hr (by decide) rfl (ma_cons (mo_name (pv 0)) (ma_cons (mo_tm (me_int)) (ma_nil))))))) (ma_nil))))) (ms_cons (ms_ret (me_tup (ma_cons (mo_name (pv 1)) (ma_cons (mo_name (pv 2)) (ma_cons (mo_name (pv 3)) (ma_cons (mo_tm (x_bin (mo_name (pv 2)) (mo_tm (g_call (ok_law_draw W V) hr (by decide) rfl (ma_cons (mo_name (pv 0)) (ma_cons (mo_tm (me_int)) (ma_nil))))))) (ma_cons (mo_tm (x_bin (mo_tm (me_int)) (mo_tm (g_call (ok_law_draw W V) hr (by decide) rfl (ma_cons (mo_name (pv 0)) (ma_cons (mo_tm (me_int)) (ma_nil))))))) (ma_nil)))))))) (ms_nil))
theorem ok_law_small_gate (W : Wd K mg) (V : Vd K) : KnG P w K mg base 3 "_law_small_gate" ["_law_pen"] (spOf (K, w) 1 g_law_small_gate) := kng_mk W 14 9 rfl rfl rfl pl_law_small_gate sc_law_small_gate (bd_law_small_gate W V)
theorem sc_law_lets : FnScope ["_law_standing", "_law_beat_here"] ["_law_standing", "_law_beat_here"] (defScope st_law_lets) := ⟨rfl, rfl, rfl, by decide +kernel, rfl, by decide +kernel, by decide +kernel⟩
theorem pl_law_lets : Plain d_law_lets ["_law_standing", "_law_beat_here"] := ⟨rfl, rfl, fun _ _ _ _ _ _ us hl => match us, hl with | [_, _], _ => rfl⟩
theorem bd_law_lets (W : Wd K mg) (V : Vd K) (f : Addr) (cdv : Value) (A : Around) (outer : List Env) (s : Shared) (H : Hp) (E : XK) (hr : Rm 0 (cxN P w K mg base ["_law_standing", "_law_beat_here"] d_law_lets f cdv A outer s H E).A) : PSs (cxN P w K mg base ["_law_standing", "_law_beat_here"] d_law_lets f cdv A outer s H E) d_law_lets.body (tS (K, w) W0 (ios [true, true]) m_law_lets) :=
  have nd : (["_law_standing", "_law_beat_here"] : List Str).Nodup := sc_law_lets.nd
  ms_cons (ms_if (PW.pt (mt_and (y_cmp hr.toRoom (mo_tm (x_ix (mo_name (pv 0)) (mo_tm (me_int)))) (mo_tm (me_str))) (mt_and1 (y_cmp hr.toRoom (mo_name (pv 1)) (mo_tm (x_ix (mo_name (pv 0)) (mo_tm (me_int)))))))) (ms_cons (ms_ret (me_tup (ma_cons (mo_tm (me_bl)) (ma_cons (mo_tm (me_tup (ma_cons (mo_tm (me_str)) (ma_cons (mo_tm (me_int)) (ma_cons (mo_tm (x_ix (mo_name (pv 0)) (mo_tm (me_int)))) (ma_nil)))))) (ma_nil))))) (ms_nil)) (ms_nil)) (ms_cons (ms_ret (me_tup (ma_cons (mo_tm (x_cmp hr.toRoom (mo_tm (x_ix (mo_name (pv 0)) (mo_tm (me_int)))) (mo_tm (me_str)))) (ma_cons (mo_name (pv 0)) (ma_nil))))) (ms_nil))
theorem ok_law_lets (W : Wd K mg) (V : Vd K) : KnG P w K mg base 1 "_law_lets" ["_law_standing", "_law_beat_here"] (spOf (K, w) 2 g_law_lets) := kng_mk W 15 10 rfl rfl rfl pl_law_lets sc_law_lets (bd_law_lets W V)
theorem sc_law_heard : FnScope ["_law_gate_here", "_law_standing", "_law_beat_here", "_law_answered", "_law_word", "_law_many", "_law_now"] ["_law_gate_here", "_law_standing", "_law_beat_here", "_law_answered"] (defScope st_law_heard) := ⟨rfl, rfl, rfl, by decide +kernel, rfl, by decide +kernel, by decide +kernel⟩
theorem pl_law_heard : Plain d_law_heard ["_law_gate_here", "_law_standing", "_law_beat_here", "_law_answered"] := ⟨rfl, rfl, fun _ _ _ _ _ _ us hl => match us, hl with | [_, _, _, _], _ => rfl⟩
theorem bd_law_heard (W : Wd K mg) (V : Vd K) (f : Addr) (cdv : Value) (A : Around) (outer : List Env) (s : Shared) (H : Hp) (E : XK) (hr : Rm 0 (cxN P w K mg base ["_law_gate_here", "_law_standing", "_law_beat_here", "_law_answered", "_law_word", "_law_many", "_law_now"] d_law_heard f cdv A outer s H E).A) : PSs (cxN P w K mg base ["_law_gate_here", "_law_standing", "_law_beat_here", "_law_answered", "_law_word", "_law_many", "_law_now"] d_law_heard f cdv A outer s H E) d_law_heard.body (tS (K, w) W0 (ios [true, true, true, true]) m_law_heard) :=
  have nd : (["_law_gate_here", "_law_standing", "_law_beat_here", "_law_answered", "_law_word", "_law_many", "_law_now"] : List Str).Nodup := sc_law_heard.nd
  ms_cons (z_par2 4 5 rfl nd (ma_cons (mo_tm (x_ix (mo_name (pv 1)) (mo_tm (me_int)))) (ma_cons (mo_tm (x_bin (mo_tm (x_ix (mo_name (pv 1)) (mo_tm (me_int)))) (mo_tm (me_int)))) (ma_nil)))) (ms_cons (ms_if (PW.pt (mt_and (y_cmp hr.toRoom (mo_name (pv 4)) (mo_tm (me_str))) (mt_and1 (y_val (me_name (pv 3)))))) (ms_cons (ms_ret (me_tup (ma_cons (mo_tm (me_str)) (ma_cons (mo_tm (me_int)) (ma_nil))))) (ms_nil)) (ms_nil)) (ms_cons (ms_if (y_cmp hr.toRoom (mo_name (pv 4)) (mo_tm (me_str))) (ms_cons (ms_ret (me_ife (y_cmp hr.toRoom (mo_name (pv 5)) (mo_tm (x_ix (mo_name (pv 0)) (mo_tm (me_int))))) (me_tup (ma_cons (mo_tm (me_str)) (ma_cons (mo_name (pv 5)) (ma_nil)))) (me_tup (ma_cons (mo_tm (me_str)) (ma_cons (mo_tm (x_bin (mo_name (pv 2)) (mo_tm (x_ix (mo_name (pv 0)) (mo_tm (me_int)))))) (ma_cons (mo_tm (x_ix (mo_name (pv 0)) (mo_tm (me_int)))) (ma_nil))))))) (ms_nil)) (ms_nil)) (ms_cons (ms_if (y_val (me_name (pv 3))) (ms_cons (ms_ret (me_ife (y_cmp hr.toRoom (mo_name (pv 5)) (mo_tm (x_ix (mo_name (pv 0)) (mo_tm (me_int))))) (me_tup (ma_cons (mo_tm (me_str)) (ma_cons (mo_name (pv 5)) (ma_cons (mo_tm (x_ix (mo_name (pv 1)) (mo_tm (me_int)))) (ma_nil))))) (me_tup (ma_cons (mo_tm (me_str)) (ma_cons (mo_tm (me_int)) (ma_nil)))))) (ms_nil)) (ms_nil)) (ms_cons (z_set 6 nd (x_bf .min rfl (W.free 23) rfl rfl (ma_cons (mo_tm (x_ix (mo_name (pv 0)) (mo_tm (me_int)))) (ma_cons (mo_tm (x_bin (mo_tm (x_ix (mo_name (pv 0)) (mo_tm (me_int)))) (mo_tm (x_ix (mo_name (pv 1)) (mo_tm (me_int)))))) (ma_nil))))) (ms_cons (ms_ret (me_tup (ma_cons (mo_tm (me_str)) (ma_cons (mo_tm (x_bin (mo_name (pv 2)) (mo_name (pv 6)))) (ma_cons (mo_name (pv 6)) (ma_nil)))))) (ms_nil))))))
theorem ok_law_heard (W : Wd K mg) (V : Vd K) : KnG P w K mg base 1 "_law_heard" ["_law_gate_here", "_law_standing", "_law_beat_here", "_law_answered"] (spOf (K, w) 4 g_law_heard) := kng_mk W 16 11 rfl rfl rfl pl_law_heard sc_law_heard (bd_law_heard W V)
theorem sc_law_flags : FnScope ["_law_e", "_law_marks", "_law_word"] ["_law_e"] (defScope st_law_flags) := ⟨rfl, rfl, rfl, by decide +kernel, rfl, by decide +kernel, by decide +kernel⟩
theorem pl_law_flags : Plain d_law_flags ["_law_e"] := ⟨rfl, rfl, fun _ _ _ _ _ _ us hl => match us, hl with | [_], _ => rfl⟩
theorem bd_law_flags (W : Wd K mg) (V : Vd K) (f : Addr) (cdv : Value) (A : Around) (outer : List Env) (s : Shared) (H : Hp) (p : Addr × Obj) (cls : Value) (dd : Option Addr) (hr : L2H.RoomH 0 (cxR P w K mg base ["_law_e", "_law_marks", "_law_word"] d_law_flags f cdv A outer s H p).A) (pn : PinX (cxR P w K mg base ["_law_e", "_law_marks", "_law_word"] d_law_flags f cdv A outer s H p) p.1 cls dd) : PSs (cxR P w K mg base ["_law_e", "_law_marks", "_law_word"] d_law_flags f cdv A outer s H p) d_law_flags.body (tS (K, w) W0 (ios [true]) (m_law_flags p.1 cls dd)) :=
  have nd : (["_law_e", "_law_marks", "_law_word"] : List Str).Nodup := sc_law_flags.nd
  have hu : (cxR P w K mg base ["_law_e", "_law_marks", "_law_word"] d_law_flags f cdv A outer s H p).A.units + 65 < cLine := by have := hr.un; omega
  ms_cons (z_set 1 nd (me_lst (ma_cons (mo_tm (x_isX 0 pn (W.free 20) rfl (pv 0) (pe_own rfl (W.glo 45)) (.own _) (cs_is (vC V)))) (ma_cons (mo_tm (x_isX 0 pn (W.free 20) rfl (pv 0) (pe_own rfl (W.glo 34)) (.own _) (cs_is (vC V)))) (ma_cons (mo_tm (x_isX 0 pn (W.free 20) rfl (pv 0) (pe_own rfl (W.glo 40)) (.own _) (cs_is (vC V)))) (ma_cons (mo_tm (x_isX 0 pn (W.free 20) rfl (pv 0) (pe_own rfl (W.glo 44)) (.own _) (cs_is (vC V)))) (ma_nil))))))) (ms_cons (z_set 1 nd (x_bin (mo_name (pv 1)) (mo_tm (me_lst (ma_cons (mo_tm (x_isX 0 pn (W.free 20) rfl (pv 0) (pe_own rfl (W.glo 43)) (.own _) (cs_is (vC V)))) (ma_cons (mo_tm (x_isX 0 pn (W.free 20) rfl (pv 0) (pe_own rfl (W.glo 42)) (.own _) (cs_is (vC V)))) (ma_cons (mo_tm (x_isX 0 pn (W.free 20) rfl (pv 0) (pe_own rfl (W.glo 41)) (.own _) (cs_is (vC V)))) (ma_nil)))))))) (ms_cons (ms_if (PW.pt (mt_or (mt_not (y_val (x_isX 0 pn (W.free 20) rfl (pv 0) (pe_bltn (v := .ty "ValueError") rfl (W.free 26) boot_ve rfl) (.ty _) (cs_ve (vC V))))) (mt_or1 (y_val (x_isXT 0 pn (W.free 20) rfl (pv 0) (pe_bts (pa_c (pe_bltn (v := .ty "LookupError") rfl (W.free 30) boot_le rfl) (pa_c (pe_bltn (v := .ty "TypeError") rfl (W.free 29) boot_te rfl) (pa_c (pe_bltn (v := .ty "ArithmeticError") rfl (W.free 28) boot_ae rfl) (pa_c (pe_bltn (v := .ty "RuntimeError") rfl (W.free 27) boot_re rfl) (pa_nil))))) (by rw [sizeLine_eq]; decide)) (.cons (.ty _) (.cons (.ty _) (.cons (.ty _) (.cons (.ty _) .nil)))) (cs_bt (vC V))))))) (ms_cons (ms_ret (me_tup (ma_cons (mo_tm (me_str)) (ma_nil)))) (ms_nil)) (ms_nil)) (ms_cons (ms_if (y_cmpU hu (mo_tm (x_cntL hu (mo_name (pv 1)) (ma_cons (mo_tm (me_bl)) (ma_nil)))) (mo_tm (me_int))) (ms_cons (ms_ret (me_tup (ma_cons (mo_tm (me_str)) (ma_nil)))) (ms_nil)) (ms_nil)) (ms_cons (z_set 2 nd (x_ix (mo_tm (me_lst (ma_cons (mo_tm (me_str)) (ma_cons (mo_tm (me_str)) (ma_cons (mo_tm (me_str)) (ma_cons (mo_tm (me_str)) (ma_cons (mo_tm (me_str)) (ma_cons (mo_tm (me_str)) (ma_cons (mo_tm (me_str)) (ma_nil)))))))))) (mo_tm (x_indexU hu (mo_name (pv 1)) (ma_cons (mo_tm (me_bl)) (ma_nil)))))) (ms_cons (ms_ret (me_ife (y_cmpU hu (mo_name (pv 2)) (mo_tm (me_str))) (me_tup (ma_cons (mo_name (pv 2)) (ma_cons (mo_tm (x_fldX 0 pn (pv 0) (okF_ok V))) (ma_cons (mo_tm (x_fldX 0 pn (pv 0) (okF_ok V))) (ma_nil))))) (me_tup (ma_cons (mo_name (pv 2)) (ma_nil))))) (ms_nil))))))
theorem ok_law_flags (W : Wd K mg) (V : Vd K) : KnR P w K mg base 1 "_law_flags" ["_law_e"] g_law_flags := knr_mk W 17 12 rfl rfl rfl pl_law_flags sc_law_flags rfl (fun f cdv A outer s H p cls dd hr pn => bd_law_flags W V f cdv A outer s H p cls dd hr pn)
theorem sc_law_came : FnScope ["_law_gate_here", "_law_beat_here", "_law_e"] ["_law_gate_here", "_law_beat_here"] (defScope st_law_came) := ⟨rfl, rfl, rfl, by decide +kernel, rfl, by decide +kernel, by decide +kernel⟩
theorem pl_law_came : Plain d_law_came ["_law_gate_here", "_law_beat_here"] := ⟨rfl, rfl, fun _ _ _ _ _ _ us hl => match us, hl with | [_, _], _ => rfl⟩
theorem bd_law_came (W : Wd K mg) (V : Vd K) (f : Addr) (cdv : Value) (A : Around) (outer : List Env) (s : Shared) (H : Hp) (E : XK) (hr : Rm 4 (cxN P w K mg base ["_law_gate_here", "_law_beat_here", "_law_e"] d_law_came f cdv A outer s H E).A) : PSs (cxN P w K mg base ["_law_gate_here", "_law_beat_here", "_law_e"] d_law_came f cdv A outer s H E) d_law_came.body (tS (K, w) W0 (ios [true, true]) m_law_came) :=
  have nd : (["_law_gate_here", "_law_beat_here", "_law_e"] : List Str).Nodup := sc_law_came.nd
  ms_cons (z_told 2 rfl rfl nd rfl rfl ⟨rfl, by decide, .inl (W.glo 46)⟩ takes0 (fun W' pn xe tk => x_methX (ok_Gate_come W V) tk hr (by decide) (mo_name (pv 0)) (ma_cons (mo_name (pv 1)) (ma_nil))) (cs_hkw (vC V) rf_law_flags) (fun a oe cls d pn hz hf => x_callR 2 (ok_law_flags W V) hr.toRoom (by decide) rfl hz hf (pv 2) (hG_law_flags a cls d))) (ms_nil)
theorem ok_law_came (W : Wd K mg) (V : Vd K) : KnG P w K mg base 5 "_law_came" ["_law_gate_here", "_law_beat_here"] (spOf (K, w) 2 g_law_came) := kng_mk W 18 13 rfl rfl rfl pl_law_came sc_law_came (bd_law_came W V)
theorem sc_law_was_told : FnScope ["_law_gate_here", "_law_beat_here", "_law_answered", "_law_e"] ["_law_gate_here", "_law_beat_here", "_law_answered"] (defScope st_law_was_told) := ⟨rfl, rfl, rfl, by decide +kernel, rfl, by decide +kernel, by decide +kernel⟩
theorem pl_law_was_told : Plain d_law_was_told ["_law_gate_here", "_law_beat_here", "_law_answered"] := ⟨rfl, rfl, fun _ _ _ _ _ _ us hl => match us, hl with | [_, _, _], _ => rfl⟩
theorem bd_law_was_told (W : Wd K mg) (V : Vd K) (f : Addr) (cdv : Value) (A : Around) (outer : List Env) (s : Shared) (H : Hp) (E : XK) (hr : Rm 4 (cxN P w K mg base ["_law_gate_here", "_law_beat_here", "_law_answered", "_law_e"] d_law_was_told f cdv A outer s H E).A) : PSs (cxN P w K mg base ["_law_gate_here", "_law_beat_here", "_law_answered", "_law_e"] d_law_was_told f cdv A outer s H E) d_law_was_told.body (tS (K, w) W0 (ios [true, true, true]) m_law_was_told) :=
  have nd : (["_law_gate_here", "_law_beat_here", "_law_answered", "_law_e"] : List Str).Nodup := sc_law_was_told.nd
  ms_cons (z_told 3 rfl rfl nd rfl rfl ⟨rfl, by decide, .inl (W.glo 46)⟩ takes0 (fun W' pn xe tk => x_methX (ok_Gate_hear W V) tk hr (by decide) (mo_name (pv 0)) (ma_cons (mo_name (pv 1)) (ma_cons (mo_name (pv 2)) (ma_nil)))) (cs_hkw (vC V) rf_law_flags) (fun a oe cls d pn hz hf => x_callR 3 (ok_law_flags W V) hr.toRoom (by decide) rfl hz hf (pv 3) (hG_law_flags a cls d))) (ms_nil)
theorem ok_law_was_told (W : Wd K mg) (V : Vd K) : KnG P w K mg base 5 "_law_was_told" ["_law_gate_here", "_law_beat_here", "_law_answered"] (spOf (K, w) 3 g_law_was_told) := kng_mk W 19 14 rfl rfl rfl pl_law_was_told sc_law_was_told (bd_law_was_told W V)
theorem sc_law_number : FnScope ["_law_beat_here", "_law_latest"] ["_law_beat_here", "_law_latest"] (defScope st_law_number) := ⟨rfl, rfl, rfl, by decide +kernel, rfl, by decide +kernel, by decide +kernel⟩
theorem pl_law_number : Plain d_law_number ["_law_beat_here", "_law_latest"] := ⟨rfl, rfl, fun _ _ _ _ _ _ us hl => match us, hl with | [_, _], _ => rfl⟩
theorem bd_law_number (W : Wd K mg) (V : Vd K) (f : Addr) (cdv : Value) (A : Around) (outer : List Env) (s : Shared) (H : Hp) (E : XK) (hr : Rm 0 (cxN P w K mg base ["_law_beat_here", "_law_latest"] d_law_number f cdv A outer s H E).A) : PSs (cxN P w K mg base ["_law_beat_here", "_law_latest"] d_law_number f cdv A outer s H E) d_law_number.body (tS (K, w) W0 (ios [true, true]) m_law_number) :=
  have nd : (["_law_beat_here", "_law_latest"] : List Str).Nodup := sc_law_number.nd
  ms_cons (ms_ret (me_and (x_isi .int rfl (W.free 20) (W.free 21) rfl rfl (mo_name (pv 0))) (me_and (me_not (x_isi .bool rfl (W.free 20) (W.free 22) rfl rfl (mo_name (pv 0)))) (me_one (x_chain (mo_name (pv 1)) (ch_cons hr.toRoom (mo_name (pv 0)) (ch_one hr.toRoom (mo_tm (me_int))))))))) (ms_nil)
theorem ok_law_number (W : Wd K mg) (V : Vd K) : KnG P w K mg base 1 "_law_number" ["_law_beat_here", "_law_latest"] (spOf (K, w) 2 g_law_number) := kng_mk W 20 15 rfl rfl rfl pl_law_number sc_law_number (bd_law_number W V)
theorem sc_law_beat : FnScope ["_law_pen", "_law_latest", "_law_far", "_law_mode", "_law_odd"] ["_law_pen", "_law_latest"] (defScope st_law_beat) := ⟨rfl, rfl, rfl, by decide +kernel, rfl, by decide +kernel, by decide +kernel⟩
theorem pl_law_beat : Plain d_law_beat ["_law_pen", "_law_latest"] := ⟨rfl, rfl, fun _ _ _ _ _ _ us hl => match us, hl with | [_, _], _ => rfl⟩
theorem bd_law_beat (W : Wd K mg) (V : Vd K) (f : Addr) (cdv : Value) (A : Around) (outer : List Env) (s : Shared) (H : Hp) (E : XK) (hr : Rm 2 (cxN P w K mg base ["_law_pen", "_law_latest", "_law_far", "_law_mode", "_law_odd"] d_law_beat f cdv A outer s H E).A) : PSs (cxN P w K mg base ["_law_pen", "_law_latest", "_law_far", "_law_mode", "_law_odd"] d_law_beat f cdv A outer s H E) d_law_beat.body (tS (K, w) W0 (ios [true, true]) m_law_beat) :=
  have nd : (["_law_pen", "_law_latest", "_law_far", "_law_mode", "_law_odd"] : List Str).Nodup := sc_law_beat.nd
  ms_cons (z_par2 2 3 rfl nd (ma_cons (mo_tm (g_call (ok_law_draw W V) hr (by decide) rfl (ma_cons (mo_name (pv 0)) (ma_cons (mo_tm (me_int)) (ma_nil))))) (ma_cons (mo_tm (g_call (ok_law_draw W V) hr (by decide) rfl (ma_cons (mo_name (pv 0)) (ma_cons (mo_tm (me_int)) (ma_nil))))) (ma_nil)))) (ms_cons (z_set 4 nd (me_lst (ma_cons (mo_tm (x_bin (mo_name (pv 1)) (mo_tm (me_int)))) (ma_cons (mo_tm (x_neg (mo_tm (me_int)))) (ma_cons (mo_tm (me_int)) (ma_cons (mo_tm (me_bl)) (ma_cons (mo_tm (me_str)) (ma_cons (mo_tm (me_non)) (ma_cons (mo_tm (me_lst (ma_cons (mo_name (pv 1)) (ma_nil)))) (ma_cons (mo_tm (x_bin (mo_tm (me_int)) (mo_tm (me_int)))) (ma_nil))))))))))) (ms_cons (ms_ret (me_ife (y_cmp hr.toRoom (mo_name (pv 3)) (mo_tm (me_int))) (x_bin (mo_name (pv 1)) (mo_tm (x_ix (mo_tm (me_lst (ma_cons (mo_tm (me_int)) (ma_cons (mo_tm (me_int)) (ma_cons (mo_name (pv 2)) (ma_cons (mo_name (pv 2)) (ma_nil))))))) (mo_tm (x_bin (mo_name (pv 3)) (mo_tm (me_int))))))) (x_ix (mo_name (pv 4)) (mo_tm (g_call (ok_law_draw W V) hr (by decide) rfl (ma_cons (mo_name (pv 0)) (ma_cons (mo_tm (me_int)) (ma_nil)))))))) (ms_nil)))
theorem ok_law_beat (W : Wd K mg) (V : Vd K) : KnG P w K mg base 3 "_law_beat" ["_law_pen", "_law_latest"] (spOf (K, w) 2 g_law_beat) := kng_mk W 21 16 rfl rfl rfl pl_law_beat sc_law_beat (bd_law_beat W V)
theorem sc_law_deed_right : FnScope ["_law_pen", "_law_gate_here", "_law_kept", "_law_mode", "_law_beat_here", "_law_answered", "_law_told", "_law_due"] ["_law_pen", "_law_gate_here", "_law_kept"] (defScope st_law_deed_right) := ⟨rfl, rfl, rfl, by decide +kernel, rfl, by decide +kernel, by decide +kernel⟩
theorem pl_law_deed_right : Plain d_law_deed_right ["_law_pen", "_law_gate_here", "_law_kept"] := ⟨rfl, rfl, fun _ _ _ _ _ _ us hl => match us, hl with | [_, _, _], _ => rfl⟩
theorem bd_law_deed_right (W : Wd K mg) (V : Vd K) (f : Addr) (cdv : Value) (A : Around) (outer : List Env) (s : Shared) (H : Hp) (E : XK) (hr : Rm 5 (cxN P w K mg base ["_law_pen", "_law_gate_here", "_law_kept", "_law_mode", "_law_beat_here", "_law_answered", "_law_told", "_law_due"] d_law_deed_right f cdv A outer s H E).A) : PSs (cxN P w K mg base ["_law_pen", "_law_gate_here", "_law_kept", "_law_mode", "_law_beat_here", "_law_answered", "_law_told", "_law_due"] d_law_deed_right f cdv A outer s H E) d_law_deed_right.body (tS (K, w) W0 (ios [true, true, true]) m_law_deed_right) :=
  have nd : (["_law_pen", "_law_gate_here", "_law_kept", "_law_mode", "_law_beat_here", "_law_answered", "_law_told", "_law_due"] : List Str).Nodup := sc_law_deed_right.nd
  ms_cons (z_par3 3 4 5 rfl nd (ma_cons (mo_tm (g_call (ok_law_draw W V) hr (by decide) rfl (ma_cons (mo_name (pv 0)) (ma_cons (mo_tm (me_int)) (ma_nil))))) (ma_cons (mo_tm (g_call (ok_law_beat W V) hr (by decide) rfl (ma_cons (mo_name (pv 0)) (ma_cons (mo_tm (x_ix (mo_name (pv 2)) (mo_tm (me_int)))) (ma_nil))))) (ma_cons (mo_tm (x_cmp hr.toRoom (mo_tm (g_call (ok_law_draw W V) hr (by decide) rfl (ma_cons (mo_name (pv 0)) (ma_cons (mo_tm (me_int)) (ma_nil))))) (mo_tm (me_int)))) (ma_nil))))) (ms_cons (ms_if (mt_not (y_val (g_call (ok_law_number W V) hr (by decide) rfl (ma_cons (mo_name (pv 4)) (ma_cons (mo_tm (x_ix (mo_name (pv 2)) (mo_tm (me_int)))) (ma_nil)))))) (ms_cons (z_set 6 nd (me_ife (y_cmp hr.toRoom (mo_name (pv 3)) (mo_tm (me_int))) (g_call (ok_law_came W V) hr (by decide) rfl (ma_cons (mo_name (pv 1)) (ma_cons (mo_name (pv 4)) (ma_nil)))) (g_call (ok_law_was_told W V) hr (by decide) rfl (ma_cons (mo_name (pv 1)) (ma_cons (mo_name (pv 4)) (ma_cons (mo_name (pv 5)) (ma_nil))))))) (ms_cons (ms_ret (me_and (x_cmp hr.toRoom (mo_name (pv 6)) (mo_tm (me_tup (ma_cons (mo_tm (me_str)) (ma_nil))))) (me_one (x_cmp hr.toRoom (mo_tm (g_meth0 (ok_Gate_stands W V) hr (by decide) (mo_name (pv 1)))) (mo_tm (x_ix (mo_name (pv 2)) (mo_tm (me_int)))))))) (ms_nil))) (ms_nil)) (ms_cons (ms_if (y_cmp hr.toRoom (mo_name (pv 3)) (mo_tm (me_int))) (ms_cons (z_set 7 nd (g_call (ok_law_lets W V) hr (by decide) rfl (ma_cons (mo_tm (x_ix (mo_name (pv 2)) (mo_tm (me_int)))) (ma_cons (mo_name (pv 4)) (ma_nil))))) (ms_cons (z_set 6 nd (g_call (ok_law_came W V) hr (by decide) rfl (ma_cons (mo_name (pv 1)) (ma_cons (mo_name (pv 4)) (ma_nil))))) (ms_cons (z_ix 2 (pv 2) (mo_tm (me_int)) (x_ix (mo_name (pv 7)) (mo_tm (me_int)))) (ms_cons (z_ix 2 (pv 2) (mo_tm (me_int)) (me_name (pv 4))) (ms_cons (ms_ret (me_and (x_cmp hr.toRoom (mo_tm (x_repr (W.free 31) hr rfl (ma_cons (mo_name (pv 6)) (ma_nil)))) (mo_tm (x_repr (W.free 31) hr rfl (ma_cons (mo_tm (x_ix (mo_name (pv 7)) (mo_tm (me_int)))) (ma_nil))))) (me_one (x_cmp hr.toRoom (mo_tm (x_repr (W.free 31) hr rfl (ma_cons (mo_tm (g_meth0 (ok_Gate_stands W V) hr (by decide) (mo_name (pv 1)))) (ma_nil)))) (mo_tm (x_repr (W.free 31) hr rfl (ma_cons (mo_tm (x_ix (mo_name (pv 2)) (mo_tm (me_int)))) (ma_nil)))))))) (ms_nil)))))) (ms_nil)) (ms_cons (z_set 6 nd (g_call (ok_law_was_told W V) hr (by decide) rfl (ma_cons (mo_name (pv 1)) (ma_cons (mo_name (pv 4)) (ma_cons (mo_name (pv 5)) (ma_nil)))))) (ms_cons (ms_if (y_cmp hr.toRoom (mo_tm (x_ix (mo_tm (x_ix (mo_name (pv 2)) (mo_tm (me_int)))) (mo_tm (me_int)))) (mo_tm (me_str))) (ms_cons (ms_ret (me_and (x_cmp hr.toRoom (mo_name (pv 6)) (mo_tm (me_tup (ma_cons (mo_tm (me_str)) (ma_nil))))) (me_one (x_cmp hr.toRoom (mo_tm (g_meth0 (ok_Gate_stands W V) hr (by decide) (mo_name (pv 1)))) (mo_tm (x_ix (mo_name (pv 2)) (mo_tm (me_int)))))))) (ms_nil)) (ms_nil)) (ms_cons (z_ix 2 (pv 2) (mo_tm (me_int)) (g_call (ok_law_heard W V) hr (by decide) rfl (ma_cons (mo_tm (x_ix (mo_name (pv 2)) (mo_tm (me_int)))) (ma_cons (mo_tm (x_ix (mo_name (pv 2)) (mo_tm (me_int)))) (ma_cons (mo_name (pv 4)) (ma_cons (mo_name (pv 5)) (ma_nil))))))) (ms_cons (z_ix 2 (pv 2) (mo_tm (me_int)) (me_name (pv 4))) (ms_cons (ms_ret (me_and (x_cmp hr.toRoom (mo_name (pv 6)) (mo_tm (me_non))) (me_one (x_cmp hr.toRoom (mo_tm (x_repr (W.free 31) hr rfl (ma_cons (mo_tm (g_meth0 (ok_Gate_stands W V) hr (by decide) (mo_name (pv 1)))) (ma_nil)))) (mo_tm (x_repr (W.free 31) hr rfl (ma_cons (mo_tm (x_ix (mo_name (pv 2)) (mo_tm (me_int)))) (ma_nil)))))))) (ms_nil))))))))
theorem ok_law_deed_right (W : Wd K mg) (V : Vd K) : KnG P w K mg base 6 "_law_deed_right" ["_law_pen", "_law_gate_here", "_law_kept"] (spOf (K, w) 3 g_law_deed_right) := kng_mk W 22 17 rfl rfl rfl pl_law_deed_right sc_law_deed_right (bd_law_deed_right W V)
theorem sc_law : FnScope ["_law_script", "_law_cell", "_law_pen", "_law_one", "_law_other", "_law_gates", "_law_kept", "_law_turn", "_law_at"] ["_law_script"] (defScope st_law) := ⟨rfl, rfl, rfl, by decide +kernel, rfl, by decide +kernel, by decide +kernel⟩
theorem pl_law : Plain d_law ["_law_script"] := ⟨rfl, rfl, fun _ _ _ _ _ _ us hl => match us, hl with | [_], _ => rfl⟩
theorem bd_law (W : Wd K mg) (V : Vd K) (f : Addr) (cdv : Value) (A : Around) (outer : List Env) (s : Shared) (H : Hp) (E : XK) (hr : Rm 6 (cxN P w K mg base ["_law_script", "_law_cell", "_law_pen", "_law_one", "_law_other", "_law_gates", "_law_kept", "_law_turn", "_law_at"] d_law f cdv A outer s H E).A) : PSs (cxN P w K mg base ["_law_script", "_law_cell", "_law_pen", "_law_one", "_law_other", "_law_gates", "_law_kept", "_law_turn", "_law_at"] d_law f cdv A outer s H E) d_law.body (tS (K, w) W0 (ios [false]) m_law) :=
  have nd : (["_law_script", "_law_cell", "_law_pen", "_law_one", "_law_other", "_law_gates", "_law_kept", "_law_turn", "_law_at"] : List Str).Nodup := sc_law.nd
  ms_cons (z_for (ts := [1]) .never rfl (mi_any (mo_tm (x_bin (mo_tm (me_lst (ma_cons (mo_tm (g_call (ok_law_cell_at W V) hr (by decide) rfl (ma_cons (mo_name (pv 0)) (ma_cons (mo_tm (me_int)) (ma_nil))))) (ma_nil)))) (mo_tm (me_slice (mo_name (pv 0)) (mp_some (mo_tm (me_int))) (mp_some (mo_tm (me_int)))))))) (Gd.imp (gd_name) (by intro j h; simpa using h)) (g_nm 1 nd) (ms_cons (z_set 2 nd (g_call (ok_law_pen_of W V) hr (by decide) rfl (ma_cons (mo_name (pv 1)) (ma_nil)))) (ms_cons (z_set 3 nd (g_call (ok_law_small_gate W V) hr (by decide) rfl (ma_cons (mo_name (pv 2)) (ma_nil)))) (ms_cons (z_set 4 nd (x_ix (mo_tm (me_lst (ma_cons (mo_name (pv 3)) (ma_cons (mo_tm (g_call (ok_law_gate W V) hr (by decide) rfl (ma_cons (mo_name (pv 2)) (ma_nil)))) (ma_nil))))) (mo_tm (g_call (ok_law_draw W V) hr (by decide) rfl (ma_cons (mo_name (pv 2)) (ma_cons (mo_tm (me_int)) (ma_nil))))))) (ms_cons (z_set 5 nd (me_lstN (ma_cons (mo_tm (g_new (ok_Gate___init__ W V) hr (by decide) rfl (ma_cons (mo_name (pv 3)) (ma_nil)))) (ma_cons (mo_tm (g_new (ok_Gate___init__ W V) hr (by decide) rfl (ma_cons (mo_name (pv 4)) (ma_nil)))) (ma_nil))))) (ms_cons (z_set 6 nd (me_lstN (ma_cons (mo_tm (me_lst (ma_cons (mo_name (pv 3)) (ma_cons (mo_tm (me_tup (ma_cons (mo_tm (me_str)) (ma_cons (mo_tm (me_int)) (ma_nil))))) (ma_cons (mo_tm (me_int)) (ma_nil)))))) (ma_cons (mo_tm (me_lst (ma_cons (mo_name (pv 4)) (ma_cons (mo_tm (me_tup (ma_cons (mo_tm (me_str)) (ma_cons (mo_tm (me_int)) (ma_nil))))) (ma_cons (mo_tm (me_int)) (ma_nil)))))) (ma_nil))))) (ms_cons (z_for (ts := [7]) .never rfl (z_rng1 (W.free 32) rfl (ma_cons (mo_tm (me_int)) (ma_nil))) (Gd.imp (gd_name) (by intro j h; simpa using h)) (g_nm 7 nd) (ms_cons (z_set 8 nd (g_call (ok_law_draw W V) hr (by decide) rfl (ma_cons (mo_name (pv 2)) (ma_cons (mo_tm (me_int)) (ma_nil))))) (ms_cons (ms_if (mt_not (y_val (g_call2P (ok_law_deed_right W V) hr (by decide) rfl (pa_cons (pv 2) (pa_cons (x_item 5 (pv 5) (mo_name (pv 8))) (pa_cons (x_item 6 (pv 6) (mo_name (pv 8))) pa_nil)))))) (ms_cons (ms_ret (me_bl)) (ms_nil)) (ms_nil)) (ms_cons (ms_if (y_cmp hr.toRoom (mo_tm (x_repr (W.free 31) hr rfl (ma_cons (mo_tm (g_methP (ok_Gate_stands W V) hr (by decide) (x_item 5 (pv 5) (mo_tm (x_bin (mo_tm (me_int)) (mo_name (pv 8))))))) (ma_nil)))) (mo_tm (x_repr (W.free 31) hr rfl (ma_cons (mo_tm (x_pix (x_item 6 (pv 6) (mo_tm (x_bin (mo_tm (me_int)) (mo_name (pv 8))))) (mo_tm (me_int)))) (ma_nil))))) (ms_cons (ms_ret (me_bl)) (ms_nil)) (ms_nil)) (ms_nil))))) (ms_nil)))))))) (ms_cons (ms_ret (me_bl)) (ms_nil))
end
end KW
namespace KW
open PySem PySem.Spec PyProof.Rows L2 L2.M
abbrev R : PySem.W.OpenRow := PySem.W.OpenLaw.row PySem.Challenge.rw_knockpurse_k49_gates_that_keep_their_sta
abbrev hk : PySem.W.Hook := hookX 4 fa fn (csA)
def ob (s : PySem.W.SharedT) : Bool × He.AlD := obsXG 4 fa fn csA (HandSHeadRun.getT s)
theorem ob_eq (s : PySem.W.SharedT) : ob s = hk.obs s.abs := obsXG_eq (HandSHeadRun.getT_eq s)
theorem run (w : World) : HandSHeadRun.RunEq R (PySem.W.view R.prog [32]) hk ob 8000 ["is_whole", "is_from_to", "lets", "heard", "_law_cell_at", "_law_next", "_law_pen_of", "_law_draw", "_law_gate", "_law_small_gate", "_law_lets", "_law_heard", "_law_flags", "_law_came", "_law_was_told", "_law_number", "_law_beat", "_law_deed_right", "MOST_BEAT", "KnockError", "NoBeat", "NoStep", "NoNumber", "NoLine", "NoStory", "NoText", "TooGreat", "Gate"] w := by
  intro os
  kernel_rfl
end KW
section
open PySem PySem.W PySem.Calls PyProof.Rows
theorem KW.pre (law_true : ∀ (ns : List Int), ns.length ≤ 63 → ∃ cs', L2.M.semF [false] 9 KW.m_law [.sh (.list (ns.map PySem.PyData.int))] = some (.sh (.bool true), cs')) : PySem.Challenge.rw_knockpurse_k49_gates_that_keep_their_sta.Holds := by
  w_on; o_law
  refine HandSHeadRun.head_any (r := OpenLaw.row PySem.Challenge.rw_knockpurse_k49_gates_that_keep_their_sta) (q := view (OpenLaw.row PySem.Challenge.rw_knockpurse_k49_gates_that_keep_their_sta).prog [32]) (H := KW.hk) (ob := KW.ob) (M := 8000) (loose := ["is_whole", "is_from_to", "lets", "heard", "_law_cell_at", "_law_next", "_law_pen_of", "_law_draw", "_law_gate", "_law_small_gate", "_law_lets", "_law_heard", "_law_flags", "_law_came", "_law_was_told", "_law_number", "_law_beat", "_law_deed_right", "MOST_BEAT", "KnockError", "NoBeat", "NoStep", "NoNumber", "NoLine", "NoStory", "NoText", "TooGreat", "Gate"]) (d := HandSHeadRun.topDef (OpenLaw.row PySem.Challenge.rw_knockpurse_k49_gates_that_keep_their_sta).prog 32) (kwd := []) KW.ob_eq
    (by kernel_rfl) (fun s => by kernel_rfl) KW.run (by kernel_rfl) (by kernel_rfl) (by kernel_rfl) (by rfl) (by first | assumption | decide +kernel) (by decide +kernel) ⟨rfl, rfl, rfl, rfl, rfl, by decide +kernel⟩ ?hw ?hc
  case hw => w_witness2
  case hc =>
    refine L2.M.walkG (l := PySem.Challenge.rw_knockpurse_k49_gates_that_keep_their_sta) (n := 63) (k := 7) (x := "_law_script") rfl (by decide) (by kernel_rfl) ⟨⟨rfl, by decide, by decide⟩, rfl⟩ ?F
    intro w mg fa h Y G hmg0
    obtain ⟨K, KX, c, cc⟩ := Y
    have hmg : mg ("law" : PySem.Str) = some (.ref fa) := by
      have e : (HandSHeadRun.topDef (OpenLaw.row PySem.Challenge.rw_knockpurse_k49_gates_that_keep_their_sta).prog 32).name = ("law" : PySem.Str) := by kernel_rfl
      rw [← e]
      exact hmg0
    obtain ⟨fd, hb, hF⟩ := L2.M.topG (P := (PySem.Challenge.rw_knockpurse_k49_gates_that_keep_their_sta).prog) (w := w) ⟨h, KX, G, c⟩ 23 18 (k := 6) (m := KW.m_law) rfl rfl rfl KW.pl_law KW.sc_law hmg (fun base => KW.bd_law ⟨h, KX, G, c⟩ cc)
    exact ⟨K, fd, _, KX, hb, fun H a ns hl O hS => L2.M.sp_law O hS (law_true ns hl), hF⟩
end
namespace KW
open PySem PySem.Spec PyProof.Rows L2 L2.M
theorem at_nn {α : Type} {xs : List α} {i : Int} (h : 0 ≤ i) : atI xs i = xs[i.toNat]? := by
  unfold atI ixN
  rw [if_pos h]
  by_cases k : i.toNat < xs.length
  · rw [if_pos (by omega)]; rfl
  · rw [if_neg (by omega)]
    rw [List.getElem?_eq_none (by omega)]
    rfl
theorem at_lit {α : Type} {xs : List α} {n : Nat} : atI xs (no_index (OfNat.ofNat n) : Int) = xs[n]? := at_nn (Int.natCast_nonneg n)
theorem at_nat {α : Type} {xs : List α} {n : Nat} : atI xs (n : Int) = xs[n]? := at_nn (Int.natCast_nonneg n)
theorem at_neg {α : Type} {xs : List α} {n : Nat} (h : 0 < n) : atI xs (-(n : Int)) = if n ≤ xs.length then xs[xs.length - n]? else none := by
  unfold atI ixN
  rw [if_neg (by omega)]
  by_cases k : n ≤ xs.length
  · rw [if_pos (by omega), if_pos k]
    have : (-(n : Int) + (xs.length : Int)).toNat = xs.length - n := by omega
    simp [this]
  · rw [if_neg (by omega), if_neg k]
    rfl
theorem at_m1 {α : Type} {xs : List α} : atI xs (-1) = xs.getLast? := by
  have := at_neg (xs := xs) (n := 1) (by decide)
  rw [show (-1 : Int) = -((1 : Nat) : Int) by rfl, this]
  cases xs with
  | nil => rfl
  | cons x xs => simp [List.getLast?_eq_getElem?]
theorem at_m2 {α : Type} {xs : List α} : atI xs (-2) = if 2 ≤ xs.length then xs[xs.length - 2]? else none := by
  rw [show (-2 : Int) = -((2 : Nat) : Int) by rfl, at_neg (by decide)]
theorem bq_int (i j : Int) : (i == j) = decide (i = j) := by
  by_cases h : i = j <;> simp [h]
theorem bq_str (i j : Str) : (i == j) = decide (i = j) := by
  by_cases h : i = j <;> simp [h]
theorem ofs_inj (a b : String) : (Str.ofString a = Str.ofString b) = (a = b) := by
  apply propext
  constructor
  · intro h
    rw [Str.ofString_eq_toList, Str.ofString_eq_toList] at h
    have h1 : (a.toList.map Char.toNat).toArray = (b.toList.map Char.toNat).toArray := congrArg Str.cps h
    have h2 : a.toList.map Char.toNat = b.toList.map Char.toNat := by simpa using h1
    have h3 : a.toList = b.toList := List.map_inj_right (fun x y h => Char.toNat_inj.mp h) |>.mp h2
    exact String.toList_inj.mp h3
  · rintro rfl
    rfl
theorem ee_ii (i j : Int) : PyData.eqv (.int i) (.int j) = decide (i = j) := by simp only [PyData.eqv]; exact bq_int i j
theorem ee_ss (i j : Str) : PyData.eqv (.str i) (.str j) = decide (i = j) := by simp only [PyData.eqv]; exact bq_str i j
theorem ee_bb (i j : Bool) : PyData.eqv (.bool i) (.bool j) = decide (i = j) := by cases i <;> cases j <;> rfl
theorem ee_nn : PyData.eqv .none .none = true := rfl
theorem ee_is (i : Int) (j : Str) : PyData.eqv (.int i) (.str j) = false := rfl
theorem ee_si (i : Int) (j : Str) : PyData.eqv (.str j) (.int i) = false := rfl
theorem ee_in (i : Int) : PyData.eqv (.int i) .none = false := rfl
theorem ee_ni (i : Int) : PyData.eqv .none (.int i) = false := rfl
theorem ee_tt (xs ys : List PyData) : PyData.eqv (.tuple xs) (.tuple ys) = PyData.eqvAll xs ys := by simp only [PyData.eqv]
theorem ee_ll (xs ys : List PyData) : PyData.eqv (.list xs) (.list ys) = PyData.eqvAll xs ys := by simp only [PyData.eqv]
theorem ee_0 : PyData.eqvAll [] [] = true := rfl
theorem ee_1 (x y : PyData) (xs ys : List PyData) : PyData.eqvAll (x :: xs) (y :: ys) = (PyData.eqv x y && PyData.eqvAll xs ys) := by simp only [PyData.eqvAll]
theorem ee_2 (x : PyData) (xs : List PyData) : PyData.eqvAll (x :: xs) [] = false := rfl
theorem ee_3 (x : PyData) (xs : List PyData) : PyData.eqvAll [] (x :: xs) = false := rfl
theorem ee_maps (xs ys : List Int) : PyData.eqvAll (xs.map .int) (ys.map .int) = decide (xs = ys) := by
  induction xs generalizing ys with
  | nil => cases ys <;> simp [ee_0, ee_3]
  | cons x xs ih => cases ys <;> simp [ee_1, ee_2, ih, ee_ii]
/-- a fact kept out of a simplifier's way -/
structure Hid (p : Prop) : Prop where
  get : p
structure Pn where
  l : Int
  b : Int
  s : Int
def penL (p : Pn) : List PyData := [.int p.l, .int p.b, .int p.s]
def nxt (s : Int) : Int := ((s + 7919) % 2147483647 * ((s + 7919) % 2147483647) + 48271 * ((s + 7919) % 2147483647) + 12345) % 2147483629
def pnOf (x : Int) : Pn := ⟨if 0 - x > x then 0 - x else x, if (10 : Int) ^ 18 ≤ (if 0 - x > x then 0 - x else x) then 1 else 0, (if 0 - x > x then 0 - x else x) % 1000003⟩
def dr (p : Pn) (n : Int) : Int := if p.b = 1 ∧ 0 < p.l then p.l % n else nxt (nxt p.s + 7) / 64 % n
def dn (p : Pn) (n : Int) : Pn := if p.b = 1 ∧ 0 < p.l then ⟨p.l / n, p.b, p.s⟩ else ⟨p.l, p.b, nxt (nxt p.s + 7)⟩
theorem dr_nn {p : Pn} {n : Int} (h : 0 < n) : 0 ≤ dr p n := by
  unfold dr
  split <;> exact Int.emod_nonneg _ (by omega)
theorem dr_lt {p : Pn} {n : Int} (h : 0 < n) : dr p n < n := by
  unfold dr
  split <;> exact Int.emod_lt_of_pos _ h
theorem dr_ab (p : Pn) (n : Int) (h : 0 < n) : 0 ≤ dr p n ∧ dr p n < n := ⟨dr_nn h, dr_lt h⟩
theorem dr_a2 (p : Pn) (n : Int) : 0 < n → 0 ≤ dr p n ∧ dr p n < n := fun h => ⟨dr_nn h, dr_lt h⟩
grind_pattern dr_a2 => dr p n
/-- the item of a list of whole numbers -/
def gt (xs : List Int) (i : Int) : Int := xs.getD i.toNat 0
theorem gt_mem {xs : List Int} {i : Int} (h0 : 0 ≤ i) (h1 : i < xs.length) : gt xs i ∈ xs := by
  unfold gt
  rw [List.getD_eq_getElem?_getD, List.getElem?_eq_getElem (by omega)]
  simp
theorem pk {xs : List Int} {ds : List PyData} {i : Int} (e : ds = xs.map PyData.int) (h0 : 0 ≤ i) (h1 : i < xs.length) : atI ds i = some (.int (gt xs i)) := by
  subst e
  have : i.toNat < xs.length := by omega
  rw [at_nn h0]
  simp [gt, this]
theorem pk3 {a b c i : Int} (h0 : 0 ≤ i) (h1 : i < 3) : atI ([.int a, .int b, .int c] : List PyData) i = some (.int (gt [a, b, c] i)) := pk rfl h0 h1
theorem pk4 {a b c d i : Int} (h0 : 0 ≤ i) (h1 : i < 4) : atI ([.int a, .int b, .int c, .int d] : List PyData) i = some (.int (gt [a, b, c, d] i)) := pk rfl h0 h1
theorem pkd3 {a b c : Int} {p : Pn} : atI ([.int a, .int b, .int c] : List PyData) (dr p 3) = some (.int (gt [a, b, c] (dr p 3))) := pk3 (dr_nn (by decide)) (dr_lt (by decide))
theorem pkd4 {a b c d : Int} {p : Pn} : atI ([.int a, .int b, .int c, .int d] : List PyData) (dr p 4) = some (.int (gt [a, b, c, d] (dr p 4))) := pk4 (dr_nn (by decide)) (dr_lt (by decide))
theorem gd3 {a b c : Int} {p : Pn} {P : Int → Prop} (H : P a ∧ P b ∧ P c) : P (gt [a, b, c] (dr p 3)) := by
  have m := gt_mem (xs := [a, b, c]) (i := dr p 3) (dr_nn (by decide)) (dr_lt (by decide))
  simp only [List.mem_cons, List.not_mem_nil, or_false] at m
  obtain ⟨h0, h1, h2⟩ := H
  rcases m with e | e | e <;> (rw [e]; assumption)
theorem gd4 {a b c d : Int} {p : Pn} {P : Int → Prop} (H : P a ∧ P b ∧ P c ∧ P d) : P (gt [a, b, c, d] (dr p 4)) := by
  have m := gt_mem (xs := [a, b, c, d]) (i := dr p 4) (dr_nn (by decide)) (dr_lt (by decide))
  simp only [List.mem_cons, List.not_mem_nil, or_false] at m
  obtain ⟨h0, h1, h2, h3⟩ := H
  rcases m with e | e | e | e <;> (rw [e]; assumption)
def Wx (x : Option (Fl × Cs)) (Q : Fl → Cs → Prop) : Prop := ∃ f ε, x = some (f, ε) ∧ Q f ε
def Rt (x : Option (C × List C)) (P : C → List C → Prop) : Prop := ∃ c cs, x = some (c, cs) ∧ P c cs
def endQ (io : List Bool) (cs : List C) (P : C → List C → Prop) : Fl → Cs → Prop
  | .rt c, ε => P c (after io cs ε)
  | .nx, ε => P (.sh .none) (after io cs ε)
  | _, _ => False
theorem rt_eq {x : Option (C × List C)} {c : C} {cs : List C} (h : Rt x fun c' cs' => c' = c ∧ cs' = cs) : x = some (c, cs) := by
  obtain ⟨_, _, e, rfl, rfl⟩ := h
  exact e
theorem wx_nx {m n : XM} {ε ε1 : Cs} {Q : Fl → Cs → Prop} (h : m ε = some (.nx, ε1)) (h2 : Wx (n ε1) Q) : Wx (mSeq m n ε) Q := by
  unfold mSeq
  rw [h]
  exact h2
theorem wx_rt {m n : XM} {ε ε1 : Cs} {c : C} {Q : Fl → Cs → Prop} (h : m ε = some (.rt c, ε1)) (h2 : Q (.rt c) ε1) : Wx (mSeq m n ε) Q := by
  unfold mSeq
  rw [h]
  exact ⟨_, _, rfl, h2⟩
theorem wx_fl {m n : XM} {ε ε1 : Cs} {f : Fl} {Q : Fl → Cs → Prop} (h : m ε = some (f, ε1)) (hf : f ≠ .nx) (h2 : Q f ε1) : Wx (mSeq m n ε) Q := by
  unfold mSeq
  rw [h]
  cases f with
  | nx => exact absurd rfl hf
  | bk => exact ⟨_, _, rfl, h2⟩
  | ct => exact ⟨_, _, rfl, h2⟩
  | rt c => exact ⟨_, _, rfl, h2⟩
  | xc x => exact ⟨_, _, rfl, h2⟩
theorem wx_seq {m n : XM} {ε : Cs} {Q : Fl → Cs → Prop} (h : Wx (m ε) fun f ε1 => match f with | .nx => Wx (n ε1) Q | f => Q f ε1) : Wx (mSeq m n ε) Q := by
  obtain ⟨f, ε1, e, q⟩ := h
  unfold mSeq
  rw [e]
  cases f with
  | nx => exact q
  | bk => exact ⟨_, _, rfl, q⟩
  | ct => exact ⟨_, _, rfl, q⟩
  | rt c => exact ⟨_, _, rfl, q⟩
  | xc x => exact ⟨_, _, rfl, q⟩
theorem wx_skip {ε : Cs} {Q : Fl → Cs → Prop} (h : Q .nx ε) : Wx (mSkip ε) Q := ⟨_, _, rfl, h⟩
theorem wx_if {t : TM} {m n : XM} {ε ε1 : Cs} {b : Bool} {Q : Fl → Cs → Prop} (h : t ε = some (b, ε1)) (h1 : b = true → Wx (m ε1) Q) (h2 : b = false → Wx (n ε1) Q) : Wx (mIf t m n ε) Q := by
  unfold mIf
  rw [h]
  cases b with
  | true => exact h1 rfl
  | false => exact h2 rfl
theorem rt_sem {io : List Bool} {ns : Nat} {m : XM} {cs : List C} {P : C → List C → Prop} (hs : shared io cs = true) (h : Wx (m (cs ++ List.replicate (ns - cs.length) .no)) (endQ io cs P)) : Rt (semF io ns m cs) P := by
  obtain ⟨f, ε, e, q⟩ := h
  unfold semF
  rw [if_pos hs, e]
  cases f with
  | nx => exact ⟨_, _, rfl, q⟩
  | bk => exact q.elim
  | ct => exact q.elim
  | rt c => exact ⟨_, _, rfl, q⟩
  | xc x => exact q.elim
theorem wx_mono {x : Option (Fl × Cs)} {Q Q' : Fl → Cs → Prop} (h : Wx x Q) (i : ∀ f ε, Q f ε → Q' f ε) : Wx x Q' := by
  obtain ⟨f, ε, e, q⟩ := h
  exact ⟨f, ε, e, i _ _ q⟩
/-- a loop, by what holds ahead of each round -/
theorem wx_for {io : List Nat} {src : SM} {bind : BM} {body : XM} {ε ε1 : Cs} {ds : List PyData} {ws : List Nat} {Q : Fl → Cs → Prop} (J : Nat → Cs → Prop) (hs : src ε = some ((ds, ws), ε1)) (hw : ws.all (fun i => io.contains i) = true)
    (h0 : J 0 ε1) (hJ : ∀ i ε2, J i ε2 → sameC ws ε1 ε2) (hstep : ∀ i d ε2, ds[i]? = some d → J i ε2 → ∃ ε3, bind d ε2 = some ε3 ∧ Wx (body ε3) fun f ε4 => match f with
      | .nx => J (i + 1) ε4
      | .ct => J (i + 1) ε4
      | .bk => Q .nx ε4
      | .rt c => Q (.rt c) ε4
      | .xc x => Q (.xc x) ε4) (hend : ∀ ε2, J ds.length ε2 → Q .nx ε2) : Wx (mFor io src bind body ε) Q := by
  unfold mFor
  simp only [hs, Option.bind_eq_bind, Option.bind_some, hw, if_true]
  have main : ∀ (l : List PyData) (i : Nat) (ε2 : Cs), ds.drop i = l → i ≤ ds.length → J i ε2 → Wx (forL ws ε1 bind body l ε2) Q := by
    intro l
    induction l with
    | nil =>
      intro i ε2 hl hi hj
      unfold forL
      rw [if_pos (hJ i ε2 hj)]
      have : i = ds.length := by
        have := List.drop_eq_nil_iff.mp hl
        omega
      subst this
      exact ⟨_, _, rfl, hend _ hj⟩
    | cons d l ih =>
      intro i ε2 hl hi hj
      unfold forL
      rw [if_pos (hJ i ε2 hj)]
      have hd : ds[i]? = some d := by
        have := congrArg (fun x => x[0]?) hl
        simpa using this
      obtain ⟨ε3, e3, f, ε4, e4, q⟩ := hstep i d ε2 hd hj
      have hi' : i + 1 ≤ ds.length := (List.getElem?_eq_some_iff.mp hd).1
      have hl' : ds.drop (i + 1) = l := by
        rw [← List.drop_drop, hl]
        rfl
      simp only [e3, e4, Option.bind_eq_bind, Option.bind_some]
      cases f with
      | nx => exact ih (i + 1) ε4 hl' hi' q
      | ct => exact ih (i + 1) ε4 hl' hi' q
      | bk => exact ⟨_, _, rfl, q⟩
      | rt c => exact ⟨_, _, rfl, q⟩
      | xc x => exact ⟨_, _, rfl, q⟩
  exact main ds 0 ε1 rfl (Nat.zero_le _) h0
/-- a loop whose source is no locked list: each item is known by its membership -/
theorem wx_each {io : List Nat} {src : SM} {bind : BM} {body : XM} {ε ε1 : Cs} {ds : List PyData} {Q : Fl → Cs → Prop} (J : Cs → Prop) (hs : src ε = some ((ds, []), ε1))
    (h0 : J ε1) (hstep : ∀ d ε2, d ∈ ds → J ε2 → ∃ ε3, bind d ε2 = some ε3 ∧ Wx (body ε3) fun f ε4 => match f with
      | .nx => J ε4
      | .ct => J ε4
      | .bk => Q .nx ε4
      | .rt c => Q (.rt c) ε4
      | .xc x => Q (.xc x) ε4) (hend : ∀ ε2, J ε2 → Q .nx ε2) : Wx (mFor io src bind body ε) Q :=
  wx_for (fun _ => J) hs rfl h0 (fun i ε hj j hj2 => by cases hj2) (fun i d ε2 hd hj => hstep d ε2 (List.mem_of_getElem? hd) hj) hend
theorem cut_map {α β : Type} (f : α → β) (xs : List α) (lo hi : Option Int) : L2.M.cutL (xs.map f) lo hi = (L2.M.cutL xs lo hi).map f := by
  unfold L2.M.cutL
  simp [List.map_take, List.map_drop]
theorem cut_len {α : Type} (xs : List α) (lo hi : Option Int) : (L2.M.cutL xs lo hi).length ≤ xs.length := by
  unfold L2.M.cutL
  simp only [List.length_take, List.length_drop]
  omega
@[simp] def whole : PyData → Bool
  | .int _ => true
  | _ => false
def num (d : PyData) (lo hi : Int) : Bool := match d with
  | .int i => decide (lo ≤ i) && decide (i ≤ hi)
  | _ => false
def lay (n : Nat) (d : PyData) : Bool := d.canLay0 && decide (d.depth ≤ n)
theorem shaped_lay (d : PyData) : SeqAt.shaped d = lay 64 d := rfl
theorem lay_int (n : Nat) (i : Int) : lay n (.int i) = true := by simp [lay, PyData.canLay0, PyData.depth]
theorem lay_bool (n : Nat) (i : Bool) : lay n (.bool i) = true := by simp [lay, PyData.canLay0, PyData.depth]
theorem lay_none (n : Nat) : lay n .none = true := by simp [lay, PyData.canLay0, PyData.depth]
theorem lay_str (n : Nat) (s : Str) : lay n (.str s) = PyData.strOk s := by simp [lay, PyData.canLay0, PyData.depth]
theorem lay_dict (n : Nat) (s : List (PyData × PyData)) : lay n (.dict s) = false := by simp [lay, PyData.canLay0]
theorem lay_all (n : Nat) : ∀ ds : List PyData, (PyData.canLayAll0 ds && decide (PyData.depthAll ds ≤ n)) = ds.all (lay n)
  | [] => by simp [PyData.canLayAll0, PyData.depthAll]
  | d :: ds => by
    have ih := lay_all n ds
    simp only [PyData.canLayAll0, PyData.depthAll, List.all_cons, ← ih, lay]
    by_cases h1 : d.canLay0 = true <;> by_cases h2 : PyData.canLayAll0 ds = true <;> by_cases h3 : d.depth ≤ n <;> by_cases h4 : PyData.depthAll ds ≤ n <;> simp [h1, h2, h3, h4, Nat.max_le]
theorem lay_tup {n : Nat} (ds : List PyData) (h : 0 < n) : lay n (.tuple ds) = ds.all (lay (n - 1)) := by
  rw [← lay_all]
  simp only [lay, PyData.canLay0, PyData.depth]
  have : (PyData.depthAll ds + 1 ≤ n) = (PyData.depthAll ds ≤ n - 1) := by
    apply propext
    omega
  simp only [this]
theorem lay_list {n : Nat} (ds : List PyData) (h : 0 < n) : lay n (.list ds) = ds.all (lay (n - 1)) := by
  rw [← lay_all]
  simp only [lay, PyData.canLay0, PyData.depth]
  have : (PyData.depthAll ds + 1 ≤ n) = (PyData.depthAll ds ≤ n - 1) := by
    apply propext
    omega
  simp only [this]
theorem lay_ints (n : Nat) (ns : List Int) : (ns.map PyData.int).all (lay n) = true := by
  simp [List.all_map, lay_int]
theorem lay_mono {n m : Nat} {d : PyData} (h : n ≤ m) (l : lay n d = true) : lay m d = true := by
  simp only [lay, Bool.and_eq_true, decide_eq_true_eq] at l ⊢
  exact ⟨l.1, Nat.le_trans l.2 h⟩
end KW
namespace KW
open PySem PySem.Spec PyProof.Rows L2 L2.M
local macro_rules | `(tactic| walk_at "ev") => `(tactic| simp [semF, shared, after, mSeq, mSkip, mIf, mRet, mRetN, mRetV, mSet, mSetIx, mExpr, mB, mU, mTm, mPl, mK, mVar, mOp, mCons, mNil, bor, bors, mTst, mAndT, mOrT, mNotT, mAndE, mOrE, mNotE, mIfE, mIsi, isiD, mChn, chnL, cmpD, binD, addD, subD, mulD, modD, fdivD, powD, eqD, neD, ltD, leD, gtD, geD, isD, isnD, L2.M.isNon, negD, ixD, Bf.f, Bg.f, lenD, L2.M.intD, maxD, minD, repD, strD, gmaxD, gminD, sumD, sortD, anyD, allD, mCall, frz, fzO, lend, wb, mTup, mLst, fzs, cD, mAsg, bTup, bTps, mApp, tupD, lstD, mRev, revD, ofs_inj, ee_ii, ee_ss, ee_bb, ee_nn, ee_is, ee_si, ee_in, ee_ni, ee_tt, ee_ll, ee_maps, ee_0, ee_1, ee_2, ee_3, at_lit, at_nat, at_m1, at_m2, scD, emD, sizeLine_eq, ixN, sm_lit, mSrc, itemsD, plOf, rng1D, bNm, mSl, mPt, mNoP, slD, mPar, keepT, tmsO, setA, mFlow, zipX, enumX, itemsX, intsOf, ints_all, boolsOf, shaped_lay, lay_int, lay_bool, lay_none, lay_dict, lay_tup, lay_list, lay_ints, sortX_ints, mPlF, mPlI, mRd, mPU, mPB, mFSet, mFNew, mNSet, mPApp, mPSetIx, mPPop, mMeth, mNew, isIns, cellO, mLstN, mAddN, mAppN, semX, mTold, mCallX, mMethX, xFSet, mMethP, oneC, xRet, xExpr, xSet, mRaise, mM, isL, isS, mOrV, truD])
local macro_rules | `(tactic| walk_at "es") => `(tactic| simp [semF, shared, after, mSeq, mSkip, mIf, mRet, mRetN, mRetV, mSet, mSetIx, mExpr, mB, mU, mTm, mPl, mK, mVar, mOp, mCons, mNil, bor, bors, mTst, mAndT, mOrT, mNotT, mAndE, mOrE, mNotE, mIfE, mIsi, isiD, mChn, chnL, cmpD, binD, addD, subD, mulD, modD, fdivD, powD, eqD, neD, ltD, leD, gtD, geD, isD, isnD, L2.M.isNon, negD, ixD, Bf.f, Bg.f, lenD, L2.M.intD, maxD, minD, repD, strD, gmaxD, gminD, sumD, sortD, anyD, allD, mCall, frz, fzO, lend, wb, mTup, mLst, fzs, cD, mAsg, bTup, bTps, mApp, tupD, lstD, mRev, revD, ofs_inj, ee_ii, ee_ss, ee_bb, ee_nn, ee_is, ee_si, ee_in, ee_ni, ee_tt, ee_ll, ee_maps, ee_0, ee_1, ee_2, ee_3, at_lit, at_nat, at_m1, at_m2, scD, emD, sizeLine_eq, ixN, sm_lit, mSrc, itemsD, plOf, rng1D, bNm, mSl, mPt, mNoP, slD, mPar, keepT, tmsO, setA, mFlow, zipX, enumX, itemsX, intsOf, ints_all, boolsOf, shaped_lay, lay_int, lay_bool, lay_none, lay_dict, lay_tup, lay_list, lay_ints, sortX_ints, mPlF, mPlI, mRd, mPU, mPB, mFSet, mFNew, mNSet, mPApp, mPSetIx, mPPop, mMeth, mNew, isIns, cellO, mLstN, mAddN, mAppN, semX, mTold, mCallX, mMethX, xFSet, mMethP, oneC, xRet, xExpr, xSet, mRaise, mM, isL, isS, mOrV, truD, *])
local macro_rules | `(tactic| walk_at "el") => `(tactic| simp [semF, shared, after, mSeq, mSkip, mIf, mRet, mRetN, mRetV, mSet, mSetIx, mExpr, mB, mU, mTm, mPl, mK, mVar, mOp, mCons, mNil, bor, bors, mTst, mAndT, mOrT, mNotT, mAndE, mOrE, mNotE, mIfE, mIsi, isiD, mChn, chnL, cmpD, binD, addD, subD, mulD, modD, fdivD, powD, eqD, neD, ltD, leD, gtD, geD, isD, isnD, L2.M.isNon, negD, ixD, Bf.f, Bg.f, lenD, L2.M.intD, maxD, minD, repD, strD, gmaxD, gminD, sumD, sortD, anyD, allD, mCall, frz, fzO, lend, wb, mTup, mLst, fzs, cD, mAsg, bTup, bTps, mApp, tupD, lstD, mRev, revD, ofs_inj, ee_ii, ee_ss, ee_bb, ee_nn, ee_is, ee_si, ee_in, ee_ni, ee_tt, ee_ll, ee_maps, ee_0, ee_1, ee_2, ee_3, at_lit, at_nat, at_m1, at_m2, scD, emD, sizeLine_eq, ixN, sm_lit, mSrc, itemsD, plOf, rng1D, bNm, mSl, mPt, mNoP, slD, mPar, keepT, tmsO, setA, mFlow, zipX, enumX, itemsX, intsOf, ints_all, boolsOf, shaped_lay, lay_int, lay_bool, lay_none, lay_dict, lay_tup, lay_list, lay_ints, sortX_ints, mPlF, mPlI, mRd, mPU, mPB, mFSet, mFNew, mNSet, mPApp, mPSetIx, mPPop, mMeth, mNew, isIns, cellO, mLstN, mAddN, mAppN, semX, mTold, mCallX, mMethX, xFSet, mMethP, oneC, xRet, xExpr, xSet, mRaise, mM, isL, isS, mOrV, truD, mLc, lcL, sameC, wipeC, restC, mYes, *])
local macro_rules | `(tactic| walk_at "ef") => `(tactic| simp [semF, shared, after, mSeq, mSkip, mIf, mRet, mRetN, mRetV, mSet, mSetIx, mExpr, mB, mU, mTm, mPl, mK, mVar, mOp, mCons, mNil, bor, bors, mTst, mAndT, mOrT, mNotT, mAndE, mOrE, mNotE, mIfE, mIsi, isiD, mChn, chnL, cmpD, binD, addD, subD, mulD, modD, fdivD, powD, eqD, neD, ltD, leD, gtD, geD, isD, isnD, L2.M.isNon, negD, ixD, Bf.f, Bg.f, lenD, L2.M.intD, maxD, minD, repD, strD, gmaxD, gminD, sumD, sortD, anyD, allD, mCall, frz, fzO, lend, wb, mTup, mLst, fzs, cD, mAsg, bTup, bTps, mApp, tupD, lstD, mRev, revD, ofs_inj, ee_ii, ee_ss, ee_bb, ee_nn, ee_is, ee_si, ee_in, ee_ni, ee_tt, ee_ll, ee_maps, ee_0, ee_1, ee_2, ee_3, at_lit, at_nat, at_m1, at_m2, scD, emD, sizeLine_eq, ixN, sm_lit, mSrc, itemsD, plOf, rng1D, bNm, mSl, mPt, mNoP, slD, mPar, keepT, tmsO, setA, mFlow, zipX, enumX, itemsX, intsOf, ints_all, boolsOf, shaped_lay, lay_int, lay_bool, lay_none, lay_dict, lay_tup, lay_list, lay_ints, sortX_ints, mPlF, mPlI, mRd, mPU, mPB, mFSet, mFNew, mNSet, mPApp, mPSetIx, mPPop, mMeth, mNew, isIns, cellO, mLstN, mAddN, mAppN, semX, mTold, mCallX, mMethX, xFSet, mMethP, oneC, xRet, xExpr, xSet, mRaise, mM, isL, isS, mOrV, truD, mFor, forL, mLc, lcL, sameC, wipeC, restC, mYes, *])
local macro_rules | `(tactic| walk_at "rg") => `(tactic| (and_intros <;> grind))
local macro_rules | `(tactic| walk_at "nx") => `(tactic| (apply wx_nx; focus (walk_at "ev"; try first | exact ⟨rfl, rfl⟩ | rfl)))
local macro_rules | `(tactic| walk_at "ns") => `(tactic| (apply wx_nx; focus (walk_at "es"; try first | exact ⟨rfl, rfl⟩ | rfl)))
local macro_rules | `(tactic| walk_at "rt") => `(tactic| (apply wx_rt; focus (walk_at "ev"; try first | exact ⟨rfl, rfl⟩ | rfl)))
local macro_rules | `(tactic| walk_at "rs") => `(tactic| (apply wx_rt; focus (walk_at "es"; try first | exact ⟨rfl, rfl⟩ | rfl)))
local macro_rules | `(tactic| walk_at "ed") => `(tactic| simp [semF, shared, after, mSeq, mSkip, mIf, mRet, mRetN, mRetV, mSet, mSetIx, mExpr, mB, mU, mTm, mPl, mK, mVar, mOp, mCons, mNil, bor, bors, mTst, mAndT, mOrT, mNotT, mAndE, mOrE, mNotE, mIfE, mIsi, isiD, mChn, chnL, cmpD, binD, addD, subD, mulD, modD, fdivD, powD, eqD, neD, ltD, leD, gtD, geD, isD, isnD, L2.M.isNon, negD, ixD, Bf.f, Bg.f, lenD, L2.M.intD, maxD, minD, repD, strD, gmaxD, gminD, sumD, sortD, anyD, allD, mCall, frz, fzO, lend, wb, mTup, mLst, fzs, cD, mAsg, bTup, bTps, mApp, tupD, lstD, mRev, revD, ofs_inj, ee_ii, ee_ss, ee_bb, ee_nn, ee_is, ee_si, ee_in, ee_ni, ee_tt, ee_ll, ee_maps, ee_0, ee_1, ee_2, ee_3, at_lit, at_nat, at_m1, at_m2, scD, emD, sizeLine_eq, ixN, sm_lit, mSrc, itemsD, plOf, rng1D, bNm, mSl, mPt, mNoP, slD, mPar, keepT, tmsO, setA, mFlow, zipX, enumX, itemsX, intsOf, ints_all, boolsOf, shaped_lay, lay_int, lay_bool, lay_none, lay_dict, lay_tup, lay_list, lay_ints, sortX_ints, mPlF, mPlI, mRd, mPU, mPB, mFSet, mFNew, mNSet, mPApp, mPSetIx, mPPop, mMeth, mNew, isIns, cellO, mLstN, mAddN, mAppN, semX, mTold, mCallX, mMethX, xFSet, mMethP, oneC, xRet, xExpr, xSet, mRaise, mM, isL, isS, mOrV, truD, mDNew, mDIn, mDGet, mDLen, mDPut, kyD, mNNew, mN1, mTake, mFnV, mCallF, mNIn, mNGet, mNPut, mNVals, mNList, nKs, mDGetD, mDList, mNNe, *])
/-- gaps as they should be -/
structure Gp (a t m M : Int) : Prop where
  a1 : 1 ≤ a
  a2 : a ≤ 1000
  t1 : 1 ≤ t
  t2 : t ≤ 10
  m1 : 0 ≤ m
  m2 : m ≤ 1000
  M1 : 1 ≤ M
  M2 : M ≤ 1000
/-- the gap behind one -/
def gnx (t m M g : Int) : Int := if t * g + m < M then t * g + m else M
def gs (a t m M : Int) : Nat → Int
  | 0 => if M < a then M else a
  | n + 1 => gnx t m M (gs a t m M n)
section
variable {a t m M : Int}
/-- the first n gaps -/
def grow (a t m M : Int) (n : Nat) : List Int := (List.range n).map (gs a t m M)
end
end KW
namespace KW
open PySem PySem.Spec PyProof.Rows L2 L2.M
local macro_rules | `(tactic| walk_at "ev") => `(tactic| simp [semF, shared, after, mSeq, mSkip, mIf, mRet, mRetN, mRetV, mSet, mSetIx, mExpr, mB, mU, mTm, mPl, mK, mVar, mOp, mCons, mNil, bor, bors, mTst, mAndT, mOrT, mNotT, mAndE, mOrE, mNotE, mIfE, mIsi, isiD, mChn, chnL, cmpD, binD, addD, subD, mulD, modD, fdivD, powD, eqD, neD, ltD, leD, gtD, geD, isD, isnD, L2.M.isNon, negD, ixD, Bf.f, Bg.f, lenD, L2.M.intD, maxD, minD, repD, strD, gmaxD, gminD, sumD, sortD, anyD, allD, mCall, frz, fzO, lend, wb, mTup, mLst, fzs, cD, mAsg, bTup, bTps, mApp, tupD, lstD, mRev, revD, ofs_inj, ee_ii, ee_ss, ee_bb, ee_nn, ee_is, ee_si, ee_in, ee_ni, ee_tt, ee_ll, ee_maps, ee_0, ee_1, ee_2, ee_3, at_lit, at_nat, at_m1, at_m2, scD, emD, sizeLine_eq, ixN, sm_lit, mSrc, itemsD, plOf, rng1D, bNm, mSl, mPt, mNoP, slD, mPar, keepT, tmsO, setA, mFlow, zipX, enumX, itemsX, intsOf, ints_all, boolsOf, shaped_lay, lay_int, lay_bool, lay_none, lay_dict, lay_tup, lay_list, lay_ints, sortX_ints, mPlF, mPlI, mRd, mPU, mPB, mFSet, mFNew, mNSet, mPApp, mPSetIx, mPPop, mMeth, mNew, isIns, cellO, mLstN, mAddN, mAppN, semX, mTold, mCallX, mMethX, xFSet, mMethP, oneC, xRet, xExpr, xSet, mRaise, mM, isL, isS, mOrV, truD])
local macro_rules | `(tactic| walk_at "es") => `(tactic| simp [semF, shared, after, mSeq, mSkip, mIf, mRet, mRetN, mRetV, mSet, mSetIx, mExpr, mB, mU, mTm, mPl, mK, mVar, mOp, mCons, mNil, bor, bors, mTst, mAndT, mOrT, mNotT, mAndE, mOrE, mNotE, mIfE, mIsi, isiD, mChn, chnL, cmpD, binD, addD, subD, mulD, modD, fdivD, powD, eqD, neD, ltD, leD, gtD, geD, isD, isnD, L2.M.isNon, negD, ixD, Bf.f, Bg.f, lenD, L2.M.intD, maxD, minD, repD, strD, gmaxD, gminD, sumD, sortD, anyD, allD, mCall, frz, fzO, lend, wb, mTup, mLst, fzs, cD, mAsg, bTup, bTps, mApp, tupD, lstD, mRev, revD, ofs_inj, ee_ii, ee_ss, ee_bb, ee_nn, ee_is, ee_si, ee_in, ee_ni, ee_tt, ee_ll, ee_maps, ee_0, ee_1, ee_2, ee_3, at_lit, at_nat, at_m1, at_m2, scD, emD, sizeLine_eq, ixN, sm_lit, mSrc, itemsD, plOf, rng1D, bNm, mSl, mPt, mNoP, slD, mPar, keepT, tmsO, setA, mFlow, zipX, enumX, itemsX, intsOf, ints_all, boolsOf, shaped_lay, lay_int, lay_bool, lay_none, lay_dict, lay_tup, lay_list, lay_ints, sortX_ints, mPlF, mPlI, mRd, mPU, mPB, mFSet, mFNew, mNSet, mPApp, mPSetIx, mPPop, mMeth, mNew, isIns, cellO, mLstN, mAddN, mAppN, semX, mTold, mCallX, mMethX, xFSet, mMethP, oneC, xRet, xExpr, xSet, mRaise, mM, isL, isS, mOrV, truD, *])
local macro_rules | `(tactic| walk_at "el") => `(tactic| simp [semF, shared, after, mSeq, mSkip, mIf, mRet, mRetN, mRetV, mSet, mSetIx, mExpr, mB, mU, mTm, mPl, mK, mVar, mOp, mCons, mNil, bor, bors, mTst, mAndT, mOrT, mNotT, mAndE, mOrE, mNotE, mIfE, mIsi, isiD, mChn, chnL, cmpD, binD, addD, subD, mulD, modD, fdivD, powD, eqD, neD, ltD, leD, gtD, geD, isD, isnD, L2.M.isNon, negD, ixD, Bf.f, Bg.f, lenD, L2.M.intD, maxD, minD, repD, strD, gmaxD, gminD, sumD, sortD, anyD, allD, mCall, frz, fzO, lend, wb, mTup, mLst, fzs, cD, mAsg, bTup, bTps, mApp, tupD, lstD, mRev, revD, ofs_inj, ee_ii, ee_ss, ee_bb, ee_nn, ee_is, ee_si, ee_in, ee_ni, ee_tt, ee_ll, ee_maps, ee_0, ee_1, ee_2, ee_3, at_lit, at_nat, at_m1, at_m2, scD, emD, sizeLine_eq, ixN, sm_lit, mSrc, itemsD, plOf, rng1D, bNm, mSl, mPt, mNoP, slD, mPar, keepT, tmsO, setA, mFlow, zipX, enumX, itemsX, intsOf, ints_all, boolsOf, shaped_lay, lay_int, lay_bool, lay_none, lay_dict, lay_tup, lay_list, lay_ints, sortX_ints, mPlF, mPlI, mRd, mPU, mPB, mFSet, mFNew, mNSet, mPApp, mPSetIx, mPPop, mMeth, mNew, isIns, cellO, mLstN, mAddN, mAppN, semX, mTold, mCallX, mMethX, xFSet, mMethP, oneC, xRet, xExpr, xSet, mRaise, mM, isL, isS, mOrV, truD, mLc, lcL, sameC, wipeC, restC, mYes, *])
local macro_rules | `(tactic| walk_at "ef") => `(tactic| simp [semF, shared, after, mSeq, mSkip, mIf, mRet, mRetN, mRetV, mSet, mSetIx, mExpr, mB, mU, mTm, mPl, mK, mVar, mOp, mCons, mNil, bor, bors, mTst, mAndT, mOrT, mNotT, mAndE, mOrE, mNotE, mIfE, mIsi, isiD, mChn, chnL, cmpD, binD, addD, subD, mulD, modD, fdivD, powD, eqD, neD, ltD, leD, gtD, geD, isD, isnD, L2.M.isNon, negD, ixD, Bf.f, Bg.f, lenD, L2.M.intD, maxD, minD, repD, strD, gmaxD, gminD, sumD, sortD, anyD, allD, mCall, frz, fzO, lend, wb, mTup, mLst, fzs, cD, mAsg, bTup, bTps, mApp, tupD, lstD, mRev, revD, ofs_inj, ee_ii, ee_ss, ee_bb, ee_nn, ee_is, ee_si, ee_in, ee_ni, ee_tt, ee_ll, ee_maps, ee_0, ee_1, ee_2, ee_3, at_lit, at_nat, at_m1, at_m2, scD, emD, sizeLine_eq, ixN, sm_lit, mSrc, itemsD, plOf, rng1D, bNm, mSl, mPt, mNoP, slD, mPar, keepT, tmsO, setA, mFlow, zipX, enumX, itemsX, intsOf, ints_all, boolsOf, shaped_lay, lay_int, lay_bool, lay_none, lay_dict, lay_tup, lay_list, lay_ints, sortX_ints, mPlF, mPlI, mRd, mPU, mPB, mFSet, mFNew, mNSet, mPApp, mPSetIx, mPPop, mMeth, mNew, isIns, cellO, mLstN, mAddN, mAppN, semX, mTold, mCallX, mMethX, xFSet, mMethP, oneC, xRet, xExpr, xSet, mRaise, mM, isL, isS, mOrV, truD, mFor, forL, mLc, lcL, sameC, wipeC, restC, mYes, *])
local macro_rules | `(tactic| walk_at "rg") => `(tactic| (and_intros <;> grind))
local macro_rules | `(tactic| walk_at "nx") => `(tactic| (apply wx_nx; focus (walk_at "ev"; try first | exact ⟨rfl, rfl⟩ | rfl)))
local macro_rules | `(tactic| walk_at "ns") => `(tactic| (apply wx_nx; focus (walk_at "es"; try first | exact ⟨rfl, rfl⟩ | rfl)))
local macro_rules | `(tactic| walk_at "rt") => `(tactic| (apply wx_rt; focus (walk_at "ev"; try first | exact ⟨rfl, rfl⟩ | rfl)))
local macro_rules | `(tactic| walk_at "rs") => `(tactic| (apply wx_rt; focus (walk_at "es"; try first | exact ⟨rfl, rfl⟩ | rfl)))
local macro_rules | `(tactic| walk_at "ed") => `(tactic| simp [semF, shared, after, mSeq, mSkip, mIf, mRet, mRetN, mRetV, mSet, mSetIx, mExpr, mB, mU, mTm, mPl, mK, mVar, mOp, mCons, mNil, bor, bors, mTst, mAndT, mOrT, mNotT, mAndE, mOrE, mNotE, mIfE, mIsi, isiD, mChn, chnL, cmpD, binD, addD, subD, mulD, modD, fdivD, powD, eqD, neD, ltD, leD, gtD, geD, isD, isnD, L2.M.isNon, negD, ixD, Bf.f, Bg.f, lenD, L2.M.intD, maxD, minD, repD, strD, gmaxD, gminD, sumD, sortD, anyD, allD, mCall, frz, fzO, lend, wb, mTup, mLst, fzs, cD, mAsg, bTup, bTps, mApp, tupD, lstD, mRev, revD, ofs_inj, ee_ii, ee_ss, ee_bb, ee_nn, ee_is, ee_si, ee_in, ee_ni, ee_tt, ee_ll, ee_maps, ee_0, ee_1, ee_2, ee_3, at_lit, at_nat, at_m1, at_m2, scD, emD, sizeLine_eq, ixN, sm_lit, mSrc, itemsD, plOf, rng1D, bNm, mSl, mPt, mNoP, slD, mPar, keepT, tmsO, setA, mFlow, zipX, enumX, itemsX, intsOf, ints_all, boolsOf, shaped_lay, lay_int, lay_bool, lay_none, lay_dict, lay_tup, lay_list, lay_ints, sortX_ints, mPlF, mPlI, mRd, mPU, mPB, mFSet, mFNew, mNSet, mPApp, mPSetIx, mPPop, mMeth, mNew, isIns, cellO, mLstN, mAddN, mAppN, semX, mTold, mCallX, mMethX, xFSet, mMethP, oneC, xRet, xExpr, xSet, mRaise, mM, isL, isS, mOrV, truD, mDNew, mDIn, mDGet, mDLen, mDPut, kyD, mNNew, mN1, mTake, mFnV, mCallF, mNIn, mNGet, mNPut, mNVals, mNList, nKs, mDGetD, mDList, mNNe, *])
section
variable {m n : EM} {ε ε1 ε2 : Cs} {c c1 c2 c' : C} {d d1 d2 : PyData} {io : List Nat} {i : Nat} {b : Bool}
theorem e_if {t : TM} {x y : XM} {r : Option (Fl × Cs)} (h : t ε = some (b, ε1)) (hr : (if b then x ε1 else y ε1) = r) : mIf t x y ε = r := by simp [mIf, h, ← hr]
end
end KW
namespace KW
open PySem PySem.Spec PyProof.Rows L2 L2.M
local macro_rules | `(tactic| walk_at "ev") => `(tactic| simp [semF, shared, after, mSeq, mSkip, mIf, mRet, mRetN, mRetV, mSet, mSetIx, mExpr, mB, mU, mTm, mPl, mK, mVar, mOp, mCons, mNil, bor, bors, mTst, mAndT, mOrT, mNotT, mAndE, mOrE, mNotE, mIfE, mIsi, isiD, mChn, chnL, cmpD, binD, addD, subD, mulD, modD, fdivD, powD, eqD, neD, ltD, leD, gtD, geD, isD, isnD, L2.M.isNon, negD, ixD, Bf.f, Bg.f, lenD, L2.M.intD, maxD, minD, repD, strD, gmaxD, gminD, sumD, sortD, anyD, allD, mCall, frz, fzO, lend, wb, mTup, mLst, fzs, cD, mAsg, bTup, bTps, mApp, tupD, lstD, mRev, revD, ofs_inj, ee_ii, ee_ss, ee_bb, ee_nn, ee_is, ee_si, ee_in, ee_ni, ee_tt, ee_ll, ee_maps, ee_0, ee_1, ee_2, ee_3, at_lit, at_nat, at_m1, at_m2, scD, emD, sizeLine_eq, ixN, sm_lit, mSrc, itemsD, plOf, rng1D, bNm, mSl, mPt, mNoP, slD, mPar, keepT, tmsO, setA, mFlow, zipX, enumX, itemsX, intsOf, ints_all, boolsOf, shaped_lay, lay_int, lay_bool, lay_none, lay_dict, lay_tup, lay_list, lay_ints, sortX_ints, mPlF, mPlI, mRd, mPU, mPB, mFSet, mFNew, mNSet, mPApp, mPSetIx, mPPop, mMeth, mNew, isIns, cellO, mLstN, mAddN, mAppN, semX, mTold, mCallX, mMethX, xFSet, mMethP, oneC, xRet, xExpr, xSet, mRaise, mM, isL, isS, mOrV, truD])
local macro_rules | `(tactic| walk_at "es") => `(tactic| simp [semF, shared, after, mSeq, mSkip, mIf, mRet, mRetN, mRetV, mSet, mSetIx, mExpr, mB, mU, mTm, mPl, mK, mVar, mOp, mCons, mNil, bor, bors, mTst, mAndT, mOrT, mNotT, mAndE, mOrE, mNotE, mIfE, mIsi, isiD, mChn, chnL, cmpD, binD, addD, subD, mulD, modD, fdivD, powD, eqD, neD, ltD, leD, gtD, geD, isD, isnD, L2.M.isNon, negD, ixD, Bf.f, Bg.f, lenD, L2.M.intD, maxD, minD, repD, strD, gmaxD, gminD, sumD, sortD, anyD, allD, mCall, frz, fzO, lend, wb, mTup, mLst, fzs, cD, mAsg, bTup, bTps, mApp, tupD, lstD, mRev, revD, ofs_inj, ee_ii, ee_ss, ee_bb, ee_nn, ee_is, ee_si, ee_in, ee_ni, ee_tt, ee_ll, ee_maps, ee_0, ee_1, ee_2, ee_3, at_lit, at_nat, at_m1, at_m2, scD, emD, sizeLine_eq, ixN, sm_lit, mSrc, itemsD, plOf, rng1D, bNm, mSl, mPt, mNoP, slD, mPar, keepT, tmsO, setA, mFlow, zipX, enumX, itemsX, intsOf, ints_all, boolsOf, shaped_lay, lay_int, lay_bool, lay_none, lay_dict, lay_tup, lay_list, lay_ints, sortX_ints, mPlF, mPlI, mRd, mPU, mPB, mFSet, mFNew, mNSet, mPApp, mPSetIx, mPPop, mMeth, mNew, isIns, cellO, mLstN, mAddN, mAppN, semX, mTold, mCallX, mMethX, xFSet, mMethP, oneC, xRet, xExpr, xSet, mRaise, mM, isL, isS, mOrV, truD, *])
local macro_rules | `(tactic| walk_at "el") => `(tactic| simp [semF, shared, after, mSeq, mSkip, mIf, mRet, mRetN, mRetV, mSet, mSetIx, mExpr, mB, mU, mTm, mPl, mK, mVar, mOp, mCons, mNil, bor, bors, mTst, mAndT, mOrT, mNotT, mAndE, mOrE, mNotE, mIfE, mIsi, isiD, mChn, chnL, cmpD, binD, addD, subD, mulD, modD, fdivD, powD, eqD, neD, ltD, leD, gtD, geD, isD, isnD, L2.M.isNon, negD, ixD, Bf.f, Bg.f, lenD, L2.M.intD, maxD, minD, repD, strD, gmaxD, gminD, sumD, sortD, anyD, allD, mCall, frz, fzO, lend, wb, mTup, mLst, fzs, cD, mAsg, bTup, bTps, mApp, tupD, lstD, mRev, revD, ofs_inj, ee_ii, ee_ss, ee_bb, ee_nn, ee_is, ee_si, ee_in, ee_ni, ee_tt, ee_ll, ee_maps, ee_0, ee_1, ee_2, ee_3, at_lit, at_nat, at_m1, at_m2, scD, emD, sizeLine_eq, ixN, sm_lit, mSrc, itemsD, plOf, rng1D, bNm, mSl, mPt, mNoP, slD, mPar, keepT, tmsO, setA, mFlow, zipX, enumX, itemsX, intsOf, ints_all, boolsOf, shaped_lay, lay_int, lay_bool, lay_none, lay_dict, lay_tup, lay_list, lay_ints, sortX_ints, mPlF, mPlI, mRd, mPU, mPB, mFSet, mFNew, mNSet, mPApp, mPSetIx, mPPop, mMeth, mNew, isIns, cellO, mLstN, mAddN, mAppN, semX, mTold, mCallX, mMethX, xFSet, mMethP, oneC, xRet, xExpr, xSet, mRaise, mM, isL, isS, mOrV, truD, mLc, lcL, sameC, wipeC, restC, mYes, *])
local macro_rules | `(tactic| walk_at "ef") => `(tactic| simp [semF, shared, after, mSeq, mSkip, mIf, mRet, mRetN, mRetV, mSet, mSetIx, mExpr, mB, mU, mTm, mPl, mK, mVar, mOp, mCons, mNil, bor, bors, mTst, mAndT, mOrT, mNotT, mAndE, mOrE, mNotE, mIfE, mIsi, isiD, mChn, chnL, cmpD, binD, addD, subD, mulD, modD, fdivD, powD, eqD, neD, ltD, leD, gtD, geD, isD, isnD, L2.M.isNon, negD, ixD, Bf.f, Bg.f, lenD, L2.M.intD, maxD, minD, repD, strD, gmaxD, gminD, sumD, sortD, anyD, allD, mCall, frz, fzO, lend, wb, mTup, mLst, fzs, cD, mAsg, bTup, bTps, mApp, tupD, lstD, mRev, revD, ofs_inj, ee_ii, ee_ss, ee_bb, ee_nn, ee_is, ee_si, ee_in, ee_ni, ee_tt, ee_ll, ee_maps, ee_0, ee_1, ee_2, ee_3, at_lit, at_nat, at_m1, at_m2, scD, emD, sizeLine_eq, ixN, sm_lit, mSrc, itemsD, plOf, rng1D, bNm, mSl, mPt, mNoP, slD, mPar, keepT, tmsO, setA, mFlow, zipX, enumX, itemsX, intsOf, ints_all, boolsOf, shaped_lay, lay_int, lay_bool, lay_none, lay_dict, lay_tup, lay_list, lay_ints, sortX_ints, mPlF, mPlI, mRd, mPU, mPB, mFSet, mFNew, mNSet, mPApp, mPSetIx, mPPop, mMeth, mNew, isIns, cellO, mLstN, mAddN, mAppN, semX, mTold, mCallX, mMethX, xFSet, mMethP, oneC, xRet, xExpr, xSet, mRaise, mM, isL, isS, mOrV, truD, mFor, forL, mLc, lcL, sameC, wipeC, restC, mYes, *])
local macro_rules | `(tactic| walk_at "rg") => `(tactic| (and_intros <;> grind))
local macro_rules | `(tactic| walk_at "nx") => `(tactic| (apply wx_nx; focus (walk_at "ev"; try first | exact ⟨rfl, rfl⟩ | rfl)))
local macro_rules | `(tactic| walk_at "ns") => `(tactic| (apply wx_nx; focus (walk_at "es"; try first | exact ⟨rfl, rfl⟩ | rfl)))
local macro_rules | `(tactic| walk_at "rt") => `(tactic| (apply wx_rt; focus (walk_at "ev"; try first | exact ⟨rfl, rfl⟩ | rfl)))
local macro_rules | `(tactic| walk_at "rs") => `(tactic| (apply wx_rt; focus (walk_at "es"; try first | exact ⟨rfl, rfl⟩ | rfl)))
local macro_rules | `(tactic| walk_at "ed") => `(tactic| simp [semF, shared, after, mSeq, mSkip, mIf, mRet, mRetN, mRetV, mSet, mSetIx, mExpr, mB, mU, mTm, mPl, mK, mVar, mOp, mCons, mNil, bor, bors, mTst, mAndT, mOrT, mNotT, mAndE, mOrE, mNotE, mIfE, mIsi, isiD, mChn, chnL, cmpD, binD, addD, subD, mulD, modD, fdivD, powD, eqD, neD, ltD, leD, gtD, geD, isD, isnD, L2.M.isNon, negD, ixD, Bf.f, Bg.f, lenD, L2.M.intD, maxD, minD, repD, strD, gmaxD, gminD, sumD, sortD, anyD, allD, mCall, frz, fzO, lend, wb, mTup, mLst, fzs, cD, mAsg, bTup, bTps, mApp, tupD, lstD, mRev, revD, ofs_inj, ee_ii, ee_ss, ee_bb, ee_nn, ee_is, ee_si, ee_in, ee_ni, ee_tt, ee_ll, ee_maps, ee_0, ee_1, ee_2, ee_3, at_lit, at_nat, at_m1, at_m2, scD, emD, sizeLine_eq, ixN, sm_lit, mSrc, itemsD, plOf, rng1D, bNm, mSl, mPt, mNoP, slD, mPar, keepT, tmsO, setA, mFlow, zipX, enumX, itemsX, intsOf, ints_all, boolsOf, shaped_lay, lay_int, lay_bool, lay_none, lay_dict, lay_tup, lay_list, lay_ints, sortX_ints, mPlF, mPlI, mRd, mPU, mPB, mFSet, mFNew, mNSet, mPApp, mPSetIx, mPPop, mMeth, mNew, isIns, cellO, mLstN, mAddN, mAppN, semX, mTold, mCallX, mMethX, xFSet, mMethP, oneC, xRet, xExpr, xSet, mRaise, mM, isL, isS, mOrV, truD, mDNew, mDIn, mDGet, mDLen, mDPut, kyD, mNNew, mN1, mTake, mFnV, mCallF, mNIn, mNGet, mNPut, mNVals, mNList, nKs, mDGetD, mDList, mNNe, *])
structure Shw (k n : Nat) (d : PyData) : Prop where
  l : lay k d = true
  s : d.showable = true
  z : d.shown.length ≤ n
theorem Shw.mono {k k' n n' : Nat} {d : PyData} (h : Shw k n d) (hk : k ≤ k') (hn : n ≤ n') : Shw k' n' d := ⟨lay_mono hk h.l, h.s, Nat.le_trans h.z hn⟩
theorem shw_bool (k : Nat) (b : Bool) : Shw k 5 (.bool b) := ⟨lay_bool k b, by simp [PyData.showable], by cases b <;> (simp only [PyData.shown]; decide)⟩
theorem shw_int (k : Nat) {m : Nat} {i : Int} (hm : 0 < m) (h : i.natAbs < 10 ^ m) (hm2 : m ≤ 60) : Shw k (m + 1) (.int i) := by
  have hb : i.natAbs < 10 ^ 60 := Nat.lt_of_lt_of_le h (Nat.pow_le_pow_right (by decide) hm2)
  refine ⟨lay_int k i, ?_, ?_⟩
  · have := log2_le (i := i) (by omega) (by omega)
    simp only [PyData.showable, decide_eq_true_eq]
    omega
  · simp only [PyData.shown]
    have := int_text_length_le10 hm h
    rw [PySem.ofString_length]
    exact this
theorem shw_i20 (k : Nat) {i : Int} (h1 : -(10 ^ 19) < i) (h2 : i < 10 ^ 19) : Shw k 20 (.int i) := shw_int k (m := 19) (by decide) (by omega) (by decide)
theorem shw_str (k : Nat) {s : Str} {n : Nat} (h1 : PyData.strOk s = true) (h2 : (reprText s).length ≤ n) : Shw k n (.str s) := ⟨by rw [lay_str]; exact h1, by simp [PyData.showable], by simp only [PyData.shown]; exact h2⟩
theorem tuple_len (ts : List Str) : (tupleText ts).length ≤ piled ts + 3 := by
  unfold tupleText
  rw [strLen_append, strLen_append]
  have e : ("(" : Str).length = 1 := by decide
  have e2 : (Str.ofString (if ts.length == 1 then ",)" else ")")).length ≤ 2 := by split <;> decide
  by_cases h : ts = []
  · subst h
    have e3 : (Str.join ", " []).length = 0 := by decide
    omega
  · have := join_length_add ts h
    omega
theorem piled_all : ∀ {k n : Nat} {ds : List PyData}, (∀ d ∈ ds, Shw k n d) → piled (PyData.shownAll ds) ≤ ds.length * (n + 2)
  | k, n, [], _ => by simp [PyData.shownAll, piled]
  | k, n, d :: ds, h => by
    have h1 := (h d List.mem_cons_self).z
    have ih := piled_all (k := k) (n := n) (ds := ds) fun d hd => h d (List.mem_cons_of_mem _ hd)
    simp only [PyData.shownAll, piled_cons, List.length_cons, Nat.add_mul, Nat.one_mul]
    omega
theorem showable_all : ∀ {k n : Nat} {ds : List PyData}, (∀ d ∈ ds, Shw k n d) → PyData.showableAll ds = true
  | k, n, [], _ => by simp [PyData.showableAll]
  | k, n, d :: ds, h => by
    have ih := showable_all (k := k) (n := n) (ds := ds) fun d hd => h d (List.mem_cons_of_mem _ hd)
    simp only [PyData.showableAll, ih, (h d List.mem_cons_self).s, Bool.and_self]
theorem shw_tup {k n : Nat} {ds : List PyData} (h : ∀ d ∈ ds, Shw k n d) : Shw (k + 1) (ds.length * (n + 2) + 3) (.tuple ds) := by
  refine ⟨?_, ?_, ?_⟩
  · rw [lay_tup _ (by omega)]
    simp only [Nat.add_sub_cancel, List.all_eq_true]
    exact fun d hd => (h d hd).l
  · simp only [PyData.showable]
    exact showable_all h
  · simp only [PyData.shown]
    have := tuple_len (PyData.shownAll ds)
    have := piled_all h
    omega
theorem reprG_eq {k n : Nat} {d : PyData} (h : Shw k n d) (hk : k ≤ 64) (hn : n ≤ sizeLine) : reprG [d] = some (.sh (.str d.shown)) := by
  have h1 : SeqAt.shaped d = true := by
    rw [shaped_lay]
    exact lay_mono hk h.l
  have h2 := h.s
  have h3 := Nat.le_trans h.z hn
  simp only [reprG]
  rw [if_pos ⟨h1, h2, h3⟩]
/-- of tuples of tuples and the like: each item by its own bound -/
theorem shw_cons {k n : Nat} {d : PyData} {ds : List PyData} (h1 : Shw k n d) (h2 : ∀ d ∈ ds, Shw k n d) : ∀ x ∈ d :: ds, Shw k n x := by
  intro x hx
  rcases List.mem_cons.mp hx with rfl | hx
  · exact h1
  · exact h2 x hx
theorem shw_nil {k n : Nat} : ∀ x ∈ ([] : List PyData), Shw k n x := fun x hx => by cases hx
end KW
namespace KW
open PySem PySem.Spec PyProof.Rows L2 L2.M
local macro_rules | `(tactic| walk_at "ev") => `(tactic| simp [semF, shared, after, mSeq, mSkip, mIf, mRet, mRetN, mRetV, mSet, mSetIx, mExpr, mB, mU, mTm, mPl, mK, mVar, mOp, mCons, mNil, bor, bors, mTst, mAndT, mOrT, mNotT, mAndE, mOrE, mNotE, mIfE, mIsi, isiD, mChn, chnL, cmpD, binD, addD, subD, mulD, modD, fdivD, powD, eqD, neD, ltD, leD, gtD, geD, isD, isnD, L2.M.isNon, negD, ixD, Bf.f, Bg.f, lenD, L2.M.intD, maxD, minD, repD, strD, gmaxD, gminD, sumD, sortD, anyD, allD, mCall, frz, fzO, lend, wb, mTup, mLst, fzs, cD, mAsg, bTup, bTps, mApp, tupD, lstD, mRev, revD, ofs_inj, ee_ii, ee_ss, ee_bb, ee_nn, ee_is, ee_si, ee_in, ee_ni, ee_tt, ee_ll, ee_maps, ee_0, ee_1, ee_2, ee_3, at_lit, at_nat, at_m1, at_m2, scD, emD, sizeLine_eq, ixN, sm_lit, mSrc, itemsD, plOf, rng1D, bNm, mSl, mPt, mNoP, slD, mPar, keepT, tmsO, setA, mFlow, zipX, enumX, itemsX, intsOf, ints_all, boolsOf, shaped_lay, lay_int, lay_bool, lay_none, lay_dict, lay_tup, lay_list, lay_ints, sortX_ints, mPlF, mPlI, mRd, mPU, mPB, mFSet, mFNew, mNSet, mPApp, mPSetIx, mPPop, mMeth, mNew, isIns, cellO, mLstN, mAddN, mAppN, semX, mTold, mCallX, mMethX, xFSet, mMethP, oneC, xRet, xExpr, xSet, mRaise, mM, isL, isS, mOrV, truD])
local macro_rules | `(tactic| walk_at "es") => `(tactic| simp [semF, shared, after, mSeq, mSkip, mIf, mRet, mRetN, mRetV, mSet, mSetIx, mExpr, mB, mU, mTm, mPl, mK, mVar, mOp, mCons, mNil, bor, bors, mTst, mAndT, mOrT, mNotT, mAndE, mOrE, mNotE, mIfE, mIsi, isiD, mChn, chnL, cmpD, binD, addD, subD, mulD, modD, fdivD, powD, eqD, neD, ltD, leD, gtD, geD, isD, isnD, L2.M.isNon, negD, ixD, Bf.f, Bg.f, lenD, L2.M.intD, maxD, minD, repD, strD, gmaxD, gminD, sumD, sortD, anyD, allD, mCall, frz, fzO, lend, wb, mTup, mLst, fzs, cD, mAsg, bTup, bTps, mApp, tupD, lstD, mRev, revD, ofs_inj, ee_ii, ee_ss, ee_bb, ee_nn, ee_is, ee_si, ee_in, ee_ni, ee_tt, ee_ll, ee_maps, ee_0, ee_1, ee_2, ee_3, at_lit, at_nat, at_m1, at_m2, scD, emD, sizeLine_eq, ixN, sm_lit, mSrc, itemsD, plOf, rng1D, bNm, mSl, mPt, mNoP, slD, mPar, keepT, tmsO, setA, mFlow, zipX, enumX, itemsX, intsOf, ints_all, boolsOf, shaped_lay, lay_int, lay_bool, lay_none, lay_dict, lay_tup, lay_list, lay_ints, sortX_ints, mPlF, mPlI, mRd, mPU, mPB, mFSet, mFNew, mNSet, mPApp, mPSetIx, mPPop, mMeth, mNew, isIns, cellO, mLstN, mAddN, mAppN, semX, mTold, mCallX, mMethX, xFSet, mMethP, oneC, xRet, xExpr, xSet, mRaise, mM, isL, isS, mOrV, truD, *])
local macro_rules | `(tactic| walk_at "el") => `(tactic| simp [semF, shared, after, mSeq, mSkip, mIf, mRet, mRetN, mRetV, mSet, mSetIx, mExpr, mB, mU, mTm, mPl, mK, mVar, mOp, mCons, mNil, bor, bors, mTst, mAndT, mOrT, mNotT, mAndE, mOrE, mNotE, mIfE, mIsi, isiD, mChn, chnL, cmpD, binD, addD, subD, mulD, modD, fdivD, powD, eqD, neD, ltD, leD, gtD, geD, isD, isnD, L2.M.isNon, negD, ixD, Bf.f, Bg.f, lenD, L2.M.intD, maxD, minD, repD, strD, gmaxD, gminD, sumD, sortD, anyD, allD, mCall, frz, fzO, lend, wb, mTup, mLst, fzs, cD, mAsg, bTup, bTps, mApp, tupD, lstD, mRev, revD, ofs_inj, ee_ii, ee_ss, ee_bb, ee_nn, ee_is, ee_si, ee_in, ee_ni, ee_tt, ee_ll, ee_maps, ee_0, ee_1, ee_2, ee_3, at_lit, at_nat, at_m1, at_m2, scD, emD, sizeLine_eq, ixN, sm_lit, mSrc, itemsD, plOf, rng1D, bNm, mSl, mPt, mNoP, slD, mPar, keepT, tmsO, setA, mFlow, zipX, enumX, itemsX, intsOf, ints_all, boolsOf, shaped_lay, lay_int, lay_bool, lay_none, lay_dict, lay_tup, lay_list, lay_ints, sortX_ints, mPlF, mPlI, mRd, mPU, mPB, mFSet, mFNew, mNSet, mPApp, mPSetIx, mPPop, mMeth, mNew, isIns, cellO, mLstN, mAddN, mAppN, semX, mTold, mCallX, mMethX, xFSet, mMethP, oneC, xRet, xExpr, xSet, mRaise, mM, isL, isS, mOrV, truD, mLc, lcL, sameC, wipeC, restC, mYes, *])
local macro_rules | `(tactic| walk_at "ef") => `(tactic| simp [semF, shared, after, mSeq, mSkip, mIf, mRet, mRetN, mRetV, mSet, mSetIx, mExpr, mB, mU, mTm, mPl, mK, mVar, mOp, mCons, mNil, bor, bors, mTst, mAndT, mOrT, mNotT, mAndE, mOrE, mNotE, mIfE, mIsi, isiD, mChn, chnL, cmpD, binD, addD, subD, mulD, modD, fdivD, powD, eqD, neD, ltD, leD, gtD, geD, isD, isnD, L2.M.isNon, negD, ixD, Bf.f, Bg.f, lenD, L2.M.intD, maxD, minD, repD, strD, gmaxD, gminD, sumD, sortD, anyD, allD, mCall, frz, fzO, lend, wb, mTup, mLst, fzs, cD, mAsg, bTup, bTps, mApp, tupD, lstD, mRev, revD, ofs_inj, ee_ii, ee_ss, ee_bb, ee_nn, ee_is, ee_si, ee_in, ee_ni, ee_tt, ee_ll, ee_maps, ee_0, ee_1, ee_2, ee_3, at_lit, at_nat, at_m1, at_m2, scD, emD, sizeLine_eq, ixN, sm_lit, mSrc, itemsD, plOf, rng1D, bNm, mSl, mPt, mNoP, slD, mPar, keepT, tmsO, setA, mFlow, zipX, enumX, itemsX, intsOf, ints_all, boolsOf, shaped_lay, lay_int, lay_bool, lay_none, lay_dict, lay_tup, lay_list, lay_ints, sortX_ints, mPlF, mPlI, mRd, mPU, mPB, mFSet, mFNew, mNSet, mPApp, mPSetIx, mPPop, mMeth, mNew, isIns, cellO, mLstN, mAddN, mAppN, semX, mTold, mCallX, mMethX, xFSet, mMethP, oneC, xRet, xExpr, xSet, mRaise, mM, isL, isS, mOrV, truD, mFor, forL, mLc, lcL, sameC, wipeC, restC, mYes, *])
local macro_rules | `(tactic| walk_at "rg") => `(tactic| (and_intros <;> grind))
local macro_rules | `(tactic| walk_at "nx") => `(tactic| (apply wx_nx; focus (walk_at "ev"; try first | exact ⟨rfl, rfl⟩ | rfl)))
local macro_rules | `(tactic| walk_at "ns") => `(tactic| (apply wx_nx; focus (walk_at "es"; try first | exact ⟨rfl, rfl⟩ | rfl)))
local macro_rules | `(tactic| walk_at "rt") => `(tactic| (apply wx_rt; focus (walk_at "ev"; try first | exact ⟨rfl, rfl⟩ | rfl)))
local macro_rules | `(tactic| walk_at "rs") => `(tactic| (apply wx_rt; focus (walk_at "es"; try first | exact ⟨rfl, rfl⟩ | rfl)))
local macro_rules | `(tactic| walk_at "ed") => `(tactic| simp [semF, shared, after, mSeq, mSkip, mIf, mRet, mRetN, mRetV, mSet, mSetIx, mExpr, mB, mU, mTm, mPl, mK, mVar, mOp, mCons, mNil, bor, bors, mTst, mAndT, mOrT, mNotT, mAndE, mOrE, mNotE, mIfE, mIsi, isiD, mChn, chnL, cmpD, binD, addD, subD, mulD, modD, fdivD, powD, eqD, neD, ltD, leD, gtD, geD, isD, isnD, L2.M.isNon, negD, ixD, Bf.f, Bg.f, lenD, L2.M.intD, maxD, minD, repD, strD, gmaxD, gminD, sumD, sortD, anyD, allD, mCall, frz, fzO, lend, wb, mTup, mLst, fzs, cD, mAsg, bTup, bTps, mApp, tupD, lstD, mRev, revD, ofs_inj, ee_ii, ee_ss, ee_bb, ee_nn, ee_is, ee_si, ee_in, ee_ni, ee_tt, ee_ll, ee_maps, ee_0, ee_1, ee_2, ee_3, at_lit, at_nat, at_m1, at_m2, scD, emD, sizeLine_eq, ixN, sm_lit, mSrc, itemsD, plOf, rng1D, bNm, mSl, mPt, mNoP, slD, mPar, keepT, tmsO, setA, mFlow, zipX, enumX, itemsX, intsOf, ints_all, boolsOf, shaped_lay, lay_int, lay_bool, lay_none, lay_dict, lay_tup, lay_list, lay_ints, sortX_ints, mPlF, mPlI, mRd, mPU, mPB, mFSet, mFNew, mNSet, mPApp, mPSetIx, mPPop, mMeth, mNew, isIns, cellO, mLstN, mAddN, mAppN, semX, mTold, mCallX, mMethX, xFSet, mMethP, oneC, xRet, xExpr, xSet, mRaise, mM, isL, isS, mOrV, truD, mDNew, mDIn, mDGet, mDLen, mDPut, kyD, mNNew, mN1, mTake, mFnV, mCallF, mNIn, mNGet, mNPut, mNVals, mNList, nKs, mDGetD, mDList, mNNe, *])
/-- each stretch is one, each begins behind the end of the one ahead -/
structure Rise (st : List (Int × Int)) : Prop where
  p : ∀ x ∈ st, x.1 < x.2
  q : st.Pairwise fun x y => x.2 < y.1
theorem Rise.at {st : List (Int × Int)} (h : Rise st) {i j : Nat} (hi : i < st.length) (hj : j < st.length) (hij : i < j) : st[i].2 < st[j].1 := List.pairwise_iff_getElem.mp h.q i j hi hj hij
end KW
namespace KW
open PySem PySem.Spec PyProof.Rows L2 L2.M
local macro_rules | `(tactic| walk_at "ev") => `(tactic| simp [semF, shared, after, mSeq, mSkip, mIf, mRet, mRetN, mRetV, mSet, mSetIx, mExpr, mB, mU, mTm, mPl, mK, mVar, mOp, mCons, mNil, bor, bors, mTst, mAndT, mOrT, mNotT, mAndE, mOrE, mNotE, mIfE, mIsi, isiD, mChn, chnL, cmpD, binD, addD, subD, mulD, modD, fdivD, powD, eqD, neD, ltD, leD, gtD, geD, isD, isnD, L2.M.isNon, negD, ixD, Bf.f, Bg.f, lenD, L2.M.intD, maxD, minD, repD, strD, gmaxD, gminD, sumD, sortD, anyD, allD, mCall, frz, fzO, lend, wb, mTup, mLst, fzs, cD, mAsg, bTup, bTps, mApp, tupD, lstD, mRev, revD, ofs_inj, ee_ii, ee_ss, ee_bb, ee_nn, ee_is, ee_si, ee_in, ee_ni, ee_tt, ee_ll, ee_maps, ee_0, ee_1, ee_2, ee_3, at_lit, at_nat, at_m1, at_m2, scD, emD, sizeLine_eq, ixN, sm_lit, mSrc, itemsD, plOf, rng1D, bNm, mSl, mPt, mNoP, slD, mPar, keepT, tmsO, setA, mFlow, zipX, enumX, itemsX, intsOf, ints_all, boolsOf, shaped_lay, lay_int, lay_bool, lay_none, lay_dict, lay_tup, lay_list, lay_ints, sortX_ints, mPlF, mPlI, mRd, mPU, mPB, mFSet, mFNew, mNSet, mPApp, mPSetIx, mPPop, mMeth, mNew, isIns, cellO, mLstN, mAddN, mAppN, semX, mTold, mCallX, mMethX, xFSet, mMethP, oneC, xRet, xExpr, xSet, mRaise, mM, isL, isS, mOrV, truD])
local macro_rules | `(tactic| walk_at "es") => `(tactic| simp [semF, shared, after, mSeq, mSkip, mIf, mRet, mRetN, mRetV, mSet, mSetIx, mExpr, mB, mU, mTm, mPl, mK, mVar, mOp, mCons, mNil, bor, bors, mTst, mAndT, mOrT, mNotT, mAndE, mOrE, mNotE, mIfE, mIsi, isiD, mChn, chnL, cmpD, binD, addD, subD, mulD, modD, fdivD, powD, eqD, neD, ltD, leD, gtD, geD, isD, isnD, L2.M.isNon, negD, ixD, Bf.f, Bg.f, lenD, L2.M.intD, maxD, minD, repD, strD, gmaxD, gminD, sumD, sortD, anyD, allD, mCall, frz, fzO, lend, wb, mTup, mLst, fzs, cD, mAsg, bTup, bTps, mApp, tupD, lstD, mRev, revD, ofs_inj, ee_ii, ee_ss, ee_bb, ee_nn, ee_is, ee_si, ee_in, ee_ni, ee_tt, ee_ll, ee_maps, ee_0, ee_1, ee_2, ee_3, at_lit, at_nat, at_m1, at_m2, scD, emD, sizeLine_eq, ixN, sm_lit, mSrc, itemsD, plOf, rng1D, bNm, mSl, mPt, mNoP, slD, mPar, keepT, tmsO, setA, mFlow, zipX, enumX, itemsX, intsOf, ints_all, boolsOf, shaped_lay, lay_int, lay_bool, lay_none, lay_dict, lay_tup, lay_list, lay_ints, sortX_ints, mPlF, mPlI, mRd, mPU, mPB, mFSet, mFNew, mNSet, mPApp, mPSetIx, mPPop, mMeth, mNew, isIns, cellO, mLstN, mAddN, mAppN, semX, mTold, mCallX, mMethX, xFSet, mMethP, oneC, xRet, xExpr, xSet, mRaise, mM, isL, isS, mOrV, truD, *])
local macro_rules | `(tactic| walk_at "el") => `(tactic| simp [semF, shared, after, mSeq, mSkip, mIf, mRet, mRetN, mRetV, mSet, mSetIx, mExpr, mB, mU, mTm, mPl, mK, mVar, mOp, mCons, mNil, bor, bors, mTst, mAndT, mOrT, mNotT, mAndE, mOrE, mNotE, mIfE, mIsi, isiD, mChn, chnL, cmpD, binD, addD, subD, mulD, modD, fdivD, powD, eqD, neD, ltD, leD, gtD, geD, isD, isnD, L2.M.isNon, negD, ixD, Bf.f, Bg.f, lenD, L2.M.intD, maxD, minD, repD, strD, gmaxD, gminD, sumD, sortD, anyD, allD, mCall, frz, fzO, lend, wb, mTup, mLst, fzs, cD, mAsg, bTup, bTps, mApp, tupD, lstD, mRev, revD, ofs_inj, ee_ii, ee_ss, ee_bb, ee_nn, ee_is, ee_si, ee_in, ee_ni, ee_tt, ee_ll, ee_maps, ee_0, ee_1, ee_2, ee_3, at_lit, at_nat, at_m1, at_m2, scD, emD, sizeLine_eq, ixN, sm_lit, mSrc, itemsD, plOf, rng1D, bNm, mSl, mPt, mNoP, slD, mPar, keepT, tmsO, setA, mFlow, zipX, enumX, itemsX, intsOf, ints_all, boolsOf, shaped_lay, lay_int, lay_bool, lay_none, lay_dict, lay_tup, lay_list, lay_ints, sortX_ints, mPlF, mPlI, mRd, mPU, mPB, mFSet, mFNew, mNSet, mPApp, mPSetIx, mPPop, mMeth, mNew, isIns, cellO, mLstN, mAddN, mAppN, semX, mTold, mCallX, mMethX, xFSet, mMethP, oneC, xRet, xExpr, xSet, mRaise, mM, isL, isS, mOrV, truD, mLc, lcL, sameC, wipeC, restC, mYes, *])
local macro_rules | `(tactic| walk_at "ef") => `(tactic| simp [semF, shared, after, mSeq, mSkip, mIf, mRet, mRetN, mRetV, mSet, mSetIx, mExpr, mB, mU, mTm, mPl, mK, mVar, mOp, mCons, mNil, bor, bors, mTst, mAndT, mOrT, mNotT, mAndE, mOrE, mNotE, mIfE, mIsi, isiD, mChn, chnL, cmpD, binD, addD, subD, mulD, modD, fdivD, powD, eqD, neD, ltD, leD, gtD, geD, isD, isnD, L2.M.isNon, negD, ixD, Bf.f, Bg.f, lenD, L2.M.intD, maxD, minD, repD, strD, gmaxD, gminD, sumD, sortD, anyD, allD, mCall, frz, fzO, lend, wb, mTup, mLst, fzs, cD, mAsg, bTup, bTps, mApp, tupD, lstD, mRev, revD, ofs_inj, ee_ii, ee_ss, ee_bb, ee_nn, ee_is, ee_si, ee_in, ee_ni, ee_tt, ee_ll, ee_maps, ee_0, ee_1, ee_2, ee_3, at_lit, at_nat, at_m1, at_m2, scD, emD, sizeLine_eq, ixN, sm_lit, mSrc, itemsD, plOf, rng1D, bNm, mSl, mPt, mNoP, slD, mPar, keepT, tmsO, setA, mFlow, zipX, enumX, itemsX, intsOf, ints_all, boolsOf, shaped_lay, lay_int, lay_bool, lay_none, lay_dict, lay_tup, lay_list, lay_ints, sortX_ints, mPlF, mPlI, mRd, mPU, mPB, mFSet, mFNew, mNSet, mPApp, mPSetIx, mPPop, mMeth, mNew, isIns, cellO, mLstN, mAddN, mAppN, semX, mTold, mCallX, mMethX, xFSet, mMethP, oneC, xRet, xExpr, xSet, mRaise, mM, isL, isS, mOrV, truD, mFor, forL, mLc, lcL, sameC, wipeC, restC, mYes, *])
local macro_rules | `(tactic| walk_at "rg") => `(tactic| (and_intros <;> grind))
local macro_rules | `(tactic| walk_at "nx") => `(tactic| (apply wx_nx; focus (walk_at "ev"; try first | exact ⟨rfl, rfl⟩ | rfl)))
local macro_rules | `(tactic| walk_at "ns") => `(tactic| (apply wx_nx; focus (walk_at "es"; try first | exact ⟨rfl, rfl⟩ | rfl)))
local macro_rules | `(tactic| walk_at "rt") => `(tactic| (apply wx_rt; focus (walk_at "ev"; try first | exact ⟨rfl, rfl⟩ | rfl)))
local macro_rules | `(tactic| walk_at "rs") => `(tactic| (apply wx_rt; focus (walk_at "es"; try first | exact ⟨rfl, rfl⟩ | rfl)))
local macro_rules | `(tactic| walk_at "ed") => `(tactic| simp [semF, shared, after, mSeq, mSkip, mIf, mRet, mRetN, mRetV, mSet, mSetIx, mExpr, mB, mU, mTm, mPl, mK, mVar, mOp, mCons, mNil, bor, bors, mTst, mAndT, mOrT, mNotT, mAndE, mOrE, mNotE, mIfE, mIsi, isiD, mChn, chnL, cmpD, binD, addD, subD, mulD, modD, fdivD, powD, eqD, neD, ltD, leD, gtD, geD, isD, isnD, L2.M.isNon, negD, ixD, Bf.f, Bg.f, lenD, L2.M.intD, maxD, minD, repD, strD, gmaxD, gminD, sumD, sortD, anyD, allD, mCall, frz, fzO, lend, wb, mTup, mLst, fzs, cD, mAsg, bTup, bTps, mApp, tupD, lstD, mRev, revD, ofs_inj, ee_ii, ee_ss, ee_bb, ee_nn, ee_is, ee_si, ee_in, ee_ni, ee_tt, ee_ll, ee_maps, ee_0, ee_1, ee_2, ee_3, at_lit, at_nat, at_m1, at_m2, scD, emD, sizeLine_eq, ixN, sm_lit, mSrc, itemsD, plOf, rng1D, bNm, mSl, mPt, mNoP, slD, mPar, keepT, tmsO, setA, mFlow, zipX, enumX, itemsX, intsOf, ints_all, boolsOf, shaped_lay, lay_int, lay_bool, lay_none, lay_dict, lay_tup, lay_list, lay_ints, sortX_ints, mPlF, mPlI, mRd, mPU, mPB, mFSet, mFNew, mNSet, mPApp, mPSetIx, mPPop, mMeth, mNew, isIns, cellO, mLstN, mAddN, mAppN, semX, mTold, mCallX, mMethX, xFSet, mMethP, oneC, xRet, xExpr, xSet, mRaise, mM, isL, isS, mOrV, truD, mDNew, mDIn, mDGet, mDLen, mDPut, kyD, mNNew, mN1, mTake, mFnV, mCallF, mNIn, mNGet, mNPut, mNVals, mNList, nKs, mDGetD, mDList, mNNe, *])
abbrev gt5 (F R T M N : Int) : PyData := .tuple [.int F, .int R, .int T, .int M, .int N]
structure Gt (F R T M N : Int) : Prop extends Gp R T 0 M where
  f1 : 1 ≤ F
  f2 : F ≤ 20
  n1 : 1 ≤ N
  n2 : N ≤ 10
  rm : R ≤ M
/-- a gate's standing -/
inductive Sg where
  | op (b : Int) | sh (u n : Int) | tr (g n : Int)
def Sg.d : Sg → PyData
  | .op b => .tuple [.str "open", .int b]
  | .sh u n => .tuple [.str "shut", .int u, .int n]
  | .tr g n => .tuple [.str "trying", .int g, .int n]
def letT : Sg → Int → Bool
  | .sh u _, t => !decide (t < u)
  | .op _, _ => true
  | .tr _ _, _ => true
def letS : Sg → Int → Sg
  | .sh u n, t => if t < u then .sh u n else .tr 0 n
  | .op b, _ => .op b
  | .tr g n, _ => .tr g n
def hrd (F R T M N : Int) : Sg → Int → Bool → Sg
  | .op b, t, a => if a = true then .op 0 else if b + 1 < F then .op (b + 1) else .sh (t + R) R
  | .tr g n, t, a => if a = true then (if g + 1 < N then .tr (g + 1) n else .op 0) else .sh (t + (if T * n < M then T * n else M)) (if T * n < M then T * n else M)
  | .sh u n, _, _ => .sh u n
def isShut : Sg → Bool
  | .sh _ _ => true
  | .op _ => false
  | .tr _ _ => false
/-- what a standing's numbers are -/
def SgB : Sg → Prop
  | .op b => 0 ≤ b ∧ b ≤ 100
  | .sh u n => 0 ≤ u ∧ u ≤ 10 ^ 9 ∧ 1 ≤ n ∧ n ≤ 1000
  | .tr g n => 0 ≤ g ∧ g ≤ 100 ∧ 1 ≤ n ∧ n ≤ 1000
end KW
namespace KW
open PySem PySem.Spec PyProof.Rows L2 L2.M
local macro_rules | `(tactic| walk_at "ev") => `(tactic| simp [semF, shared, after, mSeq, mSkip, mIf, mRet, mRetN, mRetV, mSet, mSetIx, mExpr, mB, mU, mTm, mPl, mK, mVar, mOp, mCons, mNil, bor, bors, mTst, mAndT, mOrT, mNotT, mAndE, mOrE, mNotE, mIfE, mIsi, isiD, mChn, chnL, cmpD, binD, addD, subD, mulD, modD, fdivD, powD, eqD, neD, ltD, leD, gtD, geD, isD, isnD, L2.M.isNon, negD, ixD, Bf.f, Bg.f, lenD, L2.M.intD, maxD, minD, repD, strD, gmaxD, gminD, sumD, sortD, anyD, allD, mCall, frz, fzO, lend, wb, mTup, mLst, fzs, cD, mAsg, bTup, bTps, mApp, tupD, lstD, mRev, revD, ofs_inj, ee_ii, ee_ss, ee_bb, ee_nn, ee_is, ee_si, ee_in, ee_ni, ee_tt, ee_ll, ee_maps, ee_0, ee_1, ee_2, ee_3, at_lit, at_nat, at_m1, at_m2, scD, emD, sizeLine_eq, ixN, sm_lit, mSrc, itemsD, plOf, rng1D, bNm, mSl, mPt, mNoP, slD, mPar, keepT, tmsO, setA, mFlow, zipX, enumX, itemsX, intsOf, ints_all, boolsOf, shaped_lay, lay_int, lay_bool, lay_none, lay_dict, lay_tup, lay_list, lay_ints, sortX_ints, mPlF, mPlI, mRd, mPU, mPB, mFSet, mFNew, mNSet, mPApp, mPSetIx, mPPop, mMeth, mNew, isIns, cellO, mLstN, mAddN, mAppN, semX, mTold, mCallX, mMethX, xFSet, mMethP, oneC, xRet, xExpr, xSet, mRaise, mM, isL, isS, mOrV, truD])
local macro_rules | `(tactic| walk_at "es") => `(tactic| simp [semF, shared, after, mSeq, mSkip, mIf, mRet, mRetN, mRetV, mSet, mSetIx, mExpr, mB, mU, mTm, mPl, mK, mVar, mOp, mCons, mNil, bor, bors, mTst, mAndT, mOrT, mNotT, mAndE, mOrE, mNotE, mIfE, mIsi, isiD, mChn, chnL, cmpD, binD, addD, subD, mulD, modD, fdivD, powD, eqD, neD, ltD, leD, gtD, geD, isD, isnD, L2.M.isNon, negD, ixD, Bf.f, Bg.f, lenD, L2.M.intD, maxD, minD, repD, strD, gmaxD, gminD, sumD, sortD, anyD, allD, mCall, frz, fzO, lend, wb, mTup, mLst, fzs, cD, mAsg, bTup, bTps, mApp, tupD, lstD, mRev, revD, ofs_inj, ee_ii, ee_ss, ee_bb, ee_nn, ee_is, ee_si, ee_in, ee_ni, ee_tt, ee_ll, ee_maps, ee_0, ee_1, ee_2, ee_3, at_lit, at_nat, at_m1, at_m2, scD, emD, sizeLine_eq, ixN, sm_lit, mSrc, itemsD, plOf, rng1D, bNm, mSl, mPt, mNoP, slD, mPar, keepT, tmsO, setA, mFlow, zipX, enumX, itemsX, intsOf, ints_all, boolsOf, shaped_lay, lay_int, lay_bool, lay_none, lay_dict, lay_tup, lay_list, lay_ints, sortX_ints, mPlF, mPlI, mRd, mPU, mPB, mFSet, mFNew, mNSet, mPApp, mPSetIx, mPPop, mMeth, mNew, isIns, cellO, mLstN, mAddN, mAppN, semX, mTold, mCallX, mMethX, xFSet, mMethP, oneC, xRet, xExpr, xSet, mRaise, mM, isL, isS, mOrV, truD, *])
local macro_rules | `(tactic| walk_at "el") => `(tactic| simp [semF, shared, after, mSeq, mSkip, mIf, mRet, mRetN, mRetV, mSet, mSetIx, mExpr, mB, mU, mTm, mPl, mK, mVar, mOp, mCons, mNil, bor, bors, mTst, mAndT, mOrT, mNotT, mAndE, mOrE, mNotE, mIfE, mIsi, isiD, mChn, chnL, cmpD, binD, addD, subD, mulD, modD, fdivD, powD, eqD, neD, ltD, leD, gtD, geD, isD, isnD, L2.M.isNon, negD, ixD, Bf.f, Bg.f, lenD, L2.M.intD, maxD, minD, repD, strD, gmaxD, gminD, sumD, sortD, anyD, allD, mCall, frz, fzO, lend, wb, mTup, mLst, fzs, cD, mAsg, bTup, bTps, mApp, tupD, lstD, mRev, revD, ofs_inj, ee_ii, ee_ss, ee_bb, ee_nn, ee_is, ee_si, ee_in, ee_ni, ee_tt, ee_ll, ee_maps, ee_0, ee_1, ee_2, ee_3, at_lit, at_nat, at_m1, at_m2, scD, emD, sizeLine_eq, ixN, sm_lit, mSrc, itemsD, plOf, rng1D, bNm, mSl, mPt, mNoP, slD, mPar, keepT, tmsO, setA, mFlow, zipX, enumX, itemsX, intsOf, ints_all, boolsOf, shaped_lay, lay_int, lay_bool, lay_none, lay_dict, lay_tup, lay_list, lay_ints, sortX_ints, mPlF, mPlI, mRd, mPU, mPB, mFSet, mFNew, mNSet, mPApp, mPSetIx, mPPop, mMeth, mNew, isIns, cellO, mLstN, mAddN, mAppN, semX, mTold, mCallX, mMethX, xFSet, mMethP, oneC, xRet, xExpr, xSet, mRaise, mM, isL, isS, mOrV, truD, mLc, lcL, sameC, wipeC, restC, mYes, *])
local macro_rules | `(tactic| walk_at "ef") => `(tactic| simp [semF, shared, after, mSeq, mSkip, mIf, mRet, mRetN, mRetV, mSet, mSetIx, mExpr, mB, mU, mTm, mPl, mK, mVar, mOp, mCons, mNil, bor, bors, mTst, mAndT, mOrT, mNotT, mAndE, mOrE, mNotE, mIfE, mIsi, isiD, mChn, chnL, cmpD, binD, addD, subD, mulD, modD, fdivD, powD, eqD, neD, ltD, leD, gtD, geD, isD, isnD, L2.M.isNon, negD, ixD, Bf.f, Bg.f, lenD, L2.M.intD, maxD, minD, repD, strD, gmaxD, gminD, sumD, sortD, anyD, allD, mCall, frz, fzO, lend, wb, mTup, mLst, fzs, cD, mAsg, bTup, bTps, mApp, tupD, lstD, mRev, revD, ofs_inj, ee_ii, ee_ss, ee_bb, ee_nn, ee_is, ee_si, ee_in, ee_ni, ee_tt, ee_ll, ee_maps, ee_0, ee_1, ee_2, ee_3, at_lit, at_nat, at_m1, at_m2, scD, emD, sizeLine_eq, ixN, sm_lit, mSrc, itemsD, plOf, rng1D, bNm, mSl, mPt, mNoP, slD, mPar, keepT, tmsO, setA, mFlow, zipX, enumX, itemsX, intsOf, ints_all, boolsOf, shaped_lay, lay_int, lay_bool, lay_none, lay_dict, lay_tup, lay_list, lay_ints, sortX_ints, mPlF, mPlI, mRd, mPU, mPB, mFSet, mFNew, mNSet, mPApp, mPSetIx, mPPop, mMeth, mNew, isIns, cellO, mLstN, mAddN, mAppN, semX, mTold, mCallX, mMethX, xFSet, mMethP, oneC, xRet, xExpr, xSet, mRaise, mM, isL, isS, mOrV, truD, mFor, forL, mLc, lcL, sameC, wipeC, restC, mYes, *])
local macro_rules | `(tactic| walk_at "rg") => `(tactic| (and_intros <;> grind))
local macro_rules | `(tactic| walk_at "nx") => `(tactic| (apply wx_nx; focus (walk_at "ev"; try first | exact ⟨rfl, rfl⟩ | rfl)))
local macro_rules | `(tactic| walk_at "ns") => `(tactic| (apply wx_nx; focus (walk_at "es"; try first | exact ⟨rfl, rfl⟩ | rfl)))
local macro_rules | `(tactic| walk_at "rt") => `(tactic| (apply wx_rt; focus (walk_at "ev"; try first | exact ⟨rfl, rfl⟩ | rfl)))
local macro_rules | `(tactic| walk_at "rs") => `(tactic| (apply wx_rt; focus (walk_at "es"; try first | exact ⟨rfl, rfl⟩ | rfl)))
local macro_rules | `(tactic| walk_at "ed") => `(tactic| simp [semF, shared, after, mSeq, mSkip, mIf, mRet, mRetN, mRetV, mSet, mSetIx, mExpr, mB, mU, mTm, mPl, mK, mVar, mOp, mCons, mNil, bor, bors, mTst, mAndT, mOrT, mNotT, mAndE, mOrE, mNotE, mIfE, mIsi, isiD, mChn, chnL, cmpD, binD, addD, subD, mulD, modD, fdivD, powD, eqD, neD, ltD, leD, gtD, geD, isD, isnD, L2.M.isNon, negD, ixD, Bf.f, Bg.f, lenD, L2.M.intD, maxD, minD, repD, strD, gmaxD, gminD, sumD, sortD, anyD, allD, mCall, frz, fzO, lend, wb, mTup, mLst, fzs, cD, mAsg, bTup, bTps, mApp, tupD, lstD, mRev, revD, ofs_inj, ee_ii, ee_ss, ee_bb, ee_nn, ee_is, ee_si, ee_in, ee_ni, ee_tt, ee_ll, ee_maps, ee_0, ee_1, ee_2, ee_3, at_lit, at_nat, at_m1, at_m2, scD, emD, sizeLine_eq, ixN, sm_lit, mSrc, itemsD, plOf, rng1D, bNm, mSl, mPt, mNoP, slD, mPar, keepT, tmsO, setA, mFlow, zipX, enumX, itemsX, intsOf, ints_all, boolsOf, shaped_lay, lay_int, lay_bool, lay_none, lay_dict, lay_tup, lay_list, lay_ints, sortX_ints, mPlF, mPlI, mRd, mPU, mPB, mFSet, mFNew, mNSet, mPApp, mPSetIx, mPPop, mMeth, mNew, isIns, cellO, mLstN, mAddN, mAppN, semX, mTold, mCallX, mMethX, xFSet, mMethP, oneC, xRet, xExpr, xSet, mRaise, mM, isL, isS, mOrV, truD, mDNew, mDIn, mDGet, mDLen, mDPut, kyD, mNNew, mN1, mTake, mFnV, mCallF, mNIn, mNGet, mNPut, mNVals, mNList, nKs, mDGetD, mDList, mNNe, *])
end KW
namespace KW
open PySem PySem.Spec PyProof.Rows L2 L2.M
local macro_rules | `(tactic| walk_at "ev") => `(tactic| simp [semF, shared, after, mSeq, mSkip, mIf, mRet, mRetN, mRetV, mSet, mSetIx, mExpr, mB, mU, mTm, mPl, mK, mVar, mOp, mCons, mNil, bor, bors, mTst, mAndT, mOrT, mNotT, mAndE, mOrE, mNotE, mIfE, mIsi, isiD, mChn, chnL, cmpD, binD, addD, subD, mulD, modD, fdivD, powD, eqD, neD, ltD, leD, gtD, geD, isD, isnD, L2.M.isNon, negD, ixD, Bf.f, Bg.f, lenD, L2.M.intD, maxD, minD, repD, strD, gmaxD, gminD, sumD, sortD, anyD, allD, mCall, frz, fzO, lend, wb, mTup, mLst, fzs, cD, mAsg, bTup, bTps, mApp, tupD, lstD, mRev, revD, ofs_inj, ee_ii, ee_ss, ee_bb, ee_nn, ee_is, ee_si, ee_in, ee_ni, ee_tt, ee_ll, ee_maps, ee_0, ee_1, ee_2, ee_3, at_lit, at_nat, at_m1, at_m2, scD, emD, sizeLine_eq, ixN, sm_lit, mSrc, itemsD, plOf, rng1D, bNm, mSl, mPt, mNoP, slD, mPar, keepT, tmsO, setA, mFlow, zipX, enumX, itemsX, intsOf, ints_all, boolsOf, shaped_lay, lay_int, lay_bool, lay_none, lay_dict, lay_tup, lay_list, lay_ints, sortX_ints, mPlF, mPlI, mRd, mPU, mPB, mFSet, mFNew, mNSet, mPApp, mPSetIx, mPPop, mMeth, mNew, isIns, cellO, mLstN, mAddN, mAppN, semX, mTold, mCallX, mMethX, xFSet, mMethP, oneC, xRet, xExpr, xSet, mRaise, mM, isL, isS, mOrV, truD])
local macro_rules | `(tactic| walk_at "es") => `(tactic| simp [semF, shared, after, mSeq, mSkip, mIf, mRet, mRetN, mRetV, mSet, mSetIx, mExpr, mB, mU, mTm, mPl, mK, mVar, mOp, mCons, mNil, bor, bors, mTst, mAndT, mOrT, mNotT, mAndE, mOrE, mNotE, mIfE, mIsi, isiD, mChn, chnL, cmpD, binD, addD, subD, mulD, modD, fdivD, powD, eqD, neD, ltD, leD, gtD, geD, isD, isnD, L2.M.isNon, negD, ixD, Bf.f, Bg.f, lenD, L2.M.intD, maxD, minD, repD, strD, gmaxD, gminD, sumD, sortD, anyD, allD, mCall, frz, fzO, lend, wb, mTup, mLst, fzs, cD, mAsg, bTup, bTps, mApp, tupD, lstD, mRev, revD, ofs_inj, ee_ii, ee_ss, ee_bb, ee_nn, ee_is, ee_si, ee_in, ee_ni, ee_tt, ee_ll, ee_maps, ee_0, ee_1, ee_2, ee_3, at_lit, at_nat, at_m1, at_m2, scD, emD, sizeLine_eq, ixN, sm_lit, mSrc, itemsD, plOf, rng1D, bNm, mSl, mPt, mNoP, slD, mPar, keepT, tmsO, setA, mFlow, zipX, enumX, itemsX, intsOf, ints_all, boolsOf, shaped_lay, lay_int, lay_bool, lay_none, lay_dict, lay_tup, lay_list, lay_ints, sortX_ints, mPlF, mPlI, mRd, mPU, mPB, mFSet, mFNew, mNSet, mPApp, mPSetIx, mPPop, mMeth, mNew, isIns, cellO, mLstN, mAddN, mAppN, semX, mTold, mCallX, mMethX, xFSet, mMethP, oneC, xRet, xExpr, xSet, mRaise, mM, isL, isS, mOrV, truD, *])
local macro_rules | `(tactic| walk_at "el") => `(tactic| simp [semF, shared, after, mSeq, mSkip, mIf, mRet, mRetN, mRetV, mSet, mSetIx, mExpr, mB, mU, mTm, mPl, mK, mVar, mOp, mCons, mNil, bor, bors, mTst, mAndT, mOrT, mNotT, mAndE, mOrE, mNotE, mIfE, mIsi, isiD, mChn, chnL, cmpD, binD, addD, subD, mulD, modD, fdivD, powD, eqD, neD, ltD, leD, gtD, geD, isD, isnD, L2.M.isNon, negD, ixD, Bf.f, Bg.f, lenD, L2.M.intD, maxD, minD, repD, strD, gmaxD, gminD, sumD, sortD, anyD, allD, mCall, frz, fzO, lend, wb, mTup, mLst, fzs, cD, mAsg, bTup, bTps, mApp, tupD, lstD, mRev, revD, ofs_inj, ee_ii, ee_ss, ee_bb, ee_nn, ee_is, ee_si, ee_in, ee_ni, ee_tt, ee_ll, ee_maps, ee_0, ee_1, ee_2, ee_3, at_lit, at_nat, at_m1, at_m2, scD, emD, sizeLine_eq, ixN, sm_lit, mSrc, itemsD, plOf, rng1D, bNm, mSl, mPt, mNoP, slD, mPar, keepT, tmsO, setA, mFlow, zipX, enumX, itemsX, intsOf, ints_all, boolsOf, shaped_lay, lay_int, lay_bool, lay_none, lay_dict, lay_tup, lay_list, lay_ints, sortX_ints, mPlF, mPlI, mRd, mPU, mPB, mFSet, mFNew, mNSet, mPApp, mPSetIx, mPPop, mMeth, mNew, isIns, cellO, mLstN, mAddN, mAppN, semX, mTold, mCallX, mMethX, xFSet, mMethP, oneC, xRet, xExpr, xSet, mRaise, mM, isL, isS, mOrV, truD, mLc, lcL, sameC, wipeC, restC, mYes, *])
local macro_rules | `(tactic| walk_at "ef") => `(tactic| simp [semF, shared, after, mSeq, mSkip, mIf, mRet, mRetN, mRetV, mSet, mSetIx, mExpr, mB, mU, mTm, mPl, mK, mVar, mOp, mCons, mNil, bor, bors, mTst, mAndT, mOrT, mNotT, mAndE, mOrE, mNotE, mIfE, mIsi, isiD, mChn, chnL, cmpD, binD, addD, subD, mulD, modD, fdivD, powD, eqD, neD, ltD, leD, gtD, geD, isD, isnD, L2.M.isNon, negD, ixD, Bf.f, Bg.f, lenD, L2.M.intD, maxD, minD, repD, strD, gmaxD, gminD, sumD, sortD, anyD, allD, mCall, frz, fzO, lend, wb, mTup, mLst, fzs, cD, mAsg, bTup, bTps, mApp, tupD, lstD, mRev, revD, ofs_inj, ee_ii, ee_ss, ee_bb, ee_nn, ee_is, ee_si, ee_in, ee_ni, ee_tt, ee_ll, ee_maps, ee_0, ee_1, ee_2, ee_3, at_lit, at_nat, at_m1, at_m2, scD, emD, sizeLine_eq, ixN, sm_lit, mSrc, itemsD, plOf, rng1D, bNm, mSl, mPt, mNoP, slD, mPar, keepT, tmsO, setA, mFlow, zipX, enumX, itemsX, intsOf, ints_all, boolsOf, shaped_lay, lay_int, lay_bool, lay_none, lay_dict, lay_tup, lay_list, lay_ints, sortX_ints, mPlF, mPlI, mRd, mPU, mPB, mFSet, mFNew, mNSet, mPApp, mPSetIx, mPPop, mMeth, mNew, isIns, cellO, mLstN, mAddN, mAppN, semX, mTold, mCallX, mMethX, xFSet, mMethP, oneC, xRet, xExpr, xSet, mRaise, mM, isL, isS, mOrV, truD, mFor, forL, mLc, lcL, sameC, wipeC, restC, mYes, *])
local macro_rules | `(tactic| walk_at "rg") => `(tactic| (and_intros <;> grind))
local macro_rules | `(tactic| walk_at "nx") => `(tactic| (apply wx_nx; focus (walk_at "ev"; try first | exact ⟨rfl, rfl⟩ | rfl)))
local macro_rules | `(tactic| walk_at "ns") => `(tactic| (apply wx_nx; focus (walk_at "es"; try first | exact ⟨rfl, rfl⟩ | rfl)))
local macro_rules | `(tactic| walk_at "rt") => `(tactic| (apply wx_rt; focus (walk_at "ev"; try first | exact ⟨rfl, rfl⟩ | rfl)))
local macro_rules | `(tactic| walk_at "rs") => `(tactic| (apply wx_rt; focus (walk_at "es"; try first | exact ⟨rfl, rfl⟩ | rfl)))
local macro_rules | `(tactic| walk_at "ed") => `(tactic| simp [semF, shared, after, mSeq, mSkip, mIf, mRet, mRetN, mRetV, mSet, mSetIx, mExpr, mB, mU, mTm, mPl, mK, mVar, mOp, mCons, mNil, bor, bors, mTst, mAndT, mOrT, mNotT, mAndE, mOrE, mNotE, mIfE, mIsi, isiD, mChn, chnL, cmpD, binD, addD, subD, mulD, modD, fdivD, powD, eqD, neD, ltD, leD, gtD, geD, isD, isnD, L2.M.isNon, negD, ixD, Bf.f, Bg.f, lenD, L2.M.intD, maxD, minD, repD, strD, gmaxD, gminD, sumD, sortD, anyD, allD, mCall, frz, fzO, lend, wb, mTup, mLst, fzs, cD, mAsg, bTup, bTps, mApp, tupD, lstD, mRev, revD, ofs_inj, ee_ii, ee_ss, ee_bb, ee_nn, ee_is, ee_si, ee_in, ee_ni, ee_tt, ee_ll, ee_maps, ee_0, ee_1, ee_2, ee_3, at_lit, at_nat, at_m1, at_m2, scD, emD, sizeLine_eq, ixN, sm_lit, mSrc, itemsD, plOf, rng1D, bNm, mSl, mPt, mNoP, slD, mPar, keepT, tmsO, setA, mFlow, zipX, enumX, itemsX, intsOf, ints_all, boolsOf, shaped_lay, lay_int, lay_bool, lay_none, lay_dict, lay_tup, lay_list, lay_ints, sortX_ints, mPlF, mPlI, mRd, mPU, mPB, mFSet, mFNew, mNSet, mPApp, mPSetIx, mPPop, mMeth, mNew, isIns, cellO, mLstN, mAddN, mAppN, semX, mTold, mCallX, mMethX, xFSet, mMethP, oneC, xRet, xExpr, xSet, mRaise, mM, isL, isS, mOrV, truD, mDNew, mDIn, mDGet, mDLen, mDPut, kyD, mNNew, mN1, mTake, mFnV, mCallF, mNIn, mNGet, mNPut, mNVals, mNList, nKs, mDGetD, mDList, mNNe, *])
theorem src_f {f : List PyData → Option (List PyData)} {d : PyData} {ds : List PyData} {ε ε1 : Cs} {m : EM} (h : m ε = some (.sh d, ε1)) (hf : f [d] = some ds) : mSrc f (mCons (mTm m) mNil) ε = some ((ds, []), ε1) := by
  simp [mSrc, mCons, mTm, mNil, bors, bor, plOf, hf, h]
end KW
namespace KW
open PySem PySem.Spec PyProof.Rows L2 L2.M
local macro_rules | `(tactic| walk_at "ev") => `(tactic| simp [semF, shared, after, mSeq, mSkip, mIf, mRet, mRetN, mRetV, mSet, mSetIx, mExpr, mB, mU, mTm, mPl, mK, mVar, mOp, mCons, mNil, bor, bors, mTst, mAndT, mOrT, mNotT, mAndE, mOrE, mNotE, mIfE, mIsi, isiD, mChn, chnL, cmpD, binD, addD, subD, mulD, modD, fdivD, powD, eqD, neD, ltD, leD, gtD, geD, isD, isnD, L2.M.isNon, negD, ixD, Bf.f, Bg.f, lenD, L2.M.intD, maxD, minD, repD, strD, gmaxD, gminD, sumD, sortD, anyD, allD, mCall, frz, fzO, lend, wb, mTup, mLst, fzs, cD, mAsg, bTup, bTps, mApp, tupD, lstD, mRev, revD, ofs_inj, ee_ii, ee_ss, ee_bb, ee_nn, ee_is, ee_si, ee_in, ee_ni, ee_tt, ee_ll, ee_maps, ee_0, ee_1, ee_2, ee_3, at_lit, at_nat, at_m1, at_m2, scD, emD, sizeLine_eq, ixN, sm_lit, mSrc, itemsD, plOf, rng1D, bNm, mSl, mPt, mNoP, slD, mPar, keepT, tmsO, setA, mFlow, zipX, enumX, itemsX, intsOf, ints_all, boolsOf, shaped_lay, lay_int, lay_bool, lay_none, lay_dict, lay_tup, lay_list, lay_ints, sortX_ints, mPlF, mPlI, mRd, mPU, mPB, mFSet, mFNew, mNSet, mPApp, mPSetIx, mPPop, mMeth, mNew, isIns, cellO, mLstN, mAddN, mAppN, semX, mTold, mCallX, mMethX, xFSet, mMethP, oneC, xRet, xExpr, xSet, mRaise, mM, isL, isS, mOrV, truD])
local macro_rules | `(tactic| walk_at "es") => `(tactic| simp [semF, shared, after, mSeq, mSkip, mIf, mRet, mRetN, mRetV, mSet, mSetIx, mExpr, mB, mU, mTm, mPl, mK, mVar, mOp, mCons, mNil, bor, bors, mTst, mAndT, mOrT, mNotT, mAndE, mOrE, mNotE, mIfE, mIsi, isiD, mChn, chnL, cmpD, binD, addD, subD, mulD, modD, fdivD, powD, eqD, neD, ltD, leD, gtD, geD, isD, isnD, L2.M.isNon, negD, ixD, Bf.f, Bg.f, lenD, L2.M.intD, maxD, minD, repD, strD, gmaxD, gminD, sumD, sortD, anyD, allD, mCall, frz, fzO, lend, wb, mTup, mLst, fzs, cD, mAsg, bTup, bTps, mApp, tupD, lstD, mRev, revD, ofs_inj, ee_ii, ee_ss, ee_bb, ee_nn, ee_is, ee_si, ee_in, ee_ni, ee_tt, ee_ll, ee_maps, ee_0, ee_1, ee_2, ee_3, at_lit, at_nat, at_m1, at_m2, scD, emD, sizeLine_eq, ixN, sm_lit, mSrc, itemsD, plOf, rng1D, bNm, mSl, mPt, mNoP, slD, mPar, keepT, tmsO, setA, mFlow, zipX, enumX, itemsX, intsOf, ints_all, boolsOf, shaped_lay, lay_int, lay_bool, lay_none, lay_dict, lay_tup, lay_list, lay_ints, sortX_ints, mPlF, mPlI, mRd, mPU, mPB, mFSet, mFNew, mNSet, mPApp, mPSetIx, mPPop, mMeth, mNew, isIns, cellO, mLstN, mAddN, mAppN, semX, mTold, mCallX, mMethX, xFSet, mMethP, oneC, xRet, xExpr, xSet, mRaise, mM, isL, isS, mOrV, truD, *])
local macro_rules | `(tactic| walk_at "el") => `(tactic| simp [semF, shared, after, mSeq, mSkip, mIf, mRet, mRetN, mRetV, mSet, mSetIx, mExpr, mB, mU, mTm, mPl, mK, mVar, mOp, mCons, mNil, bor, bors, mTst, mAndT, mOrT, mNotT, mAndE, mOrE, mNotE, mIfE, mIsi, isiD, mChn, chnL, cmpD, binD, addD, subD, mulD, modD, fdivD, powD, eqD, neD, ltD, leD, gtD, geD, isD, isnD, L2.M.isNon, negD, ixD, Bf.f, Bg.f, lenD, L2.M.intD, maxD, minD, repD, strD, gmaxD, gminD, sumD, sortD, anyD, allD, mCall, frz, fzO, lend, wb, mTup, mLst, fzs, cD, mAsg, bTup, bTps, mApp, tupD, lstD, mRev, revD, ofs_inj, ee_ii, ee_ss, ee_bb, ee_nn, ee_is, ee_si, ee_in, ee_ni, ee_tt, ee_ll, ee_maps, ee_0, ee_1, ee_2, ee_3, at_lit, at_nat, at_m1, at_m2, scD, emD, sizeLine_eq, ixN, sm_lit, mSrc, itemsD, plOf, rng1D, bNm, mSl, mPt, mNoP, slD, mPar, keepT, tmsO, setA, mFlow, zipX, enumX, itemsX, intsOf, ints_all, boolsOf, shaped_lay, lay_int, lay_bool, lay_none, lay_dict, lay_tup, lay_list, lay_ints, sortX_ints, mPlF, mPlI, mRd, mPU, mPB, mFSet, mFNew, mNSet, mPApp, mPSetIx, mPPop, mMeth, mNew, isIns, cellO, mLstN, mAddN, mAppN, semX, mTold, mCallX, mMethX, xFSet, mMethP, oneC, xRet, xExpr, xSet, mRaise, mM, isL, isS, mOrV, truD, mLc, lcL, sameC, wipeC, restC, mYes, *])
local macro_rules | `(tactic| walk_at "ef") => `(tactic| simp [semF, shared, after, mSeq, mSkip, mIf, mRet, mRetN, mRetV, mSet, mSetIx, mExpr, mB, mU, mTm, mPl, mK, mVar, mOp, mCons, mNil, bor, bors, mTst, mAndT, mOrT, mNotT, mAndE, mOrE, mNotE, mIfE, mIsi, isiD, mChn, chnL, cmpD, binD, addD, subD, mulD, modD, fdivD, powD, eqD, neD, ltD, leD, gtD, geD, isD, isnD, L2.M.isNon, negD, ixD, Bf.f, Bg.f, lenD, L2.M.intD, maxD, minD, repD, strD, gmaxD, gminD, sumD, sortD, anyD, allD, mCall, frz, fzO, lend, wb, mTup, mLst, fzs, cD, mAsg, bTup, bTps, mApp, tupD, lstD, mRev, revD, ofs_inj, ee_ii, ee_ss, ee_bb, ee_nn, ee_is, ee_si, ee_in, ee_ni, ee_tt, ee_ll, ee_maps, ee_0, ee_1, ee_2, ee_3, at_lit, at_nat, at_m1, at_m2, scD, emD, sizeLine_eq, ixN, sm_lit, mSrc, itemsD, plOf, rng1D, bNm, mSl, mPt, mNoP, slD, mPar, keepT, tmsO, setA, mFlow, zipX, enumX, itemsX, intsOf, ints_all, boolsOf, shaped_lay, lay_int, lay_bool, lay_none, lay_dict, lay_tup, lay_list, lay_ints, sortX_ints, mPlF, mPlI, mRd, mPU, mPB, mFSet, mFNew, mNSet, mPApp, mPSetIx, mPPop, mMeth, mNew, isIns, cellO, mLstN, mAddN, mAppN, semX, mTold, mCallX, mMethX, xFSet, mMethP, oneC, xRet, xExpr, xSet, mRaise, mM, isL, isS, mOrV, truD, mFor, forL, mLc, lcL, sameC, wipeC, restC, mYes, *])
local macro_rules | `(tactic| walk_at "rg") => `(tactic| (and_intros <;> grind))
local macro_rules | `(tactic| walk_at "nx") => `(tactic| (apply wx_nx; focus (walk_at "ev"; try first | exact ⟨rfl, rfl⟩ | rfl)))
local macro_rules | `(tactic| walk_at "ns") => `(tactic| (apply wx_nx; focus (walk_at "es"; try first | exact ⟨rfl, rfl⟩ | rfl)))
local macro_rules | `(tactic| walk_at "rt") => `(tactic| (apply wx_rt; focus (walk_at "ev"; try first | exact ⟨rfl, rfl⟩ | rfl)))
local macro_rules | `(tactic| walk_at "rs") => `(tactic| (apply wx_rt; focus (walk_at "es"; try first | exact ⟨rfl, rfl⟩ | rfl)))
local macro_rules | `(tactic| walk_at "ed") => `(tactic| simp [semF, shared, after, mSeq, mSkip, mIf, mRet, mRetN, mRetV, mSet, mSetIx, mExpr, mB, mU, mTm, mPl, mK, mVar, mOp, mCons, mNil, bor, bors, mTst, mAndT, mOrT, mNotT, mAndE, mOrE, mNotE, mIfE, mIsi, isiD, mChn, chnL, cmpD, binD, addD, subD, mulD, modD, fdivD, powD, eqD, neD, ltD, leD, gtD, geD, isD, isnD, L2.M.isNon, negD, ixD, Bf.f, Bg.f, lenD, L2.M.intD, maxD, minD, repD, strD, gmaxD, gminD, sumD, sortD, anyD, allD, mCall, frz, fzO, lend, wb, mTup, mLst, fzs, cD, mAsg, bTup, bTps, mApp, tupD, lstD, mRev, revD, ofs_inj, ee_ii, ee_ss, ee_bb, ee_nn, ee_is, ee_si, ee_in, ee_ni, ee_tt, ee_ll, ee_maps, ee_0, ee_1, ee_2, ee_3, at_lit, at_nat, at_m1, at_m2, scD, emD, sizeLine_eq, ixN, sm_lit, mSrc, itemsD, plOf, rng1D, bNm, mSl, mPt, mNoP, slD, mPar, keepT, tmsO, setA, mFlow, zipX, enumX, itemsX, intsOf, ints_all, boolsOf, shaped_lay, lay_int, lay_bool, lay_none, lay_dict, lay_tup, lay_list, lay_ints, sortX_ints, mPlF, mPlI, mRd, mPU, mPB, mFSet, mFNew, mNSet, mPApp, mPSetIx, mPPop, mMeth, mNew, isIns, cellO, mLstN, mAddN, mAppN, semX, mTold, mCallX, mMethX, xFSet, mMethP, oneC, xRet, xExpr, xSet, mRaise, mM, isL, isS, mOrV, truD, mDNew, mDIn, mDGet, mDLen, mDPut, kyD, mNNew, mN1, mTake, mFnV, mCallF, mNIn, mNGet, mNPut, mNVals, mNList, nKs, mDGetD, mDList, mNNe, *])
def endX (io : List Bool) (cs : List C) (P : C ⊕ Xn → List C → Prop) : Fl → Cs → Prop
  | .rt c, ε => P (.inl c) (after io cs ε)
  | .nx, ε => P (.inl (.sh .none)) (after io cs ε)
  | .xc x, ε => P (.inr x) (after io cs ε)
  | _, _ => False
theorem rx_sem {io : List Bool} {ns : Nat} {m : XM} {cs : List C} {r : C ⊕ Xn} {cs' : List C} (hs : shared io cs = true) (h : Wx (m (cs ++ List.replicate (ns - cs.length) .no)) (endX io cs fun r' cs1 => r' = r ∧ cs1 = cs')) : semX io ns m cs = some (r, cs') := by
  obtain ⟨f, ε, e, q⟩ := h
  unfold semX
  rw [if_pos hs, e]
  cases f with
  | nx => obtain ⟨rfl, rfl⟩ := q; rfl
  | bk => exact q.elim
  | ct => exact q.elim
  | rt c => obtain ⟨rfl, rfl⟩ := q; rfl
  | xc x => obtain ⟨rfl, rfl⟩ := q; rfl
end KW
namespace KW
open PySem PySem.Spec PyProof.Rows L2 L2.M
local macro_rules | `(tactic| walk_at "ev") => `(tactic| simp [semF, shared, after, mSeq, mSkip, mIf, mRet, mRetN, mRetV, mSet, mSetIx, mExpr, mB, mU, mTm, mPl, mK, mVar, mOp, mCons, mNil, bor, bors, mTst, mAndT, mOrT, mNotT, mAndE, mOrE, mNotE, mIfE, mIsi, isiD, mChn, chnL, cmpD, binD, addD, subD, mulD, modD, fdivD, powD, eqD, neD, ltD, leD, gtD, geD, isD, isnD, L2.M.isNon, negD, ixD, Bf.f, Bg.f, lenD, L2.M.intD, maxD, minD, repD, strD, gmaxD, gminD, sumD, sortD, anyD, allD, mCall, frz, fzO, lend, wb, mTup, mLst, fzs, cD, mAsg, bTup, bTps, mApp, tupD, lstD, mRev, revD, ofs_inj, ee_ii, ee_ss, ee_bb, ee_nn, ee_is, ee_si, ee_in, ee_ni, ee_tt, ee_ll, ee_maps, ee_0, ee_1, ee_2, ee_3, at_lit, at_nat, at_m1, at_m2, scD, emD, sizeLine_eq, ixN, sm_lit, mSrc, itemsD, plOf, rng1D, bNm, mSl, mPt, mNoP, slD, mPar, keepT, tmsO, setA, mFlow, zipX, enumX, itemsX, intsOf, ints_all, boolsOf, shaped_lay, lay_int, lay_bool, lay_none, lay_dict, lay_tup, lay_list, lay_ints, sortX_ints, mPlF, mPlI, mRd, mPU, mPB, mFSet, mFNew, mNSet, mPApp, mPSetIx, mPPop, mMeth, mNew, isIns, cellO, mLstN, mAddN, mAppN, semX, mTold, mCallX, mMethX, xFSet, mMethP, oneC, xRet, xExpr, xSet, mRaise, mM, isL, isS, mOrV, truD])
local macro_rules | `(tactic| walk_at "es") => `(tactic| simp [semF, shared, after, mSeq, mSkip, mIf, mRet, mRetN, mRetV, mSet, mSetIx, mExpr, mB, mU, mTm, mPl, mK, mVar, mOp, mCons, mNil, bor, bors, mTst, mAndT, mOrT, mNotT, mAndE, mOrE, mNotE, mIfE, mIsi, isiD, mChn, chnL, cmpD, binD, addD, subD, mulD, modD, fdivD, powD, eqD, neD, ltD, leD, gtD, geD, isD, isnD, L2.M.isNon, negD, ixD, Bf.f, Bg.f, lenD, L2.M.intD, maxD, minD, repD, strD, gmaxD, gminD, sumD, sortD, anyD, allD, mCall, frz, fzO, lend, wb, mTup, mLst, fzs, cD, mAsg, bTup, bTps, mApp, tupD, lstD, mRev, revD, ofs_inj, ee_ii, ee_ss, ee_bb, ee_nn, ee_is, ee_si, ee_in, ee_ni, ee_tt, ee_ll, ee_maps, ee_0, ee_1, ee_2, ee_3, at_lit, at_nat, at_m1, at_m2, scD, emD, sizeLine_eq, ixN, sm_lit, mSrc, itemsD, plOf, rng1D, bNm, mSl, mPt, mNoP, slD, mPar, keepT, tmsO, setA, mFlow, zipX, enumX, itemsX, intsOf, ints_all, boolsOf, shaped_lay, lay_int, lay_bool, lay_none, lay_dict, lay_tup, lay_list, lay_ints, sortX_ints, mPlF, mPlI, mRd, mPU, mPB, mFSet, mFNew, mNSet, mPApp, mPSetIx, mPPop, mMeth, mNew, isIns, cellO, mLstN, mAddN, mAppN, semX, mTold, mCallX, mMethX, xFSet, mMethP, oneC, xRet, xExpr, xSet, mRaise, mM, isL, isS, mOrV, truD, *])
local macro_rules | `(tactic| walk_at "el") => `(tactic| simp [semF, shared, after, mSeq, mSkip, mIf, mRet, mRetN, mRetV, mSet, mSetIx, mExpr, mB, mU, mTm, mPl, mK, mVar, mOp, mCons, mNil, bor, bors, mTst, mAndT, mOrT, mNotT, mAndE, mOrE, mNotE, mIfE, mIsi, isiD, mChn, chnL, cmpD, binD, addD, subD, mulD, modD, fdivD, powD, eqD, neD, ltD, leD, gtD, geD, isD, isnD, L2.M.isNon, negD, ixD, Bf.f, Bg.f, lenD, L2.M.intD, maxD, minD, repD, strD, gmaxD, gminD, sumD, sortD, anyD, allD, mCall, frz, fzO, lend, wb, mTup, mLst, fzs, cD, mAsg, bTup, bTps, mApp, tupD, lstD, mRev, revD, ofs_inj, ee_ii, ee_ss, ee_bb, ee_nn, ee_is, ee_si, ee_in, ee_ni, ee_tt, ee_ll, ee_maps, ee_0, ee_1, ee_2, ee_3, at_lit, at_nat, at_m1, at_m2, scD, emD, sizeLine_eq, ixN, sm_lit, mSrc, itemsD, plOf, rng1D, bNm, mSl, mPt, mNoP, slD, mPar, keepT, tmsO, setA, mFlow, zipX, enumX, itemsX, intsOf, ints_all, boolsOf, shaped_lay, lay_int, lay_bool, lay_none, lay_dict, lay_tup, lay_list, lay_ints, sortX_ints, mPlF, mPlI, mRd, mPU, mPB, mFSet, mFNew, mNSet, mPApp, mPSetIx, mPPop, mMeth, mNew, isIns, cellO, mLstN, mAddN, mAppN, semX, mTold, mCallX, mMethX, xFSet, mMethP, oneC, xRet, xExpr, xSet, mRaise, mM, isL, isS, mOrV, truD, mLc, lcL, sameC, wipeC, restC, mYes, *])
local macro_rules | `(tactic| walk_at "ef") => `(tactic| simp [semF, shared, after, mSeq, mSkip, mIf, mRet, mRetN, mRetV, mSet, mSetIx, mExpr, mB, mU, mTm, mPl, mK, mVar, mOp, mCons, mNil, bor, bors, mTst, mAndT, mOrT, mNotT, mAndE, mOrE, mNotE, mIfE, mIsi, isiD, mChn, chnL, cmpD, binD, addD, subD, mulD, modD, fdivD, powD, eqD, neD, ltD, leD, gtD, geD, isD, isnD, L2.M.isNon, negD, ixD, Bf.f, Bg.f, lenD, L2.M.intD, maxD, minD, repD, strD, gmaxD, gminD, sumD, sortD, anyD, allD, mCall, frz, fzO, lend, wb, mTup, mLst, fzs, cD, mAsg, bTup, bTps, mApp, tupD, lstD, mRev, revD, ofs_inj, ee_ii, ee_ss, ee_bb, ee_nn, ee_is, ee_si, ee_in, ee_ni, ee_tt, ee_ll, ee_maps, ee_0, ee_1, ee_2, ee_3, at_lit, at_nat, at_m1, at_m2, scD, emD, sizeLine_eq, ixN, sm_lit, mSrc, itemsD, plOf, rng1D, bNm, mSl, mPt, mNoP, slD, mPar, keepT, tmsO, setA, mFlow, zipX, enumX, itemsX, intsOf, ints_all, boolsOf, shaped_lay, lay_int, lay_bool, lay_none, lay_dict, lay_tup, lay_list, lay_ints, sortX_ints, mPlF, mPlI, mRd, mPU, mPB, mFSet, mFNew, mNSet, mPApp, mPSetIx, mPPop, mMeth, mNew, isIns, cellO, mLstN, mAddN, mAppN, semX, mTold, mCallX, mMethX, xFSet, mMethP, oneC, xRet, xExpr, xSet, mRaise, mM, isL, isS, mOrV, truD, mFor, forL, mLc, lcL, sameC, wipeC, restC, mYes, *])
local macro_rules | `(tactic| walk_at "rg") => `(tactic| (and_intros <;> grind))
local macro_rules | `(tactic| walk_at "nx") => `(tactic| (apply wx_nx; focus (walk_at "ev"; try first | exact ⟨rfl, rfl⟩ | rfl)))
local macro_rules | `(tactic| walk_at "ns") => `(tactic| (apply wx_nx; focus (walk_at "es"; try first | exact ⟨rfl, rfl⟩ | rfl)))
local macro_rules | `(tactic| walk_at "rt") => `(tactic| (apply wx_rt; focus (walk_at "ev"; try first | exact ⟨rfl, rfl⟩ | rfl)))
local macro_rules | `(tactic| walk_at "rs") => `(tactic| (apply wx_rt; focus (walk_at "es"; try first | exact ⟨rfl, rfl⟩ | rfl)))
local macro_rules | `(tactic| walk_at "ed") => `(tactic| simp [semF, shared, after, mSeq, mSkip, mIf, mRet, mRetN, mRetV, mSet, mSetIx, mExpr, mB, mU, mTm, mPl, mK, mVar, mOp, mCons, mNil, bor, bors, mTst, mAndT, mOrT, mNotT, mAndE, mOrE, mNotE, mIfE, mIsi, isiD, mChn, chnL, cmpD, binD, addD, subD, mulD, modD, fdivD, powD, eqD, neD, ltD, leD, gtD, geD, isD, isnD, L2.M.isNon, negD, ixD, Bf.f, Bg.f, lenD, L2.M.intD, maxD, minD, repD, strD, gmaxD, gminD, sumD, sortD, anyD, allD, mCall, frz, fzO, lend, wb, mTup, mLst, fzs, cD, mAsg, bTup, bTps, mApp, tupD, lstD, mRev, revD, ofs_inj, ee_ii, ee_ss, ee_bb, ee_nn, ee_is, ee_si, ee_in, ee_ni, ee_tt, ee_ll, ee_maps, ee_0, ee_1, ee_2, ee_3, at_lit, at_nat, at_m1, at_m2, scD, emD, sizeLine_eq, ixN, sm_lit, mSrc, itemsD, plOf, rng1D, bNm, mSl, mPt, mNoP, slD, mPar, keepT, tmsO, setA, mFlow, zipX, enumX, itemsX, intsOf, ints_all, boolsOf, shaped_lay, lay_int, lay_bool, lay_none, lay_dict, lay_tup, lay_list, lay_ints, sortX_ints, mPlF, mPlI, mRd, mPU, mPB, mFSet, mFNew, mNSet, mPApp, mPSetIx, mPPop, mMeth, mNew, isIns, cellO, mLstN, mAddN, mAppN, semX, mTold, mCallX, mMethX, xFSet, mMethP, oneC, xRet, xExpr, xSet, mRaise, mM, isL, isS, mOrV, truD, mDNew, mDIn, mDGet, mDLen, mDPut, kyD, mNNew, mN1, mTake, mFnV, mCallF, mNIn, mNGet, mNPut, mNVals, mNList, nKs, mDGetD, mDList, mNNe, *])
@[simp] theorem lets_eq (g : PyData) (s : Sg) (t : Int) : g_lets [.sh g, .sh s.d, .sh (.int t)] = some (.sh (.tuple [.bool (letT s t), (letS s t).d]), [.sh g, .sh s.d, .sh (.int t)]) := by
  unfold g_lets m_lets
  cases s with
  | op b => simp only [Sg.d, letT, letS]; walk_at "ev"
  | sh u n => by_cases c : t < u <;> simp only [Sg.d, letT, letS, c] <;> walk_at "es"
  | tr g n => simp only [Sg.d, letT, letS]; walk_at "ev"
end KW
namespace KW
open PySem PySem.Spec PyProof.Rows L2 L2.M
local macro_rules | `(tactic| walk_at "ev") => `(tactic| simp [semF, shared, after, mSeq, mSkip, mIf, mRet, mRetN, mRetV, mSet, mSetIx, mExpr, mB, mU, mTm, mPl, mK, mVar, mOp, mCons, mNil, bor, bors, mTst, mAndT, mOrT, mNotT, mAndE, mOrE, mNotE, mIfE, mIsi, isiD, mChn, chnL, cmpD, binD, addD, subD, mulD, modD, fdivD, powD, eqD, neD, ltD, leD, gtD, geD, isD, isnD, L2.M.isNon, negD, ixD, Bf.f, Bg.f, lenD, L2.M.intD, maxD, minD, repD, strD, gmaxD, gminD, sumD, sortD, anyD, allD, mCall, frz, fzO, lend, wb, mTup, mLst, fzs, cD, mAsg, bTup, bTps, mApp, tupD, lstD, mRev, revD, ofs_inj, ee_ii, ee_ss, ee_bb, ee_nn, ee_is, ee_si, ee_in, ee_ni, ee_tt, ee_ll, ee_maps, ee_0, ee_1, ee_2, ee_3, at_lit, at_nat, at_m1, at_m2, scD, emD, sizeLine_eq, ixN, sm_lit, mSrc, itemsD, plOf, rng1D, bNm, mSl, mPt, mNoP, slD, mPar, keepT, tmsO, setA, mFlow, zipX, enumX, itemsX, intsOf, ints_all, boolsOf, shaped_lay, lay_int, lay_bool, lay_none, lay_dict, lay_tup, lay_list, lay_ints, sortX_ints, mPlF, mPlI, mRd, mPU, mPB, mFSet, mFNew, mNSet, mPApp, mPSetIx, mPPop, mMeth, mNew, isIns, cellO, mLstN, mAddN, mAppN, semX, mTold, mCallX, mMethX, xFSet, mMethP, oneC, xRet, xExpr, xSet, mRaise, mM, isL, isS, mOrV, truD])
local macro_rules | `(tactic| walk_at "es") => `(tactic| simp [semF, shared, after, mSeq, mSkip, mIf, mRet, mRetN, mRetV, mSet, mSetIx, mExpr, mB, mU, mTm, mPl, mK, mVar, mOp, mCons, mNil, bor, bors, mTst, mAndT, mOrT, mNotT, mAndE, mOrE, mNotE, mIfE, mIsi, isiD, mChn, chnL, cmpD, binD, addD, subD, mulD, modD, fdivD, powD, eqD, neD, ltD, leD, gtD, geD, isD, isnD, L2.M.isNon, negD, ixD, Bf.f, Bg.f, lenD, L2.M.intD, maxD, minD, repD, strD, gmaxD, gminD, sumD, sortD, anyD, allD, mCall, frz, fzO, lend, wb, mTup, mLst, fzs, cD, mAsg, bTup, bTps, mApp, tupD, lstD, mRev, revD, ofs_inj, ee_ii, ee_ss, ee_bb, ee_nn, ee_is, ee_si, ee_in, ee_ni, ee_tt, ee_ll, ee_maps, ee_0, ee_1, ee_2, ee_3, at_lit, at_nat, at_m1, at_m2, scD, emD, sizeLine_eq, ixN, sm_lit, mSrc, itemsD, plOf, rng1D, bNm, mSl, mPt, mNoP, slD, mPar, keepT, tmsO, setA, mFlow, zipX, enumX, itemsX, intsOf, ints_all, boolsOf, shaped_lay, lay_int, lay_bool, lay_none, lay_dict, lay_tup, lay_list, lay_ints, sortX_ints, mPlF, mPlI, mRd, mPU, mPB, mFSet, mFNew, mNSet, mPApp, mPSetIx, mPPop, mMeth, mNew, isIns, cellO, mLstN, mAddN, mAppN, semX, mTold, mCallX, mMethX, xFSet, mMethP, oneC, xRet, xExpr, xSet, mRaise, mM, isL, isS, mOrV, truD, *])
local macro_rules | `(tactic| walk_at "el") => `(tactic| simp [semF, shared, after, mSeq, mSkip, mIf, mRet, mRetN, mRetV, mSet, mSetIx, mExpr, mB, mU, mTm, mPl, mK, mVar, mOp, mCons, mNil, bor, bors, mTst, mAndT, mOrT, mNotT, mAndE, mOrE, mNotE, mIfE, mIsi, isiD, mChn, chnL, cmpD, binD, addD, subD, mulD, modD, fdivD, powD, eqD, neD, ltD, leD, gtD, geD, isD, isnD, L2.M.isNon, negD, ixD, Bf.f, Bg.f, lenD, L2.M.intD, maxD, minD, repD, strD, gmaxD, gminD, sumD, sortD, anyD, allD, mCall, frz, fzO, lend, wb, mTup, mLst, fzs, cD, mAsg, bTup, bTps, mApp, tupD, lstD, mRev, revD, ofs_inj, ee_ii, ee_ss, ee_bb, ee_nn, ee_is, ee_si, ee_in, ee_ni, ee_tt, ee_ll, ee_maps, ee_0, ee_1, ee_2, ee_3, at_lit, at_nat, at_m1, at_m2, scD, emD, sizeLine_eq, ixN, sm_lit, mSrc, itemsD, plOf, rng1D, bNm, mSl, mPt, mNoP, slD, mPar, keepT, tmsO, setA, mFlow, zipX, enumX, itemsX, intsOf, ints_all, boolsOf, shaped_lay, lay_int, lay_bool, lay_none, lay_dict, lay_tup, lay_list, lay_ints, sortX_ints, mPlF, mPlI, mRd, mPU, mPB, mFSet, mFNew, mNSet, mPApp, mPSetIx, mPPop, mMeth, mNew, isIns, cellO, mLstN, mAddN, mAppN, semX, mTold, mCallX, mMethX, xFSet, mMethP, oneC, xRet, xExpr, xSet, mRaise, mM, isL, isS, mOrV, truD, mLc, lcL, sameC, wipeC, restC, mYes, *])
local macro_rules | `(tactic| walk_at "ef") => `(tactic| simp [semF, shared, after, mSeq, mSkip, mIf, mRet, mRetN, mRetV, mSet, mSetIx, mExpr, mB, mU, mTm, mPl, mK, mVar, mOp, mCons, mNil, bor, bors, mTst, mAndT, mOrT, mNotT, mAndE, mOrE, mNotE, mIfE, mIsi, isiD, mChn, chnL, cmpD, binD, addD, subD, mulD, modD, fdivD, powD, eqD, neD, ltD, leD, gtD, geD, isD, isnD, L2.M.isNon, negD, ixD, Bf.f, Bg.f, lenD, L2.M.intD, maxD, minD, repD, strD, gmaxD, gminD, sumD, sortD, anyD, allD, mCall, frz, fzO, lend, wb, mTup, mLst, fzs, cD, mAsg, bTup, bTps, mApp, tupD, lstD, mRev, revD, ofs_inj, ee_ii, ee_ss, ee_bb, ee_nn, ee_is, ee_si, ee_in, ee_ni, ee_tt, ee_ll, ee_maps, ee_0, ee_1, ee_2, ee_3, at_lit, at_nat, at_m1, at_m2, scD, emD, sizeLine_eq, ixN, sm_lit, mSrc, itemsD, plOf, rng1D, bNm, mSl, mPt, mNoP, slD, mPar, keepT, tmsO, setA, mFlow, zipX, enumX, itemsX, intsOf, ints_all, boolsOf, shaped_lay, lay_int, lay_bool, lay_none, lay_dict, lay_tup, lay_list, lay_ints, sortX_ints, mPlF, mPlI, mRd, mPU, mPB, mFSet, mFNew, mNSet, mPApp, mPSetIx, mPPop, mMeth, mNew, isIns, cellO, mLstN, mAddN, mAppN, semX, mTold, mCallX, mMethX, xFSet, mMethP, oneC, xRet, xExpr, xSet, mRaise, mM, isL, isS, mOrV, truD, mFor, forL, mLc, lcL, sameC, wipeC, restC, mYes, *])
local macro_rules | `(tactic| walk_at "rg") => `(tactic| (and_intros <;> grind))
local macro_rules | `(tactic| walk_at "nx") => `(tactic| (apply wx_nx; focus (walk_at "ev"; try first | exact ⟨rfl, rfl⟩ | rfl)))
local macro_rules | `(tactic| walk_at "ns") => `(tactic| (apply wx_nx; focus (walk_at "es"; try first | exact ⟨rfl, rfl⟩ | rfl)))
local macro_rules | `(tactic| walk_at "rt") => `(tactic| (apply wx_rt; focus (walk_at "ev"; try first | exact ⟨rfl, rfl⟩ | rfl)))
local macro_rules | `(tactic| walk_at "rs") => `(tactic| (apply wx_rt; focus (walk_at "es"; try first | exact ⟨rfl, rfl⟩ | rfl)))
local macro_rules | `(tactic| walk_at "ed") => `(tactic| simp [semF, shared, after, mSeq, mSkip, mIf, mRet, mRetN, mRetV, mSet, mSetIx, mExpr, mB, mU, mTm, mPl, mK, mVar, mOp, mCons, mNil, bor, bors, mTst, mAndT, mOrT, mNotT, mAndE, mOrE, mNotE, mIfE, mIsi, isiD, mChn, chnL, cmpD, binD, addD, subD, mulD, modD, fdivD, powD, eqD, neD, ltD, leD, gtD, geD, isD, isnD, L2.M.isNon, negD, ixD, Bf.f, Bg.f, lenD, L2.M.intD, maxD, minD, repD, strD, gmaxD, gminD, sumD, sortD, anyD, allD, mCall, frz, fzO, lend, wb, mTup, mLst, fzs, cD, mAsg, bTup, bTps, mApp, tupD, lstD, mRev, revD, ofs_inj, ee_ii, ee_ss, ee_bb, ee_nn, ee_is, ee_si, ee_in, ee_ni, ee_tt, ee_ll, ee_maps, ee_0, ee_1, ee_2, ee_3, at_lit, at_nat, at_m1, at_m2, scD, emD, sizeLine_eq, ixN, sm_lit, mSrc, itemsD, plOf, rng1D, bNm, mSl, mPt, mNoP, slD, mPar, keepT, tmsO, setA, mFlow, zipX, enumX, itemsX, intsOf, ints_all, boolsOf, shaped_lay, lay_int, lay_bool, lay_none, lay_dict, lay_tup, lay_list, lay_ints, sortX_ints, mPlF, mPlI, mRd, mPU, mPB, mFSet, mFNew, mNSet, mPApp, mPSetIx, mPPop, mMeth, mNew, isIns, cellO, mLstN, mAddN, mAppN, semX, mTold, mCallX, mMethX, xFSet, mMethP, oneC, xRet, xExpr, xSet, mRaise, mM, isL, isS, mOrV, truD, mDNew, mDIn, mDGet, mDLen, mDPut, kyD, mNNew, mN1, mTake, mFnV, mCallF, mNIn, mNGet, mNPut, mNVals, mNList, nKs, mDGetD, mDList, mNNe, *])
theorem law_lets_eq (s : Sg) (t : Int) : g_law_lets [.sh s.d, .sh (.int t)] = some (.sh (.tuple [.bool (letT s t), (letS s t).d]), [.sh s.d, .sh (.int t)]) := by
  unfold g_law_lets m_law_lets
  cases s with
  | op b => simp only [Sg.d, letT, letS]; walk_at "ev"
  | sh u n =>
    by_cases c : t < u
    · have c2 : ¬ u ≤ t := by omega
      simp only [Sg.d, letT, letS, c]
      walk_at "es"
    · have c2 : u ≤ t := by omega
      simp only [Sg.d, letT, letS, c]
      walk_at "es"
  | tr g n => simp only [Sg.d, letT, letS]; walk_at "ev"
theorem law_heard_eq {F R T M N : Int} (G : Gt F R T M N) {s : Sg} (h : isShut s = false) (hb : SgB s) (t : Int) (a : Bool) : g_law_heard [.sh (gt5 F R T M N), .sh s.d, .sh (.int t), .sh (.bool a)] = some (.sh (hrd F R T M N s t a).d, [.sh (gt5 F R T M N), .sh s.d, .sh (.int t), .sh (.bool a)]) := by
  have st : sm T := ⟨by have := G.t1; omega, by have := G.t2; omega⟩
  clear G
  unfold g_law_heard m_law_heard
  cases s with
  | op b =>
    cases a with
    | true => simp only [Sg.d, hrd]; walk_at "ev"
    | false => by_cases c : b + 1 < F <;> simp only [Sg.d, hrd, c] <;> walk_at "es"
  | sh u n => cases h
  | tr g n =>
    have sn : sm n := ⟨by have := hb.2.2.1; omega, by have := hb.2.2.2; omega⟩
    clear hb h
    cases a with
    | true => by_cases c : g + 1 < N <;> simp only [Sg.d, hrd, c] <;> walk_at "es"
    | false => by_cases c : T * n < M <;> simp only [Sg.d, hrd, c] <;> walk_at "es"
end KW
namespace KW
open PySem PySem.Spec PyProof.Rows L2 L2.M
local macro_rules | `(tactic| walk_at "ev") => `(tactic| simp [semF, shared, after, mSeq, mSkip, mIf, mRet, mRetN, mRetV, mSet, mSetIx, mExpr, mB, mU, mTm, mPl, mK, mVar, mOp, mCons, mNil, bor, bors, mTst, mAndT, mOrT, mNotT, mAndE, mOrE, mNotE, mIfE, mIsi, isiD, mChn, chnL, cmpD, binD, addD, subD, mulD, modD, fdivD, powD, eqD, neD, ltD, leD, gtD, geD, isD, isnD, L2.M.isNon, negD, ixD, Bf.f, Bg.f, lenD, L2.M.intD, maxD, minD, repD, strD, gmaxD, gminD, sumD, sortD, anyD, allD, mCall, frz, fzO, lend, wb, mTup, mLst, fzs, cD, mAsg, bTup, bTps, mApp, tupD, lstD, mRev, revD, ofs_inj, ee_ii, ee_ss, ee_bb, ee_nn, ee_is, ee_si, ee_in, ee_ni, ee_tt, ee_ll, ee_maps, ee_0, ee_1, ee_2, ee_3, at_lit, at_nat, at_m1, at_m2, scD, emD, sizeLine_eq, ixN, sm_lit, mSrc, itemsD, plOf, rng1D, bNm, mSl, mPt, mNoP, slD, mPar, keepT, tmsO, setA, mFlow, zipX, enumX, itemsX, intsOf, ints_all, boolsOf, shaped_lay, lay_int, lay_bool, lay_none, lay_dict, lay_tup, lay_list, lay_ints, sortX_ints, mPlF, mPlI, mRd, mPU, mPB, mFSet, mFNew, mNSet, mPApp, mPSetIx, mPPop, mMeth, mNew, isIns, cellO, mLstN, mAddN, mAppN, semX, mTold, mCallX, mMethX, xFSet, mMethP, oneC, xRet, xExpr, xSet, mRaise, mM, isL, isS, mOrV, truD])
local macro_rules | `(tactic| walk_at "es") => `(tactic| simp [semF, shared, after, mSeq, mSkip, mIf, mRet, mRetN, mRetV, mSet, mSetIx, mExpr, mB, mU, mTm, mPl, mK, mVar, mOp, mCons, mNil, bor, bors, mTst, mAndT, mOrT, mNotT, mAndE, mOrE, mNotE, mIfE, mIsi, isiD, mChn, chnL, cmpD, binD, addD, subD, mulD, modD, fdivD, powD, eqD, neD, ltD, leD, gtD, geD, isD, isnD, L2.M.isNon, negD, ixD, Bf.f, Bg.f, lenD, L2.M.intD, maxD, minD, repD, strD, gmaxD, gminD, sumD, sortD, anyD, allD, mCall, frz, fzO, lend, wb, mTup, mLst, fzs, cD, mAsg, bTup, bTps, mApp, tupD, lstD, mRev, revD, ofs_inj, ee_ii, ee_ss, ee_bb, ee_nn, ee_is, ee_si, ee_in, ee_ni, ee_tt, ee_ll, ee_maps, ee_0, ee_1, ee_2, ee_3, at_lit, at_nat, at_m1, at_m2, scD, emD, sizeLine_eq, ixN, sm_lit, mSrc, itemsD, plOf, rng1D, bNm, mSl, mPt, mNoP, slD, mPar, keepT, tmsO, setA, mFlow, zipX, enumX, itemsX, intsOf, ints_all, boolsOf, shaped_lay, lay_int, lay_bool, lay_none, lay_dict, lay_tup, lay_list, lay_ints, sortX_ints, mPlF, mPlI, mRd, mPU, mPB, mFSet, mFNew, mNSet, mPApp, mPSetIx, mPPop, mMeth, mNew, isIns, cellO, mLstN, mAddN, mAppN, semX, mTold, mCallX, mMethX, xFSet, mMethP, oneC, xRet, xExpr, xSet, mRaise, mM, isL, isS, mOrV, truD, *])
local macro_rules | `(tactic| walk_at "el") => `(tactic| simp [semF, shared, after, mSeq, mSkip, mIf, mRet, mRetN, mRetV, mSet, mSetIx, mExpr, mB, mU, mTm, mPl, mK, mVar, mOp, mCons, mNil, bor, bors, mTst, mAndT, mOrT, mNotT, mAndE, mOrE, mNotE, mIfE, mIsi, isiD, mChn, chnL, cmpD, binD, addD, subD, mulD, modD, fdivD, powD, eqD, neD, ltD, leD, gtD, geD, isD, isnD, L2.M.isNon, negD, ixD, Bf.f, Bg.f, lenD, L2.M.intD, maxD, minD, repD, strD, gmaxD, gminD, sumD, sortD, anyD, allD, mCall, frz, fzO, lend, wb, mTup, mLst, fzs, cD, mAsg, bTup, bTps, mApp, tupD, lstD, mRev, revD, ofs_inj, ee_ii, ee_ss, ee_bb, ee_nn, ee_is, ee_si, ee_in, ee_ni, ee_tt, ee_ll, ee_maps, ee_0, ee_1, ee_2, ee_3, at_lit, at_nat, at_m1, at_m2, scD, emD, sizeLine_eq, ixN, sm_lit, mSrc, itemsD, plOf, rng1D, bNm, mSl, mPt, mNoP, slD, mPar, keepT, tmsO, setA, mFlow, zipX, enumX, itemsX, intsOf, ints_all, boolsOf, shaped_lay, lay_int, lay_bool, lay_none, lay_dict, lay_tup, lay_list, lay_ints, sortX_ints, mPlF, mPlI, mRd, mPU, mPB, mFSet, mFNew, mNSet, mPApp, mPSetIx, mPPop, mMeth, mNew, isIns, cellO, mLstN, mAddN, mAppN, semX, mTold, mCallX, mMethX, xFSet, mMethP, oneC, xRet, xExpr, xSet, mRaise, mM, isL, isS, mOrV, truD, mLc, lcL, sameC, wipeC, restC, mYes, *])
local macro_rules | `(tactic| walk_at "ef") => `(tactic| simp [semF, shared, after, mSeq, mSkip, mIf, mRet, mRetN, mRetV, mSet, mSetIx, mExpr, mB, mU, mTm, mPl, mK, mVar, mOp, mCons, mNil, bor, bors, mTst, mAndT, mOrT, mNotT, mAndE, mOrE, mNotE, mIfE, mIsi, isiD, mChn, chnL, cmpD, binD, addD, subD, mulD, modD, fdivD, powD, eqD, neD, ltD, leD, gtD, geD, isD, isnD, L2.M.isNon, negD, ixD, Bf.f, Bg.f, lenD, L2.M.intD, maxD, minD, repD, strD, gmaxD, gminD, sumD, sortD, anyD, allD, mCall, frz, fzO, lend, wb, mTup, mLst, fzs, cD, mAsg, bTup, bTps, mApp, tupD, lstD, mRev, revD, ofs_inj, ee_ii, ee_ss, ee_bb, ee_nn, ee_is, ee_si, ee_in, ee_ni, ee_tt, ee_ll, ee_maps, ee_0, ee_1, ee_2, ee_3, at_lit, at_nat, at_m1, at_m2, scD, emD, sizeLine_eq, ixN, sm_lit, mSrc, itemsD, plOf, rng1D, bNm, mSl, mPt, mNoP, slD, mPar, keepT, tmsO, setA, mFlow, zipX, enumX, itemsX, intsOf, ints_all, boolsOf, shaped_lay, lay_int, lay_bool, lay_none, lay_dict, lay_tup, lay_list, lay_ints, sortX_ints, mPlF, mPlI, mRd, mPU, mPB, mFSet, mFNew, mNSet, mPApp, mPSetIx, mPPop, mMeth, mNew, isIns, cellO, mLstN, mAddN, mAppN, semX, mTold, mCallX, mMethX, xFSet, mMethP, oneC, xRet, xExpr, xSet, mRaise, mM, isL, isS, mOrV, truD, mFor, forL, mLc, lcL, sameC, wipeC, restC, mYes, *])
local macro_rules | `(tactic| walk_at "rg") => `(tactic| (and_intros <;> grind))
local macro_rules | `(tactic| walk_at "nx") => `(tactic| (apply wx_nx; focus (walk_at "ev"; try first | exact ⟨rfl, rfl⟩ | rfl)))
local macro_rules | `(tactic| walk_at "ns") => `(tactic| (apply wx_nx; focus (walk_at "es"; try first | exact ⟨rfl, rfl⟩ | rfl)))
local macro_rules | `(tactic| walk_at "rt") => `(tactic| (apply wx_rt; focus (walk_at "ev"; try first | exact ⟨rfl, rfl⟩ | rfl)))
local macro_rules | `(tactic| walk_at "rs") => `(tactic| (apply wx_rt; focus (walk_at "es"; try first | exact ⟨rfl, rfl⟩ | rfl)))
local macro_rules | `(tactic| walk_at "ed") => `(tactic| simp [semF, shared, after, mSeq, mSkip, mIf, mRet, mRetN, mRetV, mSet, mSetIx, mExpr, mB, mU, mTm, mPl, mK, mVar, mOp, mCons, mNil, bor, bors, mTst, mAndT, mOrT, mNotT, mAndE, mOrE, mNotE, mIfE, mIsi, isiD, mChn, chnL, cmpD, binD, addD, subD, mulD, modD, fdivD, powD, eqD, neD, ltD, leD, gtD, geD, isD, isnD, L2.M.isNon, negD, ixD, Bf.f, Bg.f, lenD, L2.M.intD, maxD, minD, repD, strD, gmaxD, gminD, sumD, sortD, anyD, allD, mCall, frz, fzO, lend, wb, mTup, mLst, fzs, cD, mAsg, bTup, bTps, mApp, tupD, lstD, mRev, revD, ofs_inj, ee_ii, ee_ss, ee_bb, ee_nn, ee_is, ee_si, ee_in, ee_ni, ee_tt, ee_ll, ee_maps, ee_0, ee_1, ee_2, ee_3, at_lit, at_nat, at_m1, at_m2, scD, emD, sizeLine_eq, ixN, sm_lit, mSrc, itemsD, plOf, rng1D, bNm, mSl, mPt, mNoP, slD, mPar, keepT, tmsO, setA, mFlow, zipX, enumX, itemsX, intsOf, ints_all, boolsOf, shaped_lay, lay_int, lay_bool, lay_none, lay_dict, lay_tup, lay_list, lay_ints, sortX_ints, mPlF, mPlI, mRd, mPU, mPB, mFSet, mFNew, mNSet, mPApp, mPSetIx, mPPop, mMeth, mNew, isIns, cellO, mLstN, mAddN, mAppN, semX, mTold, mCallX, mMethX, xFSet, mMethP, oneC, xRet, xExpr, xSet, mRaise, mM, isL, isS, mOrV, truD, mDNew, mDIn, mDGet, mDLen, mDPut, kyD, mNNew, mN1, mTake, mFnV, mCallF, mNIn, mNGet, mNPut, mNVals, mNList, nKs, mDGetD, mDList, mNNe, *])
@[simp] theorem next_eq (s : Int) : g_law_next [.sh (.int s)] = some (.sh (.int (nxt s)), [.sh (.int s)]) := by
  have h1 : sm ((s + 7919) % 2147483647) := ⟨by omega, by omega⟩
  unfold g_law_next m_law_next nxt
  walk_at "es"
theorem cell_eq (ns : List Int) (k : Nat) : g_law_cell_at [.sh (.list (ns.map PyData.int)), .sh (.int k)] = some (.sh (.int (ns.getD k 0)), [.sh (.list (ns.map PyData.int)), .sh (.int k)]) := by
  unfold g_law_cell_at m_law_cell_at
  by_cases h : k < ns.length
  · walk_at "es"
  · walk_at "es"
@[simp] theorem cell0_eq (ns : List Int) : g_law_cell_at [.sh (.list (ns.map PyData.int)), .sh (.int 0)] = some (.sh (.int (ns.getD 0 0)), [.sh (.list (ns.map PyData.int)), .sh (.int 0)]) := cell_eq ns 0
@[simp] theorem pen_eq (x : Int) : g_law_pen_of [.sh (.int x)] = some (.ls (penL (pnOf x)), [.sh (.int x)]) := by
  unfold g_law_pen_of m_law_pen_of pnOf penL
  walk_at "es"
@[simp] theorem draw_eq (p : Pn) (n : Int) (h0 : 0 < n) (h1 : sm n) : g_law_draw [.ls (penL p), .sh (.int n)] = some (.sh (.int (dr p n)), [.ls (penL (dn p n)), .sh (.int n)]) := by
  unfold g_law_draw m_law_draw dr dn penL
  by_cases hb : p.b = 1
  · by_cases hl : 0 < p.l
    · walk_at "es"
    · walk_at "es"
  · walk_at "es"
/-- the cells that a law goes through: the script's first ones -/
theorem cells_int (ns : List Int) (k : Int) (d : PyData) (h : d ∈ (PyData.int (ns.getD 0 0)) :: (L2.M.cutL ns (some 1) (some k)).map PyData.int) : ∃ x, d = .int x := by
  simp only [List.mem_cons, List.mem_map] at h
  rcases h with h | ⟨y, _, h⟩
  · exact ⟨_, h⟩
  · exact ⟨_, h.symm⟩
end KW
namespace KW
open PySem PySem.Spec PyProof.Rows L2 L2.M
local macro_rules | `(tactic| walk_at "ev") => `(tactic| simp [semF, shared, after, mSeq, mSkip, mIf, mRet, mRetN, mRetV, mSet, mSetIx, mExpr, mB, mU, mTm, mPl, mK, mVar, mOp, mCons, mNil, bor, bors, mTst, mAndT, mOrT, mNotT, mAndE, mOrE, mNotE, mIfE, mIsi, isiD, mChn, chnL, cmpD, binD, addD, subD, mulD, modD, fdivD, powD, eqD, neD, ltD, leD, gtD, geD, isD, isnD, L2.M.isNon, negD, ixD, Bf.f, Bg.f, lenD, L2.M.intD, maxD, minD, repD, strD, gmaxD, gminD, sumD, sortD, anyD, allD, mCall, frz, fzO, lend, wb, mTup, mLst, fzs, cD, mAsg, bTup, bTps, mApp, tupD, lstD, mRev, revD, ofs_inj, ee_ii, ee_ss, ee_bb, ee_nn, ee_is, ee_si, ee_in, ee_ni, ee_tt, ee_ll, ee_maps, ee_0, ee_1, ee_2, ee_3, at_lit, at_nat, at_m1, at_m2, scD, emD, sizeLine_eq, ixN, sm_lit, mSrc, itemsD, plOf, rng1D, bNm, mSl, mPt, mNoP, slD, mPar, keepT, tmsO, setA, mFlow, zipX, enumX, itemsX, intsOf, ints_all, boolsOf, shaped_lay, lay_int, lay_bool, lay_none, lay_dict, lay_tup, lay_list, lay_ints, sortX_ints, mPlF, mPlI, mRd, mPU, mPB, mFSet, mFNew, mNSet, mPApp, mPSetIx, mPPop, mMeth, mNew, isIns, cellO, mLstN, mAddN, mAppN, semX, mTold, mCallX, mMethX, xFSet, mMethP, oneC, xRet, xExpr, xSet, mRaise, mM, isL, isS, mOrV, truD])
local macro_rules | `(tactic| walk_at "es") => `(tactic| simp [semF, shared, after, mSeq, mSkip, mIf, mRet, mRetN, mRetV, mSet, mSetIx, mExpr, mB, mU, mTm, mPl, mK, mVar, mOp, mCons, mNil, bor, bors, mTst, mAndT, mOrT, mNotT, mAndE, mOrE, mNotE, mIfE, mIsi, isiD, mChn, chnL, cmpD, binD, addD, subD, mulD, modD, fdivD, powD, eqD, neD, ltD, leD, gtD, geD, isD, isnD, L2.M.isNon, negD, ixD, Bf.f, Bg.f, lenD, L2.M.intD, maxD, minD, repD, strD, gmaxD, gminD, sumD, sortD, anyD, allD, mCall, frz, fzO, lend, wb, mTup, mLst, fzs, cD, mAsg, bTup, bTps, mApp, tupD, lstD, mRev, revD, ofs_inj, ee_ii, ee_ss, ee_bb, ee_nn, ee_is, ee_si, ee_in, ee_ni, ee_tt, ee_ll, ee_maps, ee_0, ee_1, ee_2, ee_3, at_lit, at_nat, at_m1, at_m2, scD, emD, sizeLine_eq, ixN, sm_lit, mSrc, itemsD, plOf, rng1D, bNm, mSl, mPt, mNoP, slD, mPar, keepT, tmsO, setA, mFlow, zipX, enumX, itemsX, intsOf, ints_all, boolsOf, shaped_lay, lay_int, lay_bool, lay_none, lay_dict, lay_tup, lay_list, lay_ints, sortX_ints, mPlF, mPlI, mRd, mPU, mPB, mFSet, mFNew, mNSet, mPApp, mPSetIx, mPPop, mMeth, mNew, isIns, cellO, mLstN, mAddN, mAppN, semX, mTold, mCallX, mMethX, xFSet, mMethP, oneC, xRet, xExpr, xSet, mRaise, mM, isL, isS, mOrV, truD, *])
local macro_rules | `(tactic| walk_at "el") => `(tactic| simp [semF, shared, after, mSeq, mSkip, mIf, mRet, mRetN, mRetV, mSet, mSetIx, mExpr, mB, mU, mTm, mPl, mK, mVar, mOp, mCons, mNil, bor, bors, mTst, mAndT, mOrT, mNotT, mAndE, mOrE, mNotE, mIfE, mIsi, isiD, mChn, chnL, cmpD, binD, addD, subD, mulD, modD, fdivD, powD, eqD, neD, ltD, leD, gtD, geD, isD, isnD, L2.M.isNon, negD, ixD, Bf.f, Bg.f, lenD, L2.M.intD, maxD, minD, repD, strD, gmaxD, gminD, sumD, sortD, anyD, allD, mCall, frz, fzO, lend, wb, mTup, mLst, fzs, cD, mAsg, bTup, bTps, mApp, tupD, lstD, mRev, revD, ofs_inj, ee_ii, ee_ss, ee_bb, ee_nn, ee_is, ee_si, ee_in, ee_ni, ee_tt, ee_ll, ee_maps, ee_0, ee_1, ee_2, ee_3, at_lit, at_nat, at_m1, at_m2, scD, emD, sizeLine_eq, ixN, sm_lit, mSrc, itemsD, plOf, rng1D, bNm, mSl, mPt, mNoP, slD, mPar, keepT, tmsO, setA, mFlow, zipX, enumX, itemsX, intsOf, ints_all, boolsOf, shaped_lay, lay_int, lay_bool, lay_none, lay_dict, lay_tup, lay_list, lay_ints, sortX_ints, mPlF, mPlI, mRd, mPU, mPB, mFSet, mFNew, mNSet, mPApp, mPSetIx, mPPop, mMeth, mNew, isIns, cellO, mLstN, mAddN, mAppN, semX, mTold, mCallX, mMethX, xFSet, mMethP, oneC, xRet, xExpr, xSet, mRaise, mM, isL, isS, mOrV, truD, mLc, lcL, sameC, wipeC, restC, mYes, *])
local macro_rules | `(tactic| walk_at "ef") => `(tactic| simp [semF, shared, after, mSeq, mSkip, mIf, mRet, mRetN, mRetV, mSet, mSetIx, mExpr, mB, mU, mTm, mPl, mK, mVar, mOp, mCons, mNil, bor, bors, mTst, mAndT, mOrT, mNotT, mAndE, mOrE, mNotE, mIfE, mIsi, isiD, mChn, chnL, cmpD, binD, addD, subD, mulD, modD, fdivD, powD, eqD, neD, ltD, leD, gtD, geD, isD, isnD, L2.M.isNon, negD, ixD, Bf.f, Bg.f, lenD, L2.M.intD, maxD, minD, repD, strD, gmaxD, gminD, sumD, sortD, anyD, allD, mCall, frz, fzO, lend, wb, mTup, mLst, fzs, cD, mAsg, bTup, bTps, mApp, tupD, lstD, mRev, revD, ofs_inj, ee_ii, ee_ss, ee_bb, ee_nn, ee_is, ee_si, ee_in, ee_ni, ee_tt, ee_ll, ee_maps, ee_0, ee_1, ee_2, ee_3, at_lit, at_nat, at_m1, at_m2, scD, emD, sizeLine_eq, ixN, sm_lit, mSrc, itemsD, plOf, rng1D, bNm, mSl, mPt, mNoP, slD, mPar, keepT, tmsO, setA, mFlow, zipX, enumX, itemsX, intsOf, ints_all, boolsOf, shaped_lay, lay_int, lay_bool, lay_none, lay_dict, lay_tup, lay_list, lay_ints, sortX_ints, mPlF, mPlI, mRd, mPU, mPB, mFSet, mFNew, mNSet, mPApp, mPSetIx, mPPop, mMeth, mNew, isIns, cellO, mLstN, mAddN, mAppN, semX, mTold, mCallX, mMethX, xFSet, mMethP, oneC, xRet, xExpr, xSet, mRaise, mM, isL, isS, mOrV, truD, mFor, forL, mLc, lcL, sameC, wipeC, restC, mYes, *])
local macro_rules | `(tactic| walk_at "rg") => `(tactic| (and_intros <;> grind))
local macro_rules | `(tactic| walk_at "nx") => `(tactic| (apply wx_nx; focus (walk_at "ev"; try first | exact ⟨rfl, rfl⟩ | rfl)))
local macro_rules | `(tactic| walk_at "ns") => `(tactic| (apply wx_nx; focus (walk_at "es"; try first | exact ⟨rfl, rfl⟩ | rfl)))
local macro_rules | `(tactic| walk_at "rt") => `(tactic| (apply wx_rt; focus (walk_at "ev"; try first | exact ⟨rfl, rfl⟩ | rfl)))
local macro_rules | `(tactic| walk_at "rs") => `(tactic| (apply wx_rt; focus (walk_at "es"; try first | exact ⟨rfl, rfl⟩ | rfl)))
local macro_rules | `(tactic| walk_at "ed") => `(tactic| simp [semF, shared, after, mSeq, mSkip, mIf, mRet, mRetN, mRetV, mSet, mSetIx, mExpr, mB, mU, mTm, mPl, mK, mVar, mOp, mCons, mNil, bor, bors, mTst, mAndT, mOrT, mNotT, mAndE, mOrE, mNotE, mIfE, mIsi, isiD, mChn, chnL, cmpD, binD, addD, subD, mulD, modD, fdivD, powD, eqD, neD, ltD, leD, gtD, geD, isD, isnD, L2.M.isNon, negD, ixD, Bf.f, Bg.f, lenD, L2.M.intD, maxD, minD, repD, strD, gmaxD, gminD, sumD, sortD, anyD, allD, mCall, frz, fzO, lend, wb, mTup, mLst, fzs, cD, mAsg, bTup, bTps, mApp, tupD, lstD, mRev, revD, ofs_inj, ee_ii, ee_ss, ee_bb, ee_nn, ee_is, ee_si, ee_in, ee_ni, ee_tt, ee_ll, ee_maps, ee_0, ee_1, ee_2, ee_3, at_lit, at_nat, at_m1, at_m2, scD, emD, sizeLine_eq, ixN, sm_lit, mSrc, itemsD, plOf, rng1D, bNm, mSl, mPt, mNoP, slD, mPar, keepT, tmsO, setA, mFlow, zipX, enumX, itemsX, intsOf, ints_all, boolsOf, shaped_lay, lay_int, lay_bool, lay_none, lay_dict, lay_tup, lay_list, lay_ints, sortX_ints, mPlF, mPlI, mRd, mPU, mPB, mFSet, mFNew, mNSet, mPApp, mPSetIx, mPPop, mMeth, mNew, isIns, cellO, mLstN, mAddN, mAppN, semX, mTold, mCallX, mMethX, xFSet, mMethP, oneC, xRet, xExpr, xSet, mRaise, mM, isL, isS, mOrV, truD, mDNew, mDIn, mDGet, mDLen, mDPut, kyD, mNNew, mN1, mTake, mFnV, mCallF, mNIn, mNGet, mNPut, mNVals, mNList, nKs, mDGetD, mDList, mNNe, *])
theorem law_gate_eq (p : Pn) : Rt (g_law_gate [.ls (penL p)]) fun c cs => ∃ F R T M N q, Gt F R T M N ∧ c = .sh (gt5 F R T M N) ∧ cs = [.ls (penL q)] := by
  have h4 := @pkd4
  have h3 := @pkd3
  unfold g_law_gate m_law_gate
  apply rt_sem rfl
  walk_at "ns"
  walk_at "ns"
  walk_at "ns"
  generalize hr : gt _ (dr (dn p 4) 4) = r
  have r1 : 1 ≤ r ∧ r ≤ 1000 := by
    rw [← hr]
    clear hr h3 h4
    apply gd4 (P := fun v => 1 ≤ v ∧ v ≤ 1000)
    walk_at "rg"
  clear hr
  have r2 : 0 < 1001 - r := by omega
  have r3 : sm (1001 - r) := ⟨by omega, by omega⟩
  have r4 : r < 1001 := by omega
  replace r1 := Hid.mk r1
  walk_at "ns"
  walk_at "ns"
  walk_at "rs"
  have r1 := r1.get
  clear h3 h4
  refine ⟨_, _, _, _, _, _, ⟨⟨r1.1, r1.2, ?_, ?_, by decide, by decide, ?_, ?_⟩, ?_, ?_, ?_, ?_, ?_⟩, rfl, rfl⟩
  · apply gd3 (P := fun v => 1 ≤ v)
    walk_at "rg"
  · apply gd3 (P := fun v => v ≤ 10)
    walk_at "rg"
  · apply gd3 (P := fun v => 1 ≤ v)
    walk_at "rg"
  · apply gd3 (P := fun v => v ≤ 1000)
    walk_at "rg"
  · apply gd4 (P := fun v => 1 ≤ v)
    walk_at "rg"
  · apply gd4 (P := fun v => v ≤ 20)
    walk_at "rg"
  · apply gd3 (P := fun v => 1 ≤ v)
    walk_at "rg"
  · apply gd3 (P := fun v => v ≤ 10)
    walk_at "rg"
  · apply gd3 (P := fun v => r ≤ v)
    walk_at "rg"
theorem law_small_gate_eq (p : Pn) : Rt (g_law_small_gate [.ls (penL p)]) fun c cs => ∃ F R T M N q, Gt F R T M N ∧ c = .sh (gt5 F R T M N) ∧ cs = [.ls (penL q)] := by
  unfold g_law_small_gate m_law_small_gate
  apply rt_sem rfl
  walk_at "nx"
  walk_at "rt"
  refine ⟨_, _, _, _, _, _, ⟨⟨?_, ?_, ?_, ?_, by decide, by decide, ?_, ?_⟩, ?_, ?_, ?_, ?_, ?_⟩, rfl, rfl⟩ <;> grind
end KW
namespace KW
open PySem PySem.Spec PyProof.Rows L2 L2.M
local macro_rules | `(tactic| walk_at "ev") => `(tactic| simp [semF, shared, after, mSeq, mSkip, mIf, mRet, mRetN, mRetV, mSet, mSetIx, mExpr, mB, mU, mTm, mPl, mK, mVar, mOp, mCons, mNil, bor, bors, mTst, mAndT, mOrT, mNotT, mAndE, mOrE, mNotE, mIfE, mIsi, isiD, mChn, chnL, cmpD, binD, addD, subD, mulD, modD, fdivD, powD, eqD, neD, ltD, leD, gtD, geD, isD, isnD, L2.M.isNon, negD, ixD, Bf.f, Bg.f, lenD, L2.M.intD, maxD, minD, repD, strD, gmaxD, gminD, sumD, sortD, anyD, allD, mCall, frz, fzO, lend, wb, mTup, mLst, fzs, cD, mAsg, bTup, bTps, mApp, tupD, lstD, mRev, revD, ofs_inj, ee_ii, ee_ss, ee_bb, ee_nn, ee_is, ee_si, ee_in, ee_ni, ee_tt, ee_ll, ee_maps, ee_0, ee_1, ee_2, ee_3, at_lit, at_nat, at_m1, at_m2, scD, emD, sizeLine_eq, ixN, sm_lit, mSrc, itemsD, plOf, rng1D, bNm, mSl, mPt, mNoP, slD, mPar, keepT, tmsO, setA, mFlow, zipX, enumX, itemsX, intsOf, ints_all, boolsOf, shaped_lay, lay_int, lay_bool, lay_none, lay_dict, lay_tup, lay_list, lay_ints, sortX_ints, mPlF, mPlI, mRd, mPU, mPB, mFSet, mFNew, mNSet, mPApp, mPSetIx, mPPop, mMeth, mNew, isIns, cellO, mLstN, mAddN, mAppN, semX, mTold, mCallX, mMethX, xFSet, mMethP, oneC, xRet, xExpr, xSet, mRaise, mM, isL, isS, mOrV, truD])
local macro_rules | `(tactic| walk_at "es") => `(tactic| simp [semF, shared, after, mSeq, mSkip, mIf, mRet, mRetN, mRetV, mSet, mSetIx, mExpr, mB, mU, mTm, mPl, mK, mVar, mOp, mCons, mNil, bor, bors, mTst, mAndT, mOrT, mNotT, mAndE, mOrE, mNotE, mIfE, mIsi, isiD, mChn, chnL, cmpD, binD, addD, subD, mulD, modD, fdivD, powD, eqD, neD, ltD, leD, gtD, geD, isD, isnD, L2.M.isNon, negD, ixD, Bf.f, Bg.f, lenD, L2.M.intD, maxD, minD, repD, strD, gmaxD, gminD, sumD, sortD, anyD, allD, mCall, frz, fzO, lend, wb, mTup, mLst, fzs, cD, mAsg, bTup, bTps, mApp, tupD, lstD, mRev, revD, ofs_inj, ee_ii, ee_ss, ee_bb, ee_nn, ee_is, ee_si, ee_in, ee_ni, ee_tt, ee_ll, ee_maps, ee_0, ee_1, ee_2, ee_3, at_lit, at_nat, at_m1, at_m2, scD, emD, sizeLine_eq, ixN, sm_lit, mSrc, itemsD, plOf, rng1D, bNm, mSl, mPt, mNoP, slD, mPar, keepT, tmsO, setA, mFlow, zipX, enumX, itemsX, intsOf, ints_all, boolsOf, shaped_lay, lay_int, lay_bool, lay_none, lay_dict, lay_tup, lay_list, lay_ints, sortX_ints, mPlF, mPlI, mRd, mPU, mPB, mFSet, mFNew, mNSet, mPApp, mPSetIx, mPPop, mMeth, mNew, isIns, cellO, mLstN, mAddN, mAppN, semX, mTold, mCallX, mMethX, xFSet, mMethP, oneC, xRet, xExpr, xSet, mRaise, mM, isL, isS, mOrV, truD, *])
local macro_rules | `(tactic| walk_at "el") => `(tactic| simp [semF, shared, after, mSeq, mSkip, mIf, mRet, mRetN, mRetV, mSet, mSetIx, mExpr, mB, mU, mTm, mPl, mK, mVar, mOp, mCons, mNil, bor, bors, mTst, mAndT, mOrT, mNotT, mAndE, mOrE, mNotE, mIfE, mIsi, isiD, mChn, chnL, cmpD, binD, addD, subD, mulD, modD, fdivD, powD, eqD, neD, ltD, leD, gtD, geD, isD, isnD, L2.M.isNon, negD, ixD, Bf.f, Bg.f, lenD, L2.M.intD, maxD, minD, repD, strD, gmaxD, gminD, sumD, sortD, anyD, allD, mCall, frz, fzO, lend, wb, mTup, mLst, fzs, cD, mAsg, bTup, bTps, mApp, tupD, lstD, mRev, revD, ofs_inj, ee_ii, ee_ss, ee_bb, ee_nn, ee_is, ee_si, ee_in, ee_ni, ee_tt, ee_ll, ee_maps, ee_0, ee_1, ee_2, ee_3, at_lit, at_nat, at_m1, at_m2, scD, emD, sizeLine_eq, ixN, sm_lit, mSrc, itemsD, plOf, rng1D, bNm, mSl, mPt, mNoP, slD, mPar, keepT, tmsO, setA, mFlow, zipX, enumX, itemsX, intsOf, ints_all, boolsOf, shaped_lay, lay_int, lay_bool, lay_none, lay_dict, lay_tup, lay_list, lay_ints, sortX_ints, mPlF, mPlI, mRd, mPU, mPB, mFSet, mFNew, mNSet, mPApp, mPSetIx, mPPop, mMeth, mNew, isIns, cellO, mLstN, mAddN, mAppN, semX, mTold, mCallX, mMethX, xFSet, mMethP, oneC, xRet, xExpr, xSet, mRaise, mM, isL, isS, mOrV, truD, mLc, lcL, sameC, wipeC, restC, mYes, *])
local macro_rules | `(tactic| walk_at "ef") => `(tactic| simp [semF, shared, after, mSeq, mSkip, mIf, mRet, mRetN, mRetV, mSet, mSetIx, mExpr, mB, mU, mTm, mPl, mK, mVar, mOp, mCons, mNil, bor, bors, mTst, mAndT, mOrT, mNotT, mAndE, mOrE, mNotE, mIfE, mIsi, isiD, mChn, chnL, cmpD, binD, addD, subD, mulD, modD, fdivD, powD, eqD, neD, ltD, leD, gtD, geD, isD, isnD, L2.M.isNon, negD, ixD, Bf.f, Bg.f, lenD, L2.M.intD, maxD, minD, repD, strD, gmaxD, gminD, sumD, sortD, anyD, allD, mCall, frz, fzO, lend, wb, mTup, mLst, fzs, cD, mAsg, bTup, bTps, mApp, tupD, lstD, mRev, revD, ofs_inj, ee_ii, ee_ss, ee_bb, ee_nn, ee_is, ee_si, ee_in, ee_ni, ee_tt, ee_ll, ee_maps, ee_0, ee_1, ee_2, ee_3, at_lit, at_nat, at_m1, at_m2, scD, emD, sizeLine_eq, ixN, sm_lit, mSrc, itemsD, plOf, rng1D, bNm, mSl, mPt, mNoP, slD, mPar, keepT, tmsO, setA, mFlow, zipX, enumX, itemsX, intsOf, ints_all, boolsOf, shaped_lay, lay_int, lay_bool, lay_none, lay_dict, lay_tup, lay_list, lay_ints, sortX_ints, mPlF, mPlI, mRd, mPU, mPB, mFSet, mFNew, mNSet, mPApp, mPSetIx, mPPop, mMeth, mNew, isIns, cellO, mLstN, mAddN, mAppN, semX, mTold, mCallX, mMethX, xFSet, mMethP, oneC, xRet, xExpr, xSet, mRaise, mM, isL, isS, mOrV, truD, mFor, forL, mLc, lcL, sameC, wipeC, restC, mYes, *])
local macro_rules | `(tactic| walk_at "rg") => `(tactic| (and_intros <;> grind))
local macro_rules | `(tactic| walk_at "nx") => `(tactic| (apply wx_nx; focus (walk_at "ev"; try first | exact ⟨rfl, rfl⟩ | rfl)))
local macro_rules | `(tactic| walk_at "ns") => `(tactic| (apply wx_nx; focus (walk_at "es"; try first | exact ⟨rfl, rfl⟩ | rfl)))
local macro_rules | `(tactic| walk_at "rt") => `(tactic| (apply wx_rt; focus (walk_at "ev"; try first | exact ⟨rfl, rfl⟩ | rfl)))
local macro_rules | `(tactic| walk_at "rs") => `(tactic| (apply wx_rt; focus (walk_at "es"; try first | exact ⟨rfl, rfl⟩ | rfl)))
local macro_rules | `(tactic| walk_at "ed") => `(tactic| simp [semF, shared, after, mSeq, mSkip, mIf, mRet, mRetN, mRetV, mSet, mSetIx, mExpr, mB, mU, mTm, mPl, mK, mVar, mOp, mCons, mNil, bor, bors, mTst, mAndT, mOrT, mNotT, mAndE, mOrE, mNotE, mIfE, mIsi, isiD, mChn, chnL, cmpD, binD, addD, subD, mulD, modD, fdivD, powD, eqD, neD, ltD, leD, gtD, geD, isD, isnD, L2.M.isNon, negD, ixD, Bf.f, Bg.f, lenD, L2.M.intD, maxD, minD, repD, strD, gmaxD, gminD, sumD, sortD, anyD, allD, mCall, frz, fzO, lend, wb, mTup, mLst, fzs, cD, mAsg, bTup, bTps, mApp, tupD, lstD, mRev, revD, ofs_inj, ee_ii, ee_ss, ee_bb, ee_nn, ee_is, ee_si, ee_in, ee_ni, ee_tt, ee_ll, ee_maps, ee_0, ee_1, ee_2, ee_3, at_lit, at_nat, at_m1, at_m2, scD, emD, sizeLine_eq, ixN, sm_lit, mSrc, itemsD, plOf, rng1D, bNm, mSl, mPt, mNoP, slD, mPar, keepT, tmsO, setA, mFlow, zipX, enumX, itemsX, intsOf, ints_all, boolsOf, shaped_lay, lay_int, lay_bool, lay_none, lay_dict, lay_tup, lay_list, lay_ints, sortX_ints, mPlF, mPlI, mRd, mPU, mPB, mFSet, mFNew, mNSet, mPApp, mPSetIx, mPPop, mMeth, mNew, isIns, cellO, mLstN, mAddN, mAppN, semX, mTold, mCallX, mMethX, xFSet, mMethP, oneC, xRet, xExpr, xSet, mRaise, mM, isL, isS, mOrV, truD, mDNew, mDIn, mDGet, mDLen, mDPut, kyD, mNNew, mN1, mTake, mFnV, mCallF, mNIn, mNGet, mNPut, mNVals, mNList, nKs, mDGetD, mDList, mNNe, *])
theorem is_whole_eq (d : PyData) : g_is_whole [.sh d] = some (.sh (.bool (whole d)), [.sh d]) := by
  unfold g_is_whole m_is_whole
  cases d <;> (walk_at "ev"; try rfl)
end KW
namespace KW
open PySem PySem.Spec PyProof.Rows L2 L2.M
local macro_rules | `(tactic| walk_at "ev") => `(tactic| simp [semF, shared, after, mSeq, mSkip, mIf, mRet, mRetN, mRetV, mSet, mSetIx, mExpr, mB, mU, mTm, mPl, mK, mVar, mOp, mCons, mNil, bor, bors, mTst, mAndT, mOrT, mNotT, mAndE, mOrE, mNotE, mIfE, mIsi, isiD, mChn, chnL, cmpD, binD, addD, subD, mulD, modD, fdivD, powD, eqD, neD, ltD, leD, gtD, geD, isD, isnD, L2.M.isNon, negD, ixD, Bf.f, Bg.f, lenD, L2.M.intD, maxD, minD, repD, strD, gmaxD, gminD, sumD, sortD, anyD, allD, mCall, frz, fzO, lend, wb, mTup, mLst, fzs, cD, mAsg, bTup, bTps, mApp, tupD, lstD, mRev, revD, ofs_inj, ee_ii, ee_ss, ee_bb, ee_nn, ee_is, ee_si, ee_in, ee_ni, ee_tt, ee_ll, ee_maps, ee_0, ee_1, ee_2, ee_3, at_lit, at_nat, at_m1, at_m2, scD, emD, sizeLine_eq, ixN, sm_lit, mSrc, itemsD, plOf, rng1D, bNm, mSl, mPt, mNoP, slD, mPar, keepT, tmsO, setA, mFlow, zipX, enumX, itemsX, intsOf, ints_all, boolsOf, shaped_lay, lay_int, lay_bool, lay_none, lay_dict, lay_tup, lay_list, lay_ints, sortX_ints, mPlF, mPlI, mRd, mPU, mPB, mFSet, mFNew, mNSet, mPApp, mPSetIx, mPPop, mMeth, mNew, isIns, cellO, mLstN, mAddN, mAppN, semX, mTold, mCallX, mMethX, xFSet, mMethP, oneC, xRet, xExpr, xSet, mRaise, mM, isL, isS, mOrV, truD])
local macro_rules | `(tactic| walk_at "es") => `(tactic| simp [semF, shared, after, mSeq, mSkip, mIf, mRet, mRetN, mRetV, mSet, mSetIx, mExpr, mB, mU, mTm, mPl, mK, mVar, mOp, mCons, mNil, bor, bors, mTst, mAndT, mOrT, mNotT, mAndE, mOrE, mNotE, mIfE, mIsi, isiD, mChn, chnL, cmpD, binD, addD, subD, mulD, modD, fdivD, powD, eqD, neD, ltD, leD, gtD, geD, isD, isnD, L2.M.isNon, negD, ixD, Bf.f, Bg.f, lenD, L2.M.intD, maxD, minD, repD, strD, gmaxD, gminD, sumD, sortD, anyD, allD, mCall, frz, fzO, lend, wb, mTup, mLst, fzs, cD, mAsg, bTup, bTps, mApp, tupD, lstD, mRev, revD, ofs_inj, ee_ii, ee_ss, ee_bb, ee_nn, ee_is, ee_si, ee_in, ee_ni, ee_tt, ee_ll, ee_maps, ee_0, ee_1, ee_2, ee_3, at_lit, at_nat, at_m1, at_m2, scD, emD, sizeLine_eq, ixN, sm_lit, mSrc, itemsD, plOf, rng1D, bNm, mSl, mPt, mNoP, slD, mPar, keepT, tmsO, setA, mFlow, zipX, enumX, itemsX, intsOf, ints_all, boolsOf, shaped_lay, lay_int, lay_bool, lay_none, lay_dict, lay_tup, lay_list, lay_ints, sortX_ints, mPlF, mPlI, mRd, mPU, mPB, mFSet, mFNew, mNSet, mPApp, mPSetIx, mPPop, mMeth, mNew, isIns, cellO, mLstN, mAddN, mAppN, semX, mTold, mCallX, mMethX, xFSet, mMethP, oneC, xRet, xExpr, xSet, mRaise, mM, isL, isS, mOrV, truD, *])
local macro_rules | `(tactic| walk_at "el") => `(tactic| simp [semF, shared, after, mSeq, mSkip, mIf, mRet, mRetN, mRetV, mSet, mSetIx, mExpr, mB, mU, mTm, mPl, mK, mVar, mOp, mCons, mNil, bor, bors, mTst, mAndT, mOrT, mNotT, mAndE, mOrE, mNotE, mIfE, mIsi, isiD, mChn, chnL, cmpD, binD, addD, subD, mulD, modD, fdivD, powD, eqD, neD, ltD, leD, gtD, geD, isD, isnD, L2.M.isNon, negD, ixD, Bf.f, Bg.f, lenD, L2.M.intD, maxD, minD, repD, strD, gmaxD, gminD, sumD, sortD, anyD, allD, mCall, frz, fzO, lend, wb, mTup, mLst, fzs, cD, mAsg, bTup, bTps, mApp, tupD, lstD, mRev, revD, ofs_inj, ee_ii, ee_ss, ee_bb, ee_nn, ee_is, ee_si, ee_in, ee_ni, ee_tt, ee_ll, ee_maps, ee_0, ee_1, ee_2, ee_3, at_lit, at_nat, at_m1, at_m2, scD, emD, sizeLine_eq, ixN, sm_lit, mSrc, itemsD, plOf, rng1D, bNm, mSl, mPt, mNoP, slD, mPar, keepT, tmsO, setA, mFlow, zipX, enumX, itemsX, intsOf, ints_all, boolsOf, shaped_lay, lay_int, lay_bool, lay_none, lay_dict, lay_tup, lay_list, lay_ints, sortX_ints, mPlF, mPlI, mRd, mPU, mPB, mFSet, mFNew, mNSet, mPApp, mPSetIx, mPPop, mMeth, mNew, isIns, cellO, mLstN, mAddN, mAppN, semX, mTold, mCallX, mMethX, xFSet, mMethP, oneC, xRet, xExpr, xSet, mRaise, mM, isL, isS, mOrV, truD, mLc, lcL, sameC, wipeC, restC, mYes, *])
local macro_rules | `(tactic| walk_at "ef") => `(tactic| simp [semF, shared, after, mSeq, mSkip, mIf, mRet, mRetN, mRetV, mSet, mSetIx, mExpr, mB, mU, mTm, mPl, mK, mVar, mOp, mCons, mNil, bor, bors, mTst, mAndT, mOrT, mNotT, mAndE, mOrE, mNotE, mIfE, mIsi, isiD, mChn, chnL, cmpD, binD, addD, subD, mulD, modD, fdivD, powD, eqD, neD, ltD, leD, gtD, geD, isD, isnD, L2.M.isNon, negD, ixD, Bf.f, Bg.f, lenD, L2.M.intD, maxD, minD, repD, strD, gmaxD, gminD, sumD, sortD, anyD, allD, mCall, frz, fzO, lend, wb, mTup, mLst, fzs, cD, mAsg, bTup, bTps, mApp, tupD, lstD, mRev, revD, ofs_inj, ee_ii, ee_ss, ee_bb, ee_nn, ee_is, ee_si, ee_in, ee_ni, ee_tt, ee_ll, ee_maps, ee_0, ee_1, ee_2, ee_3, at_lit, at_nat, at_m1, at_m2, scD, emD, sizeLine_eq, ixN, sm_lit, mSrc, itemsD, plOf, rng1D, bNm, mSl, mPt, mNoP, slD, mPar, keepT, tmsO, setA, mFlow, zipX, enumX, itemsX, intsOf, ints_all, boolsOf, shaped_lay, lay_int, lay_bool, lay_none, lay_dict, lay_tup, lay_list, lay_ints, sortX_ints, mPlF, mPlI, mRd, mPU, mPB, mFSet, mFNew, mNSet, mPApp, mPSetIx, mPPop, mMeth, mNew, isIns, cellO, mLstN, mAddN, mAppN, semX, mTold, mCallX, mMethX, xFSet, mMethP, oneC, xRet, xExpr, xSet, mRaise, mM, isL, isS, mOrV, truD, mFor, forL, mLc, lcL, sameC, wipeC, restC, mYes, *])
local macro_rules | `(tactic| walk_at "rg") => `(tactic| (and_intros <;> grind))
local macro_rules | `(tactic| walk_at "nx") => `(tactic| (apply wx_nx; focus (walk_at "ev"; try first | exact ⟨rfl, rfl⟩ | rfl)))
local macro_rules | `(tactic| walk_at "ns") => `(tactic| (apply wx_nx; focus (walk_at "es"; try first | exact ⟨rfl, rfl⟩ | rfl)))
local macro_rules | `(tactic| walk_at "rt") => `(tactic| (apply wx_rt; focus (walk_at "ev"; try first | exact ⟨rfl, rfl⟩ | rfl)))
local macro_rules | `(tactic| walk_at "rs") => `(tactic| (apply wx_rt; focus (walk_at "es"; try first | exact ⟨rfl, rfl⟩ | rfl)))
local macro_rules | `(tactic| walk_at "ed") => `(tactic| simp [semF, shared, after, mSeq, mSkip, mIf, mRet, mRetN, mRetV, mSet, mSetIx, mExpr, mB, mU, mTm, mPl, mK, mVar, mOp, mCons, mNil, bor, bors, mTst, mAndT, mOrT, mNotT, mAndE, mOrE, mNotE, mIfE, mIsi, isiD, mChn, chnL, cmpD, binD, addD, subD, mulD, modD, fdivD, powD, eqD, neD, ltD, leD, gtD, geD, isD, isnD, L2.M.isNon, negD, ixD, Bf.f, Bg.f, lenD, L2.M.intD, maxD, minD, repD, strD, gmaxD, gminD, sumD, sortD, anyD, allD, mCall, frz, fzO, lend, wb, mTup, mLst, fzs, cD, mAsg, bTup, bTps, mApp, tupD, lstD, mRev, revD, ofs_inj, ee_ii, ee_ss, ee_bb, ee_nn, ee_is, ee_si, ee_in, ee_ni, ee_tt, ee_ll, ee_maps, ee_0, ee_1, ee_2, ee_3, at_lit, at_nat, at_m1, at_m2, scD, emD, sizeLine_eq, ixN, sm_lit, mSrc, itemsD, plOf, rng1D, bNm, mSl, mPt, mNoP, slD, mPar, keepT, tmsO, setA, mFlow, zipX, enumX, itemsX, intsOf, ints_all, boolsOf, shaped_lay, lay_int, lay_bool, lay_none, lay_dict, lay_tup, lay_list, lay_ints, sortX_ints, mPlF, mPlI, mRd, mPU, mPB, mFSet, mFNew, mNSet, mPApp, mPSetIx, mPPop, mMeth, mNew, isIns, cellO, mLstN, mAddN, mAppN, semX, mTold, mCallX, mMethX, xFSet, mMethP, oneC, xRet, xExpr, xSet, mRaise, mM, isL, isS, mOrV, truD, mDNew, mDIn, mDGet, mDLen, mDPut, kyD, mNNew, mN1, mTake, mFnV, mCallF, mNIn, mNGet, mNPut, mNVals, mNList, nKs, mDGetD, mDList, mNNe, *])
def SgV (F R M N : Int) : Sg → Prop
  | .op b => 0 ≤ b ∧ b ≤ F - 1
  | .sh u n => 0 ≤ u ∧ u ≤ 1001000 ∧ R ≤ n ∧ n ≤ M
  | .tr g n => 0 ≤ g ∧ g ≤ N - 1 ∧ R ≤ n ∧ n ≤ M
theorem SgV.b {F R T M N : Int} (G : Gt F R T M N) {s : Sg} (h : SgV F R M N s) : SgB s := by
  have := G.f2; have := G.n2; have := G.a1; have := G.M2
  cases s with
  | op b => have h : 0 ≤ b ∧ b ≤ F - 1 := h; exact ⟨by omega, by omega⟩
  | sh u n => have h : 0 ≤ u ∧ u ≤ 1001000 ∧ R ≤ n ∧ n ≤ M := h; exact ⟨by omega, by omega, by omega, by omega⟩
  | tr g n => have h : 0 ≤ g ∧ g ≤ N - 1 ∧ R ≤ n ∧ n ≤ M := h; exact ⟨by omega, by omega, by omega, by omega⟩
theorem letS_v {F R T M N : Int} (G : Gt F R T M N) {s : Sg} (h : SgV F R M N s) (t : Int) : SgV F R M N (letS s t) := by
  have := G.n1
  cases s with
  | op b => exact h
  | sh u n =>
    simp only [letS]
    split
    · exact h
    · have h : 0 ≤ u ∧ u ≤ 1001000 ∧ R ≤ n ∧ n ≤ M := h
      exact ⟨by omega, by omega, h.2.2⟩
  | tr g n => exact h
theorem hrd_v {F R T M N : Int} (G : Gt F R T M N) {s : Sg} (h : SgV F R M N s) {t : Int} (t0 : 0 ≤ t) (t1 : t ≤ 1000000) (a : Bool) : SgV F R M N (hrd F R T M N s t a) := by
  have := G.f1; have := G.n1; have := G.a1; have := G.t1; have := G.M2; have := G.rm
  cases s with
  | op b =>
    have h : 0 ≤ b ∧ b ≤ F - 1 := h
    simp only [hrd]
    split
    · exact ⟨by omega, by omega⟩
    · split
      · exact ⟨by omega, by omega⟩
      · exact ⟨by omega, by omega, by omega, by omega⟩
  | sh u n => exact h
  | tr g n =>
    have h : 0 ≤ g ∧ g ≤ N - 1 ∧ R ≤ n ∧ n ≤ M := h
    have hTn : n ≤ T * n := by
      have h1 : 1 * n ≤ T * n := Int.mul_le_mul_of_nonneg_right (by omega) (by omega)
      omega
    simp only [hrd]
    generalize T * n = Tn at *
    split
    · split
      · exact ⟨by omega, by omega, h.2.2⟩
      · exact ⟨by omega, by omega⟩
    · exact ⟨by split <;> omega, by split <;> omega, by split <;> omega, by split <;> omega⟩
theorem heard_eq {F R T M N : Int} (G : Gt F R T M N) {s : Sg} (h : isShut s = false) (hb : SgB s) (t : Int) (a : Bool) : g_heard [.sh (gt5 F R T M N), .sh s.d, .sh (.int t), .sh (.bool a)] = some (.inl (.sh (hrd F R T M N s t a).d), [.sh (gt5 F R T M N), .sh s.d, .sh (.int t), .sh (.bool a)]) := by
  have st : sm T := ⟨by have := G.t1; omega, by have := G.t2; omega⟩
  clear G
  unfold g_heard m_heard
  cases s with
  | op b =>
    cases a with
    | true => simp only [Sg.d, hrd]; walk_at "ev"
    | false => by_cases c : b + 1 < F <;> simp only [Sg.d, hrd, c] <;> walk_at "es"
  | sh u n => cases h
  | tr g n =>
    have sn : sm n := ⟨by have := hb.2.2.1; omega, by have := hb.2.2.2; omega⟩
    clear hb h
    cases a with
    | true => by_cases c : g + 1 < N <;> simp only [Sg.d, hrd, c] <;> walk_at "es"
    | false => by_cases c : T * n < M <;> simp only [Sg.d, hrd, c] <;> walk_at "es"
theorem heard_no (F R T M N u n t : Int) (a : Bool) : g_heard [.sh (gt5 F R T M N), .sh (Sg.sh u n).d, .sh (.int t), .sh (.bool a)] = some (.inr ⟨"NoStep", []⟩, [.sh (gt5 F R T M N), .sh (Sg.sh u n).d, .sh (.int t), .sh (.bool a)]) := by
  unfold g_heard m_heard
  simp only [Sg.d]
  walk_at "ev"
theorem sg_shw {s : Sg} (h : SgB s) : Shw 1 100 s.d := by
  have q1 : Shw 0 20 (.str "open") := shw_str 0 (by decide +kernel) (by decide +kernel)
  have q2 : Shw 0 20 (.str "shut") := shw_str 0 (by decide +kernel) (by decide +kernel)
  have q3 : Shw 0 20 (.str "trying") := shw_str 0 (by decide +kernel) (by decide +kernel)
  cases s with
  | op b => exact (shw_tup (shw_cons q1 (shw_cons (shw_i20 0 (by have := h.1; omega) (by have := h.2; omega)) shw_nil))).mono (Nat.le_refl _) (by simp)
  | sh u n => exact (shw_tup (shw_cons q2 (shw_cons (shw_i20 0 (by have := h.1; omega) (by have := h.2.1; omega)) (shw_cons (shw_i20 0 (by have := h.2.2.1; omega) (by have := h.2.2.2; omega)) shw_nil)))).mono (Nat.le_refl _) (by simp)
  | tr u n => exact (shw_tup (shw_cons q3 (shw_cons (shw_i20 0 (by have := h.1; omega) (by have := h.2.1; omega)) (shw_cons (shw_i20 0 (by have := h.2.2.1; omega) (by have := h.2.2.2; omega)) shw_nil)))).mono (Nat.le_refl _) (by simp)
abbrev xN : Xn := ⟨"NoNumber", []⟩
abbrev xS : Xn := ⟨"NoStep", []⟩
abbrev gC (G Z : PyData) (L : Int) : C := .ob (.ins "Gate" ["gate", "now", "latest"]) [.sh G, .sh Z, .sh (.int L)]
theorem rf_N : ref_law_flags xN = some (.tuple [.str "number"]) := by
  unfold ref_law_flags
  rw [if_neg (by intro h; injection h with h; exact absurd h (by decide)), if_pos rfl]
theorem rf_S : ref_law_flags xS = some (.tuple [.str "step"]) := by simp [ref_law_flags]
/-- a beat's number -/
def nB (d : PyData) (L : Int) : Bool := match d with
  | .int t => decide (L ≤ t) && decide (t ≤ 1000000)
  | _ => false
theorem from_d (d : PyData) (L : Int) : g_is_from_to [.sh d, .sh (.int L), .sh (.int 1000000)] = some (.sh (.bool (nB d L)), [.sh d, .sh (.int L), .sh (.int 1000000)]) := by
  have e := is_whole_eq d
  unfold g_is_from_to m_is_from_to
  generalize g_is_whole = G at *
  cases d with
  | int t =>
    have e : G [.sh (.int t)] = some (.sh (.bool true), [.sh (.int t)]) := e
    unfold nB
    by_cases c1 : L ≤ t
    · by_cases c2 : t ≤ 1000000
      · walk_at "es"
      · walk_at "es"
    · walk_at "es"
  | _ =>
    unfold nB
    have e2 := e
    simp only [whole] at e2
    clear e
    walk_at "es"
theorem number_eq (d : PyData) (L : Int) : g_law_number [.sh d, .sh (.int L)] = some (.sh (.bool (nB d L)), [.sh d, .sh (.int L)]) := by
  unfold g_law_number m_law_number nB
  cases d with
  | int t =>
    by_cases c1 : L ≤ t
    · by_cases c2 : t ≤ 1000000
      · walk_at "es"
      · walk_at "es"
    · walk_at "es"
  | _ => walk_at "ev"
theorem init_eq (G : PyData) : g_Gate___init__ [.ob (.ins "Gate" []) [], .sh G] = some (.sh .none, [gC G (Sg.op 0).d 0, .sh G]) := by
  unfold g_Gate___init__ m_Gate___init__ Sg.d
  walk_at "ev"
theorem stands_eq (G Z : PyData) (L : Int) : g_Gate_stands [gC G Z L] = some (.sh Z, [gC G Z L]) := by
  unfold g_Gate_stands m_Gate_stands
  walk_at "ev"
theorem raise_xN {ε : Cs} : mSeq (mRaise "NoNumber") mSkip ε = some (.xc xN, ε) := by
  have hr : mRaise "NoNumber" ε = some (.xc xN, ε) := rfl
  simp [mSeq, hr]
theorem check_yes {G Z d : PyData} {L : Int} (e : g_is_from_to [.sh d, .sh (.int L), .sh (.int 1000000)] = some (.sh (.bool true), [.sh d, .sh (.int L), .sh (.int 1000000)])) : g_Gate_check [gC G Z L, .sh d] = some (.inl (.sh .none), [gC G Z L, .sh d]) := by
  unfold g_Gate_check m_Gate_check
  apply rx_sem rfl
  generalize g_is_from_to = F at *
  generalize mRaise "NoNumber" = RX at *
  apply wx_nx (ε1 := [gC G Z L, .sh d])
  · walk_at "es"
  exact ⟨_, _, rfl, rfl, rfl⟩
theorem check_no {G Z d : PyData} {L : Int} (e : g_is_from_to [.sh d, .sh (.int L), .sh (.int 1000000)] = some (.sh (.bool false), [.sh d, .sh (.int L), .sh (.int 1000000)])) : g_Gate_check [gC G Z L, .sh d] = some (.inr xN, [gC G Z L, .sh d]) := by
  unfold g_Gate_check m_Gate_check
  apply rx_sem rfl
  generalize g_is_from_to = F at *
  refine wx_fl (f := .xc xN) (ε1 := [gC G Z L, .sh d]) (e_if (b := true) ?_ raise_xN) (by simp) ⟨rfl, rfl⟩
  generalize mRaise "NoNumber" = RX at *
  walk_at "es"
theorem come_yes {G Z Z2 : PyData} {L t : Int} {b : Bool} (c : g_Gate_check [gC G Z L, .sh (.int t)] = some (.inl (.sh .none), [gC G Z L, .sh (.int t)])) (e : g_lets [.sh G, .sh Z, .sh (.int t)] = some (.sh (.tuple [.bool b, Z2]), [.sh G, .sh Z, .sh (.int t)])) : g_Gate_come [gC G Z L, .sh (.int t)] = some (.inl (.sh (.bool b)), [gC G Z2 t, .sh (.int t)]) := by
  unfold g_Gate_come m_Gate_come
  apply rx_sem rfl
  generalize g_Gate_check = F at *
  generalize g_lets = F2 at *
  apply wx_nx (ε1 := [gC G Z L, .sh (.int t), .no])
  · walk_at "es"
  apply wx_nx (ε1 := [gC G Z t, .sh (.int t), .no])
  · walk_at "ev"
  apply wx_nx (ε1 := [gC G Z t, .sh (.int t), .sh (.tuple [.bool b, Z2])])
  · walk_at "es"
  apply wx_nx (ε1 := [gC G Z2 t, .sh (.int t), .sh (.tuple [.bool b, Z2])])
  · walk_at "ev"
  apply wx_rt (c := .sh (.bool b)) (ε1 := [gC G Z2 t, .sh (.int t), .sh (.tuple [.bool b, Z2])])
  · walk_at "ev"
  exact ⟨rfl, rfl⟩
theorem come_no {G Z d : PyData} {L : Int} (c : g_Gate_check [gC G Z L, .sh d] = some (.inr xN, [gC G Z L, .sh d])) : g_Gate_come [gC G Z L, .sh d] = some (.inr xN, [gC G Z L, .sh d]) := by
  unfold g_Gate_come m_Gate_come
  apply rx_sem rfl
  generalize g_Gate_check = F at *
  refine wx_fl (f := .xc xN) (ε1 := [gC G Z L, .sh d, .no]) ?_ (by simp) ⟨rfl, rfl⟩
  walk_at "es"
theorem hear_yes {G Z Z2 : PyData} {L t : Int} {a : Bool} (c : g_Gate_check [gC G Z L, .sh (.int t)] = some (.inl (.sh .none), [gC G Z L, .sh (.int t)])) (e : g_heard [.sh G, .sh Z, .sh (.int t), .sh (.bool a)] = some (.inl (.sh Z2), [.sh G, .sh Z, .sh (.int t), .sh (.bool a)])) : g_Gate_hear [gC G Z L, .sh (.int t), .sh (.bool a)] = some (.inl (.sh .none), [gC G Z2 t, .sh (.int t), .sh (.bool a)]) := by
  unfold g_Gate_hear m_Gate_hear
  apply rx_sem rfl
  generalize g_Gate_check = F at *
  generalize g_heard = F2 at *
  apply wx_nx (ε1 := [gC G Z L, .sh (.int t), .sh (.bool a)])
  · walk_at "es"
  apply wx_nx (ε1 := [gC G Z2 L, .sh (.int t), .sh (.bool a)])
  · walk_at "es"
  apply wx_nx (ε1 := [gC G Z2 t, .sh (.int t), .sh (.bool a)])
  · walk_at "ev"
  exact ⟨_, _, rfl, rfl, rfl⟩
theorem hear_step {G Z : PyData} {L t : Int} {a : Bool} (c : g_Gate_check [gC G Z L, .sh (.int t)] = some (.inl (.sh .none), [gC G Z L, .sh (.int t)])) (e : g_heard [.sh G, .sh Z, .sh (.int t), .sh (.bool a)] = some (.inr xS, [.sh G, .sh Z, .sh (.int t), .sh (.bool a)])) : g_Gate_hear [gC G Z L, .sh (.int t), .sh (.bool a)] = some (.inr xS, [gC G Z L, .sh (.int t), .sh (.bool a)]) := by
  unfold g_Gate_hear m_Gate_hear
  apply rx_sem rfl
  generalize g_Gate_check = F at *
  generalize g_heard = F2 at *
  apply wx_nx (ε1 := [gC G Z L, .sh (.int t), .sh (.bool a)])
  · walk_at "es"
  refine wx_fl (f := .xc xS) (ε1 := [gC G Z L, .sh (.int t), .sh (.bool a)]) ?_ (by simp) ⟨rfl, rfl⟩
  walk_at "es"
theorem hear_no {G Z d : PyData} {L : Int} {a : Bool} (c : g_Gate_check [gC G Z L, .sh d] = some (.inr xN, [gC G Z L, .sh d])) : g_Gate_hear [gC G Z L, .sh d, .sh (.bool a)] = some (.inr xN, [gC G Z L, .sh d, .sh (.bool a)]) := by
  unfold g_Gate_hear m_Gate_hear
  apply rx_sem rfl
  generalize g_Gate_check = F at *
  refine wx_fl (f := .xc xN) (ε1 := [gC G Z L, .sh d, .sh (.bool a)]) ?_ (by simp) ⟨rfl, rfl⟩
  walk_at "es"
theorem came_yes {G Z Z2 d : PyData} {L t : Int} {b : Bool} (e : g_Gate_come [gC G Z L, .sh d] = some (.inl (.sh (.bool b)), [gC G Z2 t, .sh d])) : g_law_came [gC G Z L, .sh d] = some (.sh (.bool b), [gC G Z2 t, .sh d]) := by
  apply rt_eq
  unfold g_law_came m_law_came
  apply rt_sem rfl
  generalize g_Gate_come = F at *
  generalize ref_law_flags = RF at *
  apply wx_rt (c := .sh (.bool b)) (ε1 := [gC G Z2 t, .sh d, .no])
  · walk_at "es"
  exact ⟨rfl, rfl⟩
theorem came_no {G Z d : PyData} {L : Int} (e : g_Gate_come [gC G Z L, .sh d] = some (.inr xN, [gC G Z L, .sh d])) : g_law_came [gC G Z L, .sh d] = some (.sh (.tuple [.str "number"]), [gC G Z L, .sh d]) := by
  have hr := rf_N
  apply rt_eq
  unfold g_law_came m_law_came
  apply rt_sem rfl
  generalize g_Gate_come = F at *
  generalize ref_law_flags = RF at *
  apply wx_rt (c := .sh (.tuple [.str "number"])) (ε1 := [gC G Z L, .sh d, .no])
  · walk_at "es"
  exact ⟨rfl, rfl⟩
theorem told_yes {G Z Z2 d : PyData} {L t : Int} {a : Bool} (e : g_Gate_hear [gC G Z L, .sh d, .sh (.bool a)] = some (.inl (.sh .none), [gC G Z2 t, .sh d, .sh (.bool a)])) : g_law_was_told [gC G Z L, .sh d, .sh (.bool a)] = some (.sh .none, [gC G Z2 t, .sh d, .sh (.bool a)]) := by
  apply rt_eq
  unfold g_law_was_told m_law_was_told
  apply rt_sem rfl
  generalize g_Gate_hear = F at *
  generalize ref_law_flags = RF at *
  apply wx_rt (c := .sh .none) (ε1 := [gC G Z2 t, .sh d, .sh (.bool a), .no])
  · walk_at "es"
  exact ⟨rfl, rfl⟩
theorem told_no {G Z d W : PyData} {L : Int} {a : Bool} {x : Xn} (hr : ref_law_flags x = some W) (e : g_Gate_hear [gC G Z L, .sh d, .sh (.bool a)] = some (.inr x, [gC G Z L, .sh d, .sh (.bool a)])) : g_law_was_told [gC G Z L, .sh d, .sh (.bool a)] = some (.sh W, [gC G Z L, .sh d, .sh (.bool a)]) := by
  apply rt_eq
  unfold g_law_was_told m_law_was_told
  apply rt_sem rfl
  generalize g_Gate_hear = F at *
  generalize ref_law_flags = RF at *
  apply wx_rt (c := .sh W) (ε1 := [gC G Z L, .sh d, .sh (.bool a), .no])
  · walk_at "es"
  exact ⟨rfl, rfl⟩
end KW
namespace KW
open PySem PySem.Spec PyProof.Rows L2 L2.M
local macro_rules | `(tactic| walk_at "ev") => `(tactic| simp [semF, shared, after, mSeq, mSkip, mIf, mRet, mRetN, mRetV, mSet, mSetIx, mExpr, mB, mU, mTm, mPl, mK, mVar, mOp, mCons, mNil, bor, bors, mTst, mAndT, mOrT, mNotT, mAndE, mOrE, mNotE, mIfE, mIsi, isiD, mChn, chnL, cmpD, binD, addD, subD, mulD, modD, fdivD, powD, eqD, neD, ltD, leD, gtD, geD, isD, isnD, L2.M.isNon, negD, ixD, Bf.f, Bg.f, lenD, L2.M.intD, maxD, minD, repD, strD, gmaxD, gminD, sumD, sortD, anyD, allD, mCall, frz, fzO, lend, wb, mTup, mLst, fzs, cD, mAsg, bTup, bTps, mApp, tupD, lstD, mRev, revD, ofs_inj, ee_ii, ee_ss, ee_bb, ee_nn, ee_is, ee_si, ee_in, ee_ni, ee_tt, ee_ll, ee_maps, ee_0, ee_1, ee_2, ee_3, at_lit, at_nat, at_m1, at_m2, scD, emD, sizeLine_eq, ixN, sm_lit, mSrc, itemsD, plOf, rng1D, bNm, mSl, mPt, mNoP, slD, mPar, keepT, tmsO, setA, mFlow, zipX, enumX, itemsX, intsOf, ints_all, boolsOf, shaped_lay, lay_int, lay_bool, lay_none, lay_dict, lay_tup, lay_list, lay_ints, sortX_ints, mPlF, mPlI, mRd, mPU, mPB, mFSet, mFNew, mNSet, mPApp, mPSetIx, mPPop, mMeth, mNew, isIns, cellO, mLstN, mAddN, mAppN, semX, mTold, mCallX, mMethX, xFSet, mMethP, oneC, xRet, xExpr, xSet, mRaise, mM, isL, isS, mOrV, truD])
local macro_rules | `(tactic| walk_at "es") => `(tactic| simp [semF, shared, after, mSeq, mSkip, mIf, mRet, mRetN, mRetV, mSet, mSetIx, mExpr, mB, mU, mTm, mPl, mK, mVar, mOp, mCons, mNil, bor, bors, mTst, mAndT, mOrT, mNotT, mAndE, mOrE, mNotE, mIfE, mIsi, isiD, mChn, chnL, cmpD, binD, addD, subD, mulD, modD, fdivD, powD, eqD, neD, ltD, leD, gtD, geD, isD, isnD, L2.M.isNon, negD, ixD, Bf.f, Bg.f, lenD, L2.M.intD, maxD, minD, repD, strD, gmaxD, gminD, sumD, sortD, anyD, allD, mCall, frz, fzO, lend, wb, mTup, mLst, fzs, cD, mAsg, bTup, bTps, mApp, tupD, lstD, mRev, revD, ofs_inj, ee_ii, ee_ss, ee_bb, ee_nn, ee_is, ee_si, ee_in, ee_ni, ee_tt, ee_ll, ee_maps, ee_0, ee_1, ee_2, ee_3, at_lit, at_nat, at_m1, at_m2, scD, emD, sizeLine_eq, ixN, sm_lit, mSrc, itemsD, plOf, rng1D, bNm, mSl, mPt, mNoP, slD, mPar, keepT, tmsO, setA, mFlow, zipX, enumX, itemsX, intsOf, ints_all, boolsOf, shaped_lay, lay_int, lay_bool, lay_none, lay_dict, lay_tup, lay_list, lay_ints, sortX_ints, mPlF, mPlI, mRd, mPU, mPB, mFSet, mFNew, mNSet, mPApp, mPSetIx, mPPop, mMeth, mNew, isIns, cellO, mLstN, mAddN, mAppN, semX, mTold, mCallX, mMethX, xFSet, mMethP, oneC, xRet, xExpr, xSet, mRaise, mM, isL, isS, mOrV, truD, *])
local macro_rules | `(tactic| walk_at "el") => `(tactic| simp [semF, shared, after, mSeq, mSkip, mIf, mRet, mRetN, mRetV, mSet, mSetIx, mExpr, mB, mU, mTm, mPl, mK, mVar, mOp, mCons, mNil, bor, bors, mTst, mAndT, mOrT, mNotT, mAndE, mOrE, mNotE, mIfE, mIsi, isiD, mChn, chnL, cmpD, binD, addD, subD, mulD, modD, fdivD, powD, eqD, neD, ltD, leD, gtD, geD, isD, isnD, L2.M.isNon, negD, ixD, Bf.f, Bg.f, lenD, L2.M.intD, maxD, minD, repD, strD, gmaxD, gminD, sumD, sortD, anyD, allD, mCall, frz, fzO, lend, wb, mTup, mLst, fzs, cD, mAsg, bTup, bTps, mApp, tupD, lstD, mRev, revD, ofs_inj, ee_ii, ee_ss, ee_bb, ee_nn, ee_is, ee_si, ee_in, ee_ni, ee_tt, ee_ll, ee_maps, ee_0, ee_1, ee_2, ee_3, at_lit, at_nat, at_m1, at_m2, scD, emD, sizeLine_eq, ixN, sm_lit, mSrc, itemsD, plOf, rng1D, bNm, mSl, mPt, mNoP, slD, mPar, keepT, tmsO, setA, mFlow, zipX, enumX, itemsX, intsOf, ints_all, boolsOf, shaped_lay, lay_int, lay_bool, lay_none, lay_dict, lay_tup, lay_list, lay_ints, sortX_ints, mPlF, mPlI, mRd, mPU, mPB, mFSet, mFNew, mNSet, mPApp, mPSetIx, mPPop, mMeth, mNew, isIns, cellO, mLstN, mAddN, mAppN, semX, mTold, mCallX, mMethX, xFSet, mMethP, oneC, xRet, xExpr, xSet, mRaise, mM, isL, isS, mOrV, truD, mLc, lcL, sameC, wipeC, restC, mYes, *])
local macro_rules | `(tactic| walk_at "ef") => `(tactic| simp [semF, shared, after, mSeq, mSkip, mIf, mRet, mRetN, mRetV, mSet, mSetIx, mExpr, mB, mU, mTm, mPl, mK, mVar, mOp, mCons, mNil, bor, bors, mTst, mAndT, mOrT, mNotT, mAndE, mOrE, mNotE, mIfE, mIsi, isiD, mChn, chnL, cmpD, binD, addD, subD, mulD, modD, fdivD, powD, eqD, neD, ltD, leD, gtD, geD, isD, isnD, L2.M.isNon, negD, ixD, Bf.f, Bg.f, lenD, L2.M.intD, maxD, minD, repD, strD, gmaxD, gminD, sumD, sortD, anyD, allD, mCall, frz, fzO, lend, wb, mTup, mLst, fzs, cD, mAsg, bTup, bTps, mApp, tupD, lstD, mRev, revD, ofs_inj, ee_ii, ee_ss, ee_bb, ee_nn, ee_is, ee_si, ee_in, ee_ni, ee_tt, ee_ll, ee_maps, ee_0, ee_1, ee_2, ee_3, at_lit, at_nat, at_m1, at_m2, scD, emD, sizeLine_eq, ixN, sm_lit, mSrc, itemsD, plOf, rng1D, bNm, mSl, mPt, mNoP, slD, mPar, keepT, tmsO, setA, mFlow, zipX, enumX, itemsX, intsOf, ints_all, boolsOf, shaped_lay, lay_int, lay_bool, lay_none, lay_dict, lay_tup, lay_list, lay_ints, sortX_ints, mPlF, mPlI, mRd, mPU, mPB, mFSet, mFNew, mNSet, mPApp, mPSetIx, mPPop, mMeth, mNew, isIns, cellO, mLstN, mAddN, mAppN, semX, mTold, mCallX, mMethX, xFSet, mMethP, oneC, xRet, xExpr, xSet, mRaise, mM, isL, isS, mOrV, truD, mFor, forL, mLc, lcL, sameC, wipeC, restC, mYes, *])
local macro_rules | `(tactic| walk_at "rg") => `(tactic| (and_intros <;> grind))
local macro_rules | `(tactic| walk_at "nx") => `(tactic| (apply wx_nx; focus (walk_at "ev"; try first | exact ⟨rfl, rfl⟩ | rfl)))
local macro_rules | `(tactic| walk_at "ns") => `(tactic| (apply wx_nx; focus (walk_at "es"; try first | exact ⟨rfl, rfl⟩ | rfl)))
local macro_rules | `(tactic| walk_at "rt") => `(tactic| (apply wx_rt; focus (walk_at "ev"; try first | exact ⟨rfl, rfl⟩ | rfl)))
local macro_rules | `(tactic| walk_at "rs") => `(tactic| (apply wx_rt; focus (walk_at "es"; try first | exact ⟨rfl, rfl⟩ | rfl)))
local macro_rules | `(tactic| walk_at "ed") => `(tactic| simp [semF, shared, after, mSeq, mSkip, mIf, mRet, mRetN, mRetV, mSet, mSetIx, mExpr, mB, mU, mTm, mPl, mK, mVar, mOp, mCons, mNil, bor, bors, mTst, mAndT, mOrT, mNotT, mAndE, mOrE, mNotE, mIfE, mIsi, isiD, mChn, chnL, cmpD, binD, addD, subD, mulD, modD, fdivD, powD, eqD, neD, ltD, leD, gtD, geD, isD, isnD, L2.M.isNon, negD, ixD, Bf.f, Bg.f, lenD, L2.M.intD, maxD, minD, repD, strD, gmaxD, gminD, sumD, sortD, anyD, allD, mCall, frz, fzO, lend, wb, mTup, mLst, fzs, cD, mAsg, bTup, bTps, mApp, tupD, lstD, mRev, revD, ofs_inj, ee_ii, ee_ss, ee_bb, ee_nn, ee_is, ee_si, ee_in, ee_ni, ee_tt, ee_ll, ee_maps, ee_0, ee_1, ee_2, ee_3, at_lit, at_nat, at_m1, at_m2, scD, emD, sizeLine_eq, ixN, sm_lit, mSrc, itemsD, plOf, rng1D, bNm, mSl, mPt, mNoP, slD, mPar, keepT, tmsO, setA, mFlow, zipX, enumX, itemsX, intsOf, ints_all, boolsOf, shaped_lay, lay_int, lay_bool, lay_none, lay_dict, lay_tup, lay_list, lay_ints, sortX_ints, mPlF, mPlI, mRd, mPU, mPB, mFSet, mFNew, mNSet, mPApp, mPSetIx, mPPop, mMeth, mNew, isIns, cellO, mLstN, mAddN, mAppN, semX, mTold, mCallX, mMethX, xFSet, mMethP, oneC, xRet, xExpr, xSet, mRaise, mM, isL, isS, mOrV, truD, mDNew, mDIn, mDGet, mDLen, mDPut, kyD, mNNew, mN1, mTake, mFnV, mCallF, mNIn, mNGet, mNPut, mNVals, mNList, nKs, mDGetD, mDList, mNNe, *])
theorem beat_eq (p : Pn) (L : Int) : Rt (g_law_beat [.ls (penL p), .sh (.int L)]) fun c cs => ∃ (d : PyData) (p' : Pn), c = .sh d ∧ cs = [.ls (penL p'), .sh (.int L)] := by
  unfold g_law_beat m_law_beat
  apply rt_sem rfl
  walk_at "nx"
  have c2 := dr_ab (dn p 12) 14 (by decide)
  generalize dr p 12 = far at *
  generalize dr (dn p 12) 14 = mode at *
  generalize dn (dn p 12) 14 = p1 at *
  have c3 := dr_ab p1 8 (by decide)
  generalize hk : dr p1 8 = k at *
  apply wx_nx (ε1 := [.ls (penL p1), .sh (.int L), .sh (.int far), .sh (.int mode), .ls [.int (L - 1), .int (-1), .int 1000001, .bool true, .str "1", .none, .list [.int L], .int (10 ^ 60)]])
  · clear c2 c3 hk
    walk_at "ev"
  by_cases h : mode < 10
  · have h4 : mode % 4 = 0 ∨ mode % 4 = 1 ∨ mode % 4 = 2 ∨ mode % 4 = 3 := by omega
    clear c2 c3 hk
    rcases h4 with h4 | h4 | h4 | h4
    · refine wx_rt (c := .sh (.int (L + 0))) (ε1 := [.ls (penL p1), .sh (.int L), .sh (.int far), .sh (.int mode), .ls [.int (L - 1), .int (-1), .int 1000001, .bool true, .str "1", .none, .list [.int L], .int (10 ^ 60)]]) ?_ ⟨_, p1, rfl, rfl⟩
      walk_at "es"
    · refine wx_rt (c := .sh (.int (L + 1))) (ε1 := [.ls (penL p1), .sh (.int L), .sh (.int far), .sh (.int mode), .ls [.int (L - 1), .int (-1), .int 1000001, .bool true, .str "1", .none, .list [.int L], .int (10 ^ 60)]]) ?_ ⟨_, p1, rfl, rfl⟩
      walk_at "es"
    · refine wx_rt (c := .sh (.int (L + far))) (ε1 := [.ls (penL p1), .sh (.int L), .sh (.int far), .sh (.int mode), .ls [.int (L - 1), .int (-1), .int 1000001, .bool true, .str "1", .none, .list [.int L], .int (10 ^ 60)]]) ?_ ⟨_, p1, rfl, rfl⟩
      walk_at "es"
    · refine wx_rt (c := .sh (.int (L + far))) (ε1 := [.ls (penL p1), .sh (.int L), .sh (.int far), .sh (.int mode), .ls [.int (L - 1), .int (-1), .int 1000001, .bool true, .str "1", .none, .list [.int L], .int (10 ^ 60)]]) ?_ ⟨_, p1, rfl, rfl⟩
      walk_at "es"
  · have h8 : k = 0 ∨ k = 1 ∨ k = 2 ∨ k = 3 ∨ k = 4 ∨ k = 5 ∨ k = 6 ∨ k = 7 := by omega
    clear c2 c3
    rcases h8 with rfl | rfl | rfl | rfl | rfl | rfl | rfl | rfl
    · refine wx_rt (c := .sh (.int (L - 1))) (ε1 := [.ls (penL (dn p1 8)), .sh (.int L), .sh (.int far), .sh (.int mode), .ls [.int (L - 1), .int (-1), .int 1000001, .bool true, .str "1", .none, .list [.int L], .int (10 ^ 60)]]) ?_ ⟨_, dn p1 8, rfl, rfl⟩
      walk_at "es"
    · refine wx_rt (c := .sh (.int (-1))) (ε1 := [.ls (penL (dn p1 8)), .sh (.int L), .sh (.int far), .sh (.int mode), .ls [.int (L - 1), .int (-1), .int 1000001, .bool true, .str "1", .none, .list [.int L], .int (10 ^ 60)]]) ?_ ⟨_, dn p1 8, rfl, rfl⟩
      walk_at "es"
    · refine wx_rt (c := .sh (.int 1000001)) (ε1 := [.ls (penL (dn p1 8)), .sh (.int L), .sh (.int far), .sh (.int mode), .ls [.int (L - 1), .int (-1), .int 1000001, .bool true, .str "1", .none, .list [.int L], .int (10 ^ 60)]]) ?_ ⟨_, dn p1 8, rfl, rfl⟩
      walk_at "es"
    · refine wx_rt (c := .sh (.bool true)) (ε1 := [.ls (penL (dn p1 8)), .sh (.int L), .sh (.int far), .sh (.int mode), .ls [.int (L - 1), .int (-1), .int 1000001, .bool true, .str "1", .none, .list [.int L], .int (10 ^ 60)]]) ?_ ⟨_, dn p1 8, rfl, rfl⟩
      walk_at "es"
    · refine wx_rt (c := .sh (.str "1")) (ε1 := [.ls (penL (dn p1 8)), .sh (.int L), .sh (.int far), .sh (.int mode), .ls [.int (L - 1), .int (-1), .int 1000001, .bool true, .str "1", .none, .list [.int L], .int (10 ^ 60)]]) ?_ ⟨_, dn p1 8, rfl, rfl⟩
      walk_at "es"
    · refine wx_rt (c := .sh (.none)) (ε1 := [.ls (penL (dn p1 8)), .sh (.int L), .sh (.int far), .sh (.int mode), .ls [.int (L - 1), .int (-1), .int 1000001, .bool true, .str "1", .none, .list [.int L], .int (10 ^ 60)]]) ?_ ⟨_, dn p1 8, rfl, rfl⟩
      walk_at "es"
    · refine wx_rt (c := .sh (.list [.int L])) (ε1 := [.ls (penL (dn p1 8)), .sh (.int L), .sh (.int far), .sh (.int mode), .ls [.int (L - 1), .int (-1), .int 1000001, .bool true, .str "1", .none, .list [.int L], .int (10 ^ 60)]]) ?_ ⟨_, dn p1 8, rfl, rfl⟩
      walk_at "es"
    · refine wx_rt (c := .sh (.int (10 ^ 60))) (ε1 := [.ls (penL (dn p1 8)), .sh (.int L), .sh (.int far), .sh (.int mode), .ls [.int (L - 1), .int (-1), .int 1000001, .bool true, .str "1", .none, .list [.int L], .int (10 ^ 60)]]) ?_ ⟨_, dn p1 8, rfl, rfl⟩
      walk_at "es"
theorem eq_selfB {d : PyData} (h : SeqAt.shaped d = true) : cmpD .Eq d d = some (.sh (.bool true)) := by
  show L2.M.eqD d d = _
  unfold L2.M.eqD
  rw [h, SeqAt.eqv_refl d (SeqAt.canLay_of_shaped h)]
  simp
theorem dd_1 (p : Pn) (g k : C) (L : Int) {X : List PyData} (hk : k = .ls X) (hx : X[2]? = some (.int L)) : ∃ (mode : Int) (a : Bool) (d : PyData) (p' : Pn), (mode = 0 ∨ mode = 1) ∧ (mPar [0, 1, 2] [3, 4, 5] (mCons (mTm (mCall [true, true] g_law_draw (mCons (mPl 0) (mCons (mTm (mK (.int 2))) (mNil))))) (mCons (mTm (mCall [true, true] g_law_beat (mCons (mPl 0) (mCons (mTm (mB ixD (mPl 2) (mTm (mK (.int 2))))) (mNil))))) (mCons (mTm (mB (cmpD .Eq) (mTm (mCall [true, true] g_law_draw (mCons (mPl 0) (mCons (mTm (mK (.int 3))) (mNil))))) (mTm (mK (.int 0))))) (mNil))))) [.ls (penL p), g, k, .no, .no, .no, .no, .no] = some (.nx, [.ls (penL p'), g, k, .sh (.int mode), .sh d, .sh (.bool a), .no, .no]) := by
  subst hk
  have c1 := dr_ab p 2 (by decide)
  obtain ⟨_, _, e, d, p1, rfl, rfl⟩ := beat_eq (dn p 2) L
  refine ⟨dr p 2, decide (dr p1 3 = 0), d, dn p1 3, by omega, ?_⟩
  obtain ⟨x0, x1, x3, rfl⟩ : ∃ x0 x1 x3, X = x0 :: x1 :: .int L :: x3 := by
    match X, hx with
    | x0 :: x1 :: x2 :: x3, hx => cases hx; exact ⟨x0, x1, x3, rfl⟩
  clear hx c1
  generalize g_law_beat = GB at *
  by_cases h : dr p1 3 = 0
  · walk_at "es"
  · walk_at "es"
theorem dd_2 (p : Pn) {G Z d : PyData} {L mode : Int} {a : Bool} (hm : mode = 0 ∨ mode = 1) (n : g_law_number [.sh d, .sh (.int L)] = some (.sh (.bool false), [.sh d, .sh (.int L)])) (c : g_law_came [gC G Z L, .sh d] = some (.sh (.tuple [.str "number"]), [gC G Z L, .sh d])) (w : g_law_was_told [gC G Z L, .sh d, .sh (.bool a)] = some (.sh (.tuple [.str "number"]), [gC G Z L, .sh d, .sh (.bool a)])) (hZ : cmpD .Eq Z Z = some (.sh (.bool true))) :
    (mIf (mNotT (mTst (mCall [true, true] g_law_number (mCons (mPl 4) (mCons (mTm (mB ixD (mPl 2) (mTm (mK (.int 2))))) (mNil)))))) (mSeq (mSet [0, 1, 2] 6 (mIfE (mTst (mB (cmpD .Eq) (mPl 3) (mTm (mK (.int 0))))) (mCall [true, true] g_law_came (mCons (mPl 1) (mCons (mPl 4) (mNil)))) (mCall [true, true, true] g_law_was_told (mCons (mPl 1) (mCons (mPl 4) (mCons (mPl 5) (mNil))))))) (mSeq (mRet (mAndE (mB (cmpD .Eq) (mPl 6) (mTm (mTup (mCons (mTm (mK (.str "number"))) (mNil))))) (mB (cmpD .Eq) (mTm (mMeth "Gate" "stands" [true] g_Gate_stands (mPl 1) mNil)) (mTm (mB ixD (mPl 2) (mTm (mK (.int 1)))))))) (mSkip))) (mSkip)) [.ls (penL p), gC G Z L, .ls [G, Z, .int L], .sh (.int mode), .sh d, .sh (.bool a), .no, .no] = some (.rt (.sh (.bool true)), [.ls (penL p), gC G Z L, .ls [G, Z, .int L], .sh (.int mode), .sh d, .sh (.bool a), .sh (.tuple [.str "number"]), .no]) := by
  have s := stands_eq G Z L
  have t1 : cmpD .Eq (.tuple [.str "number"]) (.tuple [.str "number"]) = some (.sh (.bool true)) := eq_selfB (by decide +kernel)
  have m0 : cmpD .Eq (.int 0) (.int 0) = some (.sh (.bool true)) := by walk_at "ev"
  have m1 : cmpD .Eq (.int 1) (.int 0) = some (.sh (.bool false)) := by walk_at "ev"
  generalize g_law_number = G1 at *
  generalize g_law_came = G2 at *
  generalize g_law_was_told = G3 at *
  generalize g_Gate_stands = G4 at *
  generalize cmpD .Eq = EQ at *
  rcases hm with rfl | rfl
  · walk_at "es"
  · walk_at "es"
end KW
namespace KW
open PySem PySem.Spec PyProof.Rows L2 L2.M
local macro_rules | `(tactic| walk_at "ev") => `(tactic| simp [semF, shared, after, mSeq, mSkip, mIf, mRet, mRetN, mRetV, mSet, mSetIx, mExpr, mB, mU, mTm, mPl, mK, mVar, mOp, mCons, mNil, bor, bors, mTst, mAndT, mOrT, mNotT, mAndE, mOrE, mNotE, mIfE, mIsi, isiD, mChn, chnL, cmpD, binD, addD, subD, mulD, modD, fdivD, powD, eqD, neD, ltD, leD, gtD, geD, isD, isnD, L2.M.isNon, negD, ixD, Bf.f, Bg.f, lenD, L2.M.intD, maxD, minD, repD, strD, gmaxD, gminD, sumD, sortD, anyD, allD, mCall, frz, fzO, lend, wb, mTup, mLst, fzs, cD, mAsg, bTup, bTps, mApp, tupD, lstD, mRev, revD, ofs_inj, ee_ii, ee_ss, ee_bb, ee_nn, ee_is, ee_si, ee_in, ee_ni, ee_tt, ee_ll, ee_maps, ee_0, ee_1, ee_2, ee_3, at_lit, at_nat, at_m1, at_m2, scD, emD, sizeLine_eq, ixN, sm_lit, mSrc, itemsD, plOf, rng1D, bNm, mSl, mPt, mNoP, slD, mPar, keepT, tmsO, setA, mFlow, zipX, enumX, itemsX, intsOf, ints_all, boolsOf, shaped_lay, lay_int, lay_bool, lay_none, lay_dict, lay_tup, lay_list, lay_ints, sortX_ints, mPlF, mPlI, mRd, mPU, mPB, mFSet, mFNew, mNSet, mPApp, mPSetIx, mPPop, mMeth, mNew, isIns, cellO, mLstN, mAddN, mAppN, semX, mTold, mCallX, mMethX, xFSet, mMethP, oneC, xRet, xExpr, xSet, mRaise, mM, isL, isS, mOrV, truD])
local macro_rules | `(tactic| walk_at "es") => `(tactic| simp [semF, shared, after, mSeq, mSkip, mIf, mRet, mRetN, mRetV, mSet, mSetIx, mExpr, mB, mU, mTm, mPl, mK, mVar, mOp, mCons, mNil, bor, bors, mTst, mAndT, mOrT, mNotT, mAndE, mOrE, mNotE, mIfE, mIsi, isiD, mChn, chnL, cmpD, binD, addD, subD, mulD, modD, fdivD, powD, eqD, neD, ltD, leD, gtD, geD, isD, isnD, L2.M.isNon, negD, ixD, Bf.f, Bg.f, lenD, L2.M.intD, maxD, minD, repD, strD, gmaxD, gminD, sumD, sortD, anyD, allD, mCall, frz, fzO, lend, wb, mTup, mLst, fzs, cD, mAsg, bTup, bTps, mApp, tupD, lstD, mRev, revD, ofs_inj, ee_ii, ee_ss, ee_bb, ee_nn, ee_is, ee_si, ee_in, ee_ni, ee_tt, ee_ll, ee_maps, ee_0, ee_1, ee_2, ee_3, at_lit, at_nat, at_m1, at_m2, scD, emD, sizeLine_eq, ixN, sm_lit, mSrc, itemsD, plOf, rng1D, bNm, mSl, mPt, mNoP, slD, mPar, keepT, tmsO, setA, mFlow, zipX, enumX, itemsX, intsOf, ints_all, boolsOf, shaped_lay, lay_int, lay_bool, lay_none, lay_dict, lay_tup, lay_list, lay_ints, sortX_ints, mPlF, mPlI, mRd, mPU, mPB, mFSet, mFNew, mNSet, mPApp, mPSetIx, mPPop, mMeth, mNew, isIns, cellO, mLstN, mAddN, mAppN, semX, mTold, mCallX, mMethX, xFSet, mMethP, oneC, xRet, xExpr, xSet, mRaise, mM, isL, isS, mOrV, truD, *])
local macro_rules | `(tactic| walk_at "el") => `(tactic| simp [semF, shared, after, mSeq, mSkip, mIf, mRet, mRetN, mRetV, mSet, mSetIx, mExpr, mB, mU, mTm, mPl, mK, mVar, mOp, mCons, mNil, bor, bors, mTst, mAndT, mOrT, mNotT, mAndE, mOrE, mNotE, mIfE, mIsi, isiD, mChn, chnL, cmpD, binD, addD, subD, mulD, modD, fdivD, powD, eqD, neD, ltD, leD, gtD, geD, isD, isnD, L2.M.isNon, negD, ixD, Bf.f, Bg.f, lenD, L2.M.intD, maxD, minD, repD, strD, gmaxD, gminD, sumD, sortD, anyD, allD, mCall, frz, fzO, lend, wb, mTup, mLst, fzs, cD, mAsg, bTup, bTps, mApp, tupD, lstD, mRev, revD, ofs_inj, ee_ii, ee_ss, ee_bb, ee_nn, ee_is, ee_si, ee_in, ee_ni, ee_tt, ee_ll, ee_maps, ee_0, ee_1, ee_2, ee_3, at_lit, at_nat, at_m1, at_m2, scD, emD, sizeLine_eq, ixN, sm_lit, mSrc, itemsD, plOf, rng1D, bNm, mSl, mPt, mNoP, slD, mPar, keepT, tmsO, setA, mFlow, zipX, enumX, itemsX, intsOf, ints_all, boolsOf, shaped_lay, lay_int, lay_bool, lay_none, lay_dict, lay_tup, lay_list, lay_ints, sortX_ints, mPlF, mPlI, mRd, mPU, mPB, mFSet, mFNew, mNSet, mPApp, mPSetIx, mPPop, mMeth, mNew, isIns, cellO, mLstN, mAddN, mAppN, semX, mTold, mCallX, mMethX, xFSet, mMethP, oneC, xRet, xExpr, xSet, mRaise, mM, isL, isS, mOrV, truD, mLc, lcL, sameC, wipeC, restC, mYes, *])
local macro_rules | `(tactic| walk_at "ef") => `(tactic| simp [semF, shared, after, mSeq, mSkip, mIf, mRet, mRetN, mRetV, mSet, mSetIx, mExpr, mB, mU, mTm, mPl, mK, mVar, mOp, mCons, mNil, bor, bors, mTst, mAndT, mOrT, mNotT, mAndE, mOrE, mNotE, mIfE, mIsi, isiD, mChn, chnL, cmpD, binD, addD, subD, mulD, modD, fdivD, powD, eqD, neD, ltD, leD, gtD, geD, isD, isnD, L2.M.isNon, negD, ixD, Bf.f, Bg.f, lenD, L2.M.intD, maxD, minD, repD, strD, gmaxD, gminD, sumD, sortD, anyD, allD, mCall, frz, fzO, lend, wb, mTup, mLst, fzs, cD, mAsg, bTup, bTps, mApp, tupD, lstD, mRev, revD, ofs_inj, ee_ii, ee_ss, ee_bb, ee_nn, ee_is, ee_si, ee_in, ee_ni, ee_tt, ee_ll, ee_maps, ee_0, ee_1, ee_2, ee_3, at_lit, at_nat, at_m1, at_m2, scD, emD, sizeLine_eq, ixN, sm_lit, mSrc, itemsD, plOf, rng1D, bNm, mSl, mPt, mNoP, slD, mPar, keepT, tmsO, setA, mFlow, zipX, enumX, itemsX, intsOf, ints_all, boolsOf, shaped_lay, lay_int, lay_bool, lay_none, lay_dict, lay_tup, lay_list, lay_ints, sortX_ints, mPlF, mPlI, mRd, mPU, mPB, mFSet, mFNew, mNSet, mPApp, mPSetIx, mPPop, mMeth, mNew, isIns, cellO, mLstN, mAddN, mAppN, semX, mTold, mCallX, mMethX, xFSet, mMethP, oneC, xRet, xExpr, xSet, mRaise, mM, isL, isS, mOrV, truD, mFor, forL, mLc, lcL, sameC, wipeC, restC, mYes, *])
local macro_rules | `(tactic| walk_at "rg") => `(tactic| (and_intros <;> grind))
local macro_rules | `(tactic| walk_at "nx") => `(tactic| (apply wx_nx; focus (walk_at "ev"; try first | exact ⟨rfl, rfl⟩ | rfl)))
local macro_rules | `(tactic| walk_at "ns") => `(tactic| (apply wx_nx; focus (walk_at "es"; try first | exact ⟨rfl, rfl⟩ | rfl)))
local macro_rules | `(tactic| walk_at "rt") => `(tactic| (apply wx_rt; focus (walk_at "ev"; try first | exact ⟨rfl, rfl⟩ | rfl)))
local macro_rules | `(tactic| walk_at "rs") => `(tactic| (apply wx_rt; focus (walk_at "es"; try first | exact ⟨rfl, rfl⟩ | rfl)))
local macro_rules | `(tactic| walk_at "ed") => `(tactic| simp [semF, shared, after, mSeq, mSkip, mIf, mRet, mRetN, mRetV, mSet, mSetIx, mExpr, mB, mU, mTm, mPl, mK, mVar, mOp, mCons, mNil, bor, bors, mTst, mAndT, mOrT, mNotT, mAndE, mOrE, mNotE, mIfE, mIsi, isiD, mChn, chnL, cmpD, binD, addD, subD, mulD, modD, fdivD, powD, eqD, neD, ltD, leD, gtD, geD, isD, isnD, L2.M.isNon, negD, ixD, Bf.f, Bg.f, lenD, L2.M.intD, maxD, minD, repD, strD, gmaxD, gminD, sumD, sortD, anyD, allD, mCall, frz, fzO, lend, wb, mTup, mLst, fzs, cD, mAsg, bTup, bTps, mApp, tupD, lstD, mRev, revD, ofs_inj, ee_ii, ee_ss, ee_bb, ee_nn, ee_is, ee_si, ee_in, ee_ni, ee_tt, ee_ll, ee_maps, ee_0, ee_1, ee_2, ee_3, at_lit, at_nat, at_m1, at_m2, scD, emD, sizeLine_eq, ixN, sm_lit, mSrc, itemsD, plOf, rng1D, bNm, mSl, mPt, mNoP, slD, mPar, keepT, tmsO, setA, mFlow, zipX, enumX, itemsX, intsOf, ints_all, boolsOf, shaped_lay, lay_int, lay_bool, lay_none, lay_dict, lay_tup, lay_list, lay_ints, sortX_ints, mPlF, mPlI, mRd, mPU, mPB, mFSet, mFNew, mNSet, mPApp, mPSetIx, mPPop, mMeth, mNew, isIns, cellO, mLstN, mAddN, mAppN, semX, mTold, mCallX, mMethX, xFSet, mMethP, oneC, xRet, xExpr, xSet, mRaise, mM, isL, isS, mOrV, truD, mDNew, mDIn, mDGet, mDLen, mDPut, kyD, mNNew, mN1, mTake, mFnV, mCallF, mNIn, mNGet, mNPut, mNVals, mNList, nKs, mDGetD, mDList, mNNe, *])
theorem dd_3 (p : Pn) {G Z : PyData} {L t mode : Int} {a : Bool} (n : g_law_number [.sh (.int t), .sh (.int L)] = some (.sh (.bool true), [.sh (.int t), .sh (.int L)])) : (mIf (mNotT (mTst (mCall [true, true] g_law_number (mCons (mPl 4) (mCons (mTm (mB ixD (mPl 2) (mTm (mK (.int 2))))) (mNil)))))) (mSeq (mSet [0, 1, 2] 6 (mIfE (mTst (mB (cmpD .Eq) (mPl 3) (mTm (mK (.int 0))))) (mCall [true, true] g_law_came (mCons (mPl 1) (mCons (mPl 4) (mNil)))) (mCall [true, true, true] g_law_was_told (mCons (mPl 1) (mCons (mPl 4) (mCons (mPl 5) (mNil))))))) (mSeq (mRet (mAndE (mB (cmpD .Eq) (mPl 6) (mTm (mTup (mCons (mTm (mK (.str "number"))) (mNil))))) (mB (cmpD .Eq) (mTm (mMeth "Gate" "stands" [true] g_Gate_stands (mPl 1) mNil)) (mTm (mB ixD (mPl 2) (mTm (mK (.int 1)))))))) (mSkip))) (mSkip)) [.ls (penL p), gC G Z L, .ls [G, Z, .int L], .sh (.int mode), .sh (.int t), .sh (.bool a), .no, .no] = some (.nx, [.ls (penL p), gC G Z L, .ls [G, Z, .int L], .sh (.int mode), .sh (.int t), .sh (.bool a), .no, .no]) := by
  generalize g_law_number = G1 at *
  walk_at "es"
theorem dd_4 (p : Pn) {G Z Z2 : PyData} {L t : Int} {a b : Bool} {s1 s2 : Str} (f : g_law_lets [.sh Z, .sh (.int t)] = some (.sh (.tuple [.bool b, Z2]), [.sh Z, .sh (.int t)])) (c : g_law_came [gC G Z L, .sh (.int t)] = some (.sh (.bool b), [gC G Z2 t, .sh (.int t)])) (r1 : reprG [.bool b] = some (.sh (.str s1))) (r2 : reprG [Z2] = some (.sh (.str s2))) :
    Wx ((mIf (mTst (mB (cmpD .Eq) (mPl 3) (mTm (mK (.int 0))))) (mSeq (mSet [0, 1, 2] 7 (mCall [true, true] g_law_lets (mCons (mTm (mB ixD (mPl 2) (mTm (mK (.int 1))))) (mCons (mPl 4) (mNil))))) (mSeq (mSet [0, 1, 2] 6 (mCall [true, true] g_law_came (mCons (mPl 1) (mCons (mPl 4) (mNil))))) (mSeq (mSetIx 2 (mB ixD (mPl 7) (mTm (mK (.int 1)))) (mTm (mK (.int 1)))) (mSeq (mSetIx 2 (mVar 4) (mTm (mK (.int 2)))) (mSeq (mRet (mAndE (mB (cmpD .Eq) (mTm (mOp reprG (mCons (mPl 6) (mNil)))) (mTm (mOp reprG (mCons (mTm (mB ixD (mPl 7) (mTm (mK (.int 0))))) (mNil))))) (mB (cmpD .Eq) (mTm (mOp reprG (mCons (mTm (mMeth "Gate" "stands" [true] g_Gate_stands (mPl 1) mNil)) (mNil)))) (mTm (mOp reprG (mCons (mTm (mB ixD (mPl 2) (mTm (mK (.int 1))))) (mNil))))))) (mSkip)))))) (mSkip)) [.ls (penL p), gC G Z L, .ls [G, Z, .int L], .sh (.int 0), .sh (.int t), .sh (.bool a), .no, .no]) fun f ε => f = .rt (.sh (.bool true)) ∧ ε = [.ls (penL p), gC G Z2 t, .ls [G, Z2, .int t], .sh (.int 0), .sh (.int t), .sh (.bool a), .sh (.bool b), .sh (.tuple [.bool b, Z2])] := by
  have s := stands_eq G Z2 t
  refine wx_if (b := true) (ε1 := [.ls (penL p), gC G Z L, .ls [G, Z, .int L], .sh (.int 0), .sh (.int t), .sh (.bool a), .no, .no]) ?_ (fun _ => ?_) (fun h => by cases h)
  · walk_at "ev"
  generalize g_law_lets = G1 at *
  generalize g_law_came = G2 at *
  generalize g_Gate_stands = G4 at *
  generalize reprG = RG at *
  apply wx_nx (ε1 := [.ls (penL p), gC G Z L, .ls [G, Z, .int L], .sh (.int 0), .sh (.int t), .sh (.bool a), .no, .sh (.tuple [.bool b, Z2])])
  · walk_at "es"
  apply wx_nx (ε1 := [.ls (penL p), gC G Z2 t, .ls [G, Z, .int L], .sh (.int 0), .sh (.int t), .sh (.bool a), .sh (.bool b), .sh (.tuple [.bool b, Z2])])
  · walk_at "es"
  apply wx_nx (ε1 := [.ls (penL p), gC G Z2 t, .ls [G, Z2, .int L], .sh (.int 0), .sh (.int t), .sh (.bool a), .sh (.bool b), .sh (.tuple [.bool b, Z2])])
  · clear f c r1 r2 s
    walk_at "ev"
  apply wx_nx (ε1 := [.ls (penL p), gC G Z2 t, .ls [G, Z2, .int t], .sh (.int 0), .sh (.int t), .sh (.bool a), .sh (.bool b), .sh (.tuple [.bool b, Z2])])
  · clear f c r1 r2 s
    walk_at "ev"
  refine wx_rt (c := .sh (.bool true)) (ε1 := [.ls (penL p), gC G Z2 t, .ls [G, Z2, .int t], .sh (.int 0), .sh (.int t), .sh (.bool a), .sh (.bool b), .sh (.tuple [.bool b, Z2])]) ?_ ⟨rfl, rfl⟩
  walk_at "es"
theorem dd_5 (p : Pn) {G Z : PyData} {L t : Int} {a : Bool} : (mIf (mTst (mB (cmpD .Eq) (mPl 3) (mTm (mK (.int 0))))) (mSeq (mSet [0, 1, 2] 7 (mCall [true, true] g_law_lets (mCons (mTm (mB ixD (mPl 2) (mTm (mK (.int 1))))) (mCons (mPl 4) (mNil))))) (mSeq (mSet [0, 1, 2] 6 (mCall [true, true] g_law_came (mCons (mPl 1) (mCons (mPl 4) (mNil))))) (mSeq (mSetIx 2 (mB ixD (mPl 7) (mTm (mK (.int 1)))) (mTm (mK (.int 1)))) (mSeq (mSetIx 2 (mVar 4) (mTm (mK (.int 2)))) (mSeq (mRet (mAndE (mB (cmpD .Eq) (mTm (mOp reprG (mCons (mPl 6) (mNil)))) (mTm (mOp reprG (mCons (mTm (mB ixD (mPl 7) (mTm (mK (.int 0))))) (mNil))))) (mB (cmpD .Eq) (mTm (mOp reprG (mCons (mTm (mMeth "Gate" "stands" [true] g_Gate_stands (mPl 1) mNil)) (mNil)))) (mTm (mOp reprG (mCons (mTm (mB ixD (mPl 2) (mTm (mK (.int 1))))) (mNil))))))) (mSkip)))))) (mSkip)) [.ls (penL p), gC G Z L, .ls [G, Z, .int L], .sh (.int 1), .sh (.int t), .sh (.bool a), .no, .no] = some (.nx, [.ls (penL p), gC G Z L, .ls [G, Z, .int L], .sh (.int 1), .sh (.int t), .sh (.bool a), .no, .no]) := by
  walk_at "ev"
theorem dd_7 (p : Pn) {G Z : PyData} {L t u n : Int} {a : Bool} (hz : Z = .tuple [.str "shut", .int u, .int n]) (w : g_law_was_told [gC G Z L, .sh (.int t), .sh (.bool a)] = some (.sh (.tuple [.str "step"]), [gC G Z L, .sh (.int t), .sh (.bool a)])) (hZ : cmpD .Eq Z Z = some (.sh (.bool true))) :
    Wx (((mSeq (mSet [0, 1, 2] 6 (mCall [true, true, true] g_law_was_told (mCons (mPl 1) (mCons (mPl 4) (mCons (mPl 5) (mNil)))))) (mSeq (mIf (mTst (mB (cmpD .Eq) (mTm (mB ixD (mTm (mB ixD (mPl 2) (mTm (mK (.int 1))))) (mTm (mK (.int 0))))) (mTm (mK (.str "shut"))))) (mSeq (mRet (mAndE (mB (cmpD .Eq) (mPl 6) (mTm (mTup (mCons (mTm (mK (.str "step"))) (mNil))))) (mB (cmpD .Eq) (mTm (mMeth "Gate" "stands" [true] g_Gate_stands (mPl 1) mNil)) (mTm (mB ixD (mPl 2) (mTm (mK (.int 1)))))))) (mSkip)) (mSkip)) (mSeq (mSetIx 2 (mCall [true, true, true, true] g_law_heard (mCons (mTm (mB ixD (mPl 2) (mTm (mK (.int 0))))) (mCons (mTm (mB ixD (mPl 2) (mTm (mK (.int 1))))) (mCons (mPl 4) (mCons (mPl 5) (mNil)))))) (mTm (mK (.int 1)))) (mSeq (mSetIx 2 (mVar 4) (mTm (mK (.int 2)))) (mSeq (mRet (mAndE (mB (cmpD .Is) (mPl 6) (mTm (mK .none))) (mB (cmpD .Eq) (mTm (mOp reprG (mCons (mTm (mMeth "Gate" "stands" [true] g_Gate_stands (mPl 1) mNil)) (mNil)))) (mTm (mOp reprG (mCons (mTm (mB ixD (mPl 2) (mTm (mK (.int 1))))) (mNil))))))) (mSkip))))))) [.ls (penL p), gC G Z L, .ls [G, Z, .int L], .sh (.int 1), .sh (.int t), .sh (.bool a), .no, .no]) fun f ε => f = .rt (.sh (.bool true)) ∧ ε = [.ls (penL p), gC G Z L, .ls [G, Z, .int L], .sh (.int 1), .sh (.int t), .sh (.bool a), .sh (.tuple [.str "step"]), .no] := by
  have s := stands_eq G Z L
  have t1 : cmpD .Eq (.tuple [.str "step"]) (.tuple [.str "step"]) = some (.sh (.bool true)) := eq_selfB (by decide +kernel)
  have m0 : cmpD .Eq (.str "shut") (.str "shut") = some (.sh (.bool true)) := by walk_at "ev"
  generalize g_law_was_told = G3 at *
  generalize g_Gate_stands = G4 at *
  generalize cmpD .Eq = EQ at *
  apply wx_nx (ε1 := [.ls (penL p), gC G Z L, .ls [G, Z, .int L], .sh (.int 1), .sh (.int t), .sh (.bool a), .sh (.tuple [.str "step"]), .no])
  · clear hz hZ t1 m0 s
    walk_at "es"
  refine wx_fl (f := .rt (.sh (.bool true))) (ε1 := [.ls (penL p), gC G Z L, .ls [G, Z, .int L], .sh (.int 1), .sh (.int t), .sh (.bool a), .sh (.tuple [.str "step"]), .no]) ?_ (by simp) ⟨rfl, rfl⟩
  subst hz
  walk_at "es"
theorem dd_8 (p : Pn) {G Z Z2 : PyData} {L t : Int} {a : Bool} {s2 : Str} {y : Str} {Y : List PyData} (hz : Z = .tuple (.str y :: Y)) (hy : cmpD .Eq (.str y) (.str "shut") = some (.sh (.bool false))) (w : g_law_was_told [gC G Z L, .sh (.int t), .sh (.bool a)] = some (.sh .none, [gC G Z2 t, .sh (.int t), .sh (.bool a)])) (f : g_law_heard [.sh G, .sh Z, .sh (.int t), .sh (.bool a)] = some (.sh Z2, [.sh G, .sh Z, .sh (.int t), .sh (.bool a)])) (r2 : reprG [Z2] = some (.sh (.str s2))) :
    Wx (((mSeq (mSet [0, 1, 2] 6 (mCall [true, true, true] g_law_was_told (mCons (mPl 1) (mCons (mPl 4) (mCons (mPl 5) (mNil)))))) (mSeq (mIf (mTst (mB (cmpD .Eq) (mTm (mB ixD (mTm (mB ixD (mPl 2) (mTm (mK (.int 1))))) (mTm (mK (.int 0))))) (mTm (mK (.str "shut"))))) (mSeq (mRet (mAndE (mB (cmpD .Eq) (mPl 6) (mTm (mTup (mCons (mTm (mK (.str "step"))) (mNil))))) (mB (cmpD .Eq) (mTm (mMeth "Gate" "stands" [true] g_Gate_stands (mPl 1) mNil)) (mTm (mB ixD (mPl 2) (mTm (mK (.int 1)))))))) (mSkip)) (mSkip)) (mSeq (mSetIx 2 (mCall [true, true, true, true] g_law_heard (mCons (mTm (mB ixD (mPl 2) (mTm (mK (.int 0))))) (mCons (mTm (mB ixD (mPl 2) (mTm (mK (.int 1))))) (mCons (mPl 4) (mCons (mPl 5) (mNil)))))) (mTm (mK (.int 1)))) (mSeq (mSetIx 2 (mVar 4) (mTm (mK (.int 2)))) (mSeq (mRet (mAndE (mB (cmpD .Is) (mPl 6) (mTm (mK .none))) (mB (cmpD .Eq) (mTm (mOp reprG (mCons (mTm (mMeth "Gate" "stands" [true] g_Gate_stands (mPl 1) mNil)) (mNil)))) (mTm (mOp reprG (mCons (mTm (mB ixD (mPl 2) (mTm (mK (.int 1))))) (mNil))))))) (mSkip))))))) [.ls (penL p), gC G Z L, .ls [G, Z, .int L], .sh (.int 1), .sh (.int t), .sh (.bool a), .no, .no]) fun f ε => f = .rt (.sh (.bool true)) ∧ ε = [.ls (penL p), gC G Z2 t, .ls [G, Z2, .int t], .sh (.int 1), .sh (.int t), .sh (.bool a), .sh .none, .no] := by
  have s := stands_eq G Z2 t
  generalize g_law_was_told = G3 at *
  generalize g_law_heard = G5 at *
  generalize g_Gate_stands = G4 at *
  generalize reprG = RG at *
  apply wx_nx (ε1 := [.ls (penL p), gC G Z2 t, .ls [G, Z, .int L], .sh (.int 1), .sh (.int t), .sh (.bool a), .sh .none, .no])
  · clear f r2 s hy hz
    walk_at "es"
  apply wx_nx (ε1 := [.ls (penL p), gC G Z2 t, .ls [G, Z, .int L], .sh (.int 1), .sh (.int t), .sh (.bool a), .sh .none, .no])
  · clear w f r2 s
    subst hz
    generalize cmpD .Eq = EQ at *
    walk_at "es"
  apply wx_nx (ε1 := [.ls (penL p), gC G Z2 t, .ls [G, Z2, .int L], .sh (.int 1), .sh (.int t), .sh (.bool a), .sh .none, .no])
  · clear w r2 s hy hz
    walk_at "es"
  apply wx_nx (ε1 := [.ls (penL p), gC G Z2 t, .ls [G, Z2, .int t], .sh (.int 1), .sh (.int t), .sh (.bool a), .sh .none, .no])
  · clear w f r2 s hy hz
    walk_at "ev"
  refine wx_rt (c := .sh (.bool true)) (ε1 := [.ls (penL p), gC G Z2 t, .ls [G, Z2, .int t], .sh (.int 1), .sh (.int t), .sh (.bool a), .sh .none, .no]) ?_ ⟨rfl, rfl⟩
  clear w f hy hz
  walk_at "es"
end KW
namespace KW
open PySem PySem.Spec PyProof.Rows L2 L2.M
local macro_rules | `(tactic| walk_at "ev") => `(tactic| simp [semF, shared, after, mSeq, mSkip, mIf, mRet, mRetN, mRetV, mSet, mSetIx, mExpr, mB, mU, mTm, mPl, mK, mVar, mOp, mCons, mNil, bor, bors, mTst, mAndT, mOrT, mNotT, mAndE, mOrE, mNotE, mIfE, mIsi, isiD, mChn, chnL, cmpD, binD, addD, subD, mulD, modD, fdivD, powD, eqD, neD, ltD, leD, gtD, geD, isD, isnD, L2.M.isNon, negD, ixD, Bf.f, Bg.f, lenD, L2.M.intD, maxD, minD, repD, strD, gmaxD, gminD, sumD, sortD, anyD, allD, mCall, frz, fzO, lend, wb, mTup, mLst, fzs, cD, mAsg, bTup, bTps, mApp, tupD, lstD, mRev, revD, ofs_inj, ee_ii, ee_ss, ee_bb, ee_nn, ee_is, ee_si, ee_in, ee_ni, ee_tt, ee_ll, ee_maps, ee_0, ee_1, ee_2, ee_3, at_lit, at_nat, at_m1, at_m2, scD, emD, sizeLine_eq, ixN, sm_lit, mSrc, itemsD, plOf, rng1D, bNm, mSl, mPt, mNoP, slD, mPar, keepT, tmsO, setA, mFlow, zipX, enumX, itemsX, intsOf, ints_all, boolsOf, shaped_lay, lay_int, lay_bool, lay_none, lay_dict, lay_tup, lay_list, lay_ints, sortX_ints, mPlF, mPlI, mRd, mPU, mPB, mFSet, mFNew, mNSet, mPApp, mPSetIx, mPPop, mMeth, mNew, isIns, cellO, mLstN, mAddN, mAppN, semX, mTold, mCallX, mMethX, xFSet, mMethP, oneC, xRet, xExpr, xSet, mRaise, mM, isL, isS, mOrV, truD])
local macro_rules | `(tactic| walk_at "es") => `(tactic| simp [semF, shared, after, mSeq, mSkip, mIf, mRet, mRetN, mRetV, mSet, mSetIx, mExpr, mB, mU, mTm, mPl, mK, mVar, mOp, mCons, mNil, bor, bors, mTst, mAndT, mOrT, mNotT, mAndE, mOrE, mNotE, mIfE, mIsi, isiD, mChn, chnL, cmpD, binD, addD, subD, mulD, modD, fdivD, powD, eqD, neD, ltD, leD, gtD, geD, isD, isnD, L2.M.isNon, negD, ixD, Bf.f, Bg.f, lenD, L2.M.intD, maxD, minD, repD, strD, gmaxD, gminD, sumD, sortD, anyD, allD, mCall, frz, fzO, lend, wb, mTup, mLst, fzs, cD, mAsg, bTup, bTps, mApp, tupD, lstD, mRev, revD, ofs_inj, ee_ii, ee_ss, ee_bb, ee_nn, ee_is, ee_si, ee_in, ee_ni, ee_tt, ee_ll, ee_maps, ee_0, ee_1, ee_2, ee_3, at_lit, at_nat, at_m1, at_m2, scD, emD, sizeLine_eq, ixN, sm_lit, mSrc, itemsD, plOf, rng1D, bNm, mSl, mPt, mNoP, slD, mPar, keepT, tmsO, setA, mFlow, zipX, enumX, itemsX, intsOf, ints_all, boolsOf, shaped_lay, lay_int, lay_bool, lay_none, lay_dict, lay_tup, lay_list, lay_ints, sortX_ints, mPlF, mPlI, mRd, mPU, mPB, mFSet, mFNew, mNSet, mPApp, mPSetIx, mPPop, mMeth, mNew, isIns, cellO, mLstN, mAddN, mAppN, semX, mTold, mCallX, mMethX, xFSet, mMethP, oneC, xRet, xExpr, xSet, mRaise, mM, isL, isS, mOrV, truD, *])
local macro_rules | `(tactic| walk_at "el") => `(tactic| simp [semF, shared, after, mSeq, mSkip, mIf, mRet, mRetN, mRetV, mSet, mSetIx, mExpr, mB, mU, mTm, mPl, mK, mVar, mOp, mCons, mNil, bor, bors, mTst, mAndT, mOrT, mNotT, mAndE, mOrE, mNotE, mIfE, mIsi, isiD, mChn, chnL, cmpD, binD, addD, subD, mulD, modD, fdivD, powD, eqD, neD, ltD, leD, gtD, geD, isD, isnD, L2.M.isNon, negD, ixD, Bf.f, Bg.f, lenD, L2.M.intD, maxD, minD, repD, strD, gmaxD, gminD, sumD, sortD, anyD, allD, mCall, frz, fzO, lend, wb, mTup, mLst, fzs, cD, mAsg, bTup, bTps, mApp, tupD, lstD, mRev, revD, ofs_inj, ee_ii, ee_ss, ee_bb, ee_nn, ee_is, ee_si, ee_in, ee_ni, ee_tt, ee_ll, ee_maps, ee_0, ee_1, ee_2, ee_3, at_lit, at_nat, at_m1, at_m2, scD, emD, sizeLine_eq, ixN, sm_lit, mSrc, itemsD, plOf, rng1D, bNm, mSl, mPt, mNoP, slD, mPar, keepT, tmsO, setA, mFlow, zipX, enumX, itemsX, intsOf, ints_all, boolsOf, shaped_lay, lay_int, lay_bool, lay_none, lay_dict, lay_tup, lay_list, lay_ints, sortX_ints, mPlF, mPlI, mRd, mPU, mPB, mFSet, mFNew, mNSet, mPApp, mPSetIx, mPPop, mMeth, mNew, isIns, cellO, mLstN, mAddN, mAppN, semX, mTold, mCallX, mMethX, xFSet, mMethP, oneC, xRet, xExpr, xSet, mRaise, mM, isL, isS, mOrV, truD, mLc, lcL, sameC, wipeC, restC, mYes, *])
local macro_rules | `(tactic| walk_at "ef") => `(tactic| simp [semF, shared, after, mSeq, mSkip, mIf, mRet, mRetN, mRetV, mSet, mSetIx, mExpr, mB, mU, mTm, mPl, mK, mVar, mOp, mCons, mNil, bor, bors, mTst, mAndT, mOrT, mNotT, mAndE, mOrE, mNotE, mIfE, mIsi, isiD, mChn, chnL, cmpD, binD, addD, subD, mulD, modD, fdivD, powD, eqD, neD, ltD, leD, gtD, geD, isD, isnD, L2.M.isNon, negD, ixD, Bf.f, Bg.f, lenD, L2.M.intD, maxD, minD, repD, strD, gmaxD, gminD, sumD, sortD, anyD, allD, mCall, frz, fzO, lend, wb, mTup, mLst, fzs, cD, mAsg, bTup, bTps, mApp, tupD, lstD, mRev, revD, ofs_inj, ee_ii, ee_ss, ee_bb, ee_nn, ee_is, ee_si, ee_in, ee_ni, ee_tt, ee_ll, ee_maps, ee_0, ee_1, ee_2, ee_3, at_lit, at_nat, at_m1, at_m2, scD, emD, sizeLine_eq, ixN, sm_lit, mSrc, itemsD, plOf, rng1D, bNm, mSl, mPt, mNoP, slD, mPar, keepT, tmsO, setA, mFlow, zipX, enumX, itemsX, intsOf, ints_all, boolsOf, shaped_lay, lay_int, lay_bool, lay_none, lay_dict, lay_tup, lay_list, lay_ints, sortX_ints, mPlF, mPlI, mRd, mPU, mPB, mFSet, mFNew, mNSet, mPApp, mPSetIx, mPPop, mMeth, mNew, isIns, cellO, mLstN, mAddN, mAppN, semX, mTold, mCallX, mMethX, xFSet, mMethP, oneC, xRet, xExpr, xSet, mRaise, mM, isL, isS, mOrV, truD, mFor, forL, mLc, lcL, sameC, wipeC, restC, mYes, *])
local macro_rules | `(tactic| walk_at "rg") => `(tactic| (and_intros <;> grind))
local macro_rules | `(tactic| walk_at "nx") => `(tactic| (apply wx_nx; focus (walk_at "ev"; try first | exact ⟨rfl, rfl⟩ | rfl)))
local macro_rules | `(tactic| walk_at "ns") => `(tactic| (apply wx_nx; focus (walk_at "es"; try first | exact ⟨rfl, rfl⟩ | rfl)))
local macro_rules | `(tactic| walk_at "rt") => `(tactic| (apply wx_rt; focus (walk_at "ev"; try first | exact ⟨rfl, rfl⟩ | rfl)))
local macro_rules | `(tactic| walk_at "rs") => `(tactic| (apply wx_rt; focus (walk_at "es"; try first | exact ⟨rfl, rfl⟩ | rfl)))
local macro_rules | `(tactic| walk_at "ed") => `(tactic| simp [semF, shared, after, mSeq, mSkip, mIf, mRet, mRetN, mRetV, mSet, mSetIx, mExpr, mB, mU, mTm, mPl, mK, mVar, mOp, mCons, mNil, bor, bors, mTst, mAndT, mOrT, mNotT, mAndE, mOrE, mNotE, mIfE, mIsi, isiD, mChn, chnL, cmpD, binD, addD, subD, mulD, modD, fdivD, powD, eqD, neD, ltD, leD, gtD, geD, isD, isnD, L2.M.isNon, negD, ixD, Bf.f, Bg.f, lenD, L2.M.intD, maxD, minD, repD, strD, gmaxD, gminD, sumD, sortD, anyD, allD, mCall, frz, fzO, lend, wb, mTup, mLst, fzs, cD, mAsg, bTup, bTps, mApp, tupD, lstD, mRev, revD, ofs_inj, ee_ii, ee_ss, ee_bb, ee_nn, ee_is, ee_si, ee_in, ee_ni, ee_tt, ee_ll, ee_maps, ee_0, ee_1, ee_2, ee_3, at_lit, at_nat, at_m1, at_m2, scD, emD, sizeLine_eq, ixN, sm_lit, mSrc, itemsD, plOf, rng1D, bNm, mSl, mPt, mNoP, slD, mPar, keepT, tmsO, setA, mFlow, zipX, enumX, itemsX, intsOf, ints_all, boolsOf, shaped_lay, lay_int, lay_bool, lay_none, lay_dict, lay_tup, lay_list, lay_ints, sortX_ints, mPlF, mPlI, mRd, mPU, mPB, mFSet, mFNew, mNSet, mPApp, mPSetIx, mPPop, mMeth, mNew, isIns, cellO, mLstN, mAddN, mAppN, semX, mTold, mCallX, mMethX, xFSet, mMethP, oneC, xRet, xExpr, xSet, mRaise, mM, isL, isS, mOrV, truD, mDNew, mDIn, mDGet, mDLen, mDPut, kyD, mNNew, mN1, mTake, mFnV, mCallF, mNIn, mNGet, mNPut, mNVals, mNList, nKs, mDGetD, mDList, mNNe, *])
theorem zd_eq (z : Sg) : cmpD .Eq z.d z.d = some (.sh (.bool true)) := eq_selfB (by rw [shaped_lay]; cases z <;> simp [Sg.d, lay_tup, lay_int] <;> decide +kernel)
theorem bool_repr (b : Bool) : ∃ s : Str, reprG [.bool b] = some (.sh (.str s)) := ⟨_, reprG_eq (shw_bool 0 b) (by decide) (by rw [sizeLine_eq]; decide)⟩
theorem sg_repr {z : Sg} (h : SgB z) : ∃ s : Str, reprG [z.d] = some (.sh (.str s)) := ⟨_, reprG_eq (sg_shw h) (by decide) (by rw [sizeLine_eq]; decide)⟩
theorem deed_eq {F R T M N : Int} (G : Gt F R T M N) {z : Sg} (hz : SgV F R M N z) {L : Int} (l0 : 0 ≤ L) (l1 : L ≤ 1000000) (p : Pn) : Rt (g_law_deed_right [.ls (penL p), gC (gt5 F R T M N) z.d L, .ls [gt5 F R T M N, z.d, .int L]]) fun c cs => c = .sh (.bool true) ∧ ∃ (z' : Sg) (L' : Int) (p' : Pn), SgV F R M N z' ∧ 0 ≤ L' ∧ L' ≤ 1000000 ∧ cs = [.ls (penL p'), gC (gt5 F R T M N) z'.d L', .ls [gt5 F R T M N, z'.d, .int L']] := by
  unfold g_law_deed_right m_law_deed_right
  apply rt_sem rfl
  obtain ⟨mode, a, d, p1, hm, e1⟩ := dd_1 p (gC (gt5 F R T M N) z.d L) (.ls [gt5 F R T M N, z.d, .int L]) L rfl rfl
  apply wx_nx e1
  clear e1
  have n := number_eq d L
  have f := from_d d L
  cases hb : nB d L with
  | false =>
    rw [hb] at n f
    have c := came_no (come_no (check_no (G := gt5 F R T M N) (Z := z.d) f))
    have w := told_no (a := a) rf_N (hear_no (check_no (G := gt5 F R T M N) (Z := z.d) f))
    refine wx_fl (f := .rt (.sh (.bool true))) (dd_2 p1 hm n c w (zd_eq z)) (by simp) ⟨rfl, z, L, p1, hz, l0, l1, rfl⟩
  | true =>
    rw [hb] at n f
    obtain ⟨t, rfl, t0, t1⟩ : ∃ t, d = .int t ∧ L ≤ t ∧ t ≤ 1000000 := by
      unfold nB at hb
      split at hb
      · rename_i t
        rw [Bool.and_eq_true, decide_eq_true_eq, decide_eq_true_eq] at hb
        exact ⟨t, rfl, hb.1, hb.2⟩
      · cases hb
    have ck := check_yes (G := gt5 F R T M N) (Z := z.d) f
    apply wx_nx (dd_3 p1 n)
    rcases hm with rfl | rfl
    · have hv := letS_v G hz t
      obtain ⟨s1, r1⟩ := bool_repr (letT z t)
      obtain ⟨s2, r2⟩ := sg_repr (SgV.b G hv)
      have c := came_yes (come_yes ck (lets_eq (gt5 F R T M N) z t))
      have f4 := dd_4 p1 (G := gt5 F R T M N) (L := L) (a := a) (law_lets_eq z t) c r1 r2
      apply wx_seq
      refine wx_mono f4 ?_
      rintro f ε ⟨rfl, rfl⟩
      exact ⟨rfl, letS z t, t, p1, hv, by omega, t1, rfl⟩
    · apply wx_nx (dd_5 p1)
      cases hs : isShut z with
      | true =>
        cases z with
        | op b => cases hs
        | tr g n => cases hs
        | sh u m =>
          have w := told_no rf_S (hear_step (a := a) ck (heard_no F R T M N u m t a))
          refine wx_mono (dd_7 p1 (G := gt5 F R T M N) rfl w (zd_eq (.sh u m))) ?_
          rintro f ε ⟨rfl, rfl⟩
          exact ⟨rfl, .sh u m, L, p1, hz, l0, l1, rfl⟩
      | false =>
        have hv := hrd_v G hz (t := t) (by omega) t1 a
        obtain ⟨s2, r2⟩ := sg_repr (SgV.b G hv)
        have w := told_yes (hear_yes (a := a) ck (heard_eq G hs (SgV.b G hz) t a))
        have f8 := law_heard_eq G hs (SgV.b G hz) t a
        obtain ⟨y, Y, ey, hy⟩ : ∃ (y : Str) (Y : List PyData), z.d = .tuple (.str y :: Y) ∧ cmpD .Eq (.str y) (.str "shut") = some (.sh (.bool false)) := by
          cases z with
          | op b => exact ⟨"open", _, rfl, by walk_at "ev"⟩
          | sh u m => cases hs
          | tr g n => exact ⟨"trying", _, rfl, by walk_at "ev"⟩
        refine wx_mono (dd_8 p1 ey hy w f8 r2) ?_
        rintro f ε ⟨rfl, rfl⟩
        exact ⟨rfl, _, t, p1, hv, by omega, t1, rfl⟩
end KW
namespace KW
open PySem PySem.Spec PyProof.Rows L2 L2.M
local macro_rules | `(tactic| walk_at "ev") => `(tactic| simp [semF, shared, after, mSeq, mSkip, mIf, mRet, mRetN, mRetV, mSet, mSetIx, mExpr, mB, mU, mTm, mPl, mK, mVar, mOp, mCons, mNil, bor, bors, mTst, mAndT, mOrT, mNotT, mAndE, mOrE, mNotE, mIfE, mIsi, isiD, mChn, chnL, cmpD, binD, addD, subD, mulD, modD, fdivD, powD, eqD, neD, ltD, leD, gtD, geD, isD, isnD, L2.M.isNon, negD, ixD, Bf.f, Bg.f, lenD, L2.M.intD, maxD, minD, repD, strD, gmaxD, gminD, sumD, sortD, anyD, allD, mCall, frz, fzO, lend, wb, mTup, mLst, fzs, cD, mAsg, bTup, bTps, mApp, tupD, lstD, mRev, revD, ofs_inj, ee_ii, ee_ss, ee_bb, ee_nn, ee_is, ee_si, ee_in, ee_ni, ee_tt, ee_ll, ee_maps, ee_0, ee_1, ee_2, ee_3, at_lit, at_nat, at_m1, at_m2, scD, emD, sizeLine_eq, ixN, sm_lit, mSrc, itemsD, plOf, rng1D, bNm, mSl, mPt, mNoP, slD, mPar, keepT, tmsO, setA, mFlow, zipX, enumX, itemsX, intsOf, ints_all, boolsOf, shaped_lay, lay_int, lay_bool, lay_none, lay_dict, lay_tup, lay_list, lay_ints, sortX_ints, mPlF, mPlI, mRd, mPU, mPB, mFSet, mFNew, mNSet, mPApp, mPSetIx, mPPop, mMeth, mNew, isIns, cellO, mLstN, mAddN, mAppN, semX, mTold, mCallX, mMethX, xFSet, mMethP, oneC, xRet, xExpr, xSet, mRaise, mM, isL, isS, mOrV, truD])
local macro_rules | `(tactic| walk_at "es") => `(tactic| simp [semF, shared, after, mSeq, mSkip, mIf, mRet, mRetN, mRetV, mSet, mSetIx, mExpr, mB, mU, mTm, mPl, mK, mVar, mOp, mCons, mNil, bor, bors, mTst, mAndT, mOrT, mNotT, mAndE, mOrE, mNotE, mIfE, mIsi, isiD, mChn, chnL, cmpD, binD, addD, subD, mulD, modD, fdivD, powD, eqD, neD, ltD, leD, gtD, geD, isD, isnD, L2.M.isNon, negD, ixD, Bf.f, Bg.f, lenD, L2.M.intD, maxD, minD, repD, strD, gmaxD, gminD, sumD, sortD, anyD, allD, mCall, frz, fzO, lend, wb, mTup, mLst, fzs, cD, mAsg, bTup, bTps, mApp, tupD, lstD, mRev, revD, ofs_inj, ee_ii, ee_ss, ee_bb, ee_nn, ee_is, ee_si, ee_in, ee_ni, ee_tt, ee_ll, ee_maps, ee_0, ee_1, ee_2, ee_3, at_lit, at_nat, at_m1, at_m2, scD, emD, sizeLine_eq, ixN, sm_lit, mSrc, itemsD, plOf, rng1D, bNm, mSl, mPt, mNoP, slD, mPar, keepT, tmsO, setA, mFlow, zipX, enumX, itemsX, intsOf, ints_all, boolsOf, shaped_lay, lay_int, lay_bool, lay_none, lay_dict, lay_tup, lay_list, lay_ints, sortX_ints, mPlF, mPlI, mRd, mPU, mPB, mFSet, mFNew, mNSet, mPApp, mPSetIx, mPPop, mMeth, mNew, isIns, cellO, mLstN, mAddN, mAppN, semX, mTold, mCallX, mMethX, xFSet, mMethP, oneC, xRet, xExpr, xSet, mRaise, mM, isL, isS, mOrV, truD, *])
local macro_rules | `(tactic| walk_at "el") => `(tactic| simp [semF, shared, after, mSeq, mSkip, mIf, mRet, mRetN, mRetV, mSet, mSetIx, mExpr, mB, mU, mTm, mPl, mK, mVar, mOp, mCons, mNil, bor, bors, mTst, mAndT, mOrT, mNotT, mAndE, mOrE, mNotE, mIfE, mIsi, isiD, mChn, chnL, cmpD, binD, addD, subD, mulD, modD, fdivD, powD, eqD, neD, ltD, leD, gtD, geD, isD, isnD, L2.M.isNon, negD, ixD, Bf.f, Bg.f, lenD, L2.M.intD, maxD, minD, repD, strD, gmaxD, gminD, sumD, sortD, anyD, allD, mCall, frz, fzO, lend, wb, mTup, mLst, fzs, cD, mAsg, bTup, bTps, mApp, tupD, lstD, mRev, revD, ofs_inj, ee_ii, ee_ss, ee_bb, ee_nn, ee_is, ee_si, ee_in, ee_ni, ee_tt, ee_ll, ee_maps, ee_0, ee_1, ee_2, ee_3, at_lit, at_nat, at_m1, at_m2, scD, emD, sizeLine_eq, ixN, sm_lit, mSrc, itemsD, plOf, rng1D, bNm, mSl, mPt, mNoP, slD, mPar, keepT, tmsO, setA, mFlow, zipX, enumX, itemsX, intsOf, ints_all, boolsOf, shaped_lay, lay_int, lay_bool, lay_none, lay_dict, lay_tup, lay_list, lay_ints, sortX_ints, mPlF, mPlI, mRd, mPU, mPB, mFSet, mFNew, mNSet, mPApp, mPSetIx, mPPop, mMeth, mNew, isIns, cellO, mLstN, mAddN, mAppN, semX, mTold, mCallX, mMethX, xFSet, mMethP, oneC, xRet, xExpr, xSet, mRaise, mM, isL, isS, mOrV, truD, mLc, lcL, sameC, wipeC, restC, mYes, *])
local macro_rules | `(tactic| walk_at "ef") => `(tactic| simp [semF, shared, after, mSeq, mSkip, mIf, mRet, mRetN, mRetV, mSet, mSetIx, mExpr, mB, mU, mTm, mPl, mK, mVar, mOp, mCons, mNil, bor, bors, mTst, mAndT, mOrT, mNotT, mAndE, mOrE, mNotE, mIfE, mIsi, isiD, mChn, chnL, cmpD, binD, addD, subD, mulD, modD, fdivD, powD, eqD, neD, ltD, leD, gtD, geD, isD, isnD, L2.M.isNon, negD, ixD, Bf.f, Bg.f, lenD, L2.M.intD, maxD, minD, repD, strD, gmaxD, gminD, sumD, sortD, anyD, allD, mCall, frz, fzO, lend, wb, mTup, mLst, fzs, cD, mAsg, bTup, bTps, mApp, tupD, lstD, mRev, revD, ofs_inj, ee_ii, ee_ss, ee_bb, ee_nn, ee_is, ee_si, ee_in, ee_ni, ee_tt, ee_ll, ee_maps, ee_0, ee_1, ee_2, ee_3, at_lit, at_nat, at_m1, at_m2, scD, emD, sizeLine_eq, ixN, sm_lit, mSrc, itemsD, plOf, rng1D, bNm, mSl, mPt, mNoP, slD, mPar, keepT, tmsO, setA, mFlow, zipX, enumX, itemsX, intsOf, ints_all, boolsOf, shaped_lay, lay_int, lay_bool, lay_none, lay_dict, lay_tup, lay_list, lay_ints, sortX_ints, mPlF, mPlI, mRd, mPU, mPB, mFSet, mFNew, mNSet, mPApp, mPSetIx, mPPop, mMeth, mNew, isIns, cellO, mLstN, mAddN, mAppN, semX, mTold, mCallX, mMethX, xFSet, mMethP, oneC, xRet, xExpr, xSet, mRaise, mM, isL, isS, mOrV, truD, mFor, forL, mLc, lcL, sameC, wipeC, restC, mYes, *])
local macro_rules | `(tactic| walk_at "rg") => `(tactic| (and_intros <;> grind))
local macro_rules | `(tactic| walk_at "nx") => `(tactic| (apply wx_nx; focus (walk_at "ev"; try first | exact ⟨rfl, rfl⟩ | rfl)))
local macro_rules | `(tactic| walk_at "ns") => `(tactic| (apply wx_nx; focus (walk_at "es"; try first | exact ⟨rfl, rfl⟩ | rfl)))
local macro_rules | `(tactic| walk_at "rt") => `(tactic| (apply wx_rt; focus (walk_at "ev"; try first | exact ⟨rfl, rfl⟩ | rfl)))
local macro_rules | `(tactic| walk_at "rs") => `(tactic| (apply wx_rt; focus (walk_at "es"; try first | exact ⟨rfl, rfl⟩ | rfl)))
local macro_rules | `(tactic| walk_at "ed") => `(tactic| simp [semF, shared, after, mSeq, mSkip, mIf, mRet, mRetN, mRetV, mSet, mSetIx, mExpr, mB, mU, mTm, mPl, mK, mVar, mOp, mCons, mNil, bor, bors, mTst, mAndT, mOrT, mNotT, mAndE, mOrE, mNotE, mIfE, mIsi, isiD, mChn, chnL, cmpD, binD, addD, subD, mulD, modD, fdivD, powD, eqD, neD, ltD, leD, gtD, geD, isD, isnD, L2.M.isNon, negD, ixD, Bf.f, Bg.f, lenD, L2.M.intD, maxD, minD, repD, strD, gmaxD, gminD, sumD, sortD, anyD, allD, mCall, frz, fzO, lend, wb, mTup, mLst, fzs, cD, mAsg, bTup, bTps, mApp, tupD, lstD, mRev, revD, ofs_inj, ee_ii, ee_ss, ee_bb, ee_nn, ee_is, ee_si, ee_in, ee_ni, ee_tt, ee_ll, ee_maps, ee_0, ee_1, ee_2, ee_3, at_lit, at_nat, at_m1, at_m2, scD, emD, sizeLine_eq, ixN, sm_lit, mSrc, itemsD, plOf, rng1D, bNm, mSl, mPt, mNoP, slD, mPar, keepT, tmsO, setA, mFlow, zipX, enumX, itemsX, intsOf, ints_all, boolsOf, shaped_lay, lay_int, lay_bool, lay_none, lay_dict, lay_tup, lay_list, lay_ints, sortX_ints, mPlF, mPlI, mRd, mPU, mPB, mFSet, mFNew, mNSet, mPApp, mPSetIx, mPPop, mMeth, mNew, isIns, cellO, mLstN, mAddN, mAppN, semX, mTold, mCallX, mMethX, xFSet, mMethP, oneC, xRet, xExpr, xSet, mRaise, mM, isL, isS, mOrV, truD, mDNew, mDIn, mDGet, mDLen, mDPut, kyD, mNNew, mN1, mTake, mFnV, mCallF, mNIn, mNGet, mNPut, mNVals, mNList, nKs, mDGetD, mDList, mNNe, *])
theorem other_eq (p : Pn) {G1 : PyData} (h1 : ∃ F R T M N, Gt F R T M N ∧ G1 = gt5 F R T M N) (c0 c1 c4 c5 c6 c7 c8 : C) : ∃ (G2 : PyData) (p' : Pn), (∃ F R T M N, Gt F R T M N ∧ G2 = gt5 F R T M N) ∧ (mSet [] 4 (mB ixD (mTm (mLst (mCons (mPl 3) (mCons (mTm (mCall [true] g_law_gate (mCons (mPl 2) (mNil)))) (mNil))))) (mTm (mCall [true, true] g_law_draw (mCons (mPl 2) (mCons (mTm (mK (.int 2))) (mNil))))))) [c0, c1, .ls (penL p), .sh G1, c4, c5, c6, c7, c8] = some (.nx, [c0, c1, .ls (penL p'), .sh G1, .sh G2, c5, c6, c7, c8]) := by
  obtain ⟨_, _, e, F, R, T, M, N, p1, g, rfl, rfl⟩ := law_gate_eq p
  have c2 := dr_ab p1 2 (by decide)
  generalize g_law_gate = GG at *
  by_cases h : dr p1 2 = 0
  · refine ⟨G1, dn p1 2, h1, ?_⟩
    clear h1 g c2
    walk_at "es"
  · have h : dr p1 2 = 1 := by omega
    refine ⟨gt5 F R T M N, dn p1 2, ⟨F, R, T, M, N, g, rfl⟩, ?_⟩
    clear h1 g c2
    generalize gt5 F R T M N = G2 at *
    walk_at "es"
theorem gates_eq (G1 G2 : PyData) (c0 c1 c2 c5 c6 c7 c8 : C) : (mSet [] 5 (mLstN (mCons (mTm (mNew "Gate" [true] g_Gate___init__ (mCons (mPl 3) (mNil)))) (mCons (mTm (mNew "Gate" [true] g_Gate___init__ (mCons (mPl 4) (mNil)))) (mNil))))) [c0, c1, c2, .sh G1, .sh G2, c5, c6, c7, c8] = some (.nx, [c0, c1, c2, .sh G1, .sh G2, .ob .ls [gC G1 (Sg.op 0).d 0, gC G2 (Sg.op 0).d 0], c6, c7, c8]) := by
  have e1 := init_eq G1
  have e2 := init_eq G2
  generalize g_Gate___init__ = GI at *
  generalize gC G1 (Sg.op 0).d 0 = A1 at *
  generalize gC G2 (Sg.op 0).d 0 = A2 at *
  walk_at "es"
theorem kept_eq (G1 G2 : PyData) (c0 c1 c2 c5 c6 c7 c8 : C) : (mSet [] 6 (mLstN (mCons (mTm (mLst (mCons (mPl 3) (mCons (mTm (mTup (mCons (mTm (mK (.str "open"))) (mCons (mTm (mK (.int 0))) (mNil))))) (mCons (mTm (mK (.int 0))) (mNil)))))) (mCons (mTm (mLst (mCons (mPl 4) (mCons (mTm (mTup (mCons (mTm (mK (.str "open"))) (mCons (mTm (mK (.int 0))) (mNil))))) (mCons (mTm (mK (.int 0))) (mNil)))))) (mNil))))) [c0, c1, c2, .sh G1, .sh G2, c5, c6, c7, c8] = some (.nx, [c0, c1, c2, .sh G1, .sh G2, c5, .ob .ls [.ls [G1, (Sg.op 0).d, .int 0], .ls [G2, (Sg.op 0).d, .int 0]], c7, c8]) := by
  have e : (Sg.op 0).d = .tuple [.str "open", .int 0] := rfl
  rw [e]
  clear e
  walk_at "ev"
theorem cl_0 {P P' : List PyData} {a1 a2 b1 b2 d1 q1 : C} (e : g_law_deed_right [.ls P, a1, b1] = some (.sh (.bool true), [.ls P', d1, q1])) (c0 c1 c3 c4 c7 : C) : (mIf (mNotT (mTst (mCall2P g_law_deed_right 2 5 6 8))) (mSeq (mRet (mK (.bool false))) (mSkip)) (mSkip)) [c0, c1, .ls P, c3, c4, .ob .ls [a1, a2], .ob .ls [b1, b2], c7, .sh (.int 0)] = some (.nx, [c0, c1, .ls P', c3, c4, .ob .ls [d1, a2], .ob .ls [q1, b2], c7, .sh (.int 0)]) := by
  have k : mCall2P g_law_deed_right 2 5 6 8 [c0, c1, .ls P, c3, c4, .ob .ls [a1, a2], .ob .ls [b1, b2], c7, .sh (.int 0)] = some (.sh (.bool true), [c0, c1, .ls P', c3, c4, .ob .ls [d1, a2], .ob .ls [q1, b2], c7, .sh (.int 0)]) := by
    generalize g_law_deed_right = G at *
    simp [mCall2P, e, isNoC]
  clear e
  generalize mCall2P _ _ _ _ _ = M at *
  walk_at "es"
theorem cl_1 {P P' : List PyData} {a1 a2 b1 b2 d1 q1 : C} (e : g_law_deed_right [.ls P, a2, b2] = some (.sh (.bool true), [.ls P', d1, q1])) (c0 c1 c3 c4 c7 : C) : (mIf (mNotT (mTst (mCall2P g_law_deed_right 2 5 6 8))) (mSeq (mRet (mK (.bool false))) (mSkip)) (mSkip)) [c0, c1, .ls P, c3, c4, .ob .ls [a1, a2], .ob .ls [b1, b2], c7, .sh (.int 1)] = some (.nx, [c0, c1, .ls P', c3, c4, .ob .ls [a1, d1], .ob .ls [b1, q1], c7, .sh (.int 1)]) := by
  have k : mCall2P g_law_deed_right 2 5 6 8 [c0, c1, .ls P, c3, c4, .ob .ls [a1, a2], .ob .ls [b1, b2], c7, .sh (.int 1)] = some (.sh (.bool true), [c0, c1, .ls P', c3, c4, .ob .ls [a1, d1], .ob .ls [b1, q1], c7, .sh (.int 1)]) := by
    generalize g_law_deed_right = G at *
    simp [mCall2P, e, isNoC]
  clear e
  generalize mCall2P _ _ _ _ _ = M at *
  walk_at "es"
theorem st_0 {P : List PyData} {G Z : PyData} {L : Int} {s : Str} (r : reprG [Z] = some (.sh (.str s))) (a1 b1 c0 c1 c3 c4 c7 : C) : (mIf (mTst (mB (cmpD .NotEq) (mTm (mOp reprG (mCons (mTm (mMethP "Gate" "stands" g_Gate_stands (mPlI 5 (mTm (mB (binD .Sub) (mTm (mK (.int 1))) (mPl 8)))))) (mNil)))) (mTm (mOp reprG (mCons (mTm (mPB ixD (mPlI 6 (mTm (mB (binD .Sub) (mTm (mK (.int 1))) (mPl 8)))) (mTm (mK (.int 1))))) (mNil)))))) (mSeq (mRet (mK (.bool false))) (mSkip)) (mSkip)) [c0, c1, .ls P, c3, c4, .ob .ls [a1, gC G Z L], .ob .ls [b1, .ls [G, Z, .int L]], c7, .sh (.int 0)] = some (.nx, [c0, c1, .ls P, c3, c4, .ob .ls [a1, gC G Z L], .ob .ls [b1, .ls [G, Z, .int L]], c7, .sh (.int 0)]) := by
  have e := stands_eq G Z L
  generalize g_Gate_stands = F at *
  generalize reprG = RG at *
  walk_at "es"
theorem st_1 {P : List PyData} {G Z : PyData} {L : Int} {s : Str} (r : reprG [Z] = some (.sh (.str s))) (a2 b2 c0 c1 c3 c4 c7 : C) : (mIf (mTst (mB (cmpD .NotEq) (mTm (mOp reprG (mCons (mTm (mMethP "Gate" "stands" g_Gate_stands (mPlI 5 (mTm (mB (binD .Sub) (mTm (mK (.int 1))) (mPl 8)))))) (mNil)))) (mTm (mOp reprG (mCons (mTm (mPB ixD (mPlI 6 (mTm (mB (binD .Sub) (mTm (mK (.int 1))) (mPl 8)))) (mTm (mK (.int 1))))) (mNil)))))) (mSeq (mRet (mK (.bool false))) (mSkip)) (mSkip)) [c0, c1, .ls P, c3, c4, .ob .ls [gC G Z L, a2], .ob .ls [.ls [G, Z, .int L], b2], c7, .sh (.int 1)] = some (.nx, [c0, c1, .ls P, c3, c4, .ob .ls [gC G Z L, a2], .ob .ls [.ls [G, Z, .int L], b2], c7, .sh (.int 1)]) := by
  have e := stands_eq G Z L
  generalize g_Gate_stands = F at *
  generalize reprG = RG at *
  walk_at "es"
end KW
namespace KW
open PySem PySem.Spec PyProof.Rows L2 L2.M
local macro_rules | `(tactic| walk_at "ev") => `(tactic| simp [semF, shared, after, mSeq, mSkip, mIf, mRet, mRetN, mRetV, mSet, mSetIx, mExpr, mB, mU, mTm, mPl, mK, mVar, mOp, mCons, mNil, bor, bors, mTst, mAndT, mOrT, mNotT, mAndE, mOrE, mNotE, mIfE, mIsi, isiD, mChn, chnL, cmpD, binD, addD, subD, mulD, modD, fdivD, powD, eqD, neD, ltD, leD, gtD, geD, isD, isnD, L2.M.isNon, negD, ixD, Bf.f, Bg.f, lenD, L2.M.intD, maxD, minD, repD, strD, gmaxD, gminD, sumD, sortD, anyD, allD, mCall, frz, fzO, lend, wb, mTup, mLst, fzs, cD, mAsg, bTup, bTps, mApp, tupD, lstD, mRev, revD, ofs_inj, ee_ii, ee_ss, ee_bb, ee_nn, ee_is, ee_si, ee_in, ee_ni, ee_tt, ee_ll, ee_maps, ee_0, ee_1, ee_2, ee_3, at_lit, at_nat, at_m1, at_m2, scD, emD, sizeLine_eq, ixN, sm_lit, mSrc, itemsD, plOf, rng1D, bNm, mSl, mPt, mNoP, slD, mPar, keepT, tmsO, setA, mFlow, zipX, enumX, itemsX, intsOf, ints_all, boolsOf, shaped_lay, lay_int, lay_bool, lay_none, lay_dict, lay_tup, lay_list, lay_ints, sortX_ints, mPlF, mPlI, mRd, mPU, mPB, mFSet, mFNew, mNSet, mPApp, mPSetIx, mPPop, mMeth, mNew, isIns, cellO, mLstN, mAddN, mAppN, semX, mTold, mCallX, mMethX, xFSet, mMethP, oneC, xRet, xExpr, xSet, mRaise, mM, isL, isS, mOrV, truD])
local macro_rules | `(tactic| walk_at "es") => `(tactic| simp [semF, shared, after, mSeq, mSkip, mIf, mRet, mRetN, mRetV, mSet, mSetIx, mExpr, mB, mU, mTm, mPl, mK, mVar, mOp, mCons, mNil, bor, bors, mTst, mAndT, mOrT, mNotT, mAndE, mOrE, mNotE, mIfE, mIsi, isiD, mChn, chnL, cmpD, binD, addD, subD, mulD, modD, fdivD, powD, eqD, neD, ltD, leD, gtD, geD, isD, isnD, L2.M.isNon, negD, ixD, Bf.f, Bg.f, lenD, L2.M.intD, maxD, minD, repD, strD, gmaxD, gminD, sumD, sortD, anyD, allD, mCall, frz, fzO, lend, wb, mTup, mLst, fzs, cD, mAsg, bTup, bTps, mApp, tupD, lstD, mRev, revD, ofs_inj, ee_ii, ee_ss, ee_bb, ee_nn, ee_is, ee_si, ee_in, ee_ni, ee_tt, ee_ll, ee_maps, ee_0, ee_1, ee_2, ee_3, at_lit, at_nat, at_m1, at_m2, scD, emD, sizeLine_eq, ixN, sm_lit, mSrc, itemsD, plOf, rng1D, bNm, mSl, mPt, mNoP, slD, mPar, keepT, tmsO, setA, mFlow, zipX, enumX, itemsX, intsOf, ints_all, boolsOf, shaped_lay, lay_int, lay_bool, lay_none, lay_dict, lay_tup, lay_list, lay_ints, sortX_ints, mPlF, mPlI, mRd, mPU, mPB, mFSet, mFNew, mNSet, mPApp, mPSetIx, mPPop, mMeth, mNew, isIns, cellO, mLstN, mAddN, mAppN, semX, mTold, mCallX, mMethX, xFSet, mMethP, oneC, xRet, xExpr, xSet, mRaise, mM, isL, isS, mOrV, truD, *])
local macro_rules | `(tactic| walk_at "el") => `(tactic| simp [semF, shared, after, mSeq, mSkip, mIf, mRet, mRetN, mRetV, mSet, mSetIx, mExpr, mB, mU, mTm, mPl, mK, mVar, mOp, mCons, mNil, bor, bors, mTst, mAndT, mOrT, mNotT, mAndE, mOrE, mNotE, mIfE, mIsi, isiD, mChn, chnL, cmpD, binD, addD, subD, mulD, modD, fdivD, powD, eqD, neD, ltD, leD, gtD, geD, isD, isnD, L2.M.isNon, negD, ixD, Bf.f, Bg.f, lenD, L2.M.intD, maxD, minD, repD, strD, gmaxD, gminD, sumD, sortD, anyD, allD, mCall, frz, fzO, lend, wb, mTup, mLst, fzs, cD, mAsg, bTup, bTps, mApp, tupD, lstD, mRev, revD, ofs_inj, ee_ii, ee_ss, ee_bb, ee_nn, ee_is, ee_si, ee_in, ee_ni, ee_tt, ee_ll, ee_maps, ee_0, ee_1, ee_2, ee_3, at_lit, at_nat, at_m1, at_m2, scD, emD, sizeLine_eq, ixN, sm_lit, mSrc, itemsD, plOf, rng1D, bNm, mSl, mPt, mNoP, slD, mPar, keepT, tmsO, setA, mFlow, zipX, enumX, itemsX, intsOf, ints_all, boolsOf, shaped_lay, lay_int, lay_bool, lay_none, lay_dict, lay_tup, lay_list, lay_ints, sortX_ints, mPlF, mPlI, mRd, mPU, mPB, mFSet, mFNew, mNSet, mPApp, mPSetIx, mPPop, mMeth, mNew, isIns, cellO, mLstN, mAddN, mAppN, semX, mTold, mCallX, mMethX, xFSet, mMethP, oneC, xRet, xExpr, xSet, mRaise, mM, isL, isS, mOrV, truD, mLc, lcL, sameC, wipeC, restC, mYes, *])
local macro_rules | `(tactic| walk_at "ef") => `(tactic| simp [semF, shared, after, mSeq, mSkip, mIf, mRet, mRetN, mRetV, mSet, mSetIx, mExpr, mB, mU, mTm, mPl, mK, mVar, mOp, mCons, mNil, bor, bors, mTst, mAndT, mOrT, mNotT, mAndE, mOrE, mNotE, mIfE, mIsi, isiD, mChn, chnL, cmpD, binD, addD, subD, mulD, modD, fdivD, powD, eqD, neD, ltD, leD, gtD, geD, isD, isnD, L2.M.isNon, negD, ixD, Bf.f, Bg.f, lenD, L2.M.intD, maxD, minD, repD, strD, gmaxD, gminD, sumD, sortD, anyD, allD, mCall, frz, fzO, lend, wb, mTup, mLst, fzs, cD, mAsg, bTup, bTps, mApp, tupD, lstD, mRev, revD, ofs_inj, ee_ii, ee_ss, ee_bb, ee_nn, ee_is, ee_si, ee_in, ee_ni, ee_tt, ee_ll, ee_maps, ee_0, ee_1, ee_2, ee_3, at_lit, at_nat, at_m1, at_m2, scD, emD, sizeLine_eq, ixN, sm_lit, mSrc, itemsD, plOf, rng1D, bNm, mSl, mPt, mNoP, slD, mPar, keepT, tmsO, setA, mFlow, zipX, enumX, itemsX, intsOf, ints_all, boolsOf, shaped_lay, lay_int, lay_bool, lay_none, lay_dict, lay_tup, lay_list, lay_ints, sortX_ints, mPlF, mPlI, mRd, mPU, mPB, mFSet, mFNew, mNSet, mPApp, mPSetIx, mPPop, mMeth, mNew, isIns, cellO, mLstN, mAddN, mAppN, semX, mTold, mCallX, mMethX, xFSet, mMethP, oneC, xRet, xExpr, xSet, mRaise, mM, isL, isS, mOrV, truD, mFor, forL, mLc, lcL, sameC, wipeC, restC, mYes, *])
local macro_rules | `(tactic| walk_at "rg") => `(tactic| (and_intros <;> grind))
local macro_rules | `(tactic| walk_at "nx") => `(tactic| (apply wx_nx; focus (walk_at "ev"; try first | exact ⟨rfl, rfl⟩ | rfl)))
local macro_rules | `(tactic| walk_at "ns") => `(tactic| (apply wx_nx; focus (walk_at "es"; try first | exact ⟨rfl, rfl⟩ | rfl)))
local macro_rules | `(tactic| walk_at "rt") => `(tactic| (apply wx_rt; focus (walk_at "ev"; try first | exact ⟨rfl, rfl⟩ | rfl)))
local macro_rules | `(tactic| walk_at "rs") => `(tactic| (apply wx_rt; focus (walk_at "es"; try first | exact ⟨rfl, rfl⟩ | rfl)))
local macro_rules | `(tactic| walk_at "ed") => `(tactic| simp [semF, shared, after, mSeq, mSkip, mIf, mRet, mRetN, mRetV, mSet, mSetIx, mExpr, mB, mU, mTm, mPl, mK, mVar, mOp, mCons, mNil, bor, bors, mTst, mAndT, mOrT, mNotT, mAndE, mOrE, mNotE, mIfE, mIsi, isiD, mChn, chnL, cmpD, binD, addD, subD, mulD, modD, fdivD, powD, eqD, neD, ltD, leD, gtD, geD, isD, isnD, L2.M.isNon, negD, ixD, Bf.f, Bg.f, lenD, L2.M.intD, maxD, minD, repD, strD, gmaxD, gminD, sumD, sortD, anyD, allD, mCall, frz, fzO, lend, wb, mTup, mLst, fzs, cD, mAsg, bTup, bTps, mApp, tupD, lstD, mRev, revD, ofs_inj, ee_ii, ee_ss, ee_bb, ee_nn, ee_is, ee_si, ee_in, ee_ni, ee_tt, ee_ll, ee_maps, ee_0, ee_1, ee_2, ee_3, at_lit, at_nat, at_m1, at_m2, scD, emD, sizeLine_eq, ixN, sm_lit, mSrc, itemsD, plOf, rng1D, bNm, mSl, mPt, mNoP, slD, mPar, keepT, tmsO, setA, mFlow, zipX, enumX, itemsX, intsOf, ints_all, boolsOf, shaped_lay, lay_int, lay_bool, lay_none, lay_dict, lay_tup, lay_list, lay_ints, sortX_ints, mPlF, mPlI, mRd, mPU, mPB, mFSet, mFNew, mNSet, mPApp, mPSetIx, mPPop, mMeth, mNew, isIns, cellO, mLstN, mAddN, mAppN, semX, mTold, mCallX, mMethX, xFSet, mMethP, oneC, xRet, xExpr, xSet, mRaise, mM, isL, isS, mOrV, truD, mDNew, mDIn, mDGet, mDLen, mDPut, kyD, mNNew, mN1, mTake, mFnV, mCallF, mNIn, mNGet, mNPut, mNVals, mNList, nKs, mDGetD, mDList, mNNe, *])
theorem law_true (ns : List Int) (hl : ns.length ≤ 63) : ∃ cs', semF [false] 9 m_law [.sh (.list (ns.map PyData.int))] = some (.sh (.bool true), cs') := by
  have main : Rt (semF [false] 9 m_law [.sh (.list (ns.map PyData.int))]) fun c _ => c = .sh (.bool true) := by
    unfold m_law
    apply rt_sem rfl
    apply wx_seq
    apply wx_each (ds := (PyData.int (ns.getD 0 0)) :: (L2.M.cutL ns (some 1) (some 2)).map PyData.int) (ε1 := [.sh (.list (ns.map PyData.int)), .no, .no, .no, .no, .no, .no, .no, .no]) fun ε => ∃ c1 c2 c3 c4 c5 c6 c7 c8, ε = [.sh (.list (ns.map PyData.int)), c1, c2, c3, c4, c5, c6, c7, c8]
    · have hz := cut_len ns (some 1) (some 2)
      have h6 : 1 + (L2.M.cutL ns (some 1) (some 2)).length ≤ 16777216 := by omega
      have h7 : (L2.M.cutL ns (some 1) (some 2)).length + 1 ≤ 16777216 := by omega
      have h8 : (L2.M.cutL ns (some 1) (some 2)).length ≤ 16777215 := by omega
      have h9 := @cut_map
      walk_at "es"
    · exact ⟨_, _, _, _, _, _, _, _, rfl⟩
    · rintro d ε hd ⟨c1, c2, c3, c4, c5, c6, c7, c8, rfl⟩
      obtain ⟨x, rfl⟩ := cells_int ns 2 d hd
      clear hd hl
      generalize PyData.list (ns.map PyData.int) = sc
      refine ⟨_, rfl, ?_⟩
      walk_at "nx"
      obtain ⟨_, _, e1, F, R, T, M, N, p1, G1, rfl, rfl⟩ := law_small_gate_eq (pnOf x)
      apply wx_nx (ε1 := [.sh sc, .sh (.int x), .ls (penL p1), .sh (gt5 F R T M N), c4, c5, c6, c7, c8])
      · clear G1
        generalize gt5 F R T M N = GG at *
        generalize g_law_small_gate = SG at *
        walk_at "es"
      clear e1
      obtain ⟨_, p2, ⟨F2, R2, T2, M2, N2, G2, rfl⟩, e2⟩ := other_eq p1 ⟨F, R, T, M, N, G1, rfl⟩ (.sh sc) (.sh (.int x)) c4 c5 c6 c7 c8
      apply wx_nx e2
      apply wx_nx (gates_eq _ _ _ _ _ _ _ _ _)
      apply wx_nx (kept_eq _ _ _ _ _ _ _ _ _)
      clear e2
      apply wx_seq
      apply wx_for (ds := rangeD 0 1 80) (ws := []) (ε1 := [.sh sc, .sh (.int x), .ls (penL p2), .sh (gt5 F R T M N), .sh (gt5 F2 R2 T2 M2 N2), .ob .ls [gC (gt5 F R T M N) (Sg.op 0).d 0, gC (gt5 F2 R2 T2 M2 N2) (Sg.op 0).d 0], .ob .ls [.ls [gt5 F R T M N, (Sg.op 0).d, .int 0], .ls [gt5 F2 R2 T2 M2 N2, (Sg.op 0).d, .int 0]], c7, c8]) (fun i ε => ∃ (p : Pn) (z1 z2 : Sg) (L1 L2 : Int) (c7 c8 : C), SgV F R M N z1 ∧ SgV F2 R2 M2 N2 z2 ∧ (0 ≤ L1 ∧ L1 ≤ 1000000) ∧ (0 ≤ L2 ∧ L2 ≤ 1000000) ∧ ε = [.sh sc, .sh (.int x), .ls (penL p), .sh (gt5 F R T M N), .sh (gt5 F2 R2 T2 M2 N2), .ob .ls [gC (gt5 F R T M N) z1.d L1, gC (gt5 F2 R2 T2 M2 N2) z2.d L2], .ob .ls [.ls [gt5 F R T M N, z1.d, .int L1], .ls [gt5 F2 R2 T2 M2 N2, z2.d, .int L2]], c7, c8])
      · exact src_f (d := .int 80) rfl rfl
      · rfl
      · exact ⟨p2, .op 0, .op 0, 0, 0, c7, c8, ⟨by omega, by have := G1.f1; omega⟩, ⟨by omega, by have := G2.f1; omega⟩, ⟨by omega, by omega⟩, ⟨by omega, by omega⟩, rfl⟩
      · intro i ε _ j hj
        cases hj
      · rintro i d ε _ ⟨p, z1, z2, L1, L2, c7, c8, v1, v2, b1, b2, rfl⟩
        refine ⟨[.sh sc, .sh (.int x), .ls (penL p), .sh (gt5 F R T M N), .sh (gt5 F2 R2 T2 M2 N2), .ob .ls [gC (gt5 F R T M N) z1.d L1, gC (gt5 F2 R2 T2 M2 N2) z2.d L2], .ob .ls [.ls [gt5 F R T M N, z1.d, .int L1], .ls [gt5 F2 R2 T2 M2 N2, z2.d, .int L2]], .sh d, c8], rfl, ?_⟩
        have ha := dr_ab p 2 (by decide)
        apply wx_nx (ε1 := [.sh sc, .sh (.int x), .ls (penL (dn p 2)), .sh (gt5 F R T M N), .sh (gt5 F2 R2 T2 M2 N2), .ob .ls [gC (gt5 F R T M N) z1.d L1, gC (gt5 F2 R2 T2 M2 N2) z2.d L2], .ob .ls [.ls [gt5 F R T M N, z1.d, .int L1], .ls [gt5 F2 R2 T2 M2 N2, z2.d, .int L2]], .sh d, .sh (.int (dr p 2))])
        · clear v1 v2 b1 b2 ha
          generalize C.ob .ls [gC (gt5 F R T M N) z1.d L1, gC (gt5 F2 R2 T2 M2 N2) z2.d L2] = A1
          generalize C.ob .ls [.ls [gt5 F R T M N, z1.d, .int L1], .ls [gt5 F2 R2 T2 M2 N2, z2.d, .int L2]] = A2
          generalize C.sh (gt5 F R T M N) = A3
          generalize C.sh (gt5 F2 R2 T2 M2 N2) = A4
          walk_at "ev"
        have h : dr p 2 = 0 ∨ dr p 2 = 1 := by omega
        generalize dr p 2 = at1 at *
        generalize dn p 2 = p' at *
        clear ha
        obtain ⟨r1, q1⟩ := sg_repr (SgV.b G1 v1)
        obtain ⟨r2, q2⟩ := sg_repr (SgV.b G2 v2)
        rcases h with rfl | rfl
        · obtain ⟨_, _, e, rfl, z', L', p3, v', l0, l1, rfl⟩ := deed_eq G1 v1 b1.1 b1.2 p'
          apply wx_nx (cl_0 e _ _ _ _ _)
          apply wx_nx (st_0 q2 _ _ _ _ _ _ _)
          exact wx_skip ⟨p3, z', z2, L', L2, _, _, v', v2, ⟨l0, l1⟩, b2, rfl⟩
        · obtain ⟨_, _, e, rfl, z', L', p3, v', l0, l1, rfl⟩ := deed_eq G2 v2 b2.1 b2.2 p'
          apply wx_nx (cl_1 e _ _ _ _ _)
          apply wx_nx (st_1 q1 _ _ _ _ _ _ _)
          exact wx_skip ⟨p3, z1, z', L1, L', _, _, v1, v', b1, ⟨l0, l1⟩, rfl⟩
      · rintro ε ⟨p, z1, z2, L1, L2, c7, c8, v1, v2, b1, b2, rfl⟩
        exact wx_skip ⟨_, _, _, _, _, _, _, _, rfl⟩
    · rintro ε ⟨c1, c2, c3, c4, c5, c6, c7, c8, rfl⟩
      walk_at "rt"
      rfl
  obtain ⟨c, cs, e, rfl⟩ := main
  exact ⟨cs, e⟩
end KW
theorem PySem.Challenge.cw_knockpurse_k49_gates_that_keep_their_sta_holds : PySem.Challenge.rw_knockpurse_k49_gates_that_keep_their_sta.Holds :=
  KW.pre KW.law_true
